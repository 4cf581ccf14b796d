import PyProof.Rows.All
import Wide.All
import OpenK.AllK
import Wide.FinOn
import PySem.Challenge.RW_nz0251_01
set_option Elab.async false
set_option maxRecDepth 100000
set_option maxHeartbeats 0
namespace Mine51
open PySem PySem.W PyProof.Rows

/-! ## The head with no written states: one run of the top over a tree state -/

/-- a tree out of a list, or none where a place is not got -/
noncomputable def treeOf : List Obj → BT → Nat → Option BT
  | [], t, _ => some t
  | o :: r, t, n => match ((t.ins n o).get n).isSome with
    | true => treeOf r (t.ins n o) (n + 1)
    | false => none
theorem treeOf_abs (life : Life) : ∀ (l : List Obj) (t : BT) (n : Nat) (t' : BT), treeOf l t n = some t' → absHeap t' (n + l.length) life = ⟨(absHeap t n life).objs ++ l.toArray, life⟩
  | [], t, n, t', h => by
    obtain rfl : t = t' := by simpa [treeOf] using h
    show absHeap t n life = _
    show Heap.mk _ _ = Heap.mk _ _
    simp [absHeap]
  | o :: r, t, n, t', h => by
    unfold treeOf at h
    cases hg : ((t.ins n o).get n).isSome with
    | false => rw [hg] at h; cases h
    | true =>
      rw [hg] at h
      have ih := treeOf_abs life r _ _ _ h
      rw [absHeap_ins hg] at ih
      rw [List.length_cons, show n + (r.length + 1) = n + 1 + r.length by omega, ih]
      show Heap.mk _ _ = Heap.mk _ _
      congr 1
      show (Heap.push (absHeap t n life) o).objs ++ r.toArray = _
      unfold Heap.push
      simp
noncomputable def toT (s : Shared) : Option SharedT := match treeOf s.heap.objs.toList .nil 0 with
  | some t => some ⟨t, 0 + s.heap.objs.toList.length, s.heap.life, s.gens, s.drawn, s.toks, s.os⟩
  | none => none
theorem toT_abs {s : Shared} {S : SharedT} (h : toT s = some S) : S.abs = s := by
  unfold toT at h
  cases ht : treeOf s.heap.objs.toList .nil 0 with
  | none => rw [ht] at h; cases h
  | some t =>
    rw [ht] at h
    cases h
    have e := treeOf_abs s.heap.life _ _ _ _ ht
    show Shared.mk _ _ _ _ _ = s
    rw [e]
    obtain ⟨⟨objs, life⟩, g, d, k, os⟩ := s
    show Shared.mk ⟨(absHeap BT.nil 0 life).objs ++ objs.toList.toArray, life⟩ _ _ _ _ = _
    congr 2
    simp [absHeap, BT.list]

noncomputable abbrev TopRunF := (String → Option Builtin) → Program → World → Nat → Option Value → Nat → Shared → Thread → Option Shared
noncomputable abbrev TopGoF := (String → Option Builtin) → Program → World → Nat → Option Value → Nat → Shared → Thread → Option (Shared × Thread)
noncomputable abbrev SegRunF := (String → Option Builtin) → Program → World → Nat → Option Value → Nat → Nat → Shared → Thread → Option (Flow × Shared × Code × Pos)
noncomputable abbrev SegRunTF := (String → Option Builtin) → Program → World → Nat → Option Value → Nat → Nat → SharedT → Thread → Option (Flow × SharedT × Code × Pos)

/-- the top's run: the first steps, the block's start, the statements over a tree, the last steps -/
noncomputable def oneRun (tgo : TopGoF) (sr : SegRunF) (srT : SegRunTF) (tr : TopRunF) (tb : String → Option Builtin) (p : Program) (m : Nat) (ann : Option Value) (b : List Stmt) (env : Env) (q : Pos) (n1 n2 n3 n4 : Nat) (s₀ : Shared) (w : World) : Option (Thread × Flow × Code × Flow × Code × Shared) :=
  match tgo tb p w m ann n1 s₀ (topStub p) with
  | none => none
  | some (s, t) => match sr tb p w m ann 1 n2 s (blockOf b env (.body b env) q [topFrame q]) with
    | none => none
    | some (f1, s, c1, p1) => match toT s with
      | none => none
      | some S => match srT tb p w m ann 1 n3 S (piecesOf b env (.body b env) p1 [topFrame q]) with
        | none => none
        | some (f2, S2, c2, p2) => match tr tb p w m ann n4 S2.abs ⟨doneF .next, .body b env, p2, [topFrame q]⟩ with
          | none => none
          | some s => some (t, f1, c1, f2, c2, s)

theorem oneRun_top {p : Program} {m : Nat} {ann : Option Value} {b : List Stmt} {env : Env} {q : Pos} {n1 n2 n3 n4 : Nat} {s₀ s : Shared} {w : World}
    (h : oneRun topGo segRun segRunT topRun treeTable p m ann b env q n1 n2 n3 n4 s₀ w = some (⟨denote treeTable (.body b env), .body b env, q, [topFrame q]⟩, .next, .body b env, .next, .body b env, s)) :
    topRun treeTable p w m ann (n1 + (n2 + (n3 + n4))) s₀ (topStub p) = some s := by
  unfold oneRun at h
  split at h
  · cases h
  · rename_i s1 t1 h1
    split at h
    · cases h
    · rename_i f1 s2 c1 p1 h2
      split at h
      · cases h
      · rename_i S hS
        split at h
        · cases h
        · rename_i f2 S2 c2 p2 h3
          split at h
          · cases h
          · rename_i s3 h4
            simp only [Option.some.injEq, Prod.mk.injEq] at h
            obtain ⟨rfl, rfl, rfl, rfl, rfl, rfl⟩ := h
            have a3 := segRun_of h3
            rw [toT_abs hS] at a3
            have a4 := piece_app (env := env) (q := q) (rest := []) (N := n4) a3 (piece_nil h4)
            rw [List.append_nil] at a4
            exact go_top h1 (piece_block h2 a4)

theorem left_one {p q : Program} {loose : List Str} {Xt : Shared → Bool} {α : Type} {Yf : Shared → α} {Ya : World → α} {N m : Nat} {ann : Option Value} {b : List Stmt} {env : Env} {qp : Pos} {n1 n2 n3 n4 : Nat}
    (open_ : ∀ w : World, (fencedOpening treeTable p w N).map (fun s => (s.heap, s.gens, s.drawn, s.toks)) = some (boot_heap w.params, Array.mk [], boot_drawn, boot_toks))
    (size : ∀ w : World, ((boot_heap w.params).isNs mainGlobals, (boot_heap w.params).objs.size, (boot_heap w.params).nsMap mainGlobals "__annotations__") = (true, m, ann))
    (run : ∀ w : World, (fun os => (oneRun topGo segRun segRunT topRun treeTable p m ann b env qp n1 n2 n3 n4 ⟨boot_heap w.params, Array.mk [], boot_drawn, boot_toks, os⟩ w).map fun x => (x.1, x.2.1, x.2.2.1, x.2.2.2.1, x.2.2.2.2.1,
        (staticsOk (importedModules p.main.body) (boot_heap w.params) x.2.2.2.2.2.heap && namesBound p x.2.2.2.2.2.heap && gensDone x.2.2.2.2.2 && laidKept (boot_heap w.params) x.2.2.2.2.2.heap),
        openSeen q loose (importedModules p.main.body) Xt true x.2.2.2.2.2, Yf x.2.2.2.2.2)) =
      fun _ => some (⟨denote treeTable (.body b env), .body b env, qp, [topFrame qp]⟩, .next, .body b env, .next, .body b env, true, openGood q loose, Ya w))
    (le : Nat.ble (n1 + (n2 + (n3 + n4))) N = true) : LeftO p q loose Xt Yf Ya N := fun w => by
  obtain ⟨⟨h, gs, d, k, os⟩, e, e'⟩ := Option.map_eq_some_iff.mp (open_ w)
  obtain ⟨rfl, rfl, rfl, rfl⟩ : h = boot_heap w.params ∧ gs = Array.mk [] ∧ d = boot_drawn ∧ k = boot_toks := by simpa using e'
  obtain ⟨z1, z2, z3⟩ : _ ∧ _ ∧ _ := by simpa only [Prod.mk.injEq] using size w
  obtain ⟨⟨t, f1, c1, f2, c2, s⟩, hr, he⟩ := Option.map_eq_some_iff.mp (congrFun (run w) os)
  simp only [Prod.mk.injEq] at he
  obtain ⟨rfl, rfl, rfl, rfl, rfl, l1, l2, l3⟩ := he
  have r := topRun_mono (N - (n1 + (n2 + (n3 + n4)))) _ _ _ _ (oneRun_top hr)
  rw [show n1 + (n2 + (n3 + n4)) + (N - (n1 + (n2 + (n3 + n4)))) = N by have := Nat.le_of_ble_eq_true le; omega] at r
  have t : topFrom treeTable p w N ⟨boot_heap w.params, Array.mk [], boot_drawn, boot_toks, os⟩ = some s := by
    unfold topFrom
    dsimp only
    rw [z1, z2, z3, r]
    show (match staticsOk (importedModules p.main.body) (boot_heap w.params) s.heap && namesBound p s.heap && gensDone s && laidKept (boot_heap w.params) s.heap with | true => _ | false => _) = _
    rw [l1]
  unfold openEnds
  rw [e]
  show (topFrom treeTable p w N _).map _ = _
  rw [t]
  exact congrArg some (Prod.ext l2 l3)


/-! ## This row's head -/
section
local macro_rules | `(tactic| o_head $_) => `(tactic| assumption)
/-- here the written part of the heap is made: kmake.heap_1 -/
theorem kmake (h : PySem.Challenge.rw_nz0251_01.row.Holds) : PySem.Challenge.rw_nz0251_01.row.Holds := by k_head
noncomputable abbrev asK : List Addr := [2, 3, 15, 17, 18, 20, 21, 22, 29, 31, 32, 34, 35, 36, 37, 38, 39, 42, 49, 50, 51, 54, 61, 62, 63, 66, 68, 69, 71, 72, 80, 82, 83, 85, 86, 87, 88, 89, 90, 91, 94, 96, 97, 99, 100, 101, 103, 104, 106, 107, 108, 110, 111, 113, 114, 115, 117, 118, 120, 121, 122, 124, 125, 127, 128, 136, 137, 139, 140, 142, 143, 144, 145, 146, 147, 148, 158, 160, 161, 163, 164, 165, 167, 168, 170, 171, 172, 174, 175, 177, 178, 179, 180, 181, 182, 183, 193, 195, 196, 198, 199, 200, 201, 202, 203, 204, 207, 210, 211, 212, 214, 215, 217, 218, 226, 228, 229, 231, 232, 233, 234, 235, 236, 237, 247, 249, 250, 252, 253, 254, 257, 258, 259, 262, 263, 264, 266, 267, 269, 270, 271, 273, 274, 276, 277, 278, 280, 281, 283, 284, 285, 287, 288, 290, 291, 292, 294, 295, 297, 298, 299, 300, 301, 302, 303, 306, 307, 309, 310, 312, 313, 314, 316, 317, 319, 320, 321, 323, 324, 326, 327, 328, 330, 331, 333, 334, 335, 337, 338, 340, 341, 342, 344, 345, 347, 348, 349, 352, 353, 354, 357, 358]
noncomputable def keptRows : List Nat := [0, 2, 3, 4, 6, 8, 9, 10, 11, 12, 13, 14, 15, 16, 17, 19, 21, 22, 24, 26, 27, 28, 30, 31, 32, 34, 35, 36, 38, 39, 40, 41, 42, 43, 44]
noncomputable def vw : Program := view PySem.Challenge.pw_nz0251_01 keptRows
noncomputable def topEnv : Env := { scope := PySem.Challenge.pw_nz0251_01.main.scope, locals := mainNs, globals := mainNs, cells := [], code := Value.ref 13, frame := some 14 }
noncomputable abbrev looseL : List Str := [Str.ofString "Piece", Str.ofString "ADOBE_grid_read", Str.ofString "ADOBE_grid_write", Str.ofString "TRANSFORMS"]
noncomputable abbrev readL : List (Str × WData) := [(Str.ofString "ADOBE_grid_read", WData.int 238), (Str.ofString "ADOBE_grid_write", WData.int 238)]
noncomputable abbrev XtL : Shared → Bool := fun s => xlAt vw readL s && recOk (RowW.records PySem.Challenge.rw_nz0251_01.row.toRowW) s
noncomputable def RunSays (w : World) : Prop :=
  (fun os => (oneRun topGo segRun segRunT topRun treeTable PySem.Challenge.pw_nz0251_01 11 (some (.ref 6)) (behindTheImports PySem.Challenge.pw_nz0251_01) topEnv ⟨0, 0, 0, 0⟩ 12 1 3043 2 ⟨boot_heap w.params, Array.mk [], boot_drawn, boot_toks, os⟩ w).map fun x => (x.1, x.2.1, x.2.2.1, x.2.2.2.1, x.2.2.2.2.1,
      (staticsOk (importedModules PySem.Challenge.pw_nz0251_01.main.body) (boot_heap w.params) x.2.2.2.2.2.heap && namesBound PySem.Challenge.pw_nz0251_01 x.2.2.2.2.2.heap && gensDone x.2.2.2.2.2 && laidKept (boot_heap w.params) x.2.2.2.2.2.heap),
      openSeen vw looseL (importedModules PySem.Challenge.pw_nz0251_01.main.body) XtL true x.2.2.2.2.2, List.map (Heap.get? x.2.2.2.2.2.heap) asK)) =
    fun _ => some (⟨denote treeTable (.body (behindTheImports PySem.Challenge.pw_nz0251_01) topEnv), .body (behindTheImports PySem.Challenge.pw_nz0251_01) topEnv, ⟨0, 0, 0, 0⟩, [topFrame ⟨0, 0, 0, 0⟩]⟩, .next, .body (behindTheImports PySem.Challenge.pw_nz0251_01) topEnv, .next, .body (behindTheImports PySem.Challenge.pw_nz0251_01) topEnv, true, openGood vw looseL,
      List.map (fun p : Addr × Obj => some p.2) (kmake.heap_1 w.params))
theorem run_false (w : World) : RunSays (w.withFollow "special-get-raises" false) := by
  unfold RunSays
  rw [PySem.W.Fast.te11892475500146522536, PySem.W.Fast.te10110043849684766642, PySem.W.Fast.te14374325043358763698, PySem.W.Fast.te15667345088766844465, PySem.W.Fast.te14082659384304107361, PySem.W.Fast.te4187177175401517315, PySem.W.Fast.te14364793385576792824]
  kernel_rfl
theorem run_true (w : World) : RunSays (w.withFollow "special-get-raises" true) := by
  unfold RunSays
  rw [PySem.W.Fast.te11892475500146522536, PySem.W.Fast.te10110043849684766642, PySem.W.Fast.te14374325043358763698, PySem.W.Fast.te15667345088766844465, PySem.W.Fast.te14082659384304107361, PySem.W.Fast.te4187177175401517315, PySem.W.Fast.te14364793385576792824]
  kernel_rfl
theorem top_left : LeftO PySem.Challenge.pw_nz0251_01 vw looseL XtL (fun s : Shared => List.map (Heap.get? s.heap) asK) (fun w => List.map (fun p : Addr × Obj => some p.2) (kmake.heap_1 w.params)) 6210 :=
  left_one (boot_open (by kernel_rfl) (by decide +kernel) (fun s => by kernel_rfl)) (fun w => by kernel_rfl) (byRow2 "special-get-raises" (P := RunSays) run_false run_true) (by decide +kernel)


noncomputable abbrev hookK : Hook := kHook kmake.heap_1 asK (fun _ => by kernel_rfl)

end
theorem fillK : (∀ P, (kmake.heap_1 P).length = (kmake.heap_1 P).length) ∧ PySem.Challenge.rw_nz0251_01 = PySem.Challenge.rw_nz0251_01 := by k_fill; exact ⟨fun _ => rfl, rfl⟩
noncomputable abbrev pg51 : Program := PySem.Challenge.rw_nz0251_01.row.prog
noncomputable abbrev srcObj (x : Int) (tx : Tok) (y : Int) (ty : Tok) (n : Nat) : Obj := listOf #[Value.int x tx, Value.int y ty] n

theorem news_f1 {h₀ h : Heap} {L : Addr} {a s : Addr × Obj} {r : List (Addr × Obj)} (N : News h₀ L h (a :: s :: r)) : News h₀ L h (s :: a :: r) := fun p hp => N p (by
  simp only [List.mem_cons] at hp ⊢; rcases hp with h | h | h <;> simp [h])
theorem news_f2 {h₀ h : Heap} {L : Addr} {a b s : Addr × Obj} {r : List (Addr × Obj)} (N : News h₀ L h (a :: b :: s :: r)) : News h₀ L h (s :: a :: b :: r) := fun p hp => N p (by
  simp only [List.mem_cons] at hp ⊢; rcases hp with h | h | h | h <;> simp [h])
theorem news_f3 {h₀ h : Heap} {L : Addr} {a b c s : Addr × Obj} {r : List (Addr × Obj)} (N : News h₀ L h (a :: b :: c :: s :: r)) : News h₀ L h (s :: a :: b :: c :: r) := fun p hp => N p (by
  simp only [List.mem_cons] at hp ⊢; rcases hp with h | h | h | h | h <;> simp [h])
theorem news_f4 {h₀ h : Heap} {L : Addr} {a b c d s : Addr × Obj} {r : List (Addr × Obj)} (N : News h₀ L h (a :: b :: c :: d :: s :: r)) : News h₀ L h (s :: a :: b :: c :: d :: r) := fun p hp => N p (by
  simp only [List.mem_cons] at hp ⊢; rcases hp with h | h | h | h | h | h <;> simp [h])
theorem news_f5 {h₀ h : Heap} {L : Addr} {a b c d e s : Addr × Obj} {r : List (Addr × Obj)} (N : News h₀ L h (a :: b :: c :: d :: e :: s :: r)) : News h₀ L h (s :: a :: b :: c :: d :: e :: r) := fun p hp => N p (by
  simp only [List.mem_cons] at hp ⊢; rcases hp with h | h | h | h | h | h | h <;> simp [h])
theorem news_f6 {h₀ h : Heap} {L : Addr} {a1 a2 a3 a4 a5 a6 s : Addr × Obj} {r : List (Addr × Obj)} (N : News h₀ L h (a1 :: a2 :: a3 :: a4 :: a5 :: a6 :: s :: r)) : News h₀ L h (s :: a1 :: a2 :: a3 :: a4 :: a5 :: a6 :: r) := fun p hp => N p (by
  simp only [List.mem_cons] at hp ⊢; rcases hp with h | h | h | h | h | h | h | h <;> simp [h])
theorem atRef (n : Nat) {P A as Q E s} (h : wpAny P A (call (.ref n) as) Q E s) : wpAny P A (call (.ref n) as) Q E s := h
theorem atLen {P A r Q E s} (h : wpAny P A (call (.builtin "len") [.ref r]) Q E s) : wpAny P A (call (.builtin "len") [.ref r]) Q E s := h
theorem atItem {P A a b r i t Q E s} (h : wpAny P A (subscriptTail a b (.ref r) (.int i t)) Q E s) : wpAny P A (subscriptTail a b (.ref r) (.int i t)) Q E s := h
theorem atSlice {P A a x y z b t r Q E s} (h : wpAny P A (subscriptTail a (Expr.Slice x y none z) (.bytes b t) (.ref r)) Q E s) : wpAny P A (subscriptTail a (Expr.Slice x y none z) (.bytes b t) (.ref r)) Q E s := h
theorem atByte {P A a x b t i u Q E s} (h : wpAny P A (subscriptTail a x (.bytes b t) (.int i u)) Q E s) : wpAny P A (subscriptTail a x (.bytes b t) (.int i u)) Q E s := h
theorem atGet {P A r i t b u Q E s} (h : wpAny P A (call (.builtin "dict.get") [.ref r, .int i t, .str b u]) Q E s) : wpAny P A (call (.builtin "dict.get") [.ref r, .int i t, .str b u]) Q E s := h
theorem atRaise {P A c x z p e Q E s} (h : wpAny P A (exec (.Raise (some (.Call (.Name ("SegmentError" : Str) c) x [] z)) none p) e) Q E s) : wpAny P A (exec (.Raise (some (.Call (.Name ("SegmentError" : Str) c) x [] z)) none p) e) Q E s := h
theorem atComp1 {P A x n c i b z t e Q E s} (h : wpAny P A (eval (.ListComp x [⟨.Name n c, i, [], b⟩] z t) e) Q E s) : wpAny P A (eval (.ListComp x [⟨.Name n c, i, [], b⟩] z t) e) Q E s := h
theorem atComp2 {P A x n c d i b z t e Q E s} (h : wpAny P A (eval (.ListComp x [⟨.Tuple n c d, i, [], b⟩] z t) e) Q E s) : wpAny P A (eval (.ListComp x [⟨.Tuple n c d, i, [], b⟩] z t) e) Q E s := h
theorem atAsg {P A y x n c i b z t u e Q E s} (h : wpAny P A (exec (.Assign y (.ListComp x [⟨.Name n c, i, [], b⟩] z t) u) e) Q E s) : wpAny P A (exec (.Assign y (.ListComp x [⟨.Name n c, i, [], b⟩] z t) u) e) Q E s := h
theorem atList {P A r Q E s} (h : wpAny P A (call (.type "list") [.ref r]) Q E s) : wpAny P A (call (.type "list") [.ref r]) Q E s := h
theorem atBytes {P A r Q E s} (h : wpAny P A (call (.type "bytes") [.ref r]) Q E s) : wpAny P A (call (.type "bytes") [.ref r]) Q E s := h
theorem atBytes2 {P A t Q E s} (h : wpAny P A (call (.type "bytes") [.int 2 t]) Q E s) : wpAny P A (call (.type "bytes") [.int 2 t]) Q E s := h
theorem fm_mul (z b : Int) : IntMulOk (Int.fmod z 2147483647) b := by
  have h1 := Int.fmod_nonneg_of_pos z (show (0 : Int) < 2147483647 by decide)
  have h2 := Int.fmod_lt_of_pos z (show (0 : Int) < 2147483647 by decide)
  exact .of_left (intBits_le_64 (by omega) (by omega))
theorem fm_mul_step {prog : Program} {w : World} {A : Around} {E : Value → Shared → Prop} {s : Shared} {x z x' z' d d' : Int} {t u : Tok} {Q : Value → Shared → Prop} (h : Q (.int (Int.fmod z 2147483647 * Int.fmod z' 2147483647) s.toks) { s with toks := s.toks + 1 }) :
    wpAny (model prog w) A (binaryOp .Mult (.int ([x, Int.fmod z 2147483647].getD (Int.toNat 1) d) t) (.int ([x', Int.fmod z' 2147483647].getD (Int.toNat 1) d') u)) Q E s := PyProof.Rows.mul_int h (fm_mul z _)
section
local macro_rules | `(tactic| walk_at "binaryOp Mult int int") => `(tactic| (k_here; with_reducible refine fm_mul_step ?_))
local macro_rules | `(tactic| k_all) => `(tactic| assumption)
/-- what a call of _law_take does: the two ints of source turn, a number below top comes back -/
theorem take_ok (w : World) {mean : ExcName → Option Value} {mg mb : Str → Option Value} (dp un : Nat) (gd : Option (List Code)) (cn : Str) (cs : Scope) (a : Addr) (ccd : Value) (cl : List (Str × Addr)) (outer : List Env) (A₀ : Around) (base h₀ : Heap) (L : Addr) (m : Str → Option Value) (s : Shared) (Q E : Value → Shared → Prop)
    (l : Addr) (x y top : Int) (tx ty tt : Tok) (n : Nat) (rest : List (Addr × Obj))
    (B : Below A₀ base outer h₀) (F : Fr h₀ L s.heap m) (X : (kmake.heap_1 w.params).In h₀) (N : News h₀ L s.heap ((l, srcObj x tx y ty n) :: rest)) (T : Top vw (looseW vw looseL) mean mg mb h₀) (hk : cs.kind = .function)
    (hoff : ∀ p ∈ rest, p.1 ≠ l) (hx : 0 ≤ x) (hy : 0 ≤ y) (hy2 : y < 2147483647) (ht : 0 < top) (ht2 : top ≤ 64) (hd : dp + 3 < recursionLimit) (hu : un + 24 < cLine)
    (hret : ∀ (r x' y' : Int) (t tx' ty' : Tok) (h' : Heap) (tk' : Nat), 0 ≤ r → r < top → 0 ≤ x' → 0 ≤ y' → y' < 2147483647 → Fr h₀ L h' m → News h₀ L h' ((l, srcObj x' tx' y' ty' n) :: rest) → Q (.int r t) { s with heap := h', toks := tk' }) :
    wpAny (model pg51 w) (ktrTop dp un gd cn cs L a ccd cl outer) (call (.ref 327) [.ref l, .int top tt]) Q E s := by
  refine wpAny_call ?_
  k_dflt cell_enter
  k_steps
  · exact hret (x.fmod top) (x.fdiv top) y _ _ _ _ _ (Int.fmod_nonneg_of_pos _ ht) (Int.fmod_lt_of_pos _ ht) (Int.fdiv_nonneg hx (Int.le_of_lt ht)) hy hy2 (by assumption) (by assumption)
  · exact hret _ x (([x, y].getD (Int.toNat 1) 0 * 39373 + 7).fmod 2147483647) _ _ _ _ _ (Int.fmod_nonneg_of_pos _ ht) (Int.fmod_lt_of_pos _ ht) hx (Int.fmod_nonneg_of_pos _ (by decide)) (Int.fmod_lt_of_pos _ (by decide)) (by assumption) (by assumption)

end
local macro_rules | `(tactic| walk_at "pm") => `(tactic| ((case B | F | X | T => k_asm); (case N => first | k_asm | exact news_f1 (by k_asm) | exact news_f2 (by k_asm) | exact news_f3 (by k_asm) | exact news_f4 (by k_asm) | exact news_f5 (by k_asm) | exact news_f6 (by k_asm)); (case hk => first | exact rfl | assumption); (case hd => ktr_room); (case hu => ktr_units)))
local macro_rules | `(tactic| walk_at "pt") => `(tactic| ((case hoff => k_dflt k_all); (case hx | hy | hy2 => assumption)))
local macro_rules | `(tactic| walk_at "po") => `(tactic| (walk_at "pt"; (case hm => k_dflt k_memK); (case hv0 | hv => k_dflt ((simp only [List.length_cons, List.length_nil]); omega))))
local macro_rules | `(tactic| walk_at "call ref") => `(tactic| (k_here; (with_reducible refine atRef 327 ?_); k_dflt (apply take_ok); walk_at "pm"; walk_at "pt"; (case ht | ht2 => (try simp only [List.size_toArray]); omega); intros))
local macro_rules | `(tactic| walk_at "subscriptTail") => `(tactic| (k_here; (with_reducible refine atSlice ?_); (with_reducible rename Fr _ _ _ _ => F'); (with_reducible rename News _ _ _ _ => N'); k_dflt (refine KBc.slice_K (s := ⟨_, _, _, _, _⟩) F' N' rfl (by constructor) (by constructor) (by rw [KBw.ints_length]; first | omega | (simp only [List.size_toArray, List.length_cons, List.length_nil]; omega)) ?_); intros))
local macro_rules | `(tactic| walk_at "subscriptTail") => `(tactic| (k_here; (with_reducible refine atByte ?_); k_dflt (refine KBw.item_K rfl (by rw [KBw.ints_length]; omega) (by first | decide | omega) (by rw [KBw.ints_length]; omega) ?_); intros))
local macro_rules | `(tactic| walk_at "ite") => `(tactic| (k_closed; first | with_reducible refine ite_neg (of_decide_eq_true rfl) ?_ | with_reducible refine ite_pos (of_decide_eq_true rfl) ?_))
section
local macro_rules | `(tactic| k_all) => `(tactic| assumption)
local macro_rules | `(tactic| k_mem) => `(tactic| first | assumption | exact List.mem_cons_of_mem _ (by k_mem))
theorem item_in {prog : Program} {w : World} {A : Around} {E : Value → Shared → Prop} {s : Shared} {value slice : PySem.Expr} {l : Addr} {vs : List Value} {k : Int} {u : Tok} {Q : Value → Shared → Prop}
    (hl : s.heap.IsList l vs.toArray) (h0 : 0 ≤ k) (hlt : k < (vs.length : Int)) (hlen : vs.length ≤ 64) (h : ∀ v, v ∈ vs → Q v s)
    (hs : subscripted slice false (.ref l) (.int k u) = operate [.ref l, .int k u] (getItem (.ref l) (.int k u)) := by with_unfolding_all rfl) :
    wpAny (model prog w) A (subscriptTail value slice (.ref l) (.int k u)) Q E s := by
  have hk : k.toNat < vs.length := by omega
  exact tail_any hl.typeIs slot_list_getitem.lookup (wpAny_getItem_list hl h0 (by omega) (x := vs[k.toNat]) (by simp [hk]) (h _ (List.getElem_mem hk))) hs
section
local macro_rules | `(tactic| walk_at "call builtin:len") => `(tactic| (k_here; (with_reducible refine atLen ?_); refine PyProof.Rows.len_list (News.isList (by k_asm) (by k_mem)) (by (simp only [List.size_toArray]; omega)) ?_))
local macro_rules | `(tactic| walk_at "subscriptTail") => `(tactic| (k_here; (with_reducible refine atItem ?_); (refine item_in (News.isList (by k_asm) (by k_mem)) (by assumption) (by simpa using (by assumption)) (by assumption) ?_); intros))

theorem one_ok (w : World) {mean : ExcName → Option Value} {mg mb : Str → Option Value} (dp un : Nat) (gd : Option (List Code)) (cn : Str) (cs : Scope) (a : Addr) (ccd : Value) (cl : List (Str × Addr)) (outer : List Env) (A₀ : Around) (base h₀ : Heap) (L : Addr) (m : Str → Option Value) (s : Shared) (Q E : Value → Shared → Prop)
    (l : Addr) (x y : Int) (tx ty : Tok) (n : Nat) (rest : List (Addr × Obj)) (lt : Addr) (vs : List Value) (nt : Nat)
    (B : Below A₀ base outer h₀) (F : Fr h₀ L s.heap m) (X : (kmake.heap_1 w.params).In h₀) (N : News h₀ L s.heap ((l, srcObj x tx y ty n) :: rest)) (T : Top vw (looseW vw looseL) mean mg mb h₀) (hk : cs.kind = .function)
    (hoff : ∀ p ∈ rest, p.1 ≠ l) (hm : (lt, listOf vs.toArray nt) ∈ rest) (hv0 : 0 < vs.length) (hv : vs.length ≤ 64) (hx : 0 ≤ x) (hy : 0 ≤ y) (hy2 : y < 2147483647) (hd : dp + 5 < recursionLimit) (hu : un + 48 < cLine)
    (hret : ∀ (v : Value) (x' y' : Int) (tx' ty' : Tok) (h' : Heap) (tk' : Nat), v ∈ vs → 0 ≤ x' → 0 ≤ y' → y' < 2147483647 → Fr h₀ L h' m → News h₀ L h' ((l, srcObj x' tx' y' ty' n) :: rest) → Q v { s with heap := h', toks := tk' }) :
    wpAny (model pg51 w) (ktrTop dp un gd cn cs L a ccd cl outer) (call (.ref 334) [.ref l, .ref lt]) Q E s := by
  refine wpAny_call ?_
  k_dflt cell_enter
  k_steps
  refine hret _ _ _ _ _ _ _ ?_ ?_ ?_ ?_ ?_ (by assumption) <;> assumption

/-- the same where the things are ints from lo to hi -/
theorem one_ints (lo hi : Int) (w : World) {mean : ExcName → Option Value} {mg mb : Str → Option Value} (dp un : Nat) (gd : Option (List Code)) (cn : Str) (cs : Scope) (a : Addr) (ccd : Value) (cl : List (Str × Addr)) (outer : List Env) (A₀ : Around) (base h₀ : Heap) (L : Addr) (m : Str → Option Value) (s : Shared) (Q E : Value → Shared → Prop)
    (l : Addr) (x y : Int) (tx ty : Tok) (n : Nat) (rest : List (Addr × Obj)) (lt : Addr) (vs : List Value) (nt : Nat)
    (B : Below A₀ base outer h₀) (F : Fr h₀ L s.heap m) (X : (kmake.heap_1 w.params).In h₀) (N : News h₀ L s.heap ((l, srcObj x tx y ty n) :: rest)) (T : Top vw (looseW vw looseL) mean mg mb h₀) (hk : cs.kind = .function)
    (hoff : ∀ p ∈ rest, p.1 ≠ l) (hm : (lt, listOf vs.toArray nt) ∈ rest) (hv0 : 0 < vs.length) (hv : vs.length ≤ 64) (hx : 0 ≤ x) (hy : 0 ≤ y) (hy2 : y < 2147483647) (hd : dp + 5 < recursionLimit) (hu : un + 48 < cLine)
    (hall : ∀ v ∈ vs, ∃ k t, v = Value.int k t ∧ lo ≤ k ∧ k ≤ hi)
    (hret : ∀ (k x' y' : Int) (t tx' ty' : Tok) (h' : Heap) (tk' : Nat), lo ≤ k → k ≤ hi → 0 ≤ x' → 0 ≤ y' → y' < 2147483647 → Fr h₀ L h' m → News h₀ L h' ((l, srcObj x' tx' y' ty' n) :: rest) → Q (.int k t) { s with heap := h', toks := tk' }) :
    wpAny (model pg51 w) (ktrTop dp un gd cn cs L a ccd cl outer) (call (.ref 334) [.ref l, .ref lt]) Q E s :=
  one_ok w dp un gd cn cs a ccd cl outer A₀ base h₀ L m s Q E l x y tx ty n rest lt vs nt B F X N T hk hoff hm hv0 hv hx hy hy2 hd hu fun v x' y' tx' ty' h' tk' hvm h1 h2 h3 F' N' => by
    obtain ⟨k, t, rfl, h4, h5⟩ := hall v hvm
    exact hret k x' y' t tx' ty' h' tk' h4 h5 h1 h2 h3 F' N'

end
theorem off_of {D : Addr} {rest : List (Addr × Obj)} (h : AllLt D rest) : ∀ q ∈ rest, q.1 ≠ D := fun q hq => Nat.ne_of_lt (ktn_ltOf h q hq)
theorem news_two {h₀ h : Heap} {L : Addr} {a b : Addr × Obj} {rest news : List (Addr × Obj)} (N : News h₀ L h news) (ha : a ∈ news) (hb : b ∈ news) (hr : ∀ p ∈ rest, p ∈ news) : News h₀ L h (a :: b :: rest) := fun p hp => by
  rcases List.mem_cons.mp hp with rfl | hp
  · exact N _ ha
  · rcases List.mem_cons.mp hp with rfl | hp
    · exact N _ hb
    · exact N _ (hr _ hp)
section
local macro_rules | `(tactic| walk_at "call ref") => `(tactic| (k_here; (with_reducible refine atRef 334 ?_); k_dflt (apply one_ok); walk_at "pm"; walk_at "po"; intro _ _ _ _ _ _ _ hv9; intros; simp only [List.mem_cons, List.not_mem_nil, or_false] at hv9; rcases hv9 with hv9 | hv9 | hv9 | hv9 <;> subst hv9))
local macro_rules | `(tactic| walk_at "call ref") => `(tactic| (k_here; (with_reducible refine atRef 334 ?_); k_dflt (apply (one_ints 0 3)); walk_at "pm"; walk_at "po"; (case hall => k_dflt (intro v hv; simp only [List.mem_cons, List.not_mem_nil, or_false] at hv; rcases hv with rfl | rfl | rfl | rfl | rfl | rfl | rfl <;> exact ⟨_, _, rfl, by decide, by decide⟩)); intros))
local macro_rules | `(tactic| walk_at "pad1") => `(tactic| skip)
noncomputable abbrev tupObj (c : Int) (tc : Tok) (p : Array UInt8) (tp : Tok) : Obj := { cls := .type "tuple", data := .seq #[Value.int c tc, Value.bytes p tp] }

theorem seg_ok (w : World) {mean : ExcName → Option Value} {mg mb : Str → Option Value} (dp un : Nat) (gd : Option (List Code)) (cn : Str) (cs : Scope) (a : Addr) (ccd : Value) (cl : List (Str × Addr)) (outer : List Env) (A₀ : Around) (base h₀ : Heap) (L : Addr) (m : Str → Option Value) (s : Shared) (Q E : Value → Shared → Prop)
    (l : Addr) (x y : Int) (tx ty : Tok) (n : Nat) (rest : List (Addr × Obj))
    (B : Below A₀ base outer h₀) (F : Fr h₀ L s.heap m) (X : (kmake.heap_1 w.params).In h₀) (N : News h₀ L s.heap ((l, srcObj x tx y ty n) :: rest)) (T : Top vw (looseW vw looseL) mean mg mb h₀) (hk : cs.kind = .function)
    (hoff : ∀ p ∈ rest, p.1 ≠ l) (hx : 0 ≤ x) (hy : 0 ≤ y) (hy2 : y < 2147483647) (hd : dp + 8 < recursionLimit) (hu : un + 96 < cLine)
    (hret : ∀ (t : Addr) (c : Int) (tc : Tok) (p : Array UInt8) (tp : Tok) (x' y' : Int) (tx' ty' : Tok) (h' : Heap) (tk' : Nat), 0 ≤ c → c ≤ 255 → p.size ≤ 64 → t ≠ l → (∀ q ∈ rest, q.1 ≠ t) → 0 ≤ x' → 0 ≤ y' → y' < 2147483647 → Fr h₀ L h' m → News h₀ L h' ((l, srcObj x' tx' y' ty' n) :: (t, tupObj c tc p tp) :: rest) → Q (.ref t) { s with heap := h', toks := tk' }) :
    wpAny (model pg51 w) (ktrTop dp un gd cn cs L a ccd cl outer) (call (.ref 341) [.ref l]) Q E s := by
  refine wpAny_call ?_
  k_dflt cell_enter
  k_steps
  all_goals (
    refine' hret _ _ _ _ _ _ _ _ _ _ _ ?c1  ?c2 ?c3 ?c4 ?c5 ?c6 ?c7 ?c8 ?cF ?cN
    case cF => assumption
    case cN => exact news_two (by assumption) (by k_memK) (by k_memK) (by (intro p hp; repeat (first | assumption | refine List.Mem.tail _ ?_)))
    case c6 => assumption
    case c7 => assumption
    case c8 => assumption
    case c4 => exact Nat.ne_of_gt (by omega)
    case c5 => exact off_of (by (first | assumption | (simp_all; done)))
    case c1 => decide
    case c2 => decide
    case c3 => first | exact Nat.le_of_ble_eq_true rfl | exact Nat.le_trans (KBc.size_picked_le _ _ _) (Nat.le_of_ble_eq_true rfl))

end

section
variable {prog : Program} {w : World} {A : Around} {E : Value → Shared → Prop} {s : Shared} {env : Env} {h₀ : Heap} {target : Expr} {body : List Stmt} {Q : Flow → Shared → Prop} {m : Str → Option Value} {news : List (Addr × Obj)} {l : Addr} {items : Array Value} {nn : Nat}
theorem iter_listU (hh : A.handled = none) (hl : (l, listOf items nn) ∈ news) (F : Fr h₀ env.locals s.heap m) (N : News h₀ env.locals s.heap news)
    (h : Unr prog w A E h₀ env target body Q (fun i v => items[i]? = some v) [s.heap.objs.size, l] { s with heap := s.heap.push { cls := .type "list_iterator", data := .fields #[.ref l, .int 0 0] } } items.size 0 m news) :
    wpAny (model prog w) A (pyIter (.ref l)) (fun it s₂ => UnrAt prog w A h₀ env target body Q E it s₂) E s := by
  have hol : s.heap.get? l = some (listOf items nn) := (N _ hl).1
  have hls : s.heap.IsList l items := ⟨_, hol, rfl, nn, rfl⟩
  have hne : l ≠ s.heap.objs.size := Nat.ne_of_lt (Heap.lt_size hol)
  refine wpAny_pyIter_list hls ?_
  refine ⟨s.heap.objs.size, [s.heap.objs.size, l], [s.heap.objs.size], items.size, _, _, m, news, rfl, Walks.list hh _ l hne items, ?_, ?_, ?_,
    ⟨⟨_, Heap.get?_push_size _ rfl, rfl, rfl⟩, hls.at fun o e => Heap.get?_push_of_some _ e⟩, F.push _, fun p hp => ⟨Heap.get?_push_of_some _ (N p hp).1, (N p hp).2⟩, fun i s' v Q' st hQ' => letGo_listiter st.1 hQ', h⟩
  · intro hm
    rcases List.mem_cons.mp hm with e | hm
    · exact absurd F.ns.lt (e ▸ Nat.lt_irrefl _)
    · exact (N _ hl).2.1 (List.mem_singleton.mp hm).symm
  · intro b hb
    rw [List.mem_singleton.mp hb]
    exact next_is_new F
  · intro p hp hI
    exact absurd (Heap.lt_size (N p hp).1) ((List.mem_singleton.mp hI) ▸ Nat.lt_irrefl _)

theorem unr_ind {P : Nat → Value → Prop} {fp : List Addr} {n : Nat} {s₀ : Shared} (J : Nat → (Str → Option Value) → Prop)
    (turn : ∀ i v m₁ h tk own, i < n → P i v → J i m₁ → Fr h₀ env.locals h m₁ → News h₀ env.locals h (own ++ news) →
      wpAny (model prog w) A (assign target env v) (fun _ s₂ => wpAny (model prog w) A (execs body env) (InvPost h₀ env.locals (J (i + 1)) (own ++ news) { s₀ with heap := h, toks := tk } Q) E s₂) E { s₀ with heap := h, toks := tk })
    (done : ∀ m₁ h tk, J n m₁ → Fr h₀ env.locals h m₁ → News h₀ env.locals h news → Q .next { s₀ with heap := h, toks := tk }) :
    ∀ (k i : Nat) (m₁ : Str → Option Value), i + k = n → J i m₁ → Unr prog w A E h₀ env target body Q P fp s₀ k i m₁ news
  | 0, i, m₁, e, hj => Unr.zero fun h' tk F' N' => done m₁ h' tk (by rw [Nat.add_zero] at e; rw [← e]; exact hj) F' N'
  | k + 1, i, m₁, e, hj => Unr.succ fun v h₁ tk₁ own hP hown F₁ N₁ => by
    refine wpAny_mono (turn i v m₁ h₁ tk₁ own (by omega) hP hj F₁ N₁) (fun _ s₂ h₂ => wpAny_mono h₂ (fun f s₃ h₃ => ?_) fun _ _ e => e) fun _ _ e => e
    have fin : InvEnd h₀ env.locals (J (i + 1)) (own ++ news) { s₀ with heap := h₁, toks := tk₁ } s₃ → LoopStep2 h₀ env.locals own news (Unr prog w A E h₀ env target body Q P fp s₀ k (i + 1)) { s₀ with heap := h₁, toks := tk₁ } .next s₃ := by
      rintro ⟨h', tk, m', news', e', F', N', hn, hJ⟩
      exact ⟨rfl, h', tk, m', news, e', F', fun p hp => N' p (hn p hp), rfl, unr_ind J turn done k (i + 1) m' (by omega) hJ⟩
    cases f with
    | ret v => exact h₃
    | brk => exact h₃
    | next => exact fin h₃
    | cont => exact fin h₃

/-- a for over a list of the ledger, whatever its target: J of the places taken and of the frame's names -/
theorem for_listJ {x : Str} {px pos : Pos} (J : Nat → (Str → Option Value) → Prop) (F : Fr h₀ env.locals s.heap m) (N : News h₀ env.locals s.heap news) (hh : A.handled = none) (hl : (l, listOf items nn) ∈ news)
    (hev : ∀ Q' : Value → Shared → Prop, Q' (.ref l) s → wpAny (model prog w) A (eval (.Name x px) env) Q' E s) (hj : J 0 m)
    (turn : ∀ i v m₁ h tk own, i < items.size → items[i]? = some v → J i m₁ → Fr h₀ env.locals h m₁ → News h₀ env.locals h (own ++ news) →
      wpAny (model prog w) A (assign target env v) (fun _ s₂ => wpAny (model prog w) A (execs body env) (InvPost h₀ env.locals (J (i + 1)) (own ++ news) { s with heap := h, toks := tk } Q) E s₂) E { s with heap := h, toks := tk })
    (done : ∀ m₁ h tk, J items.size m₁ → Fr h₀ env.locals h m₁ → News h₀ env.locals h news → Q .next { s with heap := h, toks := tk })
    (hs : ∀ y, foldedSetIterable (.Name x px) env y = pure y := by intro _; rfl)
    (hE : PassesOwn (model prog w) A env E := by passes_own) :
    wpAny (model prog w) A (exec (.For target (.Name x px) body [] pos) env) Q E s :=
  For_unr h₀ (hev _ (iter_listU hh hl F N (unr_ind (s₀ := { s with heap := s.heap.push { cls := .type "list_iterator", data := .fields #[.ref l, .int 0 0] } }) J turn done items.size 0 m (by omega) hj))) hs hE
end


/-! ## The plain law: what the segments say -/
noncomputable abbrev Sg := Int × Array UInt8
noncomputable def cut5 (p : Array UInt8) : Array UInt8 := KBy.picked p none (some 5)
noncomputable def adobeN : Array UInt8 := #[65, 100, 111, 98, 101]
noncomputable def jfifN : Array UInt8 := #[74, 70, 73, 70, 0]
noncomputable def at11 (p : Array UInt8) : Int := (KBw.bInts p).getD 11 0
noncomputable def segStep (st : Option (Option Int × Bool)) (g : Sg) : Option (Option Int × Bool) :=
  match st with
  | none => none
  | some (last, j) =>
    if g.1 = 238 ∧ cut5 g.2 = adobeN then
      if g.2.size < 12 ∨ 2 < at11 g.2 then none else some (some (at11 g.2), j)
    else some (last, j || (decide (g.1 = 224) && decide (cut5 g.2 = jfifN)))
noncomputable def segsGo (segs : List Sg) : Option (Option Int × Bool) := segs.foldl segStep (some (none, false))
theorem segsGo_none : ∀ (l : List Sg), l.foldl segStep none = none
  | [] => rfl
  | _ :: r => segsGo_none r
theorem segsGo_app (pre post : List Sg) (g : Sg) : segsGo (pre ++ g :: post) = post.foldl segStep (segStep (segsGo pre) g) := by
  unfold segsGo; rw [List.foldl_append, List.foldl_cons]
theorem segsGo_snoc (pre : List Sg) (g : Sg) : segsGo (pre ++ [g]) = segStep (segsGo pre) g := by
  unfold segsGo; rw [List.foldl_append]; rfl
theorem segsGo_stop {pre post : List Sg} {g : Sg} (h : segStep (segsGo pre) g = none) : segsGo (pre ++ g :: post) = none := by
  rw [segsGo_app, h, segsGo_none]
inductive IsOpt : Value → Option Int → Prop
  | none : IsOpt .none none
  | some (k : Int) (t : Tok) : IsOpt (.int k t) (some k)
inductive SegsIn (news : List (Addr × Obj)) : List Value → List Sg → Prop
  | nil : SegsIn news [] []
  | cons {t : Addr} {c : Int} {tc : Tok} {p : Array UInt8} {tp : Tok} {vs : List Value} {segs : List Sg} : (t, tupObj c tc p tp) ∈ news → 0 ≤ c → c ≤ 255 → p.size ≤ 64 → SegsIn news vs segs → SegsIn news (.ref t :: vs) ((c, p) :: segs)
theorem SegsIn.length {news : List (Addr × Obj)} {vs : List Value} {segs : List Sg} (S : SegsIn news vs segs) : vs.length = segs.length := by
  induction S with
  | nil => rfl
  | cons _ _ _ _ _ ih => rw [List.length_cons, List.length_cons, ih]
theorem SegsIn.at {news : List (Addr × Obj)} {vs : List Value} {segs : List Sg} (S : SegsIn news vs segs) : ∀ {i : Nat} {v : Value}, vs[i]? = some v →
    ∃ t c tc p tp post, v = .ref t ∧ segs = segs.take i ++ (c, p) :: post ∧ (segs.take i).length = i ∧ (t, tupObj c tc p tp) ∈ news ∧ 0 ≤ c ∧ c ≤ 255 ∧ p.size ≤ 64 := by
  induction S with
  | nil => intro i v h; simp at h
  | @cons t c tc p tp vs segs h1 h2 h3 h4 _ ih =>
    intro i v h
    cases i with
    | zero =>
      simp at h
      subst h
      exact ⟨t, c, tc, p, tp, segs, rfl, rfl, rfl, h1, h2, h3, h4⟩
    | succ i =>
      obtain ⟨t', c', tc', p', tp', post, e1, e2, e3, r⟩ := ih (i := i) (v := v) (by simpa using h)
      exact ⟨t', c', tc', p', tp', post, e1, by rw [List.take_succ_cons, List.cons_append, ← e2], by rw [List.take_succ_cons, List.length_cons, e3], r⟩

/-! ## The loop of _law_due -/
noncomputable abbrev nLast : Str := Str.ofString "last"
noncomputable abbrev nJf : Str := Str.ofString "has_jfif"
noncomputable abbrev nRows : Str := Str.ofString "rows"
noncomputable abbrev nIds : Str := Str.ofString "idents"
noncomputable def dueJ (segs : List Sg) (lr li : Addr) (i : Nat) (m : Str → Option Value) : Prop :=
  ∃ lv last j, segsGo (segs.take i) = some (last, j) ∧ IsOpt lv last ∧ m nLast = some lv ∧ m nJf = some (.bool j) ∧ m nRows = some (.ref lr) ∧ m nIds = some (.ref li)
noncomputable abbrev dueM (lv : Value) (j : Bool) (lr li : Addr) (u : Str → Option Value) : Str → Option Value :=
  fun y => if y = nLast then some lv else if y = nJf then some (.bool j) else if y = nRows then some (.ref lr) else if y = nIds then some (.ref li) else u y
theorem dueM_eq {lv : Value} {j : Bool} {lr li : Addr} {m : Str → Option Value} (h1 : m nLast = some lv) (h2 : m nJf = some (.bool j)) (h3 : m nRows = some (.ref lr)) (h4 : m nIds = some (.ref li)) : m = dueM lv j lr li m := by
  funext y
  unfold dueM
  split
  · rename_i e; rw [e, h1]
  · split
    · rename_i e; rw [e, h2]
    · split
      · rename_i e; rw [e, h3]
      · split
        · rename_i e; rw [e, h4]
        · rfl
theorem due_for {prog : Program} {w : World} {A : Around} {E : Value → Shared → Prop} {s : Shared} {env : Env} {h₀ : Heap} {target : Expr} {body : List Stmt} {Q : Flow → Shared → Prop} {m : Str → Option Value} {news : List (Addr × Obj)} {lr li : Addr} {vs : List Value} {segs : List Sg} {nn : Nat} {px pos : Pos}
    (S : SegsIn news vs segs) (F : Fr h₀ env.locals s.heap m) (N : News h₀ env.locals s.heap news) (hh : A.handled = none) (hl : (lr, listOf vs.toArray nn) ∈ news)
    (hev : ∀ Q' : Value → Shared → Prop, Q' (.ref lr) s → wpAny (model prog w) A (eval (.Name nRows px) env) Q' E s)
    (h1 : m nLast = some .none) (h2 : m nJf = some (.bool false)) (h3 : m nRows = some (.ref lr)) (h4 : m nIds = some (.ref li))
    (turn : ∀ (pre post : List Sg) t c tc p tp lv last j u h tk own, segs = pre ++ (c, p) :: post → segsGo pre = some (last, j) → IsOpt lv last → (t, tupObj c tc p tp) ∈ news → 0 ≤ c → c ≤ 255 → p.size ≤ 64 →
      Fr h₀ env.locals h (dueM lv j lr li u) → News h₀ env.locals h (own ++ news) →
      wpAny (model prog w) A (assign target env (.ref t)) (fun _ s₂ => wpAny (model prog w) A (execs body env) (InvPost h₀ env.locals (dueJ segs lr li (pre.length + 1)) (own ++ news) { s with heap := h, toks := tk } Q) E s₂) E { s with heap := h, toks := tk })
    (done0 : ∀ j u h tk, segsGo segs = some (none, j) → Fr h₀ env.locals h (dueM .none j lr li u) → News h₀ env.locals h news → Q .next { s with heap := h, toks := tk })
    (done1 : ∀ k t j u h tk, segsGo segs = some (some k, j) → Fr h₀ env.locals h (dueM (.int k t) j lr li u) → News h₀ env.locals h news → Q .next { s with heap := h, toks := tk })
    (hs : ∀ y, foldedSetIterable (.Name nRows px) env y = pure y := by intro _; rfl)
    (hE : PassesOwn (model prog w) A env E := by passes_own) :
    wpAny (model prog w) A (exec (.For target (.Name nRows px) body [] pos) env) Q E s := by
  refine for_listJ (dueJ segs lr li) F N hh hl hev ⟨_, _, _, rfl, .none, h1, h2, h3, h4⟩ ?_ ?_ hs hE
  · rintro i v m₁ h tk own hi hv ⟨lv, last, j, g1, g2, g3, g4, g5, g6⟩ F₁ N₁
    obtain ⟨t, c, tc, p, tp, post, rfl, e2, e3, e4, e5, e6, e7⟩ := S.at (i := i) (v := v) (by simpa using hv)
    rw [dueM_eq g3 g4 g5 g6] at F₁
    have := turn (segs.take i) post t c tc p tp lv last j m₁ h tk own e2 g1 g2 e4 e5 e6 e7 F₁ N₁
    rw [e3] at this
    exact this
  · rintro m₁ h tk ⟨lv, last, j, g1, g2, g3, g4, g5, g6⟩ F₁ N₁
    rw [dueM_eq g3 g4 g5 g6] at F₁
    rw [List.size_toArray, S.length, List.take_length] at g1
    cases g2 with
    | none => exact done0 j m₁ h tk g1 F₁ N₁
    | some k t => exact done1 k t j m₁ h tk g1 F₁ N₁
theorem due_end {h₀ : Heap} {L : Addr} {segs pre post : List Sg} {g : Sg} {lr li : Addr} {need all : List (Addr × Obj)} {s₁ : Shared} {h' : Heap} {tk : Nat} {m' : Str → Option Value} {last last' : Option Int} {j j' : Bool} {lv : Value}
    (F : Fr h₀ L h' m') (N : News h₀ L h' all) (hn : ∀ p ∈ need, p ∈ all) (e : segs = pre ++ g :: post) (hg : segsGo pre = some (last, j)) (hst : segStep (some (last, j)) g = some (last', j')) (hv : IsOpt lv last')
    (h1 : m' nLast = some lv) (h2 : m' nJf = some (.bool j')) (h3 : m' nRows = some (.ref lr)) (h4 : m' nIds = some (.ref li)) :
    InvEnd h₀ L (dueJ segs lr li (pre.length + 1)) need s₁ { s₁ with heap := h', toks := tk } := by
  refine InvEnd.intro F N hn ⟨lv, last', j', ?_, hv, h1, h2, h3, h4⟩
  rw [e, List.take_append, List.take_of_length_le (Nat.le_succ _), show pre.length + 1 - pre.length = 1 by omega, List.take_succ_cons, List.take_zero, segsGo_snoc, hg, hst]

theorem news_tail {h₀ h : Heap} {L : Addr} {q : Addr × Obj} {r : List (Addr × Obj)} (N : News h₀ L h (q :: r)) : News h₀ L h r := fun p hp => N p (.tail _ hp)
section
local macro_rules | `(tactic| walk_at "call builtin:dict.get") => `(tactic| (k_here; (with_reducible refine atGet ?_); k_dflt (refine' call_get2_intTab ?k1 ?k2 ?_; (case k1 => k_tabat); (case k2 => k_flat); k_whole; intro _ hv'); k_dflt (dict_open hv')))
local macro_rules | `(tactic| walk_at "KdnMade") => `(tactic| (k_here; k_dflt (refine' kdn_made_intF ?F ?N ?U ?d ?k ?n ?v ?_; (case F | N | d => k_asm); (case U => k_updF); (case k | v => rfl); (case n => exact of_decide_eq_true (by first | rfl | kernel_rfl!)); intro h' o' F' N' hd' hf'); (try dsimp only at N')))
theorem len_lit {A : Around} {w : World} {E : Value → Shared → Prop} {s : Shared} {l : Addr} {items : Array Value} {n : Int} {Q : Value → Shared → Prop} (hl : s.heap.IsList l items) (e : ((items.size : Nat) : Int) = n) (hn : n < 2 ^ 62)
    (h : Q (.int n (s.toks + 1)) { s with toks := s.toks + 1 + 1 }) : wpAny (model pg51 w) A (call (.builtin "len") [.ref l]) Q E s := by
  subst e
  exact PyProof.Rows.len_list hl (by omega) h
local macro_rules | `(tactic| walk_at "call builtin:len") => `(tactic| (k_here; (with_reducible refine atLen ?_); k_dflt (refine' len_lit (News.isList (by k_asm) (by k_mem)) ?e ?hn ?_; (case e => first | exact (rfl : _ = (1 : Int)) | exact (rfl : _ = (2 : Int)) | exact (rfl : _ = (3 : Int)) | exact (rfl : _ = (4 : Int)) | exact (rfl : _ = (5 : Int))); (case hn => decide))))
local macro_rules | `(tactic| walk_at "pad2") => `(tactic| skip)
/-- the idents: one to five ints -/
inductive Idents5 : List Value → List Int → Prop
  | c1 (a : Int) (ta : Tok) : Idents5 [.int a ta] [a]
  | c2 (a b : Int) (ta tb : Tok) : Idents5 [.int a ta, .int b tb] [a, b]
  | c3 (a b c : Int) (ta tb tc : Tok) : Idents5 [.int a ta, .int b tb, .int c tc] [a, b, c]
  | c4 (a b c d : Int) (ta tb tc td : Tok) : Idents5 [.int a ta, .int b tb, .int c tc, .int d td] [a, b, c, d]
  | c5 (a b c d e : Int) (ta tb tc td te : Tok) : Idents5 [.int a ta, .int b tb, .int c tc, .int d td, .int e te] [a, b, c, d, e]
noncomputable def dueS (segs : List Sg) (ns : List Int) : Str :=
  match segsGo segs with
  | none => Str.ofString "refused"
  | some (last, j) =>
    if ns.length = 3 then (if j then Str.ofString "ycc" else if (match last with | some k => decide (k = 0) | none => decide (ns = [82, 71, 66])) then Str.ofString "rgb" else Str.ofString "ycc")
    else if ns.length = 1 then Str.ofString "grey"
    else if ns.length = 4 then (if last = some 2 then Str.ofString "ycck" else Str.ofString "cmyk")
    else Str.ofString "raw"

theorem news_own {h₀ h : Heap} {L : Addr} {own r : List (Addr × Obj)} (N : News h₀ L h (own ++ r)) : News h₀ L h r := fun p hp => N p (List.mem_append_right _ hp)
theorem due_q {Q : Value → Shared → Prop} {x y : Str} {t : Tok} {s : Shared} (e : y = x) (h : Q (.str y t) s) : Q (.str x t) s := e ▸ h
section
variable {segs : List Sg} {last : Option Int} {j : Bool} {k a b c d e : Int}
theorem dueS_c1 (h : segsGo segs = some (last, j)) : dueS segs [a] = Str.ofString "grey" := by unfold dueS; rw [h]; rfl
theorem dueS_c2 (h : segsGo segs = some (last, j)) : dueS segs [a, b] = Str.ofString "raw" := by unfold dueS; rw [h]; rfl
theorem dueS_c5 (h : segsGo segs = some (last, j)) : dueS segs [a, b, c, d, e] = Str.ofString "raw" := by unfold dueS; rw [h]; rfl
theorem dueS_c3j (h : segsGo segs = some (last, j)) (hj : j = true) : dueS segs [a, b, c] = Str.ofString "ycc" := by subst hj; unfold dueS; rw [h]; rfl
theorem dueS_c3z (h : segsGo segs = some (some k, j)) (hj : j = false) (hk : k = 0) : dueS segs [a, b, c] = Str.ofString "rgb" := by subst hj hk; unfold dueS; rw [h]; rfl
theorem dueS_c3k (h : segsGo segs = some (some k, j)) (hj : j = false) (hk : ¬ k = 0) : dueS segs [a, b, c] = Str.ofString "ycc" := by subst hj; unfold dueS; rw [h]; simp [hk]
theorem dueS_c3n {r : Bool} (h : segsGo segs = some (none, j)) (hj : j = false) (hr : r = decide ([a, b, c] = [82, 71, 66])) : dueS segs [a, b, c] = if r then Str.ofString "rgb" else Str.ofString "ycc" := by subst hj hr; unfold dueS; rw [h]; simp
theorem dueS_c3y (h : segsGo segs = some (none, j)) (hj : j = false) (hr : [a, b, c] = [82, 71, 66]) : dueS segs [a, b, c] = Str.ofString "rgb" := by rw [dueS_c3n (r := true) h hj (by simp only [hr, decide_true])]; rfl
theorem dueS_c3o (h : segsGo segs = some (none, j)) (hj : j = false) (hr : ¬ [a, b, c] = [82, 71, 66]) : dueS segs [a, b, c] = Str.ofString "ycc" := by rw [dueS_c3n (r := false) h hj (by simp only [hr, decide_false])]; rfl
theorem dueS_c4y (h : segsGo segs = some (some k, j)) (hk : k = 2) : dueS segs [a, b, c, d] = Str.ofString "ycck" := by subst hk; unfold dueS; rw [h]; rfl
theorem dueS_c4c (h : segsGo segs = some (some k, j)) (hk : ¬ k = 2) : dueS segs [a, b, c, d] = Str.ofString "cmyk" := by unfold dueS; rw [h]; simp [hk]
theorem dueS_c4n (h : segsGo segs = some (none, j)) : dueS segs [a, b, c, d] = Str.ofString "cmyk" := by unfold dueS; rw [h]; rfl
theorem dueS_stop {pre post : List Sg} {g : Sg} {ns : List Int} (e : segs = pre ++ g :: post) (h : segsGo pre = some (last, j)) (hs : segStep (some (last, j)) g = none) : dueS segs ns = Str.ofString "refused" := by
  unfold dueS; rw [e, segsGo_stop (by rw [h]; exact hs)]
variable {p : Array UInt8} {j' : Bool}
theorem eq_of_lists {x y : Array UInt8} (h : (x.toList == y.toList) = true) : x = y := Array.toList_inj.mp (beq_iff_eq.mp h)
theorem ne_of_lists {x y : Array UInt8} (h : (x.toList == y.toList) = false) : x ≠ y := fun e => by subst e; simp at h
theorem st_short (h1 : c = 238) (h2 : ((KBy.picked p none (some 5)).toList == #[65, 100, 111, 98, 101].toList) = true) (h3 : ((p.size : Nat) : Int) < 12) : segStep (some (last, j)) (c, p) = none := by
  unfold segStep; dsimp only; rw [if_pos ⟨h1, eq_of_lists h2⟩, if_pos (.inl (by omega))]
theorem st_three (h1 : c = 238) (h2 : ((KBy.picked p none (some 5)).toList == #[65, 100, 111, 98, 101].toList) = true) (h4 : 2 < at11 p) : segStep (some (last, j)) (c, p) = none := by
  unfold segStep; dsimp only; rw [if_pos ⟨h1, eq_of_lists h2⟩, if_pos (.inr h4)]
theorem st_A (h1 : c = 238) (h2 : ((KBy.picked p none (some 5)).toList == #[65, 100, 111, 98, 101].toList) = true) (h3 : ¬ ((p.size : Nat) : Int) < 12) (h4 : ¬ 2 < at11 p) : segStep (some (last, j)) (c, p) = some (some (at11 p), j) := by
  unfold segStep; dsimp only; rw [if_pos ⟨h1, eq_of_lists h2⟩, if_neg (by omega)]
theorem st_B (h1 : c = 238) (h2 : ((KBy.picked p none (some 5)).toList == #[65, 100, 111, 98, 101].toList) = false) : segStep (some (last, j)) (c, p) = some (last, j) := by
  unfold segStep; dsimp only; rw [if_neg (fun e => ne_of_lists h2 e.2)]; subst h1; simp
theorem st_C (h1 : ¬ c = 238) : segStep (some (last, j)) (c, p) = some (last, j || (decide (c = 224) && decide (cut5 p = jfifN))) := by
  unfold segStep; dsimp only; rw [if_neg (fun e => h1 e.1)]
theorem bneq (x y : Int) (h : ¬ x = y) : (x == y) = false := by simpa using h
theorem st_Cj (h1 : ¬ c = 238) (hj : j = true) : segStep (some (last, j)) (c, p) = some (last, j) := by rw [st_C h1]; subst hj; rfl
theorem st_C2 (h1 : ¬ c = 238) (hj : j = false) (h2 : c = 224) : segStep (some (last, j)) (c, p) = some (last, (KBy.picked p none (some 5)).toList == #[74, 70, 73, 70, 0].toList) := by
  rw [st_C h1]; subst hj h2
  cases q : ((KBy.picked p none (some 5)).toList == #[74, 70, 73, 70, 0].toList) with
  | true => rw [show cut5 p = jfifN from eq_of_lists q]; rfl
  | false => rw [decide_eq_false (show ¬ cut5 p = jfifN from ne_of_lists q)]; rfl
theorem st_C3 (h1 : ¬ c = 238) (hj : j = false) (h2 : ¬ c = 224) : segStep (some (last, j)) (c, p) = some (last, c == 224) := by rw [st_C h1]; subst hj; rw [decide_eq_false h2, bneq _ _ h2]; rfl
theorem st_C4 (h1 : ¬ c = 238) (hj : j = false) (h2 : ¬ c = 224) : segStep (some (last, j)) (c, p) = some (last, false) := by rw [st_C3 h1 hj h2, bneq _ _ h2]
theorem st_A3 (h1 : c = 238) (h2 : ((KBy.picked p none (some 5)).toList == #[65, 100, 111, 98, 101].toList) = true) (h3 : ¬ ((p.size : Nat) : Int) < 12) (h4 : ¬ 2 < at11 p) (hj : j = false) : segStep (some (last, j)) (c, p) = some (some (at11 p), c == 224) := by
  rw [st_A h1 h2 h3 h4]; subst hj h1; rfl
theorem st_A4 (h1 : c = 238) (h2 : ((KBy.picked p none (some 5)).toList == #[65, 100, 111, 98, 101].toList) = true) (h3 : ¬ ((p.size : Nat) : Int) < 12) (h4 : ¬ 2 < at11 p) (hj : j = false) : segStep (some (last, j)) (c, p) = some (some (at11 p), false) := by
  rw [st_A h1 h2 h3 h4]; subst hj h1; rfl
theorem st_B3 (h1 : c = 238) (h2 : ((KBy.picked p none (some 5)).toList == #[65, 100, 111, 98, 101].toList) = false) (hj : j = false) : segStep (some (last, j)) (c, p) = some (last, c == 224) := by
  rw [st_B h1 h2]; subst hj h1; rfl
theorem st_B4 (h1 : c = 238) (h2 : ((KBy.picked p none (some 5)).toList == #[65, 100, 111, 98, 101].toList) = false) (hj : j = false) : segStep (some (last, j)) (c, p) = some (last, false) := by
  rw [st_B h1 h2]; subst hj h1; rfl
end

theorem due_end2 {h₀ : Heap} {L : Addr} {segs pre post : List Sg} {g : Sg} {lr li : Addr} {need all : List (Addr × Obj)} {s₁ : Shared} {h' : Heap} {tk : Nat} {m' : Str → Option Value} {last last' : Option Int} {j j' : Bool} {lv : Value}
    (F : Fr h₀ L h' m') (N : News h₀ L h' all) (hn : ∀ p ∈ need, p ∈ all) (e : segs = pre ++ g :: post) (hg : segsGo pre = some (last, j)) 
    (h1 : m' nLast = some lv) (h2 : m' nJf = some (.bool j')) (h3 : m' nRows = some (.ref lr)) (h4 : m' nIds = some (.ref li)) (hv : IsOpt lv last') (hst : segStep (some (last, j)) g = some (last', j')) :
    InvEnd h₀ L (dueJ segs lr li (pre.length + 1)) need s₁ { s₁ with heap := h', toks := tk } := due_end F N hn e hg hst hv h1 h2 h3 h4

local macro_rules | `(tactic| walk_at "compareOp Eq ref ref") => `(tactic| (k_here; k_dflt (refine' ke_eq_ints (News.isList (by k_asm) (by k_mem)) (News.isList (by k_asm) (by k_mem)) (.cons _ _ (.cons _ _ (.cons _ _ .nil))) (.cons _ _ (.cons _ _ (.cons _ _ .nil))) (by ktr_units) ?_)))
theorem due_ok (w : World) {mean : ExcName → Option Value} {mg mb : Str → Option Value} (dp un : Nat) (gd : Option (List Code)) (cn : Str) (cs : Scope) (a : Addr) (ccd : Value) (cl : List (Str × Addr)) (outer : List Env) (A₀ : Around) (base h₀ : Heap) (L : Addr) (m : Str → Option Value) (s : Shared) (Q E : Value → Shared → Prop)
    (news : List (Addr × Obj)) (lr li : Addr) (vs : List Value) (segs : List Sg) (nr : Nat) (vi : List Value) (ns : List Int) (ni : Nat)
    (B : Below A₀ base outer h₀) (F : Fr h₀ L s.heap m) (X : (kmake.heap_1 w.params).In h₀) (N : News h₀ L s.heap news) (T : Top vw (looseW vw looseL) mean mg mb h₀) (hk : cs.kind = .function)
    (S : SegsIn news vs segs) (hlr : (lr, listOf vs.toArray nr) ∈ news) (hli : (li, listOf vi.toArray ni) ∈ news) (hI : Idents5 vi ns) (hd : dp + 3 < recursionLimit) (hu : un + 120 < cLine)
    (hret : ∀ (t : Tok) (h' : Heap) (tk' : Nat), Fr h₀ L h' m → News h₀ L h' news → Q (.str (dueS segs ns) t) { s with heap := h', toks := tk' }) :
    wpAny (model pg51 w) (ktrTop dp un gd cn cs L a ccd cl outer) (call (.ref 348) [.ref lr, .ref li]) Q E s := by
  refine wpAny_call ?_
  k_dflt cell_enter
  k_steps
  (refine' due_for ?kS ?kF ?kN ?kh ?kl ?ke ?k1 ?k2 ?k3 ?k4 ?kt ?kd0 ?kd1 ?kg ?kp)
  (case kS => assumption)
  (case kF => k_asm)
  (case kN => first | k_asm | exact news_tail (by k_asm) | exact news_tail (news_tail (by k_asm)) | exact news_tail (news_tail (news_tail (by k_asm))))
  (case kh => exact rfl)
  (case kl => assumption)
  (case ke => intro Q' hQ'; exact ld (by k_asm) rfl hQ')
  (case k1 => exact rfl)
  (case k2 => exact rfl)
  (case k3 => exact rfl)
  (case k4 => exact rfl)
  (case kg => intro _; rfl)
  (case kp => passes_own)
  (case' kd0 => (intros; (rename Idents5 _ _ => hI5); cases hI5))
  (case' kd1 => (intros; (rename Idents5 _ _ => hI5); cases hI5))
  (case' kt => intros)
  all_goals (try k_fold)
  all_goals k_steps
  all_goals try (first
    | exact due_q (dueS_stop (by assumption) (by assumption) (st_short (by assumption) (by assumption) (by assumption))) (hret _ _ _ (by k_asm) (by first | k_asm | exact news_own (by k_asm) | exact news_tail (by k_asm) | exact news_tail (news_tail (by k_asm)) | exact news_tail (news_tail (news_tail (by k_asm)))))
    | exact due_q (dueS_stop (by assumption) (by assumption) (st_three (by assumption) (by assumption) (by assumption))) (hret _ _ _ (by k_asm) (by first | k_asm | exact news_own (by k_asm) | exact news_tail (by k_asm) | exact news_tail (news_tail (by k_asm)) | exact news_tail (news_tail (news_tail (by k_asm)))))
    | exact due_q (dueS_c1 (by assumption)) (hret _ _ _ (by k_asm) (by first | k_asm | exact news_tail (by k_asm) | exact news_tail (news_tail (by k_asm)) | exact news_tail (news_tail (news_tail (by k_asm)))))
    | exact due_q (dueS_c2 (by assumption)) (hret _ _ _ (by k_asm) (by first | k_asm | exact news_tail (by k_asm) | exact news_tail (news_tail (by k_asm)) | exact news_tail (news_tail (news_tail (by k_asm)))))
    | exact due_q (dueS_c5 (by assumption)) (hret _ _ _ (by k_asm) (by first | k_asm | exact news_tail (by k_asm) | exact news_tail (news_tail (by k_asm)) | exact news_tail (news_tail (news_tail (by k_asm)))))
    | exact due_q (dueS_c3j (by assumption) (by assumption)) (hret _ _ _ (by k_asm) (by first | k_asm | exact news_tail (by k_asm) | exact news_tail (news_tail (by k_asm)) | exact news_tail (news_tail (news_tail (by k_asm)))))
    | exact due_q (dueS_c3z (by assumption) (by assumption) (by assumption)) (hret _ _ _ (by k_asm) (by first | k_asm | exact news_tail (by k_asm) | exact news_tail (news_tail (by k_asm)) | exact news_tail (news_tail (news_tail (by k_asm)))))
    | exact due_q (dueS_c3k (by assumption) (by assumption) (by assumption)) (hret _ _ _ (by k_asm) (by first | k_asm | exact news_tail (by k_asm) | exact news_tail (news_tail (by k_asm)) | exact news_tail (news_tail (news_tail (by k_asm)))))
    | exact due_q (dueS_c3y (by assumption) (by assumption) (by assumption)) (hret _ _ _ (by k_asm) (by first | k_asm | exact news_tail (by k_asm) | exact news_tail (news_tail (by k_asm)) | exact news_tail (news_tail (news_tail (by k_asm)))))
    | exact due_q (dueS_c3o (by assumption) (by assumption) (by assumption)) (hret _ _ _ (by k_asm) (by first | k_asm | exact news_tail (by k_asm) | exact news_tail (news_tail (by k_asm)) | exact news_tail (news_tail (news_tail (by k_asm)))))
    | exact due_q (dueS_c4y (by assumption) (by assumption)) (hret _ _ _ (by k_asm) (by first | k_asm | exact news_tail (by k_asm) | exact news_tail (news_tail (by k_asm)) | exact news_tail (news_tail (news_tail (by k_asm)))))
    | exact due_q (dueS_c4c (by assumption) (by assumption)) (hret _ _ _ (by k_asm) (by first | k_asm | exact news_tail (by k_asm) | exact news_tail (news_tail (by k_asm)) | exact news_tail (news_tail (news_tail (by k_asm)))))
    | exact due_q (dueS_c4n (by assumption)) (hret _ _ _ (by k_asm) (by first | k_asm | exact news_tail (by k_asm) | exact news_tail (news_tail (by k_asm)) | exact news_tail (news_tail (news_tail (by k_asm))))))
  all_goals try (exact due_end2 (by k_asm) (by k_asm) (by first | exact fun _ h => h | exact fun _ h => .tail _ h | exact fun _ h => .tail _ (.tail _ h)) (by assumption) (by assumption) (by exact rfl) (by exact rfl) (by exact rfl) (by exact rfl) (by first | assumption | exact .some _ _) (by first | exact st_A (by assumption) (by assumption) (by assumption) (by assumption) | exact st_A3 (by assumption) (by assumption) (by assumption) (by assumption) (by assumption) | exact st_A4 (by assumption) (by assumption) (by assumption) (by assumption) (by assumption) | exact st_B (by assumption) (by assumption) | exact st_B3 (by assumption) (by assumption) (by assumption) | exact st_B4 (by assumption) (by assumption) (by assumption) | exact st_Cj (by assumption) (by assumption) | exact st_C2 (by assumption) (by assumption) (by assumption) | exact st_C3 (by assumption) (by assumption) (by assumption) | exact st_C4 (by assumption) (by assumption) (by assumption)))

end
section
open PySem PySem.W PyProof.Rows PySem.Calls
noncomputable abbrev excObj (C t : Addr) (d : Option Addr) : Obj := { cls := .ref C, dict := d, data := .fields #[.ref t, .none, .none, .none, .bool false, .none] }
noncomputable abbrev excMro (C D : Addr) : List Value := [.ref C, .ref D, .type "Exception", .type "BaseException", .type "object"]
section
variable {w : World} {A : Around} {E : Value → Shared → Prop} {s : Shared} {h₀ : Heap} {L : Addr} {m : Str → Option Value} {rest : List (Addr × Obj)} {K : Frag} {C D e t : Addr} {cd : ClassData}

theorem exc_inst {x : Addr} {o : Obj} {h : Heap} (he : h.get? x = some o) (hcl : o.cls = .ref C) (hno : notCls o = true) (hd : o.dict = none) : InstAt h x o C none :=
  ⟨he, hcl, hno, by rw [hd]; trivial⟩

theorem exc_osa {name : Str} {v : Value} {tk : Tok} {R : Result → Shared → Prop} (F : Fr h₀ L s.heap m) (X₀ : K.In h₀) (N : News h₀ L s.heap ((e, excObj C t none) :: rest)) (hoff : ∀ p ∈ rest, p.1 ≠ e)
    (hc : clsIn K C = some cd) (hm : cd.mro = excMro C D) (hd : cd.hasDict = true) (hn : findIn K (.ref C) name = some none)
    (h : ∀ d h' tk', Fr h₀ L h' m → News h₀ L h' ((e, excObj C t (some d)) :: rest) → R (.ok (.ret .none)) { s with heap := h', toks := tk' }) :
    codeAny (model pg51 w) A (.call (.builtin "object.__setattr__") ⟨[.ref e, .str name tk, v], []⟩) R s := by
  have X := X₀.keeps F.keep
  have he := (N _ (.head _)).1
  have I : InstAt s.heap e (excObj C t none) C none := exc_inst he rfl rfl rfl
  have SF := PySem.F.store_object
  have sub : Looks (model pg51 w) s.heap (isInstance (.ref e) (.type "object")) true := I.type.andThen (looks_mroIn X (by unfold mroIn; rw [hc, Option.bind_some, if_neg (by rw [hm]; simp), hm]; simp))
  refine codeAny_call_builtin SF.slot.plain SF.entry (@check_slot (model pg51 w) _ _ _ "object.__setattr__" "object" "__setattr__" (.ref e) [.str name tk, v] [] _ SF.kind SF.split sub (SF.args _ _ _) ?_)
  have hmr : Looks (model pg51 w) s.heap (mroOf (.ref C)) cd.mro := (looks_clsIn X hc).andThen .now
  rw [osa_eq, refuse_eq]
  refine wpAny_bind (wpAny_bind (I.type.here (wpAny_bind (hmr.here ?_))))
  rw [hm, refuseLoop_ref, refuseLoop_ref, PySem.F.store_Exception.passes]
  refine wpAny_pure (wpAny_bind (I.type.here ?_))
  refine wpAny_bind ((looks_findIn X hn).here ?_)
  refine wpAny_bind (wpAny_pure ?_)
  unfold Builtin.ObjectAttr.storeInOwnDict
  refine wpAny_bind (wpAny_pure ?_)
  unfold Builtin.ObjectAttr.ownDictForStores instanceDict
  refine wpAny_bind (wpAny_bind (wpAny_loadPart he (wpAny_bind ((looks_clsIn X hc).here ?_))))
  rw [hd]
  have N1 := News.push F N { cls := .type "dict", data := .dict #[] }
  have F1 := F.push { cls := .type "dict", data := .dict #[] }
  have l1 : ∀ p ∈ (e, excObj C t none) :: rest, p.1 < s.heap.objs.size := fun p hp => Heap.lt_size (N p hp).1
  obtain ⟨F2, N2⟩ := news_upd (pre := [(s.heap.objs.size, { cls := .type "dict", data := .dict #[] })]) (post := rest) (d := e) (o := excObj C t none) (f := fun o => { o with dict := some s.heap.objs.size }) F1 N1 (fun p hp => by rw [List.mem_singleton.mp hp]; exact Nat.ne_of_gt (l1 _ (.head _))) hoff rfl rfl
  refine wpAny_bind (wpAny_alloc' ?_)
  refine wpAny_bind (wpAny_update' (N1 _ (.tail _ (.head _))).1 ?_)
  refine wpAny_pure ?_
  have hnd : ((s.heap.push { cls := .type "dict", data := .dict #[] }).update e fun o => { o with dict := some s.heap.objs.size }).Ns s.heap.objs.size (fun _ => none) :=
    ⟨_, #[], _, (N2 _ (.head _)).1, rfl, fun e he => absurd he (by simp), fun _ => rfl⟩
  show wpAny _ _ (Builtin.ObjectAttr.storeInDict s.heap.objs.size (.str name tk) name v) _ _ _
  unfold Builtin.ObjectAttr.storeInDict Builtin.ObjectAttr.newKeyGuard
  refine wpAny_bind (wpAny_pure (wpAny_bind (wpAny_nsSet1 (Heap.Ns1.of_empty hnd) fun h' hn' hs => ?_)))
  obtain ⟨oD, esD, epD, hoD, hdD, hcD⟩ := hn'.count (Within.cons name v Within.nil)
  refine wpAny_bind (wpAny_lookBehind hoD (by rw [hdD]; exact pastItsLine_dict (Nat.le_trans hcD (by rw [List.length_cons, List.length_nil, sizeLine_eq]; omega))) ?_)
  have z := N2 _ (.head _)
  refine wpAny_pure (h s.heap.objs.size h' _ (F2.change hs z.2.1 z.2.2) fun p hp => ?_)
  have ne : p.1 ≠ s.heap.objs.size := by
    rcases List.mem_cons.mp hp with rfl | hp
    · exact Nat.ne_of_lt (l1 (e, excObj C t none) (.head _))
    · exact Nat.ne_of_lt (l1 _ (.tail _ hp))
  have P := N2 p (by rcases List.mem_cons.mp hp with rfl | hp; exact .tail _ (.head _); exact .tail _ (.tail _ hp))
  exact ⟨(hs.2 _ ne).trans P.1, P.2⟩
theorem exc_store {name : Str} {v : Value} {Q : Unit → Shared → Prop} (F : Fr h₀ L s.heap m) (X₀ : K.In h₀) (N : News h₀ L s.heap ((e, excObj C t none) :: rest)) (hoff : ∀ p ∈ rest, p.1 ≠ e)
    (hs : findIn K (.ref C) "__setattr__" = some (some (.builtin "object.__setattr__"))) (hc : clsIn K C = some cd) (hm : cd.mro = excMro C D) (hd : cd.hasDict = true) (hn : findIn K (.ref C) name = some none)
    (h : ∀ d h' tk', Fr h₀ L h' m → News h₀ L h' ((e, excObj C t (some d)) :: rest) → Q () { s with heap := h', toks := tk' }) :
    wpAny (model pg51 w) A (setAttr (.ref e) name v) Q E s :=
  set_plain (X₀.keeps F.keep) (exc_inst (N _ (.head _)).1 rfl rfl rfl) hs (exc_osa (s := { s with toks := s.toks + 1 }) F X₀ N hoff hc hm hd hn fun d h' tk' F' N' => h d h' tk' F' N')
section
variable {h : Heap} {g : Array GenState} {d : Drawn} {tk : Nat} {os : OsState} {nm q : Str} {N : Addr} {bs : List Value} {hdct : Bool} {sn : List Str} {sub : List Value} {ab : Bool} {col : Option Bool} {dd : Option Addr} {k0 k1 k2 k3 k5 : Option Value}
noncomputable abbrev excCls (nm q : Str) (C D N : Addr) (bs : List Value) (hdct : Bool) (sn : List Str) (sub : List Value) (ab : Bool) (col : Option Bool) (dd : Option Addr) (k0 k1 k2 k3 k5 : Option Value) : Obj :=
  excClassObj nm q C N bs [.ref D, .type "Exception", .type "BaseException", .type "object"] hdct sn sub ab col dd k0 k1 k2 k3 k5 "Exception.__new__"
theorem exc_check {v : Value} {M : Model} {oe : Obj} {Q : Unit → Shared → Prop} (hC : h.get? C = some (excCls nm q C D N bs hdct sn sub ab col dd k0 k1 k2 k3 k5)) (he : h.get? e = some oe) (hcls : oe.cls = .ref C) (hq : Q () ⟨h, g, d, tk, os⟩) :
    wpAny M A (checkBuiltinCall "Exception.__init__" ⟨[.ref e, v], []⟩) Q E ⟨h, g, d, tk, os⟩ := by
  have SF := PySem.F.excBase_Exception
  have hcB : (Value.ref C :: [.ref D, .type "Exception", .type "BaseException", .type "object"]).contains (.type "Exception") = true := by simp
  have hshort := SF.noStar
  simp only [checkBuiltinCall, SF.initKind, SF.initSplit, SF.initRow]
  repeat (first | (with_reducible refine wpAny_loadPart_at he ?_; rw [hcls]) | with_reducible refine wpAny_loadPart_at hC ?_ | (with_reducible refine wpAny_isSubtype_exc hC ?_; rw [hcB]) | wp_step)
  exact hq
theorem exc_check_new {rest : List Value} {M : Model} {Q : Unit → Shared → Prop} (hC : h.get? C = some (excCls nm q C D N bs hdct sn sub ab col dd k0 k1 k2 k3 k5)) (hq : Q () ⟨h, g, d, tk, os⟩) :
    wpAny M A (checkBuiltinCall "Exception.__new__" ⟨.ref C :: rest, []⟩) Q E ⟨h, g, d, tk, os⟩ := by
  have SF := PySem.F.excBase_Exception
  have hcB : (Value.ref C :: [.ref D, .type "Exception", .type "BaseException", .type "object"]).contains (.type "Exception") = true := by simp
  have hstar := SF.noStar
  simp only [checkBuiltinCall, SF.newKind, SF.newSplit, SF.newRow]
  repeat (first | refine wpAny_loadPart_at hC ?_ | (refine wpAny_isSubtype_exc hC ?_; rw [hcB]) | refine wpAny_staticBase_exc hC ?_ | refine wpAny_madeBy_exc hC ?_ | simp only [bne_self_eq_false, Bool.false_eq_true, if_false] | wp_step)
  exact hq
theorem exc_code_new {rest : List Value} {R : Result → Shared → Prop} (hC : h.get? C = some (excCls nm q C D N bs hdct sn sub ab col dd k0 k1 k2 k3 k5))
    (hq : R (.ok (.ret (.ref (h.objs.size + 1)))) ⟨(h.push { cls := .type "tuple", data := .seq rest.toArray }).push (excObj C h.objs.size none), g, d, tk, os⟩) (hrest : rest.length ≤ sizeLine := by size_fits) :
    codeAny (model pg51 w) A (.builtin "Exception.__new__" ⟨.ref C :: rest, []⟩) R ⟨h, g, d, tk, os⟩ := by
  have SF := PySem.F.excBase_Exception
  have hends := SF.ends
  have hcB : (Value.ref C :: [.ref D, .type "Exception", .type "BaseException", .type "object"]).contains (.type "Exception") = true := by simp
  have hcA : (Value.ref C :: [.ref D, .type "Exception", .type "BaseException", .type "object"]).contains (.type "AttributeError") = false := by simp
  have hcN : (Value.ref C :: [.ref D, .type "Exception", .type "BaseException", .type "object"]).contains (.type "NameError") = false := by simp
  refine codeAny_builtinAt SF.entry ?_
  unfold Builtin.«BaseException.__new__»
  refine PySem.wpAt_bind ?_
  show PySem.wpAt _ _ _ (stack >>= _) _ _ _
  refine PySem.wpAt_bind (PySem.wpAt_stack fun p below => PySem.wpAt_of_wpAny ?_)
  wp_walk
  refine PySem.wpAt_of_wpAny ?_
  rw [SF.owner]
  repeat (first | with_reducible refine wpAny_madeHere_exc SF.canon hC ?_ | with_reducible refine wpAny_loadPart_at hC ?_ | (with_reducible refine wpAny_isSubtype_exc hC ?_; first | rw [hcB] | rw [hcA] | rw [hcN]) | wp_step)
  show R _ _
  rw [Heap.size_push]
  exact hq
end
theorem exc_init {v : Value} {Q : Value → Shared → Prop} (F : Fr h₀ L s.heap m) (X₀ : K.In h₀) (N : News h₀ L s.heap ((e, excObj C t none) :: rest)) (hoff : ∀ p ∈ rest, p.1 ≠ e)
    {nm q : Str} {N₀ : Addr} {bs : List Value} {hdct : Bool} {sn : List Str} {sub : List Value} {ab : Bool} {col : Option Bool} {dd : Option Addr} {k0 k1 k2 k3 k5 : Option Value} (hK : K.lookup C = some (excCls nm q C D N₀ bs hdct sn sub ab col dd k0 k1 k2 k3 k5))
    (h : ∀ t' h', Fr h₀ L h' m → News h₀ L h' ((e, excObj C t' none) :: rest) → Q .none { s with heap := h' }) :
    wpAny (model pg51 w) A (call (.builtin "Exception.__init__") [.ref e, v]) Q E s := by
  have X := X₀.keeps F.keep
  have he := (N _ (.head _)).1
  have I : InstAt s.heap e (excObj C t none) C none := exc_inst he rfl rfl rfl
  have SF := PySem.F.excBase_Exception
  have hC := X _ _ hK
  refine wpAny_call (codeAny_call_builtin SF.init.plain SF.initEntry (exc_check hC he rfl ?_))
  have N1 := News.push F N { cls := .type "tuple", data := .seq [v].toArray }
  have F1 := F.push { cls := .type "tuple", data := .seq [v].toArray }
  have l1 : ∀ p ∈ (e, excObj C t none) :: rest, p.1 < s.heap.objs.size := fun p hp => Heap.lt_size (N p hp).1
  obtain ⟨F2, N2⟩ := news_upd (pre := [(s.heap.objs.size, { cls := .type "tuple", data := .seq [v].toArray })]) (post := rest) (d := e) (o := excObj C t none) (f := Obj.mapFields (·.setIfInBounds 0 (.ref s.heap.objs.size))) F1 N1 (fun p hp => by rw [List.mem_singleton.mp hp]; exact Nat.ne_of_gt (l1 _ (.head _))) hoff rfl rfl
  unfold Builtin.«BaseException.__init__»
  dsimp only
  rw [if_neg (by simp)]
  unfold newTuple Builtin.BaseException.bexcPut
  have he₁ := (N1 _ (.tail _ (.head _))).1
  refine wpAny_bind (wpAny_newObj_type (wpAny_bind (wpAny_bind (wpAny_field he₁ rfl rfl (wpAny_bind (wpAny_setField he₁ rfl (Nat.le_of_ble_eq_true rfl) ?_))))) (by size_fits))
  exact wpAny_letGo (wpAny_pure (h s.heap.objs.size _ F2 fun p hp => N2 p (.tail _ hp)))
end

end
section
open PySem PySem.W PyProof.Rows PySem.Calls
section
variable {w : World} {A : Around} {E : Value → Shared → Prop} {s : Shared} {h₀ : Heap} {L : Addr} {m : Str → Option Value} {news : List (Addr × Obj)} {K : Frag} {C D : Addr}
variable {nm q : Str} {N₀ : Addr} {bs : List Value} {hdct : Bool} {sn : List Str} {sub : List Value} {ab : Bool} {col : Option Bool} {dd : Option Addr} {k0 k1 k2 k3 k5 : Option Value}
/-- an own exception class with an own __init__: the call makes the object, then calls the __init__ -/
theorem exc_make {rest : List Value} {fI : Addr} {Q : Value → Shared → Prop} (F : Fr h₀ L s.heap m) (X₀ : K.In h₀) (N : News h₀ L s.heap news)
    (hK : K.lookup C = some (excCls nm q C D N₀ bs hdct sn sub ab col dd k0 k1 k2 k3 k5)) (hi : findIn K (.ref C) "__init__" = some (some (.ref fI))) (hf : isFn K (.ref fI) = true)
    (h : ∀ e t h', Fr h₀ L h' m → News h₀ L h' ((e, excObj C t none) :: news) → (∀ p ∈ news, p.1 ≠ e) →
      wpAny (model pg51 w) (A.under (.builtin "type.__call__" ⟨.ref C :: rest, []⟩)) (call (.ref fI) (.ref e :: rest)) (fun r s' => r = .none ∧ Q (.ref e) s') E { s with heap := h' })
    (hrest : rest.length ≤ sizeLine := by size_fits) :
    wpAny (model pg51 w) A (call (.ref C) rest) Q E s := by
  have X := X₀.keeps F.keep
  have hC := X _ _ hK
  have SF := PySem.F.excBase_Exception
  have f1 := tc_lookup
  have f2 := tc_bind (.ref C)
  have hT : s.TypeIs (.ref C) "type" := ⟨_, hC, rfl⟩
  have hcC : (Value.ref C :: [.ref D, .type "Exception", .type "BaseException", .type "object"]).contains (.ref C) = true := by simp
  obtain ⟨hp, g, d, tk, os⟩ := s
  refine wpAny_call (codeAny_of_tree ?_)
  show wpAny _ _ (callAny (.ref C) _) _ _ _
  repeat (any_goals (first | assumption | with_reducible refine wpAny_loadPart_at hC ?_ | wp_step))
  refine ⟨rfl, ?_⟩
  refine codeAny_call_builtin_at (Code.quiet_builtin _ (by decide +kernel)) entry_typeCall (wpAny_check_type_call_sub hC ?_)
  repeat (first | with_reducible refine wpAny_loadPart_at hC ?_ | with_reducible refine wpAny_madeBy_exc hC ?_ | wp_step)
  refine codeAny_call_builtin_code (Code.quiet_builtin _ SF.quiet) (exc_check_new hC ?_)
  refine exc_code_new hC ?_ hrest
  show wpAny _ _ _ _ _ _
  have F1 := F.push { cls := .type "tuple", data := .seq rest.toArray }
  have N1 := News.push F N { cls := .type "tuple", data := .seq rest.toArray }
  have F2 := F1.push (excObj C hp.objs.size none)
  have N2 := News.push F1 N1 (excObj C hp.objs.size none)
  have N3 : News h₀ L ((hp.push { cls := .type "tuple", data := .seq rest.toArray }).push (excObj C hp.objs.size none)) ((hp.objs.size + 1, excObj C hp.objs.size none) :: news) := fun p hp' => by
    rcases List.mem_cons.mp hp' with rfl | hp'
    · have := N2 _ (.head _)
      rwa [Heap.size_push] at this
    · exact N2 _ (.tail _ (.tail _ hp'))
  have Xn := X₀.keeps F2.keep
  have hC₂ := Xn _ _ hK
  have hget : ((hp.push { cls := .type "tuple", data := .seq rest.toArray }).push (excObj C hp.objs.size none)).get? (hp.objs.size + 1) = some (excObj C hp.objs.size none) := (N3 _ (.head _)).1
  unfold isInstance
  repeat (first | with_reducible refine wpAny_loadPart_at hget ?_ | wp_step)
  refine wpAny_isSubtype_exc (C := C) hC₂ ?_
  rw [hcC]
  repeat wp_step
  show wpAny _ _ (typeLookup (.ref C) _) _ _ _
  refine (looks_findIn Xn hi).here ?_
  refine wpAny_holding (wpAny_bind ?_)
  unfold bindSpecial
  refine wpAny_bind ((looks_typeIn Xn (beq_iff_eq.mp hf)).here ?_)
  rw [if_pos (by decide)]
  refine wpAny_pure (wpAny_bind (wpAny_mono (h (hp.objs.size + 1) hp.objs.size _ F2 N3 fun p hp' => Nat.ne_of_lt (Nat.lt_succ_of_lt (Heap.lt_size (N p hp').1))) (fun r s' hr => ?_) fun _ _ x => x))
  obtain ⟨rfl, hQ⟩ := hr
  wp_walk
  exact hQ
end

end
section
open PySem PySem.W PyProof.Rows PySem.Calls
/-- what «raise C(..)» must show: the made object, and the end for the passing exception -/
noncomputable def RaisesNow (K : Frag) (C : Addr) (E : Value → Shared → Prop) (v : Value) (s : Shared) : Prop :=
  ∃ e t d, v = .ref e ∧ K.In s.heap ∧ s.heap.get? e = some (excObj C t d) ∧ E (.ref e) s
section
variable {prog : Program} {w : World} {A : Around} {E : Value → Shared → Prop} {s : Shared} {env : Env} {K : Frag} {C D : Addr}
variable {nm q : Str} {N₀ : Addr} {bs : List Value} {hdct : Bool} {sn : List Str} {sub : List Value} {ab : Bool} {col : Option Bool} {dd : Option Addr} {k0 k1 k2 k3 k5 : Option Value}
theorem raiseStmt_own {x : Sem Value} {Q : Flow → Shared → Prop} (hh : A.handled = none) (hK : K.lookup C = some (excCls nm q C D N₀ bs hdct sn sub ab col dd k0 k1 k2 k3 k5))
    (h : wpAny (model prog w) A x (RaisesNow K C E) E s) : wpAny (model prog w) A (raiseStmt env (some x) none) Q E s := by
  have hcB : (Value.ref C :: [.ref D, .type "Exception", .type "BaseException", .type "object"]).contains (.type "BaseException") = true := by simp
  unfold raiseStmt
  refine wpAny_bind (wpAny_mono h (fun v s₁ h₁ => ?_) fun _ _ x => x)
  obtain ⟨e, t, d, rfl, X, he, hE⟩ := h₁
  have hC := X _ _ hK
  obtain ⟨hp, g, d, tk, os⟩ := s₁
  repeat (first | with_reducible refine wpAny_loadPart_at he ?_ | with_reducible refine wpAny_loadPart_at hC ?_ | (with_reducible refine wpAny_isSubtype_exc hC ?_; rw [hcB]) | wp_step)
  exact wpAny_raiseNew_none hh hE
theorem raise_own {x : Expr} {pos : Pos} {Q : Flow → Shared → Prop} (hh : A.handled = none) (hK : K.lookup C = some (excCls nm q C D N₀ bs hdct sn sub ab col dd k0 k1 k2 k3 k5))
    (h : wpAny (model prog w) A (eval x env) (RaisesNow K C E) E s) : wpAny (model prog w) A (exec (.Raise (some x) none pos) env) Q E s := by
  rw [arm_exec_Raise]
  first
    | exact wpAny_bind (wpAny_standAt (raiseStmt_own hh hK (wpAny_bind (wpAny_mono h (fun v s₁ h₁ => wpAny_bind (wpAny_standAt (wpAny_pure h₁))) fun _ _ x => x))))
    | (simp only [evalOpt, Option.map]; exact wpAny_bind (wpAny_standAt (raiseStmt_own hh hK (wpAny_bind (wpAny_mono h (fun v s₁ h₁ => wpAny_bind (wpAny_standAt (wpAny_pure h₁))) fun _ _ x => x)))))
    | (show wpAny (model prog w) A (do standAt pos; raiseStmt env (some (do let v ← eval x env; standAt pos; pure v)) none) Q E s; exact wpAny_bind (wpAny_standAt (raiseStmt_own hh hK (wpAny_bind (wpAny_mono h (fun v s₁ h₁ => wpAny_bind (wpAny_standAt (wpAny_pure h₁))) fun _ _ x => x)))))
end
section
variable {M : Model} {A : Around} {E : Value → Shared → Prop} {s' : Shared} {base g : Heap} {outer : List Env} {L a e t C : Addr} {d : Option Addr} {m : Str → Option Value} {name : Str} {scope : Scope} {cd : Value} {Q : Unit → Shared → Prop} {news : List (Addr × Obj)}
/-- the first frame that a made exception of an own class leaves -/
theorem leave_exc (K : Below A base outer g) (F : Fr g L s'.heap m) (N : News g L s'.heap ((e, excObj C t d) :: news)) (hoff : ∀ p ∈ news, p.1 ≠ e)
    (hQ : ∀ h', RaisedSN base g outer e (.ref C) news h' → g.UpToSlots h' → Q () { s' with heap := h' }) (hk : scope.kind = .function := by rfl) :
    wpAny M (A.deeper (envOf name scope L a cd)) (leaving (envOf name scope L a cd) (.ref e)) Q E s' := by
  have K' := K.push (name := name) (a := a) (cd := cd) F hk
  have he := N _ (.head _)
  have nf : ∀ b o, g.get? b = some o → b ≠ e := fun b o q z => by rw [z, he.2.2] at q; cases q
  have hin : ∀ env ∈ (envOf name scope L a cd :: outer), ∀ b, env.frame = some b → b ∈ e :: (envOf name scope L a cd :: outer).filterMap (·.frame) := fun env he b hb => .tail _ (List.mem_filterMap.mpr ⟨env, he, hb⟩)
  have ge : ∀ b o, base.get? b = some o → b ≠ e := fun b o q => nf b o (K.stays b o q)
  have st : base.StaysIn (hideAll s'.heap (e :: (envOf name scope L a cd :: outer).filterMap (·.frame))) := fun b o q => hideAll_get _ (K'.stays b o q) fun hm => by
    rcases List.mem_cons.mp hm with z | hm
    · exact ge b o q z
    · rw [(K'.frames.mem hm).1] at q; cases q
  have sg : ∀ b o, g.get? b = some o → b ∉ outer.filterMap (·.frame) → (hideAll s'.heap (e :: (envOf name scope L a cd :: outer).filterMap (·.frame))).get? b = some o := fun b o q nm => hideAll_get _ (F.keep b o q) fun hm => by
    rcases List.mem_cons.mp hm with z | hm
    · exact nf b o q z
    rcases kts_mem hm with z | z
    · rw [z, kts_self F] at q
      cases q
    · exact nm z
  have hl : ∀ q ∈ news, (hideAll s'.heap (e :: (envOf name scope L a cd :: outer).filterMap (·.frame))).get? q.1 = some q.2 ∧ g.get? q.1 = none ∧ base.get? q.1 = none := fun q hq => by
    have Nq := N q (.tail _ hq)
    refine ⟨hideAll_get _ Nq.1 fun hm => ?_, Nq.2.2, fresh_of_stays K.stays Nq.2.2⟩
    rcases List.mem_cons.mp hm with z | hm
    · exact hoff q hq z
    obtain ⟨env, he, hf⟩ := List.mem_filterMap.mp hm
    rcases List.mem_cons.mp he with rfl | he
    · exact Nq.2.1 (Option.some.inj hf).symm
    · obtain ⟨o, ho, _⟩ := (K.frames.mem (List.mem_filterMap.mpr ⟨env, he, hf⟩)).2
      rw [Nq.2.2] at ho; cases ho
  have hen : (hideAll s'.heap (e :: (envOf name scope L a cd :: outer).filterMap (·.frame))).get? e = none := hideAll_none _ (.head _)
  refine wpAny_leaving_firstW (a0 := .ref t) K'.stack ((funFrames_hide K'.frames hin).of_keeps fun b o hb _ => ⟨o, hb, rfl⟩) rfl he.1 (fun b o hb => of_hideAll _ hb) hen rfl rfl rfl fun h' hL => ?_
  obtain ⟨k1, ⟨_, _, k2⟩, k3, k4⟩ := hL
  have R : RaisedSN base g outer e (.ref C) news h' := ⟨_, .ref t, st, sg, hl, k1, hen, k2, k3⟩
  exact hQ h' R ((Heap.UpToSlots.of_keeps F.keep).trans k4)
/-- a raise's end, all in one: the made object of the ledger's head, and the frame left -/
theorem raise_end {K : Frag} {E' : Value → Shared → Prop} {tk : Nat} {h₉ : Heap} {big : List (Addr × Obj)} (N : News g L h₉ ((e, excObj C t d) :: big)) (B : Below A base outer g) (F : Fr g L h₉ m) (X : K.In g) (hoff : ∀ p ∈ big, p.1 ≠ e) (hs : ∀ p ∈ news, p ∈ big)
    (hE : wpAny M (A.deeper (envOf name scope L a cd)) (leaving (envOf name scope L a cd) (.ref e)) Q E { s' with heap := h₉, toks := tk } → E' (.ref e) { s' with heap := h₉, toks := tk })
    (hQ : ∀ h', RaisedSN base g outer e (.ref C) news h' → g.UpToSlots h' → Q () { s' with heap := h', toks := tk }) (hk : scope.kind = .function := by rfl) :
    RaisesNow K C E' (.ref e) { s' with heap := h₉, toks := tk } :=
  ⟨e, t, d, rfl, X.keeps F.keep, (N _ (.head _)).1, hE (leave_exc (s' := { s' with heap := h₉, toks := tk }) B F (fun p hp => N p (by rcases List.mem_cons.mp hp with z | z; exact z ▸ .head _; exact .tail _ (hs p z))) (fun p hp => hoff p (hs p hp)) hQ hk)⟩
end
section
variable {prog : Program} {w : World} {A₀ A : Around} {s : Shared} {h₀ : Heap} {L : Addr} {m : Str → Option Value} {env : Env} {news : List (Addr × Obj)} {K : Frag} {p : Program} {loose : List Str} {mean : ExcName → Option Value} {mg mb : Str → Option Value}
    {R : Result → Shared → Prop} {name qual : Str} {params : Arguments} {body : List Stmt} {scope : Scope} {dV kV doc pm cdv ct oc : Value} {an od : Option Addr} {osl : Array (Option Value)} {f : Addr} {args : Args} {binds : List (Str × Value)}
/-- the call of a def that holds a try, out of the law's own frame -/
theorem code_defL (B : Below A₀ h₀ [] h₀) (F : Fr h₀ L s.heap m) (X₀ : K.In h₀) (N : News h₀ L s.heap news) (T : Top p loose mean mg mb h₀) (hA : A.frames = some [env]) (hL : env.frame = some L) (hke : env.scope.kind ≠ .module)
    (ho : K.lookup f = some ⟨oc, od, .func (fnOf name qual params body scope dV kV doc pm an cdv ct), osl⟩) (hcd : codeIn K cdv qual = true) (hroom : A.depth < recursionLimit)
    (hbind : BindsTo s (fnOf name qual params body scope dV kV doc pm an cdv ct) args binds) (hloc : ∀ y ∈ binds, scope.names.lookup y.1 = some .local)
    (h : ∀ g L' h₁, Fr h₀ L g m → Fr g L' h₁ (fun y => binds.reverse.lookup y) → News g L' h₁ news → Below A h₀ [env] g → K.In h₀ → Top p loose mean mg mb h₀ → K.In g → Top p loose mean mg mb g → KtsDicts ([env].filterMap (·.frame)) g →
      wpAny (model prog w) (A.deeper (envOf qual scope L' f cdv)) (execs body (envOf qual scope L' f cdv))
        (fun fl s' => LeaveS0 ([env].filterMap (·.frame)) h₀ L m g R (match fl with | .ret v => v | _ => .none) s')
        (fun e s' => wpAny (model prog w) (A.deeper (envOf qual scope L' f cdv)) (leaving (envOf qual scope L' f cdv) e) (fun _ s'' => R (.error e) s'') (fun e' s'' => R (.error e') s'') s')
        { s with heap := h₁, toks := s.toks + binds.length })
    (hco : scope.isCoroutine = false) (hgen : scope.isGenerator = false) (hk : scope.kind = .function)
    (hcell : ∀ x ∈ scope.names, x.2 ≠ .cell) : codeAny (model prog w) A (.call (.ref f) args) R s := by
  have X := X₀.keeps F.keep
  refine codeAny_call_def (fd := fnOf name qual params body scope dV kV doc pm an cdv ct) (body := body) (binds := binds) hroom (X _ _ ho) rfl (T.nolimit.keeps F.keep) (codeRec_of X hcd) rfl hbind hcell hloc (fun h₁ hns hk₁ => ?_) hco hgen hk
  have nm : ∀ b o, h₀.get? b = some o → b ∉ news.map (·.1) := fun b o e q => by
    obtain ⟨p, hp, rfl⟩ := List.mem_map.mp q
    rw [(N p hp).2.2] at e; cases e
  have st : h₀.StaysIn (hideAll s.heap (news.map (·.1))) := fun b o e => hideAll_get _ (F.keep b o e) (nm b o e)
  obtain ⟨oL, es, ep, hLo, hLd, hLk, hLf⟩ := F.ns
  have nL : L ∉ news.map (·.1) := fun q => by
    obtain ⟨p, hp, e⟩ := List.mem_map.mp q
    exact (N p hp).2.1 e
  have hLg := hideAll_get (news.map (·.1)) hLo nL
  have hN : ∀ h', h'.get? L = some oL → Heap.Ns h' L m := fun h' e => ⟨oL, es, ep, e, hLd, hLk, hLf⟩
  have hNs : ∀ (sl : Array (Option Value)) h', h'.get? L = some { oL with slots := sl } → Heap.Ns h' L m := fun sl h' e => ⟨_, es, ep, e, hLd, hLk, hLf⟩
  have nL₀ : h₀.get? L = none := kts_self F
  have B₂ : Below A h₀ [env] (hideAll s.heap (news.map (·.1))) := ⟨hA, st, hke, ⟨L, oL, hL, nL₀, hLg, fun vs => by rw [hLd]; exact fun q => by cases q⟩, trivial⟩
  have fm : ∀ b, b ∈ [env].filterMap (·.frame) → b = L := fun b hb => by
    rw [List.filterMap_cons, hL] at hb
    rcases List.mem_cons.mp hb with z | z
    · exact z
    · cases z
  refine wpAny_mono (h _ s.heap.objs.size h₁ ⟨hN _ hLg, st, F.above⟩ ⟨hns, fun b o e => hk₁ b o (of_hideAll _ e), Nat.le_of_eq (hideAll_size _ _)⟩
    (fun p hp => ⟨hk₁ _ _ (N p hp).1, Nat.ne_of_lt (Heap.lt_size (N p hp).1), hideAll_none _ (List.mem_map_of_mem hp)⟩) B₂ X₀ T (X₀.keeps st) (T.keeps st) (fun b hb => by
      rw [fm b hb]
      exact ⟨oL, es, ep, hLg, hLd⟩)) (fun fl s' hl => ?_) fun _ _ y => y
  obtain ⟨g', L', m', news', T', F', N', k⟩ := hl
  obtain ⟨sl, hs⟩ := T'.up hLg
  refine k ⟨hNs sl _ (F'.keep _ _ hs), fun b o e => F'.keep b o (T'.other b o (st b o e) (fun q => by
    rw [fm b q, nL₀] at e
    cases e)), F.above⟩ fun p hp => ⟨(N' p hp).1, fun q => ?_, ?_⟩
  · have := (N' p hp).2.2; rw [q, hs] at this; cases this
  · cases q : h₀.get? p.1 with
    | none => rfl
    | some o =>
      obtain ⟨sl', hs'⟩ := T'.up (st _ _ q)
      have := (N' p hp).2.2
      rw [hs'] at this
      cases this
end

end

theorem meta_exc : typeOf (.type "Exception") = pure (.type "type") := by kernel_rfl
section
local macro_rules | `(tactic| walk_at "getMethod type:Exception") => `(tactic| (k_here; refine' method_type ?F ?X ?m (by decide +kernel) ?e ?h ?_; (case F | X => k_asm); (case m => exact meta_exc); (case e => k_dflt k_is); (case h => k_handed)))
local macro_rules | `(tactic| walk_at "call builtin:Exception.__init__") => `(tactic| (k_here; k_dflt (refine' exc_init ?F ?X ?N ?o ?k ?_; (case F | X | N => k_asm); (case o => assumption); (case k => rfl); intros)))
local macro_rules | `(tactic| walk_at "setAttr ref") => `(tactic| (k_here; k_dflt (refine' exc_store ?F ?X ?N ?o ?s ?c ?m ?d ?n ?_; (case F | X | N => k_asm); (case o => assumption); (case s | c | n => k_is); (case m | d => rfl); intros)))
theorem init_ok (w : World) {mean : ExcName → Option Value} {mg mb : Str → Option Value} (dp un : Nat) (gd : Option (List Code)) (cn : Str) (cs : Scope) (a : Addr) (ccd : Value) (cl : List (Str × Addr)) (outer : List Env) (A₀ : Around) (base h₀ : Heap) (L : Addr) (m : Str → Option Value) (s : Shared) (Q E : Value → Shared → Prop)
    (e t : Addr) (msg : Str) (tm : Tok) (rest : List (Addr × Obj))
    (B : Below A₀ base outer h₀) (F : Fr h₀ L s.heap m) (X : (kmake.heap_1 w.params).In h₀) (N : News h₀ L s.heap ((e, excObj 51 t none) :: rest)) (T : Top vw (looseW vw looseL) mean mg mb h₀) (hk : cs.kind = .function)
    (hoff : ∀ p ∈ rest, p.1 ≠ e) (hd : dp + 3 < recursionLimit) (hu : un + 24 < cLine)
    (hret : ∀ (t' d' : Addr) (h' : Heap) (tk' : Nat), Fr h₀ L h' m → News h₀ L h' ((e, excObj 51 t' (some d')) :: rest) → Q .none { s with heap := h', toks := tk' }) :
    wpAny (model pg51 w) (ktrTop dp un gd cn cs L a ccd cl outer) (call (.ref 35) [.ref e, .str msg tm]) Q E s := by
  refine wpAny_call ?_
  k_dflt cell_enter
  k_steps
  exact hret _ _ _ _ (by assumption) (by assumption)

end

theorem seg_new (w : World) {mean : ExcName → Option Value} {mg mb : Str → Option Value} (dp un : Nat) (gd : Option (List Code)) (cn : Str) (cs : Scope) (a : Addr) (ccd : Value) (cl : List (Str × Addr)) (outer : List Env) (A₀ : Around) (base h₀ : Heap) (L : Addr) (m : Str → Option Value) (s : Shared) (Q E : Value → Shared → Prop)
    (msg : Str) (tm : Tok) (news : List (Addr × Obj))
    (B : Below A₀ base outer h₀) (F : Fr h₀ L s.heap m) (X : (kmake.heap_1 w.params).In h₀) (N : News h₀ L s.heap news) (T : Top vw (looseW vw looseL) mean mg mb h₀) (hk : cs.kind = .function)
    (hd : dp + 4 < recursionLimit) (hu : un + 30 < cLine)
    (hret : ∀ (e t' d' : Addr) (h' : Heap) (tk' : Nat), (∀ p ∈ news, p.1 ≠ e) → Fr h₀ L h' m → News h₀ L h' ((e, excObj 51 t' (some d')) :: news) → Q (.ref e) { s with heap := h', toks := tk' }) :
    wpAny (model pg51 w) (ktrTop dp un gd cn cs L a ccd cl outer) (call (.ref 51) [.str msg tm]) Q E s := by
  refine exc_make (K := kmake.heap_1 w.params) F X N (by rfl) (by rfl) (by rfl) fun e t h' F' N' ho => ?_
  refine init_ok w _ _ _ cn cs a ccd cl outer A₀ base h₀ L m { s with heap := h' } _ E e t msg tm news B F' X N' T hk ho ?_ ?_ fun t' d' h'' tk' F'' N'' => ⟨rfl, hret e t' d' h'' tk' ho F'' N''⟩
  · show dp + 1 + 3 < recursionLimit
    omega
  · show un + 1 + 24 < cLine
    omega
theorem raise_seg {w : World} {A : Around} {E : Value → Shared → Prop} {s : Shared} {env : Env} {x : Expr} {pos : Pos} {Q : Flow → Shared → Prop} (hh : A.handled = none)
    (h : wpAny (model pg51 w) A (eval x env) (RaisesNow (kmake.heap_1 w.params) 51 E) E s) : wpAny (model pg51 w) A (exec (.Raise (some x) none pos) env) Q E s :=
  raise_own (K := kmake.heap_1 w.params) hh (by rfl) h
theorem eq_of_bne {x y : Array UInt8} (h : (x.toList != y.toList) = false) : x = y := by
  have : x.toList = y.toList := by simpa using h
  exact Array.toList_inj.mp this
theorem ne_of_bne {x y : Array UInt8} (h : (x.toList != y.toList) = true) : x ≠ y := by
  intro e
  subst e
  simp at h
section
local macro_rules | `(tactic| walk_at "call ref") => `(tactic| (k_here; (with_reducible refine atRef 51 ?_); k_dflt (apply seg_new); walk_at "pm"; intros))
local macro_rules | `(tactic| walk_at "exec Raise some none") => `(tactic| (k_here; (with_reducible refine atRaise ?_); k_dflt (refine' raise_seg rfl ?_)))

theorem read_ok (w : World) {mean : ExcName → Option Value} {mg mb : Str → Option Value} (dp un : Nat) (gd : Option (List Code)) (cn : Str) (cs : Scope) (a : Addr) (ccd : Value) (cl : List (Str × Addr)) (outer : List Env) (A₀ : Around) (base h₀ : Heap) (L : Addr) (m : Str → Option Value) (s : Shared) (Q E : Value → Shared → Prop)
    (p : Array UInt8) (tp : Tok) (news : List (Addr × Obj))
    (B : Below A₀ base outer h₀) (F : Fr h₀ L s.heap m) (X : (kmake.heap_1 w.params).In h₀) (N : News h₀ L s.heap news) (T : Top vw (looseW vw looseL) mean mg mb h₀) (hk : cs.kind = .function)
    (hp : p.size ≤ 64) (hd : dp + 6 < recursionLimit) (hu : un + 60 < cLine)
    (hret0 : cut5 p ≠ adobeN → ∀ (h' : Heap) (tk' : Nat), Fr h₀ L h' m → News h₀ L h' news → Q .none { s with heap := h', toks := tk' })
    (hret1 : cut5 p = adobeN → ¬ (p.size < 12 ∨ 2 < at11 p) → ∀ (t : Tok) (h' : Heap) (tk' : Nat), Fr h₀ L h' m → News h₀ L h' news → Q (.int (at11 p) t) { s with heap := h', toks := tk' })
    (hraise : cut5 p = adobeN → (p.size < 12 ∨ 2 < at11 p) → ∀ (e : Addr) (g h' : Heap) (tk' : Nat), Fr h₀ L g m → RaisedSN base g (envX cn cs L a ccd cl :: outer) e (.ref 51) news h' → g.UpToSlots h' → E (.ref e) { s with heap := h', toks := tk' }) :
    wpAny (model pg51 w) (ktrTop dp un gd cn cs L a ccd cl outer) (call (.ref 114) [.bytes p tp]) Q E s := by
  refine wpAny_call ?_
  k_dflt cell_enter
  k_steps
  · exact hret0 (ne_of_bne (by assumption)) _ _ (by k_asm) (by first | k_asm | exact news_tail (by k_asm) | exact news_tail (news_tail (by k_asm)))
  · refine raise_end (by assumption) (by assumption) (by assumption) (by assumption) (by assumption) (by first | exact fun _ h => h | exact fun _ h => .tail _ h | exact fun _ h => .tail _ (.tail _ h)) (fun z => z) fun h'' R U => hraise (eq_of_bne (by assumption)) (.inl (by omega)) _ _ _ _ (by assumption) R U
  · refine raise_end (by assumption) (by assumption) (by assumption) (by assumption) (by assumption) (by first | exact fun _ h => h | exact fun _ h => .tail _ h | exact fun _ h => .tail _ (.tail _ h)) (fun z => z) fun h'' R U => hraise (eq_of_bne (by assumption)) (.inr (by assumption)) _ _ _ _ (by assumption) R U
  · exact hret1 (eq_of_bne (by assumption)) (by first | omega | (intro z; rcases z with z | z; omega; contradiction)) _ _ _ (by k_asm) (by first | k_asm | exact news_tail (by k_asm) | exact news_tail (news_tail (by k_asm)))

end
end
section
local macro_rules | `(tactic| k_all) => `(tactic| with_reducible assumption)
local macro_rules | `(tactic| k_mem) => `(tactic| first | with_reducible assumption | with_reducible_and_instances assumption)
local macro_rules | `(tactic| k_room) => `(tactic| ktr_room)

/-- an entry of an object's dict -/
noncomputable abbrev ent (P : Params) (x : Str) (tk : Tok) (v : Value) : DictEntry := { hash := PyData.keyHash P x, key := .str x tk, val := v }
noncomputable abbrev pieceD (P : Params) (k1 k2 k3 : Tok) (c : Int) (tc : Tok) (p : Array UInt8) (tp : Tok) (v3 : Value) (n : Nat) : Obj :=
  dictOf [ent P (Str.ofString "code") k1 (.int c tc), ent P (Str.ofString "payload") k2 (.bytes p tp), ent P (Str.ofString "data") k3 v3] n
noncomputable abbrev compD (P : Params) (k1 k2 k3 k4 : Tok) (i : Int) (ti : Tok) (v2 v3 v4 : Value) (n : Nat) : Obj :=
  dictOf [ent P (Str.ofString "ident") k1 (.int i ti), ent P (Str.ofString "across") k2 v2, ent P (Str.ofString "down") k3 v3, ent P (Str.ofString "quant") k4 v4] n
noncomputable abbrev parsedD (P : Params) (k1 k2 k3 k4 k5 k6 k7 k8 : Tok) (v1 : Value) (fr : Addr) (v3 v4 v5 : Value) (la : Addr) (v7 v8 : Value) (n : Nat) : Obj :=
  dictOf [ent P (Str.ofString "n") k1 v1, ent P (Str.ofString "frame") k2 (.ref fr), ent P (Str.ofString "grid") k3 v3, ent P (Str.ofString "tables") k4 v4, ent P (Str.ofString "quant") k5 v5, ent P (Str.ofString "apps") k6 (.ref la), ent P (Str.ofString "scans") k7 v7, ent P (Str.ofString "interval") k8 v8] n
noncomputable abbrev frameD (P : Params) (k1 k2 k3 k4 k5 k6 : Tok) (v1 v2 v3 v4 : Value) (lc : Addr) (v6 : Value) (n : Nat) : Obj :=
  dictOf [ent P (Str.ofString "kind") k1 v1, ent P (Str.ofString "precision") k2 v2, ent P (Str.ofString "height") k3 v3, ent P (Str.ofString "width") k4 v4, ent P (Str.ofString "components") k5 (.ref lc), ent P (Str.ofString "n") k6 v6] n
inductive PiecesIn (P : Params) (news : List (Addr × Obj)) : List Value → List Sg → Prop
  | nil : PiecesIn P news [] []
  | cons {t d : Addr} {c : Int} {tc k1 k2 k3 : Tok} {p : Array UInt8} {tp : Tok} {v3 : Value} {n : Nat} {vs : List Value} {segs : List Sg} :
      (t, instObj 146 d) ∈ news → (d, pieceD P k1 k2 k3 c tc p tp v3 n) ∈ news → 0 ≤ c → c ≤ 255 → p.size ≤ 64 → PiecesIn P news vs segs → PiecesIn P news (.ref t :: vs) ((c, p) :: segs)
theorem PiecesIn.length {P : Params} {news : List (Addr × Obj)} {vs : List Value} {segs : List Sg} (S : PiecesIn P news vs segs) : vs.length = segs.length := by
  induction S with
  | nil => rfl
  | cons _ _ _ _ _ _ ih => rw [List.length_cons, List.length_cons, ih]
theorem PiecesIn.at {P : Params} {news : List (Addr × Obj)} {vs : List Value} {segs : List Sg} (S : PiecesIn P news vs segs) : ∀ {i : Nat} {v : Value}, vs[i]? = some v →
    ∃ t d c tc k1 k2 k3 p tp v3 n post, v = .ref t ∧ segs = segs.take i ++ (c, p) :: post ∧ (segs.take i).length = i ∧ (t, instObj 146 d) ∈ news ∧ (d, pieceD P k1 k2 k3 c tc p tp v3 n) ∈ news ∧ 0 ≤ c ∧ c ≤ 255 ∧ p.size ≤ 64 := by
  induction S with
  | nil => intro i v h; simp at h
  | @cons t d c tc k1 k2 k3 p tp v3 n vs segs h1 h2 h3 h4 h5 _ ih =>
    intro i v h
    cases i with
    | zero =>
      simp at h
      subst h
      exact ⟨t, d, c, tc, k1, k2, k3, p, tp, v3, n, segs, rfl, rfl, rfl, h1, h2, h3, h4, h5⟩
    | succ i =>
      obtain ⟨t', d', c', tc', k1', k2', k3', p', tp', v3', n', post, e1, e2, e3, r⟩ := ih (i := i) (v := v) (by simpa using h)
      exact ⟨t', d', c', tc', k1', k2', k3', p', tp', v3', n', post, e1, by rw [List.take_succ_cons, List.cons_append, ← e2], by rw [List.take_succ_cons, List.length_cons, e3], r⟩
noncomputable def CompIn (P : Params) (news : List (Addr × Obj)) (v : Value) (i : Int) : Prop :=
  ∃ t d ti k1 k2 k3 k4 v2 v3 v4 n, v = .ref t ∧ (t, instObj 235 d) ∈ news ∧ (d, compD P k1 k2 k3 k4 i ti v2 v3 v4 n) ∈ news
inductive CompsIn (P : Params) (news : List (Addr × Obj)) : List Value → List Int → Prop
  | c1 {v1 : Value} {a : Int} : CompIn P news v1 a → CompsIn P news [v1] [a]
  | c2 {v1 v2 : Value} {a b : Int} : CompIn P news v1 a → CompIn P news v2 b → CompsIn P news [v1, v2] [a, b]
  | c3 {v1 v2 v3 : Value} {a b c : Int} : CompIn P news v1 a → CompIn P news v2 b → CompIn P news v3 c → CompsIn P news [v1, v2, v3] [a, b, c]
  | c4 {v1 v2 v3 v4 : Value} {a b c d : Int} : CompIn P news v1 a → CompIn P news v2 b → CompIn P news v3 c → CompIn P news v4 d → CompsIn P news [v1, v2, v3, v4] [a, b, c, d]
  | c5 {v1 v2 v3 v4 v5 : Value} {a b c d e : Int} : CompIn P news v1 a → CompIn P news v2 b → CompIn P news v3 c → CompIn P news v4 d → CompIn P news v5 e → CompsIn P news [v1, v2, v3, v4, v5] [a, b, c, d, e]

section
variable {prog : Program} {w : World} {A : Around} {E : Value → Shared → Prop} {s : Shared} {env : Env} {h₀ : Heap} {target : Expr} {body : List Stmt} {Q : Flow → Shared → Prop} {m : Str → Option Value} {news : List (Addr × Obj)} {l : Addr} {items : Array Value} {nn : Nat}
/-- as for_listJ, whatever the iterable's expression -/
theorem for_listE {ie : Expr} {pos : Pos} (J : Nat → (Str → Option Value) → Prop) (F : Fr h₀ env.locals s.heap m) (N : News h₀ env.locals s.heap news) (hh : A.handled = none) (hl : (l, listOf items nn) ∈ news)
    (hev : ∀ Q' : Value → Shared → Prop, (∀ tk, Q' (.ref l) { s with toks := tk }) → wpAny (model prog w) A (eval ie env) Q' E s) (hj : J 0 m)
    (turn : ∀ i v m₁ h tk own, i < items.size → items[i]? = some v → J i m₁ → Fr h₀ env.locals h m₁ → News h₀ env.locals h (own ++ news) →
      wpAny (model prog w) A (assign target env v) (fun _ s₂ => wpAny (model prog w) A (execs body env) (InvPost h₀ env.locals (J (i + 1)) (own ++ news) { s with heap := h, toks := tk } Q) E s₂) E { s with heap := h, toks := tk })
    (done : ∀ m₁ h tk, J items.size m₁ → Fr h₀ env.locals h m₁ → News h₀ env.locals h news → Q .next { s with heap := h, toks := tk })
    (hs : ∀ y, foldedSetIterable ie env y = pure y)
    (hE : PassesOwn (model prog w) A env E) :
    wpAny (model prog w) A (exec (.For target ie body [] pos) env) Q E s :=
  For_unr h₀ (hev _ fun tk₀ => (iter_listU (s := { s with toks := tk₀ }) hh hl F N (unr_ind (s₀ := { s with toks := tk₀, heap := s.heap.push { cls := .type "list_iterator", data := .fields #[.ref l, .int 0 0] } }) J turn done items.size 0 m (by omega) hj))) hs hE
end
noncomputable abbrev nTr : Str := Str.ofString "transform"
noncomputable abbrev nPa : Str := Str.ofString "parsed"
noncomputable def moJ (segs : List Sg) (pa : Addr) (i : Nat) (m : Str → Option Value) : Prop :=
  ∃ lv last j, segsGo (segs.take i) = some (last, j) ∧ IsOpt lv last ∧ m nTr = some lv ∧ m nJf = some (.bool j) ∧ m nPa = some (.ref pa)
noncomputable abbrev moM (lv : Value) (j : Bool) (pa : Addr) (u : Str → Option Value) : Str → Option Value :=
  fun y => if y = nTr then some lv else if y = nJf then some (.bool j) else if y = nPa then some (.ref pa) else u y
theorem moM_eq {lv : Value} {j : Bool} {pa : Addr} {m : Str → Option Value} (h1 : m nTr = some lv) (h2 : m nJf = some (.bool j)) (h3 : m nPa = some (.ref pa)) : m = moM lv j pa m := by
  funext y
  unfold moM
  split
  · rename_i e; rw [e, h1]
  · split
    · rename_i e; rw [e, h2]
    · split
      · rename_i e; rw [e, h3]
      · rfl
theorem mo_for {prog : Program} {w : World} {A : Around} {E : Value → Shared → Prop} {s : Shared} {env : Env} {h₀ : Heap} {target : Expr} {body : List Stmt} {Q : Flow → Shared → Prop} {m : Str → Option Value} {news : List (Addr × Obj)} {la pa : Addr} {vs : List Value} {segs : List Sg} {nn : Nat} {ie : Expr} {pos : Pos} {P : Params}
    (S : PiecesIn P news vs segs) (F : Fr h₀ env.locals s.heap m) (N : News h₀ env.locals s.heap news) (hh : A.handled = none) (hl : (la, listOf vs.toArray nn) ∈ news)
    (hev : ∀ Q' : Value → Shared → Prop, (∀ tk, Q' (.ref la) { s with toks := tk }) → wpAny (model prog w) A (eval ie env) Q' E s)
    (h1 : m nTr = some .none) (h2 : m nJf = some (.bool false)) (h3 : m nPa = some (.ref pa))
    (turn : ∀ (pre post : List Sg) t d c tc k1 k2 k3 p tp v3 n lv last j u h tk own, segs = pre ++ (c, p) :: post → segsGo pre = some (last, j) → IsOpt lv last → (t, instObj 146 d) ∈ news → (d, pieceD P k1 k2 k3 c tc p tp v3 n) ∈ news → 0 ≤ c → c ≤ 255 → p.size ≤ 64 →
      Fr h₀ env.locals h (moM lv j pa u) → News h₀ env.locals h (own ++ news) →
      wpAny (model prog w) A (assign target env (.ref t)) (fun _ s₂ => wpAny (model prog w) A (execs body env) (InvPost h₀ env.locals (moJ segs pa (pre.length + 1)) (own ++ news) { s with heap := h, toks := tk } Q) E s₂) E { s with heap := h, toks := tk })
    (done0 : ∀ j u h tk, segsGo segs = some (none, j) → Fr h₀ env.locals h (moM .none j pa u) → News h₀ env.locals h news → Q .next { s with heap := h, toks := tk })
    (done1 : ∀ k t j u h tk, segsGo segs = some (some k, j) → Fr h₀ env.locals h (moM (.int k t) j pa u) → News h₀ env.locals h news → Q .next { s with heap := h, toks := tk })
    (hs : ∀ y, foldedSetIterable ie env y = pure y)
    (hE : PassesOwn (model prog w) A env E) :
    wpAny (model prog w) A (exec (.For target ie body [] pos) env) Q E s := by
  refine for_listE (moJ segs pa) F N hh hl hev ⟨_, _, _, rfl, .none, h1, h2, h3⟩ ?_ ?_ hs hE
  · rintro i v m₁ h tk own hi hv ⟨lv, last, j, g1, g2, g3, g4, g5⟩ F₁ N₁
    obtain ⟨t, d, c, tc, k1, k2, k3, p, tp, v3, n, post, rfl, e2, e3, e4, e4', e5, e6, e7⟩ := S.at (i := i) (v := v) (by simpa using hv)
    rw [moM_eq g3 g4 g5] at F₁
    have := turn (segs.take i) post t d c tc k1 k2 k3 p tp v3 n lv last j m₁ h tk own e2 g1 g2 e4 e4' e5 e6 e7 F₁ N₁
    rw [e3] at this
    exact this
  · rintro m₁ h tk ⟨lv, last, j, g1, g2, g3, g4, g5⟩ F₁ N₁
    rw [moM_eq g3 g4 g5] at F₁
    rw [List.size_toArray, S.length, List.take_length] at g1
    cases g2 with
    | none => exact done0 j m₁ h tk g1 F₁ N₁
    | some k t => exact done1 k t j m₁ h tk g1 F₁ N₁
theorem mo_end {h₀ : Heap} {L : Addr} {segs pre post : List Sg} {g : Sg} {pa : Addr} {need all : List (Addr × Obj)} {s₁ : Shared} {h' : Heap} {tk : Nat} {m' : Str → Option Value} {last last' : Option Int} {j j' : Bool} {lv : Value}
    (F : Fr h₀ L h' m') (N : News h₀ L h' all) (hn : ∀ p ∈ need, p ∈ all) (e : segs = pre ++ g :: post) (hg : segsGo pre = some (last, j))
    (h1 : m' nTr = some lv) (h2 : m' nJf = some (.bool j')) (h3 : m' nPa = some (.ref pa)) (hv : IsOpt lv last') (hst : segStep (some (last, j)) g = some (last', j')) :
    InvEnd h₀ L (moJ segs pa (pre.length + 1)) need s₁ { s₁ with heap := h', toks := tk } := by
  refine InvEnd.intro F N hn ⟨lv, last', j', ?_, hv, h1, h2, h3⟩
  rw [e, List.take_append, List.take_of_length_le (Nat.le_succ _), show pre.length + 1 - pre.length = 1 by omega, List.take_succ_cons, List.take_zero, segsGo_snoc, hg, hst]
theorem segsGo_stopped {segs pre post : List Sg} {g : Sg} {last : Option Int} {j : Bool} (e : segs = pre ++ g :: post) (h : segsGo pre = some (last, j)) (hs : segStep (some (last, j)) g = none) : segsGo segs = none := by
  rw [e]; exact segsGo_stop (by rw [h]; exact hs)
theorem RaisedSN.less {base G : Heap} {l : List Env} {e : Addr} {cls : Value} {news big : List (Addr × Obj)} {h : Heap} (R : RaisedSN base G l e cls big h) (hs : ∀ p ∈ news, p ∈ big) : RaisedSN base G l e cls news h := by
  obtain ⟨B, a0, hB, h1, h2, h3⟩ := R
  exact ⟨B, a0, hB, h1, fun q hq => h2 q (hs q hq), h3⟩
section
variable {last : Option Int} {j : Bool} {c : Int} {p : Array UInt8}
theorem segs_some {segs : List Sg} {x : Option Int × Bool} (h : segsGo segs = some x) : segsGo segs ≠ none := fun z => by rw [h] at z; cases z
theorem mst_none (h1 : c = 238) (h2 : cut5 p = adobeN) (h3 : p.size < 12 ∨ 2 < at11 p) : segStep (some (last, j)) (c, p) = none := by
  unfold segStep; dsimp only; rw [if_pos ⟨h1, h2⟩, if_pos h3]
theorem mst_A (h1 : c = 238) (h2 : cut5 p = adobeN) (h3 : ¬ (p.size < 12 ∨ 2 < at11 p)) : segStep (some (last, j)) (c, p) = some (some (at11 p), j) := by
  unfold segStep; dsimp only; rw [if_pos ⟨h1, h2⟩, if_neg h3]
theorem mst_N (h1 : c = 238) (h2 : cut5 p ≠ adobeN) : segStep (some (last, j)) (c, p) = some (last, j) := by
  unfold segStep; dsimp only; rw [if_neg (fun e => h2 e.2)]; subst h1; simp
theorem mst_J (h1 : ¬ c = 238) (h2 : c = 224) (h3 : ((KBy.picked p none (some 5)).toList == #[74, 70, 73, 70, 0].toList) = true) : segStep (some (last, j)) (c, p) = some (last, true) := by
  rw [st_C h1]; subst h2; rw [show cut5 p = jfifN from eq_of_lists h3]; simp
theorem mst_K (h1 : ¬ c = 238) (h2 : c = 224) (h3 : ((KBy.picked p none (some 5)).toList == #[74, 70, 73, 70, 0].toList) = false) : segStep (some (last, j)) (c, p) = some (last, j) := by
  rw [st_C h1]; rw [decide_eq_false (show ¬ cut5 p = jfifN from ne_of_lists h3)]; simp
theorem mst_O (h1 : ¬ c = 238) (h2 : ¬ c = 224) : segStep (some (last, j)) (c, p) = some (last, j) := by rw [st_C h1]; simp [h2]
end
theorem compEnd0 {h₀ : Heap} {L I C D : Addr} {m : Str → Option Value} {s₁ : Shared} {oI oC oD : Obj} {S : List (Addr × Obj) → Prop} {rest : Value → List (Addr × Obj) → Prop} {y : Value} {h' : Heap} {tk : Nat} {nw : List (Addr × Obj)}
    (F : Fr h₀ L h' m) (N : News h₀ L h' ((I, oI) :: (C, oC) :: (D, oD) :: nw)) (off : LCg.Off3 I C D nw) (hS : S nw) (r : rest y nw) :
    LCg.CompEnd h₀ L m s₁ I oI C oC D oD S rest y { s₁ with heap := h', toks := tk } :=
  LCg.CompEnd.intro F N nw (fun p hp => hp) off hS r
local macro_rules | `(tactic| walk_at "call ref") => `(tactic| (k_here; (with_reducible refine atRef 114 ?_); k_dflt (apply read_ok); walk_at "pm"; (case hp => assumption); all_goals intros))
local macro_rules | `(tactic| walk_at "CompEnd") => `(tactic| (k_dflt (refine' compEnd0 ?F ?N ?off ?S ?_; (case F | N => k_asm); (case off => (repeat' (first | assumption | (refine And.intro ⟨by k_ne, by k_ne, by k_ne⟩ ?_)))); (case S => first | exact True.intro | exact Or.inr ⟨_, by k_mem, rfl, _, rfl⟩))))
local macro_rules | `(tactic| walk_at "pad3") => `(tactic| skip)

theorem mo_ok (w : World) {mean : ExcName → Option Value} {mg mb : Str → Option Value} (dp un : Nat) (gd : Option (List Code)) (cn : Str) (cs : Scope) (a : Addr) (ccd : Value) (cl : List (Str × Addr)) (outer : List Env) (A₀ : Around) (base h₀ : Heap) (L : Addr) (m : Str → Option Value) (s : Shared) (Q E : Value → Shared → Prop)
    (news : List (Addr × Obj)) (pa dpa fr dfr lc la : Addr) (pvs cvs : List Value) (segs : List Sg) (ns : List Int) (np nc : Nat) (k1 k2 k3 k4 k5 k6 k7 k8 : Tok) (v1 v3 v4 v5 v7 v8 : Value) (n1 : Nat) (q1 q2 q3 q4 q5 q6 : Tok) (u1 u2 u3 u4 u6 : Value) (n2 : Nat)
    (B : Below A₀ base outer h₀) (F : Fr h₀ L s.heap m) (X : (kmake.heap_1 w.params).In h₀) (N : News h₀ L s.heap news) (T : Top vw (looseW vw looseL) mean mg mb h₀) (hk : cs.kind = .function)
    (hpa : (pa, instObj 202 dpa) ∈ news) (hdpa : (dpa, parsedD w.params k1 k2 k3 k4 k5 k6 k7 k8 v1 fr v3 v4 v5 la v7 v8 n1) ∈ news) (hfr : (fr, instObj 301 dfr) ∈ news) (hdfr : (dfr, frameD w.params q1 q2 q3 q4 q5 q6 u1 u2 u3 u4 lc u6 n2) ∈ news)
    (hla : (la, listOf pvs.toArray np) ∈ news) (hlc : (lc, listOf cvs.toArray nc) ∈ news)
    (S : PiecesIn w.params news pvs segs) (hC : CompsIn w.params news cvs ns) (hd : dp + 10 < recursionLimit) (hu : un + 150 < cLine)
    (hret : segsGo segs ≠ none → ∀ (t : Tok) (h' : Heap) (tk' : Nat), Fr h₀ L h' m → News h₀ L h' news → Q (.str (dueS segs ns) t) { s with heap := h', toks := tk' })
    (hraise : segsGo segs = none → ∀ (e : Addr) (g h' : Heap) (tk' : Nat), Fr h₀ L g m → RaisedSN base g (envX cn cs L a ccd cl :: outer) e (.ref 51) news h' → g.UpToSlots h' → E (.ref e) { s with heap := h', toks := tk' }) :
    wpAny (model pg51 w) (ktrTop dp un gd cn cs L a ccd cl outer) (call (.ref 211) [.ref pa]) Q E s := by
  refine wpAny_call ?_
  k_dflt cell_enter
  iterate 20 (first | (k_unfold; (try dsimp only)) | (k_end; wrow_close) | walk1 | (dsimp only; walk1) | (leave1; try dsimp only))
  k_dflt (refine' mo_for (P := w.params) (la := la) (pa := pa) (vs := pvs) (segs := segs) (nn := np) ?kS ?kF ?kN ?kh ?kl ?ke ?k1 ?k2 ?k3 ?kt ?kd0 ?kd1 ?kg ?kp)
  (case kS => assumption)
  (case kl => assumption)
  (case kF => k_asm)
  (case kN => first | k_asm | exact news_tail (by k_asm) | exact news_tail (news_tail (by k_asm)))
  (case kh => exact rfl)
  (case k1 => exact rfl)
  (case k2 => exact rfl)
  (case k3 => exact rfl)
  (case kg => intro _; rfl)
  (case kp => passes_own)
  (case ke => intro Q' hQ'; k_steps; exact hQ' _)
  (case' kd0 => intros)
  (case' kd1 => intros)
  (case' kt => intros)
  all_goals (try k_fold)
  case kt =>
    k_steps
    all_goals first
      | exact absurd (by assumption : _ ∨ _) (by assumption)
      | exact leave_onSN (by assumption) (by assumption) (by assumption) (by assumption) fun h9 R9 _ U9 => hraise (segsGo_stopped (by assumption) (by assumption) (mst_none (by assumption) (by assumption) (by assumption))) _ _ _ _ (by assumption) (RaisedSN.less R9 fun p hp => List.mem_append_right _ hp) U9
      | exact mo_end (by k_asm) (by k_asm) (by first | exact fun _ h => h | exact fun _ h => .tail _ h) (by assumption) (by assumption) (by exact rfl) (by exact rfl) (by exact rfl) (by first | assumption | exact .some _ _) (by first | exact mst_A (by assumption) (by assumption) (by assumption) | exact mst_N (by assumption) (by assumption) | exact mst_J (by assumption) (by assumption) (by assumption) | exact mst_K (by assumption) (by assumption) (by assumption) | exact mst_O (by assumption) (by assumption))
  all_goals cases hC
  all_goals (repeat (rename CompIn _ _ _ _ => hc9; obtain ⟨t9, d9, ti9, a1, a2, a3, a4, b2, b3, b4, n9, e9, hm9, hn9⟩ := hc9; subst e9))
  all_goals k_steps
  all_goals first
    | exact due_q (dueS_c1 (by assumption)) (hret (segs_some (by assumption)) _ _ _ (by k_asm) (by (rename News _ _ _ _ => N7); exact fun p hp => N7 p (by repeat' first | exact hp | apply List.mem_cons_of_mem)))
    | exact due_q (dueS_c2 (by assumption)) (hret (segs_some (by assumption)) _ _ _ (by k_asm) (by (rename News _ _ _ _ => N7); exact fun p hp => N7 p (by repeat' first | exact hp | apply List.mem_cons_of_mem)))
    | exact due_q (dueS_c5 (by assumption)) (hret (segs_some (by assumption)) _ _ _ (by k_asm) (by (rename News _ _ _ _ => N7); exact fun p hp => N7 p (by repeat' first | exact hp | apply List.mem_cons_of_mem)))
    | exact due_q (dueS_c3j (by assumption) (by assumption)) (hret (segs_some (by assumption)) _ _ _ (by k_asm) (by (rename News _ _ _ _ => N7); exact fun p hp => N7 p (by repeat' first | exact hp | apply List.mem_cons_of_mem)))
    | exact due_q (dueS_c3z (by assumption) (by assumption) (by assumption)) (hret (segs_some (by assumption)) _ _ _ (by k_asm) (by (rename News _ _ _ _ => N7); exact fun p hp => N7 p (by repeat' first | exact hp | apply List.mem_cons_of_mem)))
    | exact due_q (dueS_c3k (by assumption) (by assumption) (by assumption)) (hret (segs_some (by assumption)) _ _ _ (by k_asm) (by (rename News _ _ _ _ => N7); exact fun p hp => N7 p (by repeat' first | exact hp | apply List.mem_cons_of_mem)))
    | exact due_q (dueS_c3y (by assumption) (by assumption) (by assumption)) (hret (segs_some (by assumption)) _ _ _ (by k_asm) (by (rename News _ _ _ _ => N7); exact fun p hp => N7 p (by repeat' first | exact hp | apply List.mem_cons_of_mem)))
    | exact due_q (dueS_c3o (by assumption) (by assumption) (by assumption)) (hret (segs_some (by assumption)) _ _ _ (by k_asm) (by (rename News _ _ _ _ => N7); exact fun p hp => N7 p (by repeat' first | exact hp | apply List.mem_cons_of_mem)))
    | exact due_q (dueS_c4y (by assumption) (by assumption)) (hret (segs_some (by assumption)) _ _ _ (by k_asm) (by (rename News _ _ _ _ => N7); exact fun p hp => N7 p (by repeat' first | exact hp | apply List.mem_cons_of_mem)))
    | exact due_q (dueS_c4c (by assumption) (by assumption)) (hret (segs_some (by assumption)) _ _ _ (by k_asm) (by (rename News _ _ _ _ => N7); exact fun p hp => N7 p (by repeat' first | exact hp | apply List.mem_cons_of_mem)))
    | exact due_q (dueS_c4n (by assumption)) (hret (segs_some (by assumption)) _ _ _ (by k_asm) (by (rename News _ _ _ _ => N7); exact fun p hp => N7 p (by repeat' first | exact hp | apply List.mem_cons_of_mem)))


theorem piece_new (w : World) {mean : ExcName → Option Value} {mg mb : Str → Option Value} (dp un : Nat) (gd : Option (List Code)) (cn : Str) (cs : Scope) (a : Addr) (ccd : Value) (cl : List (Str × Addr)) (outer : List Env) (A₀ : Around) (base h₀ : Heap) (L : Addr) (m : Str → Option Value) (s : Shared) (Q E : Value → Shared → Prop)
    (c : Int) (tc : Tok) (p : Array UInt8) (tp : Tok) (v3 : Value) (news : List (Addr × Obj))
    (B : Below A₀ base outer h₀) (F : Fr h₀ L s.heap m) (X : (kmake.heap_1 w.params).In h₀) (N : News h₀ L s.heap news) (T : Top vw (looseW vw looseL) mean mg mb h₀) (hk : cs.kind = .function) (hd : dp + 8 < recursionLimit) (hu : un + 60 < cLine)
    (hret : ∀ (x d : Addr) (k1 k2 k3 : Tok) (h' : Heap) (tk' : Nat), Fr h₀ L h' m → News h₀ L h' ((x, instObj 146 d) :: (d, pieceD w.params k1 k2 k3 c tc p tp v3 3) :: news) → (∀ p ∈ news, p.1 < d) → @LT.lt Nat _ d x → Q (.ref x) { s with heap := h', toks := tk' }) :
    wpAny (model pg51 w) (ktrTop dp un gd cn cs L a ccd cl outer) (call (.ref 146) [.int c tc, .bytes p tp, v3]) Q E s := by
  k_dflt (refine' call_cls ?k1 ?k2 ?k3 ?k4 ?k5 ?k6 ?_; (case k1 => k_asm); (case k2 => k_asm); (case k3 => k_asm); (case k4 => k_is); (case k5 => k_is); (case k6 => k_is); k_whole; intro x' d' h' F' N' l1 l2; (refine' code_def ?k1 ?k2 ?k3 ?k4 ?k5 ?kA ?kF ?kK ?k6 ?k7 ?k8 ?k9 ?kB ?_ ?c2 ?c3 ?c4 ?c5; (case kA => exact rfl); (case kF => exact rfl); (case kK => assumption); (case k1 => k_asm); (case k2 => k_asm); (case k3 => k_asm); (case k4 => k_asm); (case k5 => k_asm); (case k6 => k_is); (case k7 => k_is); (case k8 => ktr_room); (case k9 => first | exact BindsTo.of_eq rfl | exact binds_K (by k_in) rfl (by k_is) rfl rfl rfl); (case c5 => decide); (case kB => exact locs rfl); (case c2 => exact rfl); (case c3 => exact rfl); (case c4 => exact rfl); k_whole; intro g' L' h' FG' F' N' B' X' T'; (try dsimp only); (try k_lift B'); (try k_fold)))
  have l2' : @LT.lt Nat _ d' x' := l2
  have l3 := allLt_of l1
  k_steps
  exact hret _ _ _ _ _ _ _ (by k_asm) (by k_asm) (by assumption) (by assumption)

theorem comp_new (w : World) {mean : ExcName → Option Value} {mg mb : Str → Option Value} (dp un : Nat) (gd : Option (List Code)) (cn : Str) (cs : Scope) (a : Addr) (ccd : Value) (cl : List (Str × Addr)) (outer : List Env) (A₀ : Around) (base h₀ : Heap) (L : Addr) (m : Str → Option Value) (s : Shared) (Q E : Value → Shared → Prop)
    (i : Int) (ti : Tok) (v2 : Value) (v3 : Value) (v4 : Value) (news : List (Addr × Obj))
    (B : Below A₀ base outer h₀) (F : Fr h₀ L s.heap m) (X : (kmake.heap_1 w.params).In h₀) (N : News h₀ L s.heap news) (T : Top vw (looseW vw looseL) mean mg mb h₀) (hk : cs.kind = .function) (hd : dp + 8 < recursionLimit) (hu : un + 60 < cLine)
    (hret : ∀ (x d : Addr) (k1 k2 k3 k4 : Tok) (h' : Heap) (tk' : Nat), Fr h₀ L h' m → News h₀ L h' ((x, instObj 235 d) :: (d, compD w.params k1 k2 k3 k4 i ti v2 v3 v4 4) :: news) → (∀ p ∈ news, p.1 < d) → @LT.lt Nat _ d x → Q (.ref x) { s with heap := h', toks := tk' }) :
    wpAny (model pg51 w) (ktrTop dp un gd cn cs L a ccd cl outer) (call (.ref 235) [.int i ti, v2, v3, v4]) Q E s := by
  k_dflt (refine' call_cls ?k1 ?k2 ?k3 ?k4 ?k5 ?k6 ?_; (case k1 => k_asm); (case k2 => k_asm); (case k3 => k_asm); (case k4 => k_is); (case k5 => k_is); (case k6 => k_is); k_whole; intro x' d' h' F' N' l1 l2; (refine' code_def ?k1 ?k2 ?k3 ?k4 ?k5 ?kA ?kF ?kK ?k6 ?k7 ?k8 ?k9 ?kB ?_ ?c2 ?c3 ?c4 ?c5; (case kA => exact rfl); (case kF => exact rfl); (case kK => assumption); (case k1 => k_asm); (case k2 => k_asm); (case k3 => k_asm); (case k4 => k_asm); (case k5 => k_asm); (case k6 => k_is); (case k7 => k_is); (case k8 => ktr_room); (case k9 => first | exact BindsTo.of_eq rfl | exact binds_K (by k_in) rfl (by k_is) rfl rfl rfl); (case c5 => decide); (case kB => exact locs rfl); (case c2 => exact rfl); (case c3 => exact rfl); (case c4 => exact rfl); k_whole; intro g' L' h' FG' F' N' B' X' T'; (try dsimp only); (try k_lift B'); (try k_fold)))
  have l2' : @LT.lt Nat _ d' x' := l2
  have l3 := allLt_of l1
  k_steps
  exact hret _ _ _ _ _ _ _ _ (by k_asm) (by k_asm) (by assumption) (by assumption)

theorem frame_new (w : World) {mean : ExcName → Option Value} {mg mb : Str → Option Value} (dp un : Nat) (gd : Option (List Code)) (cn : Str) (cs : Scope) (a : Addr) (ccd : Value) (cl : List (Str × Addr)) (outer : List Env) (A₀ : Around) (base h₀ : Heap) (L : Addr) (m : Str → Option Value) (s : Shared) (Q E : Value → Shared → Prop)
    (v1 : Value) (v2 : Value) (v3 : Value) (v4 : Value) (lc : Addr) (v6 : Value) (news : List (Addr × Obj))
    (B : Below A₀ base outer h₀) (F : Fr h₀ L s.heap m) (X : (kmake.heap_1 w.params).In h₀) (N : News h₀ L s.heap news) (T : Top vw (looseW vw looseL) mean mg mb h₀) (hk : cs.kind = .function) (hd : dp + 8 < recursionLimit) (hu : un + 60 < cLine)
    (hret : ∀ (x d : Addr) (k1 k2 k3 k4 k5 k6 : Tok) (h' : Heap) (tk' : Nat), Fr h₀ L h' m → News h₀ L h' ((x, instObj 301 d) :: (d, frameD w.params k1 k2 k3 k4 k5 k6 v1 v2 v3 v4 lc v6 6) :: news) → (∀ p ∈ news, p.1 < d) → @LT.lt Nat _ d x → Q (.ref x) { s with heap := h', toks := tk' }) :
    wpAny (model pg51 w) (ktrTop dp un gd cn cs L a ccd cl outer) (call (.ref 301) [v1, v2, v3, v4, .ref lc, v6]) Q E s := by
  k_dflt (refine' call_cls ?k1 ?k2 ?k3 ?k4 ?k5 ?k6 ?_; (case k1 => k_asm); (case k2 => k_asm); (case k3 => k_asm); (case k4 => k_is); (case k5 => k_is); (case k6 => k_is); k_whole; intro x' d' h' F' N' l1 l2; (refine' code_def ?k1 ?k2 ?k3 ?k4 ?k5 ?kA ?kF ?kK ?k6 ?k7 ?k8 ?k9 ?kB ?_ ?c2 ?c3 ?c4 ?c5; (case kA => exact rfl); (case kF => exact rfl); (case kK => assumption); (case k1 => k_asm); (case k2 => k_asm); (case k3 => k_asm); (case k4 => k_asm); (case k5 => k_asm); (case k6 => k_is); (case k7 => k_is); (case k8 => ktr_room); (case k9 => first | exact BindsTo.of_eq rfl | exact binds_K (by k_in) rfl (by k_is) rfl rfl rfl); (case c5 => decide); (case kB => exact locs rfl); (case c2 => exact rfl); (case c3 => exact rfl); (case c4 => exact rfl); k_whole; intro g' L' h' FG' F' N' B' X' T'; (try dsimp only); (try k_lift B'); (try k_fold)))
  have l2' : @LT.lt Nat _ d' x' := l2
  have l3 := allLt_of l1
  k_steps
  exact hret _ _ _ _ _ _ _ _ _ _ (by k_asm) (by k_asm) (by assumption) (by assumption)

noncomputable abbrev jfifD (P : Params) (k1 k2 k3 k4 k5 : Tok) (v1 v2 v3 v4 v5 : Value) (n : Nat) : Obj :=
  dictOf [ent P (Str.ofString "major") k1 v1, ent P (Str.ofString "minor") k2 v2, ent P (Str.ofString "units") k3 v3, ent P (Str.ofString "across") k4 v4, ent P (Str.ofString "down") k5 v5] n
noncomputable abbrev parsedG (P : Params) (k1 k2 k3 k4 k5 k6 k7 k8 : Tok) (v1 v2 v3 v4 v5 v6 v7 v8 : Value) (n : Nat) : Obj :=
  dictOf [ent P (Str.ofString "n") k1 v1, ent P (Str.ofString "frame") k2 v2, ent P (Str.ofString "grid") k3 v3, ent P (Str.ofString "tables") k4 v4, ent P (Str.ofString "quant") k5 v5, ent P (Str.ofString "apps") k6 v6, ent P (Str.ofString "scans") k7 v7, ent P (Str.ofString "interval") k8 v8] n
theorem news_pick2 {h₀ h : Heap} {L : Addr} {a b : Addr × Obj} {all news : List (Addr × Obj)} (N : News h₀ L h all) (ha : a ∈ all) (hb : b ∈ all) (hn : ∀ p ∈ news, p ∈ all) : News h₀ L h (a :: b :: news) := fun p hp => by
  rcases List.mem_cons.mp hp with rfl | hp
  · exact N _ ha
  rcases List.mem_cons.mp hp with rfl | hp
  · exact N _ hb
  · exact N _ (hn _ hp)

theorem jfif_new (w : World) {mean : ExcName → Option Value} {mg mb : Str → Option Value} (dp un : Nat) (gd : Option (List Code)) (cn : Str) (cs : Scope) (a : Addr) (ccd : Value) (cl : List (Str × Addr)) (outer : List Env) (A₀ : Around) (base h₀ : Heap) (L : Addr) (m : Str → Option Value) (s : Shared) (Q E : Value → Shared → Prop)
    (v1 : Value) (v2 : Value) (v3 : Value) (v4 : Value) (v5 : Value) (news : List (Addr × Obj))
    (B : Below A₀ base outer h₀) (F : Fr h₀ L s.heap m) (X : (kmake.heap_1 w.params).In h₀) (N : News h₀ L s.heap news) (T : Top vw (looseW vw looseL) mean mg mb h₀) (hk : cs.kind = .function) (hd : dp + 8 < recursionLimit) (hu : un + 60 < cLine)
    (hret : ∀ (x d : Addr) (k1 k2 k3 k4 k5 : Tok) (h' : Heap) (tk' : Nat), Fr h₀ L h' m → News h₀ L h' ((x, instObj 89 d) :: (d, jfifD w.params k1 k2 k3 k4 k5 v1 v2 v3 v4 v5 5) :: news) → (∀ p ∈ news, p.1 < d) → @LT.lt Nat _ d x → Q (.ref x) { s with heap := h', toks := tk' }) :
    wpAny (model pg51 w) (ktrTop dp un gd cn cs L a ccd cl outer) (call (.ref 89) [v1, v2, v3, v4, v5]) Q E s := by
  k_dflt (refine' call_cls ?k1 ?k2 ?k3 ?k4 ?k5 ?k6 ?_; (case k1 => k_asm); (case k2 => k_asm); (case k3 => k_asm); (case k4 => k_is); (case k5 => k_is); (case k6 => k_is); k_whole; intro x' d' h' F' N' l1 l2; (refine' code_def ?k1 ?k2 ?k3 ?k4 ?k5 ?kA ?kF ?kK ?k6 ?k7 ?k8 ?k9 ?kB ?_ ?c2 ?c3 ?c4 ?c5; (case kA => exact rfl); (case kF => exact rfl); (case kK => assumption); (case k1 => k_asm); (case k2 => k_asm); (case k3 => k_asm); (case k4 => k_asm); (case k5 => k_asm); (case k6 => k_is); (case k7 => k_is); (case k8 => ktr_room); (case k9 => first | exact BindsTo.of_eq rfl | exact binds_K (by k_in) rfl (by k_is) rfl rfl rfl); (case c5 => decide); (case kB => exact locs rfl); (case c2 => exact rfl); (case c3 => exact rfl); (case c4 => exact rfl); k_whole; intro g' L' h' FG' F' N' B' X' T'; (try dsimp only); (try k_lift B'); (try k_fold)))
  have l2' : @LT.lt Nat _ d' x' := l2
  have l3 := allLt_of l1
  k_steps
  exact hret _ _ _ _ _ _ _ _ _ (by k_asm) (by k_asm) (by assumption) (by assumption)

theorem parsed_new (w : World) {mean : ExcName → Option Value} {mg mb : Str → Option Value} (dp un : Nat) (gd : Option (List Code)) (cn : Str) (cs : Scope) (a : Addr) (ccd : Value) (cl : List (Str × Addr)) (outer : List Env) (A₀ : Around) (base h₀ : Heap) (L : Addr) (m : Str → Option Value) (s : Shared) (Q E : Value → Shared → Prop)
    (v1 : Value) (news : List (Addr × Obj))
    (B : Below A₀ base outer h₀) (F : Fr h₀ L s.heap m) (X : (kmake.heap_1 w.params).In h₀) (N : News h₀ L s.heap news) (T : Top vw (looseW vw looseL) mean mg mb h₀) (hk : cs.kind = .function) (hd : dp + 8 < recursionLimit) (hu : un + 60 < cLine)
    (hret : ∀ (x d : Addr) (k1 k2 k3 k4 k5 k6 k7 k8 : Tok) (v2 v3 v4 v5 v6 v7 v8 : Value) (h' : Heap) (tk' : Nat), Fr h₀ L h' m → News h₀ L h' ((x, instObj 202 d) :: (d, parsedG w.params k1 k2 k3 k4 k5 k6 k7 k8 v1 v2 v3 v4 v5 v6 v7 v8 8) :: news) → (∀ p ∈ news, p.1 < d) → @LT.lt Nat _ d x → Q (.ref x) { s with heap := h', toks := tk' }) :
    wpAny (model pg51 w) (ktrTop dp un gd cn cs L a ccd cl outer) (call (.ref 202) [v1]) Q E s := by
  k_dflt (refine' call_cls ?k1 ?k2 ?k3 ?k4 ?k5 ?k6 ?_; (case k1 => k_asm); (case k2 => k_asm); (case k3 => k_asm); (case k4 => k_is); (case k5 => k_is); (case k6 => k_is); k_whole; intro x' d' h' F' N' l1 l2; (refine' code_def ?k1 ?k2 ?k3 ?k4 ?k5 ?kA ?kF ?kK ?k6 ?k7 ?k8 ?k9 ?kB ?_ ?c2 ?c3 ?c4 ?c5; (case kA => exact rfl); (case kF => exact rfl); (case kK => assumption); (case k1 => k_asm); (case k2 => k_asm); (case k3 => k_asm); (case k4 => k_asm); (case k5 => k_asm); (case k6 => k_is); (case k7 => k_is); (case k8 => ktr_room); (case k9 => first | exact BindsTo.of_eq rfl | exact binds_K (by k_in) rfl (by k_is) rfl rfl rfl); (case c5 => decide); (case kB => exact locs rfl); (case c2 => exact rfl); (case c3 => exact rfl); (case c4 => exact rfl); k_whole; intro g' L' h' FG' F' N' B' X' T'; (try dsimp only); (try k_lift B'); (try k_fold)))
  have l2' : @LT.lt Nat _ d' x' := l2
  have l3 := allLt_of l1
  k_steps
  exact hret _ _ _ _ _ _ _ _ _ _ _ _ _ _ _ _ _ _ _ (by k_asm) (news_pick2 (by k_asm) (by k_dflt k_mem) (by k_dflt k_mem) (by intro p hp; repeat' first | exact hp | apply List.mem_cons_of_mem)) l1 l2'

noncomputable def StopHere (P : Prop) : Prop := P
theorem stopHere {P : Prop} (h : StopHere P) : P := h
theorem goOn {P : Prop} (h : P) : StopHere P := h

theorem PiecesIn.mono {P : Params} {news big : List (Addr × Obj)} {vs : List Value} {segs : List Sg} (S : PiecesIn P news vs segs) (hs : ∀ p ∈ news, p ∈ big) : PiecesIn P big vs segs := by
  induction S with
  | nil => exact .nil
  | cons h1 h2 h3 h4 h5 _ ih => exact .cons (hs _ h1) (hs _ h2) h3 h4 h5 ih
theorem CompIn.of {P : Params} {news : List (Addr × Obj)} {t d : Addr} {ti k1 k2 k3 k4 : Tok} {i : Int} {v2 v3 v4 : Value} {n : Nat} (h1 : (t, instObj 235 d) ∈ news) (h2 : (d, compD P k1 k2 k3 k4 i ti v2 v3 v4 n) ∈ news) : CompIn P news (.ref t) i :=
  ⟨t, d, ti, k1, k2, k3, k4, v2, v3, v4, n, rfl, h1, h2⟩

theorem idents_ints {vi : List Value} {ns : List Int} (h : Idents5 vi ns) : IntsAre vi ns := by
  cases h <;> repeat (first | exact .nil | refine .cons _ _ ?_)
inductive CompsG (P : Params) (news : List (Addr × Obj)) : List Value → List Int → Prop
  | nil : CompsG P news [] []
  | cons {v : Value} {i : Int} {vs : List Value} {ns : List Int} : CompIn P news v i → CompsG P news vs ns → CompsG P news (v :: vs) (i :: ns)
theorem CompIn.mono {P : Params} {news big : List (Addr × Obj)} {v : Value} {i : Int} (h : CompIn P news v i) (hs : ∀ p ∈ news, p ∈ big) : CompIn P big v i := by
  obtain ⟨t, d, ti, k1, k2, k3, k4, v2, v3, v4, n, e, h1, h2⟩ := h
  exact ⟨t, d, ti, k1, k2, k3, k4, v2, v3, v4, n, e, hs _ h1, hs _ h2⟩
theorem CompsG.mono {P : Params} {news big : List (Addr × Obj)} {vs : List Value} {ns : List Int} (h : CompsG P news vs ns) (hs : ∀ p ∈ news, p ∈ big) : CompsG P big vs ns := by
  induction h with
  | nil => exact .nil
  | cons a _ ih => exact .cons (a.mono hs) ih
theorem CompsG.snoc {P : Params} {news : List (Addr × Obj)} {vs : List Value} {ns : List Int} {v : Value} {i : Int} (h : CompsG P news vs ns) (a : CompIn P news v i) : CompsG P news (vs ++ [v]) (ns ++ [i]) := by
  induction h with
  | nil => exact .cons a .nil
  | cons b _ ih => exact .cons b ih
theorem CompsG.fin {P : Params} {news : List (Addr × Obj)} {vs vi : List Value} {ns : List Int} (h : CompsG P news vs ns) (hI : Idents5 vi ns) : CompsIn P news vs ns := by
  cases hI
  · rcases h with _ | ⟨a, h⟩; rcases h with _ | ⟨b, h⟩; exact .c1 a
  · rcases h with _ | ⟨a, h⟩; rcases h with _ | ⟨b, h⟩; rcases h with _ | ⟨c, h⟩; exact .c2 a b
  · rcases h with _ | ⟨a, h⟩; rcases h with _ | ⟨b, h⟩; rcases h with _ | ⟨c, h⟩; rcases h with _ | ⟨d, h⟩; exact .c3 a b c
  · rcases h with _ | ⟨a, h⟩; rcases h with _ | ⟨b, h⟩; rcases h with _ | ⟨c, h⟩; rcases h with _ | ⟨d, h⟩; rcases h with _ | ⟨e, h⟩; exact .c4 a b c d
  · rcases h with _ | ⟨a, h⟩; rcases h with _ | ⟨b, h⟩; rcases h with _ | ⟨c, h⟩; rcases h with _ | ⟨d, h⟩; rcases h with _ | ⟨e, h⟩; rcases h with _ | ⟨f, h⟩; exact .c5 a b c d e
theorem CompsIn.mono {P : Params} {news big : List (Addr × Obj)} {vs : List Value} {ns : List Int} (h : CompsIn P news vs ns) (hs : ∀ p ∈ news, p ∈ big) : CompsIn P big vs ns := by
  cases h with
  | c1 a => exact .c1 (a.mono hs)
  | c2 a b => exact .c2 (a.mono hs) (b.mono hs)
  | c3 a b c => exact .c3 (a.mono hs) (b.mono hs) (c.mono hs)
  | c4 a b c d => exact .c4 (a.mono hs) (b.mono hs) (c.mono hs) (d.mono hs)
  | c5 a b c d e => exact .c5 (a.mono hs) (b.mono hs) (c.mono hs) (d.mono hs) (e.mono hs)
noncomputable def CompoEnd (P : Params) (h₀ : Heap) (L : Addr) (m : Str → Option Value) (s₁ : Shared) (i : Int) (I : Addr) (oI : Obj) (C : Addr) (oC : Obj) (D : Addr) (oD : Obj) (nw : List (Addr × Obj)) (v : Value) (s₂ : Shared) : Prop :=
  ∃ t d ti k1 k2 k3 k4 v2 v3 v4 n h' tk', v = .ref t ∧ s₂ = { s₁ with heap := h', toks := tk' } ∧ Fr h₀ L h' m ∧ News h₀ L h' ((t, instObj 235 d) :: (d, compD P k1 k2 k3 k4 i ti v2 v3 v4 n) :: (I, oI) :: (C, oC) :: (D, oD) :: nw) ∧
    (∀ q ∈ (I, oI) :: (C, oC) :: (D, oD) :: nw, q.1 < d) ∧ @LT.lt Nat _ d t
theorem CompoEnd.intro {P : Params} {h₀ : Heap} {L : Addr} {m : Str → Option Value} {s₁ : Shared} {I C D t d : Addr} {oI oC oD : Obj} {nw : List (Addr × Obj)} {i : Int} {ti k1 k2 k3 k4 : Tok} {v2 v3 v4 : Value} {n : Nat} {h' : Heap} {tk' : Nat} (F : Fr h₀ L h' m) (N : News h₀ L h' ((t, instObj 235 d) :: (d, compD P k1 k2 k3 k4 i ti v2 v3 v4 n) :: (I, oI) :: (C, oC) :: (D, oD) :: nw))
    (h1 : ∀ q ∈ (I, oI) :: (C, oC) :: (D, oD) :: nw, q.1 < d) (h2 : @LT.lt Nat _ d t) : CompoEnd P h₀ L m s₁ i I oI C oC D oD nw (.ref t) { s₁ with heap := h', toks := tk' } :=
  ⟨t, d, ti, k1, k2, k3, k4, v2, v3, v4, n, h', tk', rfl, rfl, F, N, h1, h2⟩
theorem allLt_to {d : Addr} : ∀ {l : List (Addr × Obj)}, AllLt d l → ∀ p ∈ l, p.1 < d := fun h p hp => ktn_ltOf h p hp
section
variable {prog : Program} {w : World} {A : Around} {s : Shared} {h₀ : Heap} {L : Addr} {m : Str → Option Value} {env : Env} {elt : Expr} {x : Str} {scope : Scope} {cl : List (Str × Addr)} {pre base : List (Addr × Obj)}
theorem comps_rest {P₀ : Params} {S : List (Addr × Obj) → Prop} {Fin : List Value → List (Addr × Obj) → Prop} {vi : List Value} {ns : List Int} {D0 : Addr} (hD0 : ∃ o, (D0, o) ∈ pre) (hI : IntsAre vi ns) (hS : ∀ nw, (∀ p ∈ base, p ∈ nw) → S nw)
    (turn : ∀ i ti own ys I oI C oC D m₂ h tk (E' : Value → Shared → Prop), LCg.NsObj oC m₂ → m₂ x = some (.int i ti) → Fr h₀ L h m → News h₀ L h ((I, oI) :: (C, oC) :: (D, LCg.lst ys) :: (pre ++ own)) →
      wpAny (model prog w) A (eval elt (compEnvC scope cl C env)) (CompoEnd P₀ h₀ L m { s with heap := h, toks := tk } i I oI C oC D (LCg.lst ys) (pre ++ own)) E' { s with heap := h, toks := tk })
    (fin : ∀ own ys, (∀ p ∈ base, p ∈ own) → CompsG P₀ own ys ns → (∀ p ∈ own, p.1 ≠ D0) → Fin ys (pre ++ own)) :
    ∀ (k i : Nat) own ys, i + k = vi.length → (∀ p ∈ base, p ∈ own) → CompsG P₀ own ys (ns.take i) → (∀ p ∈ own, p.1 ≠ D0) → LCg.CompRest prog w A h₀ L m env elt x scope cl s S (fun i v => vi.toArray[i]? = some v) Fin k i ys (pre ++ own)
  | 0, i, own, ys, hk, hb, hp, hn => fin own ys hb (by rw [Nat.add_zero] at hk; rw [hk, hI.length, List.take_length] at hp; exact hp) hn
  | k + 1, i, own, ys, hk, hb, hp, hn => by
    refine LCg.CompRest.succ fun v I oI C oC D m₂ h tk E' hv hC hx F N off ne => ?_
    obtain ⟨n, t0, rfl, hn0⟩ := IntsAre.at hI i v (by simpa using hv)
    have off' := off.mem
    refine wpAny_mono (turn n t0 own ys I oI C oC D m₂ h tk E' hC hx F N) (fun r s₂ hr => ?_) fun _ _ z => z
    obtain ⟨t, d, ti, k1, k2, k3, k4, v2, v3, v4, nn, h', tk', rfl, rfl, F', N', g1, g2⟩ := hr
    have take_succ : ns.take (i + 1) = ns.take i ++ [n] := by rw [List.take_add_one, hn0]; rfl
    have gt : ∀ q ∈ (I, oI) :: (C, oC) :: (D, LCg.lst ys) :: (pre ++ own), @LT.lt Nat _ q.1 t := fun q hq => Nat.lt_trans (g1 q hq) g2
    refine LCg.CompEnd.intro F' N' (pre ++ (t, instObj 235 d) :: (d, compD P₀ k1 k2 k3 k4 n ti v2 v3 v4 nn) :: own) (fun q hq => ?_) ?_ (hS _ fun q hq => List.mem_append_right _ (.tail _ (.tail _ (hb q hq))))
      (comps_rest hD0 hI hS turn fin k (i + 1) ((t, instObj 235 d) :: (d, compD P₀ k1 k2 k3 k4 n ti v2 v3 v4 nn) :: own) (ys ++ [.ref t]) (by omega) (fun q hq => .tail _ (.tail _ (hb q hq)))
        (by rw [take_succ]; exact (hp.mono fun q hq => .tail _ (.tail _ hq)).snoc (.of (.head _) (.tail _ (.head _)))) (fun q hq => ?_))
    · simp only [List.mem_cons, List.mem_append] at hq ⊢
      rcases hq with h | h | h | h | h | h | h <;> simp [h]
    · have gI := g1 (I, oI) (by simp)
      have gC := g1 (C, oC) (by simp)
      have gD := g1 (D, LCg.lst ys) (by simp)
      refine LCg.Off3.of fun q hq => ?_
      simp only [List.mem_cons, List.mem_append] at hq
      rcases hq with hq | rfl | rfl | hq
      · exact off' q (List.mem_append_left _ hq)
      · exact ⟨Nat.ne_of_gt (Nat.lt_trans gI g2), Nat.ne_of_gt (Nat.lt_trans gC g2), Nat.ne_of_gt (Nat.lt_trans gD g2)⟩
      · exact ⟨Nat.ne_of_gt gI, Nat.ne_of_gt gC, Nat.ne_of_gt gD⟩
      · exact off' q (List.mem_append_right _ hq)
    · obtain ⟨o, ho⟩ := hD0
      have z := g1 (D0, o) (by simp [ho])
      rcases List.mem_cons.mp hq with rfl | hq
      · exact Nat.ne_of_gt (Nat.lt_trans z g2)
      rcases List.mem_cons.mp hq with rfl | hq
      · exact Nat.ne_of_gt z
      · exact hn q hq
theorem ne_of_lts {D0 : Addr} {b : List (Addr × Obj)} (h : ∀ p ∈ b, p.1 < D0) : ∀ p ∈ b, p.1 ≠ D0 := fun p hp => Nat.ne_of_lt (h p hp)
theorem comps_src {P₀ : Params} {Fin : Shared → List Value → List (Addr × Obj) → Prop} {s₁ : Shared} (f : List (Addr × Obj) → List (Addr × Obj)) {li : Addr} {vi : List Value} {ns : List Int} {ni : Nat} {X0 D0 : Addr} {o0 : Obj} (N : News h₀ L s₁.heap (f base)) (hf : ∀ own, f own = f [] ++ own) (hh : A.handled = none) (F : Fr h₀ L s₁.heap m) (hl : (li, listOf vi.toArray ni) ∈ base) (hI : Idents5 vi ns)
    (hX0 : (X0, instObj 202 D0) ∈ f []) (hD0 : (D0, o0) ∈ f []) (hb0 : ∀ p ∈ base, p.1 ≠ D0)
    (turn : ∀ i ti own ys I oI C oC D m₂ h tk (E' : Value → Shared → Prop), LCg.NsObj oC m₂ → m₂ x = some (.int i ti) → Fr h₀ L h m → News h₀ L h ((I, oI) :: (C, oC) :: (D, LCg.lst ys) :: f own) →
      wpAny (model prog w) A (eval elt (compEnvC scope cl C env)) (CompoEnd P₀ h₀ L m { s₁ with heap := h, toks := tk } i I oI C oC D (LCg.lst ys) (f own)) E' { s₁ with heap := h, toks := tk })
    (fin : ∀ g own ys, (∀ p ∈ base, p ∈ own) → CompsIn P₀ own ys ns → (∀ p ∈ own, p.1 ≠ D0) → Fin { s₁ with heap := g } ys (f own)) :
    LCg.CompSrc prog w A h₀ L m env elt x scope cl Fin (.ref li) s₁ := by
  have hmem : (li, listOf vi.toArray ni) ∈ f base := by rw [hf]; exact List.mem_append_right _ hl
  have hlen : vi.length ≤ 5 := by cases hI <;> simp
  refine LCg.CompSrc.ledger hh F N hmem (by rw [PySem.sizeLine_eq, List.size_toArray]; omega) fun g => ?_
  have r := comps_rest (prog := prog) (w := w) (A := A) (s := { s₁ with heap := g }) (h₀ := h₀) (L := L) (m := m) (env := env) (elt := elt) (x := x) (scope := scope) (cl := cl) (pre := f []) (base := base) (P₀ := P₀) (S := LCg.SrcAt h₀ li vi.toArray) (Fin := Fin { s₁ with heap := g }) ⟨o0, hD0⟩ (idents_ints hI) (fun nw hb => Or.inr ⟨_, hb _ hl, rfl, _, rfl⟩)
    (fun i ti own ys I oI C oC D m₂ h tk E' a b c d => by rw [← hf] at d ⊢; exact turn i ti own ys I oI C oC D m₂ h tk E' a b c d)
    (fun own ys a b c => by rw [← hf]; exact fin g own ys a (b.fin hI) c) vi.length 0 base [] (by omega) (fun _ h => h) .nil hb0
  rw [← hf] at r
  exact r
theorem comps_src10 {a1 a2 : Addr × Obj} {P₀ : Params} {Fin : Shared → List Value → List (Addr × Obj) → Prop} {s₁ : Shared} {li : Addr} {vi : List Value} {ns : List Int} {ni : Nat} {X0 D0 : Addr} {o0 : Obj} (N : News h₀ L s₁.heap (a1 :: a2 :: base)) (hh : A.handled = none) (F : Fr h₀ L s₁.heap m) (hl : (li, listOf vi.toArray ni) ∈ base) (hI : Idents5 vi ns)
    (hX0 : (X0, instObj 202 D0) ∈ [a1, a2]) (hD0 : (D0, o0) ∈ [a1, a2]) (hb0 : ∀ p ∈ base, p.1 ≠ D0)
    (turn : ∀ i ti own ys I oI C oC D m₂ h tk (E' : Value → Shared → Prop), LCg.NsObj oC m₂ → m₂ x = some (.int i ti) → Fr h₀ L h m → News h₀ L h ((I, oI) :: (C, oC) :: (D, LCg.lst ys) :: a1 :: a2 :: own) →
      wpAny (model prog w) A (eval elt (compEnvC scope cl C env)) (CompoEnd P₀ h₀ L m { s₁ with heap := h, toks := tk } i I oI C oC D (LCg.lst ys) (a1 :: a2 :: own)) E' { s₁ with heap := h, toks := tk })
    (fin : ∀ g own ys, (∀ p ∈ base, p ∈ own) → CompsIn P₀ own ys ns → (∀ p ∈ own, p.1 ≠ D0) → Fin { s₁ with heap := g } ys (a1 :: a2 :: own)) :
    LCg.CompSrc prog w A h₀ L m env elt x scope cl Fin (.ref li) s₁ := 
  comps_src (f := fun own => a1 :: a2 :: own) N (fun _ => rfl) hh F hl hI hX0 hD0 hb0 turn fin
end
theorem dueS_none {segs : List Sg} {ns : List Int} (h : segsGo segs = none) : dueS segs ns = Str.ofString "refused" := by unfold dueS; rw [h]
noncomputable def NsIs (_ : List Int) : Prop := True
theorem nsIs {vi : List Value} {ns : List Int} (h : Idents5 vi ns) : Idents5 vi ns ∧ NsIs ns := ⟨h, trivial⟩
theorem cps1 {P : Params} {news : List (Addr × Obj)} {v1 : Value} {a1 : Int} {ns : List Int} (_ : NsIs ns) (e : ns = [a1]) (h1 : CompIn P news v1 a1) : CompsIn P news [v1] ns := e ▸ .c1 h1
theorem cps2 {P : Params} {news : List (Addr × Obj)} {v1 v2 : Value} {a1 a2 : Int} {ns : List Int} (_ : NsIs ns) (e : ns = [a1, a2]) (h1 : CompIn P news v1 a1) (h2 : CompIn P news v2 a2) : CompsIn P news [v1, v2] ns := e ▸ .c2 h1 h2
theorem cps3 {P : Params} {news : List (Addr × Obj)} {v1 v2 v3 : Value} {a1 a2 a3 : Int} {ns : List Int} (_ : NsIs ns) (e : ns = [a1, a2, a3]) (h1 : CompIn P news v1 a1) (h2 : CompIn P news v2 a2) (h3 : CompIn P news v3 a3) : CompsIn P news [v1, v2, v3] ns := e ▸ .c3 h1 h2 h3
theorem cps4 {P : Params} {news : List (Addr × Obj)} {v1 v2 v3 v4 : Value} {a1 a2 a3 a4 : Int} {ns : List Int} (_ : NsIs ns) (e : ns = [a1, a2, a3, a4]) (h1 : CompIn P news v1 a1) (h2 : CompIn P news v2 a2) (h3 : CompIn P news v3 a3) (h4 : CompIn P news v4 a4) : CompsIn P news [v1, v2, v3, v4] ns := e ▸ .c4 h1 h2 h3 h4
theorem cps5 {P : Params} {news : List (Addr × Obj)} {v1 v2 v3 v4 v5 : Value} {a1 a2 a3 a4 a5 : Int} {ns : List Int} (_ : NsIs ns) (e : ns = [a1, a2, a3, a4, a5]) (h1 : CompIn P news v1 a1) (h2 : CompIn P news v2 a2) (h3 : CompIn P news v3 a3) (h4 : CompIn P news v4 a4) (h5 : CompIn P news v5 a5) : CompsIn P news [v1, v2, v3, v4, v5] ns := e ▸ .c5 h1 h2 h3 h4 h5
local macro_rules | `(tactic| walk_at "mono") => `(tactic| (k_dflt (refine' PiecesIn.mono ?pa ?pb; (case pa => assumption); (case pb => (intro p hp; repeat' first | exact hp | apply List.mem_cons_of_mem)))))
section
local macro_rules | `(tactic| walk_at "eval ListComp") => `(tactic| (k_here; (with_reducible refine atComp1 ?_); k_dflt (refine LCg.ListComp_U (F₀ := by k_asm) (by rfl) (by decide) (by rfl) (by decide) (by rfl) ?_)))
local macro_rules | `(tactic| walk_at "CompSrc") => `(tactic| (k_here; refine stopHere ?_))
local macro_rules | `(tactic| walk_at "call ref") => `(tactic| (k_here; (with_reducible refine atRef 211 ?_); k_dflt (apply mo_ok); walk_at "pm"; (case hpa | hdpa | hfr | hdfr | hla | hlc => k_dflt k_mem); (case S => walk_at "mono"); (case hC => k_dflt (refine' CompsIn.mono ?ca ?cb; (case ca => assumption); (case cb => (intro p hp; repeat' first | exact hp | apply List.mem_cons_of_mem)))); all_goals intros))
local macro_rules | `(tactic| walk_at "call type:list") => `(tactic| (k_here; (with_reducible refine atList ?_); k_dflt (refine' list_copyK ?k1 ?k2 (News.isList (by k_asm) (by k_mem)) ?_ ?z; (case k1 | k2 => k_asm); (case z => ((simp only [List.size_toArray]); rw [PySem.sizeLine_eq]; omega))); intro D' c' h' F' N' l1; (try k_lt l1)))
local macro_rules | `(tactic| walk_at "call ref") => `(tactic| (k_here; (with_reducible refine atRef 202 ?_); k_dflt (apply parsed_new); walk_at "pm"; intros; rename_i l9 l8; (try k_lt l9); (try k_lt2 l8)))
local macro_rules | `(tactic| walk_at "call ref") => `(tactic| (k_here; (with_reducible refine atRef 235 ?_); k_dflt (apply comp_new); walk_at "pm"; intros; rename_i l9 l8; (try k_lt l9); (try k_lt2 l8)))
local macro_rules | `(tactic| walk_at "call ref") => `(tactic| (k_here; (with_reducible refine atRef 301 ?_); k_dflt (apply frame_new); walk_at "pm"; intros; rename_i l9 l8; (try k_lt l9); (try k_lt2 l8)))

theorem lm_ok (w : World) {mean : ExcName → Option Value} {mg mb : Str → Option Value} (dp un : Nat) (gd : Option (List Code)) (cn : Str) (cs : Scope) (a : Addr) (ccd : Value) (cl : List (Str × Addr)) (A₀ : Around) (h₀ : Heap) (L : Addr) (m : Str → Option Value) (s : Shared) (Q E : Value → Shared → Prop)
    (news : List (Addr × Obj)) (lp li : Addr) (pvs : List Value) (segs : List Sg) (np : Nat) (vi : List Value) (ns : List Int) (ni : Nat)
    (B : Below A₀ h₀ [] h₀) (F : Fr h₀ L s.heap m) (X : (kmake.heap_1 w.params).In h₀) (N : News h₀ L s.heap news) (T : Top vw (looseW vw looseL) mean mg mb h₀) (hk : cs.kind = .function)
    (S : PiecesIn w.params news pvs segs) (hlp : (lp, listOf pvs.toArray np) ∈ news) (hli : (li, listOf vi.toArray ni) ∈ news) (hI : Idents5 vi ns) (hpl : pvs.length ≤ 64) (hd : dp + 20 < recursionLimit) (hu : un + 200 < cLine)
    (hret : ∀ (t : Tok) (h' : Heap) (tk' : Nat), Fr h₀ L h' m → News h₀ L h' news → Q (.str (dueS segs ns) t) { s with heap := h', toks := tk' }) :
    wpAny (model pg51 w) (ktrTop dp un gd cn cs L a ccd cl []) (call (.ref 353) [.ref lp, .ref li]) Q E s := by
  refine wpAny_call ?_
  k_dflt (refine' code_defL ?k1 ?k2 ?k3 ?k4 ?k5 ?kA ?kL ?kE ?k6 ?k7 ?k8 ?k9 ?kB ?_ ?c2 ?c3 ?c4 ?c5; (case kA => exact rfl); (case kL => exact rfl); (case kE => intro z; rw [show (envX cn cs L a ccd cl).scope.kind = cs.kind from rfl, hk] at z; cases z); (case k2 => k_asm); (case k1 => k_asm); (case k3 => k_asm); (case k4 => k_asm); (case k5 => k_asm); (case k6 => k_is); (case k7 => k_is); (case k8 => ktr_room); (case k9 => first | exact BindsTo.of_eq rfl | exact binds_K (by k_in) rfl (by k_is) rfl rfl rfl); (case kB => exact locs rfl); (case c2 => exact rfl); (case c3 => exact rfl); (case c4 => exact rfl); (case c5 => decide); k_whole; intro g' L' h' FG' F' N' B' X0' T0' X' T' D'; (try dsimp only); (try k_lift B'); (try k_fold))

  k_steps
  refine goOn ?_
  k_dflt (refine comps_src10 (P₀ := w.params) (base := news) (by assumption) (by rfl) (by k_asm) (by assumption) hI (by k_mem) (by k_mem) (by exact ne_of_lts (by assumption)) ?turn ?fin)
  case turn =>
    intro i9 ti9 own9 ys9 I oI C oC D m2 h9 tk9 E9 hC hx F9 N9
    (try dsimp only at N9)
    k_steps
    exact CompoEnd.intro (by k_asm) (by k_asm) (allLt_to (by assumption)) (by assumption)
  case fin =>
    intro g9 own9 ys9 hb9 hc9 hn9
    unfold LCg.FinE
    intro D9 h9 tk9 F9 N9 o9
    (try simp only [LCg.Off1, and_true] at o9)
    have hlp9 := hb9 _ hlp
    have S9 : PiecesIn w.params own9 pvs segs := S.mono hb9
    k_steps
    all_goals first
      | exact hret _ _ _ (by k_asm) (by (rename News _ _ _ _ => N7); exact fun p hp => N7 p (by repeat' first | exact hp | exact hb9 _ hp | apply List.mem_cons_of_mem))
      | exact due_q (dueS_none (by assumption)) (hret _ _ _ (by k_asm) (by (rename News _ _ _ _ => N7); exact fun p hp => N7 p (by repeat' first | exact hp | exact hb9 _ hp | apply List.mem_cons_of_mem)))

end

theorem SegsIn.mono {news big : List (Addr × Obj)} {vs : List Value} {segs : List Sg} (S : SegsIn news vs segs) (hs : ∀ p ∈ news, p ∈ big) : SegsIn big vs segs := by
  induction S with
  | nil => exact .nil
  | cons h1 h2 h3 h4 _ ih => exact .cons (hs _ h1) h2 h3 h4 ih
theorem SegsIn.snoc {news : List (Addr × Obj)} {vs : List Value} {segs : List Sg} {t : Addr} {c : Int} {tc : Tok} {p : Array UInt8} {tp : Tok} (S : SegsIn news vs segs) (h1 : (t, tupObj c tc p tp) ∈ news) (h2 : 0 ≤ c) (h3 : c ≤ 255) (h4 : p.size ≤ 64) : SegsIn news (vs ++ [.ref t]) (segs ++ [(c, p)]) := by
  induction S with
  | nil => exact .cons h1 h2 h3 h4 .nil
  | cons a b c d _ ih => exact .cons a b c d ih
theorem PiecesIn.snoc {P : Params} {news : List (Addr × Obj)} {vs : List Value} {segs : List Sg} {t d : Addr} {c : Int} {tc k1 k2 k3 : Tok} {p : Array UInt8} {tp : Tok} {v3 : Value} {n : Nat} (S : PiecesIn P news vs segs) (h0 : (t, instObj 146 d) ∈ news) (h1 : (d, pieceD P k1 k2 k3 c tc p tp v3 n) ∈ news) (h2 : 0 ≤ c) (h3 : c ≤ 255) (h4 : p.size ≤ 64) : PiecesIn P news (vs ++ [.ref t]) (segs ++ [(c, p)]) := by
  induction S with
  | nil => exact .cons h0 h1 h2 h3 h4 .nil
  | cons a b c d e _ ih => exact .cons a b c d e ih

section
variable {prog : Program} {w : World} {A : Around} {E : Value → Shared → Prop} {s : Shared} {h₀ : Heap} {L : Addr} {m : Str → Option Value} {env : Env} {elt : Expr} {x x₂ : Str} {scope : Scope} {cl : List (Str × Addr)} {l : Addr} {nn : Nat} {base : List (Addr × Obj)}

noncomputable def RowEnd (h₀ : Heap) (L : Addr) (m : Str → Option Value) (s₁ : Shared) (l : Addr) (nn : Nat) (I : Addr) (oI : Obj) (C : Addr) (oC : Obj) (D : Addr) (oD : Obj) (rest : List (Addr × Obj)) (v : Value) (s₂ : Shared) : Prop :=
  ∃ t c tc p tp x' y' tx' ty' h' tk', v = .ref t ∧ s₂ = { s₁ with heap := h', toks := tk' } ∧ Fr h₀ L h' m ∧ News h₀ L h' ((l, srcObj x' tx' y' ty' nn) :: (t, tupObj c tc p tp) :: (I, oI) :: (C, oC) :: (D, oD) :: rest) ∧
    t ≠ l ∧ (∀ q ∈ (I, oI) :: (C, oC) :: (D, oD) :: rest, q.1 ≠ t) ∧ 0 ≤ c ∧ c ≤ 255 ∧ p.size ≤ 64 ∧ 0 ≤ x' ∧ 0 ≤ y' ∧ y' < 2147483647
theorem RowEnd.intro {s₁ : Shared} {I C D t : Addr} {oI oC oD : Obj} {rest : List (Addr × Obj)} {c x' y' : Int} {tc tp tx' ty' : Tok} {p : Array UInt8} {h' : Heap} {tk' : Nat} (F : Fr h₀ L h' m) (N : News h₀ L h' ((l, srcObj x' tx' y' ty' nn) :: (t, tupObj c tc p tp) :: (I, oI) :: (C, oC) :: (D, oD) :: rest))
    (h1 : t ≠ l) (h2 : ∀ q ∈ (I, oI) :: (C, oC) :: (D, oD) :: rest, q.1 ≠ t) (h3 : 0 ≤ c) (h4 : c ≤ 255) (h5 : p.size ≤ 64) (h6 : 0 ≤ x') (h7 : 0 ≤ y') (h8 : y' < 2147483647) : RowEnd h₀ L m s₁ l nn I oI C oC D oD rest (.ref t) { s₁ with heap := h', toks := tk' } :=
  ⟨t, c, tc, p, tp, x', y', tx', ty', h', tk', rfl, rfl, F, N, h1, h2, h3, h4, h5, h6, h7, h8⟩

theorem rows_rest {S : List (Addr × Obj) → Prop} {P : Nat → Value → Prop} {Fin : List Value → List (Addr × Obj) → Prop} (hS : ∀ nw, S nw) (nt : Nat)
    (turn : ∀ (x0 y0 : Int) (tx ty : Tok) rest segs ys v I oI C oC D m₂ h tk (E' : Value → Shared → Prop), (∀ p ∈ base, p ∈ rest) → SegsIn rest ys segs → 0 ≤ x0 → 0 ≤ y0 → y0 < 2147483647 → LCg.NsObj oC m₂ → m₂ x = some v → Fr h₀ L h m →
      News h₀ L h ((I, oI) :: (C, oC) :: (D, LCg.lst ys) :: (l, srcObj x0 tx y0 ty nn) :: rest) → (∀ p ∈ (I, oI) :: (C, oC) :: (D, LCg.lst ys) :: rest, p.1 ≠ l) →
      wpAny (model prog w) A (eval elt (compEnvC scope cl C env)) (RowEnd h₀ L m { s with heap := h, toks := tk } l nn I oI C oC D (LCg.lst ys) rest) E' { s with heap := h, toks := tk })
    (fin : ∀ (x0 y0 : Int) (tx ty : Tok) rest segs ys, segs.length = nt → (∀ p ∈ rest, p.1 ≠ l) → (∀ p ∈ base, p ∈ rest) → SegsIn rest ys segs → 0 ≤ x0 → 0 ≤ y0 → y0 < 2147483647 → Fin ys ((l, srcObj x0 tx y0 ty nn) :: rest)) :
    ∀ (k i : Nat) (x0 y0 : Int) (tx ty : Tok) rest segs ys, i + k = nt → segs.length = i → (∀ p ∈ rest, p.1 ≠ l) → (∀ p ∈ base, p ∈ rest) → SegsIn rest ys segs → 0 ≤ x0 → 0 ≤ y0 → y0 < 2147483647 →
      LCg.CompRest prog w A h₀ L m env elt x scope cl s S P Fin k i ys ((l, srcObj x0 tx y0 ty nn) :: rest)
  | 0, i, x0, y0, tx, ty, rest, segs, ys, hk, hi, ho, hb, hs, h1, h2, h3 => fin x0 y0 tx ty rest segs ys (by omega) ho hb hs h1 h2 h3
  | k + 1, i, x0, y0, tx, ty, rest, segs, ys, hk, hi, ho, hb, hs, h1, h2, h3 => by
    refine LCg.CompRest.succ fun v I oI C oC D m₂ h tk E' _ hC hx F N off ne => ?_
    have off' := off.mem
    refine wpAny_mono (turn x0 y0 tx ty rest segs ys v I oI C oC D m₂ h tk E' hb hs h1 h2 h3 hC hx F N ?_) (fun r s₂ hr => ?_) fun _ _ z => z
    · intro p hp
      have z := off' _ (List.mem_cons_self (a := (l, srcObj x0 tx y0 ty nn)) (l := rest))
      simp only [List.mem_cons] at hp
      rcases hp with rfl | rfl | rfl | hp
      · exact fun e => z.1 e.symm
      · exact fun e => z.2.1 e.symm
      · exact fun e => z.2.2 e.symm
      · exact ho p hp
    · obtain ⟨t, c, tc, p, tp, x', y', tx', ty', h', tk', rfl, rfl, F', N', g1, g2, g3, g4, g5, g6, g7, g8⟩ := hr
      refine LCg.CompEnd.intro F' N' ((l, srcObj x' tx' y' ty' nn) :: (t, tupObj c tc p tp) :: rest) (fun q hq => ?_) ?_ (hS _)
        (rows_rest hS nt turn fin k (i + 1) x' y' tx' ty' ((t, tupObj c tc p tp) :: rest) (segs ++ [(c, p)]) (ys ++ [.ref t]) (by omega) (by rw [List.length_append, List.length_singleton, hi]) ?_ (fun q hq => .tail _ (hb q hq)) ((hs.mono fun q hq => .tail _ hq).snoc (.head _) g3 g4 g5) g6 g7 g8)
      · simp only [List.mem_cons] at hq ⊢
        rcases hq with h | h | h | h | h | h <;> simp [h]
      · refine LCg.Off3.of fun q hq => ?_
        simp only [List.mem_cons] at hq
        rcases hq with rfl | rfl | hq
        · have z := off' _ (List.mem_cons_self (a := (l, srcObj x0 tx y0 ty nn)) (l := rest))
          exact z
        · exact ⟨fun e => g2 (I, oI) (by simp) e.symm, fun e => g2 (C, oC) (by simp) e.symm, fun e => g2 (D, LCg.lst ys) (by simp) e.symm⟩
        · exact off' q (.tail _ hq)
      · intro q hq
        rcases List.mem_cons.mp hq with rfl | hq
        · exact g1
        · exact ho q hq
theorem rows_src {Fin : Shared → List Value → List (Addr × Obj) → Prop} {r : Addr} {b x0 y0 : Int} {t u v tx ty : Tok} {s₁ : Shared} (hh : A.handled = none) (F : Fr h₀ L s₁.heap m) (N : News h₀ L s₁.heap ((l, srcObj x0 tx y0 ty nn) :: base)) (hr : IsRange s₁.heap r 0 b 1 t u v)
    (hoff : ∀ p ∈ base, p.1 ≠ l) (hb0 : 0 ≤ b) (hb : b < 5) (hx : 0 ≤ x0) (hy : 0 ≤ y0) (hy2 : y0 < 2147483647)
    (turn : ∀ (x0 y0 : Int) (tx ty : Tok) rest segs ys v I oI C oC D m₂ h tk (E' : Value → Shared → Prop), (∀ p ∈ base, p ∈ rest) → SegsIn rest ys segs → 0 ≤ x0 → 0 ≤ y0 → y0 < 2147483647 → LCg.NsObj oC m₂ → m₂ x = some v → Fr h₀ L h m →
      News h₀ L h ((I, oI) :: (C, oC) :: (D, LCg.lst ys) :: (l, srcObj x0 tx y0 ty nn) :: rest) → (∀ p ∈ (I, oI) :: (C, oC) :: (D, LCg.lst ys) :: rest, p.1 ≠ l) →
      wpAny (model prog w) A (eval elt (compEnvC scope cl C env)) (RowEnd h₀ L m { s₁ with heap := h, toks := tk } l nn I oI C oC D (LCg.lst ys) rest) E' { s₁ with heap := h, toks := tk })
    (fin : ∀ g (x0 y0 : Int) (tx ty : Tok) rest segs ys, segs.length ≤ 4 → (∀ p ∈ rest, p.1 ≠ l) → (∀ p ∈ base, p ∈ rest) → SegsIn rest ys segs → 0 ≤ x0 → 0 ≤ y0 → y0 < 2147483647 → Fin { s₁ with heap := g } ys ((l, srcObj x0 tx y0 ty nn) :: rest)) :
    LCg.CompSrc prog w A h₀ L m env elt x scope cl Fin (.ref r) s₁ := by
  refine LCg.CompSrc.range hh F N hr (small_one (by omega) (by omega) (by omega) (by omega)) (rangeSize_nat _ _) (by rw [PySem.sizeLine_eq]; omega) fun g => ?_
  exact rows_rest (s := { s₁ with heap := g }) (fun _ => trivial) (b - 0).toNat turn (fun x0 y0 tx ty rest segs ys hl => fin g x0 y0 tx ty rest segs ys (by omega)) (b - 0).toNat 0 x0 y0 tx ty base [] [] (by omega) rfl hoff (fun _ h => h) .nil hx hy hy2

noncomputable def PieceEnd (P : Params) (h₀ : Heap) (L : Addr) (m : Str → Option Value) (s₁ : Shared) (c : Int) (p : Array UInt8) (I : Addr) (oI : Obj) (C : Addr) (oC : Obj) (D : Addr) (oD : Obj) (nw : List (Addr × Obj)) (v : Value) (s₂ : Shared) : Prop :=
  ∃ t d k1 k2 k3 tc tp v3 n h' tk', v = .ref t ∧ s₂ = { s₁ with heap := h', toks := tk' } ∧ Fr h₀ L h' m ∧ News h₀ L h' ((t, instObj 146 d) :: (d, pieceD P k1 k2 k3 c tc p tp v3 n) :: (I, oI) :: (C, oC) :: (D, oD) :: nw) ∧
    (∀ q ∈ (I, oI) :: (C, oC) :: (D, oD) :: nw, q.1 < d) ∧ @LT.lt Nat _ d t
theorem PieceEnd.intro {P : Params} {s₁ : Shared} {I C D t d : Addr} {oI oC oD : Obj} {nw : List (Addr × Obj)} {c : Int} {k1 k2 k3 tc tp : Tok} {p : Array UInt8} {v3 : Value} {n : Nat} {h' : Heap} {tk' : Nat} (F : Fr h₀ L h' m) (N : News h₀ L h' ((t, instObj 146 d) :: (d, pieceD P k1 k2 k3 c tc p tp v3 n) :: (I, oI) :: (C, oC) :: (D, oD) :: nw))
    (h1 : ∀ q ∈ (I, oI) :: (C, oC) :: (D, oD) :: nw, q.1 < d) (h2 : @LT.lt Nat _ d t) : PieceEnd P h₀ L m s₁ c p I oI C oC D oD nw (.ref t) { s₁ with heap := h', toks := tk' } :=
  ⟨t, d, k1, k2, k3, tc, tp, v3, n, h', tk', rfl, rfl, F, N, h1, h2⟩
theorem pieces_rest {P₀ : Params} {S : List (Addr × Obj) → Prop} {Fin : List Value → List (Addr × Obj) → Prop} {vs : List Value} {segs : List Sg} (S0 : SegsIn base vs segs) (hS : ∀ nw, (∀ p ∈ base, p ∈ nw) → S nw)
    (turn : ∀ c tc p tp nw ys I oI C oC D m₂ h tk (E' : Value → Shared → Prop), 0 ≤ c → c ≤ 255 → p.size ≤ 64 → LCg.NsObj oC m₂ → m₂ x = some (.int c tc) → m₂ x₂ = some (.bytes p tp) → Fr h₀ L h m → News h₀ L h ((I, oI) :: (C, oC) :: (D, LCg.lst ys) :: nw) →
      wpAny (model prog w) A (eval elt (compEnvC scope cl C env)) (PieceEnd P₀ h₀ L m { s with heap := h, toks := tk } c p I oI C oC D (LCg.lst ys) nw) E' { s with heap := h, toks := tk })
    (fin : ∀ nw ys, (∀ p ∈ base, p ∈ nw) → PiecesIn P₀ nw ys segs → Fin ys nw) :
    ∀ (k i : Nat) nw ys, i + k = vs.length → (∀ p ∈ base, p ∈ nw) → PiecesIn P₀ nw ys (segs.take i) → LCp.CompRestP prog w A h₀ L m env elt x x₂ scope cl s S (fun i v => vs.toArray[i]? = some v) Fin k i ys nw
  | 0, i, nw, ys, hk, hb, hp => fin nw ys hb (by rw [Nat.add_zero] at hk; rw [hk, S0.length, List.take_length] at hp; exact hp)
  | k + 1, i, nw, ys, hk, hb, hp => by
    refine LCp.CompRestP.succ fun v hv => ?_
    obtain ⟨t, c, tc, p, tp, post, rfl, e1, e2, e3, e4, e5, e6⟩ := S0.at (i := i) (v := v) (by simpa using hv)
    refine ⟨t, tupObj c tc p tp, .int c tc, .bytes p tp, 0, rfl, hb _ e3, rfl, rfl, ?_⟩
    intro I oI C oC D m₂ h tk E' hC hx hx₂ F N off ne
    have off' := off.mem
    refine wpAny_mono (turn c tc p tp nw ys I oI C oC D m₂ h tk E' e4 e5 e6 hC hx hx₂ F N) (fun r s₂ hr => ?_) fun _ _ z => z
    obtain ⟨t', d', k1, k2, k3, tc', tp', v3, n, h', tk', rfl, rfl, F', N', g1, g2⟩ := hr
    have take_succ : segs.take (i + 1) = segs.take i ++ [(c, p)] := by
      have h := congrArg (List.take (i + 1)) e1
      rw [List.take_append, e2, show i + 1 - i = 1 by omega, List.take_of_length_le (l := segs.take i) (by rw [e2]; omega)] at h
      exact h
    refine LCg.CompEnd.intro F' N' ((t', instObj 146 d') :: (d', pieceD P₀ k1 k2 k3 c tc' p tp' v3 n) :: nw) (fun q hq => ?_) ?_ (hS _ fun q hq => .tail _ (.tail _ (hb q hq)))
      (pieces_rest S0 hS turn fin k (i + 1) _ (ys ++ [.ref t']) (by omega) (fun q hq => .tail _ (.tail _ (hb q hq))) (by rw [take_succ]; exact (hp.mono fun q hq => .tail _ (.tail _ hq)).snoc (.head _) (.tail _ (.head _)) e4 e5 e6))
    · simp only [List.mem_cons] at hq ⊢
      rcases hq with h | h | h | h | h | h <;> simp [h]
    · have gI := g1 (I, oI) (by simp)
      have gC := g1 (C, oC) (by simp)
      have gD := g1 (D, LCg.lst ys) (by simp)
      refine LCg.Off3.of fun q hq => ?_
      simp only [List.mem_cons] at hq
      rcases hq with rfl | rfl | hq
      · exact ⟨Nat.ne_of_gt (Nat.lt_trans gI g2), Nat.ne_of_gt (Nat.lt_trans gC g2), Nat.ne_of_gt (Nat.lt_trans gD g2)⟩
      · exact ⟨Nat.ne_of_gt gI, Nat.ne_of_gt gC, Nat.ne_of_gt gD⟩
      · exact off' q hq
end

section
local macro_rules | `(tactic| walk_at "call ref") => `(tactic| (k_here; (with_reducible refine atRef 341 ?_); k_dflt (apply seg_ok); walk_at "pm"; walk_at "pt"; intros))
local macro_rules | `(tactic| walk_at "call ref") => `(tactic| (k_here; (with_reducible refine atRef 353 ?_); k_dflt (apply lm_ok); walk_at "pm"; (case S => walk_at "mono"); (case hlp | hli => k_dflt k_mem); (case hI => assumption); (case hpl => first | assumption | (simp only [List.length_cons, List.length_nil]; omega)); intros))
local macro_rules | `(tactic| walk_at "call ref") => `(tactic| (k_here; (with_reducible refine atRef 348 ?_); k_dflt (apply due_ok); walk_at "pm"; (case S => k_dflt (refine' SegsIn.mono ?pa ?pb; (case pa => assumption); (case pb => (intro p hp; repeat' first | exact hp | apply List.mem_cons_of_mem)))); (case hlr | hli => k_dflt k_mem); (case hI => assumption); intros))
local macro_rules | `(tactic| walk_at "exec Assign cons ListComp") => `(tactic| (k_here; (with_reducible refine atAsg ?_); k_dflt (refine LCg.Assign_ListComp_U (F₀ := by k_asm) (by rfl) (by with_unfolding_all rfl) (by with_unfolding_all rfl) (by decide) (by rfl) (by decide) (by rfl) (by rfl) (by rfl) ?_)))
local macro_rules | `(tactic| walk_at "eval ListComp") => `(tactic| (k_here; (with_reducible refine atComp2 ?_); k_dflt (refine LCp.ListComp_P (F₀ := by k_asm) (by with_unfolding_all rfl) (by decide) (by rfl) (by decide) (by rfl) (by rfl) (by decide) ?_)))
local macro_rules | `(tactic| walk_at "CompSrc") => `(tactic| (k_here; refine stopHere ?_))
local macro_rules | `(tactic| walk_at "SrcLP") => `(tactic| (k_here; refine stopHere ?_))
local macro_rules | `(tactic| walk_at "pad4") => `(tactic| skip)

noncomputable def stmtAt : List Stmt → Nat → Stmt
  | s :: _, 0 => s
  | _ :: r, n + 1 => stmtAt r n
  | [], _ => .Pass ⟨0, 0, 0, 0⟩
noncomputable def bodyIn : Stmt → List Stmt
  | .FunctionDef _ _ b _ _ _ _ _ _ _ => b
  | .For _ _ b _ _ => b
  | _ => []
noncomputable def scopeIn : Stmt → Scope
  | .FunctionDef _ _ _ _ _ _ sc _ _ _ => sc
  | _ => default
noncomputable def lawStmt : Stmt := stmtAt PySem.Challenge.pw_nz0251_01.main.body 44
noncomputable abbrev lawBodyS : { x : List Stmt // x = bodyIn lawStmt } := by
  constructor
  case property => conv => rhs; whnf
noncomputable abbrev lawScopeS : { x : Scope // x = scopeIn lawStmt } := by
  constructor
  case property => conv => rhs; whnf
noncomputable abbrev turnBodyS : { x : List Stmt // x = bodyIn (stmtAt lawBodyS.1 1) } := by
  constructor
  case property => conv => rhs; whnf
noncomputable abbrev lawScope : Scope := lawScopeS.1
noncomputable abbrev turnBody : List Stmt := turnBodyS.1
noncomputable abbrev lawEnv (L a : Addr) (ccd : Value) (c : Addr) : Env := envX (Str.ofString "law") lawScope L a ccd [(Str.ofString "source", c)]
noncomputable abbrev turnTailS : { x : List Stmt // x = turnBody.drop 3 } := by
  constructor
  case property => conv => rhs; whnf
noncomputable abbrev turnTail : List Stmt := turnTailS.1
noncomputable abbrev lawTop (dp un : Nat) (gd : Option (List Code)) (L a : Addr) (ccd : Value) (c : Addr) : Around := ktrTop dp un gd (Str.ofString "law") lawScope L a ccd [(Str.ofString "source", c)] []
noncomputable abbrev tm (ls : Addr) (u : Str → Option Value) : Str → Option Value := fun y => if y = Str.ofString "script" then some (.ref ls) else u y
theorem ne_of_bneS {x y : Str} (h : (x != y) = true) : x ≠ y := by simpa using h
theorem tm_eq {ls : Addr} {m : Str → Option Value} (h : m (Str.ofString "script") = some (.ref ls)) : m = tm ls m := by
  funext y
  unfold tm
  split
  · rename_i e; rw [e, h]
  · rfl
theorem fr_tm {h₀ h : Heap} {L ls : Addr} {m : Str → Option Value} (F : Fr h₀ L h m) (e : m (Str.ofString "script") = some (.ref ls)) : Fr h₀ L h (tm ls m) := tm_eq e ▸ F

theorem tail_ok (w : World) {mean : ExcName → Option Value} {mg mb : Str → Option Value} (dp un : Nat) (gd : Option (List Code)) (a : Addr) (ccd : Value) (c : Addr) (A₀ : Around) (h₀ : Heap) (L : Addr) (s : Shared) (Q : Flow → Shared → Prop) (E : Value → Shared → Prop)
    (l : Addr) (x y : Int) (tx ty : Tok) (n : Nat) (u : Str → Option Value) (ls : Addr) (oc : Obj) (li : Addr) (vi : List Value) (ns : List Int) (ni : Nat) (ex : List (Addr × Obj))
    (B : Below A₀ h₀ [] h₀) (F : Fr h₀ L s.heap (fun y => if y = Str.ofString "idents" then some (.ref li) else tm ls u y)) (X : (kmake.heap_1 w.params).In h₀) (N : News h₀ L s.heap ((l, srcObj x tx y ty n) :: (li, listOf vi.toArray ni) :: (c, oc) :: ex)) (T : Top vw (looseW vw looseL) mean mg mb h₀)
    (hI : Idents5 vi ns) (hx : 0 ≤ x) (hy : 0 ≤ y) (hy2 : y < 2147483647) (hlc : c ≠ l) (hli : li ≠ l) (hex : ∀ p ∈ ex, p.1 ≠ l) (hoc : oc.data = .cell (some (.ref l))) (hd : dp + 40 < recursionLimit) (hu : un + 400 < cLine)
    (hret : ∀ (x' y' : Int) (tx' ty' : Tok) (h' : Heap) (tk' : Nat) (u' : Str → Option Value), 0 ≤ x' → 0 ≤ y' → y' < 2147483647 → Fr h₀ L h' (tm ls u') → News h₀ L h' ((l, srcObj x' tx' y' ty' n) :: (c, oc) :: ex) → Q .next { s with heap := h', toks := tk' }) :
    wpAny (model pg51 w) (lawTop dp un gd L a ccd c) (execs turnTail (lawEnv L a ccd c)) Q E s := by
  have hoff : ∀ p ∈ (li, listOf vi.toArray ni) :: (c, oc) :: ex, p.1 ≠ l := by
    intro p hp
    simp only [List.mem_cons] at hp
    rcases hp with rfl | rfl | hp
    · exact hli
    · exact hlc
    · exact hex p hp
  k_steps
  refine goOn ?_
  k_dflt (refine' rows_src (by rfl) ?F ?N ?R ?off ?b0 ?b5 ?x ?y ?y2 ?_ ?_)
  (case F => k_asm)
  (case N => k_asm)
  (case R => assumption)
  (case off => assumption)
  (case b0 => assumption)
  (case b5 => assumption)
  (case x => assumption)
  (case y => assumption)
  (case y2 => assumption)
  · intro x0 y0 tx ty rest segs ys v I oI C oC D m2 h tk E' hb hs h1 h2 h3 hC hx F N ho
    have hcm := hb _ (.tail _ (.head _))
    k_steps
    exact RowEnd.intro (by k_asm) (by k_asm) (by assumption) (by assumption) (by assumption) (by assumption) (by assumption) (by assumption) (by assumption) (by assumption)
  · intro g x0 y0 tx ty rest segs ys hl ho hb hs h1 h2 h3
    unfold LCg.FinA
    intro D' h' tk' F' N' o1'
    k_steps
    refine goOn ?_
    have hyl : ys.length = segs.length := hs.length
    k_dflt (refine' LCp.SrcLP.ledger (its := ys.toArray) (by rfl) ?F ?N (List.mem_cons_self) ?sz ?_)
    (case F => k_asm)
    (case N => k_asm)
    (case sz => rw [PySem.sizeLine_eq, List.size_toArray]; omega)
    intro g2
    refine pieces_rest (P₀ := w.params) (base := (D', LCg.lst ys) :: (l, srcObj x0 tx y0 ty n) :: rest) (segs := segs) (hs.mono fun p hp => .tail _ (.tail _ hp)) (fun nw hb2 => Or.inr ⟨_, hb2 _ (.head _), rfl, _, rfl⟩) ?turn ?fin ys.length 0 _ [] (by omega) (fun _ h => h) .nil
    case turn =>
      intro c9 tc9 p9 tp9 nw ys9 I oI C oC D m2 h tk E' g1 g3 g4 hC hx hy F N
      k_steps
      exact PieceEnd.intro (by k_asm) (by k_asm) (allLt_to (by assumption)) (by assumption)
    case fin =>
      intro nw ys9 hb2 hpc
      have hm1 := hb2 _ (.head _)
      have hm2 := hb2 _ (.tail _ (.tail _ (hb _ (.head _))))
      have hs2 : SegsIn nw ys segs := hs.mono fun p hp => hb2 _ (.tail _ (.tail _ hp))
      have hpl : ys9.length ≤ 64 := by rw [hpc.length]; omega
      unfold LCg.FinE
      intro D2 hp2 tk2 F2 N2 o2
      have hm3 := hb2 _ (.tail _ (.head _))
      have hm4 := hb2 _ (.tail _ (.tail _ (hb _ (.tail _ (.head _)))))
      k_steps
      · exact absurd rfl (ne_of_bneS (by assumption))
      · refine hret x0 y0 tx ty _ _ _ h1 h2 h3 (fr_tm (by k_asm) rfl) ?_
        rename News _ _ _ _ => N7
        intro p hp
        simp only [List.mem_cons] at hp
        rcases hp with rfl | rfl | hp
        · exact N7 _ (.tail _ hm3)
        · exact N7 _ (.tail _ hm4)
        · exact N7 _ (.tail _ (hb2 _ (.tail _ (.tail _ (hb _ (.tail _ (.tail _ hp)))))))

end

theorem idents5_of {vs : List Value} {ns : List Int} (h : IntsAre vs ns) (h1 : 1 ≤ ns.length) (h5 : ns.length ≤ 5) : Idents5 vs ns := by
  rcases h with _ | ⟨_, _, h⟩
  · simp at h1
  rcases h with _ | ⟨_, _, h⟩
  · exact .c1 _ _
  rcases h with _ | ⟨_, _, h⟩
  · exact .c2 _ _ _ _
  rcases h with _ | ⟨_, _, h⟩
  · exact .c3 _ _ _ _ _ _
  rcases h with _ | ⟨_, _, h⟩
  · exact .c4 _ _ _ _ _ _ _ _
  rcases h with _ | ⟨_, _, h⟩
  · exact .c5 _ _ _ _ _ _ _ _ _ _
  · simp only [List.length_cons] at h5
    omega
theorem fr_id {h₀ h : Heap} {L ls li : Addr} {m : Str → Option Value} (F : Fr h₀ L h m) (e1 : m (Str.ofString "script") = some (.ref ls)) (e2 : m (Str.ofString "idents") = some (.ref li)) : Fr h₀ L h (fun y => if y = Str.ofString "idents" then some (.ref li) else tm ls m y) := by
  have e : m = fun y => if y = Str.ofString "idents" then some (.ref li) else tm ls m y := by
    funext y
    show m y = if y = Str.ofString "idents" then some (.ref li) else tm ls m y
    split
    · rename_i q; rw [q, e2]
    · exact congrFun (tm_eq e1) y
  exact e ▸ F

theorem news_three {h₀ h : Heap} {L : Addr} {a b c : Addr × Obj} {all : List (Addr × Obj)} (N : News h₀ L h all) (ha : a ∈ all) (hb : b ∈ all) (hc : c ∈ all) {ex : List (Addr × Obj)} (he : ∀ p ∈ ex, p ∈ all) : News h₀ L h (a :: b :: c :: ex) := fun p hp => by
  simp only [List.mem_cons] at hp
  rcases hp with rfl | rfl | rfl | hp
  · exact N _ ha
  · exact N _ hb
  · exact N _ hc
  · exact N _ (he _ hp)
section
local macro_rules | `(tactic| walk_at "call ref") => `(tactic| (k_here; (with_reducible refine atRef 334 ?_); k_dflt (apply (one_ints 1 5)); walk_at "pm"; walk_at "po"; (case hall => k_dflt (intro v hv; simp only [List.mem_cons, List.not_mem_nil, or_false] at hv; rcases hv with rfl | rfl | rfl | rfl | rfl | rfl | rfl <;> exact ⟨_, _, rfl, by decide, by decide⟩)); intros))
local macro_rules | `(tactic| walk_at "execs cons") => `(tactic| (k_here; (with_reducible show wpAny _ _ (execs turnTail _) _ _ _); refine stopHere ?_))

theorem turn_ok (w : World) {mean : ExcName → Option Value} {mg mb : Str → Option Value} (dp un : Nat) (gd : Option (List Code)) (a : Addr) (ccd : Value) (c : Addr) (A₀ : Around) (h₀ : Heap) (L : Addr) (s : Shared) (Q : Flow → Shared → Prop) (E : Value → Shared → Prop)
    (l : Addr) (x y : Int) (tx ty : Tok) (n : Nat) (u : Str → Option Value) (ls : Addr) (oc : Obj) (ex : List (Addr × Obj))
    (B : Below A₀ h₀ [] h₀) (F : Fr h₀ L s.heap (tm ls u)) (X : (kmake.heap_1 w.params).In h₀) (N : News h₀ L s.heap ((l, srcObj x tx y ty n) :: (c, oc) :: ex)) (T : Top vw (looseW vw looseL) mean mg mb h₀)
    (hx : 0 ≤ x) (hy : 0 ≤ y) (hy2 : y < 2147483647) (hlc : c ≠ l) (hex : ∀ p ∈ ex, p.1 ≠ l) (hoc : oc.data = .cell (some (.ref l))) (hd : dp + 40 < recursionLimit) (hu : un + 400 < cLine)
    (hret : ∀ (x' y' : Int) (tx' ty' : Tok) (h' : Heap) (tk' : Nat) (u' : Str → Option Value), 0 ≤ x' → 0 ≤ y' → y' < 2147483647 → Fr h₀ L h' (tm ls u') → News h₀ L h' ((l, srcObj x' tx' y' ty' n) :: (c, oc) :: ex) → Q .next { s with heap := h', toks := tk' }) :
    wpAny (model pg51 w) (lawTop dp un gd L a ccd c) (execs turnBody (lawEnv L a ccd c)) Q E s := by
  have hlc' : (c : Nat) ≠ l := hlc
  k_steps
  all_goals (refine goOn ?_)
  all_goals exact tail_ok w dp un gd a ccd c A₀ h₀ L _ Q E l _ _ _ _ n _ ls oc _ _ _ _ ex B (fr_id (by k_asm) (by exact rfl) (by exact rfl)) X (news_three (by k_asm) (by k_dflt k_mem) (by k_dflt k_mem) (by k_dflt k_mem) (by intro p hp; repeat' first | exact hp | apply List.mem_cons_of_mem)) T (idents5_of (by assumption) (by simp only [List.length_map, rangeKs_length, List.length_take, List.length_cons, List.length_nil]; omega) (by simp only [List.length_map, rangeKs_length, List.length_take, List.length_cons, List.length_nil]; omega)) (by assumption) (by assumption) (by assumption) hlc (by k_ne) hex hoc hd hu hret

end
theorem bz_no_bytes : typeLookup (.type "int") "__bytes__" = pure none := by rw [typeLookup_type, builtinLookup_eq_fast]; kernel_rfl
theorem bz_index : typeLookup (.type "int") "__index__" = pure (some (.builtin "int.__index__")) := by rw [typeLookup_type, builtinLookup_eq_fast]; kernel_rfl
section
variable {prog : Program} {w : World} {A : Around} {E : Value → Shared → Prop} {s : Shared}
theorem bz_new {t : Tok} {Q : Value → Shared → Prop} (hQ : ∀ k t', Q (.bytes #[0, 0] t') { s with toks := k }) :
    codeAny (model prog w) A (.call (.builtin "bytes.__new__") ⟨[.type "bytes", .int 2 t], []⟩) (wants Q E) s := by
  refine codeAny_of_tree ?_
  show wpAny _ A.in1 (do checkBuiltinCall "bytes.__new__" ⟨[.type "bytes", .int 2 t], []⟩; again (.builtin "bytes.__new__" ⟨[.type "bytes", .int 2 t], []⟩)) _ _ s
  refine wpAny_bind (wpAny_of_eq (F.bm_newCall _) (wpAny_pure ⟨plainId_quiet F.bm_plain _, codeAny_builtin F.bm_entry ?_⟩))
  rw [Around.under_plainId F.bm_plain _]
  have hT : s.TypeIs (.int 2 t) "int" := typeIs_int _ _ _
  unfold Builtin.«bytes.__new__»
  refine wpAny_bind (wpAny_of_eq (a := true) rfl ?_)
  refine bm_if_false rfl ?_
  refine wpAny_bind (wpAny_of_eq F.bm_sub ?_)
  refine bm_if_false rfl ?_
  refine wpAny_bind (wpAny_of_eq (F.bm_bind _) ?_)
  refine wpAny_bind (wpAny_of_eq (a := ()) rfl ?_)
  refine wpAny_bind (wpAny_of_eq (a := ()) rfl ?_)
  refine bm_if_false rfl ?_
  refine wpAny_bind (wpAny_specialOf hT bz_no_bytes ?_)
  refine wpAny_bind (wpAny_of_eq (a := false) rfl ?_)
  refine bm_if_false rfl ?_
  refine wpAny_bind (wpAny_specialOf hT bz_index ?_)
  refine bm_if_false rfl ?_
  refine wpAny_bind (wpAny_of_eq (a := .ok 2) rfl ?_)
  dsimp only
  refine bm_if_false (by decide) ?_
  rw [if_neg (by decide), if_neg (by decide)]
  refine bm_if_false (by decide +kernel) ?_
  refine wpAny_bind (wpAny_rule ?_)
  refine wpAny_bind (wpAny_mkBytes ?_ (by show 2 ≤ sizeLine; rw [PySem.sizeLine_eq]; omega))
  show wpAny _ _ (if (Value.type "bytes" == Value.type "bytes") = true then _ else _) _ _ _
  refine bm_if_true (by decide) ?_
  first
    | exact wpAny_pure (hQ _ _)
    | exact wpAny_bind (wpAny_pure (wpAny_pure (hQ _ _)))
theorem call_bytes_two {t : Tok} {Q : Value → Shared → Prop} (hQ : ∀ k t', Q (.bytes #[0, 0] t') { s with toks := k }) :
    wpAny (model prog w) A (call (.type "bytes") [.int 2 t]) Q E s := by
  refine callType_codes (Q₁ := fun obj s₁ => s₁.TypeIs obj "bytes" ∧ Q obj s₁) F.bm_called (F.bm_typeCall _) F.entry_object_init
    (bz_new fun k t' => ⟨PySem.W.typeIs_bytes _ _ _, hQ k t'⟩) fun obj s₁ h₁ => ?_
  exact ⟨h₁.1, F.args_object_init_2 obj _, object_init_meets F.bm_called.init.lookup F.bm_called.made (by decide) prog w A.in1 _ s₁ ⟨h₁.1, rfl, h₁.2⟩⟩
end

theorem q_bytes {Q : Value → Shared → Prop} {p q : Array UInt8} {t : Tok} {s : Shared} (e : p = q) (h : Q (.bytes q t) s) : Q (.bytes p t) s := e ▸ h
noncomputable def wWord (n : Int) : Array UInt8 := byteArr [Int.fdiv n 256, Int.fmod n 256]
noncomputable def wAdobe (k : Int) : Array UInt8 := #[65, 100, 111, 98, 101, 0, 100, 0, 0, 0, 0] ++ byteArr [k]
noncomputable def wJfif : Array UInt8 := #[74, 70, 73, 70, 0, 1, 1, 0, 0, 1, 0, 1, 0, 0]
section
local macro_rules | `(tactic| walk_at "call type:bytes") => `(tactic| (k_here; (with_reducible refine atBytes ?_); k_dflt (refine' KBa.make_K ?kbaF ?kbaN ?kbah ?kbal ?kbai ?kbar ?kban ?_; (case kbaF | kbaN => k_asm); (case kbah => rfl); (case kbal => exact News.isList (by k_asm) (by k_mem)); (case kbai => first | exact IntsAre.cons _ _ (IntsAre.cons _ _ .nil) | exact IntsAre.cons _ _ .nil | exact IntsAre.cons _ _ (IntsAre.cons _ _ (IntsAre.cons _ _ .nil))); (case kbar => (unfold KBa.In; decide)); (case kban => decide)); intros))
local macro_rules | `(tactic| walk_at "call type:bytes") => `(tactic| (k_here; (with_reducible refine atBytes2 ?_); k_dflt (refine call_bytes_two ?_); intros))
local macro_rules | `(tactic| walk_at "pad5") => `(tactic| skip)

theorem word_ok (w : World) {mean : ExcName → Option Value} {mg mb : Str → Option Value} (dp un : Nat) (gd : Option (List Code)) (cn : Str) (cs : Scope) (a : Addr) (ccd : Value) (cl : List (Str × Addr)) (outer : List Env) (A₀ : Around) (base h₀ : Heap) (L : Addr) (m : Str → Option Value) (s : Shared) (Q E : Value → Shared → Prop)
    (n : Int) (t : Tok) (news : List (Addr × Obj))
    (B : Below A₀ base outer h₀) (F : Fr h₀ L s.heap m) (X : (kmake.heap_1 w.params).In h₀) (N : News h₀ L s.heap news) (T : Top vw (looseW vw looseL) mean mg mb h₀) (hk : cs.kind = .function) (hn : n = 0 ∨ n = 1 ∨ n = 100) (hd : dp + 12 < recursionLimit) (hu : un + 90 < cLine)
    (hret : ∀ (t' : Tok) (h' : Heap) (tk' : Nat), Fr h₀ L h' m → News h₀ L h' news → Q (.bytes (wWord n) t') { s with heap := h', toks := tk' }) :
    wpAny (model pg51 w) (ktrTop dp un gd cn cs L a ccd cl outer) (call (.ref 72) [.int n t]) Q E s := by
  rcases hn with rfl | rfl | rfl
  all_goals (refine wpAny_call ?_)
  all_goals k_dflt cell_enter
  all_goals k_steps
  all_goals exact q_bytes (by first | rfl | decide) (hret _ _ _ (by k_asm) (by (rename News _ _ _ _ => N7); exact fun p hp => N7 p (by repeat' first | exact hp | apply List.mem_cons_of_mem)))
local macro_rules | `(tactic| walk_at "call ref") => `(tactic| (k_here; (with_reducible refine atRef 72 ?_); k_dflt (apply word_ok); walk_at "pm"; (case hn => simp); intros))

theorem wadobe_ok (w : World) {mean : ExcName → Option Value} {mg mb : Str → Option Value} (dp un : Nat) (gd : Option (List Code)) (cn : Str) (cs : Scope) (a : Addr) (ccd : Value) (cl : List (Str × Addr)) (outer : List Env) (A₀ : Around) (base h₀ : Heap) (L : Addr) (m : Str → Option Value) (s : Shared) (Q E : Value → Shared → Prop)
    (k : Int) (t : Tok) (news : List (Addr × Obj))
    (B : Below A₀ base outer h₀) (F : Fr h₀ L s.heap m) (X : (kmake.heap_1 w.params).In h₀) (N : News h₀ L s.heap news) (T : Top vw (looseW vw looseL) mean mg mb h₀) (hk : cs.kind = .function) (hn : k = 0 ∨ k = 2) (hd : dp + 12 < recursionLimit) (hu : un + 90 < cLine)
    (hret : ∀ (t' : Tok) (h' : Heap) (tk' : Nat), Fr h₀ L h' m → News h₀ L h' news → Q (.bytes (wAdobe k) t') { s with heap := h', toks := tk' }) :
    wpAny (model pg51 w) (ktrTop dp un gd cn cs L a ccd cl outer) (call (.ref 121) [.int k t]) Q E s := by
  rcases hn with rfl | rfl
  all_goals (refine wpAny_call ?_)
  all_goals k_dflt cell_enter
  all_goals k_steps
  all_goals exact q_bytes (by first | rfl | decide) (hret _ _ _ (by k_asm) (by (rename News _ _ _ _ => N7); exact fun p hp => N7 p (by repeat' first | exact hp | apply List.mem_cons_of_mem)))

theorem wjfif_ok (w : World) {mean : ExcName → Option Value} {mg mb : Str → Option Value} (dp un : Nat) (gd : Option (List Code)) (cn : Str) (cs : Scope) (a : Addr) (ccd : Value) (cl : List (Str × Addr)) (outer : List Env) (A₀ : Around) (base h₀ : Heap) (L : Addr) (m : Str → Option Value) (s : Shared) (Q E : Value → Shared → Prop)
    (j d : Addr) (k1 k2 k3 k4 k5 t1 t2 t3 t4 t5 : Tok) (nn : Nat) (news : List (Addr × Obj))
    (B : Below A₀ base outer h₀) (F : Fr h₀ L s.heap m) (X : (kmake.heap_1 w.params).In h₀) (N : News h₀ L s.heap news) (T : Top vw (looseW vw looseL) mean mg mb h₀) (hk : cs.kind = .function) (hj : (j, instObj 89 d) ∈ news) (hjd : (d, jfifD w.params k1 k2 k3 k4 k5 (.int 1 t1) (.int 1 t2) (.int 0 t3) (.int 1 t4) (.int 1 t5) nn) ∈ news) (hd : dp + 12 < recursionLimit) (hu : un + 90 < cLine)
    (hret : ∀ (t' : Tok) (h' : Heap) (tk' : Nat), Fr h₀ L h' m → News h₀ L h' news → Q (.bytes wJfif t') { s with heap := h', toks := tk' }) :
    wpAny (model pg51 w) (ktrTop dp un gd cn cs L a ccd cl outer) (call (.ref 107) [.ref j]) Q E s := by
  refine wpAny_call ?_
  k_dflt cell_enter
  k_steps
  exact q_bytes (by first | rfl | decide) (hret _ _ _ (by k_asm) (by (rename News _ _ _ _ => N7); exact fun p hp => N7 p (by repeat' first | exact hp | apply List.mem_cons_of_mem)))

end

noncomputable abbrev lawBody : List Stmt := lawBodyS.1
noncomputable abbrev lawRestS : { x : List Stmt // x = lawBody.drop 1 } := by
  constructor
  case property => conv => rhs; whnf
noncomputable abbrev lawRest : List Stmt := lawRestS.1
noncomputable abbrev lawLastS : { x : List Stmt // x = lawBody.drop 2 } := by
  constructor
  case property => conv => rhs; whnf
noncomputable abbrev lawLast : List Stmt := lawLastS.1
theorem range_ind (w : World) {mean : ExcName → Option Value} {mg mb : Str → Option Value} (dp un : Nat) (gd : Option (List Code)) (a : Addr) (ccd : Value) (c : Addr) (A₀ : Around) (h₀ : Heap) (L : Addr) (s : Shared) (Q : Flow → Shared → Prop) (E : Value → Shared → Prop) (l : Addr) (n : Nat) (ls : Addr) (oc : Obj) (I : Addr)
    (B : Below A₀ h₀ [] h₀) (X : (kmake.heap_1 w.params).In h₀) (T : Top vw (looseW vw looseL) mean mg mb h₀) (hlc : c ≠ l) (hoc : oc.data = .cell (some (.ref l))) (hd : dp + 40 < recursionLimit) (hu : un + 400 < cLine) (hIl : @LT.lt Nat _ l I) (hIc : @LT.lt Nat _ c I)
    (done : ∀ (x y : Int) (tx ty : Tok) (u : Str → Option Value) (h : Heap) (tk : Nat), 0 ≤ x → 0 ≤ y → y < 2147483647 → Fr h₀ L h (tm ls u) → News h₀ L h [(l, srcObj x tx y ty n), (c, oc)] → Q .next { s with heap := h, toks := tk }) :
    ∀ (k i : Nat) (x y : Int) (tx ty : Tok) (u : Str → Option Value), 0 ≤ x → 0 ≤ y → y < 2147483647 →
      RangeRest pg51 w (lawTop dp un gd L a ccd c) E h₀ (lawEnv L a ccd c) (Str.ofString "turn") turnBody Q s I 0 3 k i (tm ls u) [(l, srcObj x tx y ty n), (c, oc)]
  | 0, i, x, y, tx, ty, u, hx, hy, hy2 => RangeRest.zero fun h tk F N => done x y tx ty u h tk hx hy hy2 F N
  | k + 1, i, x, y, tx, ty, u, hx, hy, hy2 => RangeRest.succ fun t h tk F N =>
    turn_ok w dp un gd a ccd c A₀ h₀ L _ _ E l x y tx ty n _ ls oc [(I, itR (0 + ((i + 1 : Nat) : Int)) (((3 : Nat) : Int) - ((i + 1 : Nat) : Int)))] B (fr_tm F rfl) X (fun p hp => N p (by simp only [List.mem_cons, List.not_mem_nil, or_false] at hp ⊢; rcases hp with h | h | h <;> simp [h])) T hx hy hy2 hlc
      (fun p hp => by rw [List.mem_singleton.mp hp]; exact Nat.ne_of_gt hIl) hoc hd hu
      fun x' y' tx' ty' h' tk' u' g1 g2 g3 F' N' => UnrEnd.intro F' N' [(l, srcObj x' tx' y' ty' n), (c, oc)] (fun p hp => by simp only [List.mem_cons, List.not_mem_nil, or_false] at hp ⊢; rcases hp with h | h | h <;> simp [h])
        (fun p hp => by
          simp only [List.mem_cons, List.not_mem_nil, or_false] at hp
          rcases hp with rfl | rfl
          · exact Nat.ne_of_lt hIl
          · exact Nat.ne_of_lt hIc)
        (range_ind w dp un gd a ccd c A₀ h₀ L s Q E l n ls oc I B X T hlc hoc hd hu hIl hIc done k (i + 1) x' y' tx' ty' u' g1 g2 g3)

noncomputable def targIn : Stmt → Expr
  | .For t _ _ _ _ => t
  | _ => .Name (Str.ofString "x") ⟨0, 0, 0, 0⟩
noncomputable abbrev lastBodyS : { x : List Stmt // x = bodyIn (stmtAt lawLast 0) } := by
  constructor
  case property => conv => rhs; whnf
noncomputable abbrev lastBody : List Stmt := lastBodyS.1
noncomputable abbrev lastTargS : { x : Expr // x = targIn (stmtAt lawLast 0) } := by
  constructor
  case property => conv => rhs; whnf
noncomputable abbrev lastTarg : Expr := lastTargS.1
noncomputable abbrev mmObj (ms : Str) (t1 : Tok) (k : Int) (t2 : Tok) : Obj := { cls := .type "tuple", data := .seq #[Value.str ms t1, Value.int k t2] }
theorem lm_use (w : World) {mean : ExcName → Option Value} {mg mb : Str → Option Value} (dp un : Nat) (gd : Option (List Code)) (cn : Str) (cs : Scope) (a : Addr) (ccd : Value) (cl : List (Str × Addr)) (A₀ : Around) (h₀ : Heap) (L : Addr) (m : Str → Option Value) (s : Shared) (Q E : Value → Shared → Prop)
    (news : List (Addr × Obj)) (lp li : Addr) (pvs : List Value) (segs : List Sg) (np : Nat) (vi : List Value) (ns : List Int) (ni : Nat)
    (B : Below A₀ h₀ [] h₀) (F : Fr h₀ L s.heap m) (X : (kmake.heap_1 w.params).In h₀) (N : News h₀ L s.heap news) (T : Top vw (looseW vw looseL) mean mg mb h₀) (hk : cs.kind = .function)
    (hlp : (lp, listOf pvs.toArray np) ∈ news) (S : PiecesIn w.params news pvs segs) (hli : (li, listOf vi.toArray ni) ∈ news) (hI : Idents5 vi ns) (hpl : pvs.length ≤ 64) (hd : dp + 20 < recursionLimit) (hu : un + 200 < cLine)
    (hret : ∀ (t : Tok) (h' : Heap) (tk' : Nat), Fr h₀ L h' m → News h₀ L h' news → Q (.str (dueS segs ns) t) { s with heap := h', toks := tk' }) :
    wpAny (model pg51 w) (ktrTop dp un gd cn cs L a ccd cl []) (call (.ref 353) [.ref lp, .ref li]) Q E s := 
  lm_ok w dp un gd cn cs a ccd cl A₀ h₀ L m s Q E news lp li pvs segs np vi ns ni B F X N T hk S hlp hli hI hpl hd hu hret
section
local macro_rules | `(tactic| walk_at "call ref") => `(tactic| (k_here; (with_reducible refine atRef 146 ?_); k_dflt (apply piece_new); walk_at "pm"; intros; rename_i l9 l8; (try k_lt l9); (try k_lt2 l8)))
local macro_rules | `(tactic| walk_at "call ref") => `(tactic| (k_here; (with_reducible refine atRef 89 ?_); k_dflt (apply jfif_new); walk_at "pm"; intros; rename_i l9 l8; (try k_lt l9); (try k_lt2 l8)))
local macro_rules | `(tactic| walk_at "call ref") => `(tactic| (k_here; (with_reducible refine atRef 121 ?_); k_dflt (apply wadobe_ok); walk_at "pm"; (case hn => simp); intros))
local macro_rules | `(tactic| walk_at "call ref") => `(tactic| (k_here; (with_reducible refine atRef 107 ?_); k_dflt (apply wjfif_ok); walk_at "pm"; (case hj | hjd => k_dflt k_mem); intros))
local macro_rules | `(tactic| walk_at "call ref") => `(tactic| (k_here; (with_reducible refine atRef 353 ?_); k_dflt (apply lm_use); walk_at "pm"; k_dflt ((case hlp => k_mem); (case S => first | exact .cons (by k_mem) (by k_mem) (by decide) (by decide) (by exact Nat.le_of_ble_eq_true rfl) .nil | exact .nil); (case hli => k_mem); (case hI => first | exact Idents5.c1 _ _ | exact Idents5.c3 _ _ _ _ _ _ | exact Idents5.c4 _ _ _ _ _ _ _ _ | exact Idents5.c2 _ _ _ _); (case hpl => exact Nat.le_of_ble_eq_true rfl)); intros))

theorem last_turn (w : World) {mean : ExcName → Option Value} {mg mb : Str → Option Value} (dp un : Nat) (gd : Option (List Code)) (a : Addr) (ccd : Value) (c : Addr) (A₀ : Around) (h₀ : Heap) (L : Addr) (s : Shared) (Q : Flow → Shared → Prop) (E : Value → Shared → Prop)
    (m : Str → Option Value) (t : Addr) (ms : Str) (k : Int) (t1 t2 : Tok) (news : List (Addr × Obj))
    (hc : (ms = Str.ofString "grey" ∧ k = 1) ∨ (ms = Str.ofString "rgb" ∧ k = 3) ∨ (ms = Str.ofString "ycc" ∧ k = 3) ∨ (ms = Str.ofString "cmyk" ∧ k = 4) ∨ (ms = Str.ofString "ycck" ∧ k = 4) ∨ (ms = Str.ofString "raw" ∧ k = 2))
    (B : Below A₀ h₀ [] h₀) (F : Fr h₀ L s.heap m) (X : (kmake.heap_1 w.params).In h₀) (N : News h₀ L s.heap ((t, mmObj ms t1 k t2) :: news)) (T : Top vw (looseW vw looseL) mean mg mb h₀)
    (hd : dp + 40 < recursionLimit) (hu : un + 400 < cLine) (hE : PassesOwn (model pg51 w) (lawTop dp un gd L a ccd c) (lawEnv L a ccd c) E)
    (hret : ∀ (h' : Heap) (tk' : Nat) (m' : Str → Option Value), Fr h₀ L h' m' → News h₀ L h' ((t, mmObj ms t1 k t2) :: news) → Q .next { s with heap := h', toks := tk' }) :
    wpAny (model pg51 w) (lawTop dp un gd L a ccd c) (assign lastTarg (lawEnv L a ccd c) (.ref t)) (fun _ s₂ => wpAny (model pg51 w) (lawTop dp un gd L a ccd c) (execs lastBody (lawEnv L a ccd c)) Q E s₂) E s := by
  rcases hc with ⟨rfl, rfl⟩ | ⟨rfl, rfl⟩ | ⟨rfl, rfl⟩ | ⟨rfl, rfl⟩ | ⟨rfl, rfl⟩ | ⟨rfl, rfl⟩
  all_goals k_steps
  all_goals first
    | exact hret _ _ _ (by k_asm) (by (rename News _ _ _ _ => N7); exact fun p hp => N7 p (by repeat' first | exact hp | apply List.mem_cons_of_mem))

end
theorem news_front {h₀ h : Heap} {L : Addr} {q : Addr × Obj} {r : List (Addr × Obj)} (N : News h₀ L h r) (hq : q ∈ r) : News h₀ L h (q :: r) := fun p hp => by
  rcases List.mem_cons.mp hp with rfl | hp
  · exact N _ hq
  · exact N _ hp
section
local macro_rules | `(tactic| walk_at "pyIter ref") => `(tactic| (k_here; refine stopHere ?_))

theorem last_use (w : World) {mean : ExcName → Option Value} {mg mb : Str → Option Value} (dp un : Nat) (gd : Option (List Code)) (a : Addr) (ccd : Value) (c : Addr) (A₀ : Around) (h₀ : Heap) (L : Addr) (s : Shared) (Q : Flow → Shared → Prop) (E : Value → Shared → Prop)
    (m : Str → Option Value) (t : Addr) (ms : Str) (k : Int) (t1 t2 : Tok) (news : List (Addr × Obj))
    (B : Below A₀ h₀ [] h₀) (F : Fr h₀ L s.heap m) (X : (kmake.heap_1 w.params).In h₀) (N : News h₀ L s.heap ((t, mmObj ms t1 k t2) :: news)) (T : Top vw (looseW vw looseL) mean mg mb h₀)
    (hc : (ms = Str.ofString "grey" ∧ k = 1) ∨ (ms = Str.ofString "rgb" ∧ k = 3) ∨ (ms = Str.ofString "ycc" ∧ k = 3) ∨ (ms = Str.ofString "cmyk" ∧ k = 4) ∨ (ms = Str.ofString "ycck" ∧ k = 4) ∨ (ms = Str.ofString "raw" ∧ k = 2))
    (hd : dp + 40 < recursionLimit) (hu : un + 400 < cLine) (hE : PassesOwn (model pg51 w) (lawTop dp un gd L a ccd c) (lawEnv L a ccd c) E)
    (hret : ∀ (h' : Heap) (tk' : Nat) (m' : Str → Option Value), Fr h₀ L h' m' → News h₀ L h' ((t, mmObj ms t1 k t2) :: news) → Q .next { s with heap := h', toks := tk' }) :
    wpAny (model pg51 w) (lawTop dp un gd L a ccd c) (assign lastTarg (lawEnv L a ccd c) (.ref t)) (fun _ s₂ => wpAny (model pg51 w) (lawTop dp un gd L a ccd c) (execs lastBody (lawEnv L a ccd c)) Q E s₂) E s := 
  last_turn w dp un gd a ccd c A₀ h₀ L s Q E m t ms k t1 t2 news hc B F X N T hd hu hE hret
theorem rest_ok (w : World) {mean : ExcName → Option Value} {mg mb : Str → Option Value} (dp un : Nat) (gd : Option (List Code)) (a : Addr) (ccd : Value) (c : Addr) (A₀ : Around) (h₀ : Heap) (L : Addr) (s : Shared) (Q : Flow → Shared → Prop) (E : Value → Shared → Prop)
    (l : Addr) (x y : Int) (tx ty : Tok) (n : Nat) (u : Str → Option Value) (ls : Addr) (oc : Obj)
    (B : Below A₀ h₀ [] h₀) (F : Fr h₀ L s.heap (tm ls u)) (X : (kmake.heap_1 w.params).In h₀) (N : News h₀ L s.heap [(l, srcObj x tx y ty n), (c, oc)]) (T : Top vw (looseW vw looseL) mean mg mb h₀)
    (hx : 0 ≤ x) (hy : 0 ≤ y) (hy2 : y < 2147483647) (hlc : c ≠ l) (hoc : oc.data = .cell (some (.ref l))) (hd : dp + 40 < recursionLimit) (hu : un + 400 < cLine) (hE : PassesOwn (model pg51 w) (lawTop dp un gd L a ccd c) (lawEnv L a ccd c) E)
    (hret : ∀ (m' : Str → Option Value) (nw : List (Addr × Obj)) (h' : Heap) (tk' : Nat), Fr h₀ L h' m' → News h₀ L h' nw → Q (.ret (.bool true)) { s with heap := h', toks := tk' }) :
    wpAny (model pg51 w) (lawTop dp un gd L a ccd c) (execs lawRest (lawEnv L a ccd c)) Q E s := by
  k_steps
  refine goOn ?_
  refine iter_rangeUnr (n := 3) (by rfl) (by assumption) (by decide) (by decide) (by k_asm) (by k_asm) ?_
  intro I hI
  refine range_ind w dp un gd a ccd c A₀ h₀ L _ _ E l n ls oc I B X T hlc hoc hd hu (hI _ (.head _)) (hI _ (.tail _ (.head _))) ?_ 3 0 x y tx ty u hx hy hy2
  intro x1 y1 tx1 ty1 u1 h1 tk1 g1 g2 g3 F1 N1
  walk1
  with_reducible refine For_unr h₀ ?_ ?hs ?hE
  case hs => (intro _; rfl)
  case hE => exact hE
  k_steps
  refine goOn ?_
  k_dflt (refine' iter_listU (by rfl) ?mem ?F ?N ?_)
  (case F => k_asm)
  (case N => k_asm)
  (case mem => k_dflt k_mem)
  refine unr_ind (fun _ _ => True) ?turn ?done 6 0 _ rfl trivial
  case turn =>
    intro i v m₁ h tk own hi hv _ F2 N2
    rcases i with _ | _ | _ | _ | _ | _ | i
    case succ.succ.succ.succ.succ.succ => (exfalso; simp at hi; omega)
    all_goals (
      simp only [List.getElem?_toArray, List.getElem?_cons_zero, List.getElem?_cons_succ, Option.some.injEq] at hv
      subst hv
      exact last_use w dp un gd a ccd c A₀ h₀ L _ _ E m₁ _ _ _ _ _ _ B F2 X (news_front N2 (List.mem_append_right _ (by k_dflt k_mem))) T (by simp) hd hu hE fun h' tk' m' F' N' => InvEnd.intro F' N' (fun p hp => .tail _ hp) trivial)
  case done =>
    intro m₁ h tk _ F2 N2
    k_steps
    exact hret _ _ _ _ F2 N2

end
theorem news_two' {h₀ h : Heap} {L : Addr} {a b : Addr × Obj} {all : List (Addr × Obj)} (N : News h₀ L h all) (ha : a ∈ all) (hb : b ∈ all) : News h₀ L h [a, b] := fun p hp => by
  simp only [List.mem_cons, List.not_mem_nil, or_false] at hp
  rcases hp with rfl | rfl
  · exact N _ ha
  · exact N _ hb
theorem rest_use (w : World) {mean : ExcName → Option Value} {mg mb : Str → Option Value} (dp un : Nat) (gd : Option (List Code)) (a : Addr) (ccd : Value) (c : Addr) (A₀ : Around) (h₀ : Heap) (L : Addr) (s : Shared) (Q : Flow → Shared → Prop) (E : Value → Shared → Prop)
    (l : Addr) (x y : Int) (tx ty : Tok) (n : Nat) (u : Str → Option Value) (ls : Addr) (oc : Obj)
    (hoc : oc.data = .cell (some (.ref l))) (B : Below A₀ h₀ [] h₀) (F : Fr h₀ L s.heap (tm ls u)) (X : (kmake.heap_1 w.params).In h₀) (N : News h₀ L s.heap [(l, srcObj x tx y ty n), (c, oc)]) (T : Top vw (looseW vw looseL) mean mg mb h₀)
    (hlc : c ≠ l) (hx : 0 ≤ x) (hy : 0 ≤ y) (hy2 : y < 2147483647)  (hd : dp + 40 < recursionLimit) (hu : un + 400 < cLine) (hE : PassesOwn (model pg51 w) (lawTop dp un gd L a ccd c) (lawEnv L a ccd c) E)
    (hret : ∀ (m' : Str → Option Value) (nw : List (Addr × Obj)) (h' : Heap) (tk' : Nat), Fr h₀ L h' m' → News h₀ L h' nw → Q (.ret (.bool true)) { s with heap := h', toks := tk' }) :
    wpAny (model pg51 w) (lawTop dp un gd L a ccd c) (execs lawRest (lawEnv L a ccd c)) Q E s := 
  rest_ok w dp un gd a ccd c A₀ h₀ L s Q E l x y tx ty n u ls oc B F X N T hx hy hy2 hlc hoc hd hu hE hret
section
local macro_rules | `(tactic| walk_at "execs cons") => `(tactic| (k_here; (with_reducible show wpAny _ _ (execs lawRest _) _ _ _); refine stopHere ?_))
local macro_rules | `(tactic| walk_at "pad6") => `(tactic| skip)

theorem big_nonneg (x : Int) : 0 ≤ (if -1 - x > x then -1 - x else x) := by split <;> omega
theorem mul_bit {a : Int} (h : 0 ≤ a) (c : Prop) [Decidable c] : 0 ≤ a * (if c then 1 else 0) := by split <;> omega
theorem law_ok (w : World) {mean : ExcName → Option Value} {mg mb : Str → Option Value} (dp un : Nat) (gd : Option (List Code)) (a : Addr) (ccd : Value) (c : Addr) (A₀ : Around) (h₀ : Heap) (L : Addr) (s : Shared) (Q : Flow → Shared → Prop) (E : Value → Shared → Prop)
    (u : Str → Option Value) (ls : Addr) (oc : Obj) (vs : List Value) (ns : List Int)
    (B : Below A₀ h₀ [] h₀) (F : Fr h₀ L s.heap (tm ls u)) (X : (kmake.heap_1 w.params).In h₀) (N : News h₀ L s.heap [(c, oc)]) (T : Top vw (looseW vw looseL) mean mg mb h₀)
    (hoc : oc.data = .cell none) (hl : h₀.IsList ls vs.toArray) (hI : IntsAre vs ns) (hn : ns.length ≤ 63) (hd : dp + 40 < recursionLimit) (hu : un + 400 < cLine) (hE : PassesOwn (model pg51 w) (lawTop dp un gd L a ccd c) (lawEnv L a ccd c) E)
    (hret : ∀ (m' : Str → Option Value) (nw : List (Addr × Obj)) (h' : Heap) (tk' : Nat), Fr h₀ L h' m' → News h₀ L h' nw → Q (.ret (.bool true)) { s with heap := h', toks := tk' }) :
    wpAny (model pg51 w) (lawTop dp un gd L a ccd c) (execs lawBody (lawEnv L a ccd c)) Q E s := by
  k_steps
  all_goals (refine goOn ?_)
  all_goals (refine rest_use w dp un gd a ccd c A₀ h₀ L _ Q E _ _ _ _ _ _ _ ls _ (by assumption) B (fr_tm (by k_asm) (by exact rfl)) X (news_two' (by k_asm) (by k_dflt k_mem) (by k_dflt k_mem)) T (by k_ne) ?_ ?_ ?_ hd hu hE hret)
  all_goals first | exact mul_bit (big_nonneg _) _ | exact Int.fmod_nonneg_of_pos _ (by decide) | exact Int.fmod_lt_of_pos _ (by decide)

end
end
end Mine51

open PySem PySem.W PyProof.Rows Mine51
theorem PySem.Challenge.cw_nz0251_01_holds : PySem.Challenge.rw_nz0251_01.Holds := by
  w_on; o_law
  refine PySem.W.holds_open (q := vw) (loose := looseL) (Xt := XtL) (XP := XL vw readL) (Yf := Hook.obs hookK) (Ya := Hook.val hookK) (YP := Hook.says hookK) (N := 6210) top_left (Hook.of hookK) (Hook.keeps hookK) (fun s e => xl_of s (Bool.and_eq_true_iff.mp e).1) XL.keeps (by rfl) (by rfl) (by rfl) (fun s e => recFacts_of (Bool.and_eq_true_iff.mp e).2) (by rfl) (by assumption) (by decide +kernel) ⟨rfl, rfl, rfl, rfl, rfl, by decide +kernel⟩ ?hw ?hc
  case hw => w_witness2
  k_go0
  refine law_ok _ _ _ _ _ _ _ _ _ _ _ _ _ _ _ _ _ _ (by assumption) (fr_tm (by assumption) (by rfl)) (by assumption) (by assumption) (by assumption) (by assumption) (by assumption) (by assumption) (by omega) (by decide) (by decide) (by passes_own) ?_
  intro m' nw h' tk' F' N'
  k_steps
