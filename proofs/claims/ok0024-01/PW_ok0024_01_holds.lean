import PyProof.Rows.All
import Wide.All
import OpenK.AllK
import Wide.FinOn
import PySem.Challenge.RW_ok0024_01
open PySem PySem.W PyProof.Rows
set_option Elab.async false
set_option linter.all false
set_option maxRecDepth 100000
set_option maxHeartbeats 0
set_option rowWalk.seconds 0
namespace Mine
noncomputable abbrev pw : Program := PySem.Challenge.pw_ok0024_01
noncomputable def env : Env := { scope := pw.main.scope, locals := mainNs, globals := mainNs, cells := [], code := .ref 13, frame := some 14 }
noncomputable def bd : List Stmt := behindTheImports pw
noncomputable def q0 : Pos := { line := 0, col := 0, endLine := 0, endCol := 0 }
noncomputable def o11 : Obj := { cls := Value.type "tuple", data := Data.seq #[] }
noncomputable def o12 : Obj := { cls := Value.none, data := Data.fields #[] }
noncomputable def o13 : Obj := { cls := Value.type "code", data := Data.fields #[Value.str (Str.ofString "<module>") 182, Value.str (Str.ofString "<module>") 183, Value.str (Str.ofString "/claim/cut.py") 184, Value.int 1 0, Value.int 0 0, Value.int 0 0, Value.int 0 0, Value.int 0 0, Value.ref 11, Value.bool false, Value.int 181 0, Value.ref 12, Value.none, Value.none, Value.none, Value.none, Value.int 185 0, Value.int 1 0, Value.str (Str.ofString "/claim/cut.py") 186] }
noncomputable def o14 : Obj := { cls := Value.type "frame", slots := #[some (Value.ref 13), some (Value.ref 3), some (Value.ref 3), none, some (Value.str (Str.ofString "__main__") 164), none, some (Value.ref 0)] }
noncomputable def t15 (P : Params) : BT :=
  .node (boot_o_0 P)
    (.node (boot_o_1 P)
      (.node (boot_o_3 P) (.node (boot_o_7 P) .nil .nil) (.node o11 .nil .nil))
      (.node (boot_o_5 P) (.node (boot_o_9 P) .nil .nil) (.node o13 .nil .nil)))
    (.node (boot_o_2 P)
      (.node (boot_o_4 P) (.node (boot_o_8 P) .nil .nil) (.node o12 .nil .nil))
      (.node (boot_o_6 P) (.node (boot_o_10 P) .nil .nil) (.node o14 .nil .nil)))
noncomputable def s15 (w : World) (os : OsState) : SharedT := ⟨t15 w.params, 15, {}, #[], {}, 187, os⟩
theorem pre0 (w : World) (os : OsState) : PySem.W.Fast.tw15667345088766844465 treeTable pw w 11 (some (.ref 6)) 12 ⟨boot_heap w.params, Array.mk [], boot_drawn, boot_toks, os⟩ (topStub pw) = some ((s15 w os).abs, ⟨PySem.W.Fast.tw11892475500146522536 treeTable (.body bd env), .body bd env, q0, [topFrame q0]⟩) := by kernel_rfl
theorem pre (w : World) (os : OsState) : topGo treeTable pw w 11 (some (.ref 6)) 12 ⟨boot_heap w.params, Array.mk [], boot_drawn, boot_toks, os⟩ (topStub pw) = some ((s15 w os).abs, ⟨denote treeTable (.body bd env), .body bd env, q0, [topFrame q0]⟩) := by
  rw [PySem.W.Fast.te15667345088766844465, PySem.W.Fast.te11892475500146522536]; exact pre0 w os
theorem blk (w : World) (os : OsState) : segRun treeTable pw w 11 (some (.ref 6)) 1 1 (s15 w os).abs (blockOf bd env (.body bd env) q0 [topFrame q0]) = some (.next, (s15 w os).abs, .body bd env, q0) := by kernel_rfl
theorem fin {w : World} {s : Shared} {p : Pos} : topRun treeTable pw w 11 (some (.ref 6)) 2 s ⟨doneF .next, .body bd env, p, [topFrame q0]⟩ = some s := by
  obtain ⟨h, g, d, k, os⟩ := s
  kernel_rfl
section
local macro_rules | `(tactic| o_head $_) => `(tactic| assumption)
theorem kk (h : OpenRow.Holds (OpenLaw.row PySem.Challenge.rw_ok0024_01)) : OpenRow.Holds (OpenLaw.row PySem.Challenge.rw_ok0024_01) := by k_head
end
noncomputable def kAs : List Nat := [2, 3, 15, 17, 18, 20, 21, 22, 24, 25, 27, 28, 29, 31, 32, 34, 35, 43, 45, 46, 48, 49, 50, 52, 53, 55, 56, 57, 59, 60, 62, 63, 64, 66, 67, 69, 70, 71, 73, 74, 76, 77, 78, 80, 81, 83, 84, 85, 87, 88, 90, 91, 92, 94, 95, 97, 98, 99, 101, 102, 104, 105, 106, 108, 109, 111, 112, 113, 115, 116, 118, 119, 120, 121, 122, 123, 124, 127, 129, 130, 132, 133, 134, 136, 137, 139, 140, 141, 143, 144, 146, 147, 148, 150, 151, 153, 154, 155, 157, 158, 160, 161, 162, 164, 165, 167, 168, 169, 171, 172, 174, 175, 176, 178, 179, 181, 182, 183, 185, 186, 188, 189, 190, 192, 193, 195, 196, 197, 198, 199, 200, 202, 203, 205, 206, 207, 209, 210, 212, 213, 214, 216, 217, 219, 220, 228, 229, 231, 232, 234, 235, 236, 238, 239, 241, 242, 243, 245, 246, 248, 249, 250, 252, 253, 255, 256, 257, 259, 260, 262, 263, 264, 266, 267, 269, 270, 271, 273, 274, 276, 277, 278, 280, 281, 283, 284, 285, 286, 287, 288, 289, 292, 294, 295, 297, 298, 299, 301, 302, 304, 305, 306, 307, 309, 310, 312, 313, 314, 316, 317, 319, 320, 321, 323, 324, 326, 327, 328, 330, 331, 333, 334, 342, 343, 345, 346, 348, 349, 350, 351, 353, 354, 356, 357, 358, 360, 361, 363, 364, 365, 367, 368, 370, 371, 372, 374, 375, 377, 378, 379, 381, 382, 384, 385, 386, 388, 389, 391, 392, 393, 395, 396, 398, 399, 400, 402, 403, 405, 406, 407, 409, 410, 412, 413, 414, 416, 417, 419, 420, 421, 423, 424, 426, 427, 428, 430, 431, 433, 434, 435, 437, 438, 440, 441, 442, 444, 445, 447, 448, 449, 451, 452, 454, 455, 456, 458, 459, 461, 462, 463, 465, 466, 468, 469, 470, 471, 472, 473, 474, 477, 478, 480, 481, 483, 484, 485, 487, 488, 490, 491, 492, 495, 496, 497, 499, 500, 502, 503, 504, 506, 507, 509, 510, 511, 513, 514, 516, 517, 518, 521, 522]
theorem kAs_eq (P : Params) : kAs = (kk.heap_1 P).map (·.1) := by kernel_rfl
noncomputable abbrev hook : Hook := kHook kk.heap_1 kAs kAs_eq
noncomputable def pick {α : Type} (out : List Nat) : Nat → List α → List α
  | _, [] => []
  | i, a :: r => if out.contains i then pick out (i + 1) r else a :: pick out (i + 1) r
noncomputable def view : Program := { pw with main := { pw.main with body := pick [1, 13, 15, 25, 34, 39, 44, 47] 0 pw.main.body } }
noncomputable def pE : Pos := { line := 511, col := 0, endLine := 539, endCol := 122 }
noncomputable abbrev lz : List PySem.Str := [PySem.Str.ofString "atom_text", PySem.Str.ofString "Writer", PySem.Str.ofString "term_text"]
noncomputable abbrev md : List PySem.Str := importedModules pw.main.body
noncomputable abbrev xt : Shared → Bool := fun s => xlAt Mine.view ([] : List (PySem.Str × WData)) s && recOk (RowW.records (OpenRow.toRowW (OpenLaw.row PySem.Challenge.rw_ok0024_01))) s
theorem left_gen {p q : Program} {lz : List PySem.Str} {Xt : Shared → Bool} {α : Type} {Yf : Shared → α} {Ya : World → α} {N M : Nat} {H₀ : Params → Heap} {gs₀ : Array GenState} {d₀ : Drawn} {k₀ m₀ : Nat} {ann : Option Value}
    (o : ∀ w : World, (fencedOpening treeTable p w N).map (fun s => (s.heap, s.gens, s.drawn, s.toks)) = some (H₀ w.params, gs₀, d₀, k₀))
    (size : ∀ w : World, ((H₀ w.params).isNs mainGlobals && gs₀.size == 0, (H₀ w.params).objs.size, (H₀ w.params).nsMap mainGlobals "__annotations__") = (true, m₀, ann))
    (run : ∀ (w : World) (os : OsState), ∃ s₁, topRun treeTable p w m₀ ann M ⟨H₀ w.params, gs₀, d₀, k₀, os⟩ (topStub p) = some s₁ ∧ (staticsOk (importedModules p.main.body) (H₀ w.params) s₁.heap && namesBound p s₁.heap && gensDone s₁ && laidKept (H₀ w.params) s₁.heap) = true ∧
      (openSeen q lz (importedModules p.main.body) Xt true s₁, Yf s₁) = (openGood q lz, Ya w))
    (le : M ≤ N) : LeftO p q lz Xt Yf Ya N := by
  intro w
  obtain ⟨⟨h, gs, d, k, os⟩, h0, e0⟩ := Option.map_eq_some_iff.mp (o w)
  obtain ⟨rfl, rfl, rfl, rfl⟩ : h = H₀ w.params ∧ gs = gs₀ ∧ d = d₀ ∧ k = k₀ := by simpa using e0
  obtain ⟨s₁, r, a2, a3⟩ := run w os
  obtain ⟨z1, z2, z3⟩ : _ ∧ _ ∧ _ := by simpa only [Prod.mk.injEq] using size w
  have r := topRun_mono (N - M) _ _ _ _ r
  rw [show M + (N - M) = N by omega] at r
  have e : topFrom treeTable p w N ⟨H₀ w.params, gs, d, k, os⟩ = some s₁ := by
    unfold topFrom
    dsimp only
    rw [z1, z2, z3, r]
    show (match staticsOk (importedModules p.main.body) (H₀ w.params) s₁.heap && namesBound p s₁.heap && gensDone s₁ && laidKept (H₀ w.params) s₁.heap with | true => _ | false => _) = _
    rw [a2]
  unfold openEnds
  rw [h0]
  show (topFrom treeTable p w N _).map _ = _
  rw [e]
  exact congrArg some a3
theorem run_gen {p : Program} {w : World} {m₀ : Nat} {ann : Option Value} {env : Env} {bd : List Stmt} {q0 pE : Pos} {n m : Nat} {s₀ : Shared} {t₀ : Thread} {sT s' : SharedT}
    (pre : topGo treeTable p w m₀ ann n s₀ t₀ = some (sT.abs, ⟨denote treeTable (.body bd env), .body bd env, q0, [topFrame q0]⟩))
    (blk : segRun treeTable p w m₀ ann 1 1 sT.abs (blockOf bd env (.body bd env) q0 [topFrame q0]) = some (.next, sT.abs, .body bd env, q0))
    (fin : ∀ {s : Shared} {x : Pos}, topRun treeTable p w m₀ ann 2 s ⟨doneF .next, .body bd env, x, [topFrame q0]⟩ = some s)
    (c : PySem.W.Fast.tw10110043849684766642 treeTable p w m₀ ann 1 m sT (piecesOf bd env (.body bd env) q0 [topFrame q0]) = some (.next, s', .body bd env, pE)) :
    topRun treeTable p w m₀ ann (n + (1 + (m + 2))) s₀ t₀ = some s'.abs := by
  rw [← PySem.W.Fast.te10110043849684766642] at c
  have z := piece_app (rest := []) (segRun_of c) (piece_nil fin)
  rw [List.append_nil] at z
  exact go_top pre (piece_block blk z)
noncomputable def treeGet (s : SharedT) (a : Nat) : Option Obj := match Nat.blt a s.n with
  | true => (s.tree.get a).bind alive
  | false => none
theorem treeGet_of {s : SharedT} {a : Nat} {o : Obj} (h : treeGet s a = some o) : s.abs.heap.get? a = some o := by
  unfold treeGet at h
  split at h
  · rename_i hl
    obtain ⟨o', g, e⟩ := Option.bind_eq_some_iff.mp h
    exact (abs_get (Nat.le_of_ble_eq_true hl) g).trans e
  · cases h
theorem look_tree {s : SharedT} : ∀ {as : List Nat} {vs : List Obj}, as.map (treeGet s) = vs.map some → as.map s.abs.heap.get? = vs.map some
  | [], _, h => by
    rename_i vs
    cases vs with
    | nil => rfl
    | cons _ _ => cases h
  | a :: as, vs, h => by
    cases vs with
    | nil => cases h
    | cons v vs =>
      obtain ⟨h1, h2⟩ := List.cons.inj h
      rw [List.map_cons, List.map_cons, treeGet_of h1, look_tree h2]
noncomputable abbrev seenT (s : SharedT) := PySem.W.Fast.tw4187177175401517315 view lz md xt true s.abs
theorem three {α β γ δ : Type} {x : Option α} {f : α → β} {g : α → γ} {h : α → δ} {b : β} {c : γ} {d : δ} (B : x.map f = some b) (C : x.map g = some c) (D : x.map h = some d) : ∃ r, x = some r ∧ f r = b ∧ g r = c ∧ h r = d := by
  cases x with
  | none => cases B
  | some r => exact ⟨r, rfl, Option.some.inj B, Option.some.inj C, Option.some.inj D⟩
theorem checkA (w : World) (os : OsState) : (PySem.W.Fast.tw10110043849684766642 treeTable pw w 11 (some (.ref 6)) 1 2950 (s15 w os) (piecesOf bd env (.body bd env) q0 [topFrame q0])).map (fun r => ((r.1, r.2.2.1, r.2.2.2), (staticsOk md (boot_heap w.params) r.2.1.abs.heap && namesBound pw r.2.1.abs.heap && gensDone r.2.1.abs && laidKept (boot_heap w.params) r.2.1.abs.heap), (seenT r.2.1).1, kAs.map (treeGet r.2.1)))
      = some ((.next, .body bd env, pE), true, expectedOf view, ((kk.heap_1 w.params).map (·.2)).map some) := by kernel_rfl
theorem checkB (w : World) (os : OsState) : (PySem.W.Fast.tw10110043849684766642 treeTable pw w 11 (some (.ref 6)) 1 2950 (s15 w os) (piecesOf bd env (.body bd env) q0 [topFrame q0])).map (fun r => ((seenT r.2.1).2.1, (seenT r.2.1).2.2.1, (seenT r.2.1).2.2.2.1, (seenT r.2.1).2.2.2.2.1))
      = some (bltViewBooted, true, true, pinGoodD (drecsOf view)) := by kernel_rfl
theorem checkC (w : World) (os : OsState) : (PySem.W.Fast.tw10110043849684766642 treeTable pw w 11 (some (.ref 6)) 1 2950 (s15 w os) (piecesOf bd env (.body bd env) q0 [topFrame q0])).map (fun r => ((seenT r.2.1).2.2.2.2.2.1, (seenT r.2.1).2.2.2.2.2.2.1, (seenT r.2.1).2.2.2.2.2.2.2.1, (seenT r.2.1).2.2.2.2.2.2.2.2))
      = some (plainGoodE view (looseW view lz), plainGoodD view lz, wideGood view, clsGoodW view lz) := by kernel_rfl
theorem left : LeftO pw view lz xt hook.obs hook.val 5942 := by
  refine left_gen (H₀ := boot_heap) (gs₀ := Array.mk []) (d₀ := boot_drawn) (k₀ := boot_toks) (m₀ := 11) (ann := some (.ref 6)) (M := 12 + (1 + (2950 + 2))) (boot_open (p := pw) (by kernel_rfl) (by kernel_rfl) (fun s => by kernel_rfl)) (fun w => by kernel_rfl) (fun w os => ?_) (by decide)
  obtain ⟨⟨f, s', c', p'⟩, r1, e1, e2, e3⟩ := three (checkA w os) (checkB w os) (checkC w os)
  obtain ⟨a1, a2, a3, a4⟩ := (⟨congrArg (·.1) e1, congrArg (·.2.1) e1, congrArg (·.2.2.1) e1, congrArg (·.2.2.2) e1⟩ : (f, c', p') = (Flow.next, Code.body bd env, pE) ∧ _ = true ∧ (seenT s').1 = expectedOf view ∧ kAs.map (treeGet s') = ((kk.heap_1 w.params).map (·.2)).map some)
  obtain ⟨rfl, rfl, rfl⟩ : f = .next ∧ c' = .body bd env ∧ p' = pE := by simpa using a1
  refine ⟨s'.abs, run_gen (pre w os) (blk w os) fin r1, a2, Prod.ext ?_ ?_⟩
  · show openSeen view lz md xt true s'.abs = _
    rw [PySem.W.Fast.te4187177175401517315]
    exact Prod.ext a3 (Prod.ext (congrArg (·.1) e2) (Prod.ext (congrArg (·.2.1) e2) (Prod.ext (congrArg (·.2.2.1) e2) (Prod.ext (congrArg (·.2.2.2) e2) (Prod.ext (congrArg (·.1) e3) (Prod.ext (congrArg (·.2.1) e3) (Prod.ext (congrArg (·.2.2.1) e3) (congrArg (·.2.2.2) e3))))))))
  · show kAs.map s'.abs.heap.get? = (kk.heap_1 w.params).map fun p => some p.2
    rw [look_tree a4, List.map_map]
    rfl
theorem said0 : PySem.W.Fast.tw9446332074065402090 (PySem.Challenge.rw_ok0024_01) = true := by kernel_rfl
theorem said : (PySem.Challenge.rw_ok0024_01).wellSaid = true := (congrFun PySem.W.Fast.te9446332074065402090 _).trans said0
theorem qd1 : namesOk view (looseW view [Str.ofString "atom_text", Str.ofString "Writer", Str.ofString "term_text"]) (namesW view [Str.ofString "atom_text", Str.ofString "Writer", Str.ofString "term_text"]) = true := by decide +kernel
theorem qd2 : importsNone view = true := by decide +kernel
section
local macro_rules | `(tactic| k_head) => `(tactic| (refine PySem.W.holds_open (q := Mine.view) (loose := [PySem.Str.ofString "atom_text", PySem.Str.ofString "Writer", PySem.Str.ofString "term_text"]) (Xt := fun s => xlAt Mine.view ([] : List (PySem.Str × WData)) s && recOk (RowW.records (OpenRow.toRowW (OpenLaw.row PySem.Challenge.rw_ok0024_01))) s) (XP := XL Mine.view ([] : List (PySem.Str × WData))) (Yf := Hook.obs (kHook kk.heap_1 kAs kAs_eq)) (Ya := Hook.val (kHook kk.heap_1 kAs kAs_eq)) (YP := Hook.says (kHook kk.heap_1 kAs kAs_eq)) (N := 5942) left (Hook.of (kHook kk.heap_1 kAs kAs_eq)) (Hook.keeps (kHook kk.heap_1 kAs kAs_eq)) (fun s e => xl_of s (Bool.and_eq_true_iff.mp e).1) XL.keeps (by rfl) (by rfl) (by rfl) (fun s e => recFacts_of (Bool.and_eq_true_iff.mp e).2) (by rfl) (by first | assumption | decide +kernel) (by decide +kernel) ⟨rfl, rfl, rfl, rfl, rfl, by decide +kernel⟩ ?hw ?hc))
local macro_rules | `(tactic| o_law) => `(tactic| refine holds_law said fun said => ?_)
open_top hd for PySem.Challenge.rw_ok0024_01
end
example : True := by (w_top off); exact trivial
end Mine
open PySem.Calls PySem.Spec
namespace Mine
section
section
variable {w : World} {p : Program} {loose : List Str} {mean : ExcName → Option Value} {mg mb : Str → Option Value} {dp un : Nat} {gd : Option (List Code)} {cn : Str} {cs : Scope} {a : Addr} {ccd : Value} {cl : List (Str × Addr)} {outer : List Env} {A₀ : Around} {base h₀ : Heap} {L : Addr} {m : Str → Option Value} {s : Shared} {Q E : Value → Shared → Prop} {news rest : List (Addr × Obj)}
theorem ret_b {b b' : Bool} {h' : Heap} {tk' : Nat} (hret : ∀ h' tk', Fr h₀ L h' m → News h₀ L h' news → Q (.bool b) { s with heap := h', toks := tk' }) (e : b' = b) (F : Fr h₀ L h' m) (N : News h₀ L h' news) : Q (.bool b') { s with heap := h', toks := tk' } := by
  subst e; exact hret h' tk' F N
theorem ret_s {b b' : Str} {t : Tok} {h' : Heap} {tk' : Nat} (hret : ∀ t h' tk', Fr h₀ L h' m → News h₀ L h' news → Q (.str b t) { s with heap := h', toks := tk' }) (e : b' = b) (F : Fr h₀ L h' m) (N : News h₀ L h' news) : Q (.str b' t) { s with heap := h', toks := tk' } := by
  subst e; exact hret t h' tk' F N
theorem ret_i {b b' : Int} {t : Tok} {h' : Heap} {tk' : Nat} (hret : ∀ t h' tk', Fr h₀ L h' m → News h₀ L h' news → Q (.int b t) { s with heap := h', toks := tk' }) (e : b' = b) (F : Fr h₀ L h' m) (N : News h₀ L h' news) : Q (.int b' t) { s with heap := h', toks := tk' } := by
  subst e; exact hret t h' tk' F N
theorem ret_bN {b b' : Bool} {h' : Heap} {tk' : Nat} {news' : List (Addr × Obj)} (hret : ∀ h' tk', Fr h₀ L h' m → News h₀ L h' news → Q (.bool b) { s with heap := h', toks := tk' }) (e : b' = b) (F : Fr h₀ L h' m) (N : News h₀ L h' news') (hs : ∀ p ∈ news, p ∈ news') : Q (.bool b') { s with heap := h', toks := tk' } := ret_b hret e F (cb_drop N hs)
theorem ret_sN {b b' : Str} {t : Tok} {h' : Heap} {tk' : Nat} {news' : List (Addr × Obj)} (hret : ∀ t h' tk', Fr h₀ L h' m → News h₀ L h' news → Q (.str b t) { s with heap := h', toks := tk' }) (e : b' = b) (F : Fr h₀ L h' m) (N : News h₀ L h' news') (hs : ∀ p ∈ news, p ∈ news') : Q (.str b' t) { s with heap := h', toks := tk' } := ret_s hret e F (cb_drop N hs)
theorem ret_iN {b b' : Int} {t : Tok} {h' : Heap} {tk' : Nat} {news' : List (Addr × Obj)} (hret : ∀ t h' tk', Fr h₀ L h' m → News h₀ L h' news → Q (.int b t) { s with heap := h', toks := tk' }) (e : b' = b) (F : Fr h₀ L h' m) (N : News h₀ L h' news') (hs : ∀ p ∈ news, p ∈ news') : Q (.int b' t) { s with heap := h', toks := tk' } := ret_i hret e F (cb_drop N hs)
end
section
variable {prog : Program} {w : World} {A : Around} {E : Value → Shared → Prop} {s : Shared} {env : Env} {h₀ : Heap} {x : Str} {body : List Stmt} {Q : Flow → Shared → Prop}
noncomputable def LoopJ (x : Str) (xt : Str) (P : Nat → Prop) (m₀ : Str → Option Value) (news : List (Addr × Obj)) (i : Nat) (m : Str → Option Value) (nx : List (Addr × Obj)) : Prop := nx = news ∧ (∀ z, z ≠ x → m z = m₀ z) ∧ ∀ (j c : Nat), j < i → xt.cps[j]? = some c → P c
theorem iter_str_plain {xt : Str} {tx : Tok} {m₀ : Str → Option Value} {news : List (Addr × Obj)} (P : Nat → Prop)
    (hh : A.handled = none) (F : Fr h₀ env.locals s.heap m₀) (N : News h₀ env.locals s.heap news)
    (turn : ∀ (i n : Nat) t h tk own, xt.cps[i]? = some n → (∀ (j c : Nat), j < i → xt.cps[j]? = some c → P c) → Fr h₀ env.locals h (fun y => if y = x then some (.str ⟨#[n]⟩ t) else m₀ y) → News h₀ env.locals h (news ++ own) →
      wpAny (model prog w) A (execs body env) (InvPostN h₀ env.locals (LoopJ x xt P m₀ news (i+1)) own (news.map (·.1)) { s with heap := h, toks := tk } Q) E { s with heap := h, toks := tk })
    (done : ∀ (u : Str → Option Value) h tk, (∀ c ∈ xt.cps.toList, P c) → Fr h₀ env.locals h (fun y => if y = x then u y else m₀ y) → News h₀ env.locals h news → Q .next { s with heap := h, toks := tk }) :
    wpAny (model prog w) A (pyIter (.str xt tx)) (fun it s₂ => LoopAtV prog w A h₀ env x body Q E it s₂) E s := by
  refine wpAny_pyIter_str fun o St hW hst => ?_
  have W := hW A hh
  refine loop_invN (fun i m nx => LoopJ x xt P m₀ news i m nx) W ?_ ?_ ?_ ?_ hst (F.push _) (fun p hp => ⟨Heap.get?_push_of_some _ (N p hp).1, (N p hp).2⟩) ⟨rfl, fun _ _ => rfl, fun _ _ hj => absurd hj (Nat.not_lt_zero _)⟩ ?_ ?_
  · intro hm
    exact absurd F.ns.lt ((List.mem_singleton.mp hm) ▸ Nat.lt_irrefl _)
  · intro b' hb
    rw [List.mem_singleton.mp hb]
    exact next_is_new F
  · intro p hp hI
    exact absurd (Heap.lt_size (N p hp).1) ((List.mem_singleton.mp hI) ▸ Nat.lt_irrefl _)
  · intro p hp hI
    exact absurd (Heap.lt_size (N p hp).1) ((List.mem_singleton.mp hI) ▸ Nat.lt_irrefl _)
  · rintro i v m₁ nx h tk own hi ⟨n, u, hn, rfl⟩ _ hoff ⟨rfl, hm, hP⟩ F₁ N₁
    have e : (fun y => if y = x then some (Value.str ⟨#[n]⟩ u) else m₁ y) = fun y => if y = x then some (Value.str ⟨#[n]⟩ u) else m₀ y := by
      funext y; by_cases h1 : y = x
      · simp [h1]
      · simp [h1, hm y h1]
    rw [e] at F₁
    exact turn i n u h tk own hn hP F₁ N₁
  · rintro m₁ nx h tk ⟨rfl, hm, hP⟩ F₁ N₁
    have e : m₁ = fun y => if y = x then m₁ y else m₀ y := by
      funext y; by_cases h1 : y = x
      · simp [h1]
      · simp [h1, hm y h1]
    rw [e] at F₁
    refine done m₁ h tk (fun c hc => ?_) F₁ N₁
    obtain ⟨j, hj, he⟩ := List.getElem_of_mem hc
    exact hP j c (by simpa using hj) (by rw [← Array.getElem?_toList, List.getElem?_eq_getElem hj, he])
theorem loopJ_end {L : Addr} {xt : Str} {P : Nat → Prop} {i n : Nat} {m₀ : Str → Option Value} {m' : Str → Option Value} {own news' news : List (Addr × Obj)} {s₁ : Shared} {h' : Heap} {tk : Nat} (F : Fr h₀ L h' m') (N : News h₀ L h' news') (hs : ∀ p ∈ news ++ own, p ∈ news') (hm : ∀ z, z ≠ x → m' z = m₀ z)
    (hn : xt.cps[i]? = some n) (hP : ∀ (j c : Nat), j < i → xt.cps[j]? = some c → P c) (hp : P n) :
    InvEndN h₀ L (LoopJ x xt P m₀ news (i+1)) own (news.map (·.1)) s₁ { s₁ with heap := h', toks := tk } :=
  InvEndN.intro F N ⟨rfl, hm, fun j c hj hc => by
    rcases Nat.lt_succ_iff_lt_or_eq.mp hj with h1 | h1
    · exact hP j c h1 hc
    · subst h1; rw [hn] at hc; cases hc; exact hp⟩ rfl (fun p hp => hs p (List.mem_append_left _ hp)) (fun p hp => hs p (List.mem_append_right _ hp))
end
theorem rm0 {d c R : Nat} (h : d + c < R) : d < R := Nat.lt_of_le_of_lt (Nat.le_add_right _ _) h
theorem rm1 {d c k R : Nat} (h : d + c < R) (e : Nat.ble k c = true) : d + k < R := Nat.lt_of_le_of_lt (Nat.add_le_add_left (Nat.le_of_ble_eq_true e) _) h
theorem rm2 {d c j k R : Nat} (h : d + c < R) (e : Nat.ble (j + k) c = true) : d + j + k < R := by rw [Nat.add_assoc]; exact rm1 h e
theorem rm3 {d c i j k R : Nat} (h : d + c < R) (e : Nat.ble (i + j + k) c = true) : d + i + j + k < R := by rw [Nat.add_assoc d, Nat.add_assoc d]; exact rm1 h e
theorem rm4 {d c g i j k R : Nat} (h : d + c < R) (e : Nat.ble (g + i + j + k) c = true) : d + g + i + j + k < R := by rw [Nat.add_assoc d, Nat.add_assoc d, Nat.add_assoc d]; exact rm1 h e
theorem sq_tok {α : Type} {M : Model} {A : Around} {t : Sem α} {Q : α → Shared → Prop} {E : Value → Shared → Prop} {h : Heap} {g : Array GenState} {d : Drawn} {k : Nat} {os : OsState} (H : ∀ k', wpAny M A t Q E ⟨h, g, d, k', os⟩) : wpAny M A t Q E ⟨h, g, d, k + 1, os⟩ := H _
theorem sq_let {g h : Heap} {L : Addr} {m : Str → Option Value} {G : Prop} (F : Fr g L h m) (H : let m' := m; Fr g L h m' → G) : G := H F
theorem sq_A {α : Type} {M : Model} {A : Around} {t : Sem α} {Q : α → Shared → Prop} {E : Value → Shared → Prop} {s : Shared} (H : let A' := A; wpAny M A' t Q E s) : wpAny M A t Q E s := H
theorem allNeP {d : Addr} {r : List (Addr × Obj)} (h : ∀ p ∈ r, p.1 < d) : ∀ p ∈ r, p.1 ≠ d := fun p hp => Nat.ne_of_lt (h p hp)
theorem news_ne_cls {h₀ h : Heap} {L a b : Addr} {o o' : Obj} {news : List (Addr × Obj)} (N : News h₀ L h news) (h1 : (a, o) ∈ news) (h2 : (b, o') ∈ news) (hne : o.cls ≠ o'.cls) : a ≠ b := fun e => by
  subst e
  have e1 : h.get? a = some o := (N _ h1).1
  have e2 : h.get? a = some o' := (N _ h2).1
  exact hne (by rw [Option.some.inj (e1.symm.trans e2)])
theorem allNe0 {d : Addr} {r : List (Addr × Obj)} (h : AllLt d r) : ∀ p ∈ r, p.1 ≠ d := fun p hp => Nat.ne_of_lt (tb_ltOf h p hp)
theorem allNe1 {d : Addr} {r : List (Addr × Obj)} {a : Prop} (h : a ∧ AllLt d r) : ∀ p ∈ r, p.1 ≠ d := allNe0 h.2
theorem allNe2 {d : Addr} {r : List (Addr × Obj)} {a b : Prop} (h : a ∧ b ∧ AllLt d r) : ∀ p ∈ r, p.1 ≠ d := allNe0 h.2.2
theorem allNe3 {d : Addr} {r : List (Addr × Obj)} {a b c : Prop} (h : a ∧ b ∧ c ∧ AllLt d r) : ∀ p ∈ r, p.1 ≠ d := allNe0 h.2.2.2
theorem allNe4 {d : Addr} {r : List (Addr × Obj)} {a b c e : Prop} (h : a ∧ b ∧ c ∧ e ∧ AllLt d r) : ∀ p ∈ r, p.1 ≠ d := allNe0 h.2.2.2.2
theorem allNe5 {d : Addr} {r : List (Addr × Obj)} {a b c e f : Prop} (h : a ∧ b ∧ c ∧ e ∧ f ∧ AllLt d r) : ∀ p ∈ r, p.1 ≠ d := allNe0 h.2.2.2.2.2
theorem allNe6 {d : Addr} {r : List (Addr × Obj)} {a b c e f g : Prop} (h : a ∧ b ∧ c ∧ e ∧ f ∧ g ∧ AllLt d r) : ∀ p ∈ r, p.1 ≠ d := allNe0 h.2.2.2.2.2.2
theorem alt_get {d x : Addr} {o : Obj} {r : List (Addr × Obj)} (h : ∀ p ∈ r, p.1 < d) (m : (x, o) ∈ r) : @LT.lt Nat _ x d := h _ m
theorem alt_ne1 {d x : Addr} {o : Obj} {r : List (Addr × Obj)} (h : ∀ p ∈ r, p.1 < d) (m : (x, o) ∈ r) : x ≠ d := Nat.ne_of_lt (h _ m)
theorem alt_ne2 {d x : Addr} {o : Obj} {r : List (Addr × Obj)} (h : ∀ p ∈ r, p.1 < d) (m : (x, o) ∈ r) : d ≠ x := Nat.ne_of_gt (h _ m)
theorem alt_all {d : Addr} {r l : List (Addr × Obj)} (h : ∀ p ∈ r, p.1 < d) (s : ∀ p ∈ l, p ∈ r) : ∀ p ∈ l, p.1 ≠ d := fun p hp => Nat.ne_of_lt (h p (s p hp))
theorem alt_lt_all {d : Addr} {r l : List (Addr × Obj)} (h : ∀ p ∈ r, p.1 < d) (s : ∀ p ∈ l, p ∈ r) : ∀ p ∈ l, p.1 < d := fun p hp => h p (s p hp)
theorem alt_ne3 {d x y : Addr} {o : Obj} {r : List (Addr × Obj)} (hx : @LT.lt Nat _ d x) (h : ∀ p ∈ r, p.1 < d) (m : (y, o) ∈ r) : x ≠ y := Nat.ne_of_gt (Nat.lt_trans (h _ m) hx)
theorem alt_ne4 {d x y : Addr} {o : Obj} {r : List (Addr × Obj)} (hx : @LT.lt Nat _ d x) (h : ∀ p ∈ r, p.1 < d) (m : (y, o) ∈ r) : y ≠ x := Nat.ne_of_lt (Nat.lt_trans (h _ m) hx)
theorem c_item_lit {prog : Program} {w : World} {A : Around} {E : Value → Shared → Prop} {s : Shared} {h₀ : Heap} {L l : Addr} {news : List (Addr × Obj)} {its : List Value} {n : Nat} {k : Int} {v : Value} {u : Tok} {Q : Value → Shared → Prop} {value slice : PySem.Expr} (N : News h₀ L s.heap news) (hm : (l, listOf its.toArray n) ∈ news)
    (h0 : 0 ≤ k) (hhi : k < 2 ^ 63) (hx : its[k.toNat]? = some v) (h : Q v s)
    (hs : subscripted slice false (.ref l) (.int k u) = operate [.ref l, .int k u] (getItem (.ref l) (.int k u)) := by with_unfolding_all rfl) :
    wpAny (model prog w) A (subscriptTail value slice (.ref l) (.int k u)) Q E s := by
  have hL : s.heap.IsList l its.toArray := News.isList N hm
  exact tail_any hL.typeIs slot_list_getitem.lookup (wpAny_getItem_list hL h0 hhi (by simpa using hx) h) hs
end
section
noncomputable def rangeB (lo hi c : Int) : Bool := decide (lo ≤ c) && decide (c ≤ hi)
noncomputable def alnumB (c : Int) : Bool := rangeB 97 122 c || rangeB 65 90 c || rangeB 48 57 c || decide (c = 95)
local macro_rules | `(tactic| k_room) => `(tactic| k_extra "x_k_room")
example : True := by (k_with "x_k_room" => ((try simp only [depth_under_make, depth_under_kw, depth_in1, depth_deeper, depth_caller]); (try dsimp only [ktrTop]); omega)); exact trivial
local macro_rules | `(tactic| ktr_room) => `(tactic| k_room)
local macro_rules | `(tactic| ktr_units) => `(tactic| k_extra "x_ktr_units")
example : True := by (k_with "x_ktr_units" => ((try simp only [units_in1, units_deeper, Around.mark_units, units_caller]); (try dsimp only [ktrTop]); omega)); exact trivial
local macro_rules | `(tactic| walk_at $s:str) => `(tactic| k_extra $s)
example : True := by (k_with "eval Call Name" => (k_here; with_unfolding_all refine Call_ ?_)); exact trivial
local macro_rules | `(tactic| k_enter) => `(tactic| ktr_enter)
section
variable {w : World} {p : Program} {loose : List Str} {mean : ExcName → Option Value} {mg mb : Str → Option Value} {dp un : Nat} {gd : Option (List Code)} {cn : Str} {cs : Scope} {a : Addr} {ccd : Value} {cl : List (Str × Addr)} {outer : List Env} {A₀ : Around} {base h₀ : Heap} {L : Addr} {m : Str → Option Value} {s : Shared} {Q E : Value → Shared → Prop} {news rest : List (Addr × Obj)}
theorem is_small_spec {c : Int} {tk : Tok} (B : Below A₀ base outer h₀) (F : Fr h₀ L s.heap m) (X : (Mine.kk.heap_1 w.params).In h₀) (T : Top p loose mean mg mb h₀) (hk : cs.kind = .function) (hd : dp + 3 < recursionLimit) (hu : un + 30 < cLine) (N : News h₀ L s.heap news)
  (hret : ∀ h' tk', Fr h₀ L h' m → News h₀ L h' news → Q (.bool (rangeB 97 122 c)) { s with heap := h', toks := tk' }) :
  wpAny (model PySem.Challenge.rw_ok0024_01.row.prog w) (ktrTop dp un gd cn cs L a ccd cl outer) (call (.ref 147) [.int c tk]) Q E s := by
  revert X; k_fill; intro X
  refine wpAny_call ?_
  k_dflt k_enter
  (refine sq_A ?_; intro A9)
  k_steps
  all_goals (refine' ret_bN hret ?e ?f ?n ?s; (case f => k_asm); (case n => assumption); (case s => (intro _ hp; first | exact hp | exact List.mem_append_left _ hp | exact List.mem_cons_of_mem _ hp | (simp only [List.mem_append, List.mem_cons]; simp [hp]; done))); (case e => (refine Eq.symm ?_; unfold rangeB; (first | (simp_all; done) | (simp_all; (try intros); omega)))))
theorem is_capital_spec {c : Int} {tk : Tok} (B : Below A₀ base outer h₀) (F : Fr h₀ L s.heap m) (X : (Mine.kk.heap_1 w.params).In h₀) (T : Top p loose mean mg mb h₀) (hk : cs.kind = .function) (hd : dp + 3 < recursionLimit) (hu : un + 30 < cLine) (N : News h₀ L s.heap news)
  (hret : ∀ h' tk', Fr h₀ L h' m → News h₀ L h' news → Q (.bool (rangeB 65 90 c)) { s with heap := h', toks := tk' }) :
  wpAny (model PySem.Challenge.rw_ok0024_01.row.prog w) (ktrTop dp un gd cn cs L a ccd cl outer) (call (.ref 154) [.int c tk]) Q E s := by
  revert X; k_fill; intro X
  refine wpAny_call ?_
  k_dflt k_enter
  (refine sq_A ?_; intro A9)
  k_steps
  all_goals (refine' ret_bN hret ?e ?f ?n ?s; (case f => k_asm); (case n => assumption); (case s => (intro _ hp; first | exact hp | exact List.mem_append_left _ hp | exact List.mem_cons_of_mem _ hp | (simp only [List.mem_append, List.mem_cons]; simp [hp]; done))); (case e => (refine Eq.symm ?_; unfold rangeB; (first | (simp_all; done) | (simp_all; (try intros); omega)))))
theorem is_digit_spec {c : Int} {tk : Tok} (B : Below A₀ base outer h₀) (F : Fr h₀ L s.heap m) (X : (Mine.kk.heap_1 w.params).In h₀) (T : Top p loose mean mg mb h₀) (hk : cs.kind = .function) (hd : dp + 3 < recursionLimit) (hu : un + 30 < cLine) (N : News h₀ L s.heap news)
  (hret : ∀ h' tk', Fr h₀ L h' m → News h₀ L h' news → Q (.bool (rangeB 48 57 c)) { s with heap := h', toks := tk' }) :
  wpAny (model PySem.Challenge.rw_ok0024_01.row.prog w) (ktrTop dp un gd cn cs L a ccd cl outer) (call (.ref 140) [.int c tk]) Q E s := by
  revert X; k_fill; intro X
  refine wpAny_call ?_
  k_dflt k_enter
  (refine sq_A ?_; intro A9)
  k_steps
  all_goals (refine' ret_bN hret ?e ?f ?n ?s; (case f => k_asm); (case n => assumption); (case s => (intro _ hp; first | exact hp | exact List.mem_append_left _ hp | exact List.mem_cons_of_mem _ hp | (simp only [List.mem_append, List.mem_cons]; simp [hp]; done))); (case e => (refine Eq.symm ?_; unfold rangeB; (first | (simp_all; done) | (simp_all; (try intros); omega)))))
example : True := by (k_with "call ref" => (k_here; k_dflt (refine' is_small_spec ?B_q4 ?F_q4 ?X_q4 ?T_q4 ?K_q4 ?d_q4 ?u_q4 ?N_q4 ?_; (case F_q4 => k_asm); (case B_q4 => k_asm); (case X_q4 => k_asm); (case T_q4 => k_asm); (case K_q4 => first | exact rfl | assumption); (case d_q4 => k_room); (case u_q4 => ktr_units); (case N_q4 => k_asm)); intro h' tk' F' N'; (try dsimp only at N'); (try k_sweep); walk_say "is_small_spec")); exact trivial
example : True := by (k_with "call ref" => (k_here; k_dflt (refine' is_capital_spec ?B_q5 ?F_q5 ?X_q5 ?T_q5 ?K_q5 ?d_q5 ?u_q5 ?N_q5 ?_; (case F_q5 => k_asm); (case B_q5 => k_asm); (case X_q5 => k_asm); (case T_q5 => k_asm); (case K_q5 => first | exact rfl | assumption); (case d_q5 => k_room); (case u_q5 => ktr_units); (case N_q5 => k_asm)); intro h' tk' F' N'; (try dsimp only at N'); (try k_sweep); walk_say "is_capital_spec")); exact trivial
example : True := by (k_with "call ref" => (k_here; k_dflt (refine' is_digit_spec ?B_q6 ?F_q6 ?X_q6 ?T_q6 ?K_q6 ?d_q6 ?u_q6 ?N_q6 ?_; (case F_q6 => k_asm); (case B_q6 => k_asm); (case X_q6 => k_asm); (case T_q6 => k_asm); (case K_q6 => first | exact rfl | assumption); (case d_q6 => k_room); (case u_q6 => ktr_units); (case N_q6 => k_asm)); intro h' tk' F' N'; (try dsimp only at N'); (try k_sweep); walk_say "is_digit_spec")); exact trivial
theorem is_alnum_spec {c : Int} {tk : Tok} (B : Below A₀ base outer h₀) (F : Fr h₀ L s.heap m) (X : (Mine.kk.heap_1 w.params).In h₀) (T : Top p loose mean mg mb h₀) (hk : cs.kind = .function) (hd : dp + 5 < recursionLimit) (hu : un + 60 < cLine) (N : News h₀ L s.heap news)
  (hret : ∀ h' tk', Fr h₀ L h' m → News h₀ L h' news → Q (.bool (alnumB c)) { s with heap := h', toks := tk' }) :
  wpAny (model PySem.Challenge.rw_ok0024_01.row.prog w) (ktrTop dp un gd cn cs L a ccd cl outer) (call (.ref 161) [.int c tk]) Q E s := by
  revert X; k_fill; intro X
  refine wpAny_call ?_
  k_dflt k_enter
  (refine sq_A ?_; intro A9)
  k_steps
  all_goals (refine' ret_bN hret ?e ?f ?n ?s; (case f => k_asm); (case n => assumption); (case s => (intro _ hp; first | exact hp | exact List.mem_append_left _ hp | exact List.mem_cons_of_mem _ hp | (simp only [List.mem_append, List.mem_cons]; simp [hp]; done))); (case e => (refine Eq.symm ?_; unfold alnumB; (first | (simp_all; done) | (simp_all; rfl)))))
example : True := by (k_with "call ref" => (k_here; k_dflt (refine' is_alnum_spec ?B_q7 ?F_q7 ?X_q7 ?T_q7 ?K_q7 ?d_q7 ?u_q7 ?N_q7 ?_; (case F_q7 => k_asm); (case B_q7 => k_asm); (case X_q7 => k_asm); (case T_q7 => k_asm); (case K_q7 => first | exact rfl | assumption); (case d_q7 => k_room); (case u_q7 => ktr_units); (case N_q7 => k_asm)); intro h' tk' F' N'; (try dsimp only at N'); (try k_sweep); walk_say "is_alnum_spec")); exact trivial
noncomputable def alnumNameB (x : Str) : Bool := match x.cps.toList with
  | [] => false
  | c :: r => rangeB 97 122 (c : Nat) && (c :: r).all fun d => alnumB (d : Nat)
theorem str_empty_iff {x : Str} : (x == Str.ofString "") = true ↔ x.cps.toList = [] := by
  rw [beq_iff_eq]
  constructor
  · intro e; subst e; decide
  · intro e; cases x with | mk c => simp at e; subst e; decide
theorem item0 {x : Str} {c : Nat} {r : List Nat} (h : x.cps.toList = c :: r) : (Txt.item x 0).cps.getD 0 0 = c := by
  have hx : x = ⟨(c :: r).toArray⟩ ++ Str.ofString "" := by
    cases x with | mk a => 
      refine Str.ext' ?_
      rw [Str.cps_append]
      apply Array.toList_inj.mp
      simp [show (Str.ofString "").cps = #[] from by decide] at h ⊢
      exact h
  rw [hx, item_zero_left]; rfl
theorem alnumName_no1 {x : Str} (h : (x == Str.ofString "") = true) : alnumNameB x = false := by
  unfold alnumNameB; rw [str_empty_iff.mp h]
theorem alnumName_no2 {x : Str} (h : rangeB 97 122 (((Txt.item x 0).cps.getD 0 0 : Nat) : Int) = false) : alnumNameB x = false := by
  unfold alnumNameB
  cases hx : x.cps.toList with
  | nil => rfl
  | cons c r => rw [item0 hx] at h; simp [h]
theorem alnumName_no3 {x : Str} {i n : Nat} (hn : x.cps[i]? = some n) (h : alnumB (n : Int) = false) : alnumNameB x = false := by
  unfold alnumNameB
  have hm : n ∈ x.cps.toList := List.mem_of_getElem? (i := i) (by simpa using hn)
  cases hx : x.cps.toList with
  | nil => rfl
  | cons c r =>
    rw [hx] at hm
    have : ((c :: r).all fun d => alnumB (d : Nat)) = false := by
      rw [Bool.eq_false_iff]; intro ha
      have := List.all_eq_true.mp ha n hm
      rw [h] at this; cases this
    simp only [this, Bool.and_false]
theorem alnumName_yes {x : Str} (h0 : (x == Str.ofString "") = false) (h1 : rangeB 97 122 (((Txt.item x 0).cps.getD 0 0 : Nat) : Int) = true) (h : ∀ c ∈ x.cps.toList, alnumB ((c : Nat) : Int) = true) : alnumNameB x = true := by
  unfold alnumNameB
  cases hx : x.cps.toList with
  | nil => rw [str_empty_iff.mpr hx] at h0; cases h0
  | cons c r =>
    rw [item0 hx] at h1
    simp only [h1, Bool.true_and]
    rw [hx] at h
    exact List.all_eq_true.mpr fun d hd => h d hd
section
example : True := by (k_with "exec For Name Name cons nil" => (k_here; (rename Fr _ _ _ _ => lF'); (with_unfolding_all refine' For_invVF lF' ?k1_q8 ?k2_q8 ?_; (case k1_q8 => exact rfl); (case k2_q8 => exact rfl); k_whole))); exact trivial
example : True := by (k_with "pyIter str" => (k_here; (rename Fr _ _ _ _ => lF'); (rename News _ _ _ _ => lN'); (with_unfolding_all refine' iter_str_plain (fun c => alnumB (c : Nat) = true) (by rfl) lF' lN' (fun i' n' t' h' tk' own' hn' hP' F' N' => ?_) (fun u' h' tk' hD' F' N' => ?_)); (all_goals (try clear lF' lN')); (all_goals (try k_fold)))); exact trivial
example : True := by (k_with "InvEndN" => (refine loopJ_end (by assumption) (by assumption) (fun _ hp => hp) ?_ (by assumption) (by assumption) (by assumption); intro z hz; simp [hz])); exact trivial
theorem is_alnum_name_spec {x : Str} {tk : Tok} (B : Below A₀ base outer h₀) (F : Fr h₀ L s.heap m) (X : (Mine.kk.heap_1 w.params).In h₀) (T : Top p loose mean mg mb h₀) (hk : cs.kind = .function) (hd : dp + 8 < recursionLimit) (hu : un + 100 < cLine) (N : News h₀ L s.heap news)
  (hret : ∀ h' tk', Fr h₀ L h' m → News h₀ L h' news → Q (.bool (alnumNameB x)) { s with heap := h', toks := tk' }) :
  wpAny (model PySem.Challenge.rw_ok0024_01.row.prog w) (ktrTop dp un gd cn cs L a ccd cl outer) (call (.ref 182) [.str x tk]) Q E s := by
  revert X; k_fill; intro X
  refine wpAny_call ?_
  k_dflt k_enter
  (refine sq_A ?_; intro A9)
  k_steps
  all_goals (refine' ret_bN hret ?e ?f ?n ?s; (case f => k_asm); (case n => assumption); (case s => (intro _ hp; first | exact hp | exact List.mem_append_left _ hp | exact List.mem_cons_of_mem _ hp | (simp only [List.mem_append, List.mem_cons]; simp [hp]; done))); (case e => (refine Eq.symm ?_; first | exact alnumName_no1 (by assumption) | exact alnumName_no2 (by assumption) | exact alnumName_no3 (by assumption) (by assumption) | exact alnumName_yes (by assumption) (by assumption) (by assumption))))
example : True := by k_with_none; (k_with "x_k_room" => ((try simp only [depth_under_make, depth_under_kw, depth_in1, depth_deeper, depth_caller]); (try dsimp only [ktrTop]); omega)); (k_with "x_ktr_units" => ((try simp only [units_in1, units_deeper, Around.mark_units, units_caller]); (try dsimp only [ktrTop]); omega)); (k_with "eval Call Name" => (k_here; with_unfolding_all refine Call_ ?_)); (k_with "call ref" => (k_here; k_dflt (refine' is_small_spec ?B_q4 ?F_q4 ?X_q4 ?T_q4 ?K_q4 ?d_q4 ?u_q4 ?N_q4 ?_; (case F_q4 => k_asm); (case B_q4 => k_asm); (case X_q4 => k_asm); (case T_q4 => k_asm); (case K_q4 => first | exact rfl | assumption); (case d_q4 => k_room); (case u_q4 => ktr_units); (case N_q4 => k_asm)); intro h' tk' F' N'; (try dsimp only at N'); (try k_sweep); walk_say "is_small_spec")); (k_with "call ref" => (k_here; k_dflt (refine' is_capital_spec ?B_q5 ?F_q5 ?X_q5 ?T_q5 ?K_q5 ?d_q5 ?u_q5 ?N_q5 ?_; (case F_q5 => k_asm); (case B_q5 => k_asm); (case X_q5 => k_asm); (case T_q5 => k_asm); (case K_q5 => first | exact rfl | assumption); (case d_q5 => k_room); (case u_q5 => ktr_units); (case N_q5 => k_asm)); intro h' tk' F' N'; (try dsimp only at N'); (try k_sweep); walk_say "is_capital_spec")); (k_with "call ref" => (k_here; k_dflt (refine' is_digit_spec ?B_q6 ?F_q6 ?X_q6 ?T_q6 ?K_q6 ?d_q6 ?u_q6 ?N_q6 ?_; (case F_q6 => k_asm); (case B_q6 => k_asm); (case X_q6 => k_asm); (case T_q6 => k_asm); (case K_q6 => first | exact rfl | assumption); (case d_q6 => k_room); (case u_q6 => ktr_units); (case N_q6 => k_asm)); intro h' tk' F' N'; (try dsimp only at N'); (try k_sweep); walk_say "is_digit_spec")); (k_with "call ref" => (k_here; k_dflt (refine' is_alnum_spec ?B_q7 ?F_q7 ?X_q7 ?T_q7 ?K_q7 ?d_q7 ?u_q7 ?N_q7 ?_; (case F_q7 => k_asm); (case B_q7 => k_asm); (case X_q7 => k_asm); (case T_q7 => k_asm); (case K_q7 => first | exact rfl | assumption); (case d_q7 => k_room); (case u_q7 => ktr_units); (case N_q7 => k_asm)); intro h' tk' F' N'; (try dsimp only at N'); (try k_sweep); walk_say "is_alnum_spec")); exact trivial
end
example : True := by (k_with "call ref" => (k_here; k_dflt (refine' is_alnum_name_spec ?B_q11 ?F_q11 ?X_q11 ?T_q11 ?K_q11 ?d_q11 ?u_q11 ?N_q11 ?_; (case F_q11 => k_asm); (case B_q11 => k_asm); (case X_q11 => k_asm); (case T_q11 => k_asm); (case K_q11 => first | exact rfl | assumption); (case d_q11 => k_room); (case u_q11 => ktr_units); (case N_q11 => k_asm)); intro h' tk' F' N'; (try dsimp only at N'); (try k_sweep); walk_say "is_alnum_name_spec")); exact trivial
noncomputable def symB (c : Int) : Bool := decide (0 ≤ c) && (decide (c < 128) && !(Builtin.Str.occurrences (Str.ofString "+-*/\\^<>=~:.?@#&$") ⟨#[c.toNat]⟩ 0 (Str.length (Str.ofString "+-*/\\^<>=~:.?@#&$")) 1).isEmpty)
theorem is_symbol_spec {c : Int} {tk : Tok} (B : Below A₀ base outer h₀) (F : Fr h₀ L s.heap m) (X : (Mine.kk.heap_1 w.params).In h₀) (T : Top p loose mean mg mb h₀) (hk : cs.kind = .function) (hd : dp + 5 < recursionLimit) (hu : un + 60 < cLine) (N : News h₀ L s.heap news)
  (hret : ∀ h' tk', Fr h₀ L h' m → News h₀ L h' news → Q (.bool (symB c)) { s with heap := h', toks := tk' }) :
  wpAny (model PySem.Challenge.rw_ok0024_01.row.prog w) (ktrTop dp un gd cn cs L a ccd cl outer) (call (.ref 168) [.int c tk]) Q E s := by
  revert X; k_fill; intro X
  refine wpAny_call ?_
  k_dflt k_enter
  (refine sq_A ?_; intro A9)
  k_steps
  all_goals (refine' ret_bN hret ?e ?f ?n ?s; (case f => k_asm); (case n => assumption); (case s => (intro _ hp; first | exact hp | exact List.mem_append_left _ hp | exact List.mem_cons_of_mem _ hp | (simp only [List.mem_append, List.mem_cons]; simp [hp]; done))); (case e => (refine Eq.symm ?_; unfold symB; (first | (simp_all; done) | (simp_all; (try intros); omega)))))
example : True := by (k_with "call ref" => (k_here; k_dflt (refine' is_symbol_spec ?B_q12 ?F_q12 ?X_q12 ?T_q12 ?K_q12 ?d_q12 ?u_q12 ?N_q12 ?_; (case F_q12 => k_asm); (case B_q12 => k_asm); (case X_q12 => k_asm); (case T_q12 => k_asm); (case K_q12 => first | exact rfl | assumption); (case d_q12 => k_room); (case u_q12 => ktr_units); (case N_q12 => k_asm)); intro h' tk' F' N'; (try dsimp only at N'); (try k_sweep); walk_say "is_symbol_spec")); exact trivial
noncomputable def symNameB (x : Str) : Bool := match x.cps.toList with
  | [] => false
  | c :: r => (c :: r).all fun d => symB (d : Nat)
theorem symName_no1 {x : Str} (h : (x == Str.ofString "") = true) : symNameB x = false := by
  unfold symNameB; rw [str_empty_iff.mp h]
theorem symName_no3 {x : Str} {i n : Nat} (hn : x.cps[i]? = some n) (h : symB (n : Int) = false) : symNameB x = false := by
  unfold symNameB
  have hm : n ∈ x.cps.toList := List.mem_of_getElem? (i := i) (by simpa using hn)
  cases hx : x.cps.toList with
  | nil => rfl
  | cons c r =>
    rw [hx] at hm
    show ((c :: r).all fun d => symB (d : Nat)) = false
    rw [Bool.eq_false_iff]; intro ha
    have := List.all_eq_true.mp ha n hm
    rw [h] at this; cases this
theorem symName_yes {x : Str} (h0 : (x == Str.ofString "") = false) (h : ∀ c ∈ x.cps.toList, symB ((c : Nat) : Int) = true) : symNameB x = true := by
  unfold symNameB
  cases hx : x.cps.toList with
  | nil => rw [str_empty_iff.mpr hx] at h0; cases h0
  | cons c r =>
    rw [hx] at h
    exact List.all_eq_true.mpr fun d hd => h d hd
section
example : True := by (k_with "exec For Name Name cons nil" => (k_here; (rename Fr _ _ _ _ => lF'); (with_unfolding_all refine' For_invVF lF' ?k1_q13 ?k2_q13 ?_; (case k1_q13 => exact rfl); (case k2_q13 => exact rfl); k_whole))); exact trivial
example : True := by (k_with "pyIter str" => (k_here; (rename Fr _ _ _ _ => lF'); (rename News _ _ _ _ => lN'); (with_unfolding_all refine' iter_str_plain (fun c => symB (c : Nat) = true) (by rfl) lF' lN' (fun i' n' t' h' tk' own' hn' hP' F' N' => ?_) (fun u' h' tk' hD' F' N' => ?_)); (all_goals (try clear lF' lN')); (all_goals (try k_fold)))); exact trivial
example : True := by (k_with "InvEndN" => (refine loopJ_end (by assumption) (by assumption) (fun _ hp => hp) ?_ (by assumption) (by assumption) (by assumption); intro z hz; simp [hz])); exact trivial
theorem is_symbol_name_spec {x : Str} {tk : Tok} (B : Below A₀ base outer h₀) (F : Fr h₀ L s.heap m) (X : (Mine.kk.heap_1 w.params).In h₀) (T : Top p loose mean mg mb h₀) (hk : cs.kind = .function) (hd : dp + 8 < recursionLimit) (hu : un + 100 < cLine) (N : News h₀ L s.heap news)
  (hret : ∀ h' tk', Fr h₀ L h' m → News h₀ L h' news → Q (.bool (symNameB x)) { s with heap := h', toks := tk' }) :
  wpAny (model PySem.Challenge.rw_ok0024_01.row.prog w) (ktrTop dp un gd cn cs L a ccd cl outer) (call (.ref 189) [.str x tk]) Q E s := by
  revert X; k_fill; intro X
  refine wpAny_call ?_
  k_dflt k_enter
  (refine sq_A ?_; intro A9)
  k_steps
  all_goals (refine' ret_bN hret ?e ?f ?n ?s; (case f => k_asm); (case n => assumption); (case s => (intro _ hp; first | exact hp | exact List.mem_append_left _ hp | exact List.mem_cons_of_mem _ hp | (simp only [List.mem_append, List.mem_cons]; simp [hp]; done))); (case e => (refine Eq.symm ?_; first | exact symName_no1 (by assumption) | exact symName_no3 (by assumption) (by assumption) | exact symName_yes (by assumption) (by assumption))))
example : True := by k_with_none; (k_with "x_k_room" => ((try simp only [depth_under_make, depth_under_kw, depth_in1, depth_deeper, depth_caller]); (try dsimp only [ktrTop]); omega)); (k_with "x_ktr_units" => ((try simp only [units_in1, units_deeper, Around.mark_units, units_caller]); (try dsimp only [ktrTop]); omega)); (k_with "eval Call Name" => (k_here; with_unfolding_all refine Call_ ?_)); (k_with "call ref" => (k_here; k_dflt (refine' is_small_spec ?B_q4 ?F_q4 ?X_q4 ?T_q4 ?K_q4 ?d_q4 ?u_q4 ?N_q4 ?_; (case F_q4 => k_asm); (case B_q4 => k_asm); (case X_q4 => k_asm); (case T_q4 => k_asm); (case K_q4 => first | exact rfl | assumption); (case d_q4 => k_room); (case u_q4 => ktr_units); (case N_q4 => k_asm)); intro h' tk' F' N'; (try dsimp only at N'); (try k_sweep); walk_say "is_small_spec")); (k_with "call ref" => (k_here; k_dflt (refine' is_capital_spec ?B_q5 ?F_q5 ?X_q5 ?T_q5 ?K_q5 ?d_q5 ?u_q5 ?N_q5 ?_; (case F_q5 => k_asm); (case B_q5 => k_asm); (case X_q5 => k_asm); (case T_q5 => k_asm); (case K_q5 => first | exact rfl | assumption); (case d_q5 => k_room); (case u_q5 => ktr_units); (case N_q5 => k_asm)); intro h' tk' F' N'; (try dsimp only at N'); (try k_sweep); walk_say "is_capital_spec")); (k_with "call ref" => (k_here; k_dflt (refine' is_digit_spec ?B_q6 ?F_q6 ?X_q6 ?T_q6 ?K_q6 ?d_q6 ?u_q6 ?N_q6 ?_; (case F_q6 => k_asm); (case B_q6 => k_asm); (case X_q6 => k_asm); (case T_q6 => k_asm); (case K_q6 => first | exact rfl | assumption); (case d_q6 => k_room); (case u_q6 => ktr_units); (case N_q6 => k_asm)); intro h' tk' F' N'; (try dsimp only at N'); (try k_sweep); walk_say "is_digit_spec")); (k_with "call ref" => (k_here; k_dflt (refine' is_alnum_spec ?B_q7 ?F_q7 ?X_q7 ?T_q7 ?K_q7 ?d_q7 ?u_q7 ?N_q7 ?_; (case F_q7 => k_asm); (case B_q7 => k_asm); (case X_q7 => k_asm); (case T_q7 => k_asm); (case K_q7 => first | exact rfl | assumption); (case d_q7 => k_room); (case u_q7 => ktr_units); (case N_q7 => k_asm)); intro h' tk' F' N'; (try dsimp only at N'); (try k_sweep); walk_say "is_alnum_spec")); (k_with "call ref" => (k_here; k_dflt (refine' is_alnum_name_spec ?B_q11 ?F_q11 ?X_q11 ?T_q11 ?K_q11 ?d_q11 ?u_q11 ?N_q11 ?_; (case F_q11 => k_asm); (case B_q11 => k_asm); (case X_q11 => k_asm); (case T_q11 => k_asm); (case K_q11 => first | exact rfl | assumption); (case d_q11 => k_room); (case u_q11 => ktr_units); (case N_q11 => k_asm)); intro h' tk' F' N'; (try dsimp only at N'); (try k_sweep); walk_say "is_alnum_name_spec")); (k_with "call ref" => (k_here; k_dflt (refine' is_symbol_spec ?B_q12 ?F_q12 ?X_q12 ?T_q12 ?K_q12 ?d_q12 ?u_q12 ?N_q12 ?_; (case F_q12 => k_asm); (case B_q12 => k_asm); (case X_q12 => k_asm); (case T_q12 => k_asm); (case K_q12 => first | exact rfl | assumption); (case d_q12 => k_room); (case u_q12 => ktr_units); (case N_q12 => k_asm)); intro h' tk' F' N'; (try dsimp only at N'); (try k_sweep); walk_say "is_symbol_spec")); exact trivial
end
example : True := by (k_with "call ref" => (k_here; k_dflt (refine' is_symbol_name_spec ?B_q16 ?F_q16 ?X_q16 ?T_q16 ?K_q16 ?d_q16 ?u_q16 ?N_q16 ?_; (case F_q16 => k_asm); (case B_q16 => k_asm); (case X_q16 => k_asm); (case T_q16 => k_asm); (case K_q16 => first | exact rfl | assumption); (case d_q16 => k_room); (case u_q16 => ktr_units); (case N_q16 => k_asm)); intro h' tk' F' N'; (try dsimp only at N'); (try k_sweep); walk_say "is_symbol_name_spec")); exact trivial
theorem is_plain_alnum_spec {x : Str} {tk : Tok} (hx : alnumNameB x = true) (B : Below A₀ base outer h₀) (F : Fr h₀ L s.heap m) (X : (Mine.kk.heap_1 w.params).In h₀) (T : Top p loose mean mg mb h₀) (hk : cs.kind = .function) (hd : dp + 12 < recursionLimit) (hu : un + 150 < cLine) (N : News h₀ L s.heap news)
  (hret : ∀ h' tk', Fr h₀ L h' m → News h₀ L h' news → Q (.bool true) { s with heap := h', toks := tk' }) :
  wpAny (model PySem.Challenge.rw_ok0024_01.row.prog w) (ktrTop dp un gd cn cs L a ccd cl outer) (call (.ref 196) [.str x tk]) Q E s := by
  revert X; k_fill; intro X
  refine wpAny_call ?_
  k_dflt k_enter
  (refine sq_A ?_; intro A9)
  k_steps
  all_goals (refine' ret_bN hret ?e ?f ?n ?s; (case f => k_asm); (case n => assumption); (case s => (intro _ hp; first | exact hp | exact List.mem_append_left _ hp | exact List.mem_cons_of_mem _ hp | (simp only [List.mem_append, List.mem_cons]; simp [hp]; done))); (case e => (refine Eq.symm ?_; (first | rfl | (simp_all; done)))))
theorem is_plain_nil_spec {tk : Tok} (B : Below A₀ base outer h₀) (F : Fr h₀ L s.heap m) (X : (Mine.kk.heap_1 w.params).In h₀) (T : Top p loose mean mg mb h₀) (hk : cs.kind = .function) (hd : dp + 12 < recursionLimit) (hu : un + 150 < cLine) (N : News h₀ L s.heap news)
  (hret : ∀ h' tk', Fr h₀ L h' m → News h₀ L h' news → Q (.bool true) { s with heap := h', toks := tk' }) :
  wpAny (model PySem.Challenge.rw_ok0024_01.row.prog w) (ktrTop dp un gd cn cs L a ccd cl outer) (call (.ref 196) [.str (Str.ofString "[]") tk]) Q E s := by
  revert X; k_fill; intro X
  refine wpAny_call ?_
  k_dflt k_enter
  (refine sq_A ?_; intro A9)
  k_steps
  all_goals (refine' ret_bN hret ?e ?f ?n ?s; (case f => k_asm); (case n => assumption); (case s => (intro _ hp; first | exact hp | exact List.mem_append_left _ hp | exact List.mem_cons_of_mem _ hp | (simp only [List.mem_append, List.mem_cons]; simp [hp]; done))); (case e => (refine Eq.symm ?_; (first | rfl | (simp_all; done)))))
theorem is_plain_two_spec {tk : Tok} (B : Below A₀ base outer h₀) (F : Fr h₀ L s.heap m) (X : (Mine.kk.heap_1 w.params).In h₀) (T : Top p loose mean mg mb h₀) (hk : cs.kind = .function) (hd : dp + 12 < recursionLimit) (hu : un + 150 < cLine) (N : News h₀ L s.heap news)
  (hret : ∀ h' tk', Fr h₀ L h' m → News h₀ L h' news → Q (.bool false) { s with heap := h', toks := tk' }) :
  wpAny (model PySem.Challenge.rw_ok0024_01.row.prog w) (ktrTop dp un gd cn cs L a ccd cl outer) (call (.ref 196) [.str (Str.ofString "two words") tk]) Q E s := by
  have e1 : symNameB (Str.ofString "two words") = false := by decide +kernel
  have e2 : alnumNameB (Str.ofString "two words") = false := by decide +kernel
  revert X; k_fill; intro X
  refine wpAny_call ?_
  k_dflt k_enter
  (refine sq_A ?_; intro A9)
  k_steps
  all_goals (refine' ret_bN hret ?e ?f ?n ?s; (case f => k_asm); (case n => assumption); (case s => (intro _ hp; first | exact hp | exact List.mem_append_left _ hp | exact List.mem_cons_of_mem _ hp | (simp only [List.mem_append, List.mem_cons]; simp [hp]; done))); (case e => (refine Eq.symm ?_; (first | rfl | (simp_all; done)))))
example : True := by k_with_none; (k_with "x_k_room" => ((try simp only [depth_under_make, depth_under_kw, depth_in1, depth_deeper, depth_caller]); (try dsimp only [ktrTop]); omega)); (k_with "x_ktr_units" => ((try simp only [units_in1, units_deeper, Around.mark_units, units_caller]); (try dsimp only [ktrTop]); omega)); (k_with "eval Call Name" => (k_here; with_unfolding_all refine Call_ ?_)); exact trivial
end
example : True := by k_with_none; exact trivial
end
section
open PySem Builtin Builtin.Str Builtin.Int
theorem nolen_lri : typeLookup (.type "list_reverseiterator") "__len__" = pure none := by rw [typeLookup_type, builtinLookup_eq_fast]; kernel_rfl
theorem hint_lri : typeLookup (.type "list_reverseiterator") "__length_hint__" = pure (some (.builtin "list_reverseiterator.__length_hint__")) := by rw [typeLookup_type, builtinLookup_eq_fast]; kernel_rfl
section
variable {prog : Program} {w : World} {A : Around} {E : Value → Shared → Prop} {s : Shared} {I : Addr} {fp wr : List Addr} {G : Array GenState → Array GenState → Prop} {n : Nat} {P : Nat → Value → Prop} {St : Nat → Shared → Prop}
theorem collect_rev {Q : List Value → Shared → Prop}
    (W : WalksS prog w A.in1 I fp wr G n P St) (hT : ∀ i s, St i s → s.TypeIs (.ref I) "list_reverseiterator") (hst : St 0 s) (hfp : ∀ b ∈ fp, b < s.heap.objs.size) (hI : I ∈ fp)
    (hQ : ∀ s' acc, Moved wr G s s' → ItemsOf P acc n → Q acc.toList s') (hn : n ≤ sizeLine) : wpAny (model prog w) A (collect (.ref I)) Q E s := by
  have hSf : s.heap.objs.size ∉ fp := fun hm => Nat.lt_irrefl _ (hfp _ hm)
  have hSI : s.heap.objs.size ≠ I := fun e => hSf (e ▸ hI)
  unfold collect
  refine wpAny_bind (wpAny_runValue (codeAny_builtin F.entry_proto_collect ?_))
  rw [Around.under_plainId F.plain_proto_collect _]
  show wpAny _ A.in1 (newList [] >>= fun l => again (.builtin "list.__iadd__" ⟨[l, .ref I], []⟩)) _ _ s
  refine wpAny_bind (wpAny_newObj_type ?_)
  refine wpAny_pure ⟨plainId_quiet F.plain_list_iadd _, codeAny_builtin F.entry_list_iadd ?_⟩
  rw [Around.under_plainId F.plain_list_iadd _]
  have hst₁ := W.frame 0 s (s.heap.push { cls := .type "list", data := .seq ([] : List Value).toArray }) s.toks hst (Nat.le_refl _) fun b _ o e => Heap.get?_push_of_some _ e
  have hS₁ : (s.heap.push { cls := .type "list", data := .seq ([] : List Value).toArray }).get? s.heap.objs.size = some { cls := .type "list", data := .seq ([] : List Value).toArray } := Heap.get?_push_size _ rfl
  have h1 : Builtin.List.listSameRef (.ref s.heap.objs.size) (.ref I) = false := by simp [Builtin.List.listSameRef, hSI]
  show wpAny _ A.in1 (Builtin.List.listExtendWith (.ref s.heap.objs.size) (.ref I) (.ref s.heap.objs.size)) _ _ _
  unfold Builtin.List.listExtendWith
  refine wpAny_bind (wpAny_typeOf (hT 0 _ hst₁) ?_)
  rw [if_neg (by rw [h1]; decide)]
  refine wpAny_bind (W.self 0 _ _ _ hst₁ ?_)
  refine wpAny_bind (wpAny_holding ?_)
  unfold Builtin.List.listLengthHint
  refine wpAny_bind (wpAny_specialOf (hT 0 _ hst₁) nolen_lri ?_)
  show wpAny _ A.in1 (specialOf (Value.ref I) (Str.ofString "__length_hint__") >>= _) _ _ _
  refine wpAny_bind (wpAny_specialOf (hT 0 _ hst₁) hint_lri ?_)
  (generalize hid : ("list_reverseiterator.__length_hint__" : String) = id0; (fail_if_success (clear hid id0)); wp_delta; rw [show splitId id0 = some ("list_reverseiterator", "__length_hint__") from by subst hid; decide +kernel]; subst hid)
  refine wpAny_bind (wpAny_isInstance (b := true) (hT 0 _ hst₁) (by rw [isSubtype_type]; kernel_rfl) ?_)
  refine wpAny_pure ?_
  rw [if_neg (by decide)]
  refine wpAny_pure ⟨plainId_quiet F.plain_extend_loop _, codeAny_extend_loopS W hn _ hSf _ n 0 _ _ _ rfl (Nat.zero_le _) hst₁ hS₁ (ItemsOf.nil P) fun s' acc' c' hm hS' hacc => ?_⟩
  show wpAny _ A (load s.heap.objs.size >>= _) _ _ s'
  refine wpAny_bind (wpAny_load hS' ?_)
  exact wpAny_pure (hQ s' acc' (Moved.drop_new (o := { cls := .type "list", data := .seq ([] : List Value).toArray }) (tk := s.toks) hm (Nat.le_refl _)) hacc)
end
section
variable {prog : Program} {w : World} {A : Around} {E : Value → Shared → Prop} {s : Shared} {x : Str} {t : Tok} {Q : Value → Shared → Prop}
theorem join_rev {D l : Addr} {items : List (Str × Tok)} {c : Nat} (hh : A.handled = none) (hD : s.heap.get? D = some (revObj l ((items.length : Int) - 1))) (hl : s.heap.IsList l (strValues items).toArray)
    (hsz : items.length ≤ sizeLine) (hok : JoinOk x ((items.map (·.1)).reverse) = true)
    (hq : ∀ (s' : Shared) t' k, (∀ b o, b ≠ D → s.heap.get? b = some o → s'.heap.get? b = some o) → s'.gens = s.gens → s'.drawn = s.drawn → s'.os = s.os → Q (.str (Txt.join x ((items.map (·.1)).reverse)) t') { s' with toks := k }) :
    wpAny (model prog w) A (call (.builtin "str.join") [.str x t, .ref D]) Q E s := by
  have hne : l ≠ D := by
    intro e; subst e
    obtain ⟨o, ho, hc, _⟩ := hl
    rw [hD] at ho; cases ho; exact absurd (Value.type.inj hc) (by decide)
  have W := (Walks.listRev (prog := prog) (w := w) (A := A.in1.in1) hh D l hne (strValues items).toArray).toS
  have hlen : (strValues items).toArray.size = items.length := by simp [strValues]
  have hT : ∀ i (s : Shared), (i ≤ (strValues items).toArray.size ∧ s.heap.IsRevIter D l (((strValues items).toArray.size : Int) - 1 - (i : Int)) ∧ s.heap.IsList l (strValues items).toArray) → s.TypeIs (.ref D) "list_reverseiterator" := fun i s h => h.2.1.typeIs
  have hst : (0 ≤ (strValues items).toArray.size ∧ s.heap.IsRevIter D l (((strValues items).toArray.size : Int) - 1 - ((0 : Nat) : Int)) ∧ s.heap.IsList l (strValues items).toArray) := by
    refine ⟨Nat.zero_le _, ⟨_, hD, rfl, ?_⟩, hl⟩
    rw [hlen]; simp [revObj]
  refine wpAny_call (codeAny_call_builtin F.slot_str_join.plain F.entry_str_join (F.slot_str_join.check _ _ _ _ _ _ _ _ (typeIs_str _ _ _) (F.args_str_join_2 _ _) ?_))
  rw [join_tree_other]
  refine wpAny_bind (wpAny_typeOf (hT 0 s hst) ?_)
  show wpAny _ A.in1 ((pyIter (.ref D)).tryCatch _ >>= fun it => collect it >>= fun items => joinTail x items) _ _ s
  refine wpAny_bind (wpAny_tryCatch (W.of_in1.self 0 s _ _ hst ?_))
  refine wpAny_bind (collect_rev W hT hst ?_ (by simp) (fun s' acc hm hacc => ?_) (by rw [hlen]; exact hsz))
  · intro b hb
    rcases List.mem_cons.mp hb with rfl | hb
    · exact Heap.lt_size hD
    · obtain ⟨o, ho, _⟩ := hl
      rw [List.mem_singleton.mp hb]; exact Heap.lt_size ho
  have e : acc.toList = strValues items.reverse := by
    have e1 : acc.toList = (strValues items).reverse := by
      obtain ⟨h1, h2⟩ := hacc
      refine List.ext_getElem? fun j => ?_
      by_cases hj : j < acc.size
      · have h3 := h2 j _ (Array.getElem?_eq_getElem hj)
        have hj' : j < items.length := by rw [h1, hlen] at hj; exact hj
        have e4 : (strValues items).reverse[j]? = (strValues items)[(strValues items).toArray.size - 1 - j]? := by
          rw [List.getElem?_reverse (by simpa [strValues] using hj')]
          simp [strValues]
        rw [e4, Array.getElem?_toList, Array.getElem?_eq_getElem hj]
        have h3' : (strValues items).toArray[(strValues items).toArray.size - 1 - j]? = some acc[j] := h3
        rw [← h3']; simp
      · rw [List.getElem?_eq_none (by simpa using hj), List.getElem?_eq_none (by rw [List.length_reverse]; rw [h1] at hj; simpa using hj)]
    rw [e1]; simp [strValues]
  rw [e]
  have hok' : JoinOk x ((items.reverse).map (·.1)) = true := by rw [List.map_reverse]; exact hok
  have hq' : ∀ t' k, Q (.str (Txt.join x ((items.reverse).map (·.1))) t') { s' with toks := k } := fun t' k => by
    rw [List.map_reverse]
    exact hq s' t' k (fun b o hb eo => hm.heap b o (by simpa using hb) eo) hm.gens hm.drawn hm.os
  generalize items.reverse = lr at hok' hq'
  unfold JoinOk at hok'
  rw [Bool.not_eq_true'] at hok'
  have g : Gives (joinTail x (strValues lr)) (joinMade x lr) := by
    have g0 := gives_joinTail x lr hok'
    cases lr with
    | nil => exact g0
    | cons p r => cases r with
      | nil => exact g0
      | cons q r' => exact g0
  exact g prog w A (wants Q E) s' (post_join lr ⟨joinFit_length hok', hq'⟩)
theorem join_rev_K {h₀ : Heap} {L : Addr} {m : Str → Option Value} {news : List (Addr × Obj)} {D l : Addr} {items : List (Str × Tok)} {c : Nat} {k : Int} (hh : A.handled = none) (F : Fr h₀ L s.heap m) (N : News h₀ L s.heap ((D, revObj l k) :: news)) (hk : k = (items.length : Int) - 1)
    (hm : (l, listOf (strValues items).toArray c) ∈ news) (hD : ∀ p ∈ news, p.1 ≠ D)
    (hsz : items.length ≤ sizeLine) (hok : JoinOk x ((items.map (·.1)).reverse) = true)
    (hq : ∀ t' h' tk, Fr h₀ L h' m → News h₀ L h' news → Q (.str (Txt.join x ((items.map (·.1)).reverse)) t') { s with heap := h', toks := tk }) :
    wpAny (model prog w) A (call (.builtin "str.join") [.str x t, .ref D]) Q E s := by
  subst hk
  have hD0 := N _ (.head _)
  refine join_rev (c := c) hh hD0.1 (News.isList N (.tail _ hm)) hsz hok fun s' t' k hs hg hd ho => ?_
  have F' : Fr h₀ L s'.heap m := by
    obtain ⟨oL, es, ep, hL, r⟩ := F.ns
    exact ⟨⟨oL, es, ep, hs _ _ (Ne.symm hD0.2.1) hL, r⟩, fun b o e => hs b o (fun q => by have := hD0.2.2; rw [← q, e] at this; cases this) (F.keep b o e), F.above⟩
  have N' : News h₀ L s'.heap news := fun p hp => ⟨hs _ _ (hD p hp) (N p (.tail _ hp)).1, (N p (.tail _ hp)).2⟩
  have := hq t' s'.heap k F' N'
  obtain ⟨a1, a2, a3, a4, a5⟩ := s'
  obtain ⟨b1, b2, b3, b4, b5⟩ := s
  dsimp only at hg hd ho this ⊢
  subst hg hd ho
  exact this
theorem join_rev1 {h₀ : Heap} {L : Addr} {m : Str → Option Value} {news : List (Addr × Obj)} {D l : Addr} {a : Str} {ta : Tok} {c : Nat} {k : Int} (hh : A.handled = none) (F : Fr h₀ L s.heap m) (N : News h₀ L s.heap ((D, revObj l k) :: (l, listOf (#[].push (.str a ta)) c) :: news)) (hk : k = 0)
    (hl : l ≠ D) (hD : ∀ p ∈ news, p.1 ≠ D) (ha : a.length ≤ 1000)
    (hq : ∀ t' h' tk, Fr h₀ L h' m → News h₀ L h' ((l, listOf (#[].push (.str a ta)) c) :: news) → Q (.str a t') { s with heap := h', toks := tk }) :
    wpAny (model prog w) A (call (.builtin "str.join") [.str (Str.ofString "") t, .ref D]) Q E s := by
  have e : Txt.join (Str.ofString "") (([(a, ta)].map (·.1)).reverse) = a := by first | rfl | exact StrLaws.join_one _ _ | simp [Txt.join]
  have hok : JoinOk (Str.ofString "") (([(a, ta)].map (·.1)).reverse) = true := by
    refine joinOk_of ?_
    have h0 : (Str.ofString "").length = 0 := by decide
    rw [h0]; show a.length + 0 + _ ≤ _; omega
  refine join_rev_K (items := [(a, ta)]) (c := c) hh F N (by rw [hk]; rfl) (List.Mem.head _) (List.forall_mem_cons.mpr ⟨hl, hD⟩) (by first | (show 1 ≤ sizeLine; decide) | (show 2 ≤ sizeLine; decide)) hok fun t' h' tk F' N' => ?_
  rw [e]; exact hq t' h' tk F' N'
theorem join_rev2 {h₀ : Heap} {L : Addr} {m : Str → Option Value} {news : List (Addr × Obj)} {D l : Addr} {a b : Str} {ta tb : Tok} {c : Nat} {k : Int} (hh : A.handled = none) (F : Fr h₀ L s.heap m) (N : News h₀ L s.heap ((D, revObj l k) :: (l, listOf ((#[].push (.str a ta)).push (.str b tb)) c) :: news)) (hk : k = 1)
    (hl : l ≠ D) (hD : ∀ p ∈ news, p.1 ≠ D) (ha : a.length ≤ 1000) (hb : b.length ≤ 1000)
    (hq : ∀ t' h' tk, Fr h₀ L h' m → News h₀ L h' ((l, listOf ((#[].push (.str a ta)).push (.str b tb)) c) :: news) → Q (.str (b ++ a) t') { s with heap := h', toks := tk }) :
    wpAny (model prog w) A (call (.builtin "str.join") [.str (Str.ofString "") t, .ref D]) Q E s := by
  have e : Txt.join (Str.ofString "") (([(a, ta), (b, tb)].map (·.1)).reverse) = b ++ a := by
    unfold Txt.join
    rw [StrLaws.glued_eq_join]
    show b ++ Str.ofString "" ++ a = b ++ a
    rw [show Str.ofString "" = Str.empty from by decide, Str.append_empty]
  have hok : JoinOk (Str.ofString "") (([(a, ta), (b, tb)].map (·.1)).reverse) = true := by
    refine joinOk_of ?_
    have h0 : (Str.ofString "").length = 0 := by decide
    rw [h0]; show b.length + (a.length + 0) + _ ≤ _; omega
  refine join_rev_K (items := [(a, ta), (b, tb)]) (c := c) hh F N (by rw [hk]; rfl) (List.Mem.head _) (List.forall_mem_cons.mpr ⟨hl, hD⟩) (by first | (show 1 ≤ sizeLine; decide) | (show 2 ≤ sizeLine; decide)) hok fun t' h' tk F' N' => ?_
  rw [e]; exact hq t' h' tk F' N'
end
end
section
theorem digits_pad (a : Nat) (ha : 0 < a) : ∀ (k b : Nat), 1 ≤ k → b < 10 ^ k →
    Nat.toDigits 10 (a * 10 ^ k + b) = Nat.toDigits 10 a ++ (List.replicate (k - (Nat.toDigits 10 b).length) '0' ++ Nat.toDigits 10 b)
  | 0, _, h, _ => absurd h (by decide)
  | 1, b, _, hb => by
    have hb' : b < 10 := by simpa using hb
    rw [show a * 10 ^ 1 + b = 10 * a + b by omega, ← Nat.toDigits_append_toDigits (by decide) ha hb', Nat.toDigits_of_lt_base hb']
    rfl
  | k + 2, b, _, hb => by
    have hr : b % 10 < 10 := Nat.mod_lt _ (by decide)
    have hq : b / 10 < 10 ^ (k + 1) := by
      rw [Nat.div_lt_iff_lt_mul (by decide), ← Nat.pow_succ]; exact hb
    have e : a * 10 ^ (k + 2) + b = 10 * (a * 10 ^ (k + 1) + b / 10) + b % 10 := by
      rw [Nat.pow_succ 10 (k + 1)]
      have := Nat.div_add_mod b 10
      rw [← Nat.mul_assoc]
      omega
    have hp : 0 < a * 10 ^ (k + 1) + b / 10 := Nat.lt_of_lt_of_le (Nat.mul_pos ha (Nat.pow_pos (by decide))) (Nat.le_add_right _ _)
    rw [e, ← Nat.toDigits_append_toDigits (by decide) hp hr, digits_pad a ha (k + 1) (b / 10) (by omega) hq, Nat.toDigits_of_lt_base hr]
    by_cases h0 : b / 10 = 0
    · have hb' : b < 10 := by omega
      rw [h0, show b % 10 = b by omega, Nat.toDigits_of_lt_base hb', Nat.toDigits_of_lt_base (by decide : 0 < 10)]
      show (Nat.toDigits 10 a ++ (List.replicate (k + 1 - 1) '0' ++ ['0'])) ++ [b.digitChar] = Nat.toDigits 10 a ++ (List.replicate (k + 2 - 1) '0' ++ [b.digitChar])
      rw [show k + 2 - 1 = k + 1 by omega, show k + 1 - 1 = k by omega, List.replicate_succ' (n := k)]
      simp
    · have eb : Nat.toDigits 10 b = Nat.toDigits 10 (b / 10) ++ [(b % 10).digitChar] := by
        have := Nat.toDigits_append_toDigits (b := 10) (by decide) (n := b / 10) (by omega) hr
        rw [Nat.div_add_mod, Nat.toDigits_of_lt_base hr] at this
        exact this.symm
      rw [eb, List.length_append, List.length_singleton, show k + 2 - ((Nat.toDigits 10 (b / 10)).length + 1) = k + 1 - (Nat.toDigits 10 (b / 10)).length by omega]
      simp
noncomputable def dig (n : Nat) : List Nat := (Nat.toDigits 10 n).map Char.toNat
theorem str_int (n : Nat) : Str.ofString (toString (n : Int)) = ⟨(dig n).toArray⟩ := text_ofNat n
theorem dig_len_le {k n : Nat} (hk : 1 ≤ k) (hn : n < 10 ^ k) : (dig n).length ≤ k := by
  unfold dig; rw [List.length_map]; exact digits10_le hk hn
theorem dig_mem {n c : Nat} (h : c ∈ dig n) : 48 ≤ c ∧ c ≤ 57 := by
  obtain ⟨ch, hch, e⟩ := List.mem_map.mp h
  have r := digit_range (Nat.isDigit_of_mem_toDigits (by decide) (by decide) hch)
  rw [← e]; exact r
theorem dig_ne (n : Nat) : dig n ≠ [] := by
  intro e
  have h := tDigits_len_ge 10 n
  rw [List.map_eq_nil_iff.mp e] at h
  exact absurd h (by decide)
theorem zfill_dig {b : Nat} (hb : b < 10 ^ 18) : Txt.zfill ⟨(dig b).toArray⟩ 18 = ⟨(List.replicate (18 - (dig b).length) 48 ++ dig b).toArray⟩ := by
  have hl := dig_len_le (k := 18) (by decide) hb
  have hlen : (⟨(dig b).toArray⟩ : Str).length = (dig b).length := by simp [Str.length]
  unfold Txt.zfill
  rw [hlen]
  by_cases h : (18 : Int) ≤ ((dig b).length : Int)
  · rw [if_pos h]
    have : 18 - (dig b).length = 0 := by omega
    rw [this]; rfl
  · rw [if_neg h]
    have e18 : (18 : Int).toNat = 18 := rfl
    rw [e18]
    unfold zfilled
    cases hd : dig b with
    | nil => exact absurd hd (dig_ne b)
    | cons c r =>
      have hc := dig_mem (n := b) (c := c) (by rw [hd]; exact .head _)
      have e0 : (⟨(c :: r).toArray⟩ : Str).cps[0]? = some c := rfl
      rw [e0]
      split
      · rename_i q; cases q; omega
      · rename_i q; cases q; omega
      · unfold Builtin.Str.padded
        refine Str.ext' ?_
        apply Array.toList_inj.mp
        simp
theorem number_join {a b : Nat} (ha : 0 < a) (hb : b < 10 ^ 18) :
    Str.ofString (toString (a : Int)) ++ Txt.zfill (Str.ofString (toString (b : Int))) 18 = Str.ofString (toString ((a * 10 ^ 18 + b : Nat) : Int)) := by
  rw [str_int, str_int, str_int, zfill_dig hb]
  refine Str.ext' ?_
  rw [Str.cps_append]
  apply Array.toList_inj.mp
  simp only [Array.toList_append]
  unfold dig
  rw [digits_pad a ha 18 b (by decide) hb]
  simp [List.map_append, List.map_replicate]
theorem number_join' {v : Int} (h0 : 1000000000000000000 ≤ v) : Str.ofString (toString (v / 1000000000000000000)) ++ Txt.zfill (Str.ofString (toString (v % 1000000000000000000))) 18 = Str.ofString (toString v) := by
  obtain ⟨n, rfl⟩ := Int.eq_ofNat_of_zero_le (by omega : 0 ≤ v)
  have e := number_join (a := n / 1000000000000000000) (b := n % 1000000000000000000) (by omega) (by omega)
  have e2 : n / 1000000000000000000 * 10 ^ 18 + n % 1000000000000000000 = n := by omega
  rw [e2] at e
  exact e
theorem num_len {v : Int} (h0 : 0 ≤ v) (h1 : v < 1000000000000000000000000000000) : (Str.ofString (toString v)).length ≤ 1000 := by
  obtain ⟨n, rfl⟩ := Int.eq_ofNat_of_zero_le h0
  have hn : n < 10 ^ 30 := by omega
  rw [show (Str.ofString (toString (n : Int))) = ⟨(dig n).toArray⟩ from str_int n]
  have := dig_len_le (k := 30) (by decide) hn
  show (dig n).toArray.size ≤ 1000
  rw [List.size_toArray]; omega
theorem zfill_len {v : Int} (h0 : 0 ≤ v) (h1 : v < 1000000000000000000) : (Txt.zfill (Str.ofString (toString v)) 18).length ≤ 1000 := by
  obtain ⟨n, rfl⟩ := Int.eq_ofNat_of_zero_le h0
  have hn : n < 10 ^ 18 := by omega
  rw [show (Str.ofString (toString (n : Int))) = ⟨(dig n).toArray⟩ from str_int n, zfill_dig hn]
  have := dig_len_le (k := 18) (by decide) hn
  show (List.replicate (18 - (dig n).length) 48 ++ dig n).toArray.size ≤ 1000
  rw [List.size_toArray, List.length_append, List.length_replicate]; omega
end
section
local macro_rules | `(tactic| k_lt $h:ident) => `(tactic| skip)
local macro_rules | `(tactic| k_room) => `(tactic| k_extra "x_k_room")
example : True := by (k_with "x_k_room" => ((try simp (config := {zetaDelta := true}) only [depth_under_make, depth_under_kw, depth_in1, depth_deeper, depth_caller]); (try dsimp only [ktrTop]); (first | (refine' rm0 ?ha_q17; (case ha_q17 => assumption)) | (refine' rm1 ?ha_q17 ?hb_q17; (case ha_q17 => assumption); (case hb_q17 => exact rfl)) | (refine' rm2 ?ha_q17 ?hb_q17; (case ha_q17 => assumption); (case hb_q17 => exact rfl)) | (refine' rm3 ?ha_q17 ?hb_q17; (case ha_q17 => assumption); (case hb_q17 => exact rfl)) | (refine' rm4 ?ha_q17 ?hb_q17; (case ha_q17 => assumption); (case hb_q17 => exact rfl)) | omega))); exact trivial
local macro_rules | `(tactic| ktr_room) => `(tactic| k_room)
local macro_rules | `(tactic| ktr_units) => `(tactic| k_extra "x_ktr_units")
example : True := by (k_with "x_ktr_units" => ((try simp (config := {zetaDelta := true}) only [units_under_make, units_in1, units_deeper, Around.mark_units, units_caller]); (try dsimp only [ktrTop]); (first | (refine' rm0 ?ha_q18; (case ha_q18 => assumption)) | (refine' rm1 ?ha_q18 ?hb_q18; (case ha_q18 => assumption); (case hb_q18 => exact rfl)) | (refine' rm2 ?ha_q18 ?hb_q18; (case ha_q18 => assumption); (case hb_q18 => exact rfl)) | (refine' rm3 ?ha_q18 ?hb_q18; (case ha_q18 => assumption); (case hb_q18 => exact rfl)) | (refine' rm4 ?ha_q18 ?hb_q18; (case ha_q18 => assumption); (case hb_q18 => exact rfl)) | omega))); exact trivial
local macro_rules | `(tactic| walk_at $s:str) => `(tactic| k_extra $s)
example : True := by (k_with "execs cons" => (k_here; (with_reducible refine sq_tok ?_); intro tk')); exact trivial
example : True := by (k_with "subscriptTail Name Constant ref int" => (k_here; (with_reducible show wpAny _ _ (subscriptTail _ _ (Value.ref _) (Value.int _ _)) _ _ _); k_dflt (first | (refine' item_tupleT ?t_q20 ?a_q20 ?b_q20 ?c_q20 ?d_q20 ?_; (case t_q20 => (refine' News.isTup ?t1_q20 ?t2_q20; (case t1_q20 => k_asm); (case t2_q20 => k_mem))); (case a_q20 => decide); (case b_q20 => decide); (case c_q20 => rfl); (case d_q20 => rfl); k_whole) | (refine' c_item_lit ?N_q20 ?m_q20 ?a2_q20 ?b2_q20 ?d2_q20 ?_; (case N_q20 => k_asm); (case m_q20 => k_mem); (case a2_q20 => decide); (case b2_q20 => decide); (case d2_q20 => rfl); k_whole)))); exact trivial
example : True := by (k_with "eval Call Name" => (k_here; with_unfolding_all refine Call_ ?_)); exact trivial
local macro_rules | `(tactic| k_all) => `(tactic| k_extra "x_k_all")
example : True := by (k_with "x_k_all" => first | assumption | exact List.forall_mem_nil _ | (refine' List.forall_mem_append.mpr ⟨?_, ?_⟩; (focus k_all); k_all) | (refine' List.forall_mem_cons.mpr ⟨?_, ?_⟩; (focus k_ne); k_all) | exact allNeP (by assumption) | (refine' Above.off ?hA_q22 ?hM_q22; (case hA_q22 => assumption); (case hM_q22 => k_mem)) | (refine' alt_all ?lh_q22 ?ls_q22; (case lh_q22 => assumption); (case ls_q22 => k_allIn)) | exact allNe0 (by assumption) | exact allNe1 (by assumption) | exact allNe2 (by assumption) | exact allNe3 (by assumption) | exact allNe4 (by assumption) | exact allNe5 (by assumption) | exact allNe6 (by assumption)); exact trivial
local macro_rules | `(tactic| k_ne) => `(tactic| k_extra "x_k_ne")
example : True := by (k_with "x_k_ne" => first | assumption | (refine' alt_ne1 ?lh_q23 ?lm_q23; (case lh_q23 => assumption); (case lm_q23 => k_mem)) | (refine' alt_ne2 ?lh_q23 ?lm_q23; (case lh_q23 => assumption); (case lm_q23 => k_mem)) | (refine' alt_ne3 ?lx_q23 ?lh_q23 ?lm_q23; (case lx_q23 => assumption); (case lh_q23 => assumption); (case lm_q23 => k_mem)) | (refine' alt_ne4 ?lx_q23 ?lh_q23 ?lm_q23; (case lx_q23 => assumption); (case lh_q23 => assumption); (case lm_q23 => k_mem)) | (refine' Ne.symm ?_; assumption) | (refine neN ?_; refine' Ne.symm ?_; assumption) | (refine neN ?_; (try dsimp only); omega) | (refine' news_ne_cls ?nN_q23 ?n1_q23 ?n2_q23 ?n3_q23; (case nN_q23 => assumption); (case n1_q23 => k_mem); (case n2_q23 => k_mem); (case n3_q23 => (intro e9; exact absurd (Value.type.inj e9) (by decide)))) | (refine neN ?_; (try dsimp only); (simp only [List.forall_mem_cons] at *); omega)); exact trivial
local macro_rules | `(tactic| k_mem) => `(tactic| k_extra "x_k_mem")
example : True := by (k_with "x_k_mem" => first | assumption | exact List.mem_cons_self | (refine' List.mem_cons_of_mem _ ?_; k_mem) | (refine' List.mem_append_left _ ?_; k_mem) | (refine' List.mem_append_right _ ?_; k_mem)); exact trivial
local macro_rules | `(tactic| k_upd) => `(tactic| k_extra "x_k_upd")
example : True := by (k_with "x_k_upd" => first | exact Pull.head | (refine' Pull.tail ?b_q25; (case b_q25 => k_upd)) | (refine' Pull.under _ ?b_q25; (case b_q25 => k_upd))); exact trivial
local macro_rules | `(tactic| k_allIn) => `(tactic| k_extra "x_k_allIn")
example : True := by (k_with "x_k_allIn" => first | assumption | (intro p9 h9; k_mem) | (refine' List.forall_mem_append.mpr ⟨?_, ?_⟩; (focus k_allIn); k_allIn) | exact List.forall_mem_nil _ | exact sub_l (by assumption)); exact trivial
local macro_rules | `(tactic| k_enter) => `(tactic| k_extra "x_k_enter")
example : True := by (k_with "x_k_enter" => first | ktr_enter | (refine' code_def ?k1_q27 ?k2_q27 ?k3_q27 ?k4_q27 ?k5_q27 ?kA_q27 ?kF_q27 ?kK_q27 ?k6_q27 ?k7_q27 ?k8_q27 ?k9_q27 ?kB_q27 ?_ ?c2_q27 ?c3_q27 ?c4_q27 ?c5_q27; (case kA_q27 => exact rfl); (case kF_q27 => exact rfl); (case kK_q27 => first | exact rfl | assumption); (case k1_q27 => k_asm); (case k2_q27 => k_asm); (case k3_q27 => k_asm); (case k4_q27 => k_asm); (case k5_q27 => k_asm); (case k6_q27 => k_is); (case k7_q27 => k_is); (case k8_q27 => ktr_room); (case k9_q27 => exact binds_K (by k_in) rfl (by k_is) rfl rfl rfl); (case c5_q27 => decide); (case kB_q27 => exact locs rfl); (case c2_q27 => exact rfl); (case c3_q27 => exact rfl); (case c4_q27 => exact rfl); k_whole; intro g' L' h' FG' F' N' B' X' T'; (try dsimp only); (try k_fold))); exact trivial
section
theorem pow18 : (10 : Int) ^ Int.toNat 18 = 1000000000000000000 := by decide
theorem absv {v : Int} (h : 0 ≤ v) : (if v < 0 then -v else v) = v := if_neg (Int.not_lt.mpr h)
theorem log_small {a : Int} (h0 : 0 ≤ a) (h1 : a < 1000000000000000000000000000000) : a.natAbs.log2 < 1920 := by
  by_cases hz : a.natAbs = 0
  · rw [hz]; decide
  · rw [Nat.log2_lt hz]
    have : a.natAbs < 1000000000000000000000000000000 := by omega
    exact Nat.lt_of_lt_of_le this (by decide +kernel)
section
theorem fdivE (v : Int) : v.fdiv 1000000000000000000 = v / 1000000000000000000 := Int.fdiv_eq_ediv_of_nonneg _ (by decide)
theorem fmodE (v : Int) : v.fmod 1000000000000000000 = v % 1000000000000000000 := Int.fmod_eq_emod_of_nonneg _ (by decide)
example : True := by (k_with "call type:str" => (k_here; (with_reducible show wpAny _ _ (call (Value.type "str") [Value.int _ _]) _ _ _); (try simp only [pow18, fdivE, fmodE]); (try rw [absv (by omega)]); (refine PySem.P.str_of_int (log_small (by omega) (by omega)) ?_))); exact trivial
example : True := by (k_with "call builtin:str.join" => (k_here; (rename Fr _ _ _ _ => kF'); (rename News _ _ _ _ => kN'); k_dflt (first | refine' join_rev1 ?h_q29 kF' kN' ?k_q29 ?hl_q29 ?hD_q29 ?ha_q29 ?_ | refine' join_rev2 ?h_q29 kF' kN' ?k_q29 ?hl_q29 ?hD_q29 ?ha_q29 ?hb_q29 ?_); (case h_q29 => rfl); (case k_q29 => rfl); (case hl_q29 => k_ne); (case hD_q29 => k_all); (try simp only [pow18, fdivE, fmodE]); (try (case ha_q29 => first | exact num_len (by (try rw [absv (by omega)]); omega) (by (try rw [absv (by omega)]); omega) | exact zfill_len (by omega) (by omega))); (try (case hb_q29 => exact num_len (by omega) (by omega))); intro t' h' tk' F' N'; (try k_sweep))); exact trivial
example : True := by (k_with "WhlIf" => ((simp only [pow18, fdivE, fmodE]); (try rw [absv (by omega)]); first | (refine WhlIf.no (decide_eq_false (by omega)) ?_) | (refine WhlIf.yes (decide_eq_true (by omega)) ?_))); exact trivial
local macro_rules | `(tactic| k_enter) => `(tactic| ktr_enter)
variable {w : World} {p : Program} {loose : List Str} {mean : ExcName → Option Value} {mg mb : Str → Option Value} {dp un : Nat} {gd : Option (List Code)} {cn : Str} {cs : Scope} {a : Addr} {ccd : Value} {cl : List (Str × Addr)} {outer : List Env} {A₀ : Around} {base h₀ : Heap} {L : Addr} {m : Str → Option Value} {s : Shared} {Q E : Value → Shared → Prop} {news rest : List (Addr × Obj)}
theorem number_text_small {v : Int} {tk : Tok} (h0 : 0 ≤ v) (h1 : v < 1000000000000000000) (B : Below A₀ base outer h₀) (F : Fr h₀ L s.heap m) (X : (Mine.kk.heap_1 w.params).In h₀) (T : Top p loose mean mg mb h₀) (hk : cs.kind = .function) (hd : dp + 5 < recursionLimit) (hu : un + 60 < cLine) (N : News h₀ L s.heap news)
  (hret : ∀ t h' tk', Fr h₀ L h' m → News h₀ L h' news → Q (.str (Str.ofString (toString v)) t) { s with heap := h', toks := tk' }) :
  wpAny (model PySem.Challenge.rw_ok0024_01.row.prog w) (ktrTop dp un gd cn cs L a ccd cl outer) (call (.ref 175) [.int v tk]) Q E s := by
  revert X; k_fill; intro X
  refine wpAny_call ?_
  k_dflt k_enter
  (refine sq_A ?_; intro A9)
  k_steps
  all_goals (refine' ret_sN hret ?e ?f ?n ?s; (case f => k_asm); (case n => assumption); (case s => (intro _ hp; first | exact hp | exact List.mem_append_left _ hp | exact List.mem_cons_of_mem _ hp | (simp only [List.mem_append, List.mem_cons]; simp [hp]; done))); (case e => (refine Eq.symm ?_; first | rfl | (rw [absv (by omega)]))))
theorem number_text_big {v : Int} {tk : Tok} (h0 : 1000000000000000000 ≤ v) (h1 : v < 1000000000000000000000000000000) (B : Below A₀ base outer h₀) (F : Fr h₀ L s.heap m) (X : (Mine.kk.heap_1 w.params).In h₀) (T : Top p loose mean mg mb h₀) (hk : cs.kind = .function) (hd : dp + 5 < recursionLimit) (hu : un + 60 < cLine) (N : News h₀ L s.heap news)
  (hret : ∀ t h' tk', Fr h₀ L h' m → News h₀ L h' news → Q (.str (Str.ofString (toString v)) t) { s with heap := h', toks := tk' }) :
  wpAny (model PySem.Challenge.rw_ok0024_01.row.prog w) (ktrTop dp un gd cn cs L a ccd cl outer) (call (.ref 175) [.int v tk]) Q E s := by
  revert X; k_fill; intro X
  refine wpAny_call ?_
  k_dflt k_enter
  (refine sq_A ?_; intro A9)
  k_steps
  rename Fr _ _ _ _ => kF
  rename News _ _ _ _ => kN
  refine' join_rev2 (news := news) rfl kF (cb_drop kN (List.forall_mem_cons.mpr ⟨?m1, List.forall_mem_cons.mpr ⟨?m2, ?m3⟩⟩)) ?k ?hl ?hD ?ha ?hb ?_
  case m1 => k_mem
  case m2 => k_mem
  case m3 => (intro p hp; simp [hp])
  case k => rfl
  case hl => k_ne
  case hD => k_all
  all_goals (try simp only [pow18, fdivE, fmodE, absv (show 0 ≤ v by omega)])
  case ha => exact zfill_len (by omega) (by omega)
  case hb => exact num_len (by omega) (by omega)
  intro t' h' tk' F' N'
  clear kF kN
  k_steps
  all_goals (refine' ret_sN hret ?e ?f ?n ?s; (case f => k_asm); (case n => assumption); (case s => (intro _ hp; first | exact hp | exact List.mem_append_left _ hp | exact List.mem_cons_of_mem _ hp | (simp only [List.mem_append, List.mem_cons]; simp [hp]; done))); (case e => (refine Eq.symm ?_; exact (number_join' h0).symm)))
example : True := by k_with_none; (k_with "x_k_room" => ((try simp (config := {zetaDelta := true}) only [depth_under_make, depth_under_kw, depth_in1, depth_deeper, depth_caller]); (try dsimp only [ktrTop]); (first | (refine' rm0 ?ha_q17; (case ha_q17 => assumption)) | (refine' rm1 ?ha_q17 ?hb_q17; (case ha_q17 => assumption); (case hb_q17 => exact rfl)) | (refine' rm2 ?ha_q17 ?hb_q17; (case ha_q17 => assumption); (case hb_q17 => exact rfl)) | (refine' rm3 ?ha_q17 ?hb_q17; (case ha_q17 => assumption); (case hb_q17 => exact rfl)) | (refine' rm4 ?ha_q17 ?hb_q17; (case ha_q17 => assumption); (case hb_q17 => exact rfl)) | omega))); (k_with "x_ktr_units" => ((try simp (config := {zetaDelta := true}) only [units_under_make, units_in1, units_deeper, Around.mark_units, units_caller]); (try dsimp only [ktrTop]); (first | (refine' rm0 ?ha_q18; (case ha_q18 => assumption)) | (refine' rm1 ?ha_q18 ?hb_q18; (case ha_q18 => assumption); (case hb_q18 => exact rfl)) | (refine' rm2 ?ha_q18 ?hb_q18; (case ha_q18 => assumption); (case hb_q18 => exact rfl)) | (refine' rm3 ?ha_q18 ?hb_q18; (case ha_q18 => assumption); (case hb_q18 => exact rfl)) | (refine' rm4 ?ha_q18 ?hb_q18; (case ha_q18 => assumption); (case hb_q18 => exact rfl)) | omega))); (k_with "execs cons" => (k_here; (with_reducible refine sq_tok ?_); intro tk')); (k_with "subscriptTail Name Constant ref int" => (k_here; (with_reducible show wpAny _ _ (subscriptTail _ _ (Value.ref _) (Value.int _ _)) _ _ _); k_dflt (first | (refine' item_tupleT ?t_q20 ?a_q20 ?b_q20 ?c_q20 ?d_q20 ?_; (case t_q20 => (refine' News.isTup ?t1_q20 ?t2_q20; (case t1_q20 => k_asm); (case t2_q20 => k_mem))); (case a_q20 => decide); (case b_q20 => decide); (case c_q20 => rfl); (case d_q20 => rfl); k_whole) | (refine' c_item_lit ?N_q20 ?m_q20 ?a2_q20 ?b2_q20 ?d2_q20 ?_; (case N_q20 => k_asm); (case m_q20 => k_mem); (case a2_q20 => decide); (case b2_q20 => decide); (case d2_q20 => rfl); k_whole)))); (k_with "eval Call Name" => (k_here; with_unfolding_all refine Call_ ?_)); (k_with "x_k_all" => first | assumption | exact List.forall_mem_nil _ | (refine' List.forall_mem_append.mpr ⟨?_, ?_⟩; (focus k_all); k_all) | (refine' List.forall_mem_cons.mpr ⟨?_, ?_⟩; (focus k_ne); k_all) | exact allNeP (by assumption) | (refine' Above.off ?hA_q22 ?hM_q22; (case hA_q22 => assumption); (case hM_q22 => k_mem)) | (refine' alt_all ?lh_q22 ?ls_q22; (case lh_q22 => assumption); (case ls_q22 => k_allIn)) | exact allNe0 (by assumption) | exact allNe1 (by assumption) | exact allNe2 (by assumption) | exact allNe3 (by assumption) | exact allNe4 (by assumption) | exact allNe5 (by assumption) | exact allNe6 (by assumption)); (k_with "x_k_ne" => first | assumption | (refine' alt_ne1 ?lh_q23 ?lm_q23; (case lh_q23 => assumption); (case lm_q23 => k_mem)) | (refine' alt_ne2 ?lh_q23 ?lm_q23; (case lh_q23 => assumption); (case lm_q23 => k_mem)) | (refine' alt_ne3 ?lx_q23 ?lh_q23 ?lm_q23; (case lx_q23 => assumption); (case lh_q23 => assumption); (case lm_q23 => k_mem)) | (refine' alt_ne4 ?lx_q23 ?lh_q23 ?lm_q23; (case lx_q23 => assumption); (case lh_q23 => assumption); (case lm_q23 => k_mem)) | (refine' Ne.symm ?_; assumption) | (refine neN ?_; refine' Ne.symm ?_; assumption) | (refine neN ?_; (try dsimp only); omega) | (refine' news_ne_cls ?nN_q23 ?n1_q23 ?n2_q23 ?n3_q23; (case nN_q23 => assumption); (case n1_q23 => k_mem); (case n2_q23 => k_mem); (case n3_q23 => (intro e9; exact absurd (Value.type.inj e9) (by decide)))) | (refine neN ?_; (try dsimp only); (simp only [List.forall_mem_cons] at *); omega)); (k_with "x_k_mem" => first | assumption | exact List.mem_cons_self | (refine' List.mem_cons_of_mem _ ?_; k_mem) | (refine' List.mem_append_left _ ?_; k_mem) | (refine' List.mem_append_right _ ?_; k_mem)); (k_with "x_k_upd" => first | exact Pull.head | (refine' Pull.tail ?b_q25; (case b_q25 => k_upd)) | (refine' Pull.under _ ?b_q25; (case b_q25 => k_upd))); (k_with "x_k_allIn" => first | assumption | (intro p9 h9; k_mem) | (refine' List.forall_mem_append.mpr ⟨?_, ?_⟩; (focus k_allIn); k_allIn) | exact List.forall_mem_nil _ | exact sub_l (by assumption)); (k_with "x_k_enter" => first | ktr_enter | (refine' code_def ?k1_q27 ?k2_q27 ?k3_q27 ?k4_q27 ?k5_q27 ?kA_q27 ?kF_q27 ?kK_q27 ?k6_q27 ?k7_q27 ?k8_q27 ?k9_q27 ?kB_q27 ?_ ?c2_q27 ?c3_q27 ?c4_q27 ?c5_q27; (case kA_q27 => exact rfl); (case kF_q27 => exact rfl); (case kK_q27 => first | exact rfl | assumption); (case k1_q27 => k_asm); (case k2_q27 => k_asm); (case k3_q27 => k_asm); (case k4_q27 => k_asm); (case k5_q27 => k_asm); (case k6_q27 => k_is); (case k7_q27 => k_is); (case k8_q27 => ktr_room); (case k9_q27 => exact binds_K (by k_in) rfl (by k_is) rfl rfl rfl); (case c5_q27 => decide); (case kB_q27 => exact locs rfl); (case c2_q27 => exact rfl); (case c3_q27 => exact rfl); (case c4_q27 => exact rfl); k_whole; intro g' L' h' FG' F' N' B' X' T'; (try dsimp only); (try k_fold))); exact trivial
end
end
section
noncomputable abbrev bookD (w : World) (t1 t2 t3 t4 : Tok) (tx an fu fn : Addr) : Obj := dictOf [⟨PyData.keyHash w.params (Str.ofString "texts"), .str (Str.ofString "texts") t1, .ref tx⟩, ⟨PyData.keyHash w.params (Str.ofString "atom_numbers"), .str (Str.ofString "atom_numbers") t2, .ref an⟩, ⟨PyData.keyHash w.params (Str.ofString "functors"), .str (Str.ofString "functors") t3, .ref fu⟩, ⟨PyData.keyHash w.params (Str.ofString "functor_numbers"), .str (Str.ofString "functor_numbers") t4, .ref fn⟩] 4
noncomputable def ATab (prog : Program) (w : World) (o : Obj) (xs : List Str) : Prop := ∃ kvs, o.IsDictOf (PySem.strKind prog w) kvs ∧ kvs.map (·.1) = xs ∧ ∀ (i : Nat) v, (kvs.map (·.2))[i]? = some v → ∃ t, v = .int i t
noncomputable def addA (xs : List Str) (x : Str) : List Str := if x ∈ xs then xs else xs ++ [x]
section
variable {prog : Program} {w : World}
theorem ATab.nodup {o : Obj} {xs : List Str} (h : ATab prog w o xs) : xs.Nodup := by
  obtain ⟨kvs, ⟨es, ep, _, _, _, _, hn⟩, rfl, _⟩ := h; exact hn
theorem ATab.get {kvs : List (Str × Value)} {x : Str} {i : Nat} (hn : (kvs.map (·.1)).Nodup) (hv : ∀ (i : Nat) v, (kvs.map (·.2))[i]? = some v → ∃ t, v = .int i t) (hx : (kvs.map (·.1))[i]? = some x) : ∃ t, valueAt kvs x = some (.int i t) := by
  rw [List.getElem?_map] at hx
  cases he : kvs[i]? with
  | none => rw [he] at hx; cases hx
  | some p =>
    rw [he] at hx
    obtain ⟨k, v⟩ := p
    obtain rfl : k = x := Option.some.inj hx
    obtain ⟨t, rfl⟩ := hv i v (by rw [List.getElem?_map, he]; rfl)
    exact ⟨t, valueAt_of_get hn he⟩
theorem ATab.store {o : Obj} {kvs : List (Str × Value)} {x : Str} {t : Tok} {n : Nat} (hx : x ∉ kvs.map (·.1)) (hv : ∀ (i : Nat) v, (kvs.map (·.2))[i]? = some v → ∃ t, v = .int i t) (hn : n = kvs.length) (ho : o.IsDictOf (PySem.strKind prog w) (stored kvs x (.int (n : Int) t))) : ATab prog w o (kvs.map (·.1) ++ [x]) := by
  have e : stored kvs x (.int (n : Int) t) = kvs ++ [(x, .int (n : Int) t)] := by
    unfold stored
    rw [if_neg]
    intro h
    obtain ⟨p, hp, e⟩ := List.any_eq_true.mp h
    exact hx (List.mem_map.mpr ⟨p, hp, of_decide_eq_true e⟩)
  rw [e] at ho
  refine ⟨_, ho, by simp, fun i v hi => ?_⟩
  rw [List.map_append] at hi
  by_cases h : i < kvs.length
  · rw [List.getElem?_append_left (by simpa using h)] at hi
    exact hv i v hi
  · rw [List.getElem?_append_right (by simpa using h)] at hi
    have h2 : i - kvs.length = 0 := by
      rcases Nat.eq_zero_or_pos (i - kvs.length) with h2 | h2
      · exact h2
      · rw [List.getElem?_eq_none (by simp; omega)] at hi; cases hi
    simp [h2] at hi
    have : i = n := by omega
    subst this
    exact ⟨t, hi.symm⟩
end
section
variable {prog : Program} {w : World} {K : Type} [DecidableEq K] {knd : KeyKind prog w K} {A : Around} {E : Value → Shared → Prop} {s : Shared} {h₀ : Heap} {L d : Addr} {m : Str → Option Value} {news : List (Addr × Obj)} {o : Obj} {kvs : List (K × Value)} {k : K} {key v dflt : Value}
theorem gm_dict_get {pl : Sem Bool} {Q : Value × List Value → Shared → Prop} (N : News h₀ L s.heap news) (hm : (d, o) ∈ news) (hd : o.IsDictOf knd kvs) (h : Q (.builtin "dict.get", [.ref d]) s) : wpAny (model prog w) A (getMethod (.ref d) "get" pl) Q E s :=
  have hD := kda_dict N hm hd
  getMethod_builtin hD.typeIs PySem.F.plainAttrs_dict PySem.F.slot_dict_get PySem.F.type_dict_get hD.mapOf.noDict h
theorem c_dict_get_hit {Q : Value → Shared → Prop} (N : News h₀ L s.heap news) (hm : (d, o) ∈ news) (lo : (d == sysModules) = false) (hd : o.IsDictOf knd kvs) (hkey : knd.is k key = true) (hv : valueAt kvs k = some v) (h : Q v { s with toks := s.toks + 1 }) :
    wpAny (model prog w) A (call (.builtin "dict.get") [.ref d, key, dflt]) Q E s := by
  have hD := kda_dict N hm hd
  exact call_meetsIn PySem.F.slot_dict_get hD.typeIs PySem.F.entry_dict_get (PySem.F.args_dict_get_3 _ _ _) (meets_dict_get_default knd d hkey lo dflt) ⟨_, hD.mapOf, by rw [hv]; exact h⟩
theorem c_dict_get_miss {Q : Value → Shared → Prop} (N : News h₀ L s.heap news) (hm : (d, o) ∈ news) (lo : (d == sysModules) = false) (hd : o.IsDictOf knd kvs) (hkey : knd.is k key = true) (hv : valueAt kvs k = none) (h : Q dflt { s with toks := s.toks + 1 }) :
    wpAny (model prog w) A (call (.builtin "dict.get") [.ref d, key, dflt]) Q E s := by
  have hD := kda_dict N hm hd
  exact call_meetsIn PySem.F.slot_dict_get hD.typeIs PySem.F.entry_dict_get (PySem.F.args_dict_get_3 _ _ _) (meets_dict_get_default knd d hkey lo dflt) ⟨_, hD.mapOf, by rw [hv]; exact h⟩
theorem c_dict_get1_miss {Q : Value → Shared → Prop} (N : News h₀ L s.heap news) (hm : (d, o) ∈ news) (lo : (d == sysModules) = false) (hd : o.IsDictOf knd kvs) (hkey : knd.is k key = true) (hv : valueAt kvs k = none) (h : Q .none { s with toks := s.toks + 1 }) :
    wpAny (model prog w) A (call (.builtin "dict.get") [.ref d, key]) Q E s := by
  have hD := kda_dict N hm hd
  exact call_meetsIn PySem.F.slot_dict_get hD.typeIs PySem.F.entry_dict_get (PySem.F.args_dict_get_2 _ _) (meets_dict_get knd d hkey lo) ⟨_, hD.mapOf, by rw [hv]; exact h⟩
theorem c_len_list {its : List Value} {n : Nat} {Q : Value → Shared → Prop} (N : News h₀ L s.heap news) (hm : (d, listOf its.toArray n) ∈ news) (hsz : its.length ≤ 1000000) (h : Q (.int its.length (s.toks + 1)) { s with toks := s.toks + 1 + 1 }) :
    wpAny (model prog w) A (call (.builtin "len") [.ref d]) Q E s := by
  have e : its.toArray.size = its.length := List.size_toArray
  exact call_len_list (News.isList N hm) (by rw [e]; omega) (by rw [e]; exact h)
end
theorem sub_l {a b c : List (Addr × Obj)} (h : ∀ p ∈ a, p ∈ b) : ∀ p ∈ a, p ∈ b ++ c := fun p hp => List.mem_append_left _ (h p hp)
inductive Pull (d : Addr) (o : Obj) : List (Addr × Obj) → List (Addr × Obj) → Prop
  | head {r} : Pull d o ((d, o) :: r) r
  | tail {p r r'} : Pull d o r r' → Pull d o (p :: r) (p :: r')
theorem Pull.sub {d : Addr} {o : Obj} {l r : List (Addr × Obj)} (h : Pull d o l r) : ∀ p ∈ (d, o) :: r, p ∈ l := by
  induction h with
  | head => exact fun _ hp => hp
  | tail _ ih =>
    intro q hq
    rcases List.mem_cons.mp hq with rfl | hq
    · exact .tail _ (ih _ (.head _))
    · rcases List.mem_cons.mp hq with rfl | hq
      · exact .head _
      · exact .tail _ (ih _ (.tail _ hq))
theorem Pull.news {h₀ h : Heap} {L d : Addr} {o : Obj} {l r pre : List (Addr × Obj)} (P : Pull d o l r) (N : News h₀ L h (pre ++ l)) : News h₀ L h (pre ++ (d, o) :: r) := fun p hp => by
  rcases List.mem_append.mp hp with hp | hp
  · exact N p (List.mem_append_left _ hp)
  · exact N p (List.mem_append_right _ (P.sub p hp))
theorem Pull.under {d : Addr} {o : Obj} {l r : List (Addr × Obj)} : ∀ (tl : List (Addr × Obj)), Pull d o l r → Pull d o (tl ++ l) (tl ++ r)
  | [], h => h
  | _ :: tl, h => .tail (Pull.under tl h)
theorem pull4 {h₀ h : Heap} {L a b c d : Addr} {oa ob oc od : Obj} {l r1 r2 r3 r4 : List (Addr × Obj)} (N : News h₀ L h l) (P1 : Pull a oa l r1) (P2 : Pull b ob r1 r2) (P3 : Pull c oc r2 r3) (P4 : Pull d od r3 r4) : News h₀ L h ((a, oa) :: (b, ob) :: (c, oc) :: (d, od) :: r4) :=
  Pull.news (pre := [(a, oa), (b, ob), (c, oc)]) P4 (Pull.news (pre := [(a, oa), (b, ob)]) P3 (Pull.news (pre := [(a, oa)]) P2 (Pull.news (pre := []) P1 N)))
noncomputable abbrev FRow := List Int × Addr × Value
noncomputable def FTab (prog : Program) (w : World) (o : Obj) (rows : List FRow) : Prop := ∃ es ep, o.ExactDict ∧ o.data = .dict es ep ∧ es.toList = rows.map (entryOfKey (tupleKind (PySem.intKind prog w))) ∧ (rows.map (·.1)).Nodup
noncomputable abbrev tupO (l : List Value) (c : Nat) : Obj := { cls := .type "tuple", data := .seq l.toArray c }
noncomputable def FKeys (rest : List (Addr × Obj)) (rows : List FRow) : Prop := ∀ x ∈ rows, ∃ (a n : Int) (t u : Tok) (c : Nat), x.1 = [a, n] ∧ (x.2.1, tupO [.int a t, .int n u] c) ∈ rest
noncomputable def FIdx (rows : List FRow) : Prop := ∀ (i : Nat) x, rows[i]? = some x → ∃ t, x.2.2 = .int i t
theorem tupKey2 {prog : Program} {w : World} {a n : Int} {t u : Tok} {c : Nat} : TupKeyObj (PySem.intKind prog w) [a, n] (tupO [.int a t, .int n u] c) :=
  ⟨rfl, _, _, rfl, .cons (intKind_is prog w a t) (.cons (intKind_is prog w n u) .nil)⟩
section
variable {prog : Program} {w : World} {A : Around} {E : Value → Shared → Prop} {s : Shared} {h₀ h : Heap} {L d ka : Addr} {m : Str → Option Value} {news rest : List (Addr × Obj)} {o : Obj} {rows : List FRow} {a n : Int} {t u : Tok} {c : Nat} {dflt : Value}
theorem FTab.at (N : News h₀ L h news) (hm : (d, o) ∈ news) (hf : FTab prog w o rows) (hk : FKeys rest rows) (hs : ∀ p ∈ rest, p ∈ news) : h.DictOfH (tupleKind (PySem.intKind prog w)) d rows := by
  obtain ⟨es, ep, h1, h2, h3, h4⟩ := hf
  refine ⟨o, es, ep, N.get hm, h1, h2, h3, fun x hx => ?_, h4⟩
  obtain ⟨a, n, t, u, c, e, hmk⟩ := hk x hx
  rw [e]
  exact tupKey2.key (N.get (hs _ hmk))
theorem gm_dict_getH {pl : Sem Bool} {Q : Value × List Value → Shared → Prop} (N : News h₀ L s.heap news) (hm : (d, o) ∈ news) (hf : FTab prog w o rows) (hk : FKeys rest rows) (hs : ∀ p ∈ rest, p ∈ news) (h : Q (.builtin "dict.get", [.ref d]) s) : wpAny (model prog w) A (getMethod (.ref d) "get" pl) Q E s :=
  have hD := FTab.at N hm hf hk hs
  getMethod_builtin hD.typeIs PySem.F.plainAttrs_dict PySem.F.slot_dict_get PySem.F.type_dict_get (dictOfH_noDict hD) h
theorem c_dict_getH {Q : Value → Shared → Prop} (N : News h₀ L s.heap news) (hu : A.units + 1 < cLine) (hm : (d, o) ∈ news) (lo : (d == sysModules) = false) (hf : FTab prog w o rows) (hk : FKeys rest rows) (hs : ∀ p ∈ rest, p ∈ news)
    (hka : (ka, tupO [.int a t, .int n u] c) ∈ news) (h : Q (((atKey rows [a, n]).map (·.2)).getD dflt) { s with toks := s.toks + 3 }) :
    wpAny (model prog w) A (call (.builtin "dict.get") [.ref d, .ref ka, dflt]) Q E s :=
  have hD := FTab.at (prog := prog) (w := w) N hm hf hk hs
  call_meetsIn PySem.F.slot_dict_get hD.typeIs PySem.F.entry_dict_get (PySem.F.args_dict_get_3 _ _ _) (meetsH_dict_get_default _ d ka lo dflt) ⟨tupleKind_room_in1 hu, [a, n], rows, tupKey2.key (N.get hka), hD, h⟩
theorem c_dict_getH_hit {v : Value} {p : Addr × Value} {Q : Value → Shared → Prop} (N : News h₀ L s.heap news) (hu : A.units + 1 < cLine) (hm : (d, o) ∈ news) (lo : (d == sysModules) = false) (hf : FTab prog w o rows) (hk : FKeys rest rows) (hs : ∀ p ∈ rest, p ∈ news)
    (hka : (ka, tupO [.int a t, .int n u] c) ∈ news) (hp : atKey rows [a, n] = some p) (hv : p.2 = v) (h : Q v { s with toks := s.toks + 3 }) :
    wpAny (model prog w) A (call (.builtin "dict.get") [.ref d, .ref ka, dflt]) Q E s := c_dict_getH N hu hm lo hf hk hs hka (by rw [hp]; subst hv; exact h)
theorem c_dict_getH_miss {Q : Value → Shared → Prop} (N : News h₀ L s.heap news) (hu : A.units + 1 < cLine) (hm : (d, o) ∈ news) (lo : (d == sysModules) = false) (hf : FTab prog w o rows) (hk : FKeys rest rows) (hs : ∀ p ∈ rest, p ∈ news)
    (hka : (ka, tupO [.int a t, .int n u] c) ∈ news) (hp : atKey rows [a, n] = none) (h : Q dflt { s with toks := s.toks + 3 }) :
    wpAny (model prog w) A (call (.builtin "dict.get") [.ref d, .ref ka, dflt]) Q E s := c_dict_getH N hu hm lo hf hk hs hka (by rw [hp]; exact h)
theorem c_setItemH {v : Value} {g : Obj → List (Addr × Obj)} {Q : Unit → Shared → Prop} (F : Fr h₀ L s.heap m) (N : News h₀ L s.heap news) (U : UpdF d o news g) (hu : A.units + 1 < cLine) (hf : FTab prog w o rows) (hk : FKeys rest rows) (hs : ∀ p ∈ rest, p ∈ news)
    (hka : (ka, tupO [.int a t, .int n u] c) ∈ news) (hsz : rows.length ≤ sizeLine)
    (h : ∀ h' o', Fr h₀ L h' m → News h₀ L h' (g o') → FTab prog w o' (storedH rows [a, n] ka v) → Q () { s with heap := h', toks := s.toks + 3 }) :
    wpAny (model prog w) A (setItem (.ref d) (.ref ka) v) Q E s := by
  obtain ⟨pre, post, rfl, hg, ha, hb⟩ := U.split
  have hm : (d, o) ∈ pre ++ (d, o) :: post := List.mem_append_right _ (.head _)
  have hD := FTab.at (prog := prog) (w := w) N hm hf hk hs
  refine wpAny_setItem_heap (hsz := hsz) (knd := tupleKind (PySem.intKind prog w)) (tupleKind_room_in1 hu) (tupKey2.key (N.get hka)) hD fun h' hm' hs' => ?_
  obtain ⟨o', es', ep', ho', hc', hd', he', _, hn'⟩ := hm'
  exact h h' o' (F.change hs' (N _ hm).2.1 (N.fresh hm)) (hg o' ▸ N.setIn ha hb hs' ho') ⟨es', ep', hc', hd', he', hn'⟩
end
noncomputable def Above (l tl : List (Addr × Obj)) : Prop := ∀ q ∈ l, ∀ p ∈ tl, q.1 < p.1
theorem Above.off {d : Addr} {o : Obj} {l tl : List (Addr × Obj)} (h : Above l tl) (hm : (d, o) ∈ l) : ∀ p ∈ tl, p.1 ≠ d := fun p hp => Nat.ne_of_gt (h _ hm p hp)
theorem Above.nil {l : List (Addr × Obj)} : Above l [] := fun _ _ _ hp => nomatch hp
theorem Above.one {l : List (Addr × Obj)} {p : Addr × Obj} (h : ∀ q ∈ l, q.1 < p.1) : Above l [p] := fun q hq r hr => by rw [List.mem_singleton.mp hr]; exact h q hq
theorem allLt0 {d : Addr} {r : List (Addr × Obj)} (h : AllLt d r) : ∀ p ∈ r, p.1 < d := tb_ltOf h
theorem allLt1 {d : Addr} {r : List (Addr × Obj)} {a : Prop} (h : a ∧ AllLt d r) : ∀ p ∈ r, p.1 < d := tb_ltOf h.2
theorem allLt2 {d : Addr} {r : List (Addr × Obj)} {a b : Prop} (h : a ∧ b ∧ AllLt d r) : ∀ p ∈ r, p.1 < d := tb_ltOf h.2.2
theorem allLt3 {d : Addr} {r : List (Addr × Obj)} {a b c : Prop} (h : a ∧ b ∧ c ∧ AllLt d r) : ∀ p ∈ r, p.1 < d := tb_ltOf h.2.2.2
theorem allLt4 {d : Addr} {r : List (Addr × Obj)} {a b c e : Prop} (h : a ∧ b ∧ c ∧ e ∧ AllLt d r) : ∀ p ∈ r, p.1 < d := tb_ltOf h.2.2.2.2
noncomputable def addF (fs : List (List Int)) (k : List Int) : List (List Int) := if k ∈ fs then fs else fs ++ [k]
structure BookS (prog : Program) (w : World) (rest : List (Addr × Obj)) (oTx oAn oFu oFn : Obj) (xs : List Str) (fs : List (List Int)) (K : Nat) : Prop where
  sz : xs.length + fs.length ≤ K
  tx : ∃ its n, oTx = listOf its.toArray n ∧ StrsAre its xs
  an : ATab prog w oAn xs
  fu : ∃ (rows : List FRow) (n : Nat), oFu = listOf (rows.map fun r => Value.ref r.2.1).toArray n ∧ FTab prog w oFn rows ∧ FKeys rest rows ∧ FIdx rows ∧ rows.map (·.1) = fs
structure BookR (w : World) (rest : List (Addr × Obj)) (b bd tx an fu fn : Addr) (t1 t2 t3 t4 : Tok) : Prop where
  hb : (b, instObj 122 bd) ∈ rest
  hbd : (bd, bookD w t1 t2 t3 t4 tx an fu fn) ∈ rest
  lo1 : (an == sysModules) = false
  lo2 : (fn == sysModules) = false
  n1 : @Ne Nat tx an
  n2 : @Ne Nat tx fu
  n3 : @Ne Nat tx fn
  n4 : @Ne Nat an fu
  n5 : @Ne Nat an fn
  n6 : @Ne Nat fu fn
  o1 : ∀ p ∈ rest, p.1 ≠ tx
  o2 : ∀ p ∈ rest, p.1 ≠ an
  o3 : ∀ p ∈ rest, p.1 ≠ fu
  o4 : ∀ p ∈ rest, p.1 ≠ fn
theorem BookR.mono {w : World} {rest rest' : List (Addr × Obj)} {b bd tx an fu fn : Addr} {t1 t2 t3 t4 : Tok} (h : BookR w rest b bd tx an fu fn t1 t2 t3 t4) (hs : ∀ p ∈ rest, p ∈ rest') (o1 : ∀ p ∈ rest', p.1 ≠ tx) (o2 : ∀ p ∈ rest', p.1 ≠ an) (o3 : ∀ p ∈ rest', p.1 ≠ fu) (o4 : ∀ p ∈ rest', p.1 ≠ fn) :
    BookR w rest' b bd tx an fu fn t1 t2 t3 t4 := ⟨hs _ h.hb, hs _ h.hbd, h.lo1, h.lo2, h.n1, h.n2, h.n3, h.n4, h.n5, h.n6, o1, o2, o3, o4⟩
theorem FKeys.mono {rest rest' : List (Addr × Obj)} {rows : List FRow} (h : FKeys rest rows) (hs : ∀ p ∈ rest, p ∈ rest') : FKeys rest' rows := fun x hx => let ⟨a, n, t, u, c, e, hm⟩ := h x hx; ⟨a, n, t, u, c, e, hs _ hm⟩
theorem BookS.mono {prog : Program} {w : World} {rest rest' : List (Addr × Obj)} {oTx oAn oFu oFn : Obj} {xs : List Str} {fs : List (List Int)} {K : Nat} (h : BookS prog w rest oTx oAn oFu oFn xs fs K) (hs : ∀ p ∈ rest, p ∈ rest') : BookS prog w rest' oTx oAn oFu oFn xs fs K :=
  ⟨h.sz, h.tx, h.an, let ⟨rows, n, a, b, c, d, e⟩ := h.fu; ⟨rows, n, a, b, c.mono hs, d, e⟩⟩
theorem row_at {rows : List FRow} {k : List Int} (hn : (rows.map (·.1)).Nodup) (hi : FIdx rows) (hk : k ∈ rows.map (·.1)) : ∃ (i : Nat) (t : Tok) (p : Addr × Value), atKey rows k = some p ∧ p.2 = .int i t ∧ (rows.map (·.1))[i]? = some k := by
  obtain ⟨x, hx, rfl⟩ := List.mem_map.mp hk
  obtain ⟨i, hi'⟩ := List.mem_iff_getElem?.mp hx
  obtain ⟨t, ht⟩ := hi i x hi'
  exact ⟨i, t, x.2, atKey_of_get hn (p := x.2) (by rw [hi']), ht, by rw [List.getElem?_map, hi']; rfl⟩
theorem row_no {rows : List FRow} {k : List Int} (hk : k ∉ rows.map (·.1)) : atKey rows k = none :=
  atKey_none_of_get fun j p e => hk (List.mem_map.mpr ⟨(k, p), List.mem_of_getElem? e, rfl⟩)
theorem row_new {rows : List FRow} {k : List Int} {ka : Addr} {t : Tok} (hi : FIdx rows) : FIdx (rows ++ [(k, ka, Value.int rows.length t)]) := by
  intro i x h
  by_cases hl : i < rows.length
  · rw [List.getElem?_append_left hl] at h; exact hi i x h
  · rw [List.getElem?_append_right (by omega)] at h
    have : i - rows.length = 0 := by
      rcases Nat.eq_zero_or_pos (i - rows.length) with h2 | h2
      · exact h2
      · rw [List.getElem?_eq_none (by simp; omega)] at h; cases h
    have e : i = rows.length := by omega
    subst e
    simp at h
    exact ⟨t, by rw [← h]⟩
theorem BookS.le {prog : Program} {w : World} {rest : List (Addr × Obj)} {oTx oAn oFu oFn : Obj} {xs : List Str} {fs : List (List Int)} {K K' : Nat} (h : BookS prog w rest oTx oAn oFu oFn xs fs K) (hk : K ≤ K') : BookS prog w rest oTx oAn oFu oFn xs fs K' := ⟨Nat.le_trans h.sz hk, h.tx, h.an, h.fu⟩
theorem addA_len (xs : List Str) (x : Str) : (addA xs x).length ≤ xs.length + 1 := by
  unfold addA; split <;> simp
theorem addF_len (xs : List (List Int)) (x : List Int) : (addF xs x).length ≤ xs.length + 1 := by
  unfold addF; split <;> simp
theorem Above.same {l l' tl : List (Addr × Obj)} (h : Above l tl) (e : l.map (·.1) = l'.map (·.1)) : Above l' tl := fun q hq p hp => by
  have : q.1 ∈ l.map (·.1) := by rw [e]; exact List.mem_map_of_mem hq
  obtain ⟨q', hq', e'⟩ := List.mem_map.mp this
  rw [← e']; exact h q' hq' p hp
theorem Above.sub {l l' tl : List (Addr × Obj)} (h : Above l tl) (e : ∀ p ∈ l', p.1 ∈ l.map (·.1)) : Above l' tl := fun q hq p hp => by
  obtain ⟨q', hq', e'⟩ := List.mem_map.mp (e q hq)
  rw [← e']; exact h q' hq' p hp
theorem Above.append {l t1 t2 : List (Addr × Obj)} (h1 : Above l t1) (h2 : Above l t2) : Above l (t1 ++ t2) := fun q hq p hp => (List.mem_append.mp hp).elim (h1 q hq p) (h2 q hq p)
theorem Above.cons {l t : List (Addr × Obj)} {p : Addr × Obj} (h1 : ∀ q ∈ l, q.1 < p.1) (h2 : Above l t) : Above l (p :: t) := fun q hq r hr => (List.mem_cons.mp hr).elim (fun e => e ▸ h1 q hq) (h2 q hq r)
section
variable {prog : Program} {w : World} {A : Around} {E : Value → Shared → Prop} {s : Shared} {h₀ : Heap} {L l : Addr} {news : List (Addr × Obj)} {its : List Value} {n i : Nat} {v : Value} {u : Tok} {Q : Value → Shared → Prop}
theorem c_item_list {value slice : PySem.Expr} (N : News h₀ L s.heap news) (hm : (l, listOf its.toArray n) ∈ news) (hx : its[i]? = some v) (hi : i < 2 ^ 62) (h : Q v s)
    (hs : subscripted slice false (.ref l) (.int (i : Nat) u) = operate [.ref l, .int (i : Nat) u] (getItem (.ref l) (.int (i : Nat) u)) := by with_unfolding_all rfl) :
    wpAny (model prog w) A (subscriptTail value slice (.ref l) (.int (i : Nat) u)) Q E s := by
  have hL : s.heap.IsList l its.toArray := News.isList N hm
  exact tail_any hL.typeIs slot_list_getitem.lookup (wpAny_getItem_list hL (by omega) (by omega) (by simpa using hx) h) hs
end
end
section
section
local macro_rules | `(tactic| k_enter) => `(tactic| ktr_enter)
example : True := by (k_with "getMethod ref" => (k_here; (with_reducible show wpAny _ _ (getMethod (Value.ref _) "get" _) _ _ _); k_dflt (refine' gm_dict_get ?N_q31 ?m_q31 ?d_q31 ?_; (case N_q31 => k_asm); (case m_q31 => k_mem); (case d_q31 => assumption); k_whole))); exact trivial
example : True := by (k_with "call builtin:dict.get" => (k_here; k_dflt (first | (refine' c_dict_get_hit (knd := PySem.strKind _ _) ?N_q32 ?m_q32 ?lo_q32 ?d_q32 (strKind_is _ _ _ _) ?v_q32 ?_; (case N_q32 => k_asm); (case m_q32 => k_mem); (case lo_q32 => assumption); (case d_q32 => assumption); (case v_q32 => assumption); k_whole) | (refine' c_dict_get_miss (knd := PySem.strKind _ _) ?N_q32 ?m_q32 ?lo_q32 ?d_q32 (strKind_is _ _ _ _) ?v_q32 ?_; (case N_q32 => k_asm); (case m_q32 => k_mem); (case lo_q32 => assumption); (case d_q32 => assumption); (case v_q32 => assumption); k_whole)))); exact trivial
example : True := by (k_with "call builtin:len" => (k_here; k_dflt (refine' c_len_list ?N_q33 ?m_q33 ?z_q33 ?_; (case N_q33 => k_asm); (case m_q33 => k_mem); (case z_q33 => assumption); k_whole))); exact trivial
example : True := by (k_with "setItem ref str" => (k_here; k_dflt (refine' kda_set (knd := PySem.strKind _ _) ?F_q34 ?N_q34 ?U_q34 ?d_q34 (strKind_is _ _ _ _) ?z_q34 ?_; (case F_q34 => k_asm); (case N_q34 => k_asm); (case U_q34 => k_updF); (case d_q34 => assumption); (case z_q34 => assumption)); intro h' o' F' N' hd'; (try dsimp only at N'); (try k_sweep))); exact trivial
variable {w : World} {p : Program} {loose : List Str} {mean : ExcName → Option Value} {mg mb : Str → Option Value} {dp un : Nat} {gd : Option (List Code)} {cn : Str} {cs : Scope} {a : Addr} {ccd : Value} {cl : List (Str × Addr)} {outer : List Env} {A₀ : Around} {base h₀ : Heap} {L : Addr} {m : Str → Option Value} {s : Shared} {Q E : Value → Shared → Prop} {news rest : List (Addr × Obj)}
theorem atom_hit {b bd tx an fu fn : Addr} {t1 t2 t3 t4 : Tok} {oAn : Obj} {kvs : List (Str × Value)} {x : Str} {i : Nat} {t : Tok} {tk : Tok} (B : Below A₀ base outer h₀) (F : Fr h₀ L s.heap m) (X : (Mine.kk.heap_1 w.params).In h₀) (T : Top p loose mean mg mb h₀) (hk : cs.kind = .function) (hd : dp + 5 < recursionLimit) (hu : un + 60 < cLine) (N : News h₀ L s.heap ((an, oAn) :: rest))
  (hb : (b, instObj 122 bd) ∈ rest) (hbd : (bd, bookD w t1 t2 t3 t4 tx an fu fn) ∈ rest) (lo : (an == sysModules) = false)
  (hA : oAn.IsDictOf (PySem.strKind PySem.Challenge.rw_ok0024_01.row.prog w) kvs) (hv : valueAt kvs x = some (.int i t))
  (hret : ∀ h' tk', Fr h₀ L h' m → News h₀ L h' ((an, oAn) :: rest) → Q (.int i t) { s with heap := h', toks := tk' }) :
  wpAny (model PySem.Challenge.rw_ok0024_01.row.prog w) (ktrTop dp un gd cn cs L a ccd cl outer) (call (.ref 56) [.ref b, .str x tk]) Q E s := by
  revert X; k_fill; intro X
  refine wpAny_call ?_
  k_dflt k_enter
  (refine sq_A ?_; intro A9)
  k_steps
  all_goals exact hret _ _ (by k_asm) (by k_asm)
theorem atom_miss {b bd tx an fu fn : Addr} {t1 t2 t3 t4 : Tok} {its : List Value} {n : Nat} {oAn : Obj} {kvs : List (Str × Value)} {x : Str} {i : Nat} {tk : Tok} (B : Below A₀ base outer h₀) (F : Fr h₀ L s.heap m) (X : (Mine.kk.heap_1 w.params).In h₀) (T : Top p loose mean mg mb h₀) (hk : cs.kind = .function) (hd : dp + 5 < recursionLimit) (hu : un + 60 < cLine) (N : News h₀ L s.heap ((tx, listOf its.toArray n) :: (an, oAn) :: rest))
  (hb : (b, instObj 122 bd) ∈ rest) (hbd : (bd, bookD w t1 t2 t3 t4 tx an fu fn) ∈ rest) (lo : (an == sysModules) = false)
  (hne : @Ne Nat tx an) (ho1 : ∀ p ∈ rest, p.1 ≠ tx) (ho2 : ∀ p ∈ rest, p.1 ≠ an)
  (hA : oAn.IsDictOf (PySem.strKind PySem.Challenge.rw_ok0024_01.row.prog w) kvs) (hv : valueAt kvs x = none) (hz : its.length ≤ 1000000) (hz2 : kvs.length ≤ sizeLine) 
  (hret : ∀ t h' tk' oAn', Fr h₀ L h' m → News h₀ L h' ((tx, listOf (its.toArray.push (.str x tk)) (n+1)) :: (an, oAn') :: rest) → oAn'.IsDictOf (PySem.strKind PySem.Challenge.rw_ok0024_01.row.prog w) (stored kvs x (.int its.length t)) → Q (.int its.length t) { s with heap := h', toks := tk' }) :
  wpAny (model PySem.Challenge.rw_ok0024_01.row.prog w) (ktrTop dp un gd cn cs L a ccd cl outer) (call (.ref 56) [.ref b, .str x tk]) Q E s := by
  have hz3 : its.toArray.size ≤ sizeLine := by rw [List.size_toArray, sizeLine_eq]; omega
  revert X; k_fill; intro X
  refine wpAny_call ?_
  k_dflt k_enter
  (refine sq_A ?_; intro A9)
  k_steps
  all_goals exact hret _ _ _ _ (by k_asm) (by k_asm) (by assumption)
example : True := by (k_with "getMethod ref" => (k_here; (with_reducible show wpAny _ _ (getMethod (Value.ref _) "get" _) _ _ _); k_dflt (refine' gm_dict_getH ?N_q35 ?m_q35 ?d_q35 ?k_q35 ?s_q35 ?_; (case N_q35 => k_asm); (case m_q35 => k_mem); (case d_q35 => assumption); (case k_q35 => assumption); (case s_q35 => (intro p9 h9; k_mem)); k_whole))); exact trivial
example : True := by (k_with "call builtin:dict.get" => (k_here; k_dflt (first | (refine' c_dict_getH_hit ?N_q36 ?u_q36 ?m_q36 ?lo_q36 ?d_q36 ?k_q36 ?s_q36 ?a_q36 ?p_q36 ?v_q36 ?_; (case N_q36 => k_asm); (case u_q36 => ktr_units); (case m_q36 => k_mem); (case lo_q36 => assumption); (case d_q36 => assumption); (case k_q36 => assumption); (case s_q36 => (intro p9 h9; k_mem)); (case a_q36 => k_mem); (case p_q36 => assumption); (case v_q36 => assumption); k_whole) | (refine' c_dict_getH_miss ?N_q36 ?u_q36 ?m_q36 ?lo_q36 ?d_q36 ?k_q36 ?s_q36 ?a_q36 ?p_q36 ?_; (case N_q36 => k_asm); (case u_q36 => ktr_units); (case m_q36 => k_mem); (case lo_q36 => assumption); (case d_q36 => assumption); (case k_q36 => assumption); (case s_q36 => (intro p9 h9; k_mem)); (case a_q36 => k_mem); (case p_q36 => assumption); k_whole)))); exact trivial
example : True := by (k_with "setItem ref ref" => (k_here; k_dflt (refine' c_setItemH ?F_q37 ?N_q37 ?U_q37 ?u_q37 ?d_q37 ?k_q37 ?s_q37 ?a_q37 ?z_q37 ?_; (case F_q37 => k_asm); (case N_q37 => k_asm); (case U_q37 => k_updF); (case u_q37 => ktr_units); (case d_q37 => assumption); (case k_q37 => assumption); (case s_q37 => (intro p9 h9; k_mem)); (case a_q37 => k_mem); (case z_q37 => assumption)); intro h' o' F' N' hd'; (try dsimp only at N'); (try k_sweep))); exact trivial
theorem functor_hit {b bd tx an fu fn : Addr} {t1 t2 t3 t4 : Tok} {oFn : Obj} {rows : List FRow} {a' n' : Int} {u1 u2 : Tok} {i : Nat} {t : Tok} {pr : Addr × Value} (B : Below A₀ base outer h₀) (F : Fr h₀ L s.heap m) (X : (Mine.kk.heap_1 w.params).In h₀) (T : Top p loose mean mg mb h₀) (hk : cs.kind = .function) (hd : dp + 5 < recursionLimit) (hu : un + 60 < cLine) (N : News h₀ L s.heap ((fn, oFn) :: rest))
  (hb : (b, instObj 122 bd) ∈ rest) (hbd : (bd, bookD w t1 t2 t3 t4 tx an fu fn) ∈ rest) (lo : (fn == sysModules) = false)
  (hf : FTab PySem.Challenge.rw_ok0024_01.row.prog w oFn rows) (hkk : FKeys rest rows) (hp : atKey rows [a', n'] = some pr) (hv : pr.2 = .int i t)
  (hret : ∀ h' tk', Fr h₀ L h' m → News h₀ L h' ((fn, oFn) :: rest) → Q (.int i t) { s with heap := h', toks := tk' }) :
  wpAny (model PySem.Challenge.rw_ok0024_01.row.prog w) (ktrTop dp un gd cn cs L a ccd cl outer) (call (.ref 70) [.ref b, .int a' u1, .int n' u2]) Q E s := by
  revert X; k_fill; intro X
  refine wpAny_call ?_
  k_dflt k_enter
  (refine sq_A ?_; intro A9)
  k_steps
  all_goals (refine' hret _ _ ?f ?n; (case f => k_asm); (case n => (refine' cb_drop ?n1 ?n2; (case n1 => assumption); (case n2 => (intro p9 h9; k_mem)))))
theorem functor_miss {b bd tx an fu fn : Addr} {t1 t2 t3 t4 : Tok} {oFn : Obj} {rows : List FRow} {a' n' : Int} {u1 u2 : Tok} {its : List Value} {n : Nat} (B : Below A₀ base outer h₀) (F : Fr h₀ L s.heap m) (X : (Mine.kk.heap_1 w.params).In h₀) (T : Top p loose mean mg mb h₀) (hk : cs.kind = .function) (hd : dp + 5 < recursionLimit) (hu : un + 60 < cLine) (N : News h₀ L s.heap ((fu, listOf its.toArray n) :: (fn, oFn) :: rest))
  (hb : (b, instObj 122 bd) ∈ rest) (hbd : (bd, bookD w t1 t2 t3 t4 tx an fu fn) ∈ rest) (lo : (fn == sysModules) = false)
  (hne : @Ne Nat fu fn) (ho1 : ∀ p ∈ rest, p.1 ≠ fu) (ho2 : ∀ p ∈ rest, p.1 ≠ fn)
  (hf : FTab PySem.Challenge.rw_ok0024_01.row.prog w oFn rows) (hkk : FKeys rest rows) (hp : atKey rows [a', n'] = none) (hz : its.length ≤ 1000000) (hz2 : rows.length ≤ sizeLine)
  (hret : ∀ t h' tk' oFn' ka, @LT.lt Nat _ fu ka → @LT.lt Nat _ fn ka → (∀ q ∈ rest, q.1 < ka) → Fr h₀ L h' m → News h₀ L h' ((fu, listOf (its.toArray.push (.ref ka)) (n+1)) :: (fn, oFn') :: (ka, tupO [.int a' u1, .int n' u2] 0) :: rest) → FTab PySem.Challenge.rw_ok0024_01.row.prog w oFn' (storedH rows [a', n'] ka (.int its.length t)) → Q (.int its.length t) { s with heap := h', toks := tk' }) :
  wpAny (model PySem.Challenge.rw_ok0024_01.row.prog w) (ktrTop dp un gd cn cs L a ccd cl outer) (call (.ref 70) [.ref b, .int a' u1, .int n' u2]) Q E s := by
  have hz3 : its.toArray.size ≤ sizeLine := by rw [List.size_toArray, sizeLine_eq]; omega
  revert X; k_fill; intro X
  refine wpAny_call ?_
  k_dflt k_enter
  (refine sq_A ?_; intro A9)
  k_steps
  all_goals (refine' hret _ _ _ _ _ ?l1 ?l2 ?l3 ?f ?n ?t; (case t => assumption); (case l1 => first | (refine' alt_get ?lh ?lm; (case lh => assumption); (case lm => k_mem)) | omega); (case l2 => first | (refine' alt_get ?lh ?lm; (case lh => assumption); (case lm => k_mem)) | omega); (case l3 => first | (refine' alt_lt_all ?lh ?ls; (case lh => assumption); (case ls => k_allIn)) | (refine' alt_lt_all ?lh ?ls; (case lh => assumption); (case ls => k_allIn))); (case f => k_asm); (case n => (refine' cb_drop ?n1 ?n2; (case n1 => assumption); (case n2 => (refine' List.forall_mem_cons.mpr ⟨?_, List.forall_mem_cons.mpr ⟨?_, List.forall_mem_cons.mpr ⟨?_, fun p9 h9 => ?_⟩⟩⟩ <;> k_mem)))))
example : True := by k_with_none; (k_with "x_k_room" => ((try simp (config := {zetaDelta := true}) only [depth_under_make, depth_under_kw, depth_in1, depth_deeper, depth_caller]); (try dsimp only [ktrTop]); (first | (refine' rm0 ?ha_q17; (case ha_q17 => assumption)) | (refine' rm1 ?ha_q17 ?hb_q17; (case ha_q17 => assumption); (case hb_q17 => exact rfl)) | (refine' rm2 ?ha_q17 ?hb_q17; (case ha_q17 => assumption); (case hb_q17 => exact rfl)) | (refine' rm3 ?ha_q17 ?hb_q17; (case ha_q17 => assumption); (case hb_q17 => exact rfl)) | (refine' rm4 ?ha_q17 ?hb_q17; (case ha_q17 => assumption); (case hb_q17 => exact rfl)) | omega))); (k_with "x_ktr_units" => ((try simp (config := {zetaDelta := true}) only [units_under_make, units_in1, units_deeper, Around.mark_units, units_caller]); (try dsimp only [ktrTop]); (first | (refine' rm0 ?ha_q18; (case ha_q18 => assumption)) | (refine' rm1 ?ha_q18 ?hb_q18; (case ha_q18 => assumption); (case hb_q18 => exact rfl)) | (refine' rm2 ?ha_q18 ?hb_q18; (case ha_q18 => assumption); (case hb_q18 => exact rfl)) | (refine' rm3 ?ha_q18 ?hb_q18; (case ha_q18 => assumption); (case hb_q18 => exact rfl)) | (refine' rm4 ?ha_q18 ?hb_q18; (case ha_q18 => assumption); (case hb_q18 => exact rfl)) | omega))); (k_with "execs cons" => (k_here; (with_reducible refine sq_tok ?_); intro tk')); (k_with "subscriptTail Name Constant ref int" => (k_here; (with_reducible show wpAny _ _ (subscriptTail _ _ (Value.ref _) (Value.int _ _)) _ _ _); k_dflt (first | (refine' item_tupleT ?t_q20 ?a_q20 ?b_q20 ?c_q20 ?d_q20 ?_; (case t_q20 => (refine' News.isTup ?t1_q20 ?t2_q20; (case t1_q20 => k_asm); (case t2_q20 => k_mem))); (case a_q20 => decide); (case b_q20 => decide); (case c_q20 => rfl); (case d_q20 => rfl); k_whole) | (refine' c_item_lit ?N_q20 ?m_q20 ?a2_q20 ?b2_q20 ?d2_q20 ?_; (case N_q20 => k_asm); (case m_q20 => k_mem); (case a2_q20 => decide); (case b2_q20 => decide); (case d2_q20 => rfl); k_whole)))); (k_with "eval Call Name" => (k_here; with_unfolding_all refine Call_ ?_)); (k_with "x_k_all" => first | assumption | exact List.forall_mem_nil _ | (refine' List.forall_mem_append.mpr ⟨?_, ?_⟩; (focus k_all); k_all) | (refine' List.forall_mem_cons.mpr ⟨?_, ?_⟩; (focus k_ne); k_all) | exact allNeP (by assumption) | (refine' Above.off ?hA_q22 ?hM_q22; (case hA_q22 => assumption); (case hM_q22 => k_mem)) | (refine' alt_all ?lh_q22 ?ls_q22; (case lh_q22 => assumption); (case ls_q22 => k_allIn)) | exact allNe0 (by assumption) | exact allNe1 (by assumption) | exact allNe2 (by assumption) | exact allNe3 (by assumption) | exact allNe4 (by assumption) | exact allNe5 (by assumption) | exact allNe6 (by assumption)); (k_with "x_k_ne" => first | assumption | (refine' alt_ne1 ?lh_q23 ?lm_q23; (case lh_q23 => assumption); (case lm_q23 => k_mem)) | (refine' alt_ne2 ?lh_q23 ?lm_q23; (case lh_q23 => assumption); (case lm_q23 => k_mem)) | (refine' alt_ne3 ?lx_q23 ?lh_q23 ?lm_q23; (case lx_q23 => assumption); (case lh_q23 => assumption); (case lm_q23 => k_mem)) | (refine' alt_ne4 ?lx_q23 ?lh_q23 ?lm_q23; (case lx_q23 => assumption); (case lh_q23 => assumption); (case lm_q23 => k_mem)) | (refine' Ne.symm ?_; assumption) | (refine neN ?_; refine' Ne.symm ?_; assumption) | (refine neN ?_; (try dsimp only); omega) | (refine' news_ne_cls ?nN_q23 ?n1_q23 ?n2_q23 ?n3_q23; (case nN_q23 => assumption); (case n1_q23 => k_mem); (case n2_q23 => k_mem); (case n3_q23 => (intro e9; exact absurd (Value.type.inj e9) (by decide)))) | (refine neN ?_; (try dsimp only); (simp only [List.forall_mem_cons] at *); omega)); (k_with "x_k_mem" => first | assumption | exact List.mem_cons_self | (refine' List.mem_cons_of_mem _ ?_; k_mem) | (refine' List.mem_append_left _ ?_; k_mem) | (refine' List.mem_append_right _ ?_; k_mem)); (k_with "x_k_upd" => first | exact Pull.head | (refine' Pull.tail ?b_q25; (case b_q25 => k_upd)) | (refine' Pull.under _ ?b_q25; (case b_q25 => k_upd))); (k_with "x_k_allIn" => first | assumption | (intro p9 h9; k_mem) | (refine' List.forall_mem_append.mpr ⟨?_, ?_⟩; (focus k_allIn); k_allIn) | exact List.forall_mem_nil _ | exact sub_l (by assumption)); (k_with "x_k_enter" => first | ktr_enter | (refine' code_def ?k1_q27 ?k2_q27 ?k3_q27 ?k4_q27 ?k5_q27 ?kA_q27 ?kF_q27 ?kK_q27 ?k6_q27 ?k7_q27 ?k8_q27 ?k9_q27 ?kB_q27 ?_ ?c2_q27 ?c3_q27 ?c4_q27 ?c5_q27; (case kA_q27 => exact rfl); (case kF_q27 => exact rfl); (case kK_q27 => first | exact rfl | assumption); (case k1_q27 => k_asm); (case k2_q27 => k_asm); (case k3_q27 => k_asm); (case k4_q27 => k_asm); (case k5_q27 => k_asm); (case k6_q27 => k_is); (case k7_q27 => k_is); (case k8_q27 => ktr_room); (case k9_q27 => exact binds_K (by k_in) rfl (by k_is) rfl rfl rfl); (case c5_q27 => decide); (case kB_q27 => exact locs rfl); (case c2_q27 => exact rfl); (case c3_q27 => exact rfl); (case c4_q27 => exact rfl); k_whole; intro g' L' h' FG' F' N' B' X' T'; (try dsimp only); (try k_fold))); exact trivial
end
end
section
section
local macro_rules | `(tactic| k_enter) => `(tactic| ktr_enter)
variable {w : World} {p : Program} {loose : List Str} {mean : ExcName → Option Value} {mg mb : Str → Option Value} {dp un : Nat} {gd : Option (List Code)} {cn : Str} {cs : Scope} {a : Addr} {ccd : Value} {cl : List (Str × Addr)} {outer : List Env} {A₀ : Around} {base h₀ : Heap} {L : Addr} {m : Str → Option Value} {s : Shared} {Q E : Value → Shared → Prop} {news rest : List (Addr × Obj)}
noncomputable abbrev PG : Program := PySem.Challenge.rw_ok0024_01.row.prog
variable {b bd tx an fu fn : Addr} {t1 t2 t3 t4 : Tok} {oTx oAn oFu oFn : Obj} {xs : List Str} {fs : List (List Int)} {K : Nat} {rest0 : List (Addr × Obj)}
theorem atom_spec {x : Str} {tk : Tok} (B : Below A₀ base outer h₀) (F : Fr h₀ L s.heap m) (X : (Mine.kk.heap_1 w.params).In h₀) (T : Top p loose mean mg mb h₀) (hk : cs.kind = .function) (hd : dp + 5 < recursionLimit) (hu : un + 60 < cLine) (N : News h₀ L s.heap ((tx, oTx) :: (an, oAn) :: (fu, oFu) :: (fn, oFn) :: rest)) (R : BookR w rest b bd tx an fu fn t1 t2 t3 t4) (S : BookS PG w rest0 oTx oAn oFu oFn xs fs K) (hz : K ≤ 100000)
  (hret : ∀ (i : Nat) t h' tk' oTx' oAn', Fr h₀ L h' m → News h₀ L h' ((tx, oTx') :: (an, oAn') :: (fu, oFu) :: (fn, oFn) :: rest) → BookS PG w rest0 oTx' oAn' oFu oFn (addA xs x) fs (K+1) → (addA xs x)[i]? = some x → Q (.int i t) { s with heap := h', toks := tk' }) :
  wpAny (model PySem.Challenge.rw_ok0024_01.row.prog w) (ktrTop dp un gd cn cs L a ccd cl outer) (call (.ref 56) [.ref b, .str x tk]) Q E s := by
  obtain ⟨hsz, ⟨its, n, rfl, hT⟩, ⟨kvs, hA, hkx, hv⟩, hF⟩ := S
  have R' := R
  obtain ⟨hb, hbd, lo1, lo2, n1, n2, n3, n4, n5, n6, o1, o2, o3, o4⟩ := R'
  have hnd : (kvs.map (·.1)).Nodup := by obtain ⟨es, ep, _, _, _, _, hn⟩ := hA; exact hn
  by_cases hx : x ∈ xs
  · obtain ⟨i, hi⟩ := List.mem_iff_getElem?.mp hx
    obtain ⟨t, ht⟩ := ATab.get hnd hv (by rw [hkx]; exact hi)
    have e : addA xs x = xs := if_pos hx
    refine atom_hit (rest := (tx, listOf its.toArray n) :: (fu, oFu) :: (fn, oFn) :: rest) (an := an) (fu := fu) (fn := fn) (tx := tx) (t1 := t1) (t2 := t2) (t3 := t3) (t4 := t4) (bd := bd) B F X T hk hd hu (cb_drop N ?_) ?_ ?_ lo1 hA ht (fun h' tk' F' N' => ?_)
    · (refine' List.forall_mem_cons.mpr ⟨?_, List.forall_mem_cons.mpr ⟨?_, List.forall_mem_cons.mpr ⟨?_, List.forall_mem_cons.mpr ⟨?_, fun p9 h9 => ?_⟩⟩⟩⟩ <;> k_mem)
    · k_mem
    · k_mem
    · refine hret i t h' tk' (listOf its.toArray n) oAn F' (cb_drop N' ?_) ?_ ?_
      · (refine' List.forall_mem_cons.mpr ⟨?_, List.forall_mem_cons.mpr ⟨?_, List.forall_mem_cons.mpr ⟨?_, List.forall_mem_cons.mpr ⟨?_, fun p9 h9 => ?_⟩⟩⟩⟩ <;> k_mem)
      · rw [e]; exact ⟨by omega, ⟨its, n, rfl, hT⟩, ⟨kvs, hA, hkx, hv⟩, hF⟩
      · rw [e]; exact hi
  · have hx' : x ∉ kvs.map (·.1) := by rw [hkx]; exact hx
    have hlen : its.length = xs.length := hT.length
    have hlk : kvs.length = xs.length := by rw [← hkx, List.length_map]
    have e : addA xs x = xs ++ [x] := if_neg hx
    refine atom_miss (rest := (fu, oFu) :: (fn, oFn) :: rest) (its := its) (n := n) (kvs := kvs) (an := an) (fu := fu) (fn := fn) (tx := tx) (t1 := t1) (t2 := t2) (t3 := t3) (t4 := t4) (bd := bd) (i := 0) B F X T hk hd hu N ?_ ?_ lo1 n1 ?_ ?_ hA (valueAt_none_of_not_mem hx') (by omega) (by rw [sizeLine_eq]; omega) (fun t h' tk' oAn' F' N' hA' => ?_)
    · k_mem
    · k_mem
    · exact List.forall_mem_cons.mpr ⟨Ne.symm n2, List.forall_mem_cons.mpr ⟨Ne.symm n3, o1⟩⟩
    · exact List.forall_mem_cons.mpr ⟨Ne.symm n4, List.forall_mem_cons.mpr ⟨Ne.symm n5, o2⟩⟩
    · refine hret its.length t h' tk' _ oAn' F' N' ?_ ?_
      · rw [e]
        refine ⟨by simp; omega, ⟨its ++ [.str x tk], n + 1, by rw [List.push_toArray], hT.append' (.cons _ _ .nil)⟩, ?_, hF⟩
        rw [← hkx]
        exact ATab.store hx' hv (by rw [hlen, hlk]) hA'
      · rw [e, hlen]; simp
theorem functor_spec {a' n' : Int} {u1 u2 : Tok} (B : Below A₀ base outer h₀) (F : Fr h₀ L s.heap m) (X : (Mine.kk.heap_1 w.params).In h₀) (T : Top p loose mean mg mb h₀) (hk : cs.kind = .function) (hd : dp + 5 < recursionLimit) (hu : un + 60 < cLine) (N : News h₀ L s.heap ((tx, oTx) :: (an, oAn) :: (fu, oFu) :: (fn, oFn) :: rest)) (R : BookR w rest b bd tx an fu fn t1 t2 t3 t4) (S : BookS PG w rest0 oTx oAn oFu oFn xs fs K) (hs0 : ∀ p ∈ rest0, p ∈ rest) (hz : K ≤ 100000)
  (hret : ∀ (i : Nat) t h' tk' oFu' oFn' tl, Above ((tx, oTx) :: (an, oAn) :: (fu, oFu) :: (fn, oFn) :: rest) tl → Fr h₀ L h' m → News h₀ L h' ((tx, oTx) :: (an, oAn) :: (fu, oFu') :: (fn, oFn') :: (rest ++ tl)) → BookS PG w (rest0 ++ tl) oTx oAn oFu' oFn' xs (addF fs [a', n']) (K+1) → (addF fs [a', n'])[i]? = some [a', n'] → Q (.int i t) { s with heap := h', toks := tk' }) :
  wpAny (model PySem.Challenge.rw_ok0024_01.row.prog w) (ktrTop dp un gd cn cs L a ccd cl outer) (call (.ref 70) [.ref b, .int a' u1, .int n' u2]) Q E s := by
  obtain ⟨hsz, hTx, hAn, ⟨rows, n, rfl, hf, hkk, hi, hfs⟩⟩ := S
  have R' := R
  obtain ⟨hb, hbd, lo1, lo2, n1, n2, n3, n4, n5, n6, o1, o2, o3, o4⟩ := R'
  have hnd : (rows.map (·.1)).Nodup := by obtain ⟨es, ep, _, _, _, hn⟩ := hf; exact hn
  have hrl : rows.length = fs.length := by rw [← hfs, List.length_map]
  by_cases hx : [a', n'] ∈ fs
  · obtain ⟨i, t, pr, hp, hv, hg⟩ := row_at hnd hi (by rw [hfs]; exact hx)
    have e : addF fs [a', n'] = fs := if_pos hx
    refine functor_hit (rest := (tx, oTx) :: (an, oAn) :: (fu, listOf (rows.map fun r => Value.ref r.2.1).toArray n) :: rest) (an := an) (fu := fu) (fn := fn) (tx := tx) (t1 := t1) (t2 := t2) (t3 := t3) (t4 := t4) (bd := bd) (i := i) (t := t) (pr := pr) B F X T hk hd hu (cb_drop N ?_) ?_ ?_ lo2 hf (hkk.mono ?_) hp hv (fun h' tk' F' N' => ?_)
    · (refine' List.forall_mem_cons.mpr ⟨?_, List.forall_mem_cons.mpr ⟨?_, List.forall_mem_cons.mpr ⟨?_, List.forall_mem_cons.mpr ⟨?_, fun p9 h9 => ?_⟩⟩⟩⟩ <;> k_mem)
    · k_mem
    · k_mem
    · exact fun p9 h9 => .tail _ (.tail _ (.tail _ (hs0 _ h9)))
    · refine hret i t h' tk' (listOf (rows.map fun r => Value.ref r.2.1).toArray n) oFn [] Above.nil F' (cb_drop N' ?_) ?_ ?_
      · rw [List.append_nil]; (refine' List.forall_mem_cons.mpr ⟨?_, List.forall_mem_cons.mpr ⟨?_, List.forall_mem_cons.mpr ⟨?_, List.forall_mem_cons.mpr ⟨?_, fun p9 h9 => ?_⟩⟩⟩⟩ <;> k_mem)
      · rw [e, List.append_nil]; exact ⟨by omega, hTx, hAn, ⟨rows, n, rfl, hf, hkk, hi, hfs⟩⟩
      · rw [e, ← hfs]; exact hg
  · have e : addF fs [a', n'] = fs ++ [[a', n']] := if_neg hx
    have hx' : [a', n'] ∉ rows.map (·.1) := by rw [hfs]; exact hx
    have hno := row_no hx'
    have hlen : (rows.map fun r => Value.ref r.2.1).length = fs.length := by rw [List.length_map, hrl]
    refine functor_miss (rest := (tx, oTx) :: (an, oAn) :: rest) (its := rows.map fun r => Value.ref r.2.1) (n := n) (rows := rows) (an := an) (fu := fu) (fn := fn) (tx := tx) (t1 := t1) (t2 := t2) (t3 := t3) (t4 := t4) (bd := bd) B F X T hk hd hu (cb_drop N ?_) ?_ ?_ lo2 n6 ?_ ?_ hf (hkk.mono ?_) hno (by omega) (by rw [sizeLine_eq]; omega) (fun t h' tk' oFn' ka l1 l2 l3 F' N' hf' => ?_)
    · (refine' List.forall_mem_cons.mpr ⟨?_, List.forall_mem_cons.mpr ⟨?_, List.forall_mem_cons.mpr ⟨?_, List.forall_mem_cons.mpr ⟨?_, fun p9 h9 => ?_⟩⟩⟩⟩ <;> k_mem)
    · k_mem
    · k_mem
    · exact List.forall_mem_cons.mpr ⟨n2, List.forall_mem_cons.mpr ⟨n4, o3⟩⟩
    · exact List.forall_mem_cons.mpr ⟨n3, List.forall_mem_cons.mpr ⟨n5, o4⟩⟩
    · exact fun p9 h9 => .tail _ (.tail _ (hs0 _ h9))
    · rw [hlen]
      refine hret fs.length t h' tk' (listOf ((rows.map fun r => Value.ref r.2.1).toArray.push (.ref ka)) (n + 1)) oFn' [(ka, tupO [.int a' u1, .int n' u2] 0)] (Above.one ?_) F' (cb_drop N' ?_) ?_ ?_
      · intro q hq
        rcases List.mem_cons.mp hq with rfl | hq
        · exact l3 _ (by k_mem)
        rcases List.mem_cons.mp hq with rfl | hq
        · exact l3 _ (by k_mem)
        rcases List.mem_cons.mp hq with rfl | hq
        · exact l1
        rcases List.mem_cons.mp hq with rfl | hq
        · exact l2
        · exact l3 _ (by k_mem)
      · intro q hq
        simp only [List.mem_cons, List.mem_append, List.not_mem_nil, or_false] at hq ⊢
        rcases hq with h | h | h | h | h | h <;> simp [h]
      · rw [e]
        refine ⟨by simp; omega, hTx, hAn, ⟨rows ++ [([a', n'], ka, .int (rows.length : Nat) t)], n + 1, by simp, ?_, ?_, row_new hi, by simp [hfs]⟩⟩
        · rw [storedH_new hno, hlen, ← hrl] at hf'; exact hf'
        · intro x hx
          rcases List.mem_append.mp hx with hx | hx
          · exact (hkk.mono fun _ h => List.mem_append_left _ h) x hx
          · rw [List.mem_singleton.mp hx]
            exact ⟨a', n', u1, u2, 0, rfl, List.mem_append_right _ (.head _)⟩
      · rw [e]; simp
theorem atom_use {led r1 r2 r3 restR : List (Addr × Obj)} {x : Str} {tk : Tok} (B : Below A₀ base outer h₀) (F : Fr h₀ L s.heap m) (X : (Mine.kk.heap_1 w.params).In h₀) (T : Top p loose mean mg mb h₀) (hk : cs.kind = .function) (hd : dp + 5 < recursionLimit) (hu : un + 60 < cLine) (R0 : BookR w restR b bd tx an fu fn t1 t2 t3 t4) (S0 : BookS PG w rest0 oTx oAn oFu oFn xs fs K) (N : News h₀ L s.heap led) (P1 : Pull tx oTx led r1) (P2 : Pull an oAn r1 r2) (P3 : Pull fu oFu r2 r3) (P4 : Pull fn oFn r3 rest) (hs : ∀ p ∈ restR, p ∈ rest) (hs0 : ∀ p ∈ rest0, p ∈ rest) (o1 : ∀ p ∈ rest, p.1 ≠ tx) (o2 : ∀ p ∈ rest, p.1 ≠ an) (o3 : ∀ p ∈ rest, p.1 ≠ fu) (o4 : ∀ p ∈ rest, p.1 ≠ fn) (hz : K ≤ 100000)
  (hret : ∀ (i : Nat) t h' tk' oTx' oAn', Fr h₀ L h' m → News h₀ L h' ((tx, oTx') :: (an, oAn') :: (fu, oFu) :: (fn, oFn) :: rest) → BookR w rest b bd tx an fu fn t1 t2 t3 t4 → BookS PG w rest0 oTx' oAn' oFu oFn (addA xs x) fs (K+1) → (addA xs x)[i]? = some x → Q (.int i t) { s with heap := h', toks := tk' }) :
  wpAny (model PySem.Challenge.rw_ok0024_01.row.prog w) (ktrTop dp un gd cn cs L a ccd cl outer) (call (.ref 56) [.ref b, .str x tk]) Q E s :=
  have R := R0.mono hs o1 o2 o3 o4
  atom_spec B F X T hk hd hu (pull4 N P1 P2 P3 P4) R S0 hz fun i t h' tk' oTx' oAn' F' N' S' hi => hret i t h' tk' oTx' oAn' F' N' R S' hi
theorem functor_use {led r1 r2 r3 restR : List (Addr × Obj)} {a' n' : Int} {u1 u2 : Tok} (B : Below A₀ base outer h₀) (F : Fr h₀ L s.heap m) (X : (Mine.kk.heap_1 w.params).In h₀) (T : Top p loose mean mg mb h₀) (hk : cs.kind = .function) (hd : dp + 5 < recursionLimit) (hu : un + 60 < cLine) (R0 : BookR w restR b bd tx an fu fn t1 t2 t3 t4) (S0 : BookS PG w rest0 oTx oAn oFu oFn xs fs K) (N : News h₀ L s.heap led) (P1 : Pull tx oTx led r1) (P2 : Pull an oAn r1 r2) (P3 : Pull fu oFu r2 r3) (P4 : Pull fn oFn r3 rest) (hs : ∀ p ∈ restR, p ∈ rest) (hs0 : ∀ p ∈ rest0, p ∈ rest) (o1 : ∀ p ∈ rest, p.1 ≠ tx) (o2 : ∀ p ∈ rest, p.1 ≠ an) (o3 : ∀ p ∈ rest, p.1 ≠ fu) (o4 : ∀ p ∈ rest, p.1 ≠ fn) (hz : K ≤ 100000)
  (hret : ∀ (i : Nat) t h' tk' oFu' oFn' tl, Above ((tx, oTx) :: (an, oAn) :: (fu, oFu) :: (fn, oFn) :: rest) tl → Fr h₀ L h' m → News h₀ L h' ((tx, oTx) :: (an, oAn) :: (fu, oFu') :: (fn, oFn') :: (rest ++ tl)) → BookR w (rest ++ tl) b bd tx an fu fn t1 t2 t3 t4 → BookS PG w (rest0 ++ tl) oTx oAn oFu' oFn' xs (addF fs [a', n']) (K+1) → (addF fs [a', n'])[i]? = some [a', n'] → Q (.int i t) { s with heap := h', toks := tk' }) :
  wpAny (model PySem.Challenge.rw_ok0024_01.row.prog w) (ktrTop dp un gd cn cs L a ccd cl outer) (call (.ref 70) [.ref b, .int a' u1, .int n' u2]) Q E s :=
  have R := R0.mono hs o1 o2 o3 o4
  functor_spec B F X T hk hd hu (pull4 N P1 P2 P3 P4) R S0 hs0 hz fun i t h' tk' oFu' oFn' tl hA F' N' S' hi => hret i t h' tk' oFu' oFn' tl hA F' N' (R.mono (fun _ h => List.mem_append_left _ h) (List.forall_mem_append.mpr ⟨o1, hA.off (by k_mem)⟩) (List.forall_mem_append.mpr ⟨o2, hA.off (by k_mem)⟩) (List.forall_mem_append.mpr ⟨o3, hA.off (by k_mem)⟩) (List.forall_mem_append.mpr ⟨o4, hA.off (by k_mem)⟩)) S' hi
end
end
section
section
local macro_rules | `(tactic| k_enter) => `(tactic| ktr_enter)
example : True := by (k_with "call ref" => (k_here; k_dflt (refine' atom_use ?B_q38 ?F_q38 ?X_q38 ?T_q38 ?K_q38 ?d_q38 ?u_q38 ?R_q38 ?S_q38 ?N_q38 ?P1_q38 ?P2_q38 ?P3_q38 ?P4_q38 ?s_q38 ?s0_q38 ?o1_q38 ?o2_q38 ?o3_q38 ?o4_q38 ?z_q38 ?_; (case F_q38 => k_asm); (case B_q38 => k_asm); (case X_q38 => k_asm); (case T_q38 => k_asm); (case K_q38 => first | exact rfl | assumption); (case d_q38 => k_room); (case u_q38 => ktr_units); (case R_q38 => assumption); (case S_q38 => assumption); (case N_q38 => k_asm); (case P1_q38 => k_upd); (case P2_q38 => k_upd); (case P3_q38 => k_upd); (case P4_q38 => k_upd); (case s_q38 => k_allIn); (case s0_q38 => k_allIn); (case o1_q38 => k_all); (case o2_q38 => k_all); (case o3_q38 => k_all); (case o4_q38 => k_all); (case z_q38 => omega)); intro i' t' h' tk' oTx' oAn' F' N' R' S' hi'; (try simp only [List.cons_append, List.nil_append, List.append_assoc] at N' R' S'); (try k_sweep); walk_say "atom_use")); exact trivial
example : True := by (k_with "call ref" => (k_here; k_dflt (refine' functor_use ?B_q39 ?F_q39 ?X_q39 ?T_q39 ?K_q39 ?d_q39 ?u_q39 ?R_q39 ?S_q39 ?N_q39 ?P1_q39 ?P2_q39 ?P3_q39 ?P4_q39 ?s_q39 ?s0_q39 ?o1_q39 ?o2_q39 ?o3_q39 ?o4_q39 ?z_q39 ?_; (case F_q39 => k_asm); (case B_q39 => k_asm); (case X_q39 => k_asm); (case T_q39 => k_asm); (case K_q39 => first | exact rfl | assumption); (case d_q39 => k_room); (case u_q39 => ktr_units); (case R_q39 => assumption); (case S_q39 => assumption); (case N_q39 => k_asm); (case P1_q39 => k_upd); (case P2_q39 => k_upd); (case P3_q39 => k_upd); (case P4_q39 => k_upd); (case s_q39 => k_allIn); (case s0_q39 => k_allIn); (case o1_q39 => k_all); (case o2_q39 => k_all); (case o3_q39 => k_all); (case o4_q39 => k_all); (case z_q39 => omega)); intro i' t' h' tk' oFu' oFn' tl' hA' F' N' R' S' hi'; (try simp only [List.cons_append, List.nil_append, List.append_assoc] at N' R' S'); (try k_sweep); walk_say "functor_use")); exact trivial
variable {w : World} {p : Program} {loose : List Str} {mean : ExcName → Option Value} {mg mb : Str → Option Value} {dp un : Nat} {gd : Option (List Code)} {cn : Str} {cs : Scope} {a : Addr} {ccd : Value} {cl : List (Str × Addr)} {outer : List Env} {A₀ : Around} {base h₀ : Heap} {L : Addr} {m : Str → Option Value} {s : Shared} {Q E : Value → Shared → Prop} {news rest : List (Addr × Obj)}
variable {b bd tx an fu fn : Addr} {t1 t2 t3 t4 : Tok} {oTx oAn oFu oFn : Obj} {xs : List Str} {fs : List (List Int)} {K : Nat} {rest0 : List (Addr × Obj)}
theorem func_spec {x : Str} {n' : Int} {tk tk2 : Tok} (B : Below A₀ base outer h₀) (F : Fr h₀ L s.heap m) (X : (Mine.kk.heap_1 w.params).In h₀) (T : Top p loose mean mg mb h₀) (hk : cs.kind = .function) (hd : dp + 8 < recursionLimit) (hu : un + 100 < cLine) (N : News h₀ L s.heap ((tx, oTx) :: (an, oAn) :: (fu, oFu) :: (fn, oFn) :: rest)) (R : BookR w rest b bd tx an fu fn t1 t2 t3 t4) (S : BookS PG w rest0 oTx oAn oFu oFn xs fs K) (hs0 : ∀ p ∈ rest0, p ∈ rest) (hz : K ≤ 99999)
  (hret : ∀ (j i : Nat) t h' tk' oTx' oAn' oFu' oFn' tl, Above ((tx, oTx) :: (an, oAn) :: (fu, oFu) :: (fn, oFn) :: rest) tl → Fr h₀ L h' m → News h₀ L h' ((tx, oTx') :: (an, oAn') :: (fu, oFu') :: (fn, oFn') :: (rest ++ tl)) → BookR w (rest ++ tl) b bd tx an fu fn t1 t2 t3 t4 → BookS PG w (rest0 ++ tl) oTx' oAn' oFu' oFn' (addA xs x) (addF fs [((j : Nat) : Int), n']) (K+2) → (addA xs x)[j]? = some x → (addF fs [((j : Nat) : Int), n'])[i]? = some [((j : Nat) : Int), n'] → Q (.int i t) { s with heap := h', toks := tk' }) :
  wpAny (model PySem.Challenge.rw_ok0024_01.row.prog w) (ktrTop dp un gd cn cs L a ccd cl outer) (call (.ref 77) [.ref b, .str x tk, .int n' tk2]) Q E s := by
  have R2 := R
  obtain ⟨hb, hbd, lo1, lo2, n1, n2, n3, n4, n5, n6, o1, o2, o3, o4⟩ := R2
  revert X; k_fill; intro X
  refine wpAny_call ?_
  k_dflt k_enter
  (refine sq_A ?_; intro A9)
  k_steps
  all_goals (refine' hret _ _ _ _ _ _ _ _ _ _ ?a ?f ?n ?r ?s ?i1 ?i2; (case n => k_asm); (case f => k_asm); (case r => assumption); (case s => assumption); (case i1 => assumption); (case i2 => assumption); (case a => (refine' Above.same ?a1 ?a2; (case a1 => assumption); (case a2 => rfl))))
theorem func_use {led r1 r2 r3 restR : List (Addr × Obj)} {x : Str} {n' : Int} {tk tk2 : Tok} (B : Below A₀ base outer h₀) (F : Fr h₀ L s.heap m) (X : (Mine.kk.heap_1 w.params).In h₀) (T : Top p loose mean mg mb h₀) (hk : cs.kind = .function) (hd : dp + 8 < recursionLimit) (hu : un + 100 < cLine) (R0 : BookR w restR b bd tx an fu fn t1 t2 t3 t4) (S0 : BookS PG w rest0 oTx oAn oFu oFn xs fs K) (N : News h₀ L s.heap led) (P1 : Pull tx oTx led r1) (P2 : Pull an oAn r1 r2) (P3 : Pull fu oFu r2 r3) (P4 : Pull fn oFn r3 rest) (hs : ∀ p ∈ restR, p ∈ rest) (hs0 : ∀ p ∈ rest0, p ∈ rest) (o1 : ∀ p ∈ rest, p.1 ≠ tx) (o2 : ∀ p ∈ rest, p.1 ≠ an) (o3 : ∀ p ∈ rest, p.1 ≠ fu) (o4 : ∀ p ∈ rest, p.1 ≠ fn) (hz : K ≤ 99999)
  (hret : ∀ (j i : Nat) t h' tk' oTx' oAn' oFu' oFn' tl, Above ((tx, oTx) :: (an, oAn) :: (fu, oFu) :: (fn, oFn) :: rest) tl → Fr h₀ L h' m → News h₀ L h' ((tx, oTx') :: (an, oAn') :: (fu, oFu') :: (fn, oFn') :: (rest ++ tl)) → BookR w (rest ++ tl) b bd tx an fu fn t1 t2 t3 t4 → BookS PG w (rest0 ++ tl) oTx' oAn' oFu' oFn' (addA xs x) (addF fs [((j : Nat) : Int), n']) (K+2) → (addA xs x)[j]? = some x → (addF fs [((j : Nat) : Int), n'])[i]? = some [((j : Nat) : Int), n'] → Q (.int i t) { s with heap := h', toks := tk' }) :
  wpAny (model PySem.Challenge.rw_ok0024_01.row.prog w) (ktrTop dp un gd cn cs L a ccd cl outer) (call (.ref 77) [.ref b, .str x tk, .int n' tk2]) Q E s :=
  func_spec B F X T hk hd hu (pull4 N P1 P2 P3 P4) (R0.mono hs o1 o2 o3 o4) S0 hs0 hz hret
example : True := by (k_with "subscriptTail" => (k_here; (with_reducible show wpAny _ _ (subscriptTail _ _ (Value.ref _) (Value.int _ _)) _ _ _); k_dflt (refine' c_item_list ?N_q40 ?m_q40 ?x_q40 ?i_q40 ?_; (case N_q40 => k_asm); (case m_q40 => k_mem); (case x_q40 => assumption); (case i_q40 => assumption); k_whole))); (k_with "subscriptTail Name Constant ref int" => (k_here; (with_reducible show wpAny _ _ (subscriptTail _ _ (Value.ref _) (Value.int _ _)) _ _ _); k_dflt (refine' c_item_list ?N_q40 ?m_q40 ?x_q40 ?i_q40 ?_; (case N_q40 => k_asm); (case m_q40 => k_mem); (case x_q40 => assumption); (case i_q40 => assumption); k_whole))); (k_with "subscriptTail Name" => (k_here; (with_reducible show wpAny _ _ (subscriptTail _ _ (Value.ref _) (Value.int _ _)) _ _ _); k_dflt (refine' c_item_list ?N_q40 ?m_q40 ?x_q40 ?i_q40 ?_; (case N_q40 => k_asm); (case m_q40 => k_mem); (case x_q40 => assumption); (case i_q40 => assumption); k_whole))); exact trivial
theorem text_spec {led : List (Addr × Obj)} {i : Nat} {x : Str} {tk : Tok} (B : Below A₀ base outer h₀) (F : Fr h₀ L s.heap m) (X : (Mine.kk.heap_1 w.params).In h₀) (T : Top p loose mean mg mb h₀) (hk : cs.kind = .function) (hd : dp + 5 < recursionLimit) (hu : un + 60 < cLine) (N : News h₀ L s.heap led) (R : BookR w rest b bd tx an fu fn t1 t2 t3 t4) (S : BookS PG w rest0 oTx oAn oFu oFn xs fs K) (hz : K ≤ 100000) (hs0 : ∀ p ∈ rest0, p ∈ led) (m1 : (tx, oTx) ∈ led) (hs : ∀ p ∈ rest, p ∈ led) (hx : xs[i]? = some x)
  (hret : ∀ t h' tk', Fr h₀ L h' m → News h₀ L h' led → Q (.str x t) { s with heap := h', toks := tk' }) :
  wpAny (model PySem.Challenge.rw_ok0024_01.row.prog w) (ktrTop dp un gd cn cs L a ccd cl outer) (call (.ref 63) [.ref b, .int i tk]) Q E s := by
  obtain ⟨hsz, ⟨its, n, rfl, hT⟩, _, _⟩ := S
  have hi : i < 2 ^ 62 := by have := (List.getElem?_eq_some_iff.mp hx).1; omega
  obtain ⟨t, hv⟩ := hT.get i x hx
  have hb := hs _ R.hb
  have hbd := hs _ R.hbd
  clear R
  revert X; k_fill; intro X
  refine wpAny_call ?_
  k_dflt k_enter
  (refine sq_A ?_; intro A9)
  k_steps
  all_goals exact hret _ _ _ (by k_asm) (by k_asm)
theorem name_spec {led : List (Addr × Obj)} {i : Nat} {a' n' : Int} {tk : Tok} (B : Below A₀ base outer h₀) (F : Fr h₀ L s.heap m) (X : (Mine.kk.heap_1 w.params).In h₀) (T : Top p loose mean mg mb h₀) (hk : cs.kind = .function) (hd : dp + 5 < recursionLimit) (hu : un + 60 < cLine) (N : News h₀ L s.heap led) (R : BookR w rest b bd tx an fu fn t1 t2 t3 t4) (S : BookS PG w rest0 oTx oAn oFu oFn xs fs K) (hz : K ≤ 100000) (hs0 : ∀ p ∈ rest0, p ∈ led) (m1 : (fu, oFu) ∈ led) (hs : ∀ p ∈ rest, p ∈ led) (hx : fs[i]? = some [a', n'])
  (hret : ∀ t h' tk', Fr h₀ L h' m → News h₀ L h' led → Q (.int a' t) { s with heap := h', toks := tk' }) :
  wpAny (model PySem.Challenge.rw_ok0024_01.row.prog w) (ktrTop dp un gd cn cs L a ccd cl outer) (call (.ref 84) [.ref b, .int i tk]) Q E s := by
  obtain ⟨hsz, _, _, ⟨rows, n, rfl, hf, hkk, hidx, hfs⟩⟩ := S
  have hi : i < 2 ^ 62 := by have := (List.getElem?_eq_some_iff.mp hx).1; omega
  rw [← hfs, List.getElem?_map] at hx
  obtain ⟨row, hr, he⟩ := Option.map_eq_some_iff.mp hx
  obtain ⟨a2, n2, t, u, c, e1, hm⟩ := hkk row (List.mem_of_getElem? hr)
  rw [he] at e1
  injection e1 with e1 e2
  injection e2 with e2 _
  subst e1 e2
  have hv : (rows.map fun r => Value.ref r.2.1)[i]? = some (.ref row.2.1) := by rw [List.getElem?_map, hr]; rfl
  have hm' := hs0 _ hm
  have hb := hs _ R.hb
  have hbd := hs _ R.hbd
  clear R hkk hm
  generalize row.2.1 = ra at *
  revert X; k_fill; intro X
  refine wpAny_call ?_
  k_dflt k_enter
  (refine sq_A ?_; intro A9)
  k_steps
  all_goals exact hret _ _ _ (by k_asm) (by k_asm)
theorem label_spec {led : List (Addr × Obj)} {i j : Nat} {n' : Int} {x : Str} {tk : Tok} (B : Below A₀ base outer h₀) (F : Fr h₀ L s.heap m) (X : (Mine.kk.heap_1 w.params).In h₀) (T : Top p loose mean mg mb h₀) (hk : cs.kind = .function) (hd : dp + 5 < recursionLimit) (hu : un + 60 < cLine) (N : News h₀ L s.heap led) (R : BookR w rest b bd tx an fu fn t1 t2 t3 t4) (S : BookS PG w rest0 oTx oAn oFu oFn xs fs K) (hz : K ≤ 100000) (hs0 : ∀ p ∈ rest0, p ∈ led) (m1 : (fu, oFu) ∈ led) (m2 : (tx, oTx) ∈ led) (hs : ∀ p ∈ rest, p ∈ led) (hx : fs[i]? = some [((j : Nat) : Int), n']) (hy : xs[j]? = some x) (hn0 : 0 ≤ n') (hn1 : n' < 10) (hxl : x.length ≤ 1000)
  (hret : ∀ t h' tk', Fr h₀ L h' m → News h₀ L h' led → Q (.str (x ++ Str.ofString "/" ++ Str.ofString (toString n')) t) { s with heap := h', toks := tk' }) :
  wpAny (model PySem.Challenge.rw_ok0024_01.row.prog w) (ktrTop dp un gd cn cs L a ccd cl outer) (call (.ref 98) [.ref b, .int i tk]) Q E s := by
  obtain ⟨hsz, ⟨its, nt, rfl, hT⟩, _, ⟨rows, n, rfl, hf, hkk, hidx, hfs⟩⟩ := S
  have hi : i < 2 ^ 62 := by have := (List.getElem?_eq_some_iff.mp hx).1; omega
  have hj : j < 2 ^ 62 := by have := (List.getElem?_eq_some_iff.mp hy).1; omega
  obtain ⟨tx0, hv2⟩ := hT.get j x hy
  rw [← hfs, List.getElem?_map] at hx
  obtain ⟨row, hr, he⟩ := Option.map_eq_some_iff.mp hx
  obtain ⟨a2, n2, t, u, c, e1, hm⟩ := hkk row (List.mem_of_getElem? hr)
  rw [he] at e1
  injection e1 with e1 e2
  injection e2 with e2 _
  subst e1 e2
  have hv : (rows.map fun r => Value.ref r.2.1)[i]? = some (.ref row.2.1) := by rw [List.getElem?_map, hr]; rfl
  have hm' := hs0 _ hm
  have hb := hs _ R.hb
  have hbd := hs _ R.hbd
  clear R hkk hm
  generalize row.2.1 = ra at *
  revert X; k_fill; intro X
  refine wpAny_call ?_
  k_dflt k_enter
  (refine sq_A ?_; intro A9)
  k_steps
  all_goals (refine' ret_sN hret ?e ?f ?n ?s; (case f => k_asm); (case n => assumption); (case s => (intro _ hp; first | exact hp | exact List.mem_append_left _ hp | exact List.mem_cons_of_mem _ hp | (simp only [List.mem_append, List.mem_cons]; simp [hp]; done))); (case e => (refine Eq.symm ?_; first | rfl | (simp only [Str.empty_append]; done) | (simp only [Str.empty_append]; rfl))))
example : True := by k_with_none; (k_with "x_k_room" => ((try simp (config := {zetaDelta := true}) only [depth_under_make, depth_under_kw, depth_in1, depth_deeper, depth_caller]); (try dsimp only [ktrTop]); (first | (refine' rm0 ?ha_q17; (case ha_q17 => assumption)) | (refine' rm1 ?ha_q17 ?hb_q17; (case ha_q17 => assumption); (case hb_q17 => exact rfl)) | (refine' rm2 ?ha_q17 ?hb_q17; (case ha_q17 => assumption); (case hb_q17 => exact rfl)) | (refine' rm3 ?ha_q17 ?hb_q17; (case ha_q17 => assumption); (case hb_q17 => exact rfl)) | (refine' rm4 ?ha_q17 ?hb_q17; (case ha_q17 => assumption); (case hb_q17 => exact rfl)) | omega))); (k_with "x_ktr_units" => ((try simp (config := {zetaDelta := true}) only [units_under_make, units_in1, units_deeper, Around.mark_units, units_caller]); (try dsimp only [ktrTop]); (first | (refine' rm0 ?ha_q18; (case ha_q18 => assumption)) | (refine' rm1 ?ha_q18 ?hb_q18; (case ha_q18 => assumption); (case hb_q18 => exact rfl)) | (refine' rm2 ?ha_q18 ?hb_q18; (case ha_q18 => assumption); (case hb_q18 => exact rfl)) | (refine' rm3 ?ha_q18 ?hb_q18; (case ha_q18 => assumption); (case hb_q18 => exact rfl)) | (refine' rm4 ?ha_q18 ?hb_q18; (case ha_q18 => assumption); (case hb_q18 => exact rfl)) | omega))); (k_with "execs cons" => (k_here; (with_reducible refine sq_tok ?_); intro tk')); (k_with "subscriptTail Name Constant ref int" => (k_here; (with_reducible show wpAny _ _ (subscriptTail _ _ (Value.ref _) (Value.int _ _)) _ _ _); k_dflt (first | (refine' item_tupleT ?t_q20 ?a_q20 ?b_q20 ?c_q20 ?d_q20 ?_; (case t_q20 => (refine' News.isTup ?t1_q20 ?t2_q20; (case t1_q20 => k_asm); (case t2_q20 => k_mem))); (case a_q20 => decide); (case b_q20 => decide); (case c_q20 => rfl); (case d_q20 => rfl); k_whole) | (refine' c_item_lit ?N_q20 ?m_q20 ?a2_q20 ?b2_q20 ?d2_q20 ?_; (case N_q20 => k_asm); (case m_q20 => k_mem); (case a2_q20 => decide); (case b2_q20 => decide); (case d2_q20 => rfl); k_whole)))); (k_with "eval Call Name" => (k_here; with_unfolding_all refine Call_ ?_)); (k_with "x_k_all" => first | assumption | exact List.forall_mem_nil _ | (refine' List.forall_mem_append.mpr ⟨?_, ?_⟩; (focus k_all); k_all) | (refine' List.forall_mem_cons.mpr ⟨?_, ?_⟩; (focus k_ne); k_all) | exact allNeP (by assumption) | (refine' Above.off ?hA_q22 ?hM_q22; (case hA_q22 => assumption); (case hM_q22 => k_mem)) | (refine' alt_all ?lh_q22 ?ls_q22; (case lh_q22 => assumption); (case ls_q22 => k_allIn)) | exact allNe0 (by assumption) | exact allNe1 (by assumption) | exact allNe2 (by assumption) | exact allNe3 (by assumption) | exact allNe4 (by assumption) | exact allNe5 (by assumption) | exact allNe6 (by assumption)); (k_with "x_k_ne" => first | assumption | (refine' alt_ne1 ?lh_q23 ?lm_q23; (case lh_q23 => assumption); (case lm_q23 => k_mem)) | (refine' alt_ne2 ?lh_q23 ?lm_q23; (case lh_q23 => assumption); (case lm_q23 => k_mem)) | (refine' alt_ne3 ?lx_q23 ?lh_q23 ?lm_q23; (case lx_q23 => assumption); (case lh_q23 => assumption); (case lm_q23 => k_mem)) | (refine' alt_ne4 ?lx_q23 ?lh_q23 ?lm_q23; (case lx_q23 => assumption); (case lh_q23 => assumption); (case lm_q23 => k_mem)) | (refine' Ne.symm ?_; assumption) | (refine neN ?_; refine' Ne.symm ?_; assumption) | (refine neN ?_; (try dsimp only); omega) | (refine' news_ne_cls ?nN_q23 ?n1_q23 ?n2_q23 ?n3_q23; (case nN_q23 => assumption); (case n1_q23 => k_mem); (case n2_q23 => k_mem); (case n3_q23 => (intro e9; exact absurd (Value.type.inj e9) (by decide)))) | (refine neN ?_; (try dsimp only); (simp only [List.forall_mem_cons] at *); omega)); (k_with "x_k_mem" => first | assumption | exact List.mem_cons_self | (refine' List.mem_cons_of_mem _ ?_; k_mem) | (refine' List.mem_append_left _ ?_; k_mem) | (refine' List.mem_append_right _ ?_; k_mem)); (k_with "x_k_upd" => first | exact Pull.head | (refine' Pull.tail ?b_q25; (case b_q25 => k_upd)) | (refine' Pull.under _ ?b_q25; (case b_q25 => k_upd))); (k_with "x_k_allIn" => first | assumption | (intro p9 h9; k_mem) | (refine' List.forall_mem_append.mpr ⟨?_, ?_⟩; (focus k_allIn); k_allIn) | exact List.forall_mem_nil _ | exact sub_l (by assumption)); (k_with "x_k_enter" => first | ktr_enter | (refine' code_def ?k1_q27 ?k2_q27 ?k3_q27 ?k4_q27 ?k5_q27 ?kA_q27 ?kF_q27 ?kK_q27 ?k6_q27 ?k7_q27 ?k8_q27 ?k9_q27 ?kB_q27 ?_ ?c2_q27 ?c3_q27 ?c4_q27 ?c5_q27; (case kA_q27 => exact rfl); (case kF_q27 => exact rfl); (case kK_q27 => first | exact rfl | assumption); (case k1_q27 => k_asm); (case k2_q27 => k_asm); (case k3_q27 => k_asm); (case k4_q27 => k_asm); (case k5_q27 => k_asm); (case k6_q27 => k_is); (case k7_q27 => k_is); (case k8_q27 => ktr_room); (case k9_q27 => exact binds_K (by k_in) rfl (by k_is) rfl rfl rfl); (case c5_q27 => decide); (case kB_q27 => exact locs rfl); (case c2_q27 => exact rfl); (case c3_q27 => exact rfl); (case c4_q27 => exact rfl); k_whole; intro g' L' h' FG' F' N' B' X' T'; (try dsimp only); (try k_fold))); exact trivial
end
end
section
section
variable {prog : Program} {w : World} {A : Around} {E : Value → Shared → Prop} {s : Shared} {env : Env} {h₀ : Heap} {x : Str} {body : List Stmt} {Q : Flow → Shared → Prop}
theorem iter_tup {ta : Addr} {items : List Value} {c : Nat} {m₀ : Str → Option Value} {news news0 : List (Addr × Obj)} (J : Nat → (Str → Option Value) → List (Addr × Obj) → Prop)
    (hh : A.handled = none) (F : Fr h₀ env.locals s.heap m₀) (N : News h₀ env.locals s.heap news0) (hta : (ta, tupO items c) ∈ news0) (hs : ∀ p ∈ news, p ∈ news0) (hoff : ∀ p ∈ news, p.1 ≠ ta) (hj : J 0 m₀ news)
    (turn : ∀ i v m₁ nx h tk own, items[i]? = some v → TbOff own nx → J i m₁ nx → Fr h₀ env.locals h (fun y => if y = x then some v else m₁ y) → News h₀ env.locals h (nx ++ own) →
      wpAny (model prog w) A (execs body env) (TbPost h₀ env.locals (J (i + 1)) own { s with heap := h, toks := tk } Q) E { s with heap := h, toks := tk })
    (done : ∀ m₁ nx h tk, J items.length m₁ nx → Fr h₀ env.locals h m₁ → News h₀ env.locals h nx → Q .next { s with heap := h, toks := tk }) :
    wpAny (model prog w) A (pyIter (.ref ta)) (fun it s₂ => LoopAtV prog w A h₀ env x body Q E it s₂) E s := by
  have hls : s.heap.IsTuple ta items.toArray := ⟨_, (N _ hta).1, rfl, c, rfl⟩
  have hlt : ta < s.heap.objs.size := Heap.lt_size (N _ hta).1
  have hne : ta ≠ s.heap.objs.size := Nat.ne_of_lt hlt
  refine wpAny_pyIter_tuple hls ?_
  have W := Walks.tuple (prog := prog) (w := w) hh s.heap.objs.size ta hne items.toArray
  have hlen : items.toArray.size = items.length := by simp
  rw [hlen] at W
  have N0 : News h₀ env.locals s.heap news := cb_drop N hs
  refine ⟨_, _, _, items.length, _, _, m₀, news, (fun i m nx => J i m nx ∧ ∀ p ∈ nx, p.1 ≠ ta), rfl, W, ?_, ?_, ?_, ⟨⟨_, Heap.get?_push_size _ rfl, rfl, rfl⟩, hls.at fun o e => Heap.get?_push_of_some _ e⟩, F.push _, (fun p hp => ⟨Heap.get?_push_of_some _ (N0 p hp).1, (N0 p hp).2⟩), ⟨hj, hoff⟩, ?_, ?_⟩
  · intro hm
    rcases List.mem_cons.mp hm with e | hm
    · exact absurd F.ns.lt (e ▸ Nat.lt_irrefl _)
    · exact (N _ hta).2.1 (List.mem_singleton.mp hm).symm
  · intro b hb
    rw [List.mem_singleton.mp hb]
    exact next_is_new F
  · intro p hp hI
    exact absurd (Heap.lt_size (N0 p hp).1) ((List.mem_singleton.mp hI) ▸ Nat.lt_irrefl _)
  · rintro i v m₁ news₁ s₁ own ⟨hh', tk', rfl⟩ hin hP ⟨hJ, hta'⟩ hoff' hown _ hmem hst F₁ N₁
    obtain ⟨⟨oi, hoi, _⟩, ⟨ot, hot, _⟩⟩ := hst
    have hI : (s.heap.objs.size, oi) ∈ own := hmem _ (.head _) (next_is_new F) oi hoi
    have hT : (ta, ot) ∈ own := hmem _ (.tail _ (.head _)) (N _ hta).2.2 ot hot
    have hsep : TbOff own news₁ := by
      intro p hp q hq e
      rcases List.mem_cons.mp (hown p hp) with h1 | h1
      · exact hoff' q hq (List.mem_singleton.mpr (by rw [← e, h1]))
      · exact hta' q hq (by rw [← e]; exact List.mem_singleton.mp h1)
    have N₂ : News h₀ env.locals hh' (news₁ ++ own) := fun p hp => N₁ p ((List.mem_append.mp hp).elim (fun h => List.mem_append.mpr (.inr h)) fun h => List.mem_append.mpr (.inl h))
    refine wpAny_mono (turn i v m₁ news₁ hh' tk' own (by simpa using hP) hsep hJ F₁ N₂) (fun f s₂ p => ?_) fun _ _ e => e
    have fin : TbEnd h₀ env.locals (J (i + 1)) own { s with heap := hh', toks := tk' } s₂ → LoopStepU h₀ env.locals [s.heap.objs.size] own (fun m nx => J (i + 1) m nx ∧ ∀ p ∈ nx, p.1 ≠ ta) { s with heap := hh', toks := tk' } .next s₂ := by
      rintro ⟨h', tk, m', news', nx, e, F', N', hn, ho, ha, hm⟩
      exact ⟨rfl, h', tk, m', nx, e, F', fun p hp => N' p ((List.mem_append.mp hp).elim (ho p) (hn p)), fun p hp hq => ha _ hI p hp (List.mem_singleton.mp hq).symm, hm, fun p hp e => ha _ hT p hp e.symm⟩
    cases f with
    | ret v => exact .ret p
    | brk => exact .brk p
    | next => exact .next (fin p)
    | cont => exact .cont (fin p)
  · rintro h' tk m' news' F' N' _ hJ
    exact done m' news' h' tk hJ.1 F' N'
end
section
variable {prog : Program} {w : World} {A : Around} {E : Value → Shared → Prop} {s : Shared} {env : Env} {h₀ : Heap} {x : Str} {body : List Stmt} {Q : Flow → Shared → Prop}
noncomputable def Off4 (tx an fu fn : Addr) (tl : List (Addr × Obj)) : Prop := (∀ p ∈ tl, p.1 ≠ tx) ∧ (∀ p ∈ tl, p.1 ≠ an) ∧ (∀ p ∈ tl, p.1 ≠ fu) ∧ ∀ p ∈ tl, p.1 ≠ fn
noncomputable def BkJ (prog : Program) (w : World) (x : Str) (m₀ : Str → Option Value) (rest r9 : List (Addr × Obj)) (b bd tx an fu fn : Addr) (t1 t2 t3 t4 : Tok) (gx : Nat → List Str) (gf : Nat → List (List Int)) (K : Nat → Nat) (i : Nat) (m : Str → Option Value) (nx : List (Addr × Obj)) : Prop :=
  ∃ oTx oAn oFu oFn tl, nx = (tx, oTx) :: (an, oAn) :: (fu, oFu) :: (fn, oFn) :: (rest ++ tl) ∧ Above ((tx, oTx) :: (an, oAn) :: (fu, oFu) :: (fn, oFn) :: rest) tl ∧ BookR w (rest ++ tl) b bd tx an fu fn t1 t2 t3 t4 ∧ BookS prog w (r9 ++ tl) oTx oAn oFu oFn (gx i) (gf i) (K i) ∧ ∀ z, z ≠ x → m z = m₀ z
theorem iter_book {ta b bd tx an fu fn : Addr} {t1 t2 t3 t4 : Tok} {oTx oAn oFu oFn : Obj} {items : List Value} {c : Nat} {m₀ : Str → Option Value} {rest0 r9 news0 r0 r1 r2 r3 : List (Addr × Obj)} (gx : Nat → List Str) (gf : Nat → List (List Int)) (K : Nat → Nat)
    (hh : A.handled = none) (F : Fr h₀ env.locals s.heap m₀) (N : News h₀ env.locals s.heap news0) (hK : ∀ i, i < items.length → K i ≤ 90000) (_hbd0 : (bd, bookD w t1 t2 t3 t4 tx an fu fn) ∈ news0) (P : Pull ta (tupO items c) news0 r0) (P1 : Pull tx oTx r0 r1) (P2 : Pull an oAn r1 r2) (P3 : Pull fu oFu r2 r3) (P4 : Pull fn oFn r3 rest0) (hoff : ∀ p ∈ r0, p.1 ≠ ta)
    (R : BookR w rest0 b bd tx an fu fn t1 t2 t3 t4) (hr9 : ∀ p ∈ r9, p ∈ rest0) (S : BookS prog w r9 oTx oAn oFu oFn (gx 0) (gf 0) (K 0))
    (turn : ∀ rest, (∀ p ∈ rest0, p ∈ rest) → (∀ p ∈ rest, p ∈ rest0) → (∀ p ∈ rest, p.1 ≠ tx) → (∀ p ∈ rest, p.1 ≠ an) → (∀ p ∈ rest, p.1 ≠ fu) → (∀ p ∈ rest, p.1 ≠ fn) → (b, instObj 122 bd) ∈ rest → (bd, bookD w t1 t2 t3 t4 tx an fu fn) ∈ rest → (∀ p ∈ r9, p ∈ rest) → ∀ i v (m₁ : Str → Option Value) oTx oAn oFu oFn tl own h tk, items[i]? = some v → K i ≤ 90000 → (∀ p ∈ tl, p.1 ≠ tx) → (∀ p ∈ tl, p.1 ≠ an) → (∀ p ∈ tl, p.1 ≠ fu) → (∀ p ∈ tl, p.1 ≠ fn) → (∀ p ∈ own, p.1 ≠ tx) → (∀ p ∈ own, p.1 ≠ an) → (∀ p ∈ own, p.1 ≠ fu) → (∀ p ∈ own, p.1 ≠ fn) → TbOff own ((tx, oTx) :: (an, oAn) :: (fu, oFu) :: (fn, oFn) :: (rest ++ tl)) → Above ((tx, oTx) :: (an, oAn) :: (fu, oFu) :: (fn, oFn) :: rest) tl → BookR w (rest ++ tl) b bd tx an fu fn t1 t2 t3 t4 → BookS prog w (r9 ++ tl) oTx oAn oFu oFn (gx i) (gf i) (K i) → (∀ z, z ≠ x → m₁ z = m₀ z) →
      Fr h₀ env.locals h (fun y => if y = x then some v else m₀ y) → News h₀ env.locals h ((tx, oTx) :: (an, oAn) :: (fu, oFu) :: (fn, oFn) :: (rest ++ (tl ++ own))) →
      wpAny (model prog w) A (execs body env) (TbPost h₀ env.locals (BkJ prog w x m₀ rest r9 b bd tx an fu fn t1 t2 t3 t4 gx gf K (i + 1)) own { s with heap := h, toks := tk } Q) E { s with heap := h, toks := tk })
    (done : ∀ rest, (∀ p ∈ rest0, p ∈ rest) → (∀ p ∈ rest, p ∈ rest0) → (∀ p ∈ rest, p.1 ≠ tx) → (∀ p ∈ rest, p.1 ≠ an) → (∀ p ∈ rest, p.1 ≠ fu) → (∀ p ∈ rest, p.1 ≠ fn) → (b, instObj 122 bd) ∈ rest → (bd, bookD w t1 t2 t3 t4 tx an fu fn) ∈ rest → (∀ p ∈ r9, p ∈ rest) → ∀ (u : Str → Option Value) oTx oAn oFu oFn tl h tk, Above ((tx, oTx) :: (an, oAn) :: (fu, oFu) :: (fn, oFn) :: rest) tl → BookR w (rest ++ tl) b bd tx an fu fn t1 t2 t3 t4 → BookS prog w (r9 ++ tl) oTx oAn oFu oFn (gx items.length) (gf items.length) (K items.length) → Fr h₀ env.locals h (fun y => if y = x then u y else m₀ y) → News h₀ env.locals h ((tx, oTx) :: (an, oAn) :: (fu, oFu) :: (fn, oFn) :: (rest ++ tl)) → Q .next { s with heap := h, toks := tk }) :
    wpAny (model prog w) A (pyIter (.ref ta)) (fun it s₂ => LoopAtV prog w A h₀ env x body Q E it s₂) E s := by
  replace turn := turn rest0 (fun _ h => h) (fun _ h => h) R.o1 R.o2 R.o3 R.o4 R.hb R.hbd hr9
  replace done := done rest0 (fun _ h => h) (fun _ h => h) R.o1 R.o2 R.o3 R.o4 R.hb R.hbd hr9
  have hr : ∀ p ∈ (tx, oTx) :: (an, oAn) :: (fu, oFu) :: (fn, oFn) :: rest0, p ∈ r0 := by
    intro p hp
    rcases List.mem_cons.mp hp with h | hp
    · rw [h]; exact P1.sub _ (.head _)
    refine P1.sub _ (.tail _ ?_)
    rcases List.mem_cons.mp hp with h | hp
    · rw [h]; exact P2.sub _ (.head _)
    refine P2.sub _ (.tail _ ?_)
    rcases List.mem_cons.mp hp with h | hp
    · rw [h]; exact P3.sub _ (.head _)
    refine P3.sub _ (.tail _ ?_)
    exact P4.sub _ hp
  refine iter_tup (BkJ prog w x m₀ rest0 r9 b bd tx an fu fn t1 t2 t3 t4 gx gf K) hh F N (P.sub _ (.head _)) (fun p hp => P.sub p (.tail _ (hr p hp))) (fun p hp => hoff p (hr p hp)) ⟨oTx, oAn, oFu, oFn, [], by rw [List.append_nil], Above.nil, by rw [List.append_nil]; exact R, by rw [List.append_nil]; exact S, fun _ _ => rfl⟩ ?_ ?_
  · rintro i v m₁ nx h tk own hv hsep ⟨oTx, oAn, oFu, oFn, tl, rfl, hA, R', S', hm⟩ F₁ N₁
    have e : (fun y => if y = x then some v else m₁ y) = fun y => if y = x then some v else m₀ y := by
      funext y; by_cases h1 : y = x
      · simp [h1]
      · simp [h1, hm y h1]
    rw [e] at F₁
    simp only [List.cons_append, List.append_assoc] at N₁
    exact turn i v m₁ oTx oAn oFu oFn tl own h tk hv (hK i (List.getElem?_eq_some_iff.mp hv).1) (hA.off (by k_mem)) (hA.off (by k_mem)) (hA.off (by k_mem)) (hA.off (by k_mem)) (fun p hp => hsep p hp _ (.head _)) (fun p hp => hsep p hp _ (.tail _ (.head _))) (fun p hp => hsep p hp _ (.tail _ (.tail _ (.head _)))) (fun p hp => hsep p hp _ (.tail _ (.tail _ (.tail _ (.head _))))) hsep hA R' S' hm F₁ N₁
  · rintro m₁ nx h tk ⟨oTx, oAn, oFu, oFn, tl, rfl, hA, R', S', hm⟩ F₁ N₁
    have e : m₁ = fun y => if y = x then m₁ y else m₀ y := by
      funext y; by_cases h1 : y = x
      · simp [h1]
      · simp [h1, hm y h1]
    rw [e] at F₁
    exact done m₁ oTx oAn oFu oFn tl h tk hA R' S' F₁ N₁
-- the end of a turn: what the call has made (tl2) goes after the loop's own
theorem book_end {b bd tx an fu fn : Addr} {t1 t2 t3 t4 : Tok} {oTx oAn oFu oFn oTx' oAn' oFu' oFn' : Obj} {L : Addr} {m₀ m' : Str → Option Value} {rest r9 tl own tl2 : List (Addr × Obj)} {gx : Nat → List Str} {gf : Nat → List (List Int)} {K : Nat → Nat} {i : Nat} {xs' : List Str} {fs' : List (List Int)} {K' : Nat} {s₁ : Shared} {h' : Heap} {tk : Nat}
    (F : Fr h₀ L h' m') (N : News h₀ L h' ((tx, oTx') :: (an, oAn') :: (fu, oFu') :: (fn, oFn') :: (rest ++ (tl ++ (own ++ tl2)))))
    (hsep : TbOff own ((tx, oTx) :: (an, oAn) :: (fu, oFu) :: (fn, oFn) :: (rest ++ tl))) (hA0 : Above ((tx, oTx) :: (an, oAn) :: (fu, oFu) :: (fn, oFn) :: rest) tl) (hA : Above ((tx, oTx) :: (an, oAn) :: (fu, oFu) :: (fn, oFn) :: (rest ++ (tl ++ own))) tl2) (R : BookR w (rest ++ tl) b bd tx an fu fn t1 t2 t3 t4)
    (S : BookS prog w (r9 ++ (tl ++ tl2)) oTx' oAn' oFu' oFn' xs' fs' K') (ex : xs' = gx (i+1)) (ef : fs' = gf (i+1)) (ek : K' ≤ K (i+1)) (hm : ∀ z, z ≠ x → m' z = m₀ z) :
    TbEnd h₀ L (BkJ prog w x m₀ rest r9 b bd tx an fu fn t1 t2 t3 t4 gx gf K (i+1)) own s₁ { s₁ with heap := h', toks := tk } := by
  subst ex ef
  refine ⟨h', tk, m', _, (tx, oTx') :: (an, oAn') :: (fu, oFu') :: (fn, oFn') :: (rest ++ (tl ++ tl2)), rfl, F, N, ?_, ?_, ?_, ⟨oTx', oAn', oFu', oFn', tl ++ tl2, rfl, ?_, ?_, S.le ek, hm⟩⟩
  · intro p hp
    simp only [List.mem_cons, List.mem_append] at hp ⊢
    rcases hp with h | h | h | h | h | h | h <;> simp [h]
  · intro p hp
    simp only [List.mem_cons, List.mem_append]; simp [hp]
  · intro p hp q hq
    rcases List.mem_cons.mp hq with rfl | hq
    · exact hsep p hp (tx, oTx) (.head _)
    rcases List.mem_cons.mp hq with rfl | hq
    · exact hsep p hp (an, oAn) (.tail _ (.head _))
    rcases List.mem_cons.mp hq with rfl | hq
    · exact hsep p hp (fu, oFu) (.tail _ (.tail _ (.head _)))
    rcases List.mem_cons.mp hq with rfl | hq
    · exact hsep p hp (fn, oFn) (.tail _ (.tail _ (.tail _ (.head _))))
    rw [← List.append_assoc] at hq
    rcases List.mem_append.mp hq with hq | hq
    · exact hsep p hp q (.tail _ (.tail _ (.tail _ (.tail _ hq))))
    · refine Nat.ne_of_lt (hA p ?_ q hq)
      simp [hp]
  · refine Above.same (l := (tx, oTx) :: (an, oAn) :: (fu, oFu) :: (fn, oFn) :: rest) (Above.append hA0 (hA.sub fun p hp => ?_)) rfl
    simp only [List.map_cons, List.map_append, List.mem_cons, List.mem_append] at hp ⊢
    rcases hp with h | h | h | h | h
    · simp [h]
    · simp [h]
    · simp [h]
    · simp [h]
    · have := List.mem_map_of_mem (f := fun p : Addr × Obj => p.1) h
      simp only [this, true_or, or_true]
  · rw [← List.append_assoc]
    exact R.mono (fun _ h => List.mem_append_left _ h) (List.forall_mem_append.mpr ⟨R.o1, hA.off (.head _)⟩) (List.forall_mem_append.mpr ⟨R.o2, hA.off (.tail _ (.head _))⟩) (List.forall_mem_append.mpr ⟨R.o3, hA.off (.tail _ (.tail _ (.head _)))⟩) (List.forall_mem_append.mpr ⟨R.o4, hA.off (.tail _ (.tail _ (.tail _ (.head _))))⟩)
theorem book_end0 {b bd tx an fu fn : Addr} {t1 t2 t3 t4 : Tok} {oTx oAn oFu oFn oTx' oAn' oFu' oFn' : Obj} {L : Addr} {m₀ m' : Str → Option Value} {rest r9 tl own : List (Addr × Obj)} {gx : Nat → List Str} {gf : Nat → List (List Int)} {K : Nat → Nat} {i : Nat} {xs' : List Str} {fs' : List (List Int)} {K' : Nat} {s₁ : Shared} {h' : Heap} {tk : Nat}
    (F : Fr h₀ L h' m') (N : News h₀ L h' ((tx, oTx') :: (an, oAn') :: (fu, oFu') :: (fn, oFn') :: (rest ++ (tl ++ own))))
    (hsep : TbOff own ((tx, oTx) :: (an, oAn) :: (fu, oFu) :: (fn, oFn) :: (rest ++ tl))) (hA0 : Above ((tx, oTx) :: (an, oAn) :: (fu, oFu) :: (fn, oFn) :: rest) tl) (R : BookR w (rest ++ tl) b bd tx an fu fn t1 t2 t3 t4)
    (S : BookS prog w (r9 ++ tl) oTx' oAn' oFu' oFn' xs' fs' K') (ex : xs' = gx (i+1)) (ef : fs' = gf (i+1)) (ek : K' ≤ K (i+1)) (hm : ∀ z, z ≠ x → m' z = m₀ z) :
    TbEnd h₀ L (BkJ prog w x m₀ rest r9 b bd tx an fu fn t1 t2 t3 t4 gx gf K (i+1)) own s₁ { s₁ with heap := h', toks := tk } :=
  book_end (tl2 := []) F (by rw [List.append_nil]; exact N) hsep hA0 Above.nil R (by rw [List.append_nil]; exact S) ex ef ek hm
end
end
example : True := by k_with_none; exact trivial
end
section
inductive Split (news : List (Addr × Obj)) : List (Addr × Obj) → List (Addr × Obj) → Prop
  | done : Split news news []
  | cons {p l tl} : (∀ q ∈ l, q.1 < p.1) → Split news l tl → Split news (p :: l) (p :: tl)
theorem Split.eq {news l tl : List (Addr × Obj)} (h : Split news l tl) : l = tl ++ news := by
  induction h with
  | done => rfl
  | cons _ _ ih => rw [ih]; rfl
theorem Split.sub {news l tl : List (Addr × Obj)} (h : Split news l tl) : ∀ p ∈ news, p ∈ l := by
  rw [h.eq]; exact fun p hp => List.mem_append_right _ hp
theorem Split.above {news l tl : List (Addr × Obj)} (h : Split news l tl) : Above news tl := by
  induction h with
  | done => exact Above.nil
  | cons ha hs ih => exact Above.cons (fun q hq => ha q (hs.sub q hq)) ih
theorem Split.trans {n1 n2 l t1 t2 : List (Addr × Obj)} (h : Split n1 n2 t1) (h2 : Split n2 l t2) : Split n1 l (t2 ++ t1) := by
  induction h2 with
  | done => exact h
  | cons ha _ ih => exact .cons ha ih
theorem all_strs {vs : List Value} : ∀ {xs : List Str}, DataAre vs (xs.map PyData.str) → StrsAre vs xs := by
  intro xs h
  induction xs generalizing vs with
  | nil => cases h; exact .nil
  | cons x xs ih =>
    cases h with
    | cons h1 h2 =>
      obtain ⟨t, rfl⟩ := datum_str h1
      exact .cons _ _ (ih h2)
inductive Al2 {α β : Type} (R : α → β → Prop) : List α → List β → Prop
  | nil : Al2 R [] []
  | cons {a b l r} : R a b → Al2 R l r → Al2 R (a :: l) (b :: r)
theorem Al2.mono {α β : Type} {R R' : α → β → Prop} {l : List α} {r : List β} (h : Al2 R l r) (k : ∀ a b, R a b → R' a b) : Al2 R' l r := by
  induction h with
  | nil => exact .nil
  | cons h _ ih => exact .cons (k _ _ h) ih
noncomputable def tupOf : Expr → Option (List Expr)
  | .Tuple es _ _ => some es
  | _ => none
theorem tupOf_eq {e : Expr} {es : List Expr} (h : tupOf e = some es) : ∃ k p, e = .Tuple es k p := by
  cases e <;> first | (cases h; exact ⟨_, _, rfl⟩) | cases h
noncomputable def cls2 (tl : List (Addr × Obj)) : Prop := ∀ p ∈ tl, p.2.cls = .type "tuple"
theorem cls2.cat {a b : List (Addr × Obj)} (h : cls2 a) (k : cls2 b) : cls2 (a ++ b) := fun p hp => (List.mem_append.mp hp).elim (h p) (k p)
section
variable {prog : Program} {w : World} {A : Around} {E : Value → Shared → Prop} {env : Env} {h₀ : Heap} {L : Addr} {m : Str → Option Value} {pos : Pos}
/-- a display of displays: each element evaluated by one rule -/
theorem spl_each {α : Type} (P : List (Addr × Obj) → Value → α → Prop) (hP : ∀ {l l' v a}, (∀ p ∈ l, p ∈ l') → P l v a → P l' v a) (f : Expr → Option α)
    (one : ∀ (e : Expr) (a : α), f e = some a → ∀ {s : Shared} {news : List (Addr × Obj)} {Q : Value → Shared → Prop}, Fr h₀ L s.heap m → News h₀ L s.heap news →
      (∀ v l tl h' tk', Split news l tl → cls2 tl → P tl v a → Fr h₀ L h' m → News h₀ L h' l → Q v { s with heap := h', toks := tk' }) → (∃ es, tupOf e = some es) ∧ wpAny (model prog w) A (eval e env) Q E s) :
    ∀ (es : List Expr) (as : List α), es.map f = as.map some → ∀ {s : Shared} {news : List (Addr × Obj)} {Q : List Value → Shared → Prop}, Fr h₀ L s.heap m → News h₀ L s.heap news →
      (∀ vs l tl h' tk', Split news l tl → cls2 tl → Al2 (P tl) vs as → Fr h₀ L h' m → News h₀ L h' l → Q vs { s with heap := h', toks := tk' }) → wpAny (model prog w) A (spliced (backTo pos (starEach es env))) Q E s
  | [], as, e, s, news, Q, F, N, h => by
    cases as with
    | nil => exact args_nil (h [] news [] s.heap s.toks .done (fun _ h => nomatch h) .nil F N)
    | cons _ _ => cases e
  | e :: es, as, he, s, news, Q, F, N, h => by
    cases as with
    | nil => cases he
    | cons a as =>
      obtain ⟨h1, h2⟩ := List.cons.inj he
      have z := one e a h1 (s := s) (news := news) (Q := fun v s₁ => wpAny (model prog w) A (spliced (backTo pos (starEach es env))) (fun vs s₂ => Q (v :: vs) s₂) E s₁) F N (fun v l tl h' tk' S T p F' N' => spl_each P hP f one es as h2 F' N' (fun vs l2 tl2 h2 tk2 S2 T2 p2 F2 N2 =>
        h (v :: vs) l2 (tl2 ++ tl) h2 tk2 (S.trans S2) (T2.cat T) (.cons (hP (fun _ h => List.mem_append_right _ h) p) (p2.mono fun _ _ q => hP (fun _ h => List.mem_append_left _ h) q)) F2 N2))
      obtain ⟨⟨es', x⟩, z⟩ := z
      obtain ⟨k, p, rfl⟩ := tupOf_eq x
      exact args_cons z
theorem one_flat {e : Expr} {ds : List PyData} (he : (tupOf e).bind tupLitsOf = some ds) {s : Shared} {news : List (Addr × Obj)} {Q : Value → Shared → Prop} (F : Fr h₀ L s.heap m) (N : News h₀ L s.heap news) (hz : ds.length ≤ 1000)
    (h : ∀ D vs h' tk', DataAre vs ds → (∀ p ∈ news, p.1 < D) → Fr h₀ L h' m → News h₀ L h' ((D, tupO vs 0) :: news) → Q (.ref D) { s with heap := h', toks := tk' }) : (∃ es, tupOf e = some es) ∧ wpAny (model prog w) A (eval e env) Q E s := by
  cases hx : tupOf e with
  | none => rw [hx] at he; cases he
  | some es =>
    rw [hx] at he
    obtain ⟨k, p, rfl⟩ := tupOf_eq hx
    refine ⟨⟨_, rfl⟩, Tuple_ (spliced_lits es ds s _ he fun vs tk hv => ?_)⟩
    exact kup_newTuple (s := { s with toks := tk }) F N (fun D h' F' N' l1 => h D vs h' tk hv l1 F' N') (by rw [dataAre_len hv, sizeLine_eq]; omega)
noncomputable def FlatP (tl : List (Addr × Obj)) (v : Value) (ds : List PyData) : Prop := ∃ a vs, v = .ref a ∧ (a, tupO vs 0) ∈ tl ∧ DataAre vs ds
noncomputable def flatE (e : Expr) : Option (List PyData) := match (tupOf e).bind tupLitsOf with
  | some ds => if ds.length ≤ 1000 then some ds else none
  | none => none
theorem flat_walk {es : List Expr} {k : Nat} {pos : Pos} {as : List (List PyData)} (he : es.map flatE = as.map some) (hz : as.length ≤ 1000) {s : Shared} {news : List (Addr × Obj)} {Q : Value → Shared → Prop} (F : Fr h₀ L s.heap m) (N : News h₀ L s.heap news)
    (h : ∀ D vs l tl h' tk', Split news l tl → (∀ p ∈ l, p.1 < D) → cls2 tl → Al2 (FlatP tl) vs as → Fr h₀ L h' m → News h₀ L h' ((D, tupO vs 0) :: l) → Q (.ref D) { s with heap := h', toks := tk' }) : wpAny (model prog w) A (eval (.Tuple es k pos) env) Q E s := by
  refine Tuple_ (spl_each FlatP (fun hs ⟨a, vs, e, m, d⟩ => ⟨a, vs, e, hs _ m, d⟩) flatE (fun e a hf s news Q F N hk => ?_) es as he F N fun vs l tl h' tk' S T p F' N' => ?_)
  · unfold flatE at hf
    split at hf
    · rename_i ds hd
      split at hf
      · rename_i hle
        cases hf
        exact one_flat hd F N hle fun D vs h' tk' hv l1 F' N' => hk _ _ [(D, tupO vs 0)] _ _ (.cons l1 .done) (by intro p hp; rw [List.mem_singleton.mp hp]) ⟨D, vs, rfl, .head _, hv⟩ F' N'
      · cases hf
    · cases hf
  · have hl : ∀ {vs : List Value} {as : List (List PyData)}, Al2 (FlatP tl) vs as → vs.length = as.length := by
      intro vs as h; induction h with
      | nil => rfl
      | cons _ _ ih => simp [ih]
    exact kup_newTuple (s := { s with heap := h', toks := tk' }) F' N' (fun D h2 F2 N2 l1 => h D vs l tl h2 tk' S l1 T p F2 N2) (by rw [hl p, sizeLine_eq]; omega)
theorem atoms_walk {es : List Expr} {k : Nat} {pos : Pos} {xs : List Str} (he : tupLitsOf es = some (xs.map PyData.str)) (hz : xs.length ≤ 1000) {s : Shared} {news : List (Addr × Obj)} {Q : Value → Shared → Prop} (F : Fr h₀ L s.heap m) (N : News h₀ L s.heap news)
    (h : ∀ D vs h' tk', StrsAre vs xs → (∀ p ∈ news, p.1 < D) → Fr h₀ L h' m → News h₀ L h' ((D, tupO vs 0) :: news) → Q (.ref D) { s with heap := h', toks := tk' }) : wpAny (model prog w) A (eval (.Tuple es k pos) env) Q E s :=
  (one_flat (e := .Tuple es k pos) he F N (by rw [List.length_map]; exact hz) fun D vs h' tk' hv l1 F' N' => h D vs h' tk' (all_strs hv) l1 F' N').2
noncomputable def OpP (tl : List (Addr × Obj)) (v : Value) (r : PyData × PyData × List PyData) : Prop := ∃ a n x y vs, v = .ref a ∧ (a, tupO [x, y, .ref n] 0) ∈ tl ∧ (n, tupO vs 0) ∈ tl ∧ IsDatum x r.1 ∧ IsDatum y r.2.1 ∧ DataAre vs r.2.2
noncomputable def opE (e : Expr) : Option (PyData × PyData × List PyData) := match tupOf e with
  | some [a, b, c] => match litDatum a, litDatum b, flatE c with
    | some x, some y, some z => some (x, y, z)
    | _, _, _ => none
  | _ => none
theorem one_op {e : Expr} {r : PyData × PyData × List PyData} (he : opE e = some r) {s : Shared} {news : List (Addr × Obj)} {Q : Value → Shared → Prop} (F : Fr h₀ L s.heap m) (N : News h₀ L s.heap news)
    (h : ∀ v l tl h' tk', Split news l tl → cls2 tl → OpP tl v r → Fr h₀ L h' m → News h₀ L h' l → Q v { s with heap := h', toks := tk' }) : (∃ es, tupOf e = some es) ∧ wpAny (model prog w) A (eval e env) Q E s := by
  unfold opE at he
  split at he
  · rename_i a b c hx
    split at he
    · rename_i x y z h1 h2 h3
      cases he
      obtain ⟨k, p, rfl⟩ := tupOf_eq hx
      refine ⟨⟨_, rfl⟩, ?_⟩
      cases hx
      unfold flatE at h3
      split at h3
      · rename_i ds hd
        split at h3
        · rename_i hle
          cases h3
          have hc : ∃ es k p, c = .Tuple es k p := by
            cases hq : tupOf c with
            | none => rw [hq] at hd; cases hd
            | some es => obtain ⟨k, p, q⟩ := tupOf_eq hq; exact ⟨es, k, p, q⟩
          obtain ⟨es, k', p', rfl⟩ := hc
          refine Tuple_ (args_cons (eval_litDatum h1 fun vx t1 hx => args_cons (eval_litDatum h2 fun vy t2 hy => args_cons ?_) (starEach_lit h2 _)) (starEach_lit h1 _))
          refine (one_flat (s := { s with toks := t2 }) hd F N hle fun D vs h' tk' hv l1 F' N' => ?_).2
          refine args_nil ?_
          exact kup_newTuple (s := { s with heap := h', toks := tk' }) F' N' (fun D2 h2 F2 N2 l2 => h _ _ [(D2, tupO [vx, vy, .ref D] 0), (D, tupO vs 0)] _ _ (.cons l2 (.cons l1 .done)) (by
            intro p hp
            rcases List.mem_cons.mp hp with rfl | hp
            · rfl
            · rw [List.mem_singleton.mp hp]) ⟨D2, D, vx, vy, vs, rfl, .head _, .tail _ (.head _), hx, hy, hv⟩ F2 N2) (by show 3 ≤ _; rw [sizeLine_eq]; decide)
        · cases h3
      · cases h3
    · cases he
  · cases he
theorem ops_walk {es : List Expr} {k : Nat} {pos : Pos} {as : List (PyData × PyData × List PyData)} (he : es.map opE = as.map some) (hz : as.length ≤ 1000) {s : Shared} {news : List (Addr × Obj)} {Q : Value → Shared → Prop} (F : Fr h₀ L s.heap m) (N : News h₀ L s.heap news)
    (h : ∀ D vs l tl h' tk', Split news l tl → (∀ p ∈ l, p.1 < D) → cls2 tl → Al2 (OpP tl) vs as → Fr h₀ L h' m → News h₀ L h' ((D, tupO vs 0) :: l) → Q (.ref D) { s with heap := h', toks := tk' }) : wpAny (model prog w) A (eval (.Tuple es k pos) env) Q E s := by
  refine Tuple_ (spl_each OpP (fun hs ⟨a, n, x, y, vs, e, m1, m2, d⟩ => ⟨a, n, x, y, vs, e, hs _ m1, hs _ m2, d⟩) opE (fun e a hf s news Q F N hk => one_op hf F N hk) es as he F N fun vs l tl h' tk' S T p F' N' => ?_)
  have hl : ∀ {vs : List Value} {as : List (PyData × PyData × List PyData)}, Al2 (OpP tl) vs as → vs.length = as.length := by
    intro vs as h; induction h with
    | nil => rfl
    | cons _ _ ih => simp [ih]
  exact kup_newTuple (s := { s with heap := h', toks := tk' }) F' N' (fun D h2 F2 N2 l1 => h D vs l tl h2 tk' S l1 T p F2 N2) (by rw [hl p, sizeLine_eq]; omega)
end
end
section
local macro_rules | `(tactic| k_lt $h:ident) => `(tactic| skip)
local macro_rules | `(tactic| k_room) => `(tactic| k_extra "x_k_room")
example : True := by (k_with "x_k_room" => ((try simp (config := {zetaDelta := true}) only [depth_under_make, depth_under_kw, depth_in1, depth_deeper, depth_caller]); (try dsimp only [ktrTop]); (first | (refine' rm0 ?ha_q41; (case ha_q41 => assumption)) | (refine' rm1 ?ha_q41 ?hb_q41; (case ha_q41 => assumption); (case hb_q41 => exact rfl)) | (refine' rm2 ?ha_q41 ?hb_q41; (case ha_q41 => assumption); (case hb_q41 => exact rfl)) | (refine' rm3 ?ha_q41 ?hb_q41; (case ha_q41 => assumption); (case hb_q41 => exact rfl)) | (refine' rm4 ?ha_q41 ?hb_q41; (case ha_q41 => assumption); (case hb_q41 => exact rfl)) | omega))); exact trivial
local macro_rules | `(tactic| ktr_room) => `(tactic| k_room)
local macro_rules | `(tactic| ktr_units) => `(tactic| k_extra "x_ktr_units")
example : True := by (k_with "x_ktr_units" => ((try simp (config := {zetaDelta := true}) only [units_under_make, units_in1, units_deeper, Around.mark_units, units_caller]); (try dsimp only [ktrTop]); (first | (refine' rm0 ?ha_q42; (case ha_q42 => assumption)) | (refine' rm1 ?ha_q42 ?hb_q42; (case ha_q42 => assumption); (case hb_q42 => exact rfl)) | (refine' rm2 ?ha_q42 ?hb_q42; (case ha_q42 => assumption); (case hb_q42 => exact rfl)) | (refine' rm3 ?ha_q42 ?hb_q42; (case ha_q42 => assumption); (case hb_q42 => exact rfl)) | (refine' rm4 ?ha_q42 ?hb_q42; (case ha_q42 => assumption); (case hb_q42 => exact rfl)) | omega))); exact trivial
local macro_rules | `(tactic| walk_at $s:str) => `(tactic| k_extra $s)
example : True := by (k_with "execs cons" => (k_here; (with_reducible refine sq_tok ?_); intro tk')); exact trivial
example : True := by (k_with "subscriptTail Name Constant ref int" => (k_here; (with_reducible show wpAny _ _ (subscriptTail _ _ (Value.ref _) (Value.int _ _)) _ _ _); k_dflt (first | (refine' item_tupleT ?t_q44 ?a_q44 ?b_q44 ?c_q44 ?d_q44 ?_; (case t_q44 => (refine' News.isTup ?t1_q44 ?t2_q44; (case t1_q44 => k_asm); (case t2_q44 => k_mem))); (case a_q44 => decide); (case b_q44 => decide); (case c_q44 => rfl); (case d_q44 => rfl); k_whole) | (refine' c_item_lit ?N_q44 ?m_q44 ?a2_q44 ?b2_q44 ?d2_q44 ?_; (case N_q44 => k_asm); (case m_q44 => k_mem); (case a2_q44 => decide); (case b2_q44 => decide); (case d2_q44 => rfl); k_whole)))); exact trivial
example : True := by (k_with "eval Call Name" => (k_here; with_unfolding_all refine Call_ ?_)); exact trivial
local macro_rules | `(tactic| k_all) => `(tactic| k_extra "x_k_all")
example : True := by (k_with "x_k_all" => first | assumption | exact List.forall_mem_nil _ | (refine' List.forall_mem_append.mpr ⟨?_, ?_⟩; (focus k_all); k_all) | (refine' List.forall_mem_cons.mpr ⟨?_, ?_⟩; (focus k_ne); k_all) | exact allNeP (by assumption) | (refine' Above.off ?hA_q46 ?hM_q46; (case hA_q46 => assumption); (case hM_q46 => k_mem)) | (refine' alt_all ?lh_q46 ?ls_q46; (case lh_q46 => assumption); (case ls_q46 => k_allIn)) | exact allNe0 (by assumption) | exact allNe1 (by assumption) | exact allNe2 (by assumption) | exact allNe3 (by assumption) | exact allNe4 (by assumption) | exact allNe5 (by assumption) | exact allNe6 (by assumption)); exact trivial
local macro_rules | `(tactic| k_ne) => `(tactic| k_extra "x_k_ne")
example : True := by (k_with "x_k_ne" => first | assumption | (refine' alt_ne1 ?lh_q47 ?lm_q47; (case lh_q47 => assumption); (case lm_q47 => k_mem)) | (refine' alt_ne2 ?lh_q47 ?lm_q47; (case lh_q47 => assumption); (case lm_q47 => k_mem)) | (refine' alt_ne3 ?lx_q47 ?lh_q47 ?lm_q47; (case lx_q47 => assumption); (case lh_q47 => assumption); (case lm_q47 => k_mem)) | (refine' alt_ne4 ?lx_q47 ?lh_q47 ?lm_q47; (case lx_q47 => assumption); (case lh_q47 => assumption); (case lm_q47 => k_mem)) | (refine' Ne.symm ?_; assumption) | (refine neN ?_; refine' Ne.symm ?_; assumption) | (refine neN ?_; (try dsimp only); omega) | (refine' news_ne_cls ?nN_q47 ?n1_q47 ?n2_q47 ?n3_q47; (case nN_q47 => assumption); (case n1_q47 => k_mem); (case n2_q47 => k_mem); (case n3_q47 => (intro e9; exact absurd (Value.type.inj e9) (by decide)))) | (refine neN ?_; (try dsimp only); (simp only [List.forall_mem_cons] at *); omega)); exact trivial
local macro_rules | `(tactic| k_mem) => `(tactic| k_extra "x_k_mem")
example : True := by (k_with "x_k_mem" => first | assumption | exact List.mem_cons_self | (refine' List.mem_cons_of_mem _ ?_; k_mem) | (refine' List.mem_append_left _ ?_; k_mem) | (refine' List.mem_append_right _ ?_; k_mem)); exact trivial
local macro_rules | `(tactic| k_upd) => `(tactic| k_extra "x_k_upd")
example : True := by (k_with "x_k_upd" => first | exact Pull.head | (refine' Pull.tail ?b_q49; (case b_q49 => k_upd)) | (refine' Pull.under _ ?b_q49; (case b_q49 => k_upd))); exact trivial
local macro_rules | `(tactic| k_allIn) => `(tactic| k_extra "x_k_allIn")
example : True := by (k_with "x_k_allIn" => first | assumption | (intro p9 h9; k_mem) | (refine' List.forall_mem_append.mpr ⟨?_, ?_⟩; (focus k_allIn); k_allIn) | exact List.forall_mem_nil _ | exact sub_l (by assumption)); exact trivial
local macro_rules | `(tactic| k_enter) => `(tactic| k_extra "x_k_enter")
example : True := by (k_with "x_k_enter" => first | ktr_enter | (refine' code_def ?k1_q51 ?k2_q51 ?k3_q51 ?k4_q51 ?k5_q51 ?kA_q51 ?kF_q51 ?kK_q51 ?k6_q51 ?k7_q51 ?k8_q51 ?k9_q51 ?kB_q51 ?_ ?c2_q51 ?c3_q51 ?c4_q51 ?c5_q51; (case kA_q51 => exact rfl); (case kF_q51 => exact rfl); (case kK_q51 => first | exact rfl | assumption); (case k1_q51 => k_asm); (case k2_q51 => k_asm); (case k3_q51 => k_asm); (case k4_q51 => k_asm); (case k5_q51 => k_asm); (case k6_q51 => k_is); (case k7_q51 => k_is); (case k8_q51 => ktr_room); (case k9_q51 => exact binds_K (by k_in) rfl (by k_is) rfl rfl rfl); (case c5_q51 => decide); (case kB_q51 => exact locs rfl); (case c2_q51 => exact rfl); (case c3_q51 => exact rfl); (case c4_q51 => exact rfl); k_whole; intro g' L' h' FG' F' N' B' X' T'; (try dsimp only); (try k_fold))); exact trivial
section
noncomputable def FA : List Str := [Str.ofString "[]", Str.ofString ".", Str.ofString "{}", Str.ofString "-", Str.ofString "+", Str.ofString "*", Str.ofString "/", Str.ofString ",", Str.ofString "|", Str.ofString ";", Str.ofString "->", Str.ofString "\\+", Str.ofString ":-", Str.ofString "?-", Str.ofString "-->", Str.ofString "!", Str.ofString "true", Str.ofString "fail", Str.ofString "false", Str.ofString "call", Str.ofString "=", Str.ofString "^", Str.ofString "error", Str.ofString "", Str.ofString "end_of_file", Str.ofString "system", Str.ofString "$VAR", Str.ofString "catch", Str.ofString "throw"]
noncomputable def FF : List (Str × Int) := [(Str.ofString ".", 2), (Str.ofString ",", 2), (Str.ofString ";", 2), (Str.ofString "->", 2), (Str.ofString "\\+", 1), (Str.ofString ":-", 2), (Str.ofString ":-", 1), (Str.ofString "?-", 1), (Str.ofString "-->", 2), (Str.ofString "{}", 1), (Str.ofString "=", 2), (Str.ofString "^", 2), (Str.ofString "-", 1), (Str.ofString "-", 2), (Str.ofString "+", 2), (Str.ofString "/", 2), (Str.ofString "error", 2), (Str.ofString "$VAR", 1), (Str.ofString "catch", 3), (Str.ofString "throw", 1), (Str.ofString "!", 0), (Str.ofString "true", 0), (Str.ofString "fail", 0), (Str.ofString "false", 0), (Str.ofString "call", 1), (Str.ofString "call", 2), (Str.ofString "call", 3), (Str.ofString "call", 4), (Str.ofString "call", 5), (Str.ofString "call", 6), (Str.ofString "call", 7), (Str.ofString "call", 8)]
noncomputable def FK : List (List Int) := [[1, 2], [7, 2], [9, 2], [10, 2], [11, 1], [12, 2], [12, 1], [13, 1], [14, 2], [2, 1], [20, 2], [21, 2], [3, 1], [3, 2], [4, 2], [6, 2], [22, 2], [26, 1], [27, 3], [28, 1], [15, 0], [16, 0], [17, 0], [18, 0], [19, 1], [19, 2], [19, 3], [19, 4], [19, 5], [19, 6], [19, 7], [19, 8]]
inductive RowsAre (led : List (Addr × Obj)) : List Value → List (Str × Int) → Prop
  | nil : RowsAre led [] []
  | cons {a : Addr} {t u : Tok} {c : Nat} {x : Str} {n : Int} {vs : List Value} {rs : List (Str × Int)} : (a, tupO [.str x t, .int n u] c) ∈ led → RowsAre led vs rs → RowsAre led (.ref a :: vs) ((x, n) :: rs)
theorem RowsAre.get {led : List (Addr × Obj)} {vs : List Value} {rs : List (Str × Int)} (h : RowsAre led vs rs) {i : Nat} {v : Value} (hv : vs[i]? = some v) : ∃ a t u c x n, v = .ref a ∧ rs[i]? = some (x, n) ∧ (a, tupO [.str x t, .int n u] c) ∈ led := by
  induction h generalizing i with
  | nil => simp at hv
  | cons hm _ ih =>
    cases i with
    | zero => simp at hv; exact ⟨_, _, _, _, _, _, hv.symm, rfl, hm⟩
    | succ i => exact ih (by simpa using hv)
theorem RowsAre.length {led : List (Addr × Obj)} {vs : List Value} {rs : List (Str × Int)} (h : RowsAre led vs rs) : vs.length = rs.length := by
  induction h with
  | nil => rfl
  | cons _ _ ih => simp [ih]
theorem RowsAre.of {led : List (Addr × Obj)} {vs : List Value} : ∀ {rs : List (Str × Int)}, Al2 (FlatP led) vs (rs.map fun r => [PyData.str r.1, PyData.int r.2]) → RowsAre led vs rs := by
  intro rs h
  induction rs generalizing vs with
  | nil => cases h; exact .nil
  | cons r rs ih =>
    obtain ⟨x, n⟩ := r
    cases h with
    | cons h1 h2 =>
      obtain ⟨a, us, rfl, m, d⟩ := h1
      cases d with
      | cons d1 d2 =>
        cases d2 with
        | cons d2 d3 =>
          cases d3
          obtain ⟨t, rfl⟩ := datum_str d1
          obtain ⟨u, rfl⟩ := datum_int d2
          exact .cons m (ih h2)
section
local macro_rules | `(tactic| k_enter) => `(tactic| ktr_enter)
variable {w : World} {p : Program} {loose : List Str} {mean : ExcName → Option Value} {mg mb : Str → Option Value} {dp un : Nat} {gd : Option (List Code)} {cn : Str} {cs : Scope} {a : Addr} {ccd : Value} {cl : List (Str × Addr)} {outer : List Env} {A₀ : Around} {base h₀ : Heap} {L : Addr} {m : Str → Option Value} {s : Shared} {Q E : Value → Shared → Prop} {news rest : List (Addr × Obj)}
section
example : True := by (k_with "eval Tuple" => (k_here; (refine' atoms_walk (xs := FA) ?e_q52 ?z_q52 ?F_q52 ?N_q52 ?_; (case F_q52 => k_asm); (case N_q52 => k_asm); (case e_q52 => kernel_rfl); (case z_q52 => decide)); intro D' vs' h' tk' hv' l1' F' N')); exact trivial
theorem fixed_atoms_spec (B : Below A₀ base outer h₀) (F : Fr h₀ L s.heap m) (X : (Mine.kk.heap_1 w.params).In h₀) (T : Top p loose mean mg mb h₀) (hk : cs.kind = .function) (hd : dp + 5 < recursionLimit) (hu : un + 60 < cLine) (N : News h₀ L s.heap news)
  (hret : ∀ D items c h' tk', (∀ p ∈ news, p.1 < D) → StrsAre items FA → Fr h₀ L h' m → News h₀ L h' ((D, tupO items c) :: news) → Q (.ref D) { s with heap := h', toks := tk' }) :
  wpAny (model PySem.Challenge.rw_ok0024_01.row.prog w) (ktrTop dp un gd cn cs L a ccd cl outer) (call (.ref 28) []) Q E s := by
  revert X; k_fill; intro X
  refine wpAny_call ?_
  k_dflt k_enter
  (refine sq_A ?_; intro A9)
  k_steps
  all_goals (refine' hret _ _ _ _ _ ?a ?b ?f ?n; (case f => k_asm); (case n => k_asm); (case a => assumption); (case b => assumption))
example : True := by k_with_none; (k_with "x_k_room" => ((try simp (config := {zetaDelta := true}) only [depth_under_make, depth_under_kw, depth_in1, depth_deeper, depth_caller]); (try dsimp only [ktrTop]); (first | (refine' rm0 ?ha_q41; (case ha_q41 => assumption)) | (refine' rm1 ?ha_q41 ?hb_q41; (case ha_q41 => assumption); (case hb_q41 => exact rfl)) | (refine' rm2 ?ha_q41 ?hb_q41; (case ha_q41 => assumption); (case hb_q41 => exact rfl)) | (refine' rm3 ?ha_q41 ?hb_q41; (case ha_q41 => assumption); (case hb_q41 => exact rfl)) | (refine' rm4 ?ha_q41 ?hb_q41; (case ha_q41 => assumption); (case hb_q41 => exact rfl)) | omega))); (k_with "x_ktr_units" => ((try simp (config := {zetaDelta := true}) only [units_under_make, units_in1, units_deeper, Around.mark_units, units_caller]); (try dsimp only [ktrTop]); (first | (refine' rm0 ?ha_q42; (case ha_q42 => assumption)) | (refine' rm1 ?ha_q42 ?hb_q42; (case ha_q42 => assumption); (case hb_q42 => exact rfl)) | (refine' rm2 ?ha_q42 ?hb_q42; (case ha_q42 => assumption); (case hb_q42 => exact rfl)) | (refine' rm3 ?ha_q42 ?hb_q42; (case ha_q42 => assumption); (case hb_q42 => exact rfl)) | (refine' rm4 ?ha_q42 ?hb_q42; (case ha_q42 => assumption); (case hb_q42 => exact rfl)) | omega))); (k_with "execs cons" => (k_here; (with_reducible refine sq_tok ?_); intro tk')); (k_with "subscriptTail Name Constant ref int" => (k_here; (with_reducible show wpAny _ _ (subscriptTail _ _ (Value.ref _) (Value.int _ _)) _ _ _); k_dflt (first | (refine' item_tupleT ?t_q44 ?a_q44 ?b_q44 ?c_q44 ?d_q44 ?_; (case t_q44 => (refine' News.isTup ?t1_q44 ?t2_q44; (case t1_q44 => k_asm); (case t2_q44 => k_mem))); (case a_q44 => decide); (case b_q44 => decide); (case c_q44 => rfl); (case d_q44 => rfl); k_whole) | (refine' c_item_lit ?N_q44 ?m_q44 ?a2_q44 ?b2_q44 ?d2_q44 ?_; (case N_q44 => k_asm); (case m_q44 => k_mem); (case a2_q44 => decide); (case b2_q44 => decide); (case d2_q44 => rfl); k_whole)))); (k_with "eval Call Name" => (k_here; with_unfolding_all refine Call_ ?_)); (k_with "x_k_all" => first | assumption | exact List.forall_mem_nil _ | (refine' List.forall_mem_append.mpr ⟨?_, ?_⟩; (focus k_all); k_all) | (refine' List.forall_mem_cons.mpr ⟨?_, ?_⟩; (focus k_ne); k_all) | exact allNeP (by assumption) | (refine' Above.off ?hA_q46 ?hM_q46; (case hA_q46 => assumption); (case hM_q46 => k_mem)) | (refine' alt_all ?lh_q46 ?ls_q46; (case lh_q46 => assumption); (case ls_q46 => k_allIn)) | exact allNe0 (by assumption) | exact allNe1 (by assumption) | exact allNe2 (by assumption) | exact allNe3 (by assumption) | exact allNe4 (by assumption) | exact allNe5 (by assumption) | exact allNe6 (by assumption)); (k_with "x_k_ne" => first | assumption | (refine' alt_ne1 ?lh_q47 ?lm_q47; (case lh_q47 => assumption); (case lm_q47 => k_mem)) | (refine' alt_ne2 ?lh_q47 ?lm_q47; (case lh_q47 => assumption); (case lm_q47 => k_mem)) | (refine' alt_ne3 ?lx_q47 ?lh_q47 ?lm_q47; (case lx_q47 => assumption); (case lh_q47 => assumption); (case lm_q47 => k_mem)) | (refine' alt_ne4 ?lx_q47 ?lh_q47 ?lm_q47; (case lx_q47 => assumption); (case lh_q47 => assumption); (case lm_q47 => k_mem)) | (refine' Ne.symm ?_; assumption) | (refine neN ?_; refine' Ne.symm ?_; assumption) | (refine neN ?_; (try dsimp only); omega) | (refine' news_ne_cls ?nN_q47 ?n1_q47 ?n2_q47 ?n3_q47; (case nN_q47 => assumption); (case n1_q47 => k_mem); (case n2_q47 => k_mem); (case n3_q47 => (intro e9; exact absurd (Value.type.inj e9) (by decide)))) | (refine neN ?_; (try dsimp only); (simp only [List.forall_mem_cons] at *); omega)); (k_with "x_k_mem" => first | assumption | exact List.mem_cons_self | (refine' List.mem_cons_of_mem _ ?_; k_mem) | (refine' List.mem_append_left _ ?_; k_mem) | (refine' List.mem_append_right _ ?_; k_mem)); (k_with "x_k_upd" => first | exact Pull.head | (refine' Pull.tail ?b_q49; (case b_q49 => k_upd)) | (refine' Pull.under _ ?b_q49; (case b_q49 => k_upd))); (k_with "x_k_allIn" => first | assumption | (intro p9 h9; k_mem) | (refine' List.forall_mem_append.mpr ⟨?_, ?_⟩; (focus k_allIn); k_allIn) | exact List.forall_mem_nil _ | exact sub_l (by assumption)); (k_with "x_k_enter" => first | ktr_enter | (refine' code_def ?k1_q51 ?k2_q51 ?k3_q51 ?k4_q51 ?k5_q51 ?kA_q51 ?kF_q51 ?kK_q51 ?k6_q51 ?k7_q51 ?k8_q51 ?k9_q51 ?kB_q51 ?_ ?c2_q51 ?c3_q51 ?c4_q51 ?c5_q51; (case kA_q51 => exact rfl); (case kF_q51 => exact rfl); (case kK_q51 => first | exact rfl | assumption); (case k1_q51 => k_asm); (case k2_q51 => k_asm); (case k3_q51 => k_asm); (case k4_q51 => k_asm); (case k5_q51 => k_asm); (case k6_q51 => k_is); (case k7_q51 => k_is); (case k8_q51 => ktr_room); (case k9_q51 => exact binds_K (by k_in) rfl (by k_is) rfl rfl rfl); (case c5_q51 => decide); (case kB_q51 => exact locs rfl); (case c2_q51 => exact rfl); (case c3_q51 => exact rfl); (case c4_q51 => exact rfl); k_whole; intro g' L' h' FG' F' N' B' X' T'; (try dsimp only); (try k_fold))); exact trivial
end
section
example : True := by (k_with "eval Tuple" => (k_here; (refine' flat_walk (as := FF.map fun r => [PyData.str r.1, PyData.int r.2]) ?e_q53 ?z_q53 ?F_q53 ?N_q53 ?_; (case F_q53 => k_asm); (case N_q53 => k_asm); (case e_q53 => kernel_rfl); (case z_q53 => decide)); intro D' vs' l' tl' h' tk' hS' hl' hT' hv' F' N')); exact trivial
theorem fixed_functors_spec (B : Below A₀ base outer h₀) (F : Fr h₀ L s.heap m) (X : (Mine.kk.heap_1 w.params).In h₀) (T : Top p loose mean mg mb h₀) (hk : cs.kind = .function) (hd : dp + 5 < recursionLimit) (hu : un + 60 < cLine) (N : News h₀ L s.heap news)
  (hret : ∀ D items c l tl h' tk', Split news l tl → (∀ p ∈ l, p.1 < D) → (∀ p ∈ tl, p.2.cls = .type "tuple") → RowsAre tl items FF → Fr h₀ L h' m → News h₀ L h' ((D, tupO items c) :: l) → Q (.ref D) { s with heap := h', toks := tk' }) :
  wpAny (model PySem.Challenge.rw_ok0024_01.row.prog w) (ktrTop dp un gd cn cs L a ccd cl outer) (call (.ref 35) []) Q E s := by
  revert X; k_fill; intro X
  refine wpAny_call ?_
  k_dflt k_enter
  (refine sq_A ?_; intro A9)
  k_steps
  all_goals (refine' hret _ _ _ _ _ _ _ ?sp ?a ?t ?b ?f ?n; (case f => k_asm); (case n => k_asm); (case sp => assumption); (case a => assumption); (case t => assumption); (case b => exact RowsAre.of (by assumption)))
example : True := by k_with_none; (k_with "x_k_room" => ((try simp (config := {zetaDelta := true}) only [depth_under_make, depth_under_kw, depth_in1, depth_deeper, depth_caller]); (try dsimp only [ktrTop]); (first | (refine' rm0 ?ha_q41; (case ha_q41 => assumption)) | (refine' rm1 ?ha_q41 ?hb_q41; (case ha_q41 => assumption); (case hb_q41 => exact rfl)) | (refine' rm2 ?ha_q41 ?hb_q41; (case ha_q41 => assumption); (case hb_q41 => exact rfl)) | (refine' rm3 ?ha_q41 ?hb_q41; (case ha_q41 => assumption); (case hb_q41 => exact rfl)) | (refine' rm4 ?ha_q41 ?hb_q41; (case ha_q41 => assumption); (case hb_q41 => exact rfl)) | omega))); (k_with "x_ktr_units" => ((try simp (config := {zetaDelta := true}) only [units_under_make, units_in1, units_deeper, Around.mark_units, units_caller]); (try dsimp only [ktrTop]); (first | (refine' rm0 ?ha_q42; (case ha_q42 => assumption)) | (refine' rm1 ?ha_q42 ?hb_q42; (case ha_q42 => assumption); (case hb_q42 => exact rfl)) | (refine' rm2 ?ha_q42 ?hb_q42; (case ha_q42 => assumption); (case hb_q42 => exact rfl)) | (refine' rm3 ?ha_q42 ?hb_q42; (case ha_q42 => assumption); (case hb_q42 => exact rfl)) | (refine' rm4 ?ha_q42 ?hb_q42; (case ha_q42 => assumption); (case hb_q42 => exact rfl)) | omega))); (k_with "execs cons" => (k_here; (with_reducible refine sq_tok ?_); intro tk')); (k_with "subscriptTail Name Constant ref int" => (k_here; (with_reducible show wpAny _ _ (subscriptTail _ _ (Value.ref _) (Value.int _ _)) _ _ _); k_dflt (first | (refine' item_tupleT ?t_q44 ?a_q44 ?b_q44 ?c_q44 ?d_q44 ?_; (case t_q44 => (refine' News.isTup ?t1_q44 ?t2_q44; (case t1_q44 => k_asm); (case t2_q44 => k_mem))); (case a_q44 => decide); (case b_q44 => decide); (case c_q44 => rfl); (case d_q44 => rfl); k_whole) | (refine' c_item_lit ?N_q44 ?m_q44 ?a2_q44 ?b2_q44 ?d2_q44 ?_; (case N_q44 => k_asm); (case m_q44 => k_mem); (case a2_q44 => decide); (case b2_q44 => decide); (case d2_q44 => rfl); k_whole)))); (k_with "eval Call Name" => (k_here; with_unfolding_all refine Call_ ?_)); (k_with "x_k_all" => first | assumption | exact List.forall_mem_nil _ | (refine' List.forall_mem_append.mpr ⟨?_, ?_⟩; (focus k_all); k_all) | (refine' List.forall_mem_cons.mpr ⟨?_, ?_⟩; (focus k_ne); k_all) | exact allNeP (by assumption) | (refine' Above.off ?hA_q46 ?hM_q46; (case hA_q46 => assumption); (case hM_q46 => k_mem)) | (refine' alt_all ?lh_q46 ?ls_q46; (case lh_q46 => assumption); (case ls_q46 => k_allIn)) | exact allNe0 (by assumption) | exact allNe1 (by assumption) | exact allNe2 (by assumption) | exact allNe3 (by assumption) | exact allNe4 (by assumption) | exact allNe5 (by assumption) | exact allNe6 (by assumption)); (k_with "x_k_ne" => first | assumption | (refine' alt_ne1 ?lh_q47 ?lm_q47; (case lh_q47 => assumption); (case lm_q47 => k_mem)) | (refine' alt_ne2 ?lh_q47 ?lm_q47; (case lh_q47 => assumption); (case lm_q47 => k_mem)) | (refine' alt_ne3 ?lx_q47 ?lh_q47 ?lm_q47; (case lx_q47 => assumption); (case lh_q47 => assumption); (case lm_q47 => k_mem)) | (refine' alt_ne4 ?lx_q47 ?lh_q47 ?lm_q47; (case lx_q47 => assumption); (case lh_q47 => assumption); (case lm_q47 => k_mem)) | (refine' Ne.symm ?_; assumption) | (refine neN ?_; refine' Ne.symm ?_; assumption) | (refine neN ?_; (try dsimp only); omega) | (refine' news_ne_cls ?nN_q47 ?n1_q47 ?n2_q47 ?n3_q47; (case nN_q47 => assumption); (case n1_q47 => k_mem); (case n2_q47 => k_mem); (case n3_q47 => (intro e9; exact absurd (Value.type.inj e9) (by decide)))) | (refine neN ?_; (try dsimp only); (simp only [List.forall_mem_cons] at *); omega)); (k_with "x_k_mem" => first | assumption | exact List.mem_cons_self | (refine' List.mem_cons_of_mem _ ?_; k_mem) | (refine' List.mem_append_left _ ?_; k_mem) | (refine' List.mem_append_right _ ?_; k_mem)); (k_with "x_k_upd" => first | exact Pull.head | (refine' Pull.tail ?b_q49; (case b_q49 => k_upd)) | (refine' Pull.under _ ?b_q49; (case b_q49 => k_upd))); (k_with "x_k_allIn" => first | assumption | (intro p9 h9; k_mem) | (refine' List.forall_mem_append.mpr ⟨?_, ?_⟩; (focus k_allIn); k_allIn) | exact List.forall_mem_nil _ | exact sub_l (by assumption)); (k_with "x_k_enter" => first | ktr_enter | (refine' code_def ?k1_q51 ?k2_q51 ?k3_q51 ?k4_q51 ?k5_q51 ?kA_q51 ?kF_q51 ?kK_q51 ?k6_q51 ?k7_q51 ?k8_q51 ?k9_q51 ?kB_q51 ?_ ?c2_q51 ?c3_q51 ?c4_q51 ?c5_q51; (case kA_q51 => exact rfl); (case kF_q51 => exact rfl); (case kK_q51 => first | exact rfl | assumption); (case k1_q51 => k_asm); (case k2_q51 => k_asm); (case k3_q51 => k_asm); (case k4_q51 => k_asm); (case k5_q51 => k_asm); (case k6_q51 => k_is); (case k7_q51 => k_is); (case k8_q51 => ktr_room); (case k9_q51 => exact binds_K (by k_in) rfl (by k_is) rfl rfl rfl); (case c5_q51 => decide); (case kB_q51 => exact locs rfl); (case c2_q51 => exact rfl); (case c3_q51 => exact rfl); (case c4_q51 => exact rfl); k_whole; intro g' L' h' FG' F' N' B' X' T'; (try dsimp only); (try k_fold))); exact trivial
end
end
end
section
theorem fa_step {i : Nat} {x : Str} (h : FA[i]? = some x) : addA (FA.take i) x = FA.take (i + 1) := by
  have hi : i < 29 := (List.getElem?_eq_some_iff.mp h).1
  have : ∀ i : Fin 29, ∀ x, FA[i.val]? = some x → addA (FA.take i.val) x = FA.take (i.val + 1) := by
    have h2 : ∀ i : Fin 29, (match FA[i.val]? with | none => true | some x => decide (addA (FA.take i.val) x = FA.take (i.val + 1))) = true := by decide +kernel
    intro i x hx
    have := h2 i
    rw [hx] at this
    exact of_decide_eq_true this
  exact this ⟨i, hi⟩ x h
theorem ff_step {i j : Nat} {x : Str} {n : Int} (h : FF[i]? = some (x, n)) (hj : (addA FA x)[j]? = some x) : addA FA x = FA ∧ addF (FK.take i) [(j : Int), n] = FK.take (i + 1) := by
  have hi : i < 32 := (List.getElem?_eq_some_iff.mp h).1
  have h2 : ∀ i : Fin 32, (match FF[i.val]? with | none => true | some (x, n) => decide (addA FA x = FA) && (List.range 29).all fun j => match FA[j]? with | none => true | some y => if y = x then decide (addF (FK.take i.val) [(j : Int), n] = FK.take (i.val + 1)) else true) = true := by decide +kernel
  have h3 := h2 ⟨i, hi⟩
  simp only [h] at h3
  rw [Bool.and_eq_true] at h3
  have h4 := of_decide_eq_true h3.1
  refine ⟨h4, ?_⟩
  rw [h4] at hj
  have hjl : j < 29 := (List.getElem?_eq_some_iff.mp hj).1
  have h5 := List.all_eq_true.mp h3.2 j (List.mem_range.mpr hjl)
  simp only [hj, if_true] at h5
  exact of_decide_eq_true h5
theorem book_fa {prog : Program} {w : World} {rest0 : List (Addr × Obj)} {oTx oAn oFu oFn : Obj} {fs : List (List Int)} {n : Nat} (S : BookS prog w rest0 oTx oAn oFu oFn (FA.take n) fs n) (h : n = FA.length) : BookS prog w rest0 oTx oAn oFu oFn FA fs (29 + 2 * 0) := by
  subst h
  rw [List.take_length] at S
  exact S
theorem book_off {prog : Program} {w : World} {h₀ h : Heap} {L tx an fu fn : Addr} {oTx oAn oFu oFn : Obj} {led tl rest0 : List (Addr × Obj)} {xs : List Str} {fs : List (List Int)} {K : Nat} (N : News h₀ L h led) (S : BookS prog w rest0 oTx oAn oFu oFn xs fs K) (m1 : (tx, oTx) ∈ led) (m2 : (an, oAn) ∈ led) (m3 : (fu, oFu) ∈ led) (m4 : (fn, oFn) ∈ led) (hs : ∀ p ∈ tl, p ∈ led) (hT : ∀ p ∈ tl, p.2.cls = .type "tuple") :
    (∀ p ∈ tl, p.1 ≠ tx) ∧ (∀ p ∈ tl, p.1 ≠ an) ∧ (∀ p ∈ tl, p.1 ≠ fu) ∧ ∀ p ∈ tl, p.1 ≠ fn := by
  obtain ⟨_, ⟨_, _, e1, _⟩, ⟨_, ⟨_, _, e2, _⟩, _⟩, ⟨_, _, e3, ⟨_, _, e4, _⟩, _⟩⟩ := S
  have key : ∀ (d : Addr) (o : Obj), (d, o) ∈ led → o.cls ≠ .type "tuple" → ∀ p ∈ tl, p.1 ≠ d := fun d o hm hc p hp => news_ne_cls N (hs p hp) hm (by rw [hT p hp]; exact hc.symm)
  refine ⟨key _ _ m1 (by rw [e1]; exact fun e => absurd (Value.type.inj e) (by decide)), key _ _ m2 ?_, key _ _ m3 (by rw [e3]; exact fun e => absurd (Value.type.inj e) (by decide)), key _ _ m4 ?_⟩
  · rw [e2.1]; decide
  · rw [e4.1]; decide
theorem allLt5 {d : Addr} {r : List (Addr × Obj)} {a b c e f : Prop} (h : a ∧ b ∧ c ∧ e ∧ f ∧ AllLt d r) : ∀ p ∈ r, p.1 < d := tb_ltOf h.2.2.2.2.2
theorem BookR.sub {w : World} {rest rest' : List (Addr × Obj)} {b bd tx an fu fn : Addr} {t1 t2 t3 t4 : Tok} (h : BookR w rest b bd tx an fu fn t1 t2 t3 t4) (hs : ∀ p ∈ rest', p ∈ rest) (hb : (b, instObj 122 bd) ∈ rest') (hbd : (bd, bookD w t1 t2 t3 t4 tx an fu fn) ∈ rest') :
    BookR w rest' b bd tx an fu fn t1 t2 t3 t4 := ⟨hb, hbd, h.lo1, h.lo2, h.n1, h.n2, h.n3, h.n4, h.n5, h.n6, fun p hp => h.o1 p (hs p hp), fun p hp => h.o2 p (hs p hp), fun p hp => h.o3 p (hs p hp), fun p hp => h.o4 p (hs p hp)⟩
theorem sym_end {prog : Program} {w : World} {h₀ h : Heap} {L x d tx an fu fn : Addr} {t1 t2 t3 t4 : Tok} {oTx oAn oFu oFn o1 o2 o3 o4 p1 p2 p3 p4 : Obj} {news r1 tl0 lF tlF r2 tl2 : List (Addr × Obj)} {K : Nat} (hK : K ≤ 93)
    (l0 : ∀ p ∈ news, p.1 < d) (l1 : @LT.lt Nat _ d x) (l2 : ∀ p ∈ news, p.1 < tx) (l3 : ∀ p ∈ news, p.1 < an) (l4 : ∀ p ∈ news, p.1 < fu) (l5 : ∀ p ∈ news, p.1 < fn)
    (e1 : ∀ p ∈ (x, instObj 122 d) :: (d, bookD w t1 t2 t3 t4 tx an fu fn) :: news, p ∈ r1) (hA0 : Above ((tx, o1) :: (an, o2) :: (fu, o3) :: (fn, o4) :: r1) tl0) (hS : Split ((tx, p1) :: (an, p2) :: (fu, p3) :: (fn, p4) :: (r1 ++ tl0)) lF tlF) (e2 : ∀ p ∈ tlF ++ (r1 ++ tl0), p ∈ r2)
    (hA2 : Above ((tx, oTx) :: (an, oAn) :: (fu, oFu) :: (fn, oFn) :: r2) tl2) (R : BookR w (r2 ++ tl2) x d tx an fu fn t1 t2 t3 t4) (S : BookS prog w ([] ++ tl0 ++ tl2) oTx oAn oFu oFn FA (FK.take 32) K) (N : News h₀ L h ((tx, oTx) :: (an, oAn) :: (fu, oFu) :: (fn, oFn) :: (r2 ++ tl2))) :
    Above news ((tx, oTx) :: (an, oAn) :: (fu, oFu) :: (fn, oFn) :: (x, instObj 122 d) :: (d, bookD w t1 t2 t3 t4 tx an fu fn) :: (tl0 ++ (tlF ++ tl2))) ∧ News h₀ L h ((tx, oTx) :: (an, oAn) :: (fu, oFu) :: (fn, oFn) :: (news ++ (x, instObj 122 d) :: (d, bookD w t1 t2 t3 t4 tx an fu fn) :: (tl0 ++ (tlF ++ tl2)))) ∧ BookR w (news ++ (x, instObj 122 d) :: (d, bookD w t1 t2 t3 t4 tx an fu fn) :: (tl0 ++ (tlF ++ tl2))) x d tx an fu fn t1 t2 t3 t4 ∧ BookS prog w ((x, instObj 122 d) :: (d, bookD w t1 t2 t3 t4 tx an fu fn) :: (tl0 ++ (tlF ++ tl2))) oTx oAn oFu oFn FA FK 93 := by
  have s1 : ∀ p ∈ news, p ∈ r1 := fun p hp => e1 p (.tail _ (.tail _ hp))
  have s2 : ∀ p ∈ r1, p ∈ r2 := fun p hp => e2 p (List.mem_append_right _ (List.mem_append_left _ hp))
  have hsub : ∀ p ∈ news ++ (x, instObj 122 d) :: (d, bookD w t1 t2 t3 t4 tx an fu fn) :: (tl0 ++ (tlF ++ tl2)), p ∈ r2 ++ tl2 := by
    intro p hp
    rcases List.mem_append.mp hp with hp | hp
    · exact List.mem_append_left _ (s2 _ (s1 _ hp))
    rcases List.mem_cons.mp hp with rfl | hp
    · exact List.mem_append_left _ (s2 _ (e1 _ (.head _)))
    rcases List.mem_cons.mp hp with rfl | hp
    · exact List.mem_append_left _ (s2 _ (e1 _ (.tail _ (.head _))))
    rcases List.mem_append.mp hp with hp | hp
    · exact List.mem_append_left _ (e2 _ (List.mem_append_right _ (List.mem_append_right _ hp)))
    rcases List.mem_append.mp hp with hp | hp
    · exact List.mem_append_left _ (e2 _ (List.mem_append_left _ hp))
    · exact List.mem_append_right _ hp
  refine ⟨?_, cb_drop N ?_, R.sub hsub ?_ ?_, ?_⟩
  · refine Above.cons l2 (Above.cons l3 (Above.cons l4 (Above.cons l5 (Above.cons (fun q hq => Nat.lt_trans (l0 q hq) l1) (Above.cons l0 (Above.append ?_ (Above.append ?_ ?_)))))))
    · exact fun q hq p hp => hA0 q (.tail _ (.tail _ (.tail _ (.tail _ (s1 _ hq))))) p hp
    · exact fun q hq p hp => hS.above q (.tail _ (.tail _ (.tail _ (.tail _ (List.mem_append_left _ (s1 _ hq)))))) p hp
    · exact fun q hq p hp => hA2 q (.tail _ (.tail _ (.tail _ (.tail _ (s2 _ (s1 _ hq)))))) p hp
  · intro p hp
    rcases List.mem_cons.mp hp with rfl | hp
    · exact .head _
    rcases List.mem_cons.mp hp with rfl | hp
    · exact .tail _ (.head _)
    rcases List.mem_cons.mp hp with rfl | hp
    · exact .tail _ (.tail _ (.head _))
    rcases List.mem_cons.mp hp with rfl | hp
    · exact .tail _ (.tail _ (.tail _ (.head _)))
    · exact .tail _ (.tail _ (.tail _ (.tail _ (hsub _ hp))))
  · simp
  · simp
  · refine (S.mono (fun p hp => ?_)).le hK
    simp only [List.mem_cons, List.mem_append, List.nil_append] at hp ⊢
    rcases hp with h | h <;> simp [h]
theorem book_start {prog : Program} {w : World} {rest : List (Addr × Obj)} {oAn oFn : Obj} (h1 : oAn.IsDictOf (PySem.strKind prog w) []) (h2 : oFn.IsDictOf (PySem.strKind prog w) []) : BookS prog w rest (listOf #[] 0) oAn (listOf #[] 0) oFn (FA.take 0) [] (0 : Nat) := by
  refine ⟨by simp, ⟨[], 0, rfl, .nil⟩, ⟨[], h1, rfl, by simp⟩, ⟨[], 0, rfl, ?_, by intro x hx; simp at hx, by intro i x hx; simp at hx, rfl⟩⟩
  obtain ⟨es, ep, a, b, _, c, _⟩ := h2
  exact ⟨es, ep, a, b, by generalize es.toList = l at c; cases c; rfl, by simp⟩
section
variable {prog : Program} {w : World} {A : Around} {E : Value → Shared → Prop} {s : Shared} {env : Env} {h₀ : Heap} {x : Str} {body : List Stmt} {Q : Flow → Shared → Prop}
theorem strs_get {vs : List Value} {ns : List Str} (h : StrsAre vs ns) {i : Nat} {v : Value} (hv : vs[i]? = some v) : ∃ x t, v = .str x t ∧ ns[i]? = some x := by
  have hl := h.length
  have hi : i < ns.length := by rw [← hl]; exact (List.getElem?_eq_some_iff.mp hv).1
  obtain ⟨t, ht⟩ := h.get i ns[i] (by simp [hi])
  rw [hv] at ht
  exact ⟨ns[i], t, Option.some.inj ht, by simp [hi]⟩
theorem iter_atoms {ta b bd tx an fu fn : Addr} {t1 t2 t3 t4 : Tok} {oTx oAn oFu oFn : Obj} {items : List Value} {c : Nat} {m₀ : Str → Option Value} {rest0 r9 news0 r0 r1 r2 r3 : List (Addr × Obj)} {names : List Str} (gx : Nat → List Str) (gf : Nat → List (List Int)) (K : Nat → Nat)
    (hI : StrsAre items names) (hh : A.handled = none) (F : Fr h₀ env.locals s.heap m₀) (N : News h₀ env.locals s.heap news0) (hK : ∀ i, i < items.length → K i ≤ 90000) (hbd0 : (bd, bookD w t1 t2 t3 t4 tx an fu fn) ∈ news0) (P : Pull ta (tupO items c) news0 r0) (P1 : Pull tx oTx r0 r1) (P2 : Pull an oAn r1 r2) (P3 : Pull fu oFu r2 r3) (P4 : Pull fn oFn r3 rest0) (hoff : ∀ p ∈ r0, p.1 ≠ ta)
    (R : BookR w rest0 b bd tx an fu fn t1 t2 t3 t4) (hr9 : ∀ p ∈ r9, p ∈ rest0) (S : BookS prog w r9 oTx oAn oFu oFn (gx 0) (gf 0) (K 0))
    (turn : ∀ rest, (∀ p ∈ rest0, p ∈ rest) → (∀ p ∈ rest, p ∈ rest0) → (∀ p ∈ rest, p.1 ≠ tx) → (∀ p ∈ rest, p.1 ≠ an) → (∀ p ∈ rest, p.1 ≠ fu) → (∀ p ∈ rest, p.1 ≠ fn) → (b, instObj 122 bd) ∈ rest → (bd, bookD w t1 t2 t3 t4 tx an fu fn) ∈ rest → (∀ p ∈ r9, p ∈ rest) → ∀ i x1 z1 (m₁ : Str → Option Value) oTx oAn oFu oFn tl own h tk, names[i]? = some x1 → K i ≤ 90000 → (∀ p ∈ tl, p.1 ≠ tx) → (∀ p ∈ tl, p.1 ≠ an) → (∀ p ∈ tl, p.1 ≠ fu) → (∀ p ∈ tl, p.1 ≠ fn) → (∀ p ∈ own, p.1 ≠ tx) → (∀ p ∈ own, p.1 ≠ an) → (∀ p ∈ own, p.1 ≠ fu) → (∀ p ∈ own, p.1 ≠ fn) → TbOff own ((tx, oTx) :: (an, oAn) :: (fu, oFu) :: (fn, oFn) :: (rest ++ tl)) → Above ((tx, oTx) :: (an, oAn) :: (fu, oFu) :: (fn, oFn) :: rest) tl → BookR w (rest ++ tl) b bd tx an fu fn t1 t2 t3 t4 → BookS prog w (r9 ++ tl) oTx oAn oFu oFn (gx i) (gf i) (K i) → (∀ z, z ≠ x → m₁ z = m₀ z) →
      Fr h₀ env.locals h (fun y => if y = x then some (.str x1 z1) else m₀ y) → News h₀ env.locals h ((tx, oTx) :: (an, oAn) :: (fu, oFu) :: (fn, oFn) :: (rest ++ (tl ++ own))) →
      wpAny (model prog w) A (execs body env) (TbPost h₀ env.locals (BkJ prog w x m₀ rest r9 b bd tx an fu fn t1 t2 t3 t4 gx gf K (i + 1)) own { s with heap := h, toks := tk } Q) E { s with heap := h, toks := tk })
    (done : ∀ rest, (∀ p ∈ rest0, p ∈ rest) → (∀ p ∈ rest, p ∈ rest0) → (∀ p ∈ rest, p.1 ≠ tx) → (∀ p ∈ rest, p.1 ≠ an) → (∀ p ∈ rest, p.1 ≠ fu) → (∀ p ∈ rest, p.1 ≠ fn) → (b, instObj 122 bd) ∈ rest → (bd, bookD w t1 t2 t3 t4 tx an fu fn) ∈ rest → (∀ p ∈ r9, p ∈ rest) → ∀ (u : Str → Option Value) oTx oAn oFu oFn tl h tk, Above ((tx, oTx) :: (an, oAn) :: (fu, oFu) :: (fn, oFn) :: rest) tl → BookR w (rest ++ tl) b bd tx an fu fn t1 t2 t3 t4 → BookS prog w (r9 ++ tl) oTx oAn oFu oFn (gx items.length) (gf items.length) (K items.length) → Fr h₀ env.locals h (fun y => if y = x then u y else m₀ y) → News h₀ env.locals h ((tx, oTx) :: (an, oAn) :: (fu, oFu) :: (fn, oFn) :: (rest ++ tl)) → Q .next { s with heap := h, toks := tk }) :
    wpAny (model prog w) A (pyIter (.ref ta)) (fun it s₂ => LoopAtV prog w A h₀ env x body Q E it s₂) E s := by
  refine iter_book gx gf K hh F N hK hbd0 P P1 P2 P3 P4 hoff R hr9 S (fun rest e1 e2 e3 e4 e5 e6 e7 e8 e9 i v m₁ oTx oAn oFu oFn tl own h tk hv hKi q5 q6 q7 q8 q1 q2 q3 q4 hsep hA R' S' hm F' N' => ?_) done
  obtain ⟨x1, z1, rfl, hx⟩ := strs_get hI hv
  exact turn rest e1 e2 e3 e4 e5 e6 e7 e8 e9 i x1 z1 m₁ oTx oAn oFu oFn tl own h tk hx hKi q5 q6 q7 q8 q1 q2 q3 q4 hsep hA R' S' hm F' N'
theorem iter_funcs {ta b bd tx an fu fn : Addr} {t1 t2 t3 t4 : Tok} {oTx oAn oFu oFn : Obj} {items : List Value} {c : Nat} {m₀ : Str → Option Value} {rest0 r9 news0 r0 r1 r2 r3 : List (Addr × Obj)} {rs : List (Str × Int)} {led : List (Addr × Obj)} (gx : Nat → List Str) (gf : Nat → List (List Int)) (K : Nat → Nat)
    (hI : RowsAre led items rs) (hled : ∀ p ∈ led, p ∈ rest0) (hh : A.handled = none) (F : Fr h₀ env.locals s.heap m₀) (N : News h₀ env.locals s.heap news0) (hK : ∀ i, i < items.length → K i ≤ 90000) (hbd0 : (bd, bookD w t1 t2 t3 t4 tx an fu fn) ∈ news0) (P : Pull ta (tupO items c) news0 r0) (P1 : Pull tx oTx r0 r1) (P2 : Pull an oAn r1 r2) (P3 : Pull fu oFu r2 r3) (P4 : Pull fn oFn r3 rest0) (hoff : ∀ p ∈ r0, p.1 ≠ ta)
    (R : BookR w rest0 b bd tx an fu fn t1 t2 t3 t4) (hr9 : ∀ p ∈ r9, p ∈ rest0) (S : BookS prog w r9 oTx oAn oFu oFn (gx 0) (gf 0) (K 0))
    (turn : ∀ rest, (∀ p ∈ rest0, p ∈ rest) → (∀ p ∈ rest, p ∈ rest0) → (∀ p ∈ rest, p.1 ≠ tx) → (∀ p ∈ rest, p.1 ≠ an) → (∀ p ∈ rest, p.1 ≠ fu) → (∀ p ∈ rest, p.1 ≠ fn) → (b, instObj 122 bd) ∈ rest → (bd, bookD w t1 t2 t3 t4 tx an fu fn) ∈ rest → (∀ p ∈ r9, p ∈ rest) → ∀ i ra u1 u2 rc x1 n1 (m₁ : Str → Option Value) oTx oAn oFu oFn tl own h tk, rs[i]? = some (x1, n1) → K i ≤ 90000 → (∀ p ∈ tl, p.1 ≠ tx) → (∀ p ∈ tl, p.1 ≠ an) → (∀ p ∈ tl, p.1 ≠ fu) → (∀ p ∈ tl, p.1 ≠ fn) → (ra, tupO [.str x1 u1, .int n1 u2] rc) ∈ rest → (∀ p ∈ own, p.1 ≠ tx) → (∀ p ∈ own, p.1 ≠ an) → (∀ p ∈ own, p.1 ≠ fu) → (∀ p ∈ own, p.1 ≠ fn) → TbOff own ((tx, oTx) :: (an, oAn) :: (fu, oFu) :: (fn, oFn) :: (rest ++ tl)) → Above ((tx, oTx) :: (an, oAn) :: (fu, oFu) :: (fn, oFn) :: rest) tl → BookR w (rest ++ tl) b bd tx an fu fn t1 t2 t3 t4 → BookS prog w (r9 ++ tl) oTx oAn oFu oFn (gx i) (gf i) (K i) → (∀ z, z ≠ x → m₁ z = m₀ z) →
      Fr h₀ env.locals h (fun y => if y = x then some (.ref ra) else m₀ y) → News h₀ env.locals h ((tx, oTx) :: (an, oAn) :: (fu, oFu) :: (fn, oFn) :: (rest ++ (tl ++ own))) →
      wpAny (model prog w) A (execs body env) (TbPost h₀ env.locals (BkJ prog w x m₀ rest r9 b bd tx an fu fn t1 t2 t3 t4 gx gf K (i + 1)) own { s with heap := h, toks := tk } Q) E { s with heap := h, toks := tk })
    (done : ∀ rest, (∀ p ∈ rest0, p ∈ rest) → (∀ p ∈ rest, p ∈ rest0) → (∀ p ∈ rest, p.1 ≠ tx) → (∀ p ∈ rest, p.1 ≠ an) → (∀ p ∈ rest, p.1 ≠ fu) → (∀ p ∈ rest, p.1 ≠ fn) → (b, instObj 122 bd) ∈ rest → (bd, bookD w t1 t2 t3 t4 tx an fu fn) ∈ rest → (∀ p ∈ r9, p ∈ rest) → ∀ (u : Str → Option Value) oTx oAn oFu oFn tl h tk, Above ((tx, oTx) :: (an, oAn) :: (fu, oFu) :: (fn, oFn) :: rest) tl → BookR w (rest ++ tl) b bd tx an fu fn t1 t2 t3 t4 → BookS prog w (r9 ++ tl) oTx oAn oFu oFn (gx items.length) (gf items.length) (K items.length) → Fr h₀ env.locals h (fun y => if y = x then u y else m₀ y) → News h₀ env.locals h ((tx, oTx) :: (an, oAn) :: (fu, oFu) :: (fn, oFn) :: (rest ++ tl)) → Q .next { s with heap := h, toks := tk }) :
    wpAny (model prog w) A (pyIter (.ref ta)) (fun it s₂ => LoopAtV prog w A h₀ env x body Q E it s₂) E s := by
  refine iter_book gx gf K hh F N hK hbd0 P P1 P2 P3 P4 hoff R hr9 S (fun rest e1 e2 e3 e4 e5 e6 e7 e8 e9 i v m₁ oTx oAn oFu oFn tl own h tk hv hKi q5 q6 q7 q8 q1 q2 q3 q4 hsep hA R' S' hm F' N' => ?_) done
  obtain ⟨ra, u1, u2, rc, x1, n1, rfl, hx, hm1⟩ := hI.get hv
  exact turn rest e1 e2 e3 e4 e5 e6 e7 e8 e9 i ra u1 u2 rc x1 n1 m₁ oTx oAn oFu oFn tl own h tk hx hKi q5 q6 q7 q8 (e1 _ (hled _ hm1)) q1 q2 q3 q4 hsep hA R' S' hm F' N'
end
section
local macro_rules | `(tactic| k_enter) => `(tactic| ktr_enter)
example : True := by (k_with "call ref" => (k_here; k_dflt (refine' atom_use ?B_q54 ?F_q54 ?X_q54 ?T_q54 ?K_q54 ?d_q54 ?u_q54 ?R_q54 ?S_q54 ?N_q54 ?P1_q54 ?P2_q54 ?P3_q54 ?P4_q54 ?s_q54 ?s0_q54 ?o1_q54 ?o2_q54 ?o3_q54 ?o4_q54 ?z_q54 ?_; (case F_q54 => k_asm); (case B_q54 => k_asm); (case X_q54 => k_asm); (case T_q54 => k_asm); (case K_q54 => first | exact rfl | assumption); (case d_q54 => k_room); (case u_q54 => ktr_units); (case R_q54 => assumption); (case S_q54 => assumption); (case N_q54 => k_asm); (case P1_q54 => k_upd); (case P2_q54 => k_upd); (case P3_q54 => k_upd); (case P4_q54 => k_upd); (case s_q54 => k_allIn); (case s0_q54 => k_allIn); (case o1_q54 => k_all); (case o2_q54 => k_all); (case o3_q54 => k_all); (case o4_q54 => k_all); (case z_q54 => omega)); intro i' t' h' tk' oTx' oAn' F' N' R' S' hi'; (try simp only [List.cons_append, List.nil_append, List.append_assoc] at N' R' S'); (try k_sweep); walk_say "atom_use")); exact trivial
example : True := by (k_with "call ref" => (k_here; k_dflt (refine' func_use ?B_q55 ?F_q55 ?X_q55 ?T_q55 ?K_q55 ?d_q55 ?u_q55 ?R_q55 ?S_q55 ?N_q55 ?P1_q55 ?P2_q55 ?P3_q55 ?P4_q55 ?s_q55 ?s0_q55 ?o1_q55 ?o2_q55 ?o3_q55 ?o4_q55 ?z_q55 ?_; (case F_q55 => k_asm); (case B_q55 => k_asm); (case X_q55 => k_asm); (case T_q55 => k_asm); (case K_q55 => first | exact rfl | assumption); (case d_q55 => k_room); (case u_q55 => ktr_units); (case R_q55 => assumption); (case S_q55 => assumption); (case N_q55 => k_asm); (case P1_q55 => k_upd); (case P2_q55 => k_upd); (case P3_q55 => k_upd); (case P4_q55 => k_upd); (case s_q55 => k_allIn); (case s0_q55 => k_allIn); (case o1_q55 => k_all); (case o2_q55 => k_all); (case o3_q55 => k_all); (case o4_q55 => k_all); (case z_q55 => omega)); intro j' i' t' h' tk' oTx' oAn' oFu' oFn' tl' hA' F' N' R' S' hj' hi'; (try simp only [List.cons_append, List.nil_append, List.append_assoc] at N' R' S'); (try k_sweep); walk_say "func_use")); exact trivial
example : True := by (k_with "call ref" => (k_here; k_dflt (refine' fixed_atoms_spec ?B_q56 ?F_q56 ?X_q56 ?T_q56 ?K_q56 ?d_q56 ?u_q56 ?N_q56 ?_; (case F_q56 => k_asm); (case B_q56 => k_asm); (case X_q56 => k_asm); (case T_q56 => k_asm); (case K_q56 => first | exact rfl | assumption); (case d_q56 => k_room); (case u_q56 => ktr_units); (case N_q56 => k_asm)); intro D' its' c' h' tk' hD' hI' F' N'; (try dsimp only at N'); (try k_sweep); walk_say "fixed_atoms_spec")); exact trivial
example : True := by (k_with "call ref" => (k_here; k_dflt (refine' fixed_functors_spec ?B_q57 ?F_q57 ?X_q57 ?T_q57 ?K_q57 ?d_q57 ?u_q57 ?N_q57 ?_; (case F_q57 => k_asm); (case B_q57 => k_asm); (case X_q57 => k_asm); (case T_q57 => k_asm); (case K_q57 => first | exact rfl | assumption); (case d_q57 => k_room); (case u_q57 => ktr_units); (case N_q57 => k_asm)); intro D' its' c' l' tl' h' tk' hS' hD' hT' hI' F' N'; (try dsimp only at N'); (try k_sweep); walk_say "fixed_functors_spec")); exact trivial
variable {w : World} {p : Program} {loose : List Str} {mean : ExcName → Option Value} {mg mb : Str → Option Value} {dp un : Nat} {gd : Option (List Code)} {cn : Str} {cs : Scope} {a : Addr} {ccd : Value} {cl : List (Str × Addr)} {outer : List Env} {A₀ : Around} {base h₀ : Heap} {L : Addr} {m : Str → Option Value} {s : Shared} {Q E : Value → Shared → Prop} {news rest : List (Addr × Obj)}
example : True := by (k_with "exec For Name Name cons nil" => (k_here; (rename Fr _ _ _ _ => lF'); (with_unfolding_all refine' For_invVF lF' ?k1_q58 ?k2_q58 ?_; (case k1_q58 => exact rfl); (case k2_q58 => exact rfl); k_whole))); exact trivial
example : True := by (k_with "pyIter ref" => (k_here; (rename Fr _ _ _ _ => lF'); (rename News _ _ _ _ => lN'); (rename StrsAre _ FA => lS'); (have hll := lS'.length); (with_unfolding_all refine' iter_atoms (fun i => FA.take i) (fun _ => []) (fun i => i) lS' (by rfl) lF' lN' ?K_q59 ?D_q59 ?P_q59 ?P1_q59 ?P2_q59 ?P3_q59 ?P4_q59 ?o_q59 ?R_q59 ?r9_q59 ?S_q59 (fun rest' e1' e2' e3' e4' e5' e6' e7' e8' e9' i' x1' t1' m1' oTx' oAn' oFu' oFn' tl' own' h' tk' hv' hKi' q5' q6' q7' q8' q1' q2' q3' q4' hsep' hA' R' S' hm' F' N' => ?_) (fun rest' e1' e2' e3' e4' e5' e6' e7' e8' e9' u' oTx' oAn' oFu' oFn' tl' h' tk' hA' R' S' F' N' => ?_)); (case D_q59 => k_mem); (case K_q59 => (intro i9 h9; (have h8 : FA.length ≤ 90 := by decide); (try dsimp only); omega)); (case P_q59 => exact Pull.head); (case P1_q59 => k_upd); (case P2_q59 => k_upd); (case P3_q59 => k_upd); (case P4_q59 => k_upd); (case o_q59 => exact allNeP (by assumption)); (case S_q59 => exact book_start (rest := []) (by assumption) (by assumption)); (case r9_q59 => exact List.forall_mem_nil _); (case R_q59 => (refine' ⟨?r1_q59, ?r2_q59, ?r3_q59, ?r4_q59, ?r5_q59, ?r6_q59, ?r7_q59, ?r8_q59, ?r9_q59, ?r10_q59, ?r11_q59, ?r12_q59, ?r13_q59, ?r14_q59⟩; (case r1_q59 => k_mem); (case r2_q59 => k_mem); (case r3_q59 => assumption); (case r4_q59 => assumption); (case r5_q59 => k_ne); (case r6_q59 => k_ne); (case r7_q59 => k_ne); (case r8_q59 => k_ne); (case r9_q59 => k_ne); (case r10_q59 => k_ne); (case r11_q59 => k_all); (case r12_q59 => k_all); (case r13_q59 => k_all); (case r14_q59 => k_all))); (all_goals (try clear lF' lN')); (all_goals (try k_fold)))); exact trivial
example : True := by (k_with "pyIter ref" => (k_here; (rename Fr _ _ _ _ => lF'); (rename News _ _ _ _ => lN'); (rename RowsAre _ _ FF => lS'); (have hll := lS'.length); (rename StrsAre _ FA => lA'); (rename Split _ _ _ => lP'); (have lP'' := lP'.eq); (subst lP''); (rename BookR _ _ _ _ _ _ _ _ _ _ _ _ => lR'); (rename BookS _ _ _ _ _ _ _ _ _ _ => lB'); (rename (∀ p ∈ _, Obj.cls (Prod.snd p) = Value.type "tuple") => lT'); (have lO' := book_off lN' lB' (by k_mem) (by k_mem) (by k_mem) (by k_mem) (by (intro p9 h9; k_mem)) lT'); (obtain ⟨lO1, lO2, lO3, lO4⟩ := lO'); (with_unfolding_all refine' iter_funcs (fun i => FA) (fun i => FK.take i) (fun i => 29 + 2 * i) lS' ?led_q60 (by rfl) lF' lN' ?K_q60 ?D_q60 ?P_q60 ?P1_q60 ?P2_q60 ?P3_q60 ?P4_q60 ?o_q60 ?R_q60 ?r9_q60 ?S_q60 (fun rest' e1' e2' e3' e4' e5' e6' e7' e8' e9' i' ra' u1' u2' rc' x1' n1' m1' oTx' oAn' oFu' oFn' tl' own' h' tk' hv' hKi' q5' q6' q7' q8' hm1' q1' q2' q3' q4' hsep' hA' R' S' hm' F' N' => ?_) (fun rest' e1' e2' e3' e4' e5' e6' e7' e8' e9' u' oTx' oAn' oFu' oFn' tl' h' tk' hA' R' S' F' N' => ?_)); (case D_q60 => k_mem); (case K_q60 => (intro i9 h9; (have h8 : FF.length ≤ 90 := by decide); (try dsimp only); omega)); (case P_q60 => exact Pull.head); (case P1_q60 => k_upd); (case P2_q60 => k_upd); (case P3_q60 => k_upd); (case P4_q60 => k_upd); (case led_q60 => (intro p9 h9; k_mem)); (case o_q60 => exact allNeP (by assumption)); (case S_q60 => exact book_fa lB' lA'.length); (case r9_q60 => (intro p9 h9; exact List.mem_append_right _ (List.mem_append_right _ h9))); (case R_q60 => exact lR'.mono (fun p9 h9 => List.mem_append_right _ h9) (List.forall_mem_append.mpr ⟨lO1, lR'.o1⟩) (List.forall_mem_append.mpr ⟨lO2, lR'.o2⟩) (List.forall_mem_append.mpr ⟨lO3, lR'.o3⟩) (List.forall_mem_append.mpr ⟨lO4, lR'.o4⟩)); (all_goals (try clear lF' lN')); (all_goals (try k_fold)))); exact trivial
example : True := by (k_with "TbPost" => (dsimp only [TbPost])); exact trivial
example : True := by (k_with "TbEnd" => (refine' book_end0 ?F_q62 ?N_q62 ?p_q62 ?A_q62 ?R_q62 ?S_q62 ?x_q62 ?f_q62 ?k_q62 ?m_q62; (case F_q62 => assumption); (case N_q62 => assumption); (case p_q62 => assumption); (case A_q62 => assumption); (case R_q62 => assumption); (case S_q62 => assumption); (case x_q62 => exact fa_step (by assumption)); (case f_q62 => exact rfl); (case k_q62 => exact Nat.le_refl _); (case m_q62 => (intro z9 h9; first | exact if_neg h9 | simp [h9])))); exact trivial
example : True := by (k_with "TbEnd" => (refine' book_end ?F_q63 ?N_q63 ?p_q63 ?A_q63 ?A2_q63 ?R_q63 ?S_q63 ?x_q63 ?f_q63 ?k_q63 ?m_q63; (case F_q63 => assumption); (case N_q63 => assumption); (case p_q63 => assumption); (case A_q63 => assumption); (case A2_q63 => assumption); (case R_q63 => assumption); (case S_q63 => assumption); (case x_q63 => exact (ff_step (by assumption) (by assumption)).1); (case f_q63 => exact (ff_step (by assumption) (by assumption)).2); (case k_q63 => ((try dsimp only); omega)); (case m_q63 => (intro z9 h9; first | exact if_neg h9 | simp [h9])))); exact trivial
theorem symbols_spec (B : Below A₀ base outer h₀) (F : Fr h₀ L s.heap m) (X : (Mine.kk.heap_1 w.params).In h₀) (T : Top p loose mean mg mb h₀) (hk : cs.kind = .function) (hd : dp + 10 < recursionLimit) (hu : un + 130 < cLine) (N : News h₀ L s.heap news)
  (hret : ∀ b bd tx an fu fn t1 t2 t3 t4 oTx oAn oFu oFn tl h' tk', Above news ((tx, oTx) :: (an, oAn) :: (fu, oFu) :: (fn, oFn) :: tl) → Fr h₀ L h' m → News h₀ L h' ((tx, oTx) :: (an, oAn) :: (fu, oFu) :: (fn, oFn) :: (news ++ tl)) → BookR w (news ++ tl) b bd tx an fu fn t1 t2 t3 t4 → (b, instObj 122 bd) ∈ tl → (bd, bookD w t1 t2 t3 t4 tx an fu fn) ∈ tl → BookS PG w tl oTx oAn oFu oFn FA FK 93 → Q (.ref b) { s with heap := h', toks := tk' }) :
  wpAny (model PySem.Challenge.rw_ok0024_01.row.prog w) (ktrTop dp un gd cn cs L a ccd cl outer) (call (.ref 122) []) Q E s := by
  revert X; k_fill; intro X
  k_steps
  all_goals (rename BookS _ _ _ _ _ _ _ FA _ _ => hS9)
  all_goals (rename RowsAre _ _ FF => hR9)
  all_goals (have hl9 := hR9.length; rw [hl9] at hS9)
  all_goals (refine' (fun H => hret _ _ _ _ _ _ _ _ _ _ _ _ _ _ _ _ _ H.1 ?F H.2.1 H.2.2.1 (List.mem_cons_self ..) (List.mem_cons_of_mem _ (List.mem_cons_self ..)) H.2.2.2) (sym_end ?k ?l0 ?l1 ?l2 ?l3 ?l4 ?l5 ?e1 ?A0 ?S ?e2 ?A2 ?R ?S2 ?N); (case F => k_asm); (case R => assumption); (case A2 => assumption); (case S2 => exact hS9); (case N => k_asm); (case e2 => assumption); (case e1 => assumption); (case A0 => assumption); (case S => assumption); (case k => decide); (case l0 => assumption); (case l1 => assumption); (case l2 => (first | assumption | (refine' alt_lt_all ?lh ?ls; (case lh => assumption); (case ls => k_allIn)))); (case l3 => (first | assumption | (refine' alt_lt_all ?lh ?ls; (case lh => assumption); (case ls => k_allIn)))); (case l4 => (first | assumption | (refine' alt_lt_all ?lh ?ls; (case lh => assumption); (case ls => k_allIn)))); (case l5 => (first | assumption | (refine' alt_lt_all ?lh ?ls; (case lh => assumption); (case ls => k_allIn)))))
example : True := by k_with_none; (k_with "x_k_room" => ((try simp (config := {zetaDelta := true}) only [depth_under_make, depth_under_kw, depth_in1, depth_deeper, depth_caller]); (try dsimp only [ktrTop]); (first | (refine' rm0 ?ha_q41; (case ha_q41 => assumption)) | (refine' rm1 ?ha_q41 ?hb_q41; (case ha_q41 => assumption); (case hb_q41 => exact rfl)) | (refine' rm2 ?ha_q41 ?hb_q41; (case ha_q41 => assumption); (case hb_q41 => exact rfl)) | (refine' rm3 ?ha_q41 ?hb_q41; (case ha_q41 => assumption); (case hb_q41 => exact rfl)) | (refine' rm4 ?ha_q41 ?hb_q41; (case ha_q41 => assumption); (case hb_q41 => exact rfl)) | omega))); (k_with "x_ktr_units" => ((try simp (config := {zetaDelta := true}) only [units_under_make, units_in1, units_deeper, Around.mark_units, units_caller]); (try dsimp only [ktrTop]); (first | (refine' rm0 ?ha_q42; (case ha_q42 => assumption)) | (refine' rm1 ?ha_q42 ?hb_q42; (case ha_q42 => assumption); (case hb_q42 => exact rfl)) | (refine' rm2 ?ha_q42 ?hb_q42; (case ha_q42 => assumption); (case hb_q42 => exact rfl)) | (refine' rm3 ?ha_q42 ?hb_q42; (case ha_q42 => assumption); (case hb_q42 => exact rfl)) | (refine' rm4 ?ha_q42 ?hb_q42; (case ha_q42 => assumption); (case hb_q42 => exact rfl)) | omega))); (k_with "execs cons" => (k_here; (with_reducible refine sq_tok ?_); intro tk')); (k_with "subscriptTail Name Constant ref int" => (k_here; (with_reducible show wpAny _ _ (subscriptTail _ _ (Value.ref _) (Value.int _ _)) _ _ _); k_dflt (first | (refine' item_tupleT ?t_q44 ?a_q44 ?b_q44 ?c_q44 ?d_q44 ?_; (case t_q44 => (refine' News.isTup ?t1_q44 ?t2_q44; (case t1_q44 => k_asm); (case t2_q44 => k_mem))); (case a_q44 => decide); (case b_q44 => decide); (case c_q44 => rfl); (case d_q44 => rfl); k_whole) | (refine' c_item_lit ?N_q44 ?m_q44 ?a2_q44 ?b2_q44 ?d2_q44 ?_; (case N_q44 => k_asm); (case m_q44 => k_mem); (case a2_q44 => decide); (case b2_q44 => decide); (case d2_q44 => rfl); k_whole)))); (k_with "eval Call Name" => (k_here; with_unfolding_all refine Call_ ?_)); (k_with "x_k_all" => first | assumption | exact List.forall_mem_nil _ | (refine' List.forall_mem_append.mpr ⟨?_, ?_⟩; (focus k_all); k_all) | (refine' List.forall_mem_cons.mpr ⟨?_, ?_⟩; (focus k_ne); k_all) | exact allNeP (by assumption) | (refine' Above.off ?hA_q46 ?hM_q46; (case hA_q46 => assumption); (case hM_q46 => k_mem)) | (refine' alt_all ?lh_q46 ?ls_q46; (case lh_q46 => assumption); (case ls_q46 => k_allIn)) | exact allNe0 (by assumption) | exact allNe1 (by assumption) | exact allNe2 (by assumption) | exact allNe3 (by assumption) | exact allNe4 (by assumption) | exact allNe5 (by assumption) | exact allNe6 (by assumption)); (k_with "x_k_ne" => first | assumption | (refine' alt_ne1 ?lh_q47 ?lm_q47; (case lh_q47 => assumption); (case lm_q47 => k_mem)) | (refine' alt_ne2 ?lh_q47 ?lm_q47; (case lh_q47 => assumption); (case lm_q47 => k_mem)) | (refine' alt_ne3 ?lx_q47 ?lh_q47 ?lm_q47; (case lx_q47 => assumption); (case lh_q47 => assumption); (case lm_q47 => k_mem)) | (refine' alt_ne4 ?lx_q47 ?lh_q47 ?lm_q47; (case lx_q47 => assumption); (case lh_q47 => assumption); (case lm_q47 => k_mem)) | (refine' Ne.symm ?_; assumption) | (refine neN ?_; refine' Ne.symm ?_; assumption) | (refine neN ?_; (try dsimp only); omega) | (refine' news_ne_cls ?nN_q47 ?n1_q47 ?n2_q47 ?n3_q47; (case nN_q47 => assumption); (case n1_q47 => k_mem); (case n2_q47 => k_mem); (case n3_q47 => (intro e9; exact absurd (Value.type.inj e9) (by decide)))) | (refine neN ?_; (try dsimp only); (simp only [List.forall_mem_cons] at *); omega)); (k_with "x_k_mem" => first | assumption | exact List.mem_cons_self | (refine' List.mem_cons_of_mem _ ?_; k_mem) | (refine' List.mem_append_left _ ?_; k_mem) | (refine' List.mem_append_right _ ?_; k_mem)); (k_with "x_k_upd" => first | exact Pull.head | (refine' Pull.tail ?b_q49; (case b_q49 => k_upd)) | (refine' Pull.under _ ?b_q49; (case b_q49 => k_upd))); (k_with "x_k_allIn" => first | assumption | (intro p9 h9; k_mem) | (refine' List.forall_mem_append.mpr ⟨?_, ?_⟩; (focus k_allIn); k_allIn) | exact List.forall_mem_nil _ | exact sub_l (by assumption)); (k_with "x_k_enter" => first | ktr_enter | (refine' code_def ?k1_q51 ?k2_q51 ?k3_q51 ?k4_q51 ?k5_q51 ?kA_q51 ?kF_q51 ?kK_q51 ?k6_q51 ?k7_q51 ?k8_q51 ?k9_q51 ?kB_q51 ?_ ?c2_q51 ?c3_q51 ?c4_q51 ?c5_q51; (case kA_q51 => exact rfl); (case kF_q51 => exact rfl); (case kK_q51 => first | exact rfl | assumption); (case k1_q51 => k_asm); (case k2_q51 => k_asm); (case k3_q51 => k_asm); (case k4_q51 => k_asm); (case k5_q51 => k_asm); (case k6_q51 => k_is); (case k7_q51 => k_is); (case k8_q51 => ktr_room); (case k9_q51 => exact binds_K (by k_in) rfl (by k_is) rfl rfl rfl); (case c5_q51 => decide); (case kB_q51 => exact locs rfl); (case c2_q51 => exact rfl); (case c3_q51 => exact rfl); (case c4_q51 => exact rfl); k_whole; intro g' L' h' FG' F' N' B' X' T'; (try dsimp only); (try k_fold))); exact trivial
end
end
section
noncomputable abbrev opD (w : World) (t1 t2 t3 t4 : Tok) (sy pre inf pos : Addr) : Obj := dictOf [⟨PyData.keyHash w.params (Str.ofString "symbols"), .str (Str.ofString "symbols") t1, .ref sy⟩, ⟨PyData.keyHash w.params (Str.ofString "prefixes"), .str (Str.ofString "prefixes") t2, .ref pre⟩, ⟨PyData.keyHash w.params (Str.ofString "infixes"), .str (Str.ofString "infixes") t3, .ref inf⟩, ⟨PyData.keyHash w.params (Str.ofString "postfixes"), .str (Str.ofString "postfixes") t4, .ref pos⟩] 4
theorem add_end {Q' : Prop} {h₀ h' : Heap} {L d D : Addr} {o o0 o' : Obj} {rest : List (Addr × Obj)} (hret : ∀ tl, Above ((d, o0) :: rest) tl → News h₀ L h' ((d, o') :: (rest ++ tl)) → Q') (N : News h₀ L h' ((D, o) :: (d, o') :: rest)) (hl : ∀ p ∈ (d, o0) :: rest, p.1 < D) : Q' := by
  refine hret [(D, o)] (Above.one hl) (cb_drop N fun p hp => ?_)
  simp only [List.mem_cons, List.mem_append, List.not_mem_nil, or_false] at hp ⊢
  rcases hp with h | h | h <;> simp [h]
theorem tab197 (P : Params) : ∃ t u n d sl, (Mine.kk.heap_1 P).lookup 197 = some { cls := .type "tuple", dict := d, data := .seq #[.str (Str.ofString "fx") t, .str (Str.ofString "fy") u] n, slots := sl } := ⟨_, _, _, _, _, rfl⟩
theorem tab198 (P : Params) : ∃ t u v n d sl, (Mine.kk.heap_1 P).lookup 198 = some { cls := .type "tuple", dict := d, data := .seq #[.str (Str.ofString "xfx") t, .str (Str.ofString "xfy") u, .str (Str.ofString "yfx") v] n, slots := sl } := ⟨_, _, _, _, _, _, rfl⟩
theorem in197 {w : World} {A : Around} {E : Value → Shared → Prop} {s : Shared} {h₀ : Heap} {L : Addr} {m : Str → Option Value} {x : Str} {u : Tok} {Q : Value → Shared → Prop} (F : Fr h₀ L s.heap m) (X : (Mine.kk.heap_1 w.params).In h₀) (h : Q (.bool ([Str.ofString "fx", Str.ofString "fy"].any (· == x))) s) : wpAny (model PG w) A (compareOp .In (.str x u) (.ref 197)) Q E s := by
  obtain ⟨t, u, n, d, sl, e⟩ := tab197 w.params
  exact in_tuple_strs (kun_topT F X e) (.cons _ _ (.cons _ _ .nil)) h
theorem in198 {w : World} {A : Around} {E : Value → Shared → Prop} {s : Shared} {h₀ : Heap} {L : Addr} {m : Str → Option Value} {x : Str} {u : Tok} {Q : Value → Shared → Prop} (F : Fr h₀ L s.heap m) (X : (Mine.kk.heap_1 w.params).In h₀) (h : Q (.bool ([Str.ofString "xfx", Str.ofString "xfy", Str.ofString "yfx"].any (· == x))) s) : wpAny (model PG w) A (compareOp .In (.str x u) (.ref 198)) Q E s := by
  obtain ⟨t, u, v, n, d, sl, e⟩ := tab198 w.params
  exact in_tuple_strs (kun_topT F X e) (.cons _ _ (.cons _ _ (.cons _ _ .nil))) h
section
example : True := by (k_with "compareOp In str ref" => (k_here; k_dflt (first | (refine' in197 ?F_q64 ?X_q64 ?_; (case F_q64 => k_asm); (case X_q64 => assumption); k_whole) | (refine' in198 ?F_q64 ?X_q64 ?_; (case F_q64 => k_asm); (case X_q64 => assumption); k_whole)))); exact trivial
example : True := by (k_with "setItem ref int" => (k_here; k_dflt (refine' kda_set (knd := intKind _ _) ?F_q65 ?N_q65 ?U_q65 ?d_q65 (intKind_is _ _ _ _) ?z_q65 ?_; (case F_q65 => k_asm); (case N_q65 => k_asm); (case U_q65 => k_updF); (case d_q65 => assumption); (case z_q65 => assumption)); intro h' o' F' N' hd'; (try dsimp only at N'); (try k_sweep))); exact trivial
local macro_rules | `(tactic| k_enter) => `(tactic| ktr_enter)
variable {w : World} {p : Program} {loose : List Str} {mean : ExcName → Option Value} {mg mb : Str → Option Value} {dp un : Nat} {gd : Option (List Code)} {cn : Str} {cs : Scope} {a : Addr} {ccd : Value} {cl : List (Str × Addr)} {outer : List Env} {A₀ : Around} {base h₀ : Heap} {L : Addr} {m : Str → Option Value} {s : Shared} {Q E : Value → Shared → Prop} {news rest : List (Addr × Obj)}
theorem add_pre {y : Str} {pr a' : Int} {u1 u2 u3 : Tok} {op opd sy pre inf pos : Addr} {t1 t2 t3 t4 : Tok} {oPre : Obj} {kvs : List (Int × Value)} (hy : y = Str.ofString "fx" ∨ y = Str.ofString "fy") (hp : 0 < pr) (B : Below A₀ base outer h₀) (F : Fr h₀ L s.heap m) (X : (Mine.kk.heap_1 w.params).In h₀) (T : Top p loose mean mg mb h₀) (hk : cs.kind = .function) (hd : dp + 12 < recursionLimit) (hu : un + 150 < cLine) (N : News h₀ L s.heap ((pre, oPre) :: rest)) (hop : (op, instObj 287 opd) ∈ rest) (hopd : (opd, opD w t1 t2 t3 t4 sy pre inf pos) ∈ rest) (o1 : ∀ p ∈ rest, p.1 ≠ pre) (hD : oPre.IsDictOf (intKind PG w) kvs) (hsz : kvs.length ≤ 100000)
  (hret : ∀ v h' tk' oPre' tl, Above ((pre, oPre) :: rest) tl → Fr h₀ L h' m → News h₀ L h' ((pre, oPre') :: (rest ++ tl)) → oPre'.IsDictOf (intKind PG w) (stored kvs a' v) → Q .none { s with heap := h', toks := tk' }) :
  wpAny (model PySem.Challenge.rw_ok0024_01.row.prog w) (ktrTop dp un gd cn cs L a ccd cl outer) (call (.ref 277) [.ref op, .int pr u1, .str y u2, .int a' u3]) Q E s := by
  have hsl : kvs.length ≤ sizeLine := by rw [sizeLine_eq]; omega
  rcases hy with rfl | rfl
  · revert X; k_fill; intro X
    refine wpAny_call ?_
    k_dflt k_enter
    (refine sq_A ?_; intro A9)
    k_steps
    all_goals (refine' add_end (fun tl hA hN => hret _ _ _ _ tl hA ?F hN ?D) ?N ?l; (case N => k_asm); (case F => k_asm); (case D => assumption); (case l => assumption))
  · revert X; k_fill; intro X
    refine wpAny_call ?_
    k_dflt k_enter
    (refine sq_A ?_; intro A9)
    k_steps
    all_goals (refine' add_end (fun tl hA hN => hret _ _ _ _ tl hA ?F hN ?D) ?N ?l; (case N => k_asm); (case F => k_asm); (case D => assumption); (case l => assumption))
theorem add_inf {y : Str} {pr a' : Int} {u1 u2 u3 : Tok} {op opd sy pre inf pos : Addr} {t1 t2 t3 t4 : Tok} {oInf : Obj} {kvs : List (Int × Value)} (hy : y = Str.ofString "xfx" ∨ y = Str.ofString "xfy" ∨ y = Str.ofString "yfx") (hp : 0 < pr) (B : Below A₀ base outer h₀) (F : Fr h₀ L s.heap m) (X : (Mine.kk.heap_1 w.params).In h₀) (T : Top p loose mean mg mb h₀) (hk : cs.kind = .function) (hd : dp + 12 < recursionLimit) (hu : un + 150 < cLine) (N : News h₀ L s.heap ((inf, oInf) :: rest)) (hop : (op, instObj 287 opd) ∈ rest) (hopd : (opd, opD w t1 t2 t3 t4 sy pre inf pos) ∈ rest) (o1 : ∀ p ∈ rest, p.1 ≠ inf) (hD : oInf.IsDictOf (intKind PG w) kvs) (hsz : kvs.length ≤ 100000)
  (hret : ∀ v h' tk' oInf' tl, Above ((inf, oInf) :: rest) tl → Fr h₀ L h' m → News h₀ L h' ((inf, oInf') :: (rest ++ tl)) → oInf'.IsDictOf (intKind PG w) (stored kvs a' v) → Q .none { s with heap := h', toks := tk' }) :
  wpAny (model PySem.Challenge.rw_ok0024_01.row.prog w) (ktrTop dp un gd cn cs L a ccd cl outer) (call (.ref 277) [.ref op, .int pr u1, .str y u2, .int a' u3]) Q E s := by
  have hsl : kvs.length ≤ sizeLine := by rw [sizeLine_eq]; omega
  rcases hy with rfl | rfl | rfl
  · revert X; k_fill; intro X
    refine wpAny_call ?_
    k_dflt k_enter
    (refine sq_A ?_; intro A9)
    k_steps
    all_goals (refine' add_end (fun tl hA hN => hret _ _ _ _ tl hA ?F hN ?D) ?N ?l; (case N => k_asm); (case F => k_asm); (case D => assumption); (case l => assumption))
  · revert X; k_fill; intro X
    refine wpAny_call ?_
    k_dflt k_enter
    (refine sq_A ?_; intro A9)
    k_steps
    all_goals (refine' add_end (fun tl hA hN => hret _ _ _ _ tl hA ?F hN ?D) ?N ?l; (case N => k_asm); (case F => k_asm); (case D => assumption); (case l => assumption))
  · revert X; k_fill; intro X
    refine wpAny_call ?_
    k_dflt k_enter
    (refine sq_A ?_; intro A9)
    k_steps
    all_goals (refine' add_end (fun tl hA hN => hret _ _ _ _ tl hA ?F hN ?D) ?N ?l; (case N => k_asm); (case F => k_asm); (case D => assumption); (case l => assumption))
example : True := by k_with_none; (k_with "x_k_room" => ((try simp (config := {zetaDelta := true}) only [depth_under_make, depth_under_kw, depth_in1, depth_deeper, depth_caller]); (try dsimp only [ktrTop]); (first | (refine' rm0 ?ha_q41; (case ha_q41 => assumption)) | (refine' rm1 ?ha_q41 ?hb_q41; (case ha_q41 => assumption); (case hb_q41 => exact rfl)) | (refine' rm2 ?ha_q41 ?hb_q41; (case ha_q41 => assumption); (case hb_q41 => exact rfl)) | (refine' rm3 ?ha_q41 ?hb_q41; (case ha_q41 => assumption); (case hb_q41 => exact rfl)) | (refine' rm4 ?ha_q41 ?hb_q41; (case ha_q41 => assumption); (case hb_q41 => exact rfl)) | omega))); (k_with "x_ktr_units" => ((try simp (config := {zetaDelta := true}) only [units_under_make, units_in1, units_deeper, Around.mark_units, units_caller]); (try dsimp only [ktrTop]); (first | (refine' rm0 ?ha_q42; (case ha_q42 => assumption)) | (refine' rm1 ?ha_q42 ?hb_q42; (case ha_q42 => assumption); (case hb_q42 => exact rfl)) | (refine' rm2 ?ha_q42 ?hb_q42; (case ha_q42 => assumption); (case hb_q42 => exact rfl)) | (refine' rm3 ?ha_q42 ?hb_q42; (case ha_q42 => assumption); (case hb_q42 => exact rfl)) | (refine' rm4 ?ha_q42 ?hb_q42; (case ha_q42 => assumption); (case hb_q42 => exact rfl)) | omega))); (k_with "execs cons" => (k_here; (with_reducible refine sq_tok ?_); intro tk')); (k_with "subscriptTail Name Constant ref int" => (k_here; (with_reducible show wpAny _ _ (subscriptTail _ _ (Value.ref _) (Value.int _ _)) _ _ _); k_dflt (first | (refine' item_tupleT ?t_q44 ?a_q44 ?b_q44 ?c_q44 ?d_q44 ?_; (case t_q44 => (refine' News.isTup ?t1_q44 ?t2_q44; (case t1_q44 => k_asm); (case t2_q44 => k_mem))); (case a_q44 => decide); (case b_q44 => decide); (case c_q44 => rfl); (case d_q44 => rfl); k_whole) | (refine' c_item_lit ?N_q44 ?m_q44 ?a2_q44 ?b2_q44 ?d2_q44 ?_; (case N_q44 => k_asm); (case m_q44 => k_mem); (case a2_q44 => decide); (case b2_q44 => decide); (case d2_q44 => rfl); k_whole)))); (k_with "eval Call Name" => (k_here; with_unfolding_all refine Call_ ?_)); (k_with "x_k_all" => first | assumption | exact List.forall_mem_nil _ | (refine' List.forall_mem_append.mpr ⟨?_, ?_⟩; (focus k_all); k_all) | (refine' List.forall_mem_cons.mpr ⟨?_, ?_⟩; (focus k_ne); k_all) | exact allNeP (by assumption) | (refine' Above.off ?hA_q46 ?hM_q46; (case hA_q46 => assumption); (case hM_q46 => k_mem)) | (refine' alt_all ?lh_q46 ?ls_q46; (case lh_q46 => assumption); (case ls_q46 => k_allIn)) | exact allNe0 (by assumption) | exact allNe1 (by assumption) | exact allNe2 (by assumption) | exact allNe3 (by assumption) | exact allNe4 (by assumption) | exact allNe5 (by assumption) | exact allNe6 (by assumption)); (k_with "x_k_ne" => first | assumption | (refine' alt_ne1 ?lh_q47 ?lm_q47; (case lh_q47 => assumption); (case lm_q47 => k_mem)) | (refine' alt_ne2 ?lh_q47 ?lm_q47; (case lh_q47 => assumption); (case lm_q47 => k_mem)) | (refine' alt_ne3 ?lx_q47 ?lh_q47 ?lm_q47; (case lx_q47 => assumption); (case lh_q47 => assumption); (case lm_q47 => k_mem)) | (refine' alt_ne4 ?lx_q47 ?lh_q47 ?lm_q47; (case lx_q47 => assumption); (case lh_q47 => assumption); (case lm_q47 => k_mem)) | (refine' Ne.symm ?_; assumption) | (refine neN ?_; refine' Ne.symm ?_; assumption) | (refine neN ?_; (try dsimp only); omega) | (refine' news_ne_cls ?nN_q47 ?n1_q47 ?n2_q47 ?n3_q47; (case nN_q47 => assumption); (case n1_q47 => k_mem); (case n2_q47 => k_mem); (case n3_q47 => (intro e9; exact absurd (Value.type.inj e9) (by decide)))) | (refine neN ?_; (try dsimp only); (simp only [List.forall_mem_cons] at *); omega)); (k_with "x_k_mem" => first | assumption | exact List.mem_cons_self | (refine' List.mem_cons_of_mem _ ?_; k_mem) | (refine' List.mem_append_left _ ?_; k_mem) | (refine' List.mem_append_right _ ?_; k_mem)); (k_with "x_k_upd" => first | exact Pull.head | (refine' Pull.tail ?b_q49; (case b_q49 => k_upd)) | (refine' Pull.under _ ?b_q49; (case b_q49 => k_upd))); (k_with "x_k_allIn" => first | assumption | (intro p9 h9; k_mem) | (refine' List.forall_mem_append.mpr ⟨?_, ?_⟩; (focus k_allIn); k_allIn) | exact List.forall_mem_nil _ | exact sub_l (by assumption)); (k_with "x_k_enter" => first | ktr_enter | (refine' code_def ?k1_q51 ?k2_q51 ?k3_q51 ?k4_q51 ?k5_q51 ?kA_q51 ?kF_q51 ?kK_q51 ?k6_q51 ?k7_q51 ?k8_q51 ?k9_q51 ?kB_q51 ?_ ?c2_q51 ?c3_q51 ?c4_q51 ?c5_q51; (case kA_q51 => exact rfl); (case kF_q51 => exact rfl); (case kK_q51 => first | exact rfl | assumption); (case k1_q51 => k_asm); (case k2_q51 => k_asm); (case k3_q51 => k_asm); (case k4_q51 => k_asm); (case k5_q51 => k_asm); (case k6_q51 => k_is); (case k7_q51 => k_is); (case k8_q51 => ktr_room); (case k9_q51 => exact binds_K (by k_in) rfl (by k_is) rfl rfl rfl); (case c5_q51 => decide); (case kB_q51 => exact locs rfl); (case c2_q51 => exact rfl); (case c3_q51 => exact rfl); (case c4_q51 => exact rfl); k_whole; intro g' L' h' FG' F' N' B' X' T'; (try dsimp only); (try k_fold))); exact trivial
end
end
section
noncomputable def OPR : List (Int × Str × List Str) := [(1200, Str.ofString "xfx", [Str.ofString ":-", Str.ofString "-->"]), (1200, Str.ofString "fx", [Str.ofString ":-", Str.ofString "?-"]), (1150, Str.ofString "fx", [Str.ofString "dynamic", Str.ofString "discontiguous"]), (1100, Str.ofString "xfy", [Str.ofString ";", Str.ofString "|"]), (1050, Str.ofString "xfy", [Str.ofString "->"]), (900, Str.ofString "fy", [Str.ofString "\\+"]), (700, Str.ofString "xfx", [Str.ofString "=", Str.ofString "\\=", Str.ofString "==", Str.ofString "\\==", Str.ofString "@<", Str.ofString "@=<", Str.ofString "@>", Str.ofString "@>=", Str.ofString "=.."]), (700, Str.ofString "xfx", [Str.ofString "is", Str.ofString "=:=", Str.ofString "=\\=", Str.ofString "<", Str.ofString "=<", Str.ofString ">", Str.ofString ">="]), (500, Str.ofString "yfx", [Str.ofString "+", Str.ofString "-", Str.ofString "/\\", Str.ofString "\\/"]), (400, Str.ofString "yfx", [Str.ofString "*", Str.ofString "/", Str.ofString "//", Str.ofString "rem", Str.ofString "mod", Str.ofString "div", Str.ofString "<<", Str.ofString ">>"]), (200, Str.ofString "xfx", [Str.ofString "**"]), (200, Str.ofString "xfy", [Str.ofString "^"]), (200, Str.ofString "fy", [Str.ofString "-", Str.ofString "+", Str.ofString "\\"])]
noncomputable def OPN : List Str := [Str.ofString ":-", Str.ofString "-->", Str.ofString "?-", Str.ofString "dynamic", Str.ofString "discontiguous", Str.ofString ";", Str.ofString "|", Str.ofString "->", Str.ofString "\\+", Str.ofString "=", Str.ofString "\\=", Str.ofString "==", Str.ofString "\\==", Str.ofString "@<", Str.ofString "@=<", Str.ofString "@>", Str.ofString "@>=", Str.ofString "=..", Str.ofString "is", Str.ofString "=:=", Str.ofString "=\\=", Str.ofString "<", Str.ofString "=<", Str.ofString ">", Str.ofString ">=", Str.ofString "+", Str.ofString "-", Str.ofString "/\\", Str.ofString "\\/", Str.ofString "*", Str.ofString "/", Str.ofString "//", Str.ofString "rem", Str.ofString "mod", Str.ofString "div", Str.ofString "<<", Str.ofString ">>", Str.ofString "**", Str.ofString "^", Str.ofString "\\"]
inductive ORows (led : List (Addr × Obj)) : List Value → List (Int × Str × List Str) → Prop
  | nil : ORows led [] []
  | cons {a na : Addr} {t u : Tok} {c c2 : Nat} {pr : Int} {y : Str} {its : List Value} {ns : List Str} {vs : List Value} {rs : List (Int × Str × List Str)} : (a, tupO [.int pr t, .str y u, .ref na] c) ∈ led → (na, tupO its c2) ∈ led → StrsAre its ns → ORows led vs rs → ORows led (.ref a :: vs) ((pr, y, ns) :: rs)
theorem ORows.get {led : List (Addr × Obj)} {vs : List Value} {rs : List (Int × Str × List Str)} (h : ORows led vs rs) {i : Nat} {v : Value} (hv : vs[i]? = some v) : ∃ a na t u c c2 pr y its ns, v = .ref a ∧ rs[i]? = some (pr, y, ns) ∧ (a, tupO [.int pr t, .str y u, .ref na] c) ∈ led ∧ (na, tupO its c2) ∈ led ∧ StrsAre its ns := by
  induction h generalizing i with
  | nil => simp at hv
  | cons hm hm2 hs _ ih =>
    cases i with
    | zero => simp at hv; exact ⟨_, _, _, _, _, _, _, _, _, _, hv.symm, rfl, hm, hm2, hs⟩
    | succ i => exact ih (by simpa using hv)
theorem ORows.length {led : List (Addr × Obj)} {vs : List Value} {rs : List (Int × Str × List Str)} (h : ORows led vs rs) : vs.length = rs.length := by
  induction h with
  | nil => rfl
  | cons _ _ _ _ ih => simp [ih]
theorem ORows.of {led : List (Addr × Obj)} {vs : List Value} : ∀ {rs : List (Int × Str × List Str)}, Al2 (OpP led) vs (rs.map fun r => (PyData.int r.1, PyData.str r.2.1, r.2.2.map PyData.str)) → ORows led vs rs := by
  intro rs h
  induction rs generalizing vs with
  | nil => cases h; exact .nil
  | cons r rs ih =>
    obtain ⟨n, x, ns⟩ := r
    cases h with
    | cons h1 h2 =>
      obtain ⟨a, b, vx, vy, us, rfl, m1, m2, d1, d2, d3⟩ := h1
      obtain ⟨t, rfl⟩ := datum_int d1
      obtain ⟨u, rfl⟩ := datum_str d2
      exact .cons m1 m2 (all_strs d3) (ih h2)
section
example : True := by (k_with "eval Tuple" => (k_here; (refine' ops_walk (as := OPR.map fun r => (PyData.int r.1, PyData.str r.2.1, r.2.2.map PyData.str)) ?e_q66 ?z_q66 ?F_q66 ?N_q66 ?_; (case F_q66 => k_asm); (case N_q66 => k_asm); (case e_q66 => kernel_rfl); (case z_q66 => decide)); intro D' vs' l' tl' h' tk' hS' hl' hT' hv' F' N')); exact trivial
variable {w : World} {p : Program} {loose : List Str} {mean : ExcName → Option Value} {mg mb : Str → Option Value} {dp un : Nat} {gd : Option (List Code)} {cn : Str} {cs : Scope} {a : Addr} {ccd : Value} {cl : List (Str × Addr)} {outer : List Env} {A₀ : Around} {base h₀ : Heap} {L : Addr} {m : Str → Option Value} {s : Shared} {Q E : Value → Shared → Prop} {news rest : List (Addr × Obj)}
theorem standard_rows_spec (B : Below A₀ base outer h₀) (F : Fr h₀ L s.heap m) (X : (Mine.kk.heap_1 w.params).In h₀) (T : Top p loose mean mg mb h₀) (hk : cs.kind = .function) (hd : dp + 5 < recursionLimit) (hu : un + 60 < cLine) (N : News h₀ L s.heap news)
  (hret : ∀ D items c l tl h' tk', Split news l tl → (∀ p ∈ l, p.1 < D) → (∀ p ∈ tl, p.2.cls = .type "tuple") → ORows tl items OPR → Fr h₀ L h' m → News h₀ L h' ((D, tupO items c) :: l) → Q (.ref D) { s with heap := h', toks := tk' }) :
  wpAny (model PySem.Challenge.rw_ok0024_01.row.prog w) (ktrTop dp un gd cn cs L a ccd cl outer) (call (.ref 206) []) Q E s := by
  revert X; k_fill; intro X
  refine wpAny_call ?_
  k_dflt k_enter
  (refine sq_A ?_; intro A9)
  k_steps
  all_goals (refine' hret _ _ _ _ _ _ _ ?sp ?a ?t ?b ?f ?n; (case f => k_asm); (case n => k_asm); (case sp => assumption); (case a => assumption); (case t => assumption); (case b => exact ORows.of (by assumption)))
example : True := by k_with_none; (k_with "x_k_room" => ((try simp (config := {zetaDelta := true}) only [depth_under_make, depth_under_kw, depth_in1, depth_deeper, depth_caller]); (try dsimp only [ktrTop]); (first | (refine' rm0 ?ha_q41; (case ha_q41 => assumption)) | (refine' rm1 ?ha_q41 ?hb_q41; (case ha_q41 => assumption); (case hb_q41 => exact rfl)) | (refine' rm2 ?ha_q41 ?hb_q41; (case ha_q41 => assumption); (case hb_q41 => exact rfl)) | (refine' rm3 ?ha_q41 ?hb_q41; (case ha_q41 => assumption); (case hb_q41 => exact rfl)) | (refine' rm4 ?ha_q41 ?hb_q41; (case ha_q41 => assumption); (case hb_q41 => exact rfl)) | omega))); (k_with "x_ktr_units" => ((try simp (config := {zetaDelta := true}) only [units_under_make, units_in1, units_deeper, Around.mark_units, units_caller]); (try dsimp only [ktrTop]); (first | (refine' rm0 ?ha_q42; (case ha_q42 => assumption)) | (refine' rm1 ?ha_q42 ?hb_q42; (case ha_q42 => assumption); (case hb_q42 => exact rfl)) | (refine' rm2 ?ha_q42 ?hb_q42; (case ha_q42 => assumption); (case hb_q42 => exact rfl)) | (refine' rm3 ?ha_q42 ?hb_q42; (case ha_q42 => assumption); (case hb_q42 => exact rfl)) | (refine' rm4 ?ha_q42 ?hb_q42; (case ha_q42 => assumption); (case hb_q42 => exact rfl)) | omega))); (k_with "execs cons" => (k_here; (with_reducible refine sq_tok ?_); intro tk')); (k_with "subscriptTail Name Constant ref int" => (k_here; (with_reducible show wpAny _ _ (subscriptTail _ _ (Value.ref _) (Value.int _ _)) _ _ _); k_dflt (first | (refine' item_tupleT ?t_q44 ?a_q44 ?b_q44 ?c_q44 ?d_q44 ?_; (case t_q44 => (refine' News.isTup ?t1_q44 ?t2_q44; (case t1_q44 => k_asm); (case t2_q44 => k_mem))); (case a_q44 => decide); (case b_q44 => decide); (case c_q44 => rfl); (case d_q44 => rfl); k_whole) | (refine' c_item_lit ?N_q44 ?m_q44 ?a2_q44 ?b2_q44 ?d2_q44 ?_; (case N_q44 => k_asm); (case m_q44 => k_mem); (case a2_q44 => decide); (case b2_q44 => decide); (case d2_q44 => rfl); k_whole)))); (k_with "eval Call Name" => (k_here; with_unfolding_all refine Call_ ?_)); (k_with "x_k_all" => first | assumption | exact List.forall_mem_nil _ | (refine' List.forall_mem_append.mpr ⟨?_, ?_⟩; (focus k_all); k_all) | (refine' List.forall_mem_cons.mpr ⟨?_, ?_⟩; (focus k_ne); k_all) | exact allNeP (by assumption) | (refine' Above.off ?hA_q46 ?hM_q46; (case hA_q46 => assumption); (case hM_q46 => k_mem)) | (refine' alt_all ?lh_q46 ?ls_q46; (case lh_q46 => assumption); (case ls_q46 => k_allIn)) | exact allNe0 (by assumption) | exact allNe1 (by assumption) | exact allNe2 (by assumption) | exact allNe3 (by assumption) | exact allNe4 (by assumption) | exact allNe5 (by assumption) | exact allNe6 (by assumption)); (k_with "x_k_ne" => first | assumption | (refine' alt_ne1 ?lh_q47 ?lm_q47; (case lh_q47 => assumption); (case lm_q47 => k_mem)) | (refine' alt_ne2 ?lh_q47 ?lm_q47; (case lh_q47 => assumption); (case lm_q47 => k_mem)) | (refine' alt_ne3 ?lx_q47 ?lh_q47 ?lm_q47; (case lx_q47 => assumption); (case lh_q47 => assumption); (case lm_q47 => k_mem)) | (refine' alt_ne4 ?lx_q47 ?lh_q47 ?lm_q47; (case lx_q47 => assumption); (case lh_q47 => assumption); (case lm_q47 => k_mem)) | (refine' Ne.symm ?_; assumption) | (refine neN ?_; refine' Ne.symm ?_; assumption) | (refine neN ?_; (try dsimp only); omega) | (refine' news_ne_cls ?nN_q47 ?n1_q47 ?n2_q47 ?n3_q47; (case nN_q47 => assumption); (case n1_q47 => k_mem); (case n2_q47 => k_mem); (case n3_q47 => (intro e9; exact absurd (Value.type.inj e9) (by decide)))) | (refine neN ?_; (try dsimp only); (simp only [List.forall_mem_cons] at *); omega)); (k_with "x_k_mem" => first | assumption | exact List.mem_cons_self | (refine' List.mem_cons_of_mem _ ?_; k_mem) | (refine' List.mem_append_left _ ?_; k_mem) | (refine' List.mem_append_right _ ?_; k_mem)); (k_with "x_k_upd" => first | exact Pull.head | (refine' Pull.tail ?b_q49; (case b_q49 => k_upd)) | (refine' Pull.under _ ?b_q49; (case b_q49 => k_upd))); (k_with "x_k_allIn" => first | assumption | (intro p9 h9; k_mem) | (refine' List.forall_mem_append.mpr ⟨?_, ?_⟩; (focus k_allIn); k_allIn) | exact List.forall_mem_nil _ | exact sub_l (by assumption)); (k_with "x_k_enter" => first | ktr_enter | (refine' code_def ?k1_q51 ?k2_q51 ?k3_q51 ?k4_q51 ?k5_q51 ?kA_q51 ?kF_q51 ?kK_q51 ?k6_q51 ?k7_q51 ?k8_q51 ?k9_q51 ?kB_q51 ?_ ?c2_q51 ?c3_q51 ?c4_q51 ?c5_q51; (case kA_q51 => exact rfl); (case kF_q51 => exact rfl); (case kK_q51 => first | exact rfl | assumption); (case k1_q51 => k_asm); (case k2_q51 => k_asm); (case k3_q51 => k_asm); (case k4_q51 => k_asm); (case k5_q51 => k_asm); (case k6_q51 => k_is); (case k7_q51 => k_is); (case k8_q51 => ktr_room); (case k9_q51 => exact binds_K (by k_in) rfl (by k_is) rfl rfl rfl); (case c5_q51 => decide); (case kB_q51 => exact locs rfl); (case c2_q51 => exact rfl); (case c3_q51 => exact rfl); (case c4_q51 => exact rfl); k_whole; intro g' L' h' FG' F' N' B' X' T'; (try dsimp only); (try k_fold))); exact trivial
end
end
section
section
variable {prog : Program} {w : World} {A : Around} {E : Value → Shared → Prop} {s : Shared} {env : Env} {h₀ : Heap} {x : Str} {target : PySem.Expr} {body : List Stmt} {Q : Flow → Shared → Prop}
theorem iter_tupT {ta : Addr} {items : List Value} {c : Nat} {m₀ : Str → Option Value} {news news0 : List (Addr × Obj)} (J : Nat → (Str → Option Value) → List (Addr × Obj) → Prop)
    (hh : A.handled = none) (F : Fr h₀ env.locals s.heap m₀) (N : News h₀ env.locals s.heap news0) (hta : (ta, tupO items c) ∈ news0) (hs : ∀ p ∈ news, p ∈ news0) (hoff : ∀ p ∈ news, p.1 ≠ ta) (hj : J 0 m₀ news)
    (turn : ∀ i v m₁ nx h tk own, items[i]? = some v → TbOff own nx → J i m₁ nx → Fr h₀ env.locals h m₁ → News h₀ env.locals h (nx ++ own) →
      wpAny (model prog w) A (assign target env v) (fun _ s₃ => wpAny (model prog w) A (execs body env) (TbPost h₀ env.locals (J (i + 1)) own { s with heap := h, toks := tk } Q) E s₃) E { s with heap := h, toks := tk })
    (done : ∀ m₁ nx h tk, J items.length m₁ nx → Fr h₀ env.locals h m₁ → News h₀ env.locals h nx → Q .next { s with heap := h, toks := tk }) :
    wpAny (model prog w) A (pyIter (.ref ta)) (fun it s₂ => TurnsAt prog w A h₀ env target body Q E it s₂) E s := by
  have hls : s.heap.IsTuple ta items.toArray := ⟨_, (N _ hta).1, rfl, c, rfl⟩
  have hlt : ta < s.heap.objs.size := Heap.lt_size (N _ hta).1
  have hne : ta ≠ s.heap.objs.size := Nat.ne_of_lt hlt
  refine wpAny_pyIter_tuple hls ?_
  have W := KTurns.ofWalks (target := target) (Walks.tuple (prog := prog) (w := w) hh s.heap.objs.size ta hne items.toArray) fun i v s Q E st q => letGo_tupleiter st.1 q
  have hlen : items.toArray.size = items.length := by simp
  rw [hlen] at W
  have N0 : News h₀ env.locals s.heap news := cb_drop N hs
  refine ⟨_, _, _, items.length, _, _, _, m₀, news, (fun i m nx => J i m nx ∧ ∀ p ∈ nx, p.1 ≠ ta), rfl, W, ?_, ?_, ?_, ⟨⟨_, Heap.get?_push_size _ rfl, rfl, rfl⟩, hls.at fun o e => Heap.get?_push_of_some _ e⟩, F.push _, (fun p hp => ⟨Heap.get?_push_of_some _ (N0 p hp).1, (N0 p hp).2⟩), ⟨hj, hoff⟩, ?_, ?_⟩
  · intro hm
    rcases List.mem_cons.mp hm with e | hm
    · exact absurd F.ns.lt (e ▸ Nat.lt_irrefl _)
    · exact (N _ hta).2.1 (List.mem_singleton.mp hm).symm
  · intro b hb
    rw [List.mem_singleton.mp hb]
    exact next_is_new F
  · intro p hp hI
    exact absurd (Heap.lt_size (N0 p hp).1) ((List.mem_singleton.mp hI) ▸ Nat.lt_irrefl _)
  · rintro i v m₁ news₁ hh' tk' own hin hP ⟨hJ, hta'⟩ hoff' hown _ hmem hst F₁ N₁
    obtain ⟨⟨oi, hoi, _⟩, ⟨ot, hot, _⟩⟩ := hst
    have hI : (s.heap.objs.size, oi) ∈ own := hmem _ (.head _) (next_is_new F) oi hoi
    have hT : (ta, ot) ∈ own := hmem _ (.tail _ (.head _)) (N _ hta).2.2 ot hot
    have hsep : TbOff own news₁ := by
      intro p hp q hq e
      rcases List.mem_cons.mp (hown p hp) with h1 | h1
      · exact hoff' q hq (List.mem_singleton.mpr (by rw [← e, h1]))
      · exact hta' q hq (by rw [← e]; exact List.mem_singleton.mp h1)
    have N₂ : News h₀ env.locals hh' (news₁ ++ own) := fun p hp => N₁ p ((List.mem_append.mp hp).elim (fun h => List.mem_append.mpr (.inr h)) fun h => List.mem_append.mpr (.inl h))
    refine wpAny_mono (turn i v m₁ news₁ hh' tk' own (by simpa using hP) hsep hJ F₁ N₂) (fun _ s₃ h₃ => wpAny_mono h₃ (fun f s₂ p => ?_) fun _ _ e => e) fun _ _ e => e
    have fin : TbEnd h₀ env.locals (J (i + 1)) own { s with heap := hh', toks := tk' } s₂ → LoopStepU h₀ env.locals [s.heap.objs.size] own (fun m nx => J (i + 1) m nx ∧ ∀ p ∈ nx, p.1 ≠ ta) { s with heap := hh', toks := tk' } .next s₂ := by
      rintro ⟨h', tk, m', news', nx, e, F', N', hn, ho, ha, hm⟩
      exact ⟨rfl, h', tk, m', nx, e, F', fun p hp => N' p ((List.mem_append.mp hp).elim (ho p) (hn p)), fun p hp hq => ha _ hI p hp (List.mem_singleton.mp hq).symm, hm, fun p hp e => ha _ hT p hp e.symm⟩
    cases f with
    | ret v => exact .ret p
    | brk => exact .brk p
    | next => exact .next (fin p)
    | cont => exact .cont (fin p)
  · rintro h' tk m' news' F' N' _ hJ
    exact done m' news' h' tk hJ.1 F' N'
-- the operator tables: the prefix table's keys are numbers of operator names
structure OpS (prog : Program) (w : World) (xs : List Str) (oPre oInf : Obj) (n : Nat) : Prop where
  pre : ∃ kp, oPre.IsDictOf (intKind prog w) kp ∧ kp.length ≤ n ∧ ∀ k ∈ kp.map (·.1), ∃ (i : Nat) (y : Str), k = (i : Int) ∧ xs[i]? = some y ∧ y ∈ OPN
  inf : ∃ ki, oInf.IsDictOf (intKind prog w) ki ∧ ki.length ≤ n
theorem addA_get {xs : List Str} {x y : Str} {i : Nat} (h : xs[i]? = some y) : (addA xs x)[i]? = some y := by
  unfold addA
  split
  · exact h
  · rw [List.getElem?_append_left (List.getElem?_eq_some_iff.mp h).1]; exact h
theorem addF_get {xs : List (List Int)} {x y : List Int} {i : Nat} (h : xs[i]? = some y) : (addF xs x)[i]? = some y := by
  unfold addF
  split
  · exact h
  · rw [List.getElem?_append_left (List.getElem?_eq_some_iff.mp h).1]; exact h
theorem addA_pre {ys xs : List Str} {x : Str} (h : ys <+: xs) : ys <+: addA xs x := by
  unfold addA
  split
  · exact h
  · exact h.trans (List.prefix_append _ _)
theorem stored_len {K : Type} [DecidableEq K] {kvs : List (K × Value)} {k : K} {v : Value} : (stored kvs k v).length ≤ kvs.length + 1 := by
  unfold stored; split <;> simp
theorem stored_keys {K : Type} [DecidableEq K] {kvs : List (K × Value)} {k : K} {v : Value} : ∀ q ∈ (stored kvs k v).map (·.1), q ∈ kvs.map (·.1) ∨ q = k := by
  intro q hq
  unfold stored at hq
  split at hq
  · left
    obtain ⟨p, hp, rfl⟩ := List.mem_map.mp hq
    obtain ⟨r, hr, rfl⟩ := List.mem_map.mp hp
    split
    · exact List.mem_map.mpr ⟨r, hr, rfl⟩
    · exact List.mem_map.mpr ⟨r, hr, rfl⟩
  · rw [List.map_append] at hq
    rcases List.mem_append.mp hq with hq | hq
    · exact .inl hq
    · simp at hq; exact .inr hq
theorem OpS.addPre {xs : List Str} {oPre oInf oPre' : Obj} {n j : Nat} {x : Str} {kp : List (Int × Value)} {v : Value} (S : OpS prog w xs oPre oInf n) (hk : kp.length ≤ n ∧ ∀ k ∈ kp.map (·.1), ∃ (i : Nat) (y : Str), k = (i : Int) ∧ xs[i]? = some y ∧ y ∈ OPN) (hx : x ∈ OPN) (hj : (addA xs x)[j]? = some x) (hD : oPre'.IsDictOf (intKind prog w) (stored kp (j : Int) v)) : OpS prog w (addA xs x) oPre' oInf (n + 1) := by
  refine ⟨⟨_, hD, Nat.le_trans stored_len (Nat.succ_le_succ hk.1), fun k hk' => ?_⟩, let ⟨ki, a, b⟩ := S.inf; ⟨ki, a, Nat.le_succ_of_le b⟩⟩
  rcases stored_keys k hk' with h | rfl
  · obtain ⟨i, y, e, h1, h2⟩ := hk.2 k h
    exact ⟨i, y, e, addA_get h1, h2⟩
  · exact ⟨j, x, rfl, hj, hx⟩
theorem OpS.addInf {xs : List Str} {oPre oInf oInf' : Obj} {n j : Nat} {x : Str} {ki : List (Int × Value)} {v : Value} (S : OpS prog w xs oPre oInf n) (hk : ki.length ≤ n) (hD : oInf'.IsDictOf (intKind prog w) (stored ki (j : Int) v)) : OpS prog w (addA xs x) oPre oInf' (n + 1) := by
  obtain ⟨kp, a, b, c⟩ := S.pre
  exact ⟨⟨kp, a, Nat.le_succ_of_le b, fun k hk => let ⟨i, y, e, h1, h2⟩ := c k hk; ⟨i, y, e, addA_get h1, h2⟩⟩, ⟨_, hD, Nat.le_trans stored_len (Nat.succ_le_succ hk)⟩⟩
theorem OpS.le {xs : List Str} {oPre oInf : Obj} {n n' : Nat} (S : OpS prog w xs oPre oInf n) (h : n ≤ n') : OpS prog w xs oPre oInf n' :=
  ⟨let ⟨kp, a, b, c⟩ := S.pre; ⟨kp, a, Nat.le_trans b h, c⟩, let ⟨ki, a, b⟩ := S.inf; ⟨ki, a, Nat.le_trans b h⟩⟩
-- the loops' state: book, tables, a growing rest; the names in vs may change
noncomputable def OpJ (prog : Program) (w : World) (vs : List Str) (m₀ : Str → Option Value) (rest : List (Addr × Obj)) (tx an fu fn pre inf : Addr) (oFu oFn : Obj) (K : Nat → Nat) (i : Nat) (m : Str → Option Value) (nx : List (Addr × Obj)) : Prop :=
  ∃ oTx oAn oPre oInf xs tl, nx = (tx, oTx) :: (an, oAn) :: (fu, oFu) :: (fn, oFn) :: (pre, oPre) :: (inf, oInf) :: (rest ++ tl) ∧ Above ((tx, oTx) :: (an, oAn) :: (fu, oFu) :: (fn, oFn) :: (pre, oPre) :: (inf, oInf) :: rest) tl ∧ BookS prog w rest oTx oAn oFu oFn xs FK (93 + K i) ∧ FA <+: xs ∧ OpS prog w xs oPre oInf (K i) ∧ ∀ z, z ∉ vs → m z = m₀ z
noncomputable def OffA (as : List Addr) (tl : List (Addr × Obj)) : Prop := ∀ p ∈ tl, p.1 ∉ as
theorem opj_map {vs : List Str} {m₀ m₁ : Str → Option Value} (h : ∀ z, z ∉ vs → m₁ z = m₀ z) : m₁ = fun z => if vs.contains z then m₁ z else m₀ z := by
  funext z
  cases e : vs.contains z with
  | true => simp
  | false => simp only [Bool.false_eq_true, if_false]; exact h z (by simpa using e)
theorem op_end {vs : List Str} {m₀ m' : Str → Option Value} {rest own tl tl2 led lA : List (Addr × Obj)} {tx an fu fn pre inf : Addr} {oTx oAn oFu oFn oPre oInf oTx' oAn' oPre' oInf' : Obj} {K : Nat → Nat} {i k' : Nat} {xs' : List Str} {L : Addr} {h' : Heap} {tk : Nat} {s₁ : Shared}
    (hA9 : Above lA tl2) (F : Fr h₀ L h' m') (N : News h₀ L h' led) (hN : ∀ p ∈ (tx, oTx') :: (an, oAn') :: (fu, oFu) :: (fn, oFn) :: (pre, oPre') :: (inf, oInf') :: (rest ++ (tl ++ (own ++ tl2))), p ∈ led)
    (hsep : TbOff own ((tx, oTx) :: (an, oAn) :: (fu, oFu) :: (fn, oFn) :: (pre, oPre) :: (inf, oInf) :: (rest ++ tl))) (hA0 : Above ((tx, oTx) :: (an, oAn) :: (fu, oFu) :: (fn, oFn) :: (pre, oPre) :: (inf, oInf) :: rest) tl)
    (hA8 : ∀ q, (q = tx ∨ q = an ∨ q = fu ∨ q = fn ∨ q = pre ∨ q = inf ∨ ∃ o, (q, o) ∈ rest ++ (tl ++ own)) → ∃ o, (q, o) ∈ lA)
    (S : BookS prog w rest oTx' oAn' oFu oFn xs' FK k') (hk : k' ≤ 93 + K (i + 1)) (hx : FA <+: xs') (O : OpS prog w xs' oPre' oInf' (K (i + 1))) (hm : ∀ z, z ∉ vs → m' z = m₀ z) :
    TbEnd h₀ L (OpJ prog w vs m₀ rest tx an fu fn pre inf oFu oFn K (i + 1)) own s₁ { s₁ with heap := h', toks := tk } := by
  have hA : ∀ q, (q = tx ∨ q = an ∨ q = fu ∨ q = fn ∨ q = pre ∨ q = inf ∨ ∃ o, (q, o) ∈ rest ++ (tl ++ own)) → ∀ p ∈ tl2, q < p.1 := by
    intro q hq p hp
    obtain ⟨o, ho⟩ := hA8 q hq
    exact hA9 (q, o) ho p hp
  replace N := cb_drop N hN
  refine ⟨h', tk, m', _, (tx, oTx') :: (an, oAn') :: (fu, oFu) :: (fn, oFn) :: (pre, oPre') :: (inf, oInf') :: (rest ++ (tl ++ tl2)), rfl, F, N, ?_, ?_, ?_, ⟨oTx', oAn', oPre', oInf', xs', tl ++ tl2, rfl, ?_, S.le hk, hx, O, hm⟩⟩
  · intro p hp
    simp only [List.mem_cons, List.mem_append] at hp ⊢
    rcases hp with h | h | h | h | h | h | h | h | h <;> simp [h]
  · intro p hp
    simp only [List.mem_cons, List.mem_append]; simp [hp]
  · intro p hp q hq
    rcases List.mem_cons.mp hq with rfl | hq
    · exact hsep p hp (tx, oTx) (.head _)
    rcases List.mem_cons.mp hq with rfl | hq
    · exact hsep p hp (an, oAn) (.tail _ (.head _))
    rcases List.mem_cons.mp hq with rfl | hq
    · exact hsep p hp (fu, oFu) (.tail _ (.tail _ (.head _)))
    rcases List.mem_cons.mp hq with rfl | hq
    · exact hsep p hp (fn, oFn) (.tail _ (.tail _ (.tail _ (.head _))))
    rcases List.mem_cons.mp hq with rfl | hq
    · exact hsep p hp (pre, oPre) (.tail _ (.tail _ (.tail _ (.tail _ (.head _)))))
    rcases List.mem_cons.mp hq with rfl | hq
    · exact hsep p hp (inf, oInf) (.tail _ (.tail _ (.tail _ (.tail _ (.tail _ (.head _))))))
    rw [← List.append_assoc] at hq
    rcases List.mem_append.mp hq with hq | hq
    · exact hsep p hp q (.tail _ (.tail _ (.tail _ (.tail _ (.tail _ (.tail _ hq))))))
    · refine Nat.ne_of_lt (hA p.1 ?_ q hq)
      exact .inr (.inr (.inr (.inr (.inr (.inr ⟨p.2, List.mem_append_right _ (List.mem_append_right _ hp)⟩)))))
  · refine Above.same (l := (tx, oTx) :: (an, oAn) :: (fu, oFu) :: (fn, oFn) :: (pre, oPre) :: (inf, oInf) :: rest) (Above.append hA0 (fun q hq p hp => hA q.1 ?_ p hp)) rfl
    rcases List.mem_cons.mp hq with rfl | hq
    · simp
    rcases List.mem_cons.mp hq with rfl | hq
    · simp
    rcases List.mem_cons.mp hq with rfl | hq
    · simp
    rcases List.mem_cons.mp hq with rfl | hq
    · simp
    rcases List.mem_cons.mp hq with rfl | hq
    · simp
    rcases List.mem_cons.mp hq with rfl | hq
    · simp
    exact .inr (.inr (.inr (.inr (.inr (.inr ⟨q.2, List.mem_append_left _ hq⟩)))))
theorem BookS.swap {rest rest' : List (Addr × Obj)} {oTx oAn oTx' oAn' oFu oFn : Obj} {xs xs' : List Str} {fs : List (List Int)} {K K' : Nat} (S' : BookS prog w rest' oTx' oAn' oFu oFn xs' fs K') (S : BookS prog w rest oTx oAn oFu oFn xs fs K) : BookS prog w rest oTx' oAn' oFu oFn xs' fs K' := ⟨S'.sz, S'.tx, S'.an, S.fu⟩
theorem op_endO {vs : List Str} {m₀ m' : Str → Option Value} {rest own tl tl2 r2 : List (Addr × Obj)} {tx an fu fn pre inf : Addr} {oTx oAn oFu oFn oPre oInf oTx' oAn' oPre' oInf' : Obj} {K : Nat → Nat} {i k' k9 k8 : Nat} {xs xs' : List Str} {L : Addr} {h' : Heap} {tk : Nat} {s₁ : Shared}
    (e1 : ∀ p ∈ rest ++ (tl ++ own), p ∈ r2) (hA9 : Above ((tx, oTx') :: (an, oAn') :: (fu, oFu) :: (fn, oFn) :: (pre, oPre') :: (inf, oInf') :: r2) tl2) (F : Fr h₀ L h' m') (N : News h₀ L h' ((tx, oTx') :: (an, oAn') :: (fu, oFu) :: (fn, oFn) :: (pre, oPre') :: (inf, oInf') :: (r2 ++ tl2)))
    (hsep : TbOff own ((tx, oTx) :: (an, oAn) :: (fu, oFu) :: (fn, oFn) :: (pre, oPre) :: (inf, oInf) :: (rest ++ tl))) (hA0 : Above ((tx, oTx) :: (an, oAn) :: (fu, oFu) :: (fn, oFn) :: (pre, oPre) :: (inf, oInf) :: rest) tl)
    (S' : BookS prog w r2 oTx' oAn' oFu oFn xs' FK k') (S : BookS prog w rest oTx oAn oFu oFn xs FK k9) (hk : k' ≤ 93 + K (i + 1)) (hx : FA <+: xs') (O : OpS prog w xs' oPre' oInf' k8) (hk8 : k8 ≤ K (i + 1)) (hm : ∀ z, z ∉ vs → m' z = m₀ z) :
    TbEnd h₀ L (OpJ prog w vs m₀ rest tx an fu fn pre inf oFu oFn K (i + 1)) own s₁ { s₁ with heap := h', toks := tk } := by
  refine op_end hA9 F N ?_ hsep hA0 ?_ (S'.swap S) hk hx (O.le hk8) hm
  · intro p hp
    rcases List.mem_cons.mp hp with rfl | hp
    · k_mem
    rcases List.mem_cons.mp hp with rfl | hp
    · k_mem
    rcases List.mem_cons.mp hp with rfl | hp
    · k_mem
    rcases List.mem_cons.mp hp with rfl | hp
    · k_mem
    rcases List.mem_cons.mp hp with rfl | hp
    · k_mem
    rcases List.mem_cons.mp hp with rfl | hp
    · k_mem
    rw [← List.append_assoc tl, ← List.append_assoc rest] at hp
    rcases List.mem_append.mp hp with hp | hp
    · have := e1 _ hp
      k_mem
    · k_mem
  · rintro q (rfl | rfl | rfl | rfl | rfl | rfl | ⟨o, h⟩)
    · exact ⟨_, .head _⟩
    · exact ⟨_, .tail _ (.head _)⟩
    · exact ⟨_, .tail _ (.tail _ (.head _))⟩
    · exact ⟨_, .tail _ (.tail _ (.tail _ (.head _)))⟩
    · exact ⟨_, .tail _ (.tail _ (.tail _ (.tail _ (.head _))))⟩
    · exact ⟨_, .tail _ (.tail _ (.tail _ (.tail _ (.tail _ (.head _)))))⟩
    · exact ⟨o, .tail _ (.tail _ (.tail _ (.tail _ (.tail _ (.tail _ (e1 _ h))))))⟩
theorem iter_tupKeep {ta : Addr} {items : List Value} {c : Nat} {m₀ : Str → Option Value} {news news0 : List (Addr × Obj)} (J : Nat → (Str → Option Value) → List (Addr × Obj) → Prop)
    (hh : A.handled = none) (F : Fr h₀ env.locals s.heap m₀) (N : News h₀ env.locals s.heap news0) (hta : (ta, tupO items c) ∈ news0) (hs : ∀ p ∈ news, p ∈ news0) (hkeep : ∀ i m nx, J i m nx → (ta, tupO items c) ∈ nx) (hj : J 0 m₀ news)
    (turn : ∀ i v m₁ nx h tk own, items[i]? = some v → TbOff own nx → J i m₁ nx → Fr h₀ env.locals h (fun y => if y = x then some v else m₁ y) → News h₀ env.locals h (nx ++ own) →
      wpAny (model prog w) A (execs body env) (TbPost h₀ env.locals (J (i + 1)) own { s with heap := h, toks := tk } Q) E { s with heap := h, toks := tk })
    (done : ∀ m₁ nx h tk, J items.length m₁ nx → Fr h₀ env.locals h m₁ → News h₀ env.locals h nx → Q .next { s with heap := h, toks := tk }) :
    wpAny (model prog w) A (pyIter (.ref ta)) (fun it s₂ => LoopAtV prog w A h₀ env x body Q E it s₂) E s := by
  have hls : s.heap.IsTuple ta items.toArray := ⟨_, (N _ hta).1, rfl, c, rfl⟩
  have hlt : ta < s.heap.objs.size := Heap.lt_size (N _ hta).1
  have hne : ta ≠ s.heap.objs.size := Nat.ne_of_lt hlt
  refine wpAny_pyIter_tuple hls ?_
  have W := Walks.tuple (prog := prog) (w := w) hh s.heap.objs.size ta hne items.toArray
  have hlen : items.toArray.size = items.length := by simp
  rw [hlen] at W
  have N0 : News h₀ env.locals s.heap news := cb_drop N hs
  refine ⟨_, _, _, items.length, _, _, m₀, news, J, rfl, W, ?_, ?_, ?_, ⟨⟨_, Heap.get?_push_size _ rfl, rfl, rfl⟩, hls.at fun o e => Heap.get?_push_of_some _ e⟩, F.push _, (fun p hp => ⟨Heap.get?_push_of_some _ (N0 p hp).1, (N0 p hp).2⟩), hj, ?_, ?_⟩
  · intro hm
    rcases List.mem_cons.mp hm with e | hm
    · exact absurd F.ns.lt (e ▸ Nat.lt_irrefl _)
    · exact (N _ hta).2.1 (List.mem_singleton.mp hm).symm
  · intro b hb
    rw [List.mem_singleton.mp hb]
    exact next_is_new F
  · intro p hp hI
    exact absurd (Heap.lt_size (N0 p hp).1) ((List.mem_singleton.mp hI) ▸ Nat.lt_irrefl _)
  · rintro i v m₁ news₁ s₁ own ⟨hh', tk', rfl⟩ hin hP hJ hoff' hown hget hmem hst F₁ N₁
    obtain ⟨⟨oi, hoi, _⟩, _⟩ := hst
    have hI : (s.heap.objs.size, oi) ∈ own := hmem _ (.head _) (next_is_new F) oi hoi
    have hsep : TbOff [(s.heap.objs.size, oi)] news₁ := by
      intro p hp q hq e
      rw [List.mem_singleton.mp hp] at e
      exact hoff' q hq (List.mem_singleton.mpr e.symm)
    have N₂ : News h₀ env.locals hh' (news₁ ++ [(s.heap.objs.size, oi)]) := fun p hp => N₁ p ((List.mem_append.mp hp).elim (fun h => List.mem_append.mpr (.inr h)) fun h => List.mem_append.mpr (.inl (by rw [List.mem_singleton.mp h]; exact hI)))
    have hT0 : hh'.get? ta = some (tupO items c) := (N₂ _ (List.mem_append_left _ (hkeep _ _ _ hJ))).1
    refine wpAny_mono (turn i v m₁ news₁ hh' tk' _ (by simpa using hP) hsep hJ F₁ N₂) (fun f s₂ p => ?_) fun _ _ e => e
    have fin : TbEnd h₀ env.locals (J (i + 1)) [(s.heap.objs.size, oi)] { s with heap := hh', toks := tk' } s₂ → LoopStepU h₀ env.locals [s.heap.objs.size] own (J (i + 1)) { s with heap := hh', toks := tk' } .next s₂ := by
      rintro ⟨h', tk, m', news', nx, e, F', N', hn, ho, ha, hm⟩
      refine ⟨rfl, h', tk, m', nx, e, F', fun p hp => ?_, fun p hp hq => ha _ (.head _) p hp (List.mem_singleton.mp hq).symm, hm⟩
      rcases List.mem_append.mp hp with hp | hp
      · have hg := hget p hp
        rcases List.mem_cons.mp (hown p hp) with h1 | h1
        · have : p = (s.heap.objs.size, oi) := by
            rw [h1, hoi] at hg
            exact Prod.ext h1 (Option.some.inj hg).symm
          rw [this]
          exact N' _ (ho _ (.head _))
        · have h2 := List.mem_singleton.mp h1
          have : p = (ta, tupO items c) := by
            rw [h2, hT0] at hg
            exact Prod.ext h2 (Option.some.inj hg).symm
          rw [this]
          exact N' _ (hn _ (hkeep _ _ _ hm))
      · exact N' p (hn p hp)
    cases f with
    | ret v => exact .ret p
    | brk => exact .brk p
    | next => exact .next (fin p)
    | cont => exact .cont (fin p)
  · rintro h' tk m' news' F' N' _ hJ
    exact done m' news' h' tk hJ F' N'
theorem iter_names {ta : Addr} {items : List Value} {c : Nat} {ns : List Str} {m₀ : Str → Option Value} {b bd tx an fu fn pre inf pos op opd : Addr} {t1 t2 t3 t4 v1 v2 v3 v4 : Tok} {oTx oAn oFu oFn oPre oInf : Obj} {xs : List Str} {rest0 news0 : List (Addr × Obj)} (K : Nat → Nat) (hI : StrsAre items ns)
    (hh : A.handled = none) (F : Fr h₀ env.locals s.heap m₀) (N : News h₀ env.locals s.heap news0) (hta : (ta, tupO items c) ∈ rest0) (hs : ∀ p ∈ (tx, oTx) :: (an, oAn) :: (fu, oFu) :: (fn, oFn) :: (pre, oPre) :: (inf, oInf) :: rest0, p ∈ news0)
    (R : BookR w rest0 b bd tx an fu fn t1 t2 t3 t4) (hop : (op, instObj 287 opd) ∈ rest0) (hopd : (opd, opD w v1 v2 v3 v4 b pre inf pos) ∈ rest0) (o5 : ∀ p ∈ rest0, p.1 ≠ pre) (o6 : ∀ p ∈ rest0, p.1 ≠ inf)
    (S : BookS prog w rest0 oTx oAn oFu oFn xs FK (93 + K 0)) (hx : FA <+: xs) (O : OpS prog w xs oPre oInf (K 0)) (hK : ∀ i, i < items.length → K i ≤ 90000)
    (turn : ∀ rest2, (∀ p ∈ rest0, p ∈ rest2) → (∀ p ∈ rest2, p ∈ rest0) → (∀ p ∈ rest2, p.1 ≠ tx) → (∀ p ∈ rest2, p.1 ≠ an) → (∀ p ∈ rest2, p.1 ≠ fu) → (∀ p ∈ rest2, p.1 ≠ fn) → (∀ p ∈ rest2, p.1 ≠ pre) → (∀ p ∈ rest2, p.1 ≠ inf) → BookR w rest2 b bd tx an fu fn t1 t2 t3 t4 → (b, instObj 122 bd) ∈ rest2 → (bd, bookD w t1 t2 t3 t4 tx an fu fn) ∈ rest2 → (op, instObj 287 opd) ∈ rest2 → (opd, opD w v1 v2 v3 v4 b pre inf pos) ∈ rest2 → ∀ i x1 z1 oTx oAn oPre oInf xs tl own h tk, ns[i]? = some x1 → K i ≤ 90000 → (∀ p ∈ tl, p.1 ≠ tx) → (∀ p ∈ tl, p.1 ≠ an) → (∀ p ∈ tl, p.1 ≠ fu) → (∀ p ∈ tl, p.1 ≠ fn) → (∀ p ∈ tl, p.1 ≠ pre) → (∀ p ∈ tl, p.1 ≠ inf) → (∀ p ∈ own, p.1 ≠ tx) → (∀ p ∈ own, p.1 ≠ an) → (∀ p ∈ own, p.1 ≠ fu) → (∀ p ∈ own, p.1 ≠ fn) → (∀ p ∈ own, p.1 ≠ pre) → (∀ p ∈ own, p.1 ≠ inf) → TbOff own ((tx, oTx) :: (an, oAn) :: (fu, oFu) :: (fn, oFn) :: (pre, oPre) :: (inf, oInf) :: (rest2 ++ tl)) → Above ((tx, oTx) :: (an, oAn) :: (fu, oFu) :: (fn, oFn) :: (pre, oPre) :: (inf, oInf) :: rest2) tl → BookS prog w rest2 oTx oAn oFu oFn xs FK (93 + K i) → FA <+: xs → OpS prog w xs oPre oInf (K i) →
      Fr h₀ env.locals h (fun y => if y = x then some (.str x1 z1) else m₀ y) → News h₀ env.locals h ((tx, oTx) :: (an, oAn) :: (fu, oFu) :: (fn, oFn) :: (pre, oPre) :: (inf, oInf) :: (rest2 ++ (tl ++ own))) →
      wpAny (model prog w) A (execs body env) (TbPost h₀ env.locals (OpJ prog w [x] m₀ rest2 tx an fu fn pre inf oFu oFn K (i + 1)) own { s with heap := h, toks := tk } Q) E { s with heap := h, toks := tk })
    (done : ∀ rest2, (∀ p ∈ rest0, p ∈ rest2) → (∀ p ∈ rest2, p ∈ rest0) → (∀ p ∈ rest2, p.1 ≠ tx) → (∀ p ∈ rest2, p.1 ≠ an) → (∀ p ∈ rest2, p.1 ≠ fu) → (∀ p ∈ rest2, p.1 ≠ fn) → (∀ p ∈ rest2, p.1 ≠ pre) → (∀ p ∈ rest2, p.1 ≠ inf) → BookR w rest2 b bd tx an fu fn t1 t2 t3 t4 → (b, instObj 122 bd) ∈ rest2 → (bd, bookD w t1 t2 t3 t4 tx an fu fn) ∈ rest2 → (op, instObj 287 opd) ∈ rest2 → (opd, opD w v1 v2 v3 v4 b pre inf pos) ∈ rest2 → ∀ (u : Str → Option Value) oTx oAn oPre oInf xs tl h tk, (∀ p ∈ tl, p.1 ≠ tx) → (∀ p ∈ tl, p.1 ≠ an) → (∀ p ∈ tl, p.1 ≠ fu) → (∀ p ∈ tl, p.1 ≠ fn) → (∀ p ∈ tl, p.1 ≠ pre) → (∀ p ∈ tl, p.1 ≠ inf) → Above ((tx, oTx) :: (an, oAn) :: (fu, oFu) :: (fn, oFn) :: (pre, oPre) :: (inf, oInf) :: rest2) tl → BookS prog w rest2 oTx oAn oFu oFn xs FK (93 + K items.length) → FA <+: xs → OpS prog w xs oPre oInf (K items.length) → Fr h₀ env.locals h (fun y => if y = x then u y else m₀ y) → News h₀ env.locals h ((tx, oTx) :: (an, oAn) :: (fu, oFu) :: (fn, oFn) :: (pre, oPre) :: (inf, oInf) :: (rest2 ++ tl)) → Q .next { s with heap := h, toks := tk }) :
    wpAny (model prog w) A (pyIter (.ref ta)) (fun it s₂ => LoopAtV prog w A h₀ env x body Q E it s₂) E s := by
  replace turn := turn rest0 (fun _ h => h) (fun _ h => h) R.o1 R.o2 R.o3 R.o4 o5 o6 R R.hb R.hbd hop hopd
  replace done := done rest0 (fun _ h => h) (fun _ h => h) R.o1 R.o2 R.o3 R.o4 o5 o6 R R.hb R.hbd hop hopd
  refine iter_tupKeep (OpJ prog w [x] m₀ rest0 tx an fu fn pre inf oFu oFn K) (news := (tx, oTx) :: (an, oAn) :: (fu, oFu) :: (fn, oFn) :: (pre, oPre) :: (inf, oInf) :: rest0) hh F N (hs _ (.tail _ (.tail _ (.tail _ (.tail _ (.tail _ (.tail _ hta))))))) hs ?_ ⟨oTx, oAn, oPre, oInf, xs, [], by rw [List.append_nil], Above.nil, S, hx, O, fun _ _ => rfl⟩ ?_ ?_
  · rintro i m nx ⟨oTx, oAn, oPre, oInf, xs, tl, rfl, _⟩
    exact .tail _ (.tail _ (.tail _ (.tail _ (.tail _ (.tail _ (List.mem_append_left _ hta))))))
  · rintro i v m₁ nx h tk own hv hsep ⟨oTx, oAn, oPre, oInf, xs, tl, rfl, hA, S', hx', O', hm⟩ F₁ N₁
    obtain ⟨x1, z1, rfl, hn⟩ := strs_get hI hv
    have e : (fun y => if y = x then some (Value.str x1 z1) else m₁ y) = fun y => if y = x then some (Value.str x1 z1) else m₀ y := by
      funext y; by_cases h1 : y = x
      · simp [h1]
      · simp only [if_neg h1]; exact hm y (by simpa using h1)
    rw [e] at F₁
    simp only [List.cons_append, List.append_assoc] at N₁
    exact turn i x1 z1 oTx oAn oPre oInf xs tl own h tk hn (hK i (List.getElem?_eq_some_iff.mp hv).1) (hA.off (by k_mem)) (hA.off (by k_mem)) (hA.off (by k_mem)) (hA.off (by k_mem)) (hA.off (by k_mem)) (hA.off (by k_mem)) (fun p hp => hsep p hp (tx, oTx) (by k_mem)) (fun p hp => hsep p hp (an, oAn) (by k_mem)) (fun p hp => hsep p hp (fu, oFu) (by k_mem)) (fun p hp => hsep p hp (fn, oFn) (by k_mem)) (fun p hp => hsep p hp (pre, oPre) (by k_mem)) (fun p hp => hsep p hp (inf, oInf) (by k_mem)) hsep hA S' hx' O' F₁ N₁
  · rintro m₁ nx h tk ⟨oTx, oAn, oPre, oInf, xs, tl, rfl, hA, S', hx', O', hm⟩ F₁ N₁
    have e : m₁ = fun y => if y = x then m₁ y else m₀ y := by
      funext y; by_cases h1 : y = x
      · simp [h1]
      · simp only [if_neg h1]; exact hm y (by simpa using h1)
    rw [e] at F₁
    exact done m₁ oTx oAn oPre oInf xs tl h tk (hA.off (by k_mem)) (hA.off (by k_mem)) (hA.off (by k_mem)) (hA.off (by k_mem)) (hA.off (by k_mem)) (hA.off (by k_mem)) hA S' hx' O' F₁ N₁
theorem iter_namesP {ta : Addr} {items : List Value} {c : Nat} {ns : List Str} {m₀ : Str → Option Value} {b bd tx an fu fn pre inf pos op opd : Addr} {t1 t2 t3 t4 v1 v2 v3 v4 : Tok} {oTx oAn oFu oFn oPre oInf : Obj} {xs : List Str} {rest tl own : List (Addr × Obj)} {n0 : Nat} (hI : StrsAre items ns)
    (hh : A.handled = none) (F : Fr h₀ env.locals s.heap m₀) (N : News h₀ env.locals s.heap ((tx, oTx) :: (an, oAn) :: (fu, oFu) :: (fn, oFn) :: (pre, oPre) :: (inf, oInf) :: (rest ++ (tl ++ own)))) (hta : (ta, tupO items c) ∈ rest)
    (R : BookR w rest b bd tx an fu fn t1 t2 t3 t4) (hop : (op, instObj 287 opd) ∈ rest) (hopd : (opd, opD w v1 v2 v3 v4 b pre inf pos) ∈ rest) (o5 : ∀ p ∈ rest, p.1 ≠ pre) (o6 : ∀ p ∈ rest, p.1 ≠ inf) (o0tl : ∀ p ∈ tl, p.1 ≠ tx) (o1tl : ∀ p ∈ tl, p.1 ≠ an) (o2tl : ∀ p ∈ tl, p.1 ≠ fu) (o3tl : ∀ p ∈ tl, p.1 ≠ fn) (o4tl : ∀ p ∈ tl, p.1 ≠ pre) (o5tl : ∀ p ∈ tl, p.1 ≠ inf) (o0own : ∀ p ∈ own, p.1 ≠ tx) (o1own : ∀ p ∈ own, p.1 ≠ an) (o2own : ∀ p ∈ own, p.1 ≠ fu) (o3own : ∀ p ∈ own, p.1 ≠ fn) (o4own : ∀ p ∈ own, p.1 ≠ pre) (o5own : ∀ p ∈ own, p.1 ≠ inf)
    (S : BookS prog w rest oTx oAn oFu oFn xs FK (93 + n0)) (hx : FA <+: xs) (O : OpS prog w xs oPre oInf n0) (hn0 : n0 ≤ 80000) (hlen : items.length ≤ 10)
    (turn : ∀ rest2, (∀ p ∈ (rest ++ (tl ++ own)), p ∈ rest2) → (∀ p ∈ rest2, p ∈ (rest ++ (tl ++ own))) → (∀ p ∈ rest2, p.1 ≠ tx) → (∀ p ∈ rest2, p.1 ≠ an) → (∀ p ∈ rest2, p.1 ≠ fu) → (∀ p ∈ rest2, p.1 ≠ fn) → (∀ p ∈ rest2, p.1 ≠ pre) → (∀ p ∈ rest2, p.1 ≠ inf) → BookR w rest2 b bd tx an fu fn t1 t2 t3 t4 → (b, instObj 122 bd) ∈ rest2 → (bd, bookD w t1 t2 t3 t4 tx an fu fn) ∈ rest2 → (op, instObj 287 opd) ∈ rest2 → (opd, opD w v1 v2 v3 v4 b pre inf pos) ∈ rest2 → ∀ i x1 z1 oTx oAn oPre oInf xs tl' own' h tk, ns[i]? = some x1 → n0 + i ≤ 90000 → (∀ p ∈ tl', p.1 ≠ tx) → (∀ p ∈ tl', p.1 ≠ an) → (∀ p ∈ tl', p.1 ≠ fu) → (∀ p ∈ tl', p.1 ≠ fn) → (∀ p ∈ tl', p.1 ≠ pre) → (∀ p ∈ tl', p.1 ≠ inf) → (∀ p ∈ own', p.1 ≠ tx) → (∀ p ∈ own', p.1 ≠ an) → (∀ p ∈ own', p.1 ≠ fu) → (∀ p ∈ own', p.1 ≠ fn) → (∀ p ∈ own', p.1 ≠ pre) → (∀ p ∈ own', p.1 ≠ inf) → TbOff own' ((tx, oTx) :: (an, oAn) :: (fu, oFu) :: (fn, oFn) :: (pre, oPre) :: (inf, oInf) :: (rest2 ++ tl')) → Above ((tx, oTx) :: (an, oAn) :: (fu, oFu) :: (fn, oFn) :: (pre, oPre) :: (inf, oInf) :: rest2) tl' → BookS prog w rest2 oTx oAn oFu oFn xs FK (93 + (n0 + i)) → FA <+: xs → OpS prog w xs oPre oInf (n0 + i) → ∀ kp ki, oPre.IsDictOf (intKind prog w) kp → kp.length ≤ 100000 → (kp.length ≤ n0 + i ∧ ∀ k ∈ kp.map (·.1), ∃ (i : Nat) (y : Str), k = (i : Int) ∧ xs[i]? = some y ∧ y ∈ OPN) → oInf.IsDictOf (intKind prog w) ki → ki.length ≤ 100000 → ki.length ≤ n0 + i →
      Fr h₀ env.locals h (fun y => if y = x then some (.str x1 z1) else m₀ y) → News h₀ env.locals h ((tx, oTx) :: (an, oAn) :: (fu, oFu) :: (fn, oFn) :: (pre, oPre) :: (inf, oInf) :: (rest2 ++ (tl' ++ own'))) →
      wpAny (model prog w) A (execs body env) (TbPost h₀ env.locals (OpJ prog w [x] m₀ rest2 tx an fu fn pre inf oFu oFn (fun j => n0 + j) (i + 1)) own' { s with heap := h, toks := tk } Q) E { s with heap := h, toks := tk })
    (done : ∀ rest2, (∀ p ∈ (rest ++ (tl ++ own)), p ∈ rest2) → (∀ p ∈ rest2, p ∈ (rest ++ (tl ++ own))) → (∀ p ∈ rest2, p.1 ≠ tx) → (∀ p ∈ rest2, p.1 ≠ an) → (∀ p ∈ rest2, p.1 ≠ fu) → (∀ p ∈ rest2, p.1 ≠ fn) → (∀ p ∈ rest2, p.1 ≠ pre) → (∀ p ∈ rest2, p.1 ≠ inf) → BookR w rest2 b bd tx an fu fn t1 t2 t3 t4 → (b, instObj 122 bd) ∈ rest2 → (bd, bookD w t1 t2 t3 t4 tx an fu fn) ∈ rest2 → (op, instObj 287 opd) ∈ rest2 → (opd, opD w v1 v2 v3 v4 b pre inf pos) ∈ rest2 → ∀ (u : Str → Option Value) oTx oAn oPre oInf xs tl' h tk, (∀ p ∈ tl', p.1 ≠ tx) → (∀ p ∈ tl', p.1 ≠ an) → (∀ p ∈ tl', p.1 ≠ fu) → (∀ p ∈ tl', p.1 ≠ fn) → (∀ p ∈ tl', p.1 ≠ pre) → (∀ p ∈ tl', p.1 ≠ inf) → Above ((tx, oTx) :: (an, oAn) :: (fu, oFu) :: (fn, oFn) :: (pre, oPre) :: (inf, oInf) :: rest2) tl' → BookS prog w rest2 oTx oAn oFu oFn xs FK (93 + (n0 + items.length)) → FA <+: xs → OpS prog w xs oPre oInf (n0 + items.length) → Fr h₀ env.locals h (fun y => if y = x then u y else m₀ y) → News h₀ env.locals h ((tx, oTx) :: (an, oAn) :: (fu, oFu) :: (fn, oFn) :: (pre, oPre) :: (inf, oInf) :: (rest2 ++ tl')) → Q .next { s with heap := h, toks := tk }) :
    wpAny (model prog w) A (pyIter (.ref ta)) (fun it s₂ => LoopAtV prog w A h₀ env x body Q E it s₂) E s := by
  have R' : BookR w (rest ++ (tl ++ own)) b bd tx an fu fn t1 t2 t3 t4 := R.mono (fun _ h => List.mem_append_left _ h) (List.forall_mem_append.mpr ⟨R.o1, List.forall_mem_append.mpr ⟨o0tl, o0own⟩⟩) (List.forall_mem_append.mpr ⟨R.o2, List.forall_mem_append.mpr ⟨o1tl, o1own⟩⟩) (List.forall_mem_append.mpr ⟨R.o3, List.forall_mem_append.mpr ⟨o2tl, o2own⟩⟩) (List.forall_mem_append.mpr ⟨R.o4, List.forall_mem_append.mpr ⟨o3tl, o3own⟩⟩)
  refine iter_names (fun j => n0 + j) hI hh F N (List.mem_append_left _ hta) (fun _ h => h) R' (List.mem_append_left _ hop) (List.mem_append_left _ hopd) (List.forall_mem_append.mpr ⟨o5, List.forall_mem_append.mpr ⟨o4tl, o4own⟩⟩) (List.forall_mem_append.mpr ⟨o6, List.forall_mem_append.mpr ⟨o5tl, o5own⟩⟩) (S.mono fun _ h => List.mem_append_left _ h) hx O (fun i hi => by omega) (fun r2 a1 a2 a3 a4 a5 a6 a7 a8 a9 b1 b2 b3 b4 i x1 z1 oTx oAn oPre oInf xs tl' own' h tk hn hKi q1 q2 q3 q4 q5 q6 q7 q8 q9 q10 q11 q12 hsep hA S' hx' O' F' N' => ?_) done
  obtain ⟨kp, k1, k2, k3⟩ := O'.pre
  obtain ⟨ki, k4, k5⟩ := O'.inf
  exact turn r2 a1 a2 a3 a4 a5 a6 a7 a8 a9 b1 b2 b3 b4 i x1 z1 oTx oAn oPre oInf xs tl' own' h tk hn hKi q1 q2 q3 q4 q5 q6 q7 q8 q9 q10 q11 q12 hsep hA S' hx' O' kp ki k1 (by omega) ⟨k2, k3⟩ k4 (by omega) k5 F' N'
theorem iter_rows {ta : Addr} {items : List Value} {c : Nat} {rs : List (Int × Str × List Str)} {m₀ : Str → Option Value} {b bd tx an fu fn pre inf pos op opd : Addr} {t1 t2 t3 t4 v1 v2 v3 v4 : Tok} {oTx oAn oFu oFn oPre oInf : Obj} {xs : List Str} {led rest0 news0 : List (Addr × Obj)} (vs : List Str) (K : Nat → Nat) (hI : ORows led items rs) (hled : ∀ p ∈ led, p ∈ rest0)
    (hh : A.handled = none) (F : Fr h₀ env.locals s.heap m₀) (N : News h₀ env.locals s.heap news0) (hta : (ta, tupO items c) ∈ news0) (hs : ∀ p ∈ (tx, oTx) :: (an, oAn) :: (fu, oFu) :: (fn, oFn) :: (pre, oPre) :: (inf, oInf) :: rest0, p ∈ news0) (hoff : ∀ p ∈ (tx, oTx) :: (an, oAn) :: (fu, oFu) :: (fn, oFn) :: (pre, oPre) :: (inf, oInf) :: rest0, p.1 ≠ ta)
    (R : BookR w rest0 b bd tx an fu fn t1 t2 t3 t4) (hop : (op, instObj 287 opd) ∈ rest0) (hopd : (opd, opD w v1 v2 v3 v4 b pre inf pos) ∈ rest0) (o5 : ∀ p ∈ rest0, p.1 ≠ pre) (o6 : ∀ p ∈ rest0, p.1 ≠ inf)
    (S : BookS prog w rest0 oTx oAn oFu oFn xs FK (93 + K 0)) (hx : FA <+: xs) (O : OpS prog w xs oPre oInf (K 0)) (hK : ∀ i, i < items.length → K i ≤ 80000)
    (turn : ∀ rest2, (∀ p ∈ rest0, p ∈ rest2) → (∀ p ∈ rest2, p ∈ rest0) → (∀ p ∈ rest2, p.1 ≠ tx) → (∀ p ∈ rest2, p.1 ≠ an) → (∀ p ∈ rest2, p.1 ≠ fu) → (∀ p ∈ rest2, p.1 ≠ fn) → (∀ p ∈ rest2, p.1 ≠ pre) → (∀ p ∈ rest2, p.1 ≠ inf) → BookR w rest2 b bd tx an fu fn t1 t2 t3 t4 → (b, instObj 122 bd) ∈ rest2 → (bd, bookD w t1 t2 t3 t4 tx an fu fn) ∈ rest2 → (op, instObj 287 opd) ∈ rest2 → (opd, opD w v1 v2 v3 v4 b pre inf pos) ∈ rest2 → ∀ i ra na u1 u2 c1 c2 pr y its ns (u : Str → Option Value) oTx oAn oPre oInf xs tl own h tk, rs[i]? = some (pr, y, ns) → (ra, tupO [.int pr u1, .str y u2, .ref na] c1) ∈ rest2 → (na, tupO its c2) ∈ rest2 → StrsAre its ns → K i ≤ 80000 → (∀ p ∈ tl, p.1 ≠ tx) → (∀ p ∈ tl, p.1 ≠ an) → (∀ p ∈ tl, p.1 ≠ fu) → (∀ p ∈ tl, p.1 ≠ fn) → (∀ p ∈ tl, p.1 ≠ pre) → (∀ p ∈ tl, p.1 ≠ inf) → (∀ p ∈ own, p.1 ≠ tx) → (∀ p ∈ own, p.1 ≠ an) → (∀ p ∈ own, p.1 ≠ fu) → (∀ p ∈ own, p.1 ≠ fn) → (∀ p ∈ own, p.1 ≠ pre) → (∀ p ∈ own, p.1 ≠ inf) → TbOff own ((tx, oTx) :: (an, oAn) :: (fu, oFu) :: (fn, oFn) :: (pre, oPre) :: (inf, oInf) :: (rest2 ++ tl)) → Above ((tx, oTx) :: (an, oAn) :: (fu, oFu) :: (fn, oFn) :: (pre, oPre) :: (inf, oInf) :: rest2) tl → BookS prog w rest2 oTx oAn oFu oFn xs FK (93 + K i) → FA <+: xs → OpS prog w xs oPre oInf (K i) →
      Fr h₀ env.locals h (fun y => if vs.contains y then u y else m₀ y) → News h₀ env.locals h ((tx, oTx) :: (an, oAn) :: (fu, oFu) :: (fn, oFn) :: (pre, oPre) :: (inf, oInf) :: (rest2 ++ (tl ++ own))) →
      wpAny (model prog w) A (assign target env (.ref ra)) (fun _ s₃ => wpAny (model prog w) A (execs body env) (TbPost h₀ env.locals (OpJ prog w vs m₀ rest2 tx an fu fn pre inf oFu oFn K (i + 1)) own { s with heap := h, toks := tk } Q) E s₃) E { s with heap := h, toks := tk })
    (done : ∀ rest2, (∀ p ∈ rest0, p ∈ rest2) → (∀ p ∈ rest2, p ∈ rest0) → (∀ p ∈ rest2, p.1 ≠ tx) → (∀ p ∈ rest2, p.1 ≠ an) → (∀ p ∈ rest2, p.1 ≠ fu) → (∀ p ∈ rest2, p.1 ≠ fn) → (∀ p ∈ rest2, p.1 ≠ pre) → (∀ p ∈ rest2, p.1 ≠ inf) → BookR w rest2 b bd tx an fu fn t1 t2 t3 t4 → (b, instObj 122 bd) ∈ rest2 → (bd, bookD w t1 t2 t3 t4 tx an fu fn) ∈ rest2 → (op, instObj 287 opd) ∈ rest2 → (opd, opD w v1 v2 v3 v4 b pre inf pos) ∈ rest2 → ∀ (u : Str → Option Value) oTx oAn oPre oInf xs tl h tk, (∀ p ∈ tl, p.1 ≠ tx) → (∀ p ∈ tl, p.1 ≠ an) → (∀ p ∈ tl, p.1 ≠ fu) → (∀ p ∈ tl, p.1 ≠ fn) → (∀ p ∈ tl, p.1 ≠ pre) → (∀ p ∈ tl, p.1 ≠ inf) → Above ((tx, oTx) :: (an, oAn) :: (fu, oFu) :: (fn, oFn) :: (pre, oPre) :: (inf, oInf) :: rest2) tl → BookS prog w rest2 oTx oAn oFu oFn xs FK (93 + K items.length) → FA <+: xs → OpS prog w xs oPre oInf (K items.length) → Fr h₀ env.locals h (fun y => if vs.contains y then u y else m₀ y) → News h₀ env.locals h ((tx, oTx) :: (an, oAn) :: (fu, oFu) :: (fn, oFn) :: (pre, oPre) :: (inf, oInf) :: (rest2 ++ tl)) → Q .next { s with heap := h, toks := tk }) :
    wpAny (model prog w) A (pyIter (.ref ta)) (fun it s₂ => TurnsAt prog w A h₀ env target body Q E it s₂) E s := by
  replace turn := turn rest0 (fun _ h => h) (fun _ h => h) R.o1 R.o2 R.o3 R.o4 o5 o6 R R.hb R.hbd hop hopd
  replace done := done rest0 (fun _ h => h) (fun _ h => h) R.o1 R.o2 R.o3 R.o4 o5 o6 R R.hb R.hbd hop hopd
  refine iter_tupT (OpJ prog w vs m₀ rest0 tx an fu fn pre inf oFu oFn K) (news := (tx, oTx) :: (an, oAn) :: (fu, oFu) :: (fn, oFn) :: (pre, oPre) :: (inf, oInf) :: rest0) hh F N hta hs hoff ⟨oTx, oAn, oPre, oInf, xs, [], by rw [List.append_nil], Above.nil, S, hx, O, fun _ _ => rfl⟩ ?_ ?_
  · rintro i v m₁ nx h tk own hv hsep ⟨oTx, oAn, oPre, oInf, xs, tl, rfl, hA, S', hx', O', hm⟩ F₁ N₁
    obtain ⟨ra, na, u1, u2, c1, c2, pr, y, its, ns, rfl, hn, hm1, hm2, hst⟩ := hI.get hv
    rw [opj_map hm] at F₁
    simp only [List.cons_append, List.append_assoc] at N₁
    exact turn i ra na u1 u2 c1 c2 pr y its ns m₁ oTx oAn oPre oInf xs tl own h tk hn (hled _ hm1) (hled _ hm2) hst (hK i (List.getElem?_eq_some_iff.mp hv).1) (hA.off (by k_mem)) (hA.off (by k_mem)) (hA.off (by k_mem)) (hA.off (by k_mem)) (hA.off (by k_mem)) (hA.off (by k_mem)) (fun p hp => hsep p hp (tx, oTx) (by k_mem)) (fun p hp => hsep p hp (an, oAn) (by k_mem)) (fun p hp => hsep p hp (fu, oFu) (by k_mem)) (fun p hp => hsep p hp (fn, oFn) (by k_mem)) (fun p hp => hsep p hp (pre, oPre) (by k_mem)) (fun p hp => hsep p hp (inf, oInf) (by k_mem)) hsep hA S' hx' O' F₁ N₁
  · rintro m₁ nx h tk ⟨oTx, oAn, oPre, oInf, xs, tl, rfl, hA, S', hx', O', hm⟩ F₁ N₁
    rw [opj_map hm] at F₁
    exact done m₁ oTx oAn oPre oInf xs tl h tk (hA.off (by k_mem)) (hA.off (by k_mem)) (hA.off (by k_mem)) (hA.off (by k_mem)) (hA.off (by k_mem)) (hA.off (by k_mem)) hA S' hx' O' F₁ N₁
theorem iter_rowsP {ta : Addr} {items : List Value} {c : Nat} {rs : List (Int × Str × List Str)} {m₀ : Str → Option Value} {b bd tx an fu fn pre inf pos op opd : Addr} {t1 t2 t3 t4 v1 v2 v3 v4 : Tok} {oTx oAn oFu oFn oPre oInf : Obj} {xs : List Str} {led rest0 restR rest9 news0 r0 r1 r2 r3 r4 r5 : List (Addr × Obj)} (vs : List Str) (K : Nat → Nat) (hI : ORows led items rs) (hled : ∀ p ∈ led, p ∈ rest0)
    (hh : A.handled = none) (F : Fr h₀ env.locals s.heap m₀) (N : News h₀ env.locals s.heap news0) (_hopd0 : (opd, opD w v1 v2 v3 v4 b pre inf pos) ∈ news0) (R0 : BookR w restR b bd tx an fu fn t1 t2 t3 t4) (P : Pull ta (tupO items c) news0 r0) (P1 : Pull tx oTx r0 r1) (P2 : Pull an oAn r1 r2) (P3 : Pull fu oFu r2 r3) (P4 : Pull fn oFn r3 r4) (P5 : Pull pre oPre r4 r5) (P6 : Pull inf oInf r5 rest0) (hoff : ∀ p ∈ r0, p.1 ≠ ta)
    (hsR : ∀ p ∈ restR, p ∈ rest0) (o1 : ∀ p ∈ rest0, p.1 ≠ tx) (o2 : ∀ p ∈ rest0, p.1 ≠ an) (o3 : ∀ p ∈ rest0, p.1 ≠ fu) (o4 : ∀ p ∈ rest0, p.1 ≠ fn) (hop : (op, instObj 287 opd) ∈ rest0) (hopd : (opd, opD w v1 v2 v3 v4 b pre inf pos) ∈ rest0) (o5 : ∀ p ∈ rest0, p.1 ≠ pre) (o6 : ∀ p ∈ rest0, p.1 ≠ inf)
    (S : BookS prog w rest9 oTx oAn oFu oFn xs FK (93 + K 0)) (hs9 : ∀ p ∈ rest9, p ∈ rest0) (hx : FA <+: xs) (O : OpS prog w xs oPre oInf (K 0)) (hK : ∀ i, i < items.length → K i ≤ 80000)
    (turn : ∀ rest2, (∀ p ∈ rest0, p ∈ rest2) → (∀ p ∈ rest2, p ∈ rest0) → (∀ p ∈ rest2, p.1 ≠ tx) → (∀ p ∈ rest2, p.1 ≠ an) → (∀ p ∈ rest2, p.1 ≠ fu) → (∀ p ∈ rest2, p.1 ≠ fn) → (∀ p ∈ rest2, p.1 ≠ pre) → (∀ p ∈ rest2, p.1 ≠ inf) → BookR w rest2 b bd tx an fu fn t1 t2 t3 t4 → (b, instObj 122 bd) ∈ rest2 → (bd, bookD w t1 t2 t3 t4 tx an fu fn) ∈ rest2 → (op, instObj 287 opd) ∈ rest2 → (opd, opD w v1 v2 v3 v4 b pre inf pos) ∈ rest2 → ∀ i ra na u1 u2 c1 c2 pr y its ns (u : Str → Option Value) oTx oAn oPre oInf xs tl own h tk, rs[i]? = some (pr, y, ns) → (ra, tupO [.int pr u1, .str y u2, .ref na] c1) ∈ rest2 → (na, tupO its c2) ∈ rest2 → StrsAre its ns → K i ≤ 80000 → (∀ p ∈ tl, p.1 ≠ tx) → (∀ p ∈ tl, p.1 ≠ an) → (∀ p ∈ tl, p.1 ≠ fu) → (∀ p ∈ tl, p.1 ≠ fn) → (∀ p ∈ tl, p.1 ≠ pre) → (∀ p ∈ tl, p.1 ≠ inf) → (∀ p ∈ own, p.1 ≠ tx) → (∀ p ∈ own, p.1 ≠ an) → (∀ p ∈ own, p.1 ≠ fu) → (∀ p ∈ own, p.1 ≠ fn) → (∀ p ∈ own, p.1 ≠ pre) → (∀ p ∈ own, p.1 ≠ inf) → TbOff own ((tx, oTx) :: (an, oAn) :: (fu, oFu) :: (fn, oFn) :: (pre, oPre) :: (inf, oInf) :: (rest2 ++ tl)) → Above ((tx, oTx) :: (an, oAn) :: (fu, oFu) :: (fn, oFn) :: (pre, oPre) :: (inf, oInf) :: rest2) tl → BookS prog w rest2 oTx oAn oFu oFn xs FK (93 + K i) → FA <+: xs → OpS prog w xs oPre oInf (K i) →
      Fr h₀ env.locals h (fun y => if vs.contains y then u y else m₀ y) → News h₀ env.locals h ((tx, oTx) :: (an, oAn) :: (fu, oFu) :: (fn, oFn) :: (pre, oPre) :: (inf, oInf) :: (rest2 ++ (tl ++ own))) →
      wpAny (model prog w) A (assign target env (.ref ra)) (fun _ s₃ => wpAny (model prog w) A (execs body env) (TbPost h₀ env.locals (OpJ prog w vs m₀ rest2 tx an fu fn pre inf oFu oFn K (i + 1)) own { s with heap := h, toks := tk } Q) E s₃) E { s with heap := h, toks := tk })
    (done : ∀ rest2, (∀ p ∈ rest0, p ∈ rest2) → (∀ p ∈ rest2, p ∈ rest0) → (∀ p ∈ rest2, p.1 ≠ tx) → (∀ p ∈ rest2, p.1 ≠ an) → (∀ p ∈ rest2, p.1 ≠ fu) → (∀ p ∈ rest2, p.1 ≠ fn) → (∀ p ∈ rest2, p.1 ≠ pre) → (∀ p ∈ rest2, p.1 ≠ inf) → BookR w rest2 b bd tx an fu fn t1 t2 t3 t4 → (b, instObj 122 bd) ∈ rest2 → (bd, bookD w t1 t2 t3 t4 tx an fu fn) ∈ rest2 → (op, instObj 287 opd) ∈ rest2 → (opd, opD w v1 v2 v3 v4 b pre inf pos) ∈ rest2 → ∀ (u : Str → Option Value) oTx oAn oPre oInf xs tl h tk, (∀ p ∈ tl, p.1 ≠ tx) → (∀ p ∈ tl, p.1 ≠ an) → (∀ p ∈ tl, p.1 ≠ fu) → (∀ p ∈ tl, p.1 ≠ fn) → (∀ p ∈ tl, p.1 ≠ pre) → (∀ p ∈ tl, p.1 ≠ inf) → Above ((tx, oTx) :: (an, oAn) :: (fu, oFu) :: (fn, oFn) :: (pre, oPre) :: (inf, oInf) :: rest2) tl → BookS prog w rest2 oTx oAn oFu oFn xs FK (93 + K items.length) → FA <+: xs → OpS prog w xs oPre oInf (K items.length) → Fr h₀ env.locals h (fun y => if vs.contains y then u y else m₀ y) → News h₀ env.locals h ((tx, oTx) :: (an, oAn) :: (fu, oFu) :: (fn, oFn) :: (pre, oPre) :: (inf, oInf) :: (rest2 ++ tl)) → Q .next { s with heap := h, toks := tk }) :
    wpAny (model prog w) A (pyIter (.ref ta)) (fun it s₂ => TurnsAt prog w A h₀ env target body Q E it s₂) E s := by
  have hr : ∀ p ∈ (tx, oTx) :: (an, oAn) :: (fu, oFu) :: (fn, oFn) :: (pre, oPre) :: (inf, oInf) :: rest0, p ∈ r0 := by
    intro p hp
    rcases List.mem_cons.mp hp with h | hp
    · rw [h]; exact P1.sub _ (.head _)
    refine P1.sub _ (.tail _ ?_)
    rcases List.mem_cons.mp hp with h | hp
    · rw [h]; exact P2.sub _ (.head _)
    refine P2.sub _ (.tail _ ?_)
    rcases List.mem_cons.mp hp with h | hp
    · rw [h]; exact P3.sub _ (.head _)
    refine P3.sub _ (.tail _ ?_)
    rcases List.mem_cons.mp hp with h | hp
    · rw [h]; exact P4.sub _ (.head _)
    refine P4.sub _ (.tail _ ?_)
    rcases List.mem_cons.mp hp with h | hp
    · rw [h]; exact P5.sub _ (.head _)
    refine P5.sub _ (.tail _ ?_)
    exact P6.sub _ hp
  exact iter_rows vs K hI hled hh F N (P.sub _ (.head _)) (fun p hp => P.sub p (.tail _ (hr p hp))) (fun p hp => hoff p (hr p hp)) (R0.mono hsR o1 o2 o3 o4) hop hopd o5 o6 (S.mono hs9) hx O hK turn done
end
end
section
theorem opr_fact {i : Nat} {pr : Int} {y : Str} {ns : List Str} (h : OPR[i]? = some (pr, y, ns)) : 0 < pr ∧ ((y = Str.ofString "fx" ∨ y = Str.ofString "fy") ∨ (y = Str.ofString "xfx" ∨ y = Str.ofString "xfy" ∨ y = Str.ofString "yfx")) ∧ ns.length ≤ 10 ∧ ∀ x ∈ ns, x ∈ OPN := by
  have hi : i < 13 := (List.getElem?_eq_some_iff.mp h).1
  have h2 : ∀ i : Fin 13, (match OPR[i.val]? with | none => true | some (pr, y, ns) => decide (0 < pr) && (decide ((y = Str.ofString "fx" ∨ y = Str.ofString "fy") ∨ (y = Str.ofString "xfx" ∨ y = Str.ofString "xfy" ∨ y = Str.ofString "yfx")) && (decide (ns.length ≤ 10) && ns.all fun x => decide (x ∈ OPN)))) = true := by decide +kernel
  have h3 := h2 ⟨i, hi⟩
  simp only [h, Bool.and_eq_true, decide_eq_true_eq, List.all_eq_true] at h3
  exact h3
section
variable {w : World} {p : Program} {loose : List Str} {mean : ExcName → Option Value} {mg mb : Str → Option Value} {dp un : Nat} {gd : Option (List Code)} {cn : Str} {cs : Scope} {a : Addr} {ccd : Value} {cl : List (Str × Addr)} {outer : List Env} {A₀ : Around} {base h₀ : Heap} {L : Addr} {m : Str → Option Value} {s : Shared} {Q E : Value → Shared → Prop} {news rest : List (Addr × Obj)}
variable {r' led : List (Addr × Obj)}
theorem add_pre_use {y : Str} {pr a' : Int} {u1 u2 u3 : Tok} {op opd sy pre inf pos : Addr} {t1 t2 t3 t4 : Tok} {oPre : Obj} {kvs : List (Int × Value)} (hy : y = Str.ofString "fx" ∨ y = Str.ofString "fy") (hp : 0 < pr) (B : Below A₀ base outer h₀) (F : Fr h₀ L s.heap m) (X : (Mine.kk.heap_1 w.params).In h₀) (T : Top p loose mean mg mb h₀) (hk : cs.kind = .function) (hd : dp + 12 < recursionLimit) (hu : un + 150 < cLine) (N : News h₀ L s.heap led) (_hopd0 : (opd, opD w t1 t2 t3 t4 sy pre inf pos) ∈ led) (P : Pull pre oPre led rest) (hop : (op, instObj 287 opd) ∈ rest) (hopd : (opd, opD w t1 t2 t3 t4 sy pre inf pos) ∈ rest) (o1 : ∀ p ∈ rest, p.1 ≠ pre) (hD : oPre.IsDictOf (intKind PG w) kvs) (hsz : kvs.length ≤ 100000)
  (hret : ∀ v h' tk' oPre' tl, Above ((pre, oPre) :: rest) tl → Fr h₀ L h' m → News h₀ L h' ((pre, oPre') :: (rest ++ tl)) → oPre'.IsDictOf (intKind PG w) (stored kvs a' v) → Q .none { s with heap := h', toks := tk' }) :
  wpAny (model PySem.Challenge.rw_ok0024_01.row.prog w) (ktrTop dp un gd cn cs L a ccd cl outer) (call (.ref 277) [.ref op, .int pr u1, .str y u2, .int a' u3]) Q E s := add_pre hy hp B F X T hk hd hu (P.news (pre := []) N) hop hopd o1 hD hsz hret
theorem add_inf_use {y : Str} {pr a' : Int} {u1 u2 u3 : Tok} {op opd sy pre inf pos : Addr} {t1 t2 t3 t4 : Tok} {oInf : Obj} {kvs : List (Int × Value)} (hy : y = Str.ofString "xfx" ∨ y = Str.ofString "xfy" ∨ y = Str.ofString "yfx") (hp : 0 < pr) (B : Below A₀ base outer h₀) (F : Fr h₀ L s.heap m) (X : (Mine.kk.heap_1 w.params).In h₀) (T : Top p loose mean mg mb h₀) (hk : cs.kind = .function) (hd : dp + 12 < recursionLimit) (hu : un + 150 < cLine) (N : News h₀ L s.heap led) (_hopd0 : (opd, opD w t1 t2 t3 t4 sy pre inf pos) ∈ led) (P : Pull inf oInf led rest) (hop : (op, instObj 287 opd) ∈ rest) (hopd : (opd, opD w t1 t2 t3 t4 sy pre inf pos) ∈ rest) (o1 : ∀ p ∈ rest, p.1 ≠ inf) (hD : oInf.IsDictOf (intKind PG w) kvs) (hsz : kvs.length ≤ 100000)
  (hret : ∀ v h' tk' oInf' tl, Above ((inf, oInf) :: rest) tl → Fr h₀ L h' m → News h₀ L h' ((inf, oInf') :: (rest ++ tl)) → oInf'.IsDictOf (intKind PG w) (stored kvs a' v) → Q .none { s with heap := h', toks := tk' }) :
  wpAny (model PySem.Challenge.rw_ok0024_01.row.prog w) (ktrTop dp un gd cn cs L a ccd cl outer) (call (.ref 277) [.ref op, .int pr u1, .str y u2, .int a' u3]) Q E s := add_inf hy hp B F X T hk hd hu (P.news (pre := []) N) hop hopd o1 hD hsz hret
end
theorem allNe7 {d : Addr} {r : List (Addr × Obj)} {a b c e f g i : Prop} (h : a ∧ b ∧ c ∧ e ∧ f ∧ g ∧ i ∧ AllLt d r) : ∀ p ∈ r, p.1 ≠ d := allNe0 h.2.2.2.2.2.2.2
theorem allNe8 {d : Addr} {r : List (Addr × Obj)} {a b c e f g i j : Prop} (h : a ∧ b ∧ c ∧ e ∧ f ∧ g ∧ i ∧ j ∧ AllLt d r) : ∀ p ∈ r, p.1 ≠ d := allNe0 h.2.2.2.2.2.2.2.2
theorem a8_pre {tx an fu fn pre inf : Addr} {o1 o2 o3 o4 o5 o6 : Obj} {l : List (Addr × Obj)} : ∀ q, (q = tx ∨ q = an ∨ q = fu ∨ q = fn ∨ q = pre ∨ q = inf ∨ ∃ o, (q, o) ∈ l) → ∃ o, (q, o) ∈ (pre, o5) :: (tx, o1) :: (an, o2) :: (fu, o3) :: (fn, o4) :: (inf, o6) :: l := by
  rintro q (rfl | rfl | rfl | rfl | rfl | rfl | ⟨o, h⟩)
  · exact ⟨o1, by simp⟩
  · exact ⟨o2, by simp⟩
  · exact ⟨o3, by simp⟩
  · exact ⟨o4, by simp⟩
  · exact ⟨o5, by simp⟩
  · exact ⟨o6, by simp⟩
  · exact ⟨o, by simp [h]⟩
theorem a8_inf {tx an fu fn pre inf : Addr} {o1 o2 o3 o4 o5 o6 : Obj} {l : List (Addr × Obj)} : ∀ q, (q = tx ∨ q = an ∨ q = fu ∨ q = fn ∨ q = pre ∨ q = inf ∨ ∃ o, (q, o) ∈ l) → ∃ o, (q, o) ∈ (inf, o6) :: (tx, o1) :: (an, o2) :: (fu, o3) :: (fn, o4) :: (pre, o5) :: l := by
  rintro q (rfl | rfl | rfl | rfl | rfl | rfl | ⟨o, h⟩)
  · exact ⟨o1, by simp⟩
  · exact ⟨o2, by simp⟩
  · exact ⟨o3, by simp⟩
  · exact ⟨o4, by simp⟩
  · exact ⟨o5, by simp⟩
  · exact ⟨o6, by simp⟩
  · exact ⟨o, by simp [h]⟩
theorem op_fin {w : World} {h₀ h : Heap} {L b bd tx an fu fn pre inf pos x d : Addr} {t1 t2 t3 t4 v1 v2 v3 v4 : Tok} {oTx oAn oFu oFn oTx' oAn' oPre oInf oPos p1 p2 i1 i2 : Obj} {rest tl1 tlR r2 tlB : List (Addr × Obj)}
    (kd : ∀ q ∈ (tx, oTx) :: (an, oAn) :: (fu, oFu) :: (fn, oFn) :: rest, q.1 < d) (kx : @LT.lt Nat _ d x) (kp : ∀ q ∈ (tx, oTx) :: (an, oAn) :: (fu, oFu) :: (fn, oFn) :: rest, q.1 < pre) (ki : ∀ q ∈ (tx, oTx) :: (an, oAn) :: (fu, oFu) :: (fn, oFn) :: rest, q.1 < inf) (kq : ∀ q ∈ (tx, oTx) :: (an, oAn) :: (fu, oFu) :: (fn, oFn) :: rest, q.1 < pos)
    (R : BookR w rest b bd tx an fu fn t1 t2 t3 t4) (A3 : Above ((tx, oTx') :: (an, oAn') :: (fu, oFu) :: (fn, oFn) :: (pre, oPre) :: (inf, oInf) :: r2) tlB) (N : News h₀ L h ((tx, oTx') :: (an, oAn') :: (fu, oFu) :: (fn, oFn) :: (pre, oPre) :: (inf, oInf) :: (r2 ++ tlB)))
    (e1 : ∀ p ∈ tlR ++ ((pos, oPos) :: (x, instObj 287 d) :: (d, opD w v1 v2 v3 v4 b pre inf pos) :: (rest ++ tl1)), p ∈ r2)
    (A1 : Above ((inf, i1) :: (pos, oPos) :: (pre, p1) :: (x, instObj 287 d) :: (d, opD w v1 v2 v3 v4 b pre inf pos) :: (tx, oTx) :: (an, oAn) :: (fu, oFu) :: (fn, oFn) :: rest) tl1)
    (A2 : Above ((inf, i2) :: (pos, oPos) :: (pre, p2) :: (x, instObj 287 d) :: (d, opD w v1 v2 v3 v4 b pre inf pos) :: (tx, oTx) :: (an, oAn) :: (fu, oFu) :: (fn, oFn) :: (rest ++ tl1)) tlR) :
    Above ((tx, oTx) :: (an, oAn) :: (fu, oFu) :: (fn, oFn) :: rest) ((pre, oPre) :: (inf, oInf) :: (tlR ++ ((pos, oPos) :: (x, instObj 287 d) :: (d, opD w v1 v2 v3 v4 b pre inf pos) :: (tl1 ++ tlB)))) ∧ News h₀ L h ((tx, oTx') :: (an, oAn') :: (fu, oFu) :: (fn, oFn) :: (rest ++ (pre, oPre) :: (inf, oInf) :: (tlR ++ ((pos, oPos) :: (x, instObj 287 d) :: (d, opD w v1 v2 v3 v4 b pre inf pos) :: (tl1 ++ tlB))))) ∧ BookR w (rest ++ (pre, oPre) :: (inf, oInf) :: (tlR ++ ((pos, oPos) :: (x, instObj 287 d) :: (d, opD w v1 v2 v3 v4 b pre inf pos) :: (tl1 ++ tlB)))) b bd tx an fu fn t1 t2 t3 t4 := by
  have hr : ∀ p ∈ rest, p ∈ r2 := fun p hp => e1 p (by simp [hp])
  have hA : Above ((tx, oTx) :: (an, oAn) :: (fu, oFu) :: (fn, oFn) :: rest) ((pre, oPre) :: (inf, oInf) :: (tlR ++ ((pos, oPos) :: (x, instObj 287 d) :: (d, opD w v1 v2 v3 v4 b pre inf pos) :: (tl1 ++ tlB)))) := by
    refine Above.cons kp (Above.cons ki (Above.append ?_ (Above.cons kq (Above.cons (fun q hq => Nat.lt_trans (kd q hq) kx) (Above.cons kd (Above.append ?_ ?_))))))
    · refine fun q hq p hp => A2 q ?_ p hp
      rcases List.mem_cons.mp hq with h | hq
      · simp [h]
      rcases List.mem_cons.mp hq with h | hq
      · simp [h]
      rcases List.mem_cons.mp hq with h | hq
      · simp [h]
      rcases List.mem_cons.mp hq with h | hq
      · simp [h]
      · simp [hq]
    · exact fun q hq p hp => A1 q (.tail _ (.tail _ (.tail _ (.tail _ (.tail _ hq))))) p hp
    · intro q hq p hp
      rcases List.mem_cons.mp hq with h | hq
      · rw [h]; exact A3 (tx, oTx') (.head _) p hp
      rcases List.mem_cons.mp hq with h | hq
      · rw [h]; exact A3 (an, oAn') (.tail _ (.head _)) p hp
      rcases List.mem_cons.mp hq with h | hq
      · rw [h]; exact A3 (fu, oFu) (.tail _ (.tail _ (.head _))) p hp
      rcases List.mem_cons.mp hq with h | hq
      · rw [h]; exact A3 (fn, oFn) (.tail _ (.tail _ (.tail _ (.head _)))) p hp
      · exact A3 q (.tail _ (.tail _ (.tail _ (.tail _ (.tail _ (.tail _ (hr q hq))))))) p hp
  refine ⟨hA, cb_drop N ?_, R.mono (fun _ h => List.mem_append_left _ h) (List.forall_mem_append.mpr ⟨R.o1, hA.off (o := oTx) (by simp)⟩) (List.forall_mem_append.mpr ⟨R.o2, hA.off (o := oAn) (by simp)⟩) (List.forall_mem_append.mpr ⟨R.o3, hA.off (o := oFu) (by simp)⟩) (List.forall_mem_append.mpr ⟨R.o4, hA.off (o := oFn) (by simp)⟩)⟩
  intro p hp
  simp only [List.mem_cons, List.mem_append] at hp ⊢
  have hR : p ∈ tlR → p ∈ r2 := fun h => e1 p (by simp [h])
  have h1 : p ∈ tl1 → p ∈ r2 := fun h => e1 p (by simp [h])
  have h2 : p = (pos, oPos) → p ∈ r2 := fun h => e1 p (by simp [h])
  have h3 : p = (x, instObj 287 d) → p ∈ r2 := fun h => e1 p (by simp [h])
  have h4 : p = (d, opD w v1 v2 v3 v4 b pre inf pos) → p ∈ r2 := fun h => e1 p (by simp [h])
  rcases hp with h | h | h | h | h | h | h | h | h | h | h | h | h
  · simp [h]
  · simp [h]
  · simp [h]
  · simp [h]
  · simp [hr p h]
  · simp [h]
  · simp [h]
  · simp [hR h]
  · simp only [h2 h, true_or, or_true]
  · simp only [h3 h, true_or, or_true]
  · simp only [h4 h, true_or, or_true]
  · simp [h1 h]
  · simp [h]
theorem op_start {prog : Program} {w : World} {oPre oInf : Obj} {v : Value} (h1 : oInf.IsDictOf (intKind prog w) (stored [] 7 v)) (h2 : oPre.IsDictOf (intKind prog w) []) : OpS prog w FA oPre oInf ((fun i => 1 + 10 * i) 0) :=
  ⟨⟨[], h2, Nat.zero_le _, fun k hk => by simp at hk⟩, ⟨_, h1, stored_len⟩⟩
section
local macro_rules | `(tactic| k_all) => `(tactic| k_extra "x_k_all")
example : True := by (k_with "x_k_all" => first | exact allNe7 (by assumption) | exact allNe8 (by assumption)); exact trivial
example : True := by (k_with "call ref" => (k_here; k_dflt (refine' atom_use ?B_q68 ?F_q68 ?X_q68 ?T_q68 ?K_q68 ?d_q68 ?u_q68 ?R_q68 ?S_q68 ?N_q68 ?P1_q68 ?P2_q68 ?P3_q68 ?P4_q68 ?s_q68 ?s0_q68 ?o1_q68 ?o2_q68 ?o3_q68 ?o4_q68 ?z_q68 ?_; (case F_q68 => k_asm); (case B_q68 => k_asm); (case X_q68 => k_asm); (case T_q68 => k_asm); (case K_q68 => first | exact rfl | assumption); (case d_q68 => k_room); (case u_q68 => ktr_units); (case R_q68 => assumption); (case S_q68 => assumption); (case N_q68 => k_asm); (case P1_q68 => k_upd); (case P2_q68 => k_upd); (case P3_q68 => k_upd); (case P4_q68 => k_upd); (case s_q68 => k_allIn); (case s0_q68 => k_allIn); (case o1_q68 => k_all); (case o2_q68 => k_all); (case o3_q68 => k_all); (case o4_q68 => k_all); (case z_q68 => omega)); intro i' t' h' tk' oTx' oAn' F' N' R' S' hi'; (try simp only [List.cons_append, List.nil_append, List.append_assoc] at N' R' S'); (try k_sweep); walk_say "atom_use")); exact trivial
example : True := by (k_with "call ref" => (k_here; k_dflt (refine' standard_rows_spec ?B_q69 ?F_q69 ?X_q69 ?T_q69 ?K_q69 ?d_q69 ?u_q69 ?N_q69 ?_; (case F_q69 => k_asm); (case B_q69 => k_asm); (case X_q69 => k_asm); (case T_q69 => k_asm); (case K_q69 => first | exact rfl | assumption); (case d_q69 => k_room); (case u_q69 => ktr_units); (case N_q69 => k_asm)); intro D' its' c' l' tl' h' tk' hS' hD' hT' hI' F' N'; (try dsimp only at N'); (try k_sweep); walk_say "standard_rows_spec")); exact trivial
example : True := by (k_with "call ref" => (k_here; k_dflt (refine' add_inf_use ?y_q70 ?p_q70 ?B_q70 ?F_q70 ?X_q70 ?T_q70 ?K_q70 ?d_q70 ?u_q70 ?N_q70 ?o0_q70 ?P_q70 ?o_q70 ?oo_q70 ?o1_q70 ?D_q70 ?z_q70 ?_; (case y_q70 => first | assumption | exact Or.inr (Or.inl rfl)); (case p_q70 => first | assumption | decide); (case B_q70 => k_asm); (case F_q70 => k_asm); (case X_q70 => k_asm); (case T_q70 => k_asm); (case K_q70 => first | exact rfl | assumption); (case d_q70 => k_room); (case u_q70 => ktr_units); (case N_q70 => k_asm); (case o0_q70 => k_mem); (case P_q70 => k_upd); (case oo_q70 => k_mem); (case o_q70 => k_mem); (case o1_q70 => k_all); (case D_q70 => assumption); (case z_q70 => first | omega | decide)); intro v' h' tk' o' tl' hA' F' N' hD'; (try simp only [List.cons_append, List.nil_append, List.append_assoc] at N'); (try k_sweep); walk_say "add inf")); exact trivial
example : True := by (k_with "exec For" => (k_here; (with_reducible show wpAny _ _ (exec (Stmt.For (Expr.Tuple _ _ _) _ _ _ _) _) _ _ _); (rename Fr _ _ _ _ => lF'); (with_unfolding_all refine' For_turns lF' ?_; k_whole))); exact trivial
example : True := by (k_with "exec For Name Name cons nil" => (k_here; (rename Fr _ _ _ _ => lF'); (with_unfolding_all refine' For_invVF lF' ?k1_q72 ?k2_q72 ?_; (case k1_q72 => exact rfl); (case k2_q72 => exact rfl); k_whole))); exact trivial
example : True := by (k_with "pyIter ref" => (k_here; (with_reducible show wpAny _ _ (pyIter (Value.ref _)) (fun it s₂ => TurnsAt _ _ _ _ _ _ _ _ _ it s₂) _ _); (rename Fr _ _ _ _ => lF'); (rename News _ _ _ _ => lN'); (rename ORows _ _ OPR => lS'); (have hll := lS'.length); (rename Split _ _ _ => lP'); (have lAb' := lP'.above); (have lP'' := lP'.eq); (subst lP''); (rename BookS _ _ _ _ _ _ _ _ _ _ => lB'); (rename BookR _ _ _ _ _ _ _ _ _ _ _ _ => lR'); (rename (∀ p ∈ _, p ∈ _) => lH9'); (with_unfolding_all refine' iter_rowsP [Str.ofString "priority", Str.ofString "type_text", Str.ofString "names", Str.ofString "name"] (fun i => 1 + 10 * i) lS' ?led_q73 (by rfl) lF' lN' ?D_q73 lR' ?P_q73 ?P1_q73 ?P2_q73 ?P3_q73 ?P4_q73 ?P5_q73 ?P6_q73 ?hoff_q73 ?hsR_q73 ?o1_q73 ?o2_q73 ?o3_q73 ?o4_q73 ?op_q73 ?opd_q73 ?o5_q73 ?o6_q73 ?S_q73 ?s9_q73 ?hx_q73 ?O_q73 ?K_q73 (fun rest' e1' e2' e3' e4' e5' e6' e7' e8' R' m1' m2' m3' m4' i' ra' na' u1' u2' c1' c2' pr' y' its' ns' u' oTx' oAn' oPre' oInf' xs' tl' own' h' tk' hn' hm1' hm2' hst' hKi' q1' q2' q3' q4' q5' q6' q7' q8' q9' q10' q11' q12' hsep' hA' S' hx' O' F' N' => ?_) (fun rest' e1' e2' e3' e4' e5' e6' e7' e8' R' m1' m2' m3' m4' u' oTx' oAn' oPre' oInf' xs' tl' h' tk' q1' q2' q3' q4' q5' q6' hA' S' hx' O' F' N' => ?_)); (case D_q73 => k_mem); (case P_q73 => exact Pull.head); (case P1_q73 => k_upd); (case P2_q73 => k_upd); (case P3_q73 => k_upd); (case P4_q73 => k_upd); (case P5_q73 => k_upd); (case P6_q73 => k_upd); (case hoff_q73 => exact allNeP (by assumption)); (case led_q73 => (intro p9 h9; k_mem)); (case hsR_q73 => k_allIn); (case o1_q73 => k_all); (case o2_q73 => k_all); (case o3_q73 => k_all); (case o4_q73 => k_all); (case o5_q73 => k_all); (case o6_q73 => k_all); (case op_q73 => k_mem); (case opd_q73 => k_mem); (case S_q73 => exact lB'.le (by decide)); (case s9_q73 => (intro p9 h9; (have h8' := lH9' p9 h9); k_mem)); (case hx_q73 => exact List.prefix_rfl); (case O_q73 => exact op_start (by assumption) (by assumption)); (case K_q73 => (intro i9 h9; (have h8 : OPR.length ≤ 90 := by decide); (try dsimp only); omega)); (all_goals (try clear lF' lN')); (all_goals (try k_fold)))); exact trivial
example : True := by (k_with "pyIter ref" => (k_here; (with_reducible show wpAny _ _ (pyIter (Value.ref _)) (fun it s₂ => LoopAtV _ _ _ _ _ _ _ _ _ it s₂) _ _); (rename Fr _ _ _ _ => lF'); (rename News _ _ _ _ => lN'); (rename StrsAre _ _ => lI'); (rename BookS _ _ _ _ _ _ _ _ _ _ => lB'); (rename BookR _ _ _ _ _ _ _ _ _ _ _ _ => lR'); (rename OpS _ _ _ _ _ _ => lO'); (have lf' := opr_fact (by assumption)); (obtain ⟨f1', f2', f3', f4'⟩ := lf'); (have f5' := lI'.length); (rw [← f5'] at f3'); (rcases f2' with f2' | f2') <;> ((with_unfolding_all refine' iter_namesP lI' (by rfl) lF' lN' ?hta_q74 lR' ?op_q74 ?opd_q74 ?o5_q74 ?o6_q74 ?a0_q74 ?a1_q74 ?a2_q74 ?a3_q74 ?a4_q74 ?a5_q74 ?a6_q74 ?a7_q74 ?a8_q74 ?a9_q74 ?a10_q74 ?a11_q74 lB' ?hx_q74 lO' ?n0_q74 f3' (fun rest' e1' e2' e3' e4' e5' e6' e7' e8' R' m1' m2' m3' m4' i' x1' z1' oTx' oAn' oPre' oInf' xs' tl' own' h' tk' hn' hKi' q1' q2' q3' q4' q5' q6' q7' q8' q9' q10' q11' q12' hsep' hA' S' hx' O' kp' ki' k1' k2' k3' k4' k5' k6' F' N' => ?_) (fun rest' e1' e2' e3' e4' e5' e6' e7' e8' R' m1' m2' m3' m4' u' oTx' oAn' oPre' oInf' xs' tl' h' tk' q1' q2' q3' q4' q5' q6' hA' S' hx' O' F' N' => ?_)); (case hta_q74 => assumption); (case op_q74 => assumption); (case opd_q74 => assumption); (case o5_q74 => assumption); (case o6_q74 => assumption); (case a0_q74 => assumption); (case a1_q74 => assumption); (case a2_q74 => assumption); (case a3_q74 => assumption); (case a4_q74 => assumption); (case a5_q74 => assumption); (case a6_q74 => assumption); (case a7_q74 => assumption); (case a8_q74 => assumption); (case a9_q74 => assumption); (case a10_q74 => assumption); (case a11_q74 => assumption); (case hx_q74 => assumption); (case n0_q74 => assumption); (all_goals (try clear lF' lN')); (all_goals (try k_fold))))); exact trivial
example : True := by (k_with "call ref" => (k_here; k_dflt (refine' add_pre_use ?y_q75 ?p_q75 ?B_q75 ?F_q75 ?X_q75 ?T_q75 ?K_q75 ?d_q75 ?u_q75 ?N_q75 ?o0_q75 ?P_q75 ?o_q75 ?oo_q75 ?o1_q75 ?D_q75 ?z_q75 ?_; (case y_q75 => assumption); (case p_q75 => assumption); (case B_q75 => k_asm); (case F_q75 => k_asm); (case X_q75 => k_asm); (case T_q75 => k_asm); (case K_q75 => first | exact rfl | assumption); (case d_q75 => k_room); (case u_q75 => ktr_units); (case N_q75 => k_asm); (case o0_q75 => k_mem); (case P_q75 => k_upd); (case oo_q75 => k_mem); (case o_q75 => k_mem); (case o1_q75 => k_all); (case D_q75 => assumption); (case z_q75 => assumption)); intro v' h' tk' o' tl' hA' F' N' hD'; (try simp only [List.cons_append, List.nil_append, List.append_assoc] at N'); (try k_sweep); walk_say "add pre")); exact trivial
example : True := by (k_with "TbPost" => (dsimp only [TbPost])); exact trivial
example : True := by (k_with "TbEnd" => (refine' op_end ?A9_q77 ?F_q77 ?N_q77 ?hN_q77 ?hsep_q77 ?hA0_q77 ?A8_q77 ?S_q77 ?k_q77 ?x_q77 ?O_q77 ?m_q77; (case A9_q77 => assumption); (case F_q77 => assumption); (case N_q77 => assumption); (case hsep_q77 => assumption); (case hA0_q77 => assumption); (case S_q77 => assumption); (case O_q77 => first | exact OpS.addPre (by assumption) (by assumption) ((by assumption : ∀ x ∈ _, x ∈ OPN) _ (List.mem_of_getElem? (by assumption))) (by assumption) (by assumption) | exact OpS.addInf (by assumption) (by assumption) (by assumption)); (case hN_q77 => (intro p9 h9; simp only [List.mem_cons, List.mem_append] at h9 ⊢; (rcases h9 with h9 | h9 | h9 | h9 | h9 | h9 | h9 | h9 | h9 | h9) <;> simp [h9])); (case A8_q77 => (first | exact a8_pre | exact a8_inf)); (case k_q77 => omega); (case x_q77 => exact addA_pre (by assumption)); (case m_q77 => (intro z9 h9; exact if_neg (by simpa using h9))))); exact trivial
example : True := by (k_with "TbEnd" => (refine' op_endO ?e1_q78 ?A9_q78 ?F_q78 ?N_q78 ?hsep_q78 ?hA0_q78 ?S1_q78 ?S2_q78 ?k_q78 ?x_q78 ?O_q78 ?k8_q78 ?m_q78; (case e1_q78 => assumption); (case A9_q78 => assumption); (case F_q78 => assumption); (case N_q78 => assumption); (case hsep_q78 => assumption); (case hA0_q78 => assumption); (case S1_q78 => assumption); (case S2_q78 => assumption); (case k_q78 => omega); (case x_q78 => assumption); (case O_q78 => assumption); (case k8_q78 => omega); (case m_q78 => (intro z9 h9; simp only [List.mem_cons, not_or, List.not_mem_nil, or_false, not_false_eq_true, and_true] at h9; (obtain ⟨h91, h92, h93, h94⟩ := h9); simp [h91, h92, h93, h94])))); exact trivial
variable {w : World} {p : Program} {loose : List Str} {mean : ExcName → Option Value} {mg mb : Str → Option Value} {dp un : Nat} {gd : Option (List Code)} {cn : Str} {cs : Scope} {a : Addr} {ccd : Value} {cl : List (Str × Addr)} {outer : List Env} {A₀ : Around} {base h₀ : Heap} {L : Addr} {m : Str → Option Value} {s : Shared} {Q E : Value → Shared → Prop} {news rest : List (Addr × Obj)}
theorem optab_spec {b bd tx an fu fn : Addr} {t1 t2 t3 t4 : Tok} {oTx oAn oFu oFn : Obj} {rest0 : List (Addr × Obj)} (B : Below A₀ base outer h₀) (F : Fr h₀ L s.heap m) (X : (Mine.kk.heap_1 w.params).In h₀) (T : Top p loose mean mg mb h₀) (hk : cs.kind = .function) (hd : dp + 16 < recursionLimit) (hu : un + 200 < cLine) (N : News h₀ L s.heap ((tx, oTx) :: (an, oAn) :: (fu, oFu) :: (fn, oFn) :: rest)) (R : BookR w rest b bd tx an fu fn t1 t2 t3 t4) (S : BookS PG w rest0 oTx oAn oFu oFn FA FK 93) (hs0 : ∀ p ∈ rest0, p ∈ rest)
  (hret : ∀ op opd pre inf pos v1 v2 v3 v4 oTx' oAn' oPre oInf oPos xs tl h' tk', Above ((tx, oTx) :: (an, oAn) :: (fu, oFu) :: (fn, oFn) :: rest) tl → Fr h₀ L h' m → News h₀ L h' ((tx, oTx') :: (an, oAn') :: (fu, oFu) :: (fn, oFn) :: (rest ++ tl)) → BookR w (rest ++ tl) b bd tx an fu fn t1 t2 t3 t4 → (op, instObj 287 opd) ∈ tl → (opd, opD w v1 v2 v3 v4 b pre inf pos) ∈ tl → (pre, oPre) ∈ tl → (pos, oPos) ∈ tl → oPos.IsDictOf (intKind PG w) [] → (pre == sysModules) = false → (pos == sysModules) = false → BookS PG w rest0 oTx' oAn' oFu oFn xs FK 300 → FA <+: xs → OpS PG w xs oPre oInf 131 → Q (.ref op) { s with heap := h', toks := tk' }) :
  wpAny (model PySem.Challenge.rw_ok0024_01.row.prog w) (ktrTop dp un gd cn cs L a ccd cl outer) (call (.ref 287) [.ref b]) Q E s := by
  have R2 := R
  obtain ⟨hb, hbd, lo1, lo2, n1, n2, n3, n4, n5, n6, o1, o2, o3, o4⟩ := R2
  revert X; k_fill; intro X
  k_steps
  all_goals (rename ORows _ _ OPR => hR9)
  all_goals (rename OpS _ _ _ _ _ _ => hO9)
  all_goals (rename BookS _ _ _ _ _ _ _ _ _ _ => hS9)
  all_goals (have hl9 := hR9.length)
  all_goals (refine' (fun H => hret _ _ _ _ _ _ _ _ _ _ _ _ _ _ _ _ _ _ H.1 ?F H.2.1 H.2.2 ?m1 ?m2 ?m3 ?m4 ?dp ?l1 ?l2 ?S ?x ?O) (op_fin ?kd ?kx ?kp ?ki ?kq ?R ?A3 ?N ?e1 ?A1 ?A2); (case F => k_asm); (case A3 => assumption); (case N => k_asm); (case e1 => assumption); (case A1 => assumption); (case A2 => assumption); (case R => assumption); (case kd => (refine' alt_lt_all ?lh ?ls; (case lh => assumption); (case ls => k_allIn))); (case kx => assumption); (case kp => (refine' alt_lt_all ?lh ?ls; (case lh => assumption); (case ls => k_allIn))); (case ki => (refine' alt_lt_all ?lh ?ls; (case lh => assumption); (case ls => k_allIn))); (case kq => (refine' alt_lt_all ?lh ?ls; (case lh => assumption); (case ls => k_allIn))); (case m1 => k_mem); (case m2 => k_mem); (case m3 => k_mem); (case m4 => k_mem); (case dp => assumption); (case l1 => assumption); (case l2 => assumption); (case S => (refine' BookS.le (BookS.swap hS9 (show BookS _ _ rest0 _ _ _ _ _ _ 93 from by assumption)) ?z; (case z => (rw [hl9]; decide)))); (case x => assumption); (case O => (refine' OpS.le hO9 ?z; (case z => (rw [hl9]; decide)))))
example : True := by k_with_none; (k_with "x_k_room" => ((try simp (config := {zetaDelta := true}) only [depth_under_make, depth_under_kw, depth_in1, depth_deeper, depth_caller]); (try dsimp only [ktrTop]); (first | (refine' rm0 ?ha_q41; (case ha_q41 => assumption)) | (refine' rm1 ?ha_q41 ?hb_q41; (case ha_q41 => assumption); (case hb_q41 => exact rfl)) | (refine' rm2 ?ha_q41 ?hb_q41; (case ha_q41 => assumption); (case hb_q41 => exact rfl)) | (refine' rm3 ?ha_q41 ?hb_q41; (case ha_q41 => assumption); (case hb_q41 => exact rfl)) | (refine' rm4 ?ha_q41 ?hb_q41; (case ha_q41 => assumption); (case hb_q41 => exact rfl)) | omega))); (k_with "x_ktr_units" => ((try simp (config := {zetaDelta := true}) only [units_under_make, units_in1, units_deeper, Around.mark_units, units_caller]); (try dsimp only [ktrTop]); (first | (refine' rm0 ?ha_q42; (case ha_q42 => assumption)) | (refine' rm1 ?ha_q42 ?hb_q42; (case ha_q42 => assumption); (case hb_q42 => exact rfl)) | (refine' rm2 ?ha_q42 ?hb_q42; (case ha_q42 => assumption); (case hb_q42 => exact rfl)) | (refine' rm3 ?ha_q42 ?hb_q42; (case ha_q42 => assumption); (case hb_q42 => exact rfl)) | (refine' rm4 ?ha_q42 ?hb_q42; (case ha_q42 => assumption); (case hb_q42 => exact rfl)) | omega))); (k_with "execs cons" => (k_here; (with_reducible refine sq_tok ?_); intro tk')); (k_with "subscriptTail Name Constant ref int" => (k_here; (with_reducible show wpAny _ _ (subscriptTail _ _ (Value.ref _) (Value.int _ _)) _ _ _); k_dflt (first | (refine' item_tupleT ?t_q44 ?a_q44 ?b_q44 ?c_q44 ?d_q44 ?_; (case t_q44 => (refine' News.isTup ?t1_q44 ?t2_q44; (case t1_q44 => k_asm); (case t2_q44 => k_mem))); (case a_q44 => decide); (case b_q44 => decide); (case c_q44 => rfl); (case d_q44 => rfl); k_whole) | (refine' c_item_lit ?N_q44 ?m_q44 ?a2_q44 ?b2_q44 ?d2_q44 ?_; (case N_q44 => k_asm); (case m_q44 => k_mem); (case a2_q44 => decide); (case b2_q44 => decide); (case d2_q44 => rfl); k_whole)))); (k_with "eval Call Name" => (k_here; with_unfolding_all refine Call_ ?_)); (k_with "x_k_all" => first | assumption | exact List.forall_mem_nil _ | (refine' List.forall_mem_append.mpr ⟨?_, ?_⟩; (focus k_all); k_all) | (refine' List.forall_mem_cons.mpr ⟨?_, ?_⟩; (focus k_ne); k_all) | exact allNeP (by assumption) | (refine' Above.off ?hA_q46 ?hM_q46; (case hA_q46 => assumption); (case hM_q46 => k_mem)) | (refine' alt_all ?lh_q46 ?ls_q46; (case lh_q46 => assumption); (case ls_q46 => k_allIn)) | exact allNe0 (by assumption) | exact allNe1 (by assumption) | exact allNe2 (by assumption) | exact allNe3 (by assumption) | exact allNe4 (by assumption) | exact allNe5 (by assumption) | exact allNe6 (by assumption)); (k_with "x_k_ne" => first | assumption | (refine' alt_ne1 ?lh_q47 ?lm_q47; (case lh_q47 => assumption); (case lm_q47 => k_mem)) | (refine' alt_ne2 ?lh_q47 ?lm_q47; (case lh_q47 => assumption); (case lm_q47 => k_mem)) | (refine' alt_ne3 ?lx_q47 ?lh_q47 ?lm_q47; (case lx_q47 => assumption); (case lh_q47 => assumption); (case lm_q47 => k_mem)) | (refine' alt_ne4 ?lx_q47 ?lh_q47 ?lm_q47; (case lx_q47 => assumption); (case lh_q47 => assumption); (case lm_q47 => k_mem)) | (refine' Ne.symm ?_; assumption) | (refine neN ?_; refine' Ne.symm ?_; assumption) | (refine neN ?_; (try dsimp only); omega) | (refine' news_ne_cls ?nN_q47 ?n1_q47 ?n2_q47 ?n3_q47; (case nN_q47 => assumption); (case n1_q47 => k_mem); (case n2_q47 => k_mem); (case n3_q47 => (intro e9; exact absurd (Value.type.inj e9) (by decide)))) | (refine neN ?_; (try dsimp only); (simp only [List.forall_mem_cons] at *); omega)); (k_with "x_k_mem" => first | assumption | exact List.mem_cons_self | (refine' List.mem_cons_of_mem _ ?_; k_mem) | (refine' List.mem_append_left _ ?_; k_mem) | (refine' List.mem_append_right _ ?_; k_mem)); (k_with "x_k_upd" => first | exact Pull.head | (refine' Pull.tail ?b_q49; (case b_q49 => k_upd)) | (refine' Pull.under _ ?b_q49; (case b_q49 => k_upd))); (k_with "x_k_allIn" => first | assumption | (intro p9 h9; k_mem) | (refine' List.forall_mem_append.mpr ⟨?_, ?_⟩; (focus k_allIn); k_allIn) | exact List.forall_mem_nil _ | exact sub_l (by assumption)); (k_with "x_k_enter" => first | ktr_enter | (refine' code_def ?k1_q51 ?k2_q51 ?k3_q51 ?k4_q51 ?k5_q51 ?kA_q51 ?kF_q51 ?kK_q51 ?k6_q51 ?k7_q51 ?k8_q51 ?k9_q51 ?kB_q51 ?_ ?c2_q51 ?c3_q51 ?c4_q51 ?c5_q51; (case kA_q51 => exact rfl); (case kF_q51 => exact rfl); (case kK_q51 => first | exact rfl | assumption); (case k1_q51 => k_asm); (case k2_q51 => k_asm); (case k3_q51 => k_asm); (case k4_q51 => k_asm); (case k5_q51 => k_asm); (case k6_q51 => k_is); (case k7_q51 => k_is); (case k8_q51 => ktr_room); (case k9_q51 => exact binds_K (by k_in) rfl (by k_is) rfl rfl rfl); (case c5_q51 => decide); (case kB_q51 => exact locs rfl); (case c2_q51 => exact rfl); (case c3_q51 => exact rfl); (case c4_q51 => exact rfl); k_whole; intro g' L' h' FG' F' N' B' X' T'; (try dsimp only); (try k_fold))); exact trivial
end
end
section
noncomputable abbrev wrD (w : World) (k : Fin 11 → Tok) (sy op nm tk ot wk : Addr) (lst : Str) (lt : Tok) (pf : Bool) : Obj := dictOf [⟨PyData.keyHash w.params (Str.ofString "symbols"), .str (Str.ofString "symbols") (k 0), .ref sy⟩, ⟨PyData.keyHash w.params (Str.ofString "operators"), .str (Str.ofString "operators") (k 1), .ref op⟩, ⟨PyData.keyHash w.params (Str.ofString "quoted"), .str (Str.ofString "quoted") (k 2), .bool true⟩, ⟨PyData.keyHash w.params (Str.ofString "ignore_ops"), .str (Str.ofString "ignore_ops") (k 3), .bool false⟩, ⟨PyData.keyHash w.params (Str.ofString "numbervars"), .str (Str.ofString "numbervars") (k 4), .bool false⟩, ⟨PyData.keyHash w.params (Str.ofString "names"), .str (Str.ofString "names") (k 5), .ref nm⟩, ⟨PyData.keyHash w.params (Str.ofString "taken"), .str (Str.ofString "taken") (k 6), .ref tk⟩, ⟨PyData.keyHash w.params (Str.ofString "out"), .str (Str.ofString "out") (k 7), .ref ot⟩, ⟨PyData.keyHash w.params (Str.ofString "last"), .str (Str.ofString "last") (k 8), .str lst lt⟩, ⟨PyData.keyHash w.params (Str.ofString "prefixed"), .str (Str.ofString "prefixed") (k 9), .bool pf⟩, ⟨PyData.keyHash w.params (Str.ofString "work"), .str (Str.ofString "work") (k 10), .ref wk⟩] 11
section
example : True := by (k_with "subscriptTail" => (k_here; (with_reducible show wpAny _ _ (subscriptTail _ _ (Value.str _ _) (Value.int _ _)) _ _ _); k_dflt (refine' KXi.item rfl ?a_q79 ?b_q79 ?c_q79 (fun hl' => ?_); (case a_q79 => omega); (case b_q79 => omega); (case c_q79 => omega); k_whole))); (k_with "subscriptTail Name Constant ref int" => (k_here; (with_reducible show wpAny _ _ (subscriptTail _ _ (Value.str _ _) (Value.int _ _)) _ _ _); k_dflt (refine' KXi.item rfl ?a_q79 ?b_q79 ?c_q79 (fun hl' => ?_); (case a_q79 => omega); (case b_q79 => omega); (case c_q79 => omega); k_whole))); (k_with "subscriptTail Name" => (k_here; (with_reducible show wpAny _ _ (subscriptTail _ _ (Value.str _ _) (Value.int _ _)) _ _ _); k_dflt (refine' KXi.item rfl ?a_q79 ?b_q79 ?c_q79 (fun hl' => ?_); (case a_q79 => omega); (case b_q79 => omega); (case c_q79 => omega); k_whole))); exact trivial
example : True := by (k_with "getMethod ref" => (k_here; (with_reducible show wpAny _ _ (getMethod (Value.ref _) "get" _) _ _ _); k_dflt (refine' gm_dict_get (knd := intKind _ _) ?N_q80 ?m_q80 ?d_q80 ?_; (case N_q80 => k_asm); (case m_q80 => k_mem); (case d_q80 => assumption); k_whole))); exact trivial
example : True := by (k_with "call builtin:dict.get" => (k_here; k_dflt (refine' c_dict_get1_miss (knd := intKind _ _) ?N_q81 ?m_q81 ?lo_q81 ?d_q81 (intKind_is _ _ _ _) ?v_q81 ?_; (case N_q81 => k_asm); (case m_q81 => k_mem); (case lo_q81 => assumption); (case d_q81 => assumption); (case v_q81 => assumption); k_whole))); exact trivial
variable {w : World} {p : Program} {loose : List Str} {mean : ExcName → Option Value} {mg mb : Str → Option Value} {dp un : Nat} {gd : Option (List Code)} {cn : Str} {cs : Scope} {a : Addr} {ccd : Value} {cl : List (Str × Addr)} {outer : List Env} {A₀ : Around} {base h₀ : Heap} {L : Addr} {m : Str → Option Value} {s : Shared} {Q E : Value → Shared → Prop} {news rest : List (Addr × Obj)}
variable {wa wd sy op nm tk ot wk : Addr} {k : Fin 11 → Tok} {lst : Str} {lt : Tok} {pf : Bool}
theorem raw_spec {x : Str} {t : Tok} {its : List Value} {n : Nat} (hx : (x != Str.ofString "") = true) (hxp : 0 < x.length) (B : Below A₀ base outer h₀) (F : Fr h₀ L s.heap m) (X : (Mine.kk.heap_1 w.params).In h₀) (T : Top p loose mean mg mb h₀) (hk : cs.kind = .function) (hd : dp + 6 < recursionLimit) (hu : un + 80 < cLine) (N : News h₀ L s.heap ((wd, wrD w k sy op nm tk ot wk lst lt pf) :: (ot, listOf its.toArray n) :: rest)) (hw : (wa, instObj 472 wd) ∈ rest) (o1 : ∀ p ∈ rest, p.1 ≠ wd) (o2 : ∀ p ∈ rest, p.1 ≠ ot) (hne : @Ne Nat wd ot) (hz : its.length ≤ 100000) (hxl : x.length ≤ 100000)
  (hret : ∀ h' tk' lt', Fr h₀ L h' m → News h₀ L h' ((wd, wrD w k sy op nm tk ot wk (Txt.item x ((x.length : Int) - 1)) lt' false) :: (ot, listOf (its ++ [Value.str x t]).toArray (n + 1)) :: rest) → Q .none { s with heap := h', toks := tk' }) :
  wpAny (model PySem.Challenge.rw_ok0024_01.row.prog w) (ktrTop dp un gd cn cs L a ccd cl outer) (call (.ref 364) [.ref wa, .str x t]) Q E s := by
  have hz3 : its.toArray.size ≤ sizeLine := by rw [List.size_toArray, sizeLine_eq]; omega
  revert X; k_fill; intro X
  refine wpAny_call ?_
  k_dflt k_enter
  (refine sq_A ?_; intro A9)
  k_steps
  all_goals (refine' hret _ _ _ ?F ?N; (case F => k_asm); (case N => (rw [← List.push_toArray]; k_asm)))
theorem prefix_none {a' : Int} {u : Tok} {opd sy pre inf pos : Addr} {t1 t2 t3 t4 : Tok} {oPre : Obj} {kvs : List (Int × Value)} (B : Below A₀ base outer h₀) (F : Fr h₀ L s.heap m) (X : (Mine.kk.heap_1 w.params).In h₀) (T : Top p loose mean mg mb h₀) (hk : cs.kind = .function) (hd : dp + 5 < recursionLimit) (hu : un + 60 < cLine) (N : News h₀ L s.heap news) (hop : (op, instObj 287 opd) ∈ news) (hopd : (opd, opD w t1 t2 t3 t4 sy pre inf pos) ∈ news) (hpre : (pre, oPre) ∈ news) (hD : oPre.IsDictOf (intKind PG w) kvs) (lo : (pre == sysModules) = false) (hv : valueAt kvs a' = none)
  (hret : ∀ h' tk', Fr h₀ L h' m → News h₀ L h' news → Q .none { s with heap := h', toks := tk' }) :
  wpAny (model PySem.Challenge.rw_ok0024_01.row.prog w) (ktrTop dp un gd cn cs L a ccd cl outer) (call (.ref 242) [.ref op, .int a' u]) Q E s := by
  revert X; k_fill; intro X
  refine wpAny_call ?_
  k_dflt k_enter
  (refine sq_A ?_; intro A9)
  k_steps
  all_goals (refine' hret _ _ ?F ?N; (case F => k_asm); (case N => k_asm))
theorem postfix_none {a' : Int} {u : Tok} {opd sy pre inf pos : Addr} {t1 t2 t3 t4 : Tok} {oPos : Obj} {kvs : List (Int × Value)} (B : Below A₀ base outer h₀) (F : Fr h₀ L s.heap m) (X : (Mine.kk.heap_1 w.params).In h₀) (T : Top p loose mean mg mb h₀) (hk : cs.kind = .function) (hd : dp + 5 < recursionLimit) (hu : un + 60 < cLine) (N : News h₀ L s.heap news) (hop : (op, instObj 287 opd) ∈ news) (hopd : (opd, opD w t1 t2 t3 t4 sy pre inf pos) ∈ news) (hpos : (pos, oPos) ∈ news) (hD : oPos.IsDictOf (intKind PG w) kvs) (lo : (pos == sysModules) = false) (hv : valueAt kvs a' = none)
  (hret : ∀ h' tk', Fr h₀ L h' m → News h₀ L h' news → Q .none { s with heap := h', toks := tk' }) :
  wpAny (model PySem.Challenge.rw_ok0024_01.row.prog w) (ktrTop dp un gd cn cs L a ccd cl outer) (call (.ref 256) [.ref op, .int a' u]) Q E s := by
  revert X; k_fill; intro X
  refine wpAny_call ?_
  k_dflt k_enter
  (refine sq_A ?_; intro A9)
  k_steps
  all_goals (refine' hret _ _ ?F ?N; (case F => k_asm); (case N => k_asm))
example : True := by k_with_none; (k_with "x_k_room" => ((try simp (config := {zetaDelta := true}) only [depth_under_make, depth_under_kw, depth_in1, depth_deeper, depth_caller]); (try dsimp only [ktrTop]); (first | (refine' rm0 ?ha_q41; (case ha_q41 => assumption)) | (refine' rm1 ?ha_q41 ?hb_q41; (case ha_q41 => assumption); (case hb_q41 => exact rfl)) | (refine' rm2 ?ha_q41 ?hb_q41; (case ha_q41 => assumption); (case hb_q41 => exact rfl)) | (refine' rm3 ?ha_q41 ?hb_q41; (case ha_q41 => assumption); (case hb_q41 => exact rfl)) | (refine' rm4 ?ha_q41 ?hb_q41; (case ha_q41 => assumption); (case hb_q41 => exact rfl)) | omega))); (k_with "x_ktr_units" => ((try simp (config := {zetaDelta := true}) only [units_under_make, units_in1, units_deeper, Around.mark_units, units_caller]); (try dsimp only [ktrTop]); (first | (refine' rm0 ?ha_q42; (case ha_q42 => assumption)) | (refine' rm1 ?ha_q42 ?hb_q42; (case ha_q42 => assumption); (case hb_q42 => exact rfl)) | (refine' rm2 ?ha_q42 ?hb_q42; (case ha_q42 => assumption); (case hb_q42 => exact rfl)) | (refine' rm3 ?ha_q42 ?hb_q42; (case ha_q42 => assumption); (case hb_q42 => exact rfl)) | (refine' rm4 ?ha_q42 ?hb_q42; (case ha_q42 => assumption); (case hb_q42 => exact rfl)) | omega))); (k_with "execs cons" => (k_here; (with_reducible refine sq_tok ?_); intro tk')); (k_with "subscriptTail Name Constant ref int" => (k_here; (with_reducible show wpAny _ _ (subscriptTail _ _ (Value.ref _) (Value.int _ _)) _ _ _); k_dflt (first | (refine' item_tupleT ?t_q44 ?a_q44 ?b_q44 ?c_q44 ?d_q44 ?_; (case t_q44 => (refine' News.isTup ?t1_q44 ?t2_q44; (case t1_q44 => k_asm); (case t2_q44 => k_mem))); (case a_q44 => decide); (case b_q44 => decide); (case c_q44 => rfl); (case d_q44 => rfl); k_whole) | (refine' c_item_lit ?N_q44 ?m_q44 ?a2_q44 ?b2_q44 ?d2_q44 ?_; (case N_q44 => k_asm); (case m_q44 => k_mem); (case a2_q44 => decide); (case b2_q44 => decide); (case d2_q44 => rfl); k_whole)))); (k_with "eval Call Name" => (k_here; with_unfolding_all refine Call_ ?_)); (k_with "x_k_all" => first | assumption | exact List.forall_mem_nil _ | (refine' List.forall_mem_append.mpr ⟨?_, ?_⟩; (focus k_all); k_all) | (refine' List.forall_mem_cons.mpr ⟨?_, ?_⟩; (focus k_ne); k_all) | exact allNeP (by assumption) | (refine' Above.off ?hA_q46 ?hM_q46; (case hA_q46 => assumption); (case hM_q46 => k_mem)) | (refine' alt_all ?lh_q46 ?ls_q46; (case lh_q46 => assumption); (case ls_q46 => k_allIn)) | exact allNe0 (by assumption) | exact allNe1 (by assumption) | exact allNe2 (by assumption) | exact allNe3 (by assumption) | exact allNe4 (by assumption) | exact allNe5 (by assumption) | exact allNe6 (by assumption)); (k_with "x_k_ne" => first | assumption | (refine' alt_ne1 ?lh_q47 ?lm_q47; (case lh_q47 => assumption); (case lm_q47 => k_mem)) | (refine' alt_ne2 ?lh_q47 ?lm_q47; (case lh_q47 => assumption); (case lm_q47 => k_mem)) | (refine' alt_ne3 ?lx_q47 ?lh_q47 ?lm_q47; (case lx_q47 => assumption); (case lh_q47 => assumption); (case lm_q47 => k_mem)) | (refine' alt_ne4 ?lx_q47 ?lh_q47 ?lm_q47; (case lx_q47 => assumption); (case lh_q47 => assumption); (case lm_q47 => k_mem)) | (refine' Ne.symm ?_; assumption) | (refine neN ?_; refine' Ne.symm ?_; assumption) | (refine neN ?_; (try dsimp only); omega) | (refine' news_ne_cls ?nN_q47 ?n1_q47 ?n2_q47 ?n3_q47; (case nN_q47 => assumption); (case n1_q47 => k_mem); (case n2_q47 => k_mem); (case n3_q47 => (intro e9; exact absurd (Value.type.inj e9) (by decide)))) | (refine neN ?_; (try dsimp only); (simp only [List.forall_mem_cons] at *); omega)); (k_with "x_k_mem" => first | assumption | exact List.mem_cons_self | (refine' List.mem_cons_of_mem _ ?_; k_mem) | (refine' List.mem_append_left _ ?_; k_mem) | (refine' List.mem_append_right _ ?_; k_mem)); (k_with "x_k_upd" => first | exact Pull.head | (refine' Pull.tail ?b_q49; (case b_q49 => k_upd)) | (refine' Pull.under _ ?b_q49; (case b_q49 => k_upd))); (k_with "x_k_allIn" => first | assumption | (intro p9 h9; k_mem) | (refine' List.forall_mem_append.mpr ⟨?_, ?_⟩; (focus k_allIn); k_allIn) | exact List.forall_mem_nil _ | exact sub_l (by assumption)); (k_with "x_k_enter" => first | ktr_enter | (refine' code_def ?k1_q51 ?k2_q51 ?k3_q51 ?k4_q51 ?k5_q51 ?kA_q51 ?kF_q51 ?kK_q51 ?k6_q51 ?k7_q51 ?k8_q51 ?k9_q51 ?kB_q51 ?_ ?c2_q51 ?c3_q51 ?c4_q51 ?c5_q51; (case kA_q51 => exact rfl); (case kF_q51 => exact rfl); (case kK_q51 => first | exact rfl | assumption); (case k1_q51 => k_asm); (case k2_q51 => k_asm); (case k3_q51 => k_asm); (case k4_q51 => k_asm); (case k5_q51 => k_asm); (case k6_q51 => k_is); (case k7_q51 => k_is); (case k8_q51 => ktr_room); (case k9_q51 => exact binds_K (by k_in) rfl (by k_is) rfl rfl rfl); (case c5_q51 => decide); (case kB_q51 => exact locs rfl); (case c2_q51 => exact rfl); (case c3_q51 => exact rfl); (case c4_q51 => exact rfl); k_whole; intro g' L' h' FG' F' N' B' X' T'; (try dsimp only); (try k_fold))); exact trivial
end
end
section
section
example : True := by (k_with "subscriptTail" => (k_here; (with_reducible show wpAny _ _ (subscriptTail _ _ (Value.str _ _) (Value.int _ _)) _ _ _); k_dflt (refine' KXi.item rfl ?a_q82 ?b_q82 ?c_q82 (fun hl' => ?_); (case a_q82 => omega); (case b_q82 => omega); (case c_q82 => omega); k_whole))); (k_with "subscriptTail Name Constant ref int" => (k_here; (with_reducible show wpAny _ _ (subscriptTail _ _ (Value.str _ _) (Value.int _ _)) _ _ _); k_dflt (refine' KXi.item rfl ?a_q82 ?b_q82 ?c_q82 (fun hl' => ?_); (case a_q82 => omega); (case b_q82 => omega); (case c_q82 => omega); k_whole))); (k_with "subscriptTail Name" => (k_here; (with_reducible show wpAny _ _ (subscriptTail _ _ (Value.str _ _) (Value.int _ _)) _ _ _); k_dflt (refine' KXi.item rfl ?a_q82 ?b_q82 ?c_q82 (fun hl' => ?_); (case a_q82 => omega); (case b_q82 => omega); (case c_q82 => omega); k_whole))); exact trivial
example : True := by (k_with "call ref" => (k_here; k_dflt (refine' is_symbol_spec ?B_q83 ?F_q83 ?X_q83 ?T_q83 ?K_q83 ?d_q83 ?u_q83 ?N_q83 ?_; (case F_q83 => k_asm); (case B_q83 => k_asm); (case X_q83 => k_asm); (case T_q83 => k_asm); (case K_q83 => first | exact rfl | assumption); (case d_q83 => k_room); (case u_q83 => ktr_units); (case N_q83 => k_asm)); intro h' tk' F' N'; (try dsimp only at N'); (try k_sweep); walk_say "is_symbol_spec")); exact trivial
variable {w : World} {p : Program} {loose : List Str} {mean : ExcName → Option Value} {mg mb : Str → Option Value} {dp un : Nat} {gd : Option (List Code)} {cn : Str} {cs : Scope} {a : Addr} {ccd : Value} {cl : List (Str × Addr)} {outer : List Env} {A₀ : Around} {base h₀ : Heap} {L : Addr} {m : Str → Option Value} {s : Shared} {Q E : Value → Shared → Prop} {news rest : List (Addr × Obj)}
variable {wa wd sy op nm tk ot wk : Addr} {k : Fin 11 → Tok} {lst : Str} {lt : Tok} {pf : Bool}
theorem needs_space_none {y : Str} {t : Tok} (B : Below A₀ base outer h₀) (F : Fr h₀ L s.heap m) (X : (Mine.kk.heap_1 w.params).In h₀) (T : Top p loose mean mg mb h₀) (hk : cs.kind = .function) (hd : dp + 8 < recursionLimit) (hu : un + 100 < cLine) (hl : lst = Str.ofString "" ∨ lst = Str.ofString "(") (N : News h₀ L s.heap news) (hw : (wa, instObj 472 wd) ∈ news) (hwd : (wd, wrD w k sy op nm tk ot wk lst lt false) ∈ news)
  (hret : ∀ h' tk', Fr h₀ L h' m → News h₀ L h' news → Q (.bool false) { s with heap := h', toks := tk' }) :
  wpAny (model PySem.Challenge.rw_ok0024_01.row.prog w) (ktrTop dp un gd cn cs L a ccd cl outer) (call (.ref 378) [.ref wa, .str y t]) Q E s := by
  rcases hl with rfl | rfl
  · revert X; k_fill; intro X
    refine wpAny_call ?_
    k_dflt k_enter
    (refine sq_A ?_; intro A9)
    k_steps
    all_goals first | (refine' ret_bN hret ?e ?f ?n ?s; (case f => k_asm); (case n => assumption); (case s => (intro _ hp; first | exact hp | exact List.mem_append_left _ hp | exact List.mem_cons_of_mem _ hp | (simp only [List.mem_append, List.mem_cons]; simp [hp]; done))); (case e => (refine Eq.symm ?_; first | rfl | decide))) | ((rename symB _ = true => ha9); exact absurd ha9 (by decide +kernel))
  · revert X; k_fill; intro X
    refine wpAny_call ?_
    k_dflt k_enter
    (refine sq_A ?_; intro A9)
    k_steps
    all_goals first | (refine' ret_bN hret ?e ?f ?n ?s; (case f => k_asm); (case n => assumption); (case s => (intro _ hp; first | exact hp | exact List.mem_append_left _ hp | exact List.mem_cons_of_mem _ hp | (simp only [List.mem_append, List.mem_cons]; simp [hp]; done))); (case e => (refine Eq.symm ?_; first | rfl | decide))) | ((rename symB _ = true => ha9); exact absurd ha9 (by decide +kernel))
example : True := by (k_with "call ref" => (k_here; k_dflt (refine' needs_space_none ?B_q84 ?F_q84 ?X_q84 ?T_q84 ?K_q84 ?d_q84 ?u_q84 ?l_q84 ?N_q84 ?w_q84 ?wd_q84 ?_; (case F_q84 => k_asm); (case B_q84 => k_asm); (case X_q84 => k_asm); (case T_q84 => k_asm); (case K_q84 => first | exact rfl | assumption); (case d_q84 => k_room); (case u_q84 => ktr_units); (case l_q84 => assumption); (case N_q84 => k_asm); (case w_q84 => k_mem); (case wd_q84 => k_mem)); intro h' tk' F' N'; (try dsimp only at N'); (try k_sweep); walk_say "needs_space_none")); exact trivial
example : True := by (k_with "call ref" => (k_here; k_dflt (refine' raw_spec ?x_q85 ?xp_q85 ?B_q85 ?F_q85 ?X_q85 ?T_q85 ?K_q85 ?d_q85 ?u_q85 ?N_q85 ?w_q85 ?o1_q85 ?o2_q85 ?ne_q85 ?z_q85 ?xl_q85 ?_; (case x_q85 => assumption); (case xp_q85 => assumption); (case B_q85 => k_asm); (case F_q85 => k_asm); (case X_q85 => k_asm); (case T_q85 => k_asm); (case K_q85 => first | exact rfl | assumption); (case d_q85 => k_room); (case u_q85 => ktr_units); (case N_q85 => k_asm); (case w_q85 => k_mem); (case o1_q85 => k_all); (case o2_q85 => k_all); (case ne_q85 => assumption); (case z_q85 => assumption); (case xl_q85 => assumption)); intro h' tk' lt' F' N'; (try k_sweep); walk_say "raw")); exact trivial
theorem token_spec {x : Str} {t : Tok} {its : List Value} {n : Nat} (hl : lst = Str.ofString "" ∨ lst = Str.ofString "(") (hx : (x != Str.ofString "") = true) (hxp : 0 < x.length) (B : Below A₀ base outer h₀) (F : Fr h₀ L s.heap m) (X : (Mine.kk.heap_1 w.params).In h₀) (T : Top p loose mean mg mb h₀) (hk : cs.kind = .function) (hd : dp + 12 < recursionLimit) (hu : un + 160 < cLine) (N : News h₀ L s.heap ((wd, wrD w k sy op nm tk ot wk lst lt false) :: (ot, listOf its.toArray n) :: rest)) (hw : (wa, instObj 472 wd) ∈ rest) (o1 : ∀ p ∈ rest, p.1 ≠ wd) (o2 : ∀ p ∈ rest, p.1 ≠ ot) (hne : @Ne Nat wd ot) (hz : its.length ≤ 100000) (hxl : x.length ≤ 100000)
  (hret : ∀ h' tk' lt', Fr h₀ L h' m → News h₀ L h' ((wd, wrD w k sy op nm tk ot wk (Txt.item x ((x.length : Int) - 1)) lt' false) :: (ot, listOf (its ++ [Value.str x t]).toArray (n + 1)) :: rest) → Q .none { s with heap := h', toks := tk' }) :
  wpAny (model PySem.Challenge.rw_ok0024_01.row.prog w) (ktrTop dp un gd cn cs L a ccd cl outer) (call (.ref 371) [.ref wa, .str x t]) Q E s := by
  revert X; k_fill; intro X
  refine wpAny_call ?_
  k_dflt k_enter
  (refine sq_A ?_; intro A9)
  k_steps
  all_goals (refine' hret _ _ _ ?F ?N; (case F => k_asm); (case N => k_asm))
example : True := by k_with_none; (k_with "x_k_room" => ((try simp (config := {zetaDelta := true}) only [depth_under_make, depth_under_kw, depth_in1, depth_deeper, depth_caller]); (try dsimp only [ktrTop]); (first | (refine' rm0 ?ha_q41; (case ha_q41 => assumption)) | (refine' rm1 ?ha_q41 ?hb_q41; (case ha_q41 => assumption); (case hb_q41 => exact rfl)) | (refine' rm2 ?ha_q41 ?hb_q41; (case ha_q41 => assumption); (case hb_q41 => exact rfl)) | (refine' rm3 ?ha_q41 ?hb_q41; (case ha_q41 => assumption); (case hb_q41 => exact rfl)) | (refine' rm4 ?ha_q41 ?hb_q41; (case ha_q41 => assumption); (case hb_q41 => exact rfl)) | omega))); (k_with "x_ktr_units" => ((try simp (config := {zetaDelta := true}) only [units_under_make, units_in1, units_deeper, Around.mark_units, units_caller]); (try dsimp only [ktrTop]); (first | (refine' rm0 ?ha_q42; (case ha_q42 => assumption)) | (refine' rm1 ?ha_q42 ?hb_q42; (case ha_q42 => assumption); (case hb_q42 => exact rfl)) | (refine' rm2 ?ha_q42 ?hb_q42; (case ha_q42 => assumption); (case hb_q42 => exact rfl)) | (refine' rm3 ?ha_q42 ?hb_q42; (case ha_q42 => assumption); (case hb_q42 => exact rfl)) | (refine' rm4 ?ha_q42 ?hb_q42; (case ha_q42 => assumption); (case hb_q42 => exact rfl)) | omega))); (k_with "execs cons" => (k_here; (with_reducible refine sq_tok ?_); intro tk')); (k_with "subscriptTail Name Constant ref int" => (k_here; (with_reducible show wpAny _ _ (subscriptTail _ _ (Value.ref _) (Value.int _ _)) _ _ _); k_dflt (first | (refine' item_tupleT ?t_q44 ?a_q44 ?b_q44 ?c_q44 ?d_q44 ?_; (case t_q44 => (refine' News.isTup ?t1_q44 ?t2_q44; (case t1_q44 => k_asm); (case t2_q44 => k_mem))); (case a_q44 => decide); (case b_q44 => decide); (case c_q44 => rfl); (case d_q44 => rfl); k_whole) | (refine' c_item_lit ?N_q44 ?m_q44 ?a2_q44 ?b2_q44 ?d2_q44 ?_; (case N_q44 => k_asm); (case m_q44 => k_mem); (case a2_q44 => decide); (case b2_q44 => decide); (case d2_q44 => rfl); k_whole)))); (k_with "eval Call Name" => (k_here; with_unfolding_all refine Call_ ?_)); (k_with "x_k_all" => first | assumption | exact List.forall_mem_nil _ | (refine' List.forall_mem_append.mpr ⟨?_, ?_⟩; (focus k_all); k_all) | (refine' List.forall_mem_cons.mpr ⟨?_, ?_⟩; (focus k_ne); k_all) | exact allNeP (by assumption) | (refine' Above.off ?hA_q46 ?hM_q46; (case hA_q46 => assumption); (case hM_q46 => k_mem)) | (refine' alt_all ?lh_q46 ?ls_q46; (case lh_q46 => assumption); (case ls_q46 => k_allIn)) | exact allNe0 (by assumption) | exact allNe1 (by assumption) | exact allNe2 (by assumption) | exact allNe3 (by assumption) | exact allNe4 (by assumption) | exact allNe5 (by assumption) | exact allNe6 (by assumption)); (k_with "x_k_ne" => first | assumption | (refine' alt_ne1 ?lh_q47 ?lm_q47; (case lh_q47 => assumption); (case lm_q47 => k_mem)) | (refine' alt_ne2 ?lh_q47 ?lm_q47; (case lh_q47 => assumption); (case lm_q47 => k_mem)) | (refine' alt_ne3 ?lx_q47 ?lh_q47 ?lm_q47; (case lx_q47 => assumption); (case lh_q47 => assumption); (case lm_q47 => k_mem)) | (refine' alt_ne4 ?lx_q47 ?lh_q47 ?lm_q47; (case lx_q47 => assumption); (case lh_q47 => assumption); (case lm_q47 => k_mem)) | (refine' Ne.symm ?_; assumption) | (refine neN ?_; refine' Ne.symm ?_; assumption) | (refine neN ?_; (try dsimp only); omega) | (refine' news_ne_cls ?nN_q47 ?n1_q47 ?n2_q47 ?n3_q47; (case nN_q47 => assumption); (case n1_q47 => k_mem); (case n2_q47 => k_mem); (case n3_q47 => (intro e9; exact absurd (Value.type.inj e9) (by decide)))) | (refine neN ?_; (try dsimp only); (simp only [List.forall_mem_cons] at *); omega)); (k_with "x_k_mem" => first | assumption | exact List.mem_cons_self | (refine' List.mem_cons_of_mem _ ?_; k_mem) | (refine' List.mem_append_left _ ?_; k_mem) | (refine' List.mem_append_right _ ?_; k_mem)); (k_with "x_k_upd" => first | exact Pull.head | (refine' Pull.tail ?b_q49; (case b_q49 => k_upd)) | (refine' Pull.under _ ?b_q49; (case b_q49 => k_upd))); (k_with "x_k_allIn" => first | assumption | (intro p9 h9; k_mem) | (refine' List.forall_mem_append.mpr ⟨?_, ?_⟩; (focus k_allIn); k_allIn) | exact List.forall_mem_nil _ | exact sub_l (by assumption)); (k_with "x_k_enter" => first | ktr_enter | (refine' code_def ?k1_q51 ?k2_q51 ?k3_q51 ?k4_q51 ?k5_q51 ?kA_q51 ?kF_q51 ?kK_q51 ?k6_q51 ?k7_q51 ?k8_q51 ?k9_q51 ?kB_q51 ?_ ?c2_q51 ?c3_q51 ?c4_q51 ?c5_q51; (case kA_q51 => exact rfl); (case kF_q51 => exact rfl); (case kK_q51 => first | exact rfl | assumption); (case k1_q51 => k_asm); (case k2_q51 => k_asm); (case k3_q51 => k_asm); (case k4_q51 => k_asm); (case k5_q51 => k_asm); (case k6_q51 => k_is); (case k7_q51 => k_is); (case k8_q51 => ktr_room); (case k9_q51 => exact binds_K (by k_in) rfl (by k_is) rfl rfl rfl); (case c5_q51 => decide); (case kB_q51 => exact locs rfl); (case c2_q51 => exact rfl); (case c3_q51 => exact rfl); (case c4_q51 => exact rfl); k_whole; intro g' L' h' FG' F' N' B' X' T'; (try dsimp only); (try k_fold))); exact trivial
end
end
section
section
variable {prog : Program} {w : World} {A : Around} {E : Value → Shared → Prop} {s : Shared} {env : Env} {h₀ : Heap} {x : Str} {body : List Stmt} {Q : Flow → Shared → Prop}
noncomputable def LoopA (x : Str) (xt : Str) (l : Addr) (pre : List Str) (f : Nat → Str) (m₀ : Str → Option Value) (rest : List (Addr × Obj)) (i : Nat) (m : Str → Option Value) (nx : List (Addr × Obj)) : Prop := ∃ its n, nx = (l, listOf its.toArray n) :: rest ∧ StrsAre its (pre ++ (xt.cps.toList.take i).map f) ∧ ∀ z, z ≠ x → m z = m₀ z
theorem iter_str_acc {xt : Str} {tx : Tok} {l : Addr} {its : List Value} {n : Nat} {pre : List Str} {m₀ : Str → Option Value} {rest : List (Addr × Obj)} (f : Nat → Str)
    (hh : A.handled = none) (F : Fr h₀ env.locals s.heap m₀) (N : News h₀ env.locals s.heap ((l, listOf its.toArray n) :: rest)) (hI : StrsAre its pre) (hb : pre.length + xt.length ≤ 100000)
    (turn : ∀ (i c : Nat) t its n h tk own, xt.cps[i]? = some c → StrsAre its (pre ++ (xt.cps.toList.take i).map f) → its.length ≤ 100000 → (∀ p ∈ own, p.1 ≠ l) → Fr h₀ env.locals h (fun y => if y = x then some (.str ⟨#[c]⟩ t) else m₀ y) → News h₀ env.locals h ((l, listOf its.toArray n) :: (rest ++ own)) →
      wpAny (model prog w) A (execs body env) (InvPostN h₀ env.locals (LoopA x xt l pre f m₀ rest (i+1)) own (l :: rest.map (·.1)) { s with heap := h, toks := tk } Q) E { s with heap := h, toks := tk })
    (done : ∀ (u : Str → Option Value) its n h tk, StrsAre its (pre ++ xt.cps.toList.map f) → its.length ≤ 100000 → Fr h₀ env.locals h (fun y => if y = x then u y else m₀ y) → News h₀ env.locals h ((l, listOf its.toArray n) :: rest) → Q .next { s with heap := h, toks := tk }) :
    wpAny (model prog w) A (pyIter (.str xt tx)) (fun it s₂ => LoopAtV prog w A h₀ env x body Q E it s₂) E s := by
  refine wpAny_pyIter_str fun o St hW hst => ?_
  have W := hW A hh
  refine loop_invN (fun i m nx => LoopA x xt l pre f m₀ rest i m nx) W ?_ ?_ ?_ ?_ hst (F.push _) (fun p hp => ⟨Heap.get?_push_of_some _ (N p hp).1, (N p hp).2⟩) ⟨its, n, rfl, by simpa using hI, fun _ _ => rfl⟩ ?_ ?_
  · intro hm
    exact absurd F.ns.lt ((List.mem_singleton.mp hm) ▸ Nat.lt_irrefl _)
  · intro b' hb
    rw [List.mem_singleton.mp hb]
    exact next_is_new F
  · intro p hp hI
    exact absurd (Heap.lt_size (N p hp).1) ((List.mem_singleton.mp hI) ▸ Nat.lt_irrefl _)
  · intro p hp hI
    exact absurd (Heap.lt_size (N p hp).1) ((List.mem_singleton.mp hI) ▸ Nat.lt_irrefl _)
  · rintro i v m₁ nx h tk own hi ⟨c, u, hn, rfl⟩ _ hoff ⟨its, n, rfl, hT, hm⟩ F₁ N₁
    have e : (fun y => if y = x then some (Value.str ⟨#[c]⟩ u) else m₁ y) = fun y => if y = x then some (Value.str ⟨#[c]⟩ u) else m₀ y := by
      funext y; by_cases h1 : y = x
      · simp [h1]
      · simp [h1, hm y h1]
    rw [e] at F₁
    have hl : its.length ≤ 100000 := by
      rw [hT.length, List.length_append, List.length_map]
      have := List.length_take_le' i xt.cps.toList
      have h2 : xt.cps.toList.length = xt.length := by simp [Str.length]
      omega
    exact turn i c u its n h tk own hn hT hl (fun p hp => by have := hoff p hp; simp at this; exact this.1) F₁ N₁
  · rintro m₁ nx h tk ⟨its, n, rfl, hT, hm⟩ F₁ N₁
    have e : m₁ = fun y => if y = x then m₁ y else m₀ y := by
      funext y; by_cases h1 : y = x
      · simp [h1]
      · simp [h1, hm y h1]
    rw [e] at F₁
    have hT' : StrsAre its (pre ++ xt.cps.toList.map f) := by
      have e2 : xt.cps.toList.take xt.cps.size = xt.cps.toList := by rw [← Array.length_toList, List.take_length]
      have h3 : StrsAre its (pre ++ (xt.cps.toList.take xt.cps.size).map f) := hT
      rwa [e2] at h3
    have hl : its.length ≤ 100000 := by
      rw [hT'.length, List.length_append, List.length_map]
      have h2 : xt.cps.toList.length = xt.length := by simp [Str.length]
      omega
    exact done m₁ its n h tk hT' hl F₁ N₁
theorem loopA_end {L : Addr} {xt : Str} {l : Addr} {pre : List Str} {f : Nat → Str} {i c n : Nat} {y : Str} {t : Tok} {m₀ : Str → Option Value} {m' : Str → Option Value} {its : List Value} {own news' rest : List (Addr × Obj)} {s₁ : Shared} {h' : Heap} {tk : Nat} (hn : xt.cps[i]? = some c) (hT : StrsAre its (pre ++ (xt.cps.toList.take i).map f)) (F : Fr h₀ L h' m') (N : News h₀ L h' ((l, listOf (its ++ [Value.str y t]).toArray n) :: news')) (hs : ∀ p ∈ rest ++ own, p ∈ news') (hy : y = f c) (hm : ∀ z, z ≠ x → m' z = m₀ z) :
    InvEndN h₀ L (LoopA x xt l pre f m₀ rest (i+1)) own (l :: rest.map (·.1)) s₁ { s₁ with heap := h', toks := tk } := by
  subst hy
  refine InvEndN.intro (nx := (l, listOf (its ++ [Value.str (f c) t]).toArray n) :: rest) F N ⟨_, _, rfl, ?_, hm⟩ rfl (fun p hp => ?_) (fun p hp => .tail _ (hs p (List.mem_append_right _ hp)))
  · have e : (xt.cps.toList.take (i + 1)).map f = (xt.cps.toList.take i).map f ++ [f c] := by
      rw [List.take_add_one, show xt.cps.toList[i]? = some c from by simpa using hn]; simp
    rw [e, ← List.append_assoc]
    exact hT.append' (.cons _ _ .nil)
  · rcases List.mem_cons.mp hp with rfl | hp
    · exact .head _
    · exact .tail _ (hs p (List.mem_append_left _ hp))
end
end
section
section
variable {w : World} {p : Program} {loose : List Str} {mean : ExcName → Option Value} {mg mb : Str → Option Value} {dp un : Nat} {gd : Option (List Code)} {cn : Str} {cs : Scope} {a : Addr} {ccd : Value} {cl : List (Str × Addr)} {outer : List Env} {A₀ : Around} {base h₀ : Heap} {L : Addr} {m : Str → Option Value} {s : Shared} {Q E : Value → Shared → Prop} {news rest : List (Addr × Obj)}
theorem escaped_plain {c : Int} {t : Tok} (B : Below A₀ base outer h₀) (F : Fr h₀ L s.heap m) (X : (Mine.kk.heap_1 w.params).In h₀) (T : Top p loose mean mg mb h₀) (hk : cs.kind = .function) (hd : dp + 5 < recursionLimit) (hu : un + 60 < cLine) (N : News h₀ L s.heap news) (h1 : c = 116 ∨ c = 119 ∨ c = 111 ∨ c = 32 ∨ c = 114 ∨ c = 100 ∨ c = 115)
  (hret : ∀ t h' tk', Fr h₀ L h' m → News h₀ L h' news → Q (.str ⟨#[c.toNat]⟩ t) { s with heap := h', toks := tk' }) :
  wpAny (model PySem.Challenge.rw_ok0024_01.row.prog w) (ktrTop dp un gd cn cs L a ccd cl outer) (call (.ref 298) [.int c t]) Q E s := by
  rcases h1 with rfl | rfl | rfl | rfl | rfl | rfl | rfl
  all_goals (revert X; k_fill; intro X; refine wpAny_call ?_; k_dflt k_enter; k_steps)
  all_goals (refine' ret_sN hret ?e ?f ?n ?s; (case f => k_asm); (case n => assumption); (case s => (intro _ hp; first | exact hp | exact List.mem_append_left _ hp | exact List.mem_cons_of_mem _ hp | (simp only [List.mem_append, List.mem_cons]; simp [hp]; done))); (case e => (refine Eq.symm ?_; first | rfl | decide)))
theorem two_code {i c : Nat} (h : (Str.ofString "two words").cps[i]? = some c) : (c : Int) = 116 ∨ (c : Int) = 119 ∨ (c : Int) = 111 ∨ (c : Int) = 32 ∨ (c : Int) = 114 ∨ (c : Int) = 100 ∨ (c : Int) = 115 := by
  have hi : i < 9 := (Array.getElem?_eq_some_iff.mp h).1
  have h2 : ∀ i : Fin 9, (match (Str.ofString "two words").cps[i.val]? with | none => true | some c => decide ((c : Int) = 116 ∨ (c : Int) = 119 ∨ (c : Int) = 111 ∨ (c : Int) = 32 ∨ (c : Int) = 114 ∨ (c : Int) = 100 ∨ (c : Int) = 115)) = true := by decide +kernel
  have h3 := h2 ⟨i, hi⟩
  simp only [h] at h3
  exact of_decide_eq_true h3
example : True := by (k_with "call ref" => (k_here; k_dflt (refine' escaped_plain ?B_q86 ?F_q86 ?X_q86 ?T_q86 ?K_q86 ?d_q86 ?u_q86 ?N_q86 ?h1_q86 ?_; (case F_q86 => k_asm); (case B_q86 => k_asm); (case X_q86 => k_asm); (case T_q86 => k_asm); (case K_q86 => first | exact rfl | assumption); (case d_q86 => k_room); (case u_q86 => ktr_units); (case N_q86 => k_asm); (case h1_q86 => exact two_code (by assumption))); intro t' h' tk' F' N'; (try dsimp only at N'); (try k_sweep); walk_say "escaped_plain")); exact trivial
theorem c_joinL {prog : Program} {w : World} {A : Around} {E : Value → Shared → Prop} {s : Shared} {h₀ : Heap} {L l : Addr} {x : Str} {t : Tok} {news : List (Addr × Obj)} {its : List Value} {n : Nat} {ys : List Str} {Q : Value → Shared → Prop} (N : News h₀ L s.heap news) (hm : (l, listOf its.toArray n) ∈ news) (hi : StrsAre its ys) (hx : x.length ≤ 16) (hw : (ys.map (·.length)).sum + ys.length ≤ 1048576)
    (h : ∀ t' k, Q (.str (Txt.join x ys) t') { s with toks := k }) : wpAny (model prog w) A (call (.builtin "str.join") [.str x t, .ref l]) Q E s :=
  join_listW (News.isList N hm) (by simpa using hi) hx hw h
example : True := by (k_with "exec For Name Name cons nil" => (k_here; (rename Fr _ _ _ _ => lF'); (with_unfolding_all refine' For_invVF lF' ?k1_q87 ?k2_q87 ?_; (case k1_q87 => exact rfl); (case k2_q87 => exact rfl); k_whole))); exact trivial
example : True := by (k_with "pyIter str" => (k_here; (rename Fr _ _ _ _ => lF'); (rename News _ _ _ _ => lN'); (with_unfolding_all refine' iter_str_acc (n := 0) (fun c => ⟨#[c]⟩) (by rfl) lF' lN' (.cons (Str.ofString "'") _ .nil) ?hb_q88 (fun i' c' t' its' n' h' tk' own' hn' hT' hz' hl' F' N' => ?_) (fun u' its' n' h' tk' hT' hz' F' N' => ?_)); (case hb_q88 => decide); (all_goals (try clear lF' lN')); (all_goals (try k_fold)))); exact trivial
example : True := by (k_with "InvEndN" => (refine' loopA_end ?hn_q89 ?hT_q89 ?F_q89 ?N_q89 ?s_q89 ?y_q89 ?m_q89; (case hn_q89 => assumption); (case hT_q89 => assumption); (case F_q89 => assumption); (case N_q89 => (first | assumption | (rw [← List.push_toArray]; assumption))); (case s_q89 => (intro _ hp; exact hp)); (case y_q89 => first | rfl | (simp; done)); (case m_q89 => (intro z9 h9; first | exact if_neg h9 | simp [h9])))); exact trivial
example : True := by (k_with "call builtin:str.join" => (k_here; k_dflt (refine' c_joinL ?N_q90 ?m_q90 ?i_q90 ?x_q90 ?w_q90 ?_; (case N_q90 => k_asm); (case m_q90 => (rw [List.push_toArray]; k_mem)); (case i_q90 => exact StrsAre.append' (by assumption) (.cons _ _ .nil)); (case x_q90 => decide); (case w_q90 => decide +kernel); k_whole); intro _ _)); exact trivial
theorem quoted_two {t : Tok} (B : Below A₀ base outer h₀) (F : Fr h₀ L s.heap m) (X : (Mine.kk.heap_1 w.params).In h₀) (T : Top p loose mean mg mb h₀) (hk : cs.kind = .function) (hd : dp + 8 < recursionLimit) (hu : un + 100 < cLine) (N : News h₀ L s.heap news)
  (hret : ∀ t h' tk', Fr h₀ L h' m → News h₀ L h' news → Q (.str (Str.ofString "'two words'") t) { s with heap := h', toks := tk' }) :
  wpAny (model PySem.Challenge.rw_ok0024_01.row.prog w) (ktrTop dp un gd cn cs L a ccd cl outer) (call (.ref 305) [.str (Str.ofString "two words") t]) Q E s := by
  revert X; k_fill; intro X
  refine wpAny_call ?_
  k_dflt k_enter
  (refine sq_A ?_; intro A9)
  k_steps
  all_goals (refine' ret_sN hret ?e ?f ?n ?s; (case f => k_asm); (case n => assumption); (case s => (intro _ hp; first | exact hp | exact List.mem_append_left _ hp | exact List.mem_cons_of_mem _ hp | (simp only [List.mem_append, List.mem_cons]; simp [hp]; done))); (case e => (refine Eq.symm ?_; first | rfl | decide +kernel)))
example : True := by (k_with "call ref" => (k_here; k_dflt (refine' quoted_two ?B_q91 ?F_q91 ?X_q91 ?T_q91 ?K_q91 ?d_q91 ?u_q91 ?N_q91 ?_; (case F_q91 => k_asm); (case B_q91 => k_asm); (case X_q91 => k_asm); (case T_q91 => k_asm); (case K_q91 => first | exact rfl | assumption); (case d_q91 => k_room); (case u_q91 => ktr_units); (case N_q91 => k_asm)); intro t' h' tk' F' N'; (try dsimp only at N'); (try k_sweep); walk_say "quoted_two")); exact trivial
noncomputable def spellB (x : Str) : Str := if x = Str.ofString "two words" then Str.ofString "'two words'" else x
noncomputable def OkName (x : Str) : Prop := alnumNameB x = true ∨ x = Str.ofString "[]" ∨ x = Str.ofString "two words"
example : True := by (k_with "call ref" => (k_here; k_dflt (refine' text_spec ?B_q92 ?F_q92 ?X_q92 ?T_q92 ?K_q92 ?d_q92 ?u_q92 ?N_q92 ?R_q92 ?S_q92 ?z_q92 ?s0_q92 ?m1_q92 ?s_q92 ?hx_q92 ?_; (case F_q92 => k_asm); (case B_q92 => k_asm); (case X_q92 => k_asm); (case T_q92 => k_asm); (case K_q92 => first | exact rfl | assumption); (case d_q92 => k_room); (case u_q92 => ktr_units); (case N_q92 => k_asm); (case R_q92 => assumption); (case S_q92 => assumption); (case z_q92 => assumption); (case s0_q92 => assumption); (case m1_q92 => assumption); (case s_q92 => assumption); (case hx_q92 => assumption)); intro t' h' tk' F' N'; (try dsimp only at N'); (try k_sweep); walk_say "text_spec")); exact trivial
theorem spell_alnum {x : Str} (h : alnumNameB x = true) : spellB x = x := by
  unfold spellB
  split
  · rename_i e
    rw [e] at h
    exact absurd h (by decide +kernel)
  · rfl
theorem is_plain_alnum_use {x : Str} {tk : Tok} (B : Below A₀ base outer h₀) (F : Fr h₀ L s.heap m) (X : (Mine.kk.heap_1 w.params).In h₀) (T : Top p loose mean mg mb h₀) (hk : cs.kind = .function) (hd : dp + 12 < recursionLimit) (hu : un + 150 < cLine) (hx : alnumNameB x = true) (N : News h₀ L s.heap news)
  (hret : ∀ h' tk', Fr h₀ L h' m → News h₀ L h' news → Q (.bool true) { s with heap := h', toks := tk' }) :
  wpAny (model PySem.Challenge.rw_ok0024_01.row.prog w) (ktrTop dp un gd cn cs L a ccd cl outer) (call (.ref 196) [.str x tk]) Q E s := is_plain_alnum_spec hx B F X T hk hd hu N hret
example : True := by (k_with "call ref" => (k_here; k_dflt (refine' is_plain_alnum_use ?B_q93 ?F_q93 ?X_q93 ?T_q93 ?K_q93 ?d_q93 ?u_q93 ?hx_q93 ?N_q93 ?_; (case F_q93 => k_asm); (case B_q93 => k_asm); (case X_q93 => k_asm); (case T_q93 => k_asm); (case K_q93 => first | exact rfl | assumption); (case d_q93 => k_room); (case u_q93 => ktr_units); (case hx_q93 => assumption); (case N_q93 => k_asm)); intro h' tk' F' N'; (try dsimp only at N'); (try k_sweep); walk_say "is_plain_alnum_use")); exact trivial
example : True := by (k_with "call ref" => (k_here; k_dflt (refine' is_plain_nil_spec ?B_q94 ?F_q94 ?X_q94 ?T_q94 ?K_q94 ?d_q94 ?u_q94 ?N_q94 ?_; (case F_q94 => k_asm); (case B_q94 => k_asm); (case X_q94 => k_asm); (case T_q94 => k_asm); (case K_q94 => first | exact rfl | assumption); (case d_q94 => k_room); (case u_q94 => ktr_units); (case N_q94 => k_asm)); intro h' tk' F' N'; (try dsimp only at N'); (try k_sweep); walk_say "is_plain_nil_spec")); exact trivial
example : True := by (k_with "call ref" => (k_here; k_dflt (refine' is_plain_two_spec ?B_q95 ?F_q95 ?X_q95 ?T_q95 ?K_q95 ?d_q95 ?u_q95 ?N_q95 ?_; (case F_q95 => k_asm); (case B_q95 => k_asm); (case X_q95 => k_asm); (case T_q95 => k_asm); (case K_q95 => first | exact rfl | assumption); (case d_q95 => k_room); (case u_q95 => ktr_units); (case N_q95 => k_asm)); intro h' tk' F' N'; (try dsimp only at N'); (try k_sweep); walk_say "is_plain_two_spec")); exact trivial
variable {b bd tx an fu fn : Addr} {t1 t2 t3 t4 : Tok} {oTx oAn oFu oFn : Obj} {xs : List Str} {fs : List (List Int)} {K : Nat} {rest0 led : List (Addr × Obj)}
theorem atom_text_spec {i : Nat} {x : Str} {u : Tok} (ok : OkName x) (B : Below A₀ base outer h₀) (F : Fr h₀ L s.heap m) (X : (Mine.kk.heap_1 w.params).In h₀) (T : Top p loose mean mg mb h₀) (hk : cs.kind = .function) (hd : dp + 16 < recursionLimit) (hu : un + 200 < cLine) (N : News h₀ L s.heap led) (R : BookR w rest b bd tx an fu fn t1 t2 t3 t4) (S : BookS PG w rest0 oTx oAn oFu oFn xs fs K) (hz : K ≤ 100000) (hs0 : ∀ p ∈ rest0, p ∈ led) (m1 : (tx, oTx) ∈ led) (hs : ∀ p ∈ rest, p ∈ led) (hx : xs[i]? = some x)
  (hret : ∀ t h' tk', Fr h₀ L h' m → News h₀ L h' led → Q (.str (spellB x) t) { s with heap := h', toks := tk' }) :
  wpAny (model PySem.Challenge.rw_ok0024_01.row.prog w) (ktrTop dp un gd cn cs L a ccd cl outer) (call (.ref 313) [.ref b, .int i u, .bool true]) Q E s := by
  have hb := hs _ R.hb
  have hbd := hs _ R.hbd
  rcases ok with h | rfl | rfl
  · revert X; k_fill; intro X
    refine wpAny_call ?_
    k_dflt k_enter
    (refine sq_A ?_; intro A9)
    k_steps
    all_goals (refine' ret_sN hret ?e ?f ?n ?s; (case f => k_asm); (case n => assumption); (case s => (intro _ hp; first | exact hp | exact List.mem_append_left _ hp | exact List.mem_cons_of_mem _ hp | (simp only [List.mem_append, List.mem_cons]; simp [hp]; done))); (case e => (refine Eq.symm ?_; first | exact spell_alnum (by assumption) | (simp [spellB]; done) | decide +kernel)))
  · revert X; k_fill; intro X
    refine wpAny_call ?_
    k_dflt k_enter
    (refine sq_A ?_; intro A9)
    k_steps
    all_goals (refine' ret_sN hret ?e ?f ?n ?s; (case f => k_asm); (case n => assumption); (case s => (intro _ hp; first | exact hp | exact List.mem_append_left _ hp | exact List.mem_cons_of_mem _ hp | (simp only [List.mem_append, List.mem_cons]; simp [hp]; done))); (case e => (refine Eq.symm ?_; first | exact spell_alnum (by assumption) | (simp [spellB]; done) | decide +kernel)))
  · revert X; k_fill; intro X
    refine wpAny_call ?_
    k_dflt k_enter
    (refine sq_A ?_; intro A9)
    k_steps
    all_goals (refine' ret_sN hret ?e ?f ?n ?s; (case f => k_asm); (case n => assumption); (case s => (intro _ hp; first | exact hp | exact List.mem_append_left _ hp | exact List.mem_cons_of_mem _ hp | (simp only [List.mem_append, List.mem_cons]; simp [hp]; done))); (case e => (refine Eq.symm ?_; first | exact spell_alnum (by assumption) | (simp [spellB]; done) | decide +kernel)))
example : True := by k_with_none; (k_with "x_k_room" => ((try simp (config := {zetaDelta := true}) only [depth_under_make, depth_under_kw, depth_in1, depth_deeper, depth_caller]); (try dsimp only [ktrTop]); (first | (refine' rm0 ?ha_q41; (case ha_q41 => assumption)) | (refine' rm1 ?ha_q41 ?hb_q41; (case ha_q41 => assumption); (case hb_q41 => exact rfl)) | (refine' rm2 ?ha_q41 ?hb_q41; (case ha_q41 => assumption); (case hb_q41 => exact rfl)) | (refine' rm3 ?ha_q41 ?hb_q41; (case ha_q41 => assumption); (case hb_q41 => exact rfl)) | (refine' rm4 ?ha_q41 ?hb_q41; (case ha_q41 => assumption); (case hb_q41 => exact rfl)) | omega))); (k_with "x_ktr_units" => ((try simp (config := {zetaDelta := true}) only [units_under_make, units_in1, units_deeper, Around.mark_units, units_caller]); (try dsimp only [ktrTop]); (first | (refine' rm0 ?ha_q42; (case ha_q42 => assumption)) | (refine' rm1 ?ha_q42 ?hb_q42; (case ha_q42 => assumption); (case hb_q42 => exact rfl)) | (refine' rm2 ?ha_q42 ?hb_q42; (case ha_q42 => assumption); (case hb_q42 => exact rfl)) | (refine' rm3 ?ha_q42 ?hb_q42; (case ha_q42 => assumption); (case hb_q42 => exact rfl)) | (refine' rm4 ?ha_q42 ?hb_q42; (case ha_q42 => assumption); (case hb_q42 => exact rfl)) | omega))); (k_with "execs cons" => (k_here; (with_reducible refine sq_tok ?_); intro tk')); (k_with "subscriptTail Name Constant ref int" => (k_here; (with_reducible show wpAny _ _ (subscriptTail _ _ (Value.ref _) (Value.int _ _)) _ _ _); k_dflt (first | (refine' item_tupleT ?t_q44 ?a_q44 ?b_q44 ?c_q44 ?d_q44 ?_; (case t_q44 => (refine' News.isTup ?t1_q44 ?t2_q44; (case t1_q44 => k_asm); (case t2_q44 => k_mem))); (case a_q44 => decide); (case b_q44 => decide); (case c_q44 => rfl); (case d_q44 => rfl); k_whole) | (refine' c_item_lit ?N_q44 ?m_q44 ?a2_q44 ?b2_q44 ?d2_q44 ?_; (case N_q44 => k_asm); (case m_q44 => k_mem); (case a2_q44 => decide); (case b2_q44 => decide); (case d2_q44 => rfl); k_whole)))); (k_with "eval Call Name" => (k_here; with_unfolding_all refine Call_ ?_)); (k_with "x_k_all" => first | assumption | exact List.forall_mem_nil _ | (refine' List.forall_mem_append.mpr ⟨?_, ?_⟩; (focus k_all); k_all) | (refine' List.forall_mem_cons.mpr ⟨?_, ?_⟩; (focus k_ne); k_all) | exact allNeP (by assumption) | (refine' Above.off ?hA_q46 ?hM_q46; (case hA_q46 => assumption); (case hM_q46 => k_mem)) | (refine' alt_all ?lh_q46 ?ls_q46; (case lh_q46 => assumption); (case ls_q46 => k_allIn)) | exact allNe0 (by assumption) | exact allNe1 (by assumption) | exact allNe2 (by assumption) | exact allNe3 (by assumption) | exact allNe4 (by assumption) | exact allNe5 (by assumption) | exact allNe6 (by assumption)); (k_with "x_k_ne" => first | assumption | (refine' alt_ne1 ?lh_q47 ?lm_q47; (case lh_q47 => assumption); (case lm_q47 => k_mem)) | (refine' alt_ne2 ?lh_q47 ?lm_q47; (case lh_q47 => assumption); (case lm_q47 => k_mem)) | (refine' alt_ne3 ?lx_q47 ?lh_q47 ?lm_q47; (case lx_q47 => assumption); (case lh_q47 => assumption); (case lm_q47 => k_mem)) | (refine' alt_ne4 ?lx_q47 ?lh_q47 ?lm_q47; (case lx_q47 => assumption); (case lh_q47 => assumption); (case lm_q47 => k_mem)) | (refine' Ne.symm ?_; assumption) | (refine neN ?_; refine' Ne.symm ?_; assumption) | (refine neN ?_; (try dsimp only); omega) | (refine' news_ne_cls ?nN_q47 ?n1_q47 ?n2_q47 ?n3_q47; (case nN_q47 => assumption); (case n1_q47 => k_mem); (case n2_q47 => k_mem); (case n3_q47 => (intro e9; exact absurd (Value.type.inj e9) (by decide)))) | (refine neN ?_; (try dsimp only); (simp only [List.forall_mem_cons] at *); omega)); (k_with "x_k_mem" => first | assumption | exact List.mem_cons_self | (refine' List.mem_cons_of_mem _ ?_; k_mem) | (refine' List.mem_append_left _ ?_; k_mem) | (refine' List.mem_append_right _ ?_; k_mem)); (k_with "x_k_upd" => first | exact Pull.head | (refine' Pull.tail ?b_q49; (case b_q49 => k_upd)) | (refine' Pull.under _ ?b_q49; (case b_q49 => k_upd))); (k_with "x_k_allIn" => first | assumption | (intro p9 h9; k_mem) | (refine' List.forall_mem_append.mpr ⟨?_, ?_⟩; (focus k_allIn); k_allIn) | exact List.forall_mem_nil _ | exact sub_l (by assumption)); (k_with "x_k_enter" => first | ktr_enter | (refine' code_def ?k1_q51 ?k2_q51 ?k3_q51 ?k4_q51 ?k5_q51 ?kA_q51 ?kF_q51 ?kK_q51 ?k6_q51 ?k7_q51 ?k8_q51 ?k9_q51 ?kB_q51 ?_ ?c2_q51 ?c3_q51 ?c4_q51 ?c5_q51; (case kA_q51 => exact rfl); (case kF_q51 => exact rfl); (case kK_q51 => first | exact rfl | assumption); (case k1_q51 => k_asm); (case k2_q51 => k_asm); (case k3_q51 => k_asm); (case k4_q51 => k_asm); (case k5_q51 => k_asm); (case k6_q51 => k_is); (case k7_q51 => k_is); (case k8_q51 => ktr_room); (case k9_q51 => exact binds_K (by k_in) rfl (by k_is) rfl rfl rfl); (case c5_q51 => decide); (case kB_q51 => exact locs rfl); (case c2_q51 => exact rfl); (case c3_q51 => exact rfl); (case c4_q51 => exact rfl); k_whole; intro g' L' h' FG' F' N' B' X' T'; (try dsimp only); (try k_fold))); exact trivial
end
end
section
section
variable {prog : Program} {w : World} {A : Around} {E : Value → Shared → Prop} {s : Shared} {env : Env} {h₀ : Heap} {x : Str} {body : List Stmt} {Q : Flow → Shared → Prop}
noncomputable def RevJ (x : Str) (vs its : List Value) (wk : Addr) (m₀ : Str → Option Value) (rest : List (Addr × Obj)) (i : Nat) (m : Str → Option Value) (nx : List (Addr × Obj)) : Prop := ∃ n, nx = (wk, listOf (its ++ vs.reverse.take i).toArray n) :: rest ∧ ∀ z, z ≠ x → m z = m₀ z
theorem iter_rev_acc {ax I wk : Addr} {vs its : List Value} {n n2 : Nat} {m₀ : Str → Option Value} {rest : List (Addr × Obj)}
    (hh : A.handled = none) (F : Fr h₀ env.locals s.heap m₀) (N : News h₀ env.locals s.heap ((I, revObj ax ((vs.length : Int) - 1)) :: (wk, listOf its.toArray n) :: (ax, listOf vs.toArray n2) :: rest)) (h1 : @Ne Nat ax I) (h2 : @Ne Nat wk I) (h3 : @Ne Nat wk ax) (o1 : ∀ p ∈ rest, p.1 ≠ I) (o2 : ∀ p ∈ rest, p.1 ≠ ax) (hz : its.length + vs.length ≤ 100000)
    (turn : ∀ i v its' n own h tk, vs.reverse[i]? = some v → its' = its ++ vs.reverse.take i → its'.length ≤ 100000 → (∀ p ∈ own, p.1 ≠ wk) → TbOff own rest → Fr h₀ env.locals h (fun y => if y = x then some v else m₀ y) → News h₀ env.locals h ((wk, listOf its'.toArray n) :: (rest ++ own)) →
      wpAny (model prog w) A (execs body env) (TbPost h₀ env.locals (RevJ x vs its wk m₀ rest (i + 1)) own { s with heap := h, toks := tk } Q) E { s with heap := h, toks := tk })
    (done : ∀ (u : Str → Option Value) n h tk, Fr h₀ env.locals h (fun y => if y = x then u y else m₀ y) → News h₀ env.locals h ((wk, listOf (its ++ vs.reverse).toArray n) :: rest) → Q .next { s with heap := h, toks := tk }) :
    wpAny (model prog w) A (pyIter (.ref I)) (fun it s₂ => LoopAtV prog w A h₀ env x body Q E it s₂) E s := by
  have hIx := N _ (List.mem_cons_self ..)
  have hax := N (ax, listOf vs.toArray n2) (by simp)
  have hl : s.heap.IsList ax vs.toArray := ⟨_, hax.1, rfl, n2, rfl⟩
  have hit : s.heap.IsRevIter I ax ((vs.length : Int) - 1) := ⟨_, hIx.1, rfl, rfl⟩
  refine wpAny_pyIter_revIter hit ?_
  have W := Walks.listRev (prog := prog) (w := w) hh I ax h1 vs.toArray
  have hlen : vs.toArray.size = vs.length := by simp
  rw [hlen] at W
  have hoff : ∀ p ∈ (wk, listOf its.toArray n) :: rest, p.1 ≠ I ∧ p.1 ≠ ax := by
    intro p hp
    rcases List.mem_cons.mp hp with rfl | hp
    · exact ⟨h2, h3⟩
    · exact ⟨o1 p hp, o2 p hp⟩
  refine ⟨I, _, _, vs.length, _, _, m₀, (wk, listOf its.toArray n) :: rest, (fun i m nx => RevJ x vs its wk m₀ rest i m nx), rfl, W, ?_, ?_, ?_, ⟨Nat.zero_le _, ?_, hl⟩, F, ?_, ⟨n, by simp, fun _ _ => rfl⟩, ?_, ?_⟩
  · intro hmm
    rcases List.mem_cons.mp hmm with e | hmm
    · exact hIx.2.1 e.symm
    · exact hax.2.1 (List.mem_singleton.mp hmm).symm
  · intro b hb
    rw [List.mem_singleton.mp hb]
    exact hIx.2.2
  · intro p hp hI
    exact (hoff p hp).1 (List.mem_singleton.mp hI)
  · have e : (vs.length : Int) - 1 - ((0 : Nat) : Int) = (vs.length : Int) - 1 := by omega
    rw [e]
    exact hit
  · intro p hp
    refine N p ?_
    rcases List.mem_cons.mp hp with rfl | hp
    · simp
    · simp [hp]
  · rintro i v m₁ news₁ s₁ own ⟨hh', tk', rfl⟩ hin hP ⟨n', rfl, hm⟩ hofs hown hget hall hst F₁ N₁
    have e : (fun y => if y = x then some v else m₁ y) = fun y => if y = x then some v else m₀ y := by
      funext y; by_cases h1 : y = x
      · simp [h1]
      · simp [h1, hm y h1]
    rw [e] at F₁
    have hown' : ∀ p ∈ own, p.1 = I ∨ p.1 = ax := fun p hp => by
      rcases List.mem_cons.mp (hown p hp) with h | h
      · exact Or.inl h
      · exact Or.inr (List.mem_singleton.mp h)
    have hv : vs.reverse[i]? = some v := by
      rw [List.getElem?_reverse hin]
      simpa using hP
    have hw1 : ∀ p ∈ own, p.1 ≠ wk := fun p hp e => by
      rcases hown' p hp with h | h
      · exact h2 (e.symm.trans h)
      · exact h3 (e.symm.trans h)
    have hsep : TbOff own rest := fun p hp q hq e => by
      rcases hown' p hp with h | h
      · exact o1 q hq (e.symm.trans h)
      · exact o2 q hq (e.symm.trans h)
    have N₂ : News h₀ env.locals hh' ((wk, listOf (its ++ vs.reverse.take i).toArray n') :: (rest ++ own)) := fun p hp => N₁ p (by
      simp only [List.mem_cons, List.mem_append] at hp ⊢
      rcases hp with h | h | h <;> simp [h])
    have hle : (its ++ vs.reverse.take i).length ≤ 100000 := by
      rw [List.length_append]
      have := List.length_take_le' i vs.reverse
      rw [List.length_reverse] at this
      omega
    have hI : ∀ o, hh'.get? I = some o → (I, o) ∈ own := fun o ho => hall I (by simp) hIx.2.2 o ho
    have hA : ∀ o, hh'.get? ax = some o → (ax, o) ∈ own := fun o ho => hall ax (by simp) hax.2.2 o ho
    refine wpAny_mono (turn i v _ n' own hh' tk' hv rfl hle hw1 hsep F₁ N₂) (fun f s₂ p => ?_) fun _ _ e => e
    obtain ⟨⟨_, ⟨oi, hoi, _⟩, _⟩⟩ := And.intro hst trivial
    have fin : TbEnd h₀ env.locals (RevJ x vs its wk m₀ rest (i + 1)) own { s with heap := hh', toks := tk' } s₂ → LoopStepU h₀ env.locals [I] own (RevJ x vs its wk m₀ rest (i + 1)) { s with heap := hh', toks := tk' } .next s₂ := by
      rintro ⟨h', tk, m', news', nx, e, F', N', hn, ho, ha, hm⟩
      exact ⟨rfl, h', tk, m', nx, e, F', fun p hp => N' p ((List.mem_append.mp hp).elim (ho p) (hn p)), fun p hp hq => ha _ (hI _ hoi) p hp (List.mem_singleton.mp hq).symm, hm⟩
    cases f with
    | ret v => exact .ret p
    | brk => exact .brk p
    | next => exact .next (fin p)
    | cont => exact .cont (fin p)
  · rintro h' tk m' news' F' N' _ ⟨n', rfl, hm⟩
    have e : m' = fun y => if y = x then m' y else m₀ y := by
      funext y; by_cases h1 : y = x
      · simp [h1]
      · simp [h1, hm y h1]
    rw [e] at F'
    rw [show vs.reverse.take vs.length = vs.reverse from by rw [← List.length_reverse, List.take_length]] at N'
    exact done m' n' h' tk F' N'
theorem revJ_end {L wk : Addr} {vs its its' : List Value} {i n : Nat} {v : Value} {m₀ m' : Str → Option Value} {own news' rest : List (Addr × Obj)} {s₁ : Shared} {h' : Heap} {tk : Nat} (hv : vs.reverse[i]? = some v) (e : its' = its ++ vs.reverse.take i) (hw : ∀ p ∈ own, p.1 ≠ wk) (hsep : TbOff own rest) (F : Fr h₀ L h' m') (N : News h₀ L h' ((wk, listOf (its'.toArray.push v) n) :: news')) (hs : ∀ p ∈ rest ++ own, p ∈ news') (hm : ∀ z, z ≠ x → m' z = m₀ z) :
    TbEnd h₀ L (RevJ x vs its wk m₀ rest (i + 1)) own s₁ { s₁ with heap := h', toks := tk } := by
  subst e
  refine ⟨h', tk, m', _, (wk, listOf (its ++ vs.reverse.take (i + 1)).toArray n) :: rest, rfl, F, N, ?_, ?_, ?_, ⟨n, rfl, hm⟩⟩
  · intro p hp
    rcases List.mem_cons.mp hp with rfl | hp
    · rw [List.take_add_one, hv, ← List.append_assoc, List.push_toArray]; exact .head _
    · exact .tail _ (hs p (List.mem_append_left _ hp))
  · exact fun p hp => .tail _ (hs p (List.mem_append_right _ hp))
  · intro p hp q hq
    rcases List.mem_cons.mp hq with rfl | hq
    · exact hw p hp
    · exact hsep p hp q hq
end
section
example : True := by (k_with "exec For Name Call cons nil" => (k_here; (rename Fr _ _ _ _ => lF'); (with_unfolding_all refine' For_invVF lF' ?k1_q96 ?k2_q96 ?_; (case k1_q96 => exact rfl); (case k2_q96 => exact rfl); k_whole))); exact trivial
example : True := by (k_with "pyIter ref" => (k_here; (with_reducible show wpAny _ _ (pyIter (Value.ref _)) (fun it s₂ => LoopAtV _ _ _ _ _ _ _ _ _ it s₂) _ _); (rename Fr _ _ _ _ => lF'); (rename News _ _ _ _ => lN'); (with_unfolding_all refine' iter_rev_acc (by rfl) lF' lN' ?h1_q97 ?h2_q97 ?h3_q97 ?o1_q97 ?o2_q97 ?hz_q97 (fun i' v' its' n' own' h' tk' hv' he' hz' hw' hsep' F' N' => ?_) (fun u' n' h' tk' F' N' => ?_)); (case h1_q97 => k_ne); (case h2_q97 => k_ne); (case h3_q97 => k_ne); (case o1_q97 => k_all); (case o2_q97 => k_all); (case hz_q97 => assumption); (all_goals (try clear lF' lN')); (all_goals (try k_fold)))); exact trivial
example : True := by (k_with "TbPost" => (dsimp only [TbPost])); exact trivial
example : True := by (k_with "TbEnd" => (refine' revJ_end ?hv_q99 ?e_q99 ?w_q99 ?hsep_q99 ?F_q99 ?N_q99 ?s_q99 ?m_q99; (case hv_q99 => assumption); (case e_q99 => assumption); (case w_q99 => assumption); (case hsep_q99 => assumption); (case F_q99 => assumption); (case N_q99 => assumption); (case s_q99 => (intro _ hp; exact hp)); (case m_q99 => (intro z9 h9; first | exact if_neg h9 | simp [h9])))); exact trivial
variable {w : World} {p : Program} {loose : List Str} {mean : ExcName → Option Value} {mg mb : Str → Option Value} {dp un : Nat} {gd : Option (List Code)} {cn : Str} {cs : Scope} {a : Addr} {ccd : Value} {cl : List (Str × Addr)} {outer : List Env} {A₀ : Around} {base h₀ : Heap} {L : Addr} {m : Str → Option Value} {s : Shared} {Q E : Value → Shared → Prop} {news rest : List (Addr × Obj)}
variable {wa wd sy op nm tk ot wk rl : Addr} {k : Fin 11 → Tok} {lst : Str} {lt : Tok} {pf : Bool}
theorem later_spec {vs : List Value} {its : List Value} {n n2 : Nat} (B : Below A₀ base outer h₀) (F : Fr h₀ L s.heap m) (X : (Mine.kk.heap_1 w.params).In h₀) (T : Top p loose mean mg mb h₀) (hk : cs.kind = .function) (hd : dp + 6 < recursionLimit) (hu : un + 80 < cLine) (N : News h₀ L s.heap ((wk, listOf its.toArray n) :: (rl, listOf vs.toArray n2) :: rest)) (hw : (wa, instObj 472 wd) ∈ rest) (hwd : (wd, wrD w k sy op nm tk ot wk lst lt pf) ∈ rest) (hne : @Ne Nat wk rl) (o1 : ∀ p ∈ rest, p.1 ≠ wk) (o2 : ∀ p ∈ rest, p.1 ≠ rl) (hz : its.length + vs.length ≤ 100000)
  (hret : ∀ h' tk' n', Fr h₀ L h' m → News h₀ L h' ((wk, listOf (its ++ vs.reverse).toArray n') :: rest) → Q .none { s with heap := h', toks := tk' }) :
  wpAny (model PySem.Challenge.rw_ok0024_01.row.prog w) (ktrTop dp un gd cn cs L a ccd cl outer) (call (.ref 385) [.ref wa, .ref rl]) Q E s := by
  revert X; k_fill; intro X
  refine wpAny_call ?_
  k_dflt k_enter
  (refine sq_A ?_; intro A9)
  k_steps
  all_goals (refine' hret _ _ _ ?F ?N; (case F => k_asm); (case N => k_asm))
example : True := by k_with_none; (k_with "x_k_room" => ((try simp (config := {zetaDelta := true}) only [depth_under_make, depth_under_kw, depth_in1, depth_deeper, depth_caller]); (try dsimp only [ktrTop]); (first | (refine' rm0 ?ha_q41; (case ha_q41 => assumption)) | (refine' rm1 ?ha_q41 ?hb_q41; (case ha_q41 => assumption); (case hb_q41 => exact rfl)) | (refine' rm2 ?ha_q41 ?hb_q41; (case ha_q41 => assumption); (case hb_q41 => exact rfl)) | (refine' rm3 ?ha_q41 ?hb_q41; (case ha_q41 => assumption); (case hb_q41 => exact rfl)) | (refine' rm4 ?ha_q41 ?hb_q41; (case ha_q41 => assumption); (case hb_q41 => exact rfl)) | omega))); (k_with "x_ktr_units" => ((try simp (config := {zetaDelta := true}) only [units_under_make, units_in1, units_deeper, Around.mark_units, units_caller]); (try dsimp only [ktrTop]); (first | (refine' rm0 ?ha_q42; (case ha_q42 => assumption)) | (refine' rm1 ?ha_q42 ?hb_q42; (case ha_q42 => assumption); (case hb_q42 => exact rfl)) | (refine' rm2 ?ha_q42 ?hb_q42; (case ha_q42 => assumption); (case hb_q42 => exact rfl)) | (refine' rm3 ?ha_q42 ?hb_q42; (case ha_q42 => assumption); (case hb_q42 => exact rfl)) | (refine' rm4 ?ha_q42 ?hb_q42; (case ha_q42 => assumption); (case hb_q42 => exact rfl)) | omega))); (k_with "execs cons" => (k_here; (with_reducible refine sq_tok ?_); intro tk')); (k_with "subscriptTail Name Constant ref int" => (k_here; (with_reducible show wpAny _ _ (subscriptTail _ _ (Value.ref _) (Value.int _ _)) _ _ _); k_dflt (first | (refine' item_tupleT ?t_q44 ?a_q44 ?b_q44 ?c_q44 ?d_q44 ?_; (case t_q44 => (refine' News.isTup ?t1_q44 ?t2_q44; (case t1_q44 => k_asm); (case t2_q44 => k_mem))); (case a_q44 => decide); (case b_q44 => decide); (case c_q44 => rfl); (case d_q44 => rfl); k_whole) | (refine' c_item_lit ?N_q44 ?m_q44 ?a2_q44 ?b2_q44 ?d2_q44 ?_; (case N_q44 => k_asm); (case m_q44 => k_mem); (case a2_q44 => decide); (case b2_q44 => decide); (case d2_q44 => rfl); k_whole)))); (k_with "eval Call Name" => (k_here; with_unfolding_all refine Call_ ?_)); (k_with "x_k_all" => first | assumption | exact List.forall_mem_nil _ | (refine' List.forall_mem_append.mpr ⟨?_, ?_⟩; (focus k_all); k_all) | (refine' List.forall_mem_cons.mpr ⟨?_, ?_⟩; (focus k_ne); k_all) | exact allNeP (by assumption) | (refine' Above.off ?hA_q46 ?hM_q46; (case hA_q46 => assumption); (case hM_q46 => k_mem)) | (refine' alt_all ?lh_q46 ?ls_q46; (case lh_q46 => assumption); (case ls_q46 => k_allIn)) | exact allNe0 (by assumption) | exact allNe1 (by assumption) | exact allNe2 (by assumption) | exact allNe3 (by assumption) | exact allNe4 (by assumption) | exact allNe5 (by assumption) | exact allNe6 (by assumption)); (k_with "x_k_ne" => first | assumption | (refine' alt_ne1 ?lh_q47 ?lm_q47; (case lh_q47 => assumption); (case lm_q47 => k_mem)) | (refine' alt_ne2 ?lh_q47 ?lm_q47; (case lh_q47 => assumption); (case lm_q47 => k_mem)) | (refine' alt_ne3 ?lx_q47 ?lh_q47 ?lm_q47; (case lx_q47 => assumption); (case lh_q47 => assumption); (case lm_q47 => k_mem)) | (refine' alt_ne4 ?lx_q47 ?lh_q47 ?lm_q47; (case lx_q47 => assumption); (case lh_q47 => assumption); (case lm_q47 => k_mem)) | (refine' Ne.symm ?_; assumption) | (refine neN ?_; refine' Ne.symm ?_; assumption) | (refine neN ?_; (try dsimp only); omega) | (refine' news_ne_cls ?nN_q47 ?n1_q47 ?n2_q47 ?n3_q47; (case nN_q47 => assumption); (case n1_q47 => k_mem); (case n2_q47 => k_mem); (case n3_q47 => (intro e9; exact absurd (Value.type.inj e9) (by decide)))) | (refine neN ?_; (try dsimp only); (simp only [List.forall_mem_cons] at *); omega)); (k_with "x_k_mem" => first | assumption | exact List.mem_cons_self | (refine' List.mem_cons_of_mem _ ?_; k_mem) | (refine' List.mem_append_left _ ?_; k_mem) | (refine' List.mem_append_right _ ?_; k_mem)); (k_with "x_k_upd" => first | exact Pull.head | (refine' Pull.tail ?b_q49; (case b_q49 => k_upd)) | (refine' Pull.under _ ?b_q49; (case b_q49 => k_upd))); (k_with "x_k_allIn" => first | assumption | (intro p9 h9; k_mem) | (refine' List.forall_mem_append.mpr ⟨?_, ?_⟩; (focus k_allIn); k_allIn) | exact List.forall_mem_nil _ | exact sub_l (by assumption)); (k_with "x_k_enter" => first | ktr_enter | (refine' code_def ?k1_q51 ?k2_q51 ?k3_q51 ?k4_q51 ?k5_q51 ?kA_q51 ?kF_q51 ?kK_q51 ?k6_q51 ?k7_q51 ?k8_q51 ?k9_q51 ?kB_q51 ?_ ?c2_q51 ?c3_q51 ?c4_q51 ?c5_q51; (case kA_q51 => exact rfl); (case kF_q51 => exact rfl); (case kK_q51 => first | exact rfl | assumption); (case k1_q51 => k_asm); (case k2_q51 => k_asm); (case k3_q51 => k_asm); (case k4_q51 => k_asm); (case k5_q51 => k_asm); (case k6_q51 => k_is); (case k7_q51 => k_is); (case k8_q51 => ktr_room); (case k9_q51 => exact binds_K (by k_in) rfl (by k_is) rfl rfl rfl); (case c5_q51 => decide); (case kB_q51 => exact locs rfl); (case c2_q51 => exact rfl); (case c3_q51 => exact rfl); (case c4_q51 => exact rfl); k_whole; intro g' L' h' FG' F' N' B' X' T'; (try dsimp only); (try k_fold))); exact trivial
end
end
section
section
variable {w : World} {p : Program} {loose : List Str} {mean : ExcName → Option Value} {mg mb : Str → Option Value} {dp un : Nat} {gd : Option (List Code)} {cn : Str} {cs : Scope} {a : Addr} {ccd : Value} {cl : List (Str × Addr)} {outer : List Env} {A₀ : Around} {base h₀ : Heap} {L : Addr} {m : Str → Option Value} {s : Shared} {Q E : Value → Shared → Prop} {news rest : List (Addr × Obj)}
variable {wa wd sy op nm tk ot wk : Addr} {k : Fin 11 → Tok} {lst : Str} {lt : Tok} {pf : Bool} {led r1 : List (Addr × Obj)}
variable {b bd tx an fu fn : Addr} {t1 t2 t3 t4 : Tok} {oTx oAn oFu oFn : Obj} {xs : List Str} {fs : List (List Int)} {K : Nat} {rest0 : List (Addr × Obj)}
theorem atom_text_use {i : Nat} {x : Str} {u : Tok} (B : Below A₀ base outer h₀) (F : Fr h₀ L s.heap m) (X : (Mine.kk.heap_1 w.params).In h₀) (T : Top p loose mean mg mb h₀) (hk : cs.kind = .function) (hd : dp + 16 < recursionLimit) (hu : un + 200 < cLine) (ok : OkName x) (N : News h₀ L s.heap led) (R : BookR w rest b bd tx an fu fn t1 t2 t3 t4) (S : BookS PG w rest0 oTx oAn oFu oFn xs fs K) (hz : K ≤ 100000) (hs0 : ∀ p ∈ rest0, p ∈ led) (m1 : (tx, oTx) ∈ led) (hs : ∀ p ∈ rest, p ∈ led) (hx : xs[i]? = some x)
  (hret : ∀ t h' tk', Fr h₀ L h' m → News h₀ L h' led → Q (.str (spellB x) t) { s with heap := h', toks := tk' }) :
  wpAny (model PySem.Challenge.rw_ok0024_01.row.prog w) (ktrTop dp un gd cn cs L a ccd cl outer) (call (.ref 313) [.ref b, .int i u, .bool true]) Q E s := atom_text_spec ok B F X T hk hd hu N R S hz hs0 m1 hs hx hret
theorem token_use {x : Str} {t : Tok} {outs : List Value} {n : Nat} (hl : lst = Str.ofString "" ∨ lst = Str.ofString "(") (hx : (x != Str.ofString "") = true) (hxp : 0 < x.length) (hxl : x.length ≤ 100000) (B : Below A₀ base outer h₀) (F : Fr h₀ L s.heap m) (X : (Mine.kk.heap_1 w.params).In h₀) (T : Top p loose mean mg mb h₀) (hk : cs.kind = .function) (hd : dp + 12 < recursionLimit) (hu : un + 160 < cLine) (N : News h₀ L s.heap led) (_h1 : (wa, instObj 472 wd) ∈ led) (_h2 : (wd, wrD w k sy op nm tk ot wk lst lt false) ∈ led) (P1 : Pull wd (wrD w k sy op nm tk ot wk lst lt false) led r1) (P2 : Pull ot (listOf outs.toArray n) r1 rest) (hw : (wa, instObj 472 wd) ∈ rest) (o1 : ∀ p ∈ rest, p.1 ≠ wd) (o2 : ∀ p ∈ rest, p.1 ≠ ot) (hne : @Ne Nat wd ot) (hz : outs.length ≤ 100000)
  (hret : ∀ h' tk' lt', Fr h₀ L h' m → News h₀ L h' ((wd, wrD w k sy op nm tk ot wk (Txt.item x ((x.length : Int) - 1)) lt' false) :: (ot, listOf (outs ++ [Value.str x t]).toArray (n + 1)) :: rest) → Q .none { s with heap := h', toks := tk' }) :
  wpAny (model PySem.Challenge.rw_ok0024_01.row.prog w) (ktrTop dp un gd cn cs L a ccd cl outer) (call (.ref 371) [.ref wa, .str x t]) Q E s := token_spec hl hx hxp B F X T hk hd hu (P2.news (pre := [(wd, wrD w k sy op nm tk ot wk lst lt false)]) (P1.news (pre := []) N)) hw o1 o2 hne hz hxl hret
theorem raw_use {x : Str} {t : Tok} {outs : List Value} {n : Nat} (hx : (x != Str.ofString "") = true) (hxp : 0 < x.length) (hxl : x.length ≤ 100000) (B : Below A₀ base outer h₀) (F : Fr h₀ L s.heap m) (X : (Mine.kk.heap_1 w.params).In h₀) (T : Top p loose mean mg mb h₀) (hk : cs.kind = .function) (hd : dp + 6 < recursionLimit) (hu : un + 80 < cLine) (N : News h₀ L s.heap led) (_h1 : (wa, instObj 472 wd) ∈ led) (_h2 : (wd, wrD w k sy op nm tk ot wk lst lt pf) ∈ led) (P1 : Pull wd (wrD w k sy op nm tk ot wk lst lt pf) led r1) (P2 : Pull ot (listOf outs.toArray n) r1 rest) (hw : (wa, instObj 472 wd) ∈ rest) (o1 : ∀ p ∈ rest, p.1 ≠ wd) (o2 : ∀ p ∈ rest, p.1 ≠ ot) (hne : @Ne Nat wd ot) (hz : outs.length ≤ 100000)
  (hret : ∀ h' tk' lt', Fr h₀ L h' m → News h₀ L h' ((wd, wrD w k sy op nm tk ot wk (Txt.item x ((x.length : Int) - 1)) lt' false) :: (ot, listOf (outs ++ [Value.str x t]).toArray (n + 1)) :: rest) → Q .none { s with heap := h', toks := tk' }) :
  wpAny (model PySem.Challenge.rw_ok0024_01.row.prog w) (ktrTop dp un gd cn cs L a ccd cl outer) (call (.ref 364) [.ref wa, .str x t]) Q E s := raw_spec hx hxp B F X T hk hd hu (P2.news (pre := [(wd, wrD w k sy op nm tk ot wk lst lt pf)]) (P1.news (pre := []) N)) hw o1 o2 hne hz hxl hret
theorem len_va {its : List Value} {va : Array Value} (hz : its.length ≤ 90000) (hv : va.size ≤ 1000) : its.length + va.toList.length ≤ 100000 := by
  rw [show va.toList.length = va.size from Array.length_toList]; omega
theorem later_use {va : Array Value} {its : List Value} {n n2 : Nat} {rl : Addr} (B : Below A₀ base outer h₀) (F : Fr h₀ L s.heap m) (X : (Mine.kk.heap_1 w.params).In h₀) (T : Top p loose mean mg mb h₀) (hk : cs.kind = .function) (hd : dp + 6 < recursionLimit) (hu : un + 80 < cLine) (N : News h₀ L s.heap led) (_h1 : (wa, instObj 472 wd) ∈ led) (_h2 : (wd, wrD w k sy op nm tk ot wk lst lt pf) ∈ led) (P1 : Pull wk (listOf its.toArray n) led r1) (P2 : Pull rl (listOf va n2) r1 rest) (hw : (wa, instObj 472 wd) ∈ rest) (hwd : (wd, wrD w k sy op nm tk ot wk lst lt pf) ∈ rest) (o1 : ∀ p ∈ rest, p.1 ≠ wk) (o2 : ∀ p ∈ rest, p.1 ≠ rl) (hne : @Ne Nat wk rl) (hz : its.length ≤ 90000) (hv : va.size ≤ 1000)
  (hret : ∀ h' tk' n', Fr h₀ L h' m → News h₀ L h' ((wk, listOf (its ++ va.toList.reverse).toArray n') :: rest) → Q .none { s with heap := h', toks := tk' }) :
  wpAny (model PySem.Challenge.rw_ok0024_01.row.prog w) (ktrTop dp un gd cn cs L a ccd cl outer) (call (.ref 385) [.ref wa, .ref rl]) Q E s := later_spec (vs := va.toList) B F X T hk hd hu (P2.news (pre := [(wk, listOf its.toArray n)]) (P1.news (pre := []) N)) hw hwd hne o1 o2 (len_va hz hv) hret
end
section
variable {prog : Program} {w : World} {A : Around} {E : Value → Shared → Prop} {s : Shared} {env : Env} {h₀ : Heap} {x : Str} {body : List Stmt} {Q : Flow → Shared → Prop}
noncomputable def TupRest (prog : Program) (w : World) (A : Around) (E : Value → Shared → Prop) (h₀ : Heap) (env : Env) (x : Str) (body : List Stmt) (Q : Flow → Shared → Prop) (s : Shared) (I : Addr) (lp : Addr × Obj) : List Value → (Str → Option Value) → List (Addr × Obj) → Prop
  | [], m, nx => ∀ h tk, Fr h₀ env.locals h m → News h₀ env.locals h nx → Q .next { s with heap := h, toks := tk }
  | v :: r, m, nx => ∀ (it : Obj) h tk, Fr h₀ env.locals h (fun y => if y = x then some v else m y) → News h₀ env.locals h ((I, it) :: nx) →
      wpAny (model prog w) A (execs body env) (UnrPost h₀ env.locals { s with heap := h, toks := tk } I it (fun m' n' => lp ∈ n' ∧ TupRest prog w A E h₀ env x body Q s I lp r m' n') Q) E { s with heap := h, toks := tk }
theorem TupRest.none {I : Addr} {lp : Addr × Obj} {m : Str → Option Value} {nx : List (Addr × Obj)} (h : ∀ h tk, Fr h₀ env.locals h m → News h₀ env.locals h nx → Q .next { s with heap := h, toks := tk }) : TupRest prog w A E h₀ env x body Q s I lp [] m nx := h
theorem TupRest.more {I : Addr} {lp : Addr × Obj} {v : Value} {r : List Value} {m : Str → Option Value} {nx : List (Addr × Obj)} (h : ∀ (it : Obj) h tk, Fr h₀ env.locals h (fun y => if y = x then some v else m y) → News h₀ env.locals h ((I, it) :: nx) →
      wpAny (model prog w) A (execs body env) (UnrPost h₀ env.locals { s with heap := h, toks := tk } I it (fun m' n' => lp ∈ n' ∧ TupRest prog w A E h₀ env x body Q s I lp r m' n') Q) E { s with heap := h, toks := tk }) : TupRest prog w A E h₀ env x body Q s I lp (v :: r) m nx := h
theorem iter_tupAll {ta : Addr} {items : List Value} {c : Nat} {m₀ : Str → Option Value} {news : List (Addr × Obj)} (hh : A.handled = none) (F : Fr h₀ env.locals s.heap m₀) (N : News h₀ env.locals s.heap news) (hta : (ta, tupO items c) ∈ news)
    (rest : ∀ I : Addr, (∀ p ∈ news, p.1 < I) → TupRest prog w A E h₀ env x body Q s I (ta, tupO items c) items m₀ news) :
    wpAny (model prog w) A (pyIter (.ref ta)) (fun it s₂ => LoopAtV prog w A h₀ env x body Q E it s₂) E s := by
  have hls : s.heap.IsTuple ta items.toArray := ⟨_, (N _ hta).1, rfl, c, rfl⟩
  have hne : ta ≠ s.heap.objs.size := Nat.ne_of_lt (Heap.lt_size (N _ hta).1)
  refine wpAny_pyIter_tuple hls ?_
  have W := Walks.tuple (prog := prog) (w := w) hh s.heap.objs.size ta hne items.toArray
  rw [show items.toArray.size = items.length by simp] at W
  have hr := rest s.heap.objs.size fun p hp => Heap.lt_size (N p hp).1
  refine ⟨_, _, _, items.length, _, _, m₀, news, (fun i m nx => (ta, tupO items c) ∈ nx ∧ TupRest prog w A E h₀ env x body Q s s.heap.objs.size (ta, tupO items c) (items.drop i) m nx), rfl, W, ?_, ?_, ?_, ⟨⟨_, Heap.get?_push_size _ rfl, rfl, rfl⟩, hls.at fun o e => Heap.get?_push_of_some _ e⟩, F.push _, (fun p hp => ⟨Heap.get?_push_of_some _ (N p hp).1, (N p hp).2⟩), ⟨hta, by rw [List.drop_zero]; exact hr⟩, ?_, ?_⟩
  · intro hm
    rcases List.mem_cons.mp hm with e | hm
    · exact absurd F.ns.lt (e ▸ Nat.lt_irrefl _)
    · exact (N _ hta).2.1 (List.mem_singleton.mp hm).symm
  · intro b hb
    rw [List.mem_singleton.mp hb]
    exact next_is_new F
  · intro p hp hI
    exact absurd (Heap.lt_size (N p hp).1) ((List.mem_singleton.mp hI) ▸ Nat.lt_irrefl _)
  · rintro i v m₁ nx s₁ own ⟨hh', tk', rfl⟩ hin hP ⟨hm₁, hJ⟩ hofs hown hget hall hst F₁ N₁
    obtain ⟨⟨it, hit, _⟩, _⟩ := hst
    have hI := hall _ (.head _) (next_is_new F) it hit
    have hv : items[i]? = some v := by simpa using hP
    have hd : items.drop i = v :: items.drop (i + 1) := by
      rw [List.drop_eq_getElem_cons hin]
      rw [List.getElem?_eq_getElem hin] at hv
      rw [Option.some.inj hv]
    rw [hd] at hJ
    refine wpAny_mono (hJ it hh' tk' F₁ fun p hp => N₁ p ?_) (fun f s₂ p => ?_) fun _ _ e => e
    · rcases List.mem_cons.mp hp with rfl | hp
      · exact List.mem_append_left _ hI
      · exact List.mem_append_right _ hp
    have fin : UnrEnd h₀ env.locals { s with heap := hh', toks := tk' } s.heap.objs.size it (fun m' n' => (ta, tupO items c) ∈ n' ∧ TupRest prog w A E h₀ env x body Q s s.heap.objs.size (ta, tupO items c) (items.drop (i + 1)) m' n') s₂ → LoopStepU h₀ env.locals [s.heap.objs.size] own (fun m nx => (ta, tupO items c) ∈ nx ∧ TupRest prog w A E h₀ env x body Q s s.heap.objs.size (ta, tupO items c) (items.drop (i + 1)) m nx) { s with heap := hh', toks := tk' } .next s₂ := by
      rintro ⟨h', tk, m', news', e, F', N', ho, hmm, r⟩
      refine ⟨rfl, h', tk, m', news', e, F', fun p hp => ?_, fun p hp hI => ho p hp (List.mem_singleton.mp hI), hmm, r⟩
      rcases List.mem_append.mp hp with hp | hp
      · have h2 : hh'.get? p.1 = some p.2 := hget p hp
        rcases List.mem_cons.mp (hown p hp) with h1 | h1
        · rw [h1, hit] at h2
          have h3 : p = (s.heap.objs.size, it) := Prod.ext h1 (Option.some.inj h2).symm
          rw [h3]; exact N' _ (.head _)
        · have h1' : p.1 = ta := List.mem_singleton.mp h1
          rw [h1', (N₁ _ (List.mem_append_right _ hm₁)).1] at h2
          have h3 : p = (ta, tupO items c) := Prod.ext h1' (Option.some.inj h2).symm
          rw [h3]; exact N' _ (.tail _ hmm)
      · exact N' _ (.tail _ hp)
    cases f with
    | ret v => exact .ret p
    | brk => exact .brk p
    | next => exact .next (fin p)
    | cont => exact .cont (fin p)
  · rintro h' tk m' nx F' N' _ ⟨_, hJ⟩
    rw [List.drop_length] at hJ
    exact hJ h' tk F' N'
theorem tup_end {L I : Addr} {it : Obj} {lp : Addr × Obj} {rest : (Str → Option Value) → List (Addr × Obj) → Prop} {s₁ : Shared} {h' : Heap} {tk : Nat} {m' : Str → Option Value} {all nx : List (Addr × Obj)} (F : Fr h₀ L h' m') (N : News h₀ L h' all) (P : Pull I it all nx) (o : ∀ p ∈ nx, p.1 ≠ I) (hm : lp ∈ nx) (r : rest m' nx) : UnrEnd h₀ L s₁ I it (fun m n => lp ∈ n ∧ rest m n) { s₁ with heap := h', toks := tk } :=
  UnrEnd.intro F N nx P.sub o ⟨hm, r⟩
end
inductive Tm | A (x : Str) | I (v : Int) | S (x : Str) (d : Tm)
inductive WI | raw (x : Str) | term (d : Tm)
noncomputable def spell : Tm → Str
  | .A x => spellB x
  | .I v => Str.ofString (toString v)
  | .S x d => x ++ Str.ofString "(" ++ spell d ++ Str.ofString ")"
noncomputable def TmIn (led : List (Addr × Obj)) (xs : List Str) (fs : List (List Int)) : Value → Tm → Prop
  | v, .A x => ∃ (a : Addr) (i : Nat) (t u : Tok) (c : Nat), v = .ref a ∧ (a, tupO [.str (Str.ofString "a") t, .int i u] c) ∈ led ∧ xs[i]? = some x
  | v, .I n => ∃ (a : Addr) (t u : Tok) (c : Nat), v = .ref a ∧ (a, tupO [.str (Str.ofString "i") t, .int n u] c) ∈ led
  | v, .S x d => ∃ (a ga : Addr) (i j : Nat) (v' : Value) (t u : Tok) (c c2 : Nat), v = .ref a ∧ (a, tupO [.str (Str.ofString "s") t, .int i u, .ref ga] c) ∈ led ∧ (ga, tupO [v'] c2) ∈ led ∧ xs[j]? = some x ∧ fs[i]? = some [((j : Nat) : Int), 1] ∧ TmIn led xs fs v' d
theorem TmIn.mono {led led' : List (Addr × Obj)} {xs : List Str} {fs : List (List Int)} (h : ∀ p ∈ led, p ∈ led') : ∀ {d : Tm} {v : Value}, TmIn led xs fs v d → TmIn led' xs fs v d := by
  intro d
  induction d with
  | A x => intro v H; obtain ⟨a, i, t, u, c, e, h1, h2⟩ := H; exact ⟨a, i, t, u, c, e, h _ h1, h2⟩
  | I n => intro v H; obtain ⟨a, t, u, c, e, h1⟩ := H; exact ⟨a, t, u, c, e, h _ h1⟩
  | S x d ih => intro v H; obtain ⟨a, ga, i, j, v', t, u, c, c2, e, h1, h2, h3, h4, h5⟩ := H; exact ⟨a, ga, i, j, v', t, u, c, c2, e, h _ h1, h _ h2, h3, h4, ih h5⟩
noncomputable def WiIn (led : List (Addr × Obj)) (xs : List Str) (fs : List (List Int)) : Value → WI → Prop
  | v, .raw x => ∃ (a : Addr) (t u q : Tok) (c : Nat), v = .ref a ∧ (a, tupO [.str (Str.ofString "raw") t, .str x u, .int 0 q, .bool false] c) ∈ led
  | v, .term d => ∃ (a : Addr) (v' : Value) (l : Int) (t q : Tok) (c : Nat), v = .ref a ∧ (a, tupO [.str (Str.ofString "term") t, v', .int l q, .bool true] c) ∈ led ∧ TmIn led xs fs v' d
theorem WiIn.mono {led led' : List (Addr × Obj)} {xs : List Str} {fs : List (List Int)} (h : ∀ p ∈ led, p ∈ led') : ∀ {e : WI} {v : Value}, WiIn led xs fs v e → WiIn led' xs fs v e
  | .raw _, _, ⟨a, t, u, q, c, e, h1⟩ => ⟨a, t, u, q, c, e, h _ h1⟩
  | .term _, _, ⟨a, v', l, t, q, c, e, h1, h2⟩ => ⟨a, v', l, t, q, c, e, h _ h1, h2.mono h⟩
inductive StkAre (led : List (Addr × Obj)) (xs : List Str) (fs : List (List Int)) : List Value → List WI → Prop
  | nil : StkAre led xs fs [] []
  | cons {v e r W} : WiIn led xs fs v e → StkAre led xs fs r W → StkAre led xs fs (v :: r) (e :: W)
theorem StkAre.mono {led led' : List (Addr × Obj)} {xs : List Str} {fs : List (List Int)} (h : ∀ p ∈ led, p ∈ led') {r : List Value} {W : List WI} (S : StkAre led xs fs r W) : StkAre led' xs fs r W := by
  induction S with
  | nil => exact .nil
  | cons h1 _ ih => exact .cons (h1.mono h) ih
theorem StkAre.append {led : List (Addr × Obj)} {xs : List Str} {fs : List (List Int)} {r r2 : List Value} {W W2 : List WI} (S : StkAre led xs fs r W) (S2 : StkAre led xs fs r2 W2) : StkAre led xs fs (r ++ r2) (W ++ W2) := by
  induction S with
  | nil => exact S2
  | cons h1 _ ih => exact .cons h1 ih
noncomputable def headT : Tm → Str
  | .A x => spellB x
  | .I v => Str.ofString (toString v)
  | .S x _ => x
noncomputable def moreT : Tm → List WI
  | .S _ d => [.raw (Str.ofString "("), .term d, .raw (Str.ofString ")")]
  | _ => []
noncomputable def lastOf (x : Str) : Str := Txt.item x ((x.length : Int) - 1)
theorem stk_more {led : List (Addr × Obj)} {xs : List Str} {fs : List (List Int)} {a1 a2 a3 : Addr} {v : Value} {x : Str} {d : Tm} {l : Int} {t1 t2 t3 t4 t5 t6 t7 t8 : Tok} {c1 c2 c3 : Nat} (h : TmIn led xs fs v d) (h1 : (a1, tupO [.str (Str.ofString "raw") t1, .str (Str.ofString "(") t2, .int 0 t3, .bool false] c1) ∈ led) (h2 : (a2, tupO [.str (Str.ofString "term") t4, v, .int l t5, .bool true] c2) ∈ led) (h3 : (a3, tupO [.str (Str.ofString "raw") t6, .str (Str.ofString ")") t7, .int 0 t8, .bool false] c3) ∈ led) : StkAre led xs fs [Value.ref a3, .ref a2, .ref a1].reverse (moreT (.S x d)) :=
  .cons ⟨a1, t1, t2, t3, c1, rfl, h1⟩ (.cons ⟨a2, v, l, t4, t5, c2, rfl, h2, h⟩ (.cons ⟨a3, t6, t7, t8, c3, rfl, h3⟩ .nil))
theorem wf_end {h₀ h : Heap} {L wd ot wk a1 a2 a3 : Addr} {W O : Obj} {rest : List (Addr × Obj)} {its : List Value} {va : Array Value} {n : Nat} {xs : List Str} {fs : List (List Int)} {v : Value} {x : Str} {d : Tm} {l : Int} {t1 t2 t3 t4 t5 t6 t7 t8 : Tok} {c1 c2 c3 : Nat} (hva : va = #[Value.ref a1, .ref a2, .ref a3])
    (N : News h₀ L h ((wk, listOf (its ++ va.toList.reverse).toArray n) :: (a3, tupO [.str (Str.ofString "raw") t6, .str (Str.ofString ")") t7, .int 0 t8, .bool false] c3) :: (a2, tupO [.str (Str.ofString "term") t4, v, .int l t5, .bool true] c2) :: (a1, tupO [.str (Str.ofString "raw") t1, .str (Str.ofString "(") t2, .int 0 t3, .bool false] c1) :: (wd, W) :: (ot, O) :: rest))
    (hd : TmIn rest xs fs v d) (w1 : @Ne Nat a1 wd) (w2 : @Ne Nat a2 wd) (w3 : @Ne Nat a3 wd) (o1 : @Ne Nat a1 ot) (o2 : @Ne Nat a2 ot) (o3 : @Ne Nat a3 ot) (k1 : @Ne Nat a1 wk) (k2 : @Ne Nat a2 wk) (k3 : @Ne Nat a3 wk) :
    ∃ (ext : List Value) (tl : List (Addr × Obj)), (∀ p ∈ tl, p.1 ≠ wd) ∧ (∀ p ∈ tl, p.1 ≠ ot) ∧ (∀ p ∈ tl, p.1 ≠ wk) ∧ News h₀ L h ((wd, W) :: (ot, O) :: (wk, listOf (its ++ ext).toArray n) :: (rest ++ tl)) ∧ StkAre (rest ++ tl) xs fs ext.reverse (moreT (.S x d)) := by
  subst hva
  refine ⟨[.ref a3, .ref a2, .ref a1], [(a3, tupO [.str (Str.ofString "raw") t6, .str (Str.ofString ")") t7, .int 0 t8, .bool false] c3), (a2, tupO [.str (Str.ofString "term") t4, v, .int l t5, .bool true] c2), (a1, tupO [.str (Str.ofString "raw") t1, .str (Str.ofString "(") t2, .int 0 t3, .bool false] c1)], ?_, ?_, ?_, cb_drop N ?_, stk_more (hd.mono ?_) (List.mem_append_right _ (.tail _ (.tail _ (.head _)))) (List.mem_append_right _ (.tail _ (.head _))) (List.mem_append_right _ (.head _))⟩
  · exact List.forall_mem_cons.mpr ⟨w3, List.forall_mem_cons.mpr ⟨w2, List.forall_mem_cons.mpr ⟨w1, List.forall_mem_nil _⟩⟩⟩
  · exact List.forall_mem_cons.mpr ⟨o3, List.forall_mem_cons.mpr ⟨o2, List.forall_mem_cons.mpr ⟨o1, List.forall_mem_nil _⟩⟩⟩
  · exact List.forall_mem_cons.mpr ⟨k3, List.forall_mem_cons.mpr ⟨k2, List.forall_mem_cons.mpr ⟨k1, List.forall_mem_nil _⟩⟩⟩
  · intro p hp
    simp only [List.mem_cons, List.mem_append, List.not_mem_nil, or_false] at hp ⊢
    rcases hp with h | h | h | h | h | h | h
    · simp [h]
    · simp [h]
    · left; rw [h]; rfl
    · simp [h]
    · simp only [h, true_or, or_true]
    · simp only [h, true_or, or_true]
    · simp only [h, true_or, or_true]
  · exact fun p hp => List.mem_append_left _ hp
theorem sub_c {a b : List (Addr × Obj)} {x : Addr × Obj} (h : ∀ p ∈ a, p ∈ b) : ∀ p ∈ a, p ∈ x :: b := fun p hp => List.mem_cons_of_mem _ (h p hp)
section
local macro_rules | `(tactic| k_allIn) => `(tactic| k_extra "x_k_allIn")
example : True := by (k_with "x_k_allIn" => first | assumption | (refine' sub_c ?s9_q100; (case s9_q100 => k_allIn))); exact trivial
example : True := by (k_with "call ref" => (k_here; k_dflt (refine' name_spec ?B_q101 ?F_q101 ?X_q101 ?T_q101 ?K_q101 ?d_q101 ?u_q101 ?N_q101 ?R_q101 ?S_q101 ?z_q101 ?s0_q101 ?m1_q101 ?s_q101 ?hx_q101 ?_; (case F_q101 => k_asm); (case B_q101 => k_asm); (case X_q101 => k_asm); (case T_q101 => k_asm); (case K_q101 => first | exact rfl | assumption); (case d_q101 => k_room); (case u_q101 => ktr_units); (case N_q101 => k_asm); (case R_q101 => assumption); (case S_q101 => assumption); (case z_q101 => assumption); (case s0_q101 => k_allIn); (case m1_q101 => k_mem); (case s_q101 => k_allIn); (case hx_q101 => assumption)); intro t' h' tk' F' N'; (try dsimp only at N'); (try k_sweep); walk_say "name_spec")); exact trivial
example : True := by (k_with "call ref" => (k_here; k_dflt (refine' atom_text_use ?B_q102 ?F_q102 ?X_q102 ?T_q102 ?K_q102 ?d_q102 ?u_q102 ?ok_q102 ?N_q102 ?R_q102 ?S_q102 ?z_q102 ?s0_q102 ?m1_q102 ?s_q102 ?hx_q102 ?_; (case F_q102 => k_asm); (case B_q102 => k_asm); (case X_q102 => k_asm); (case T_q102 => k_asm); (case K_q102 => first | exact rfl | assumption); (case d_q102 => k_room); (case u_q102 => ktr_units); (case ok_q102 => assumption); (case N_q102 => k_asm); (case R_q102 => assumption); (case S_q102 => assumption); (case z_q102 => assumption); (case s0_q102 => k_allIn); (case m1_q102 => k_mem); (case s_q102 => k_allIn); (case hx_q102 => assumption)); intro t' h' tk' F' N'; (try dsimp only at N'); (try k_sweep); walk_say "atom_text_use")); exact trivial
example : True := by (k_with "call ref" => (k_here; k_dflt (refine' token_use ?l_q103 ?x_q103 ?xp_q103 ?xl_q103 ?B_q103 ?F_q103 ?X_q103 ?T_q103 ?K_q103 ?d_q103 ?u_q103 ?N_q103 ?h1_q103 ?h2_q103 ?P1_q103 ?P2_q103 ?w_q103 ?o1_q103 ?o2_q103 ?ne_q103 ?z_q103 ?_; (case B_q103 => k_asm); (case F_q103 => k_asm); (case X_q103 => k_asm); (case T_q103 => k_asm); (case K_q103 => first | exact rfl | assumption); (case d_q103 => k_room); (case u_q103 => ktr_units); (case N_q103 => k_asm); (case h1_q103 => k_mem); (case h2_q103 => k_mem); (case P1_q103 => k_upd); (case P2_q103 => k_upd); (case w_q103 => k_mem); (case o1_q103 => k_all); (case o2_q103 => k_all); (case ne_q103 => assumption); (case z_q103 => assumption); (case x_q103 => assumption); (case xp_q103 => assumption); (case xl_q103 => assumption); (case l_q103 => assumption)); intro h' tk' lt' F' N'; (try k_sweep); walk_say "token")); exact trivial
example : True := by (k_with "call ref" => (k_here; k_dflt (refine' later_use ?B_q104 ?F_q104 ?X_q104 ?T_q104 ?K_q104 ?d_q104 ?u_q104 ?N_q104 ?h1_q104 ?h2_q104 ?P1_q104 ?P2_q104 ?w_q104 ?wd_q104 ?o1_q104 ?o2_q104 ?ne_q104 ?z_q104 ?v_q104 ?_; (case B_q104 => k_asm); (case F_q104 => k_asm); (case X_q104 => k_asm); (case T_q104 => k_asm); (case K_q104 => first | exact rfl | assumption); (case d_q104 => k_room); (case u_q104 => ktr_units); (case N_q104 => k_asm); (case h1_q104 => k_mem); (case h2_q104 => k_mem); (case P1_q104 => k_upd); (case P2_q104 => k_upd); (case w_q104 => k_mem); (case wd_q104 => k_mem); (case o1_q104 => k_all); (case o2_q104 => k_all); (case ne_q104 => k_ne); (case z_q104 => assumption); (case v_q104 => first | decide | (simp; done))); intro h' tk' n' F' N'; (try k_sweep); walk_say "later")); exact trivial
example : True := by (k_with "exec For Name Subscript cons nil" => (k_here; (rename Fr _ _ _ _ => lF'); (with_unfolding_all refine' For_invVF lF' ?k1_q105 ?k2_q105 ?_; (case k1_q105 => exact rfl); (case k2_q105 => exact rfl); k_whole))); exact trivial
example : True := by (k_with "pyIter ref" => (k_here; (with_reducible show wpAny _ _ (pyIter (Value.ref _)) (fun it s₂ => LoopAtV _ _ _ _ _ _ _ _ _ it s₂) _ _); (rename Fr _ _ _ _ => lF'); (rename News _ _ _ _ => lN'); (with_unfolding_all refine' iter_tupAll (by rfl) lF' lN' ?hm_q106 (fun I' l1 => ?_)); (case hm_q106 => k_mem); (clear lF' lN'); (try k_lt l1))); exact trivial
example : True := by (k_with "TupRest" => (with_unfolding_all first | (refine TupRest.more (fun it' h' tk' F' N' => ?_)) | (refine TupRest.none (fun h' tk' F' N' => ?_)))); exact trivial
example : True := by (k_with "UnrEnd" => (refine' tup_end ?F_q108 ?N_q108 ?P_q108 ?o_q108 ?m_q108 ?r_q108; (case F_q108 => assumption); (case N_q108 => assumption); (case P_q108 => k_upd); (case o_q108 => k_all); (case m_q108 => k_mem))); exact trivial
variable {w : World} {p : Program} {loose : List Str} {mean : ExcName → Option Value} {mg mb : Str → Option Value} {dp un : Nat} {gd : Option (List Code)} {cn : Str} {cs : Scope} {a : Addr} {ccd : Value} {cl : List (Str × Addr)} {outer : List Env} {A₀ : Around} {base h₀ : Heap} {L : Addr} {m : Str → Option Value} {s : Shared} {Q E : Value → Shared → Prop} {news rest : List (Addr × Obj)}
variable {wa wd op nm tk ot wk : Addr} {k : Fin 11 → Tok} {lst : Str} {lt : Tok}
variable {b bd tx an fu fn : Addr} {t1 t2 t3 t4 : Tok} {oTx oAn oFu oFn : Obj} {xs : List Str} {fs : List (List Int)} {K : Nat} {rest0 restB : List (Addr × Obj)}
theorem write_functional_spec {outs its : List Value} {n n2 c1 c2 i j : Nat} {x : Str} {d : Tm} {ta ga : Addr} {v : Value} {u1 u2 : Tok} (hsp : spellB x = x) (ok : OkName x) (B : Below A₀ base outer h₀) (F : Fr h₀ L s.heap m) (X : (Mine.kk.heap_1 w.params).In h₀) (T : Top p loose mean mg mb h₀) (hk : cs.kind = .function) (hd : dp + 20 < recursionLimit) (hu : un + 240 < cLine) (N : News h₀ L s.heap ((wd, wrD w k b op nm tk ot wk lst lt false) :: (ot, listOf outs.toArray n) :: (wk, listOf its.toArray n2) :: rest)) (hw : (wa, instObj 472 wd) ∈ rest) (n1 : @Ne Nat wd ot) (n3 : @Ne Nat wd wk) (n4 : @Ne Nat ot wk) (o1 : ∀ p ∈ rest, p.1 ≠ wd) (o2 : ∀ p ∈ rest, p.1 ≠ ot) (o3 : ∀ p ∈ rest, p.1 ≠ wk) (hz1 : outs.length ≤ 100000) (hz2 : its.length ≤ 90000)
  (R : BookR w restB b bd tx an fu fn t1 t2 t3 t4) (S : BookS PG w rest0 oTx oAn oFu oFn xs fs K) (hz : K ≤ 100000) (hs0 : ∀ p ∈ rest0, p ∈ rest) (m1 : (tx, oTx) ∈ rest) (m2 : (fu, oFu) ∈ rest) (hs : ∀ p ∈ restB, p ∈ rest)
  (ht : (ta, tupO [.str (Str.ofString "s") u1, .int i u2, .ref ga] c1) ∈ rest) (hg : (ga, tupO [v] c2) ∈ rest) (hx : xs[j]? = some x) (hf : fs[i]? = some [((j : Nat) : Int), 1]) (hl : lst = Str.ofString "" ∨ lst = Str.ofString "(") (hx1 : (x != Str.ofString "") = true) (hxp : 0 < x.length) (hxl : x.length ≤ 100000)
  (hd' : TmIn rest xs fs v d)
  (hret : ∀ lt' t n' n'' ext tl h' tk', (∀ p ∈ tl, p.1 ≠ wd) → (∀ p ∈ tl, p.1 ≠ ot) → (∀ p ∈ tl, p.1 ≠ wk) → Fr h₀ L h' m → News h₀ L h' ((wd, wrD w k b op nm tk ot wk (lastOf x) lt' false) :: (ot, listOf (outs ++ [Value.str x t]).toArray n') :: (wk, listOf (its ++ ext).toArray n'') :: (rest ++ tl)) → StkAre (rest ++ tl) xs fs ext.reverse (moreT (.S x d)) → Q .none { s with heap := h', toks := tk' }) :
  wpAny (model PySem.Challenge.rw_ok0024_01.row.prog w) (ktrTop dp un gd cn cs L a ccd cl outer) (call (.ref 427) [.ref wa, .ref ta]) Q E s := by
  have hb := hs _ R.hb
  have hbd := hs _ R.hbd
  have hx1' : (spellB x != Str.ofString "") = true := by rw [hsp]; exact hx1
  have hxp' : 0 < (spellB x).length := by rw [hsp]; exact hxp
  have hxl' : (spellB x).length ≤ 100000 := by rw [hsp]; exact hxl
  revert X; k_fill; intro X
  refine wpAny_call ?_
  k_dflt k_enter
  (refine sq_A ?_; intro A9)
  k_steps
  rename News _ _ _ _ => kN
  rename Fr _ _ _ _ => kF
  rw [hsp] at kN
  obtain ⟨ext, tl, q1, q2, q3, q4, q5⟩ := wf_end (x := x) (by rfl) kN hd' (by k_ne) (by k_ne) (by k_ne) (by k_ne) (by k_ne) (by k_ne) (by k_ne) (by k_ne) (by k_ne)
  exact hret _ _ _ _ ext tl _ _ q1 q2 q3 kF q4 q5
example : True := by k_with_none; (k_with "x_k_room" => ((try simp (config := {zetaDelta := true}) only [depth_under_make, depth_under_kw, depth_in1, depth_deeper, depth_caller]); (try dsimp only [ktrTop]); (first | (refine' rm0 ?ha_q41; (case ha_q41 => assumption)) | (refine' rm1 ?ha_q41 ?hb_q41; (case ha_q41 => assumption); (case hb_q41 => exact rfl)) | (refine' rm2 ?ha_q41 ?hb_q41; (case ha_q41 => assumption); (case hb_q41 => exact rfl)) | (refine' rm3 ?ha_q41 ?hb_q41; (case ha_q41 => assumption); (case hb_q41 => exact rfl)) | (refine' rm4 ?ha_q41 ?hb_q41; (case ha_q41 => assumption); (case hb_q41 => exact rfl)) | omega))); (k_with "x_ktr_units" => ((try simp (config := {zetaDelta := true}) only [units_under_make, units_in1, units_deeper, Around.mark_units, units_caller]); (try dsimp only [ktrTop]); (first | (refine' rm0 ?ha_q42; (case ha_q42 => assumption)) | (refine' rm1 ?ha_q42 ?hb_q42; (case ha_q42 => assumption); (case hb_q42 => exact rfl)) | (refine' rm2 ?ha_q42 ?hb_q42; (case ha_q42 => assumption); (case hb_q42 => exact rfl)) | (refine' rm3 ?ha_q42 ?hb_q42; (case ha_q42 => assumption); (case hb_q42 => exact rfl)) | (refine' rm4 ?ha_q42 ?hb_q42; (case ha_q42 => assumption); (case hb_q42 => exact rfl)) | omega))); (k_with "execs cons" => (k_here; (with_reducible refine sq_tok ?_); intro tk')); (k_with "subscriptTail Name Constant ref int" => (k_here; (with_reducible show wpAny _ _ (subscriptTail _ _ (Value.ref _) (Value.int _ _)) _ _ _); k_dflt (first | (refine' item_tupleT ?t_q44 ?a_q44 ?b_q44 ?c_q44 ?d_q44 ?_; (case t_q44 => (refine' News.isTup ?t1_q44 ?t2_q44; (case t1_q44 => k_asm); (case t2_q44 => k_mem))); (case a_q44 => decide); (case b_q44 => decide); (case c_q44 => rfl); (case d_q44 => rfl); k_whole) | (refine' c_item_lit ?N_q44 ?m_q44 ?a2_q44 ?b2_q44 ?d2_q44 ?_; (case N_q44 => k_asm); (case m_q44 => k_mem); (case a2_q44 => decide); (case b2_q44 => decide); (case d2_q44 => rfl); k_whole)))); (k_with "eval Call Name" => (k_here; with_unfolding_all refine Call_ ?_)); (k_with "x_k_all" => first | assumption | exact List.forall_mem_nil _ | (refine' List.forall_mem_append.mpr ⟨?_, ?_⟩; (focus k_all); k_all) | (refine' List.forall_mem_cons.mpr ⟨?_, ?_⟩; (focus k_ne); k_all) | exact allNeP (by assumption) | (refine' Above.off ?hA_q46 ?hM_q46; (case hA_q46 => assumption); (case hM_q46 => k_mem)) | (refine' alt_all ?lh_q46 ?ls_q46; (case lh_q46 => assumption); (case ls_q46 => k_allIn)) | exact allNe0 (by assumption) | exact allNe1 (by assumption) | exact allNe2 (by assumption) | exact allNe3 (by assumption) | exact allNe4 (by assumption) | exact allNe5 (by assumption) | exact allNe6 (by assumption)); (k_with "x_k_ne" => first | assumption | (refine' alt_ne1 ?lh_q47 ?lm_q47; (case lh_q47 => assumption); (case lm_q47 => k_mem)) | (refine' alt_ne2 ?lh_q47 ?lm_q47; (case lh_q47 => assumption); (case lm_q47 => k_mem)) | (refine' alt_ne3 ?lx_q47 ?lh_q47 ?lm_q47; (case lx_q47 => assumption); (case lh_q47 => assumption); (case lm_q47 => k_mem)) | (refine' alt_ne4 ?lx_q47 ?lh_q47 ?lm_q47; (case lx_q47 => assumption); (case lh_q47 => assumption); (case lm_q47 => k_mem)) | (refine' Ne.symm ?_; assumption) | (refine neN ?_; refine' Ne.symm ?_; assumption) | (refine neN ?_; (try dsimp only); omega) | (refine' news_ne_cls ?nN_q47 ?n1_q47 ?n2_q47 ?n3_q47; (case nN_q47 => assumption); (case n1_q47 => k_mem); (case n2_q47 => k_mem); (case n3_q47 => (intro e9; exact absurd (Value.type.inj e9) (by decide)))) | (refine neN ?_; (try dsimp only); (simp only [List.forall_mem_cons] at *); omega)); (k_with "x_k_mem" => first | assumption | exact List.mem_cons_self | (refine' List.mem_cons_of_mem _ ?_; k_mem) | (refine' List.mem_append_left _ ?_; k_mem) | (refine' List.mem_append_right _ ?_; k_mem)); (k_with "x_k_upd" => first | exact Pull.head | (refine' Pull.tail ?b_q49; (case b_q49 => k_upd)) | (refine' Pull.under _ ?b_q49; (case b_q49 => k_upd))); (k_with "x_k_allIn" => first | assumption | (intro p9 h9; k_mem) | (refine' List.forall_mem_append.mpr ⟨?_, ?_⟩; (focus k_allIn); k_allIn) | exact List.forall_mem_nil _ | exact sub_l (by assumption)); (k_with "x_k_enter" => first | ktr_enter | (refine' code_def ?k1_q51 ?k2_q51 ?k3_q51 ?k4_q51 ?k5_q51 ?kA_q51 ?kF_q51 ?kK_q51 ?k6_q51 ?k7_q51 ?k8_q51 ?k9_q51 ?kB_q51 ?_ ?c2_q51 ?c3_q51 ?c4_q51 ?c5_q51; (case kA_q51 => exact rfl); (case kF_q51 => exact rfl); (case kK_q51 => first | exact rfl | assumption); (case k1_q51 => k_asm); (case k2_q51 => k_asm); (case k3_q51 => k_asm); (case k4_q51 => k_asm); (case k5_q51 => k_asm); (case k6_q51 => k_is); (case k7_q51 => k_is); (case k8_q51 => ktr_room); (case k9_q51 => exact binds_K (by k_in) rfl (by k_is) rfl rfl rfl); (case c5_q51 => decide); (case kB_q51 => exact locs rfl); (case c2_q51 => exact rfl); (case c3_q51 => exact rfl); (case c4_q51 => exact rfl); k_whole; intro g' L' h' FG' F' N' B' X' T'; (try dsimp only); (try k_fold))); exact trivial
end
end
section
structure PEnvX (w : World) (led restB rest0 : List (Addr × Obj)) (b bd tx an fu fn op opd pre inf pos : Addr) (t1 t2 t3 t4 v1 v2 v3 v4 : Tok) (oTx oAn oFu oFn oPre oInf oPos : Obj) (xs : List Str) (fs : List (List Int)) (K n : Nat) : Prop where
  R : BookR w restB b bd tx an fu fn t1 t2 t3 t4
  S : BookS PG w rest0 oTx oAn oFu oFn xs fs K
  hz : K ≤ 90000
  hs : ∀ p ∈ restB, p ∈ led
  hs0 : ∀ p ∈ rest0, p ∈ led
  m1 : (tx, oTx) ∈ led
  m2 : (fu, oFu) ∈ led
  hx : FA <+: xs
  hf : FK <+: fs
  hop : (op, instObj 287 opd) ∈ led
  hopd : (opd, opD w v1 v2 v3 v4 b pre inf pos) ∈ led
  hpre : (pre, oPre) ∈ led
  hpos : (pos, oPos) ∈ led
  O : OpS PG w xs oPre oInf n
  hD : oPos.IsDictOf (intKind PG w) []
  l1 : (pre == sysModules) = false
  l2 : (pos == sysModules) = false
inductive PEnv (w : World) (led : List (Addr × Obj)) (b op : Addr) (xs : List Str) (fs : List (List Int)) : Prop
  | mk (restB rest0 : List (Addr × Obj)) (bd tx an fu fn opd pre inf pos : Addr) (t1 t2 t3 t4 v1 v2 v3 v4 : Tok) (oTx oAn oFu oFn oPre oInf oPos : Obj) (K n : Nat) (V : PEnvX w led restB rest0 b bd tx an fu fn op opd pre inf pos t1 t2 t3 t4 v1 v2 v3 v4 oTx oAn oFu oFn oPre oInf oPos xs fs K n) : PEnv w led b op xs fs
theorem PEnvX.mono {w : World} {led led' restB rest0 : List (Addr × Obj)} {b bd tx an fu fn op opd pre inf pos : Addr} {t1 t2 t3 t4 v1 v2 v3 v4 : Tok} {oTx oAn oFu oFn oPre oInf oPos : Obj} {xs : List Str} {fs : List (List Int)} {K n : Nat} (h : ∀ p ∈ led, p ∈ led') (V : PEnvX w led restB rest0 b bd tx an fu fn op opd pre inf pos t1 t2 t3 t4 v1 v2 v3 v4 oTx oAn oFu oFn oPre oInf oPos xs fs K n) : PEnvX w led' restB rest0 b bd tx an fu fn op opd pre inf pos t1 t2 t3 t4 v1 v2 v3 v4 oTx oAn oFu oFn oPre oInf oPos xs fs K n :=
  ⟨V.R, V.S, V.hz, fun p hp => h p (V.hs p hp), fun p hp => h p (V.hs0 p hp), h _ V.m1, h _ V.m2, V.hx, V.hf, h _ V.hop, h _ V.hopd, h _ V.hpre, h _ V.hpos, V.O, V.hD, V.l1, V.l2⟩
theorem PEnv.mono {w : World} {led led' : List (Addr × Obj)} {b op : Addr} {xs : List Str} {fs : List (List Int)} (h : ∀ p ∈ led, p ∈ led') (V : PEnv w led b op xs fs) : PEnv w led' b op xs fs := by
  obtain ⟨restB, rest0, bd, tx, an, fu, fn, opd, pre, inf, pos, t1, t2, t3, t4, v1, v2, v3, v4, oTx, oAn, oFu, oFn, oPre, oInf, oPos, K, n, V⟩ := V
  exact ⟨restB, rest0, bd, tx, an, fu, fn, opd, pre, inf, pos, t1, t2, t3, t4, v1, v2, v3, v4, oTx, oAn, oFu, oFn, oPre, oInf, oPos, K, n, V.mono h⟩
theorem not_pre {prog : Program} {w : World} {xs : List Str} {oPre oInf : Obj} {n j : Nat} {x : Str} (O : OpS prog w xs oPre oInf n) (hj : xs[j]? = some x) (hx : x ∉ OPN) : ∃ kvs : List (Int × Value), oPre.IsDictOf (intKind prog w) kvs ∧ valueAt kvs (j : Int) = none := by
  obtain ⟨⟨kvs, hD, _, hk⟩, _⟩ := O
  refine ⟨kvs, hD, valueAt_none_of_not_mem fun hm => ?_⟩
  obtain ⟨i, y, e, hy, hm⟩ := hk _ hm
  rw [Int.ofNat.inj e] at hj
  rw [hj] at hy
  exact hx (Option.some.inj hy ▸ hm)
theorem not_fixed {xs : List Str} {fs : List (List Int)} {i j : Nat} {x : Str} (hx0 : FA <+: xs) (hf0 : FK <+: fs) (hx : xs[j]? = some x) (hf : fs[i]? = some [((j : Nat) : Int), 1]) (ha : alnumNameB x = true) : ¬ ((i : Nat) : Int) = 0 ∧ ¬ ((i : Nat) : Int) = 9 := by
  obtain ⟨r, rfl⟩ := hx0
  obtain ⟨q, rfl⟩ := hf0
  constructor
  · intro e
    have e : i = 0 := by omega
    subst e
    have h1 : (FK ++ q)[0]? = some [1, 2] := by rw [List.getElem?_append_left (by decide)]; decide
    rw [h1] at hf
    exact absurd (Option.some.inj hf) (by simp)
  · intro e
    have e : i = 9 := by omega
    subst e
    have h1 : (FK ++ q)[9]? = some [2, 1] := by rw [List.getElem?_append_left (by decide)]; decide
    rw [h1] at hf
    have h2 := Option.some.inj hf
    simp only [List.cons.injEq, and_true] at h2
    have h3 : j = 2 := by omega
    subst h3
    have h4 : (FA ++ r)[2]? = some (Str.ofString "{}") := by rw [List.getElem?_append_left (by decide)]; decide
    rw [h4] at hx
    rw [← Option.some.inj hx] at ha
    exact absurd ha (by decide +kernel)
section
local macro_rules | `(tactic| k_allIn) => `(tactic| k_extra "x_k_allIn")
example : True := by (k_with "x_k_allIn" => first | assumption | (refine' sub_c ?s9_q109; (case s9_q109 => k_allIn))); exact trivial
example : True := by (k_with "call ref" => (k_here; k_dflt (refine' name_spec ?B_q110 ?F_q110 ?X_q110 ?T_q110 ?K_q110 ?d_q110 ?u_q110 ?N_q110 ?R_q110 ?S_q110 ?z_q110 ?s0_q110 ?m1_q110 ?s_q110 ?hx_q110 ?_; (case F_q110 => k_asm); (case B_q110 => k_asm); (case X_q110 => k_asm); (case T_q110 => k_asm); (case K_q110 => first | exact rfl | assumption); (case d_q110 => k_room); (case u_q110 => ktr_units); (case N_q110 => k_asm); (case R_q110 => assumption); (case S_q110 => assumption); (case z_q110 => assumption); (case s0_q110 => k_allIn); (case m1_q110 => k_mem); (case s_q110 => k_allIn); (case hx_q110 => assumption)); intro t' h' tk' F' N'; (try dsimp only at N'); (try k_sweep); walk_say "name_spec")); exact trivial
example : True := by (k_with "call ref" => (k_here; k_dflt (refine' prefix_none ?B_q111 ?F_q111 ?X_q111 ?T_q111 ?K_q111 ?d_q111 ?u_q111 ?N_q111 ?op_q111 ?opd_q111 ?pre_q111 ?D_q111 ?lo_q111 ?v_q111 ?_; (case F_q111 => k_asm); (case B_q111 => k_asm); (case X_q111 => k_asm); (case T_q111 => k_asm); (case K_q111 => first | exact rfl | assumption); (case d_q111 => k_room); (case u_q111 => ktr_units); (case N_q111 => k_asm); (case op_q111 => k_mem); (case opd_q111 => k_mem); (case pre_q111 => k_mem); (case D_q111 => assumption); (case lo_q111 => assumption); (case v_q111 => assumption)); intro h' tk' F' N'; (try dsimp only at N'); (try k_sweep); walk_say "prefix_none")); exact trivial
example : True := by (k_with "call ref" => (k_here; k_dflt (refine' postfix_none ?B_q112 ?F_q112 ?X_q112 ?T_q112 ?K_q112 ?d_q112 ?u_q112 ?N_q112 ?op_q112 ?opd_q112 ?pre_q112 ?D_q112 ?lo_q112 ?v_q112 ?_; (case F_q112 => k_asm); (case B_q112 => k_asm); (case X_q112 => k_asm); (case T_q112 => k_asm); (case K_q112 => first | exact rfl | assumption); (case d_q112 => k_room); (case u_q112 => ktr_units); (case N_q112 => k_asm); (case op_q112 => k_mem); (case opd_q112 => k_mem); (case pre_q112 => k_mem); (case D_q112 => assumption); (case lo_q112 => assumption); (case v_q112 => exact rfl)); intro h' tk' F' N'; (try dsimp only at N'); (try k_sweep); walk_say "postfix_none")); exact trivial
variable {w : World} {p : Program} {loose : List Str} {mean : ExcName → Option Value} {mg mb : Str → Option Value} {dp un : Nat} {gd : Option (List Code)} {cn : Str} {cs : Scope} {a : Addr} {ccd : Value} {cl : List (Str × Addr)} {outer : List Env} {A₀ : Around} {base h₀ : Heap} {L : Addr} {m : Str → Option Value} {s : Shared} {Q E : Value → Shared → Prop} {news rest : List (Addr × Obj)}
variable {wa wd op nm tk ot wk b : Addr} {k : Fin 11 → Tok} {lst : Str} {lt : Tok} {led : List (Addr × Obj)} {xs : List Str} {fs : List (List Int)}
theorem shape_none {c1 c2 i j : Nat} {x : Str} {ta ga : Addr} {v : Value} {u1 u2 : Tok} (B : Below A₀ base outer h₀) (F : Fr h₀ L s.heap m) (X : (Mine.kk.heap_1 w.params).In h₀) (T : Top p loose mean mg mb h₀) (hk : cs.kind = .function) (hd : dp + 12 < recursionLimit) (hu : un + 200 < cLine) (N : News h₀ L s.heap led) (hw : (wa, instObj 472 wd) ∈ led) (hwd : (wd, wrD w k b op nm tk ot wk lst lt false) ∈ led) (V : PEnv w led b op xs fs) (ht : (ta, tupO [.str (Str.ofString "s") u1, .int i u2, .ref ga] c1) ∈ led) (hg : (ga, tupO [v] c2) ∈ led) (hx : xs[j]? = some x) (hf : fs[i]? = some [((j : Nat) : Int), 1]) (ha : alnumNameB x = true) (ho : x ∉ OPN)
  (hret : ∀ h' tk', Fr h₀ L h' m → News h₀ L h' led → Q .none { s with heap := h', toks := tk' }) :
  wpAny (model PySem.Challenge.rw_ok0024_01.row.prog w) (ktrTop dp un gd cn cs L a ccd cl outer) (call (.ref 434) [.ref wa, .ref ta]) Q E s := by
  obtain ⟨restB, rest0, bd, tx, an, fu, fn, opd, pre, inf, pos, t1, t2, t3, t4, v1, v2, v3, v4, oTx, oAn, oFu, oFn, oPre, oInf, oPos, K, n, R, S, hz, hs, hs0, m1, m2, hx0, hf0, hop, hopd, hpre, hpos, O, hD, l1, l2⟩ := V
  obtain ⟨kvs, hDp, hvp⟩ := not_pre O hx ho
  obtain ⟨hi0, hi9⟩ := not_fixed hx0 hf0 hx hf ha
  have hz' : K ≤ 100000 := by omega
  have hb := hs _ R.hb
  have hbd := hs _ R.hbd
  revert X; k_fill; intro X
  refine wpAny_call ?_
  k_dflt k_enter
  (refine sq_A ?_; intro A9)
  k_steps
  all_goals exact hret _ _ (by k_asm) (by k_asm)
example : True := by k_with_none; (k_with "x_k_room" => ((try simp (config := {zetaDelta := true}) only [depth_under_make, depth_under_kw, depth_in1, depth_deeper, depth_caller]); (try dsimp only [ktrTop]); (first | (refine' rm0 ?ha_q41; (case ha_q41 => assumption)) | (refine' rm1 ?ha_q41 ?hb_q41; (case ha_q41 => assumption); (case hb_q41 => exact rfl)) | (refine' rm2 ?ha_q41 ?hb_q41; (case ha_q41 => assumption); (case hb_q41 => exact rfl)) | (refine' rm3 ?ha_q41 ?hb_q41; (case ha_q41 => assumption); (case hb_q41 => exact rfl)) | (refine' rm4 ?ha_q41 ?hb_q41; (case ha_q41 => assumption); (case hb_q41 => exact rfl)) | omega))); (k_with "x_ktr_units" => ((try simp (config := {zetaDelta := true}) only [units_under_make, units_in1, units_deeper, Around.mark_units, units_caller]); (try dsimp only [ktrTop]); (first | (refine' rm0 ?ha_q42; (case ha_q42 => assumption)) | (refine' rm1 ?ha_q42 ?hb_q42; (case ha_q42 => assumption); (case hb_q42 => exact rfl)) | (refine' rm2 ?ha_q42 ?hb_q42; (case ha_q42 => assumption); (case hb_q42 => exact rfl)) | (refine' rm3 ?ha_q42 ?hb_q42; (case ha_q42 => assumption); (case hb_q42 => exact rfl)) | (refine' rm4 ?ha_q42 ?hb_q42; (case ha_q42 => assumption); (case hb_q42 => exact rfl)) | omega))); (k_with "execs cons" => (k_here; (with_reducible refine sq_tok ?_); intro tk')); (k_with "subscriptTail Name Constant ref int" => (k_here; (with_reducible show wpAny _ _ (subscriptTail _ _ (Value.ref _) (Value.int _ _)) _ _ _); k_dflt (first | (refine' item_tupleT ?t_q44 ?a_q44 ?b_q44 ?c_q44 ?d_q44 ?_; (case t_q44 => (refine' News.isTup ?t1_q44 ?t2_q44; (case t1_q44 => k_asm); (case t2_q44 => k_mem))); (case a_q44 => decide); (case b_q44 => decide); (case c_q44 => rfl); (case d_q44 => rfl); k_whole) | (refine' c_item_lit ?N_q44 ?m_q44 ?a2_q44 ?b2_q44 ?d2_q44 ?_; (case N_q44 => k_asm); (case m_q44 => k_mem); (case a2_q44 => decide); (case b2_q44 => decide); (case d2_q44 => rfl); k_whole)))); (k_with "eval Call Name" => (k_here; with_unfolding_all refine Call_ ?_)); (k_with "x_k_all" => first | assumption | exact List.forall_mem_nil _ | (refine' List.forall_mem_append.mpr ⟨?_, ?_⟩; (focus k_all); k_all) | (refine' List.forall_mem_cons.mpr ⟨?_, ?_⟩; (focus k_ne); k_all) | exact allNeP (by assumption) | (refine' Above.off ?hA_q46 ?hM_q46; (case hA_q46 => assumption); (case hM_q46 => k_mem)) | (refine' alt_all ?lh_q46 ?ls_q46; (case lh_q46 => assumption); (case ls_q46 => k_allIn)) | exact allNe0 (by assumption) | exact allNe1 (by assumption) | exact allNe2 (by assumption) | exact allNe3 (by assumption) | exact allNe4 (by assumption) | exact allNe5 (by assumption) | exact allNe6 (by assumption)); (k_with "x_k_ne" => first | assumption | (refine' alt_ne1 ?lh_q47 ?lm_q47; (case lh_q47 => assumption); (case lm_q47 => k_mem)) | (refine' alt_ne2 ?lh_q47 ?lm_q47; (case lh_q47 => assumption); (case lm_q47 => k_mem)) | (refine' alt_ne3 ?lx_q47 ?lh_q47 ?lm_q47; (case lx_q47 => assumption); (case lh_q47 => assumption); (case lm_q47 => k_mem)) | (refine' alt_ne4 ?lx_q47 ?lh_q47 ?lm_q47; (case lx_q47 => assumption); (case lh_q47 => assumption); (case lm_q47 => k_mem)) | (refine' Ne.symm ?_; assumption) | (refine neN ?_; refine' Ne.symm ?_; assumption) | (refine neN ?_; (try dsimp only); omega) | (refine' news_ne_cls ?nN_q47 ?n1_q47 ?n2_q47 ?n3_q47; (case nN_q47 => assumption); (case n1_q47 => k_mem); (case n2_q47 => k_mem); (case n3_q47 => (intro e9; exact absurd (Value.type.inj e9) (by decide)))) | (refine neN ?_; (try dsimp only); (simp only [List.forall_mem_cons] at *); omega)); (k_with "x_k_mem" => first | assumption | exact List.mem_cons_self | (refine' List.mem_cons_of_mem _ ?_; k_mem) | (refine' List.mem_append_left _ ?_; k_mem) | (refine' List.mem_append_right _ ?_; k_mem)); (k_with "x_k_upd" => first | exact Pull.head | (refine' Pull.tail ?b_q49; (case b_q49 => k_upd)) | (refine' Pull.under _ ?b_q49; (case b_q49 => k_upd))); (k_with "x_k_allIn" => first | assumption | (intro p9 h9; k_mem) | (refine' List.forall_mem_append.mpr ⟨?_, ?_⟩; (focus k_allIn); k_allIn) | exact List.forall_mem_nil _ | exact sub_l (by assumption)); (k_with "x_k_enter" => first | ktr_enter | (refine' code_def ?k1_q51 ?k2_q51 ?k3_q51 ?k4_q51 ?k5_q51 ?kA_q51 ?kF_q51 ?kK_q51 ?k6_q51 ?k7_q51 ?k8_q51 ?k9_q51 ?kB_q51 ?_ ?c2_q51 ?c3_q51 ?c4_q51 ?c5_q51; (case kA_q51 => exact rfl); (case kF_q51 => exact rfl); (case kK_q51 => first | exact rfl | assumption); (case k1_q51 => k_asm); (case k2_q51 => k_asm); (case k3_q51 => k_asm); (case k4_q51 => k_asm); (case k5_q51 => k_asm); (case k6_q51 => k_is); (case k7_q51 => k_is); (case k8_q51 => ktr_room); (case k9_q51 => exact binds_K (by k_in) rfl (by k_is) rfl rfl rfl); (case c5_q51 => decide); (case kB_q51 => exact locs rfl); (case c2_q51 => exact rfl); (case c3_q51 => exact rfl); (case c4_q51 => exact rfl); k_whole; intro g' L' h' FG' F' N' B' X' T'; (try dsimp only); (try k_fold))); exact trivial
end
end
section
noncomputable def OkT : Tm → Prop
  | .A x => OkName x ∧ x.length ≤ 100
  | .I v => 0 ≤ v ∧ v < 1000000000000000000000000000000
  | .S x d => alnumNameB x = true ∧ x ∉ OPN ∧ x.length ≤ 100 ∧ OkT d
theorem alnum_ne {x : Str} (h : alnumNameB x = true) : (x != Str.ofString "") = true ∧ 0 < x.length := by
  unfold alnumNameB at h
  split at h
  · cases h
  · rename_i c r e
    constructor
    · rw [bne_iff_ne]
      intro h2
      rw [h2] at e
      have e2 : (Str.ofString "").cps.toList = [] := by decide
      rw [e2] at e
      cases e
    · have : x.cps.toList.length = x.length := by simp [Str.length]
      rw [← this, e]; simp
theorem spell_ok {x : Str} (h : OkName x) (hl : x.length ≤ 100) : (spellB x != Str.ofString "") = true ∧ 0 < (spellB x).length ∧ (spellB x).length ≤ 1000 := by
  rcases h with h | rfl | rfl
  · rw [spell_alnum h]
    exact ⟨(alnum_ne h).1, (alnum_ne h).2, by omega⟩
  · decide +kernel
  · decide +kernel
theorem num_ok {v : Int} (h0 : 0 ≤ v) (h1 : v < 1000000000000000000000000000000) : (Str.ofString (toString v) != Str.ofString "") = true ∧ 0 < (Str.ofString (toString v)).length ∧ (Str.ofString (toString v)).length ≤ 1000 := by
  have hl := num_len h0 h1
  obtain ⟨n, rfl⟩ := Int.eq_ofNat_of_zero_le h0
  have e := str_int n
  have hp : 0 < (Str.ofString (toString (n : Int))).length := by
    rw [e]
    show 0 < (dig n).toArray.size
    rw [List.size_toArray]
    exact List.length_pos_iff.mpr (dig_ne n)
  refine ⟨?_, hp, hl⟩
  rw [bne_iff_ne]
  intro h2
  rw [h2] at hp
  exact absurd hp (by decide)
theorem we_end {h₀ h : Heap} {L wd ot wk : Addr} {W O : Obj} {rest : List (Addr × Obj)} {its : List Value} {n : Nat} {xs : List Str} {fs : List (List Int)} {d : Tm} (hm : moreT d = []) (N : News h₀ L h ((wd, W) :: (ot, O) :: (wk, listOf its.toArray n) :: rest)) :
    ∃ (ext : List Value) (tl : List (Addr × Obj)), (∀ p ∈ tl, p.1 ≠ wd) ∧ (∀ p ∈ tl, p.1 ≠ ot) ∧ (∀ p ∈ tl, p.1 ≠ wk) ∧ News h₀ L h ((wd, W) :: (ot, O) :: (wk, listOf (its ++ ext).toArray n) :: (rest ++ tl)) ∧ StkAre (rest ++ tl) xs fs ext.reverse (moreT d) :=
  ⟨[], [], List.forall_mem_nil _, List.forall_mem_nil _, List.forall_mem_nil _, by rw [List.append_nil, List.append_nil]; exact N, by rw [hm]; exact .nil⟩
section
variable {w : World} {p : Program} {loose : List Str} {mean : ExcName → Option Value} {mg mb : Str → Option Value} {dp un : Nat} {gd : Option (List Code)} {cn : Str} {cs : Scope} {a : Addr} {ccd : Value} {cl : List (Str × Addr)} {outer : List Env} {A₀ : Around} {base h₀ : Heap} {L : Addr} {m : Str → Option Value} {s : Shared} {Q E : Value → Shared → Prop} {news rest : List (Addr × Obj)}
variable {wa wd op nm tk ot wk b : Addr} {k : Fin 11 → Tok} {lst : Str} {lt : Tok} {led : List (Addr × Obj)} {xs : List Str} {fs : List (List Int)}
theorem number_text_use {v : Int} {tk : Tok} (B : Below A₀ base outer h₀) (F : Fr h₀ L s.heap m) (X : (Mine.kk.heap_1 w.params).In h₀) (T : Top p loose mean mg mb h₀) (hk : cs.kind = .function) (hd : dp + 5 < recursionLimit) (hu : un + 60 < cLine) (h0 : 0 ≤ v) (h1 : v < 1000000000000000000000000000000) (N : News h₀ L s.heap news)
  (hret : ∀ t h' tk', Fr h₀ L h' m → News h₀ L h' news → Q (.str (Str.ofString (toString v)) t) { s with heap := h', toks := tk' }) :
  wpAny (model PySem.Challenge.rw_ok0024_01.row.prog w) (ktrTop dp un gd cn cs L a ccd cl outer) (call (.ref 175) [.int v tk]) Q E s := by
  by_cases h : v < 1000000000000000000
  · exact number_text_small h0 h B F X T hk hd hu N hret
  · exact number_text_big (by omega) h1 B F X T hk hd hu N hret
theorem write_functional_use {outs its : List Value} {n n2 c1 c2 i j : Nat} {x : Str} {d : Tm} {ta ga : Addr} {v : Value} {u1 u2 : Tok} (B : Below A₀ base outer h₀) (F : Fr h₀ L s.heap m) (X : (Mine.kk.heap_1 w.params).In h₀) (T : Top p loose mean mg mb h₀) (hk : cs.kind = .function) (hd : dp + 20 < recursionLimit) (hu : un + 240 < cLine) (ok : OkT (.S x d)) (hl : lst = Str.ofString "" ∨ lst = Str.ofString "(") (hz1 : outs.length ≤ 100000) (hz2 : its.length ≤ 90000) (N : News h₀ L s.heap ((wd, wrD w k b op nm tk ot wk lst lt false) :: (ot, listOf outs.toArray n) :: (wk, listOf its.toArray n2) :: rest)) (hw : (wa, instObj 472 wd) ∈ rest) (n1 : @Ne Nat wd ot) (n3 : @Ne Nat wd wk) (n4 : @Ne Nat ot wk) (o1 : ∀ p ∈ rest, p.1 ≠ wd) (o2 : ∀ p ∈ rest, p.1 ≠ ot) (o3 : ∀ p ∈ rest, p.1 ≠ wk) (V : PEnv w rest b op xs fs)
  (ht : (ta, tupO [.str (Str.ofString "s") u1, .int i u2, .ref ga] c1) ∈ rest) (hg : (ga, tupO [v] c2) ∈ rest) (hx : xs[j]? = some x) (hf : fs[i]? = some [((j : Nat) : Int), 1]) (hd' : TmIn rest xs fs v d)
  (hret : ∀ lt' t n' n'' ext tl h' tk', (∀ p ∈ tl, p.1 ≠ wd) → (∀ p ∈ tl, p.1 ≠ ot) → (∀ p ∈ tl, p.1 ≠ wk) → Fr h₀ L h' m → News h₀ L h' ((wd, wrD w k b op nm tk ot wk (lastOf x) lt' false) :: (ot, listOf (outs ++ [Value.str x t]).toArray n') :: (wk, listOf (its ++ ext).toArray n'') :: (rest ++ tl)) → StkAre (rest ++ tl) xs fs ext.reverse (moreT (.S x d)) → Q .none { s with heap := h', toks := tk' }) :
  wpAny (model PySem.Challenge.rw_ok0024_01.row.prog w) (ktrTop dp un gd cn cs L a ccd cl outer) (call (.ref 427) [.ref wa, .ref ta]) Q E s := by
  obtain ⟨restB, rest0, bd, tx, an, fu, fn, opd, pre, inf, pos, t1, t2, t3, t4, v1, v2, v3, v4, oTx, oAn, oFu, oFn, oPre, oInf, oPos, K, n9, R, S, hz, hs, hs0, m1, m2, hx0, hf0, hop, hopd, hpre, hpos, O, hD, l1, l2⟩ := V
  exact write_functional_spec (spell_alnum ok.1) (Or.inl ok.1) B F X T hk hd hu N hw n1 n3 n4 o1 o2 o3 hz1 hz2 R S (by omega) hs0 m1 m2 hs ht hg hx hf hl (alnum_ne ok.1).1 (alnum_ne ok.1).2 (by have := ok.2.2.1; omega) hd' hret
theorem atom_text_V {i : Nat} {x : Str} {u : Tok} (B : Below A₀ base outer h₀) (F : Fr h₀ L s.heap m) (X : (Mine.kk.heap_1 w.params).In h₀) (T : Top p loose mean mg mb h₀) (hk : cs.kind = .function) (hd : dp + 16 < recursionLimit) (hu : un + 200 < cLine) (ok : OkName x) (N : News h₀ L s.heap led) (V : PEnv w led b op xs fs) (hx : xs[i]? = some x)
  (hret : ∀ t h' tk', Fr h₀ L h' m → News h₀ L h' led → Q (.str (spellB x) t) { s with heap := h', toks := tk' }) :
  wpAny (model PySem.Challenge.rw_ok0024_01.row.prog w) (ktrTop dp un gd cn cs L a ccd cl outer) (call (.ref 313) [.ref b, .int i u, .bool true]) Q E s := by
  obtain ⟨restB, rest0, bd, tx, an, fu, fn, opd, pre, inf, pos, t1, t2, t3, t4, v1, v2, v3, v4, oTx, oAn, oFu, oFn, oPre, oInf, oPos, K, n9, R, S, hz, hs, hs0, m1, m2, hx0, hf0, hop, hopd, hpre, hpos, O, hD, l1, l2⟩ := V
  exact atom_text_spec ok B F X T hk hd hu N R S (by omega) hs0 m1 hs hx hret
end
section
local macro_rules | `(tactic| k_allIn) => `(tactic| k_extra "x_k_allIn")
example : True := by (k_with "x_k_allIn" => first | assumption | (refine' sub_c ?s9_q113; (case s9_q113 => k_allIn))); exact trivial
example : True := by (k_with "call ref" => (k_here; k_dflt (refine' number_text_use ?B_q114 ?F_q114 ?X_q114 ?T_q114 ?K_q114 ?d_q114 ?u_q114 ?h0_q114 ?h1_q114 ?N_q114 ?_; (case F_q114 => k_asm); (case B_q114 => k_asm); (case X_q114 => k_asm); (case T_q114 => k_asm); (case K_q114 => first | exact rfl | assumption); (case d_q114 => k_room); (case u_q114 => ktr_units); (case h0_q114 => assumption); (case h1_q114 => assumption); (case N_q114 => k_asm)); intro t' h' tk' F' N'; (try dsimp only at N'); (try k_sweep); walk_say "number_text_use")); exact trivial
example : True := by (k_with "call ref" => (k_here; k_dflt (refine' atom_text_V ?B_q115 ?F_q115 ?X_q115 ?T_q115 ?K_q115 ?d_q115 ?u_q115 ?ok_q115 ?N_q115 ?V_q115 ?hx_q115 ?_; (case F_q115 => k_asm); (case B_q115 => k_asm); (case X_q115 => k_asm); (case T_q115 => k_asm); (case K_q115 => first | exact rfl | assumption); (case d_q115 => k_room); (case u_q115 => ktr_units); (case ok_q115 => assumption); (case N_q115 => k_asm); (case V_q115 => (refine' PEnv.mono ?s_q115 (by assumption); (case s_q115 => k_allIn))); (case hx_q115 => assumption)); intro t' h' tk' F' N'; (try dsimp only at N'); (try k_sweep); walk_say "atom_text_V")); exact trivial
example : True := by (k_with "call ref" => (k_here; k_dflt (refine' shape_none ?B_q116 ?F_q116 ?X_q116 ?T_q116 ?K_q116 ?d_q116 ?u_q116 ?N_q116 ?hw_q116 ?hwd_q116 ?V_q116 ?ht_q116 ?hg_q116 ?hx_q116 ?hf_q116 ?ha_q116 ?ho_q116 ?_; (case F_q116 => k_asm); (case B_q116 => k_asm); (case X_q116 => k_asm); (case T_q116 => k_asm); (case K_q116 => first | exact rfl | assumption); (case d_q116 => k_room); (case u_q116 => ktr_units); (case N_q116 => k_asm); (case hw_q116 => k_mem); (case hwd_q116 => k_mem); (case V_q116 => (refine' PEnv.mono ?s_q116 (by assumption); (case s_q116 => k_allIn))); (case ht_q116 => k_mem); (case hg_q116 => k_mem); (case hx_q116 => assumption); (case hf_q116 => assumption); (case ha_q116 => assumption); (case ho_q116 => assumption)); intro h' tk' F' N'; (try dsimp only at N'); (try k_sweep); walk_say "shape_none")); exact trivial
example : True := by (k_with "call ref" => (k_here; k_dflt (refine' write_functional_use ?B_q117 ?F_q117 ?X_q117 ?T_q117 ?K_q117 ?d_q117 ?u_q117 ?ok_q117 ?hl_q117 ?hz1_q117 ?hz2_q117 ?N_q117 ?hw_q117 ?n1_q117 ?n3_q117 ?n4_q117 ?o1_q117 ?o2_q117 ?o3_q117 ?V_q117 ?ht_q117 ?hg_q117 ?hx_q117 ?hf_q117 ?hd'_q117 ?_; (case F_q117 => k_asm); (case B_q117 => k_asm); (case X_q117 => k_asm); (case T_q117 => k_asm); (case K_q117 => first | exact rfl | assumption); (case d_q117 => k_room); (case u_q117 => ktr_units); (case ok_q117 => assumption); (case N_q117 => k_asm); (case hl_q117 => assumption); (case hz1_q117 => assumption); (case hz2_q117 => assumption); (case hw_q117 => assumption); (case n1_q117 => assumption); (case n3_q117 => assumption); (case n4_q117 => assumption); (case o1_q117 => assumption); (case o2_q117 => assumption); (case o3_q117 => assumption); (case V_q117 => assumption); (case ht_q117 => assumption); (case hg_q117 => assumption); (case hx_q117 => assumption); (case hf_q117 => assumption); (case hd'_q117 => assumption)); intro lt' t' n' n'' ext' tl' h' tk' q1' q2' q3' F' N' st'; (try dsimp only at N'); (try k_sweep); walk_say "write_functional_use")); exact trivial
example : True := by (k_with "call ref" => (k_here; k_dflt (refine' token_use ?l_q118 ?x_q118 ?xp_q118 ?xl_q118 ?B_q118 ?F_q118 ?X_q118 ?T_q118 ?K_q118 ?d_q118 ?u_q118 ?N_q118 ?h1_q118 ?h2_q118 ?P1_q118 ?P2_q118 ?w_q118 ?o1_q118 ?o2_q118 ?ne_q118 ?z_q118 ?_; (case B_q118 => k_asm); (case F_q118 => k_asm); (case X_q118 => k_asm); (case T_q118 => k_asm); (case K_q118 => first | exact rfl | assumption); (case d_q118 => k_room); (case u_q118 => ktr_units); (case N_q118 => k_asm); (case h1_q118 => k_mem); (case h2_q118 => k_mem); (case P1_q118 => k_upd); (case P2_q118 => k_upd); (case w_q118 => k_mem); (case o1_q118 => k_all); (case o2_q118 => k_all); (case ne_q118 => assumption); (case z_q118 => assumption); (case x_q118 => assumption); (case xp_q118 => assumption); (case xl_q118 => assumption); (case l_q118 => assumption)); intro h' tk' lt' F' N'; (try k_sweep); walk_say "token")); exact trivial
example : True := by (k_with "ite" => (k_here; k_openite; refine ite_isFalse (decide_eq_false (by with_reducible assumption)) ?_; walk_say "P1")); exact trivial
variable {w : World} {p : Program} {loose : List Str} {mean : ExcName → Option Value} {mg mb : Str → Option Value} {dp un : Nat} {gd : Option (List Code)} {cn : Str} {cs : Scope} {a : Addr} {ccd : Value} {cl : List (Str × Addr)} {outer : List Env} {A₀ : Around} {base h₀ : Heap} {L : Addr} {m : Str → Option Value} {s : Shared} {Q E : Value → Shared → Prop} {news rest : List (Addr × Obj)}
variable {wa wd op nm tk ot wk b : Addr} {k : Fin 11 → Tok} {lst : Str} {lt : Tok} {xs : List Str} {fs : List (List Int)}
theorem write_spec {outs its : List Value} {n n2 : Nat} {d : Tm} {v : Value} {l : Int} {u : Tok} (B : Below A₀ base outer h₀) (F : Fr h₀ L s.heap m) (X : (Mine.kk.heap_1 w.params).In h₀) (T : Top p loose mean mg mb h₀) (hk : cs.kind = .function) (hd : dp + 30 < recursionLimit) (hu : un + 400 < cLine) (ok : OkT d) (hl : lst = Str.ofString "" ∨ lst = Str.ofString "(") (hz1 : outs.length ≤ 100000) (hz2 : its.length ≤ 90000) (N : News h₀ L s.heap ((wd, wrD w k b op nm tk ot wk lst lt false) :: (ot, listOf outs.toArray n) :: (wk, listOf its.toArray n2) :: rest)) (hw : (wa, instObj 472 wd) ∈ rest) (n1 : @Ne Nat wd ot) (n3 : @Ne Nat wd wk) (n4 : @Ne Nat ot wk) (o1 : ∀ p ∈ rest, p.1 ≠ wd) (o2 : ∀ p ∈ rest, p.1 ≠ ot) (o3 : ∀ p ∈ rest, p.1 ≠ wk) (V : PEnv w rest b op xs fs) (hd' : TmIn rest xs fs v d)
  (hret : ∀ lt' t n' n'' ext tl h' tk', (∀ p ∈ tl, p.1 ≠ wd) → (∀ p ∈ tl, p.1 ≠ ot) → (∀ p ∈ tl, p.1 ≠ wk) → Fr h₀ L h' m → News h₀ L h' ((wd, wrD w k b op nm tk ot wk (lastOf (headT d)) lt' false) :: (ot, listOf (outs ++ [Value.str (headT d) t]).toArray n') :: (wk, listOf (its ++ ext).toArray n'') :: (rest ++ tl)) → StkAre (rest ++ tl) xs fs ext.reverse (moreT d) → Q .none { s with heap := h', toks := tk' }) :
  wpAny (model PySem.Challenge.rw_ok0024_01.row.prog w) (ktrTop dp un gd cn cs L a ccd cl outer) (call (.ref 392) [.ref wa, v, .int l u, .bool true]) Q E s := by
  cases d with
  | A x =>
    obtain ⟨ta, i, t1, u1, c1, rfl, ht, hx⟩ := hd'
    obtain ⟨ok1, ok2⟩ := ok
    obtain ⟨y1, y2, y3⟩ := spell_ok ok1 ok2
    have y4 : (spellB x).length ≤ 100000 := by omega
    revert X; k_fill; intro X
    refine wpAny_call ?_
    k_dflt k_enter
    (refine sq_A ?_; intro A9)
    k_steps
    rename News _ _ _ _ => kN
    rename Fr _ _ _ _ => kF
    obtain ⟨ext, tl, q1, q2, q3, q4, q5⟩ := we_end (xs := xs) (fs := fs) (d := .A x) rfl kN
    exact hret _ _ _ _ ext tl _ _ q1 q2 q3 kF q4 q5
  | I v =>
    obtain ⟨ta, t1, u1, c1, rfl, ht⟩ := hd'
    obtain ⟨ok1, ok2⟩ := ok
    obtain ⟨y1, y2, y3⟩ := num_ok ok1 ok2
    have y4 : (Str.ofString (toString v)).length ≤ 100000 := by omega
    revert X; k_fill; intro X
    refine wpAny_call ?_
    k_dflt k_enter
    (refine sq_A ?_; intro A9)
    k_steps
    rename News _ _ _ _ => kN
    rename Fr _ _ _ _ => kF
    obtain ⟨ext, tl, q1, q2, q3, q4, q5⟩ := we_end (xs := xs) (fs := fs) (d := .I v) rfl kN
    exact hret _ _ _ _ ext tl _ _ q1 q2 q3 kF q4 q5
  | S x d =>
    obtain ⟨ta, ga, i, j, v', t1, u1, c1, c2, rfl, ht, hg, hx, hf, hdd⟩ := hd'
    obtain ⟨ok1, ok2, ok3, ok4⟩ := id ok
    obtain ⟨hi0, hi9⟩ : ¬ ((i : Nat) : Int) = 0 ∧ ¬ ((i : Nat) : Int) = 9 := by
      obtain ⟨restB, rest0, bd, tx, an, fu, fn, opd, pre, inf, pos, t1, t2, t3, t4, v1, v2, v3, v4, oTx, oAn, oFu, oFn, oPre, oInf, oPos, K, n9, R, S, hz, hs, hs0, m1, m2, hx0, hf0, _⟩ := V
      exact not_fixed hx0 hf0 hx hf ok1
    revert X; k_fill; intro X
    refine wpAny_call ?_
    k_dflt k_enter
    (refine sq_A ?_; intro A9)
    k_steps
    rename StkAre _ _ _ _ _ => kS
    exact hret _ _ _ _ _ _ _ _ (by assumption) (by assumption) (by assumption) (by assumption) (by assumption) kS
example : True := by k_with_none; (k_with "x_k_room" => ((try simp (config := {zetaDelta := true}) only [depth_under_make, depth_under_kw, depth_in1, depth_deeper, depth_caller]); (try dsimp only [ktrTop]); (first | (refine' rm0 ?ha_q41; (case ha_q41 => assumption)) | (refine' rm1 ?ha_q41 ?hb_q41; (case ha_q41 => assumption); (case hb_q41 => exact rfl)) | (refine' rm2 ?ha_q41 ?hb_q41; (case ha_q41 => assumption); (case hb_q41 => exact rfl)) | (refine' rm3 ?ha_q41 ?hb_q41; (case ha_q41 => assumption); (case hb_q41 => exact rfl)) | (refine' rm4 ?ha_q41 ?hb_q41; (case ha_q41 => assumption); (case hb_q41 => exact rfl)) | omega))); (k_with "x_ktr_units" => ((try simp (config := {zetaDelta := true}) only [units_under_make, units_in1, units_deeper, Around.mark_units, units_caller]); (try dsimp only [ktrTop]); (first | (refine' rm0 ?ha_q42; (case ha_q42 => assumption)) | (refine' rm1 ?ha_q42 ?hb_q42; (case ha_q42 => assumption); (case hb_q42 => exact rfl)) | (refine' rm2 ?ha_q42 ?hb_q42; (case ha_q42 => assumption); (case hb_q42 => exact rfl)) | (refine' rm3 ?ha_q42 ?hb_q42; (case ha_q42 => assumption); (case hb_q42 => exact rfl)) | (refine' rm4 ?ha_q42 ?hb_q42; (case ha_q42 => assumption); (case hb_q42 => exact rfl)) | omega))); (k_with "execs cons" => (k_here; (with_reducible refine sq_tok ?_); intro tk')); (k_with "subscriptTail Name Constant ref int" => (k_here; (with_reducible show wpAny _ _ (subscriptTail _ _ (Value.ref _) (Value.int _ _)) _ _ _); k_dflt (first | (refine' item_tupleT ?t_q44 ?a_q44 ?b_q44 ?c_q44 ?d_q44 ?_; (case t_q44 => (refine' News.isTup ?t1_q44 ?t2_q44; (case t1_q44 => k_asm); (case t2_q44 => k_mem))); (case a_q44 => decide); (case b_q44 => decide); (case c_q44 => rfl); (case d_q44 => rfl); k_whole) | (refine' c_item_lit ?N_q44 ?m_q44 ?a2_q44 ?b2_q44 ?d2_q44 ?_; (case N_q44 => k_asm); (case m_q44 => k_mem); (case a2_q44 => decide); (case b2_q44 => decide); (case d2_q44 => rfl); k_whole)))); (k_with "eval Call Name" => (k_here; with_unfolding_all refine Call_ ?_)); (k_with "x_k_all" => first | assumption | exact List.forall_mem_nil _ | (refine' List.forall_mem_append.mpr ⟨?_, ?_⟩; (focus k_all); k_all) | (refine' List.forall_mem_cons.mpr ⟨?_, ?_⟩; (focus k_ne); k_all) | exact allNeP (by assumption) | (refine' Above.off ?hA_q46 ?hM_q46; (case hA_q46 => assumption); (case hM_q46 => k_mem)) | (refine' alt_all ?lh_q46 ?ls_q46; (case lh_q46 => assumption); (case ls_q46 => k_allIn)) | exact allNe0 (by assumption) | exact allNe1 (by assumption) | exact allNe2 (by assumption) | exact allNe3 (by assumption) | exact allNe4 (by assumption) | exact allNe5 (by assumption) | exact allNe6 (by assumption)); (k_with "x_k_ne" => first | assumption | (refine' alt_ne1 ?lh_q47 ?lm_q47; (case lh_q47 => assumption); (case lm_q47 => k_mem)) | (refine' alt_ne2 ?lh_q47 ?lm_q47; (case lh_q47 => assumption); (case lm_q47 => k_mem)) | (refine' alt_ne3 ?lx_q47 ?lh_q47 ?lm_q47; (case lx_q47 => assumption); (case lh_q47 => assumption); (case lm_q47 => k_mem)) | (refine' alt_ne4 ?lx_q47 ?lh_q47 ?lm_q47; (case lx_q47 => assumption); (case lh_q47 => assumption); (case lm_q47 => k_mem)) | (refine' Ne.symm ?_; assumption) | (refine neN ?_; refine' Ne.symm ?_; assumption) | (refine neN ?_; (try dsimp only); omega) | (refine' news_ne_cls ?nN_q47 ?n1_q47 ?n2_q47 ?n3_q47; (case nN_q47 => assumption); (case n1_q47 => k_mem); (case n2_q47 => k_mem); (case n3_q47 => (intro e9; exact absurd (Value.type.inj e9) (by decide)))) | (refine neN ?_; (try dsimp only); (simp only [List.forall_mem_cons] at *); omega)); (k_with "x_k_mem" => first | assumption | exact List.mem_cons_self | (refine' List.mem_cons_of_mem _ ?_; k_mem) | (refine' List.mem_append_left _ ?_; k_mem) | (refine' List.mem_append_right _ ?_; k_mem)); (k_with "x_k_upd" => first | exact Pull.head | (refine' Pull.tail ?b_q49; (case b_q49 => k_upd)) | (refine' Pull.under _ ?b_q49; (case b_q49 => k_upd))); (k_with "x_k_allIn" => first | assumption | (intro p9 h9; k_mem) | (refine' List.forall_mem_append.mpr ⟨?_, ?_⟩; (focus k_allIn); k_allIn) | exact List.forall_mem_nil _ | exact sub_l (by assumption)); (k_with "x_k_enter" => first | ktr_enter | (refine' code_def ?k1_q51 ?k2_q51 ?k3_q51 ?k4_q51 ?k5_q51 ?kA_q51 ?kF_q51 ?kK_q51 ?k6_q51 ?k7_q51 ?k8_q51 ?k9_q51 ?kB_q51 ?_ ?c2_q51 ?c3_q51 ?c4_q51 ?c5_q51; (case kA_q51 => exact rfl); (case kF_q51 => exact rfl); (case kK_q51 => first | exact rfl | assumption); (case k1_q51 => k_asm); (case k2_q51 => k_asm); (case k3_q51 => k_asm); (case k4_q51 => k_asm); (case k5_q51 => k_asm); (case k6_q51 => k_is); (case k7_q51 => k_is); (case k8_q51 => ktr_room); (case k9_q51 => exact binds_K (by k_in) rfl (by k_is) rfl rfl rfl); (case c5_q51 => decide); (case kB_q51 => exact locs rfl); (case c2_q51 => exact rfl); (case c3_q51 => exact rfl); (case c4_q51 => exact rfl); k_whole; intro g' L' h' FG' F' N' B' X' T'; (try dsimp only); (try k_fold))); exact trivial
end
end
section
noncomputable def Fine : Str → List WI → Prop
  | _, [] => True
  | _, .raw x :: W => ((x != Str.ofString "") = true ∧ 0 < x.length ∧ x.length ≤ 100) ∧ Fine (lastOf x) W
  | l, .term d :: W => (l = Str.ofString "" ∨ l = Str.ofString "(") ∧ OkT d ∧ ∀ l', Fine l' W
noncomputable def pend : List WI → Str
  | [] => Str.ofString ""
  | .raw x :: W => x ++ pend W
  | .term d :: W => spell d ++ pend W
noncomputable def wsize : Tm → Nat
  | .S _ d => wsize d + 4
  | _ => 1
noncomputable def msize : List WI → Nat
  | [] => 0
  | .raw _ :: W => 1 + msize W
  | .term d :: W => wsize d + msize W
theorem wsize_pos : ∀ d : Tm, 1 ≤ wsize d
  | .S _ d => by show 1 ≤ wsize d + 4; omega
  | .A _ => Nat.le_refl _
  | .I _ => Nat.le_refl _
theorem msize_more (d : Tm) (W : List WI) : msize (moreT d ++ W) < wsize d + msize W := by
  cases d with
  | A x => show msize W < 1 + msize W; omega
  | I x => show msize W < 1 + msize W; omega
  | S x d => show 1 + (wsize d + (1 + msize W)) < wsize d + 4 + msize W; omega
theorem pend_append : ∀ (V W : List WI), pend (V ++ W) = pend V ++ pend W
  | [], W => by show pend W = Str.ofString "" ++ pend W; rw [show Str.ofString "" = Str.empty from rfl, Str.empty_append]
  | .raw x :: V, W => by show x ++ pend (V ++ W) = x ++ pend V ++ pend W; rw [pend_append V W, Str.append_assoc]
  | .term d :: V, W => by show spell d ++ pend (V ++ W) = spell d ++ pend V ++ pend W; rw [pend_append V W, Str.append_assoc]
theorem app_empty (x : Str) : x ++ Str.ofString "" = x := Str.append_empty x
theorem spell_split (d : Tm) (W : List WI) : spell d ++ pend W = headT d ++ pend (moreT d ++ W) := by
  cases d with
  | A x => rfl
  | I v => rfl
  | S x d =>
    rw [pend_append]
    show x ++ Str.ofString "(" ++ spell d ++ Str.ofString ")" ++ pend W = x ++ (Str.ofString "(" ++ (spell d ++ (Str.ofString ")" ++ Str.ofString "")) ++ pend W)
    rw [app_empty]
    simp only [Str.append_assoc]
theorem fine_more {d : Tm} {W : List WI} (ok : OkT d) (h : ∀ l, Fine l W) : Fine (lastOf (headT d)) (moreT d ++ W) := by
  cases d with
  | A x => exact h _
  | I v => exact h _
  | S x d => exact ⟨by decide, Or.inr (by decide), ok.2.2.2, fun l => ⟨by decide, h _⟩⟩
theorem msize_len : ∀ W : List WI, W.length ≤ msize W
  | [] => Nat.le_refl _
  | .raw _ :: W => by have := msize_len W; show W.length + 1 ≤ 1 + msize W; omega
  | .term d :: W => by have := msize_len W; have := wsize_pos d; show W.length + 1 ≤ wsize d + msize W; omega
theorem StkAre.length {led : List (Addr × Obj)} {xs : List Str} {fs : List (List Int)} {r : List Value} {W : List WI} (S : StkAre led xs fs r W) : r.length = W.length := by
  induction S with
  | nil => rfl
  | cons _ _ ih => simp [ih]
theorem joinE (ys : List Str) : Txt.join (Str.ofString "") ys = Str.join (Str.ofString "") ys := StrLaws.glued_eq_join _ _
theorem joinE_snoc (ys : List Str) (y : Str) : Txt.join (Str.ofString "") (ys ++ [y]) = Txt.join (Str.ofString "") ys ++ y := by
  rw [joinE, joinE, PyProof.Rows.FinIter.join_snoc]
  split
  · rename_i h; subst h; exact (Str.empty_append y).symm
  · rw [app_empty]
structure TW where
  lst : Str
  lt : Tok
  outs : List Value
  n : Nat
  its : List Value
  n2 : Nat
  tl : List (Addr × Obj)
  ys : List Str
  W : List WI
noncomputable def TwLed (w : World) (k : Fin 11 → Tok) (b op nm tk ot wk wd : Addr) (rest : List (Addr × Obj)) (c : TW) : List (Addr × Obj) :=
  (wd, wrD w k b op nm tk ot wk c.lst c.lt false) :: (ot, listOf c.outs.toArray c.n) :: (wk, listOf c.its.toArray c.n2) :: (rest ++ c.tl)
structure TwOk (rest : List (Addr × Obj)) (xs : List Str) (fs : List (List Int)) (wd ot wk : Addr) (total : Str) (c : TW) : Prop where
  ys : StrsAre c.outs c.ys
  st : StkAre (rest ++ c.tl) xs fs c.its.reverse c.W
  q1 : ∀ p ∈ c.tl, p.1 ≠ wd
  q2 : ∀ p ∈ c.tl, p.1 ≠ ot
  q3 : ∀ p ∈ c.tl, p.1 ≠ wk
  fine : Fine c.lst c.W
  tot : Txt.join (Str.ofString "") c.ys ++ pend c.W = total
  len : (c.ys.map (·.length)).sum + (pend c.W).length = total.length
  sz : c.ys.length + msize c.W ≤ 100
theorem TwOk.outs {rest : List (Addr × Obj)} {xs : List Str} {fs : List (List Int)} {wd ot wk : Addr} {total : Str} {c : TW} (h : TwOk rest xs fs wd ot wk total c) : c.outs.length ≤ 100000 := by
  have := h.ys.length; have := h.sz; omega
theorem TwOk.its {rest : List (Addr × Obj)} {xs : List Str} {fs : List (List Int)} {wd ot wk : Addr} {total : Str} {c : TW} (h : TwOk rest xs fs wd ot wk total c) : c.its.length ≤ 90000 := by
  have h1 := h.st.length; rw [List.length_reverse] at h1
  have := msize_len c.W; have := h.sz; omega
theorem stk_nil {led : List (Addr × Obj)} {xs : List Str} {fs : List (List Int)} {its : List Value} (S : StkAre led xs fs its.reverse []) : its = [] := by
  have h := S.length
  rw [List.length_reverse] at h
  exact List.length_eq_zero_iff.mp h
theorem stk_pop {led : List (Addr × Obj)} {xs : List Str} {fs : List (List Int)} {its : List Value} {e : WI} {W : List WI} (S : StkAre led xs fs its.reverse (e :: W)) : ∃ its' v, its = its' ++ [v] ∧ WiIn led xs fs v e ∧ StkAre led xs fs its'.reverse W := by
  generalize hr : its.reverse = r at S
  cases S with
  | cons h1 h2 =>
    rename_i v r'
    refine ⟨r'.reverse, v, ?_, h1, by rw [List.reverse_reverse]; exact h2⟩
    rw [← List.reverse_reverse its, hr, List.reverse_cons]
section
variable {w : World} {h₀ : Heap} {L wa wd op nm tk ot wk b : Addr} {k : Fin 11 → Tok} {xs : List Str} {fs : List (List Int)} {rest r led : List (Addr × Obj)} {total : Str} {its outs : List Value} {lst : Str} {lt : Tok} {n n2 : Nat} {tl : List (Addr × Obj)} {ys : List Str} {W : List WI} {v : Value}
theorem tw_raw {x : Str} {lt' u : Tok} {n' n2' : Nat} (hr : r = rest ++ tl) (h : TwOk rest xs fs wd ot wk total ⟨lst, lt, outs, n, its ++ [v], n2, tl, ys, .raw x :: W⟩) :
    TwOk rest xs fs wd ot wk total ⟨lastOf x, lt', outs ++ [Value.str x u], n', its, n2', tl, ys ++ [x], W⟩ ∧ msize W < msize (.raw x :: W) := by
  obtain ⟨h1, h2, h3, h4, h5, h6, h7, h8, h9⟩ := h
  obtain ⟨i2, v2, e, _, h2'⟩ := stk_pop h2
  have e2 := List.append_inj_left' e rfl
  refine ⟨⟨h1.append' (.cons _ _ .nil), by rw [show its = i2 from e2]; exact h2', h3, h4, h5, h6.2, ?_, ?_, ?_⟩, by show msize W < 1 + msize W; omega⟩
  · show Txt.join (Str.ofString "") (ys ++ [x]) ++ pend W = total
    rw [joinE_snoc, Str.append_assoc]; exact h7
  · show ((ys ++ [x]).map (·.length)).sum + (pend W).length = total.length
    have h8' : (ys.map (·.length)).sum + (x ++ pend W).length = total.length := h8
    rw [Str.length_append] at h8'
    simp only [List.map_append, List.map_cons, List.map_nil, List.sum_append, List.sum_cons, List.sum_nil]
    omega
  · show (ys ++ [x]).length + msize W ≤ 100
    have : ys.length + (1 + msize W) ≤ 100 := h9
    simp; omega
theorem tw_term {d : Tm} {lt' u : Tok} {n' n2' : Nat} {ext : List Value} {tl2 : List (Addr × Obj)} (h : TwOk rest xs fs wd ot wk total ⟨lst, lt, outs, n, its ++ [v], n2, tl, ys, .term d :: W⟩) (q1 : ∀ p ∈ tl2, p.1 ≠ wd) (q2 : ∀ p ∈ tl2, p.1 ≠ ot) (q3 : ∀ p ∈ tl2, p.1 ≠ wk) (st : StkAre (rest ++ tl ++ tl2) xs fs ext.reverse (moreT d)) :
    TwOk rest xs fs wd ot wk total ⟨lastOf (headT d), lt', outs ++ [Value.str (headT d) u], n', its ++ ext, n2', tl ++ tl2, ys ++ [headT d], moreT d ++ W⟩ ∧ msize (moreT d ++ W) < msize (.term d :: W) := by
  obtain ⟨h1, h2, h3, h4, h5, h6, h7, h8, h9⟩ := h
  obtain ⟨i2, v2, e, _, h2'⟩ := stk_pop h2
  have e2 := List.append_inj_left' e rfl
  have hs := msize_more d W
  refine ⟨⟨h1.append' (.cons _ _ .nil), ?_, List.forall_mem_append.mpr ⟨h3, q1⟩, List.forall_mem_append.mpr ⟨h4, q2⟩, List.forall_mem_append.mpr ⟨h5, q3⟩, fine_more h6.2.1 h6.2.2, ?_, ?_, ?_⟩, hs⟩
  · show StkAre (rest ++ (tl ++ tl2)) xs fs (its ++ ext).reverse (moreT d ++ W)
    rw [List.reverse_append, ← List.append_assoc, show its = i2 from e2]
    exact st.append (h2'.mono fun p hp => List.mem_append_left _ hp)
  · show Txt.join (Str.ofString "") (ys ++ [headT d]) ++ pend (moreT d ++ W) = total
    rw [joinE_snoc, Str.append_assoc, ← spell_split]; exact h7
  · show ((ys ++ [headT d]).map (·.length)).sum + (pend (moreT d ++ W)).length = total.length
    have h8' : (ys.map (·.length)).sum + (spell d ++ pend W).length = total.length := h8
    rw [spell_split, Str.length_append] at h8'
    simp only [List.map_append, List.map_cons, List.map_nil, List.sum_append, List.sum_cons, List.sum_nil]
    omega
  · show (ys ++ [headT d]).length + msize (moreT d ++ W) ≤ 100
    have : ys.length + (wsize d + msize W) ≤ 100 := h9
    simp; omega
end
end
section
section
variable {prog : Program} {w : World} {A : Around} {E : Value → Shared → Prop} {Q : Flow → Shared → Prop} {s : Shared} {env : Env} {h₀ : Heap}
variable {wa wd op nm tk ot wk b : Addr} {k : Fin 11 → Tok} {xs : List Str} {fs : List (List Int)} {rest led r1 r2 : List (Addr × Obj)}
noncomputable abbrev twEnd (w : World) (k : Fin 11 → Tok) (b op nm tk ot wk wd : Addr) (rest : List (Addr × Obj)) (xs : List Str) (fs : List (List Int)) (total : Str) (stored : List Str) (h₀ : Heap) (L : Addr) (s : Shared) (m₀ : Str → Option Value) (c : TW) (s₂ : Shared) : Prop :=
  KswEnd h₀ L s (TwLed w k b op nm tk ot wk wd rest) (fun _ => []) (TwOk rest xs fs wd ot wk total) stored m₀ (fun _ => True) (fun c => msize c.W) c s₂
noncomputable abbrev twPost (w : World) (k : Fin 11 → Tok) (b op nm tk ot wk wd : Addr) (rest : List (Addr × Obj)) (xs : List Str) (fs : List (List Int)) (total : Str) (stored : List Str) (h₀ : Heap) (L : Addr) (s : Shared) (m₀ : Str → Option Value) (Q : Flow → Shared → Prop) (c : TW) (f : Flow) (s₂ : Shared) : Prop :=
  KswPost h₀ L s (TwLed w k b op nm tk ot wk wd rest) (fun _ => []) (TwOk rest xs fs wd ot wk total) stored m₀ (fun _ => True) (fun c => msize c.W) Q c f s₂
theorem text_while {test : PySem.Expr} {body : List Stmt} {pos : Pos} {m₀ : Str → Option Value} {lt0 : Tok} {n n2 : Nat} {v : Value} {d : Tm} (stored : List Str)
    (F : Fr h₀ env.locals s.heap m₀) (N : News h₀ env.locals s.heap led) (hw0 : (wa, instObj 472 wd) ∈ led) (hwd0 : (wd, wrD w k b op nm tk ot wk (Str.ofString "") lt0 false) ∈ led) (P1 : Pull wd (wrD w k b op nm tk ot wk (Str.ofString "") lt0 false) led r1) (P2 : Pull ot (listOf #[] n) r1 r2) (P3 : Pull wk (listOf #[v] n2) r2 rest) (hw : (wa, instObj 472 wd) ∈ rest) (o1 : ∀ p ∈ rest, p.1 ≠ wd) (o2 : ∀ p ∈ rest, p.1 ≠ ot) (o3 : ∀ p ∈ rest, p.1 ≠ wk) (V : PEnv w rest b op xs fs) (hv : WiIn rest xs fs v (.term d)) (ok : OkT d) (hsz : wsize d ≤ 100)
    (turnR : ∀ (total : Str) r x W a ta ua qa (ca : Nat) its (lst : Str) (lt : Tok) outs n n2 tl ys (u : Str → Option Value) h tk', total = spell d → r = rest ++ tl → (x != Str.ofString "") = true → 0 < x.length → x.length ≤ 100000 → (a, tupO [.str (Str.ofString "raw") ta, .str x ua, .int 0 qa, .bool false] ca) ∈ r → its.length ≤ 90000 → outs.length ≤ 100000 → (wa, instObj 472 wd) ∈ r → (∀ p ∈ r, p.1 ≠ wd) → (∀ p ∈ r, p.1 ≠ ot) → (∀ p ∈ r, p.1 ≠ wk) → TwOk rest xs fs wd ot wk total ⟨lst, lt, outs, n, its ++ [Value.ref a], n2, tl, ys, .raw x :: W⟩ → Fr h₀ env.locals h (fun z => if stored.contains z then u z else m₀ z) → News h₀ env.locals h ((wd, wrD w k b op nm tk ot wk lst lt false) :: (ot, listOf outs.toArray n) :: (wk, listOf (its ++ [Value.ref a]).toArray n2) :: r) →
      wpAny (model prog w) A (isTrue test env (eval test env)) (fun b' s₂ => if b' = true then wpAny (model prog w) A (execs body env) (twPost w k b op nm tk ot wk wd rest xs fs total stored h₀ env.locals s m₀ Q ⟨lst, lt, outs, n, its ++ [Value.ref a], n2, tl, ys, .raw x :: W⟩) E s₂ else Q .next s₂) E { s with heap := h, toks := tk' })
    (turnT : ∀ (total : Str) r d' W a v' l ta qa (ca : Nat) its (lst : Str) (lt : Tok) outs n n2 tl ys (u : Str → Option Value) h tk', total = spell d → r = rest ++ tl → OkT d' → (lst = Str.ofString "" ∨ lst = Str.ofString "(") → (a, tupO [.str (Str.ofString "term") ta, v', .int l qa, .bool true] ca) ∈ r → TmIn r xs fs v' d' → its.length ≤ 90000 → outs.length ≤ 100000 → (wa, instObj 472 wd) ∈ r → (∀ p ∈ r, p.1 ≠ wd) → (∀ p ∈ r, p.1 ≠ ot) → (∀ p ∈ r, p.1 ≠ wk) → PEnv w r b op xs fs → TwOk rest xs fs wd ot wk total ⟨lst, lt, outs, n, its ++ [Value.ref a], n2, tl, ys, .term d' :: W⟩ → Fr h₀ env.locals h (fun z => if stored.contains z then u z else m₀ z) → News h₀ env.locals h ((wd, wrD w k b op nm tk ot wk lst lt false) :: (ot, listOf outs.toArray n) :: (wk, listOf (its ++ [Value.ref a]).toArray n2) :: r) →
      wpAny (model prog w) A (isTrue test env (eval test env)) (fun b' s₂ => if b' = true then wpAny (model prog w) A (execs body env) (twPost w k b op nm tk ot wk wd rest xs fs total stored h₀ env.locals s m₀ Q ⟨lst, lt, outs, n, its ++ [Value.ref a], n2, tl, ys, .term d' :: W⟩) E s₂ else Q .next s₂) E { s with heap := h, toks := tk' })
    (fin : ∀ (P : TW → Flow → Shared → Prop) r (lst : Str) (lt : Tok) outs ys n n2 (u : Str → Option Value) h tk', (∀ p ∈ rest, p ∈ r) → (wa, instObj 472 wd) ∈ r → StrsAre outs ys → outs.length ≤ 100000 → Txt.join (Str.ofString "") ys = spell d → (ys.map (·.length)).sum = (spell d).length → Fr h₀ env.locals h (fun z => if stored.contains z then u z else m₀ z) → News h₀ env.locals h ((wd, wrD w k b op nm tk ot wk lst lt false) :: (ot, listOf outs.toArray n) :: (wk, listOf (#[] : Array Value) n2) :: r) →
      wpAny (model prog w) A (isTrue test env (eval test env)) (fun b' s₂ => if b' = true then False else Q .next s₂) E { s with heap := h, toks := tk' })
    (hE : PassesOwn (model prog w) A env E := by passes_own) :
    wpAny (model prog w) A (exec (.While test body [] pos) env) Q E s := by
  have hok : TwOk rest xs fs wd ot wk (spell d) ⟨Str.ofString "", lt0, [], n, [v], n2, [], [], [.term d]⟩ :=
    ⟨.nil, .cons (by rw [List.append_nil]; exact hv) .nil, List.forall_mem_nil _, List.forall_mem_nil _, List.forall_mem_nil _, ⟨Or.inl rfl, ok, fun _ => trivial⟩, by show Txt.join (Str.ofString "") [] ++ (spell d ++ Str.ofString "") = spell d; rw [joinE, app_empty]; exact Str.empty_append _, by show 0 + (spell d ++ Str.ofString "").length = (spell d).length; rw [app_empty]; omega, by show 0 + (wsize d + 0) ≤ 100; omega⟩
  refine ksw_while (TwLed w k b op nm tk ot wk wd rest) (fun _ => []) (TwOk rest xs fs wd ot wk (spell d)) stored (fun _ => True) (fun c => msize c.W) _ F ?_ hok (List.forall_mem_nil _) trivial ?_ hE
  · show News h₀ env.locals s.heap ((wd, wrD w k b op nm tk ot wk (Str.ofString "") lt0 false) :: (ot, listOf #[] n) :: (wk, listOf #[v] n2) :: (rest ++ []))
    rw [List.append_nil]
    exact P3.news (pre := [_, _]) (P2.news (pre := [_]) (P1.news (pre := []) N))
  · rintro ⟨lst, lt, outs, n, its, n2, tl, ys, W⟩ u h tk' hc _ F₁ N₁
    have h1 := hc.outs
    have h2 := hc.its
    have w1 : (wa, instObj 472 wd) ∈ rest ++ tl := List.mem_append_left _ hw
    have w2 : ∀ p ∈ rest ++ tl, p.1 ≠ wd := List.forall_mem_append.mpr ⟨o1, hc.q1⟩
    have w3 : ∀ p ∈ rest ++ tl, p.1 ≠ ot := List.forall_mem_append.mpr ⟨o2, hc.q2⟩
    have w4 : ∀ p ∈ rest ++ tl, p.1 ≠ wk := List.forall_mem_append.mpr ⟨o3, hc.q3⟩
    cases W with
    | nil =>
      obtain rfl := stk_nil hc.st
      have t1 : Txt.join (Str.ofString "") ys ++ Str.ofString "" = spell d := hc.tot
      rw [app_empty] at t1
      have t2 : (ys.map (·.length)).sum + (Str.ofString "").length = (spell d).length := hc.len
      refine wpAny_mono (fin (fun _ _ _ => True) (rest ++ tl) lst lt outs ys n n2 u h tk' (fun p hp => List.mem_append_left _ hp) w1 hc.ys h1 t1 (by rw [← t2]; rfl) F₁ N₁) (fun b' s₂ p => ?_) fun _ _ e => e
      cases b' with
      | false => simpa using p
      | true => simp at p
    | cons e W =>
      obtain ⟨its', v', rfl, hv', hS'⟩ := stk_pop hc.st
      have h2' : its'.length ≤ 90000 := by
        have h3 : (its' ++ [v']).length ≤ 90000 := h2
        rw [List.length_append] at h3; omega
      cases e with
      | raw x => 
        obtain ⟨⟨f1, f2, f3⟩, _⟩ : ((x != Str.ofString "") = true ∧ 0 < x.length ∧ x.length ≤ 100) ∧ _ := hc.fine
        obtain ⟨a, ta, ua, qa, ca, rfl, hm⟩ := hv'
        exact turnR (spell d) (rest ++ tl) x W a ta ua qa ca its' lst lt outs n n2 tl ys u h tk' rfl rfl f1 f2 (by omega) hm h2' h1 w1 w2 w3 w4 hc F₁ N₁
      | term d' =>
        obtain ⟨f1, f2, _⟩ := hc.fine
        obtain ⟨a, v2, l, ta, qa, ca, rfl, hm, ht⟩ := hv'
        exact turnT (spell d) (rest ++ tl) d' W a v2 l ta qa ca its' lst lt outs n n2 tl ys u h tk' rfl rfl f2 f1 hm ht h2' h1 w1 w2 w3 w4 (V.mono fun p hp => List.mem_append_left _ hp) hc F₁ N₁
theorem end_raw {total : Str} {stored : List Str} {h' : Heap} {L : Addr} {m₀ m' : Str → Option Value} {tk' : Nat} {x : Str} {W : List WI} {v : Value} {its outs : List Value} {lst : Str} {lt lt' u : Tok} {n n2 n' n2' : Nat} {tl r : List (Addr × Obj)} {ys : List Str} (hr : r = rest ++ tl) (h : TwOk rest xs fs wd ot wk total ⟨lst, lt, outs, n, its ++ [v], n2, tl, ys, .raw x :: W⟩) (F : Fr h₀ L h' m') (N : News h₀ L h' led) (P1 : Pull wd (wrD w k b op nm tk ot wk (Txt.item x ((x.length : Int) - 1)) lt' false) led r1) (P2 : Pull ot (listOf (outs ++ [Value.str x u]).toArray n') r1 r2) (P3 : Pull wk (listOf its.toArray n2') r2 r) (hm : ∀ z, stored.contains z = false → m' z = m₀ z) :
    twEnd w k b op nm tk ot wk wd rest xs fs total stored h₀ L s m₀ ⟨lst, lt, outs, n, its ++ [v], n2, tl, ys, .raw x :: W⟩ { s with heap := h', toks := tk' } := by
  obtain ⟨h1, h2⟩ := tw_raw (lt' := lt') (u := u) (n' := n') (n2' := n2') hr h
  refine ksw_end _ F (P3.news (pre := [_, _]) (P2.news (pre := [_]) (P1.news (pre := []) N))) ?_ h1 (List.forall_mem_nil _) (fun z _ hz => hm z hz) trivial h2
  subst hr
  exact fun p hp => hp
theorem end_term {total : Str} {stored : List Str} {h' : Heap} {L : Addr} {m₀ m' : Str → Option Value} {tk' : Nat} {d : Tm} {W : List WI} {v : Value} {its outs ext : List Value} {lst : Str} {lt lt' u : Tok} {n n2 n' n2' : Nat} {tl tl2 r : List (Addr × Obj)} {ys : List Str} (hr : r = rest ++ tl) (h : TwOk rest xs fs wd ot wk total ⟨lst, lt, outs, n, its ++ [v], n2, tl, ys, .term d :: W⟩) (q1 : ∀ p ∈ tl2, p.1 ≠ wd) (q2 : ∀ p ∈ tl2, p.1 ≠ ot) (q3 : ∀ p ∈ tl2, p.1 ≠ wk) (st : StkAre (r ++ tl2) xs fs ext.reverse (moreT d)) (F : Fr h₀ L h' m') (N : News h₀ L h' ((wd, wrD w k b op nm tk ot wk (lastOf (headT d)) lt' false) :: (ot, listOf (outs ++ [Value.str (headT d) u]).toArray n') :: (wk, listOf (its ++ ext).toArray n2') :: (r ++ tl2))) (hm : ∀ z, stored.contains z = false → m' z = m₀ z) :
    twEnd w k b op nm tk ot wk wd rest xs fs total stored h₀ L s m₀ ⟨lst, lt, outs, n, its ++ [v], n2, tl, ys, .term d :: W⟩ { s with heap := h', toks := tk' } := by
  subst hr
  obtain ⟨h1, h2⟩ := tw_term (lt' := lt') (u := u) (n' := n') (n2' := n2') h q1 q2 q3 st
  refine ksw_end _ F N ?_ h1 (List.forall_mem_nil _) (fun z _ hz => hm z hz) trivial h2
  intro p hp
  show p ∈ (wd, wrD w k b op nm tk ot wk (lastOf (headT d)) lt' false) :: (ot, listOf (outs ++ [Value.str (headT d) u]).toArray n') :: (wk, listOf (its ++ ext).toArray n2') :: (rest ++ tl ++ tl2)
  rw [List.append_assoc]
  exact hp
theorem c_pop {h₀ : Heap} {L wk : Addr} {m : Str → Option Value} {led rest : List (Addr × Obj)} {its : List Value} {v : Value} {n : Nat} {Q : Value → Shared → Prop} (F : Fr h₀ L s.heap m) (N : News h₀ L s.heap led) (P : Pull wk (listOf (its ++ [v]).toArray n) led rest) (o : ∀ p ∈ rest, p.1 ≠ wk) (hz : its.length ≤ 90000) (h : ∀ h', Fr h₀ L h' m → News h₀ L h' ((wk, listOf its.toArray (n + 1)) :: rest) → Q v { s with heap := h' }) : wpAny (model prog w) A (call (.builtin "list.pop") [.ref wk]) Q E s :=
  kl_pop F (P.news (pre := []) N) (kpa_last v its) (.head o) (by rw [sizeLine_eq]; simp; omega) h
theorem c_truthy_app {h₀ : Heap} {L wk : Addr} {led : List (Addr × Obj)} {its : List Value} {v : Value} {n : Nat} {Q : Bool → Shared → Prop} (N : News h₀ L s.heap led) (hm : (wk, listOf (its ++ [v]).toArray n) ∈ led) (hz : its.length ≤ 90000) (h : Q true { s with toks := s.toks + 1 + 1 }) : wpAny (model prog w) A (truthy (.ref wk)) Q E s :=
  kgr_truthy (vs := its ++ [v]) N hm rfl rfl (by simp; omega) (by rw [show (!(its ++ [v]).isEmpty) = true by simp]; exact h)
theorem c_truthy_nil {h₀ : Heap} {L wk : Addr} {led : List (Addr × Obj)} {n : Nat} {Q : Bool → Shared → Prop} (N : News h₀ L s.heap led) (hm : (wk, listOf #[] n) ∈ led) (h : Q false { s with toks := s.toks + 1 + 1 }) : wpAny (model prog w) A (truthy (.ref wk)) Q E s :=
  kgr_truthy (vs := []) N hm rfl rfl (by simp) h
end
end
section
theorem wi_term {rest : List (Addr × Obj)} {xs : List Str} {fs : List (List Int)} {v : Value} {d : Tm} {D : Addr} {t q : Tok} {l : Int} {c : Nat} {b : Bool} (h : TmIn rest xs fs v d) (e : b = true) : WiIn ((D, tupO [.str (Str.ofString "term") t, v, .int l q, .bool b] c) :: rest) xs fs (.ref D) (.term d) := by
  subst e
  exact ⟨D, v, l, t, q, c, rfl, .head _, h.mono fun p hp => .tail _ hp⟩
theorem join_w {outs : List Value} {ys : List Str} {n : Nat} (h : StrsAre outs ys) (hz : outs.length ≤ 100000) (e : (ys.map (·.length)).sum = n) (hn : n ≤ 100000) : (ys.map (·.length)).sum + ys.length ≤ 1048576 := by
  have := h.length; omega
section
local macro_rules | `(tactic| k_allIn) => `(tactic| k_extra "x_k_allIn")
example : True := by (k_with "x_k_allIn" => first | assumption | (refine' sub_c ?s9_q120; (case s9_q120 => k_allIn))); exact trivial
example : True := by (k_with "call ref" => (k_here; k_dflt (refine' raw_use ?x_q121 ?xp_q121 ?xl_q121 ?B_q121 ?F_q121 ?X_q121 ?T_q121 ?K_q121 ?d_q121 ?u_q121 ?N_q121 ?h1_q121 ?h2_q121 ?P1_q121 ?P2_q121 ?w_q121 ?o1_q121 ?o2_q121 ?ne_q121 ?z_q121 ?_; (case B_q121 => k_asm); (case F_q121 => k_asm); (case X_q121 => k_asm); (case T_q121 => k_asm); (case K_q121 => first | exact rfl | assumption); (case d_q121 => k_room); (case u_q121 => ktr_units); (case N_q121 => k_asm); (case h1_q121 => k_mem); (case h2_q121 => k_mem); (case P1_q121 => k_upd); (case P2_q121 => k_upd); (case w_q121 => k_mem); (case o1_q121 => k_all); (case o2_q121 => k_all); (case ne_q121 => k_ne); (case z_q121 => assumption); (case x_q121 => assumption); (case xp_q121 => assumption); (case xl_q121 => assumption)); intro h' tk' lt' F' N'; (try k_sweep); walk_say "raw")); exact trivial
variable {w : World} {p : Program} {loose : List Str} {mean : ExcName → Option Value} {mg mb : Str → Option Value} {dp un : Nat} {gd : Option (List Code)} {cn : Str} {cs : Scope} {a : Addr} {ccd : Value} {cl : List (Str × Addr)} {outer : List Env} {A₀ : Around} {base h₀ : Heap} {L : Addr} {m : Str → Option Value} {s : Shared} {Q E : Value → Shared → Prop} {news rest : List (Addr × Obj)}
variable {wa wd op nm tk ot wk b : Addr} {k : Fin 11 → Tok} {lst : Str} {lt : Tok} {xs : List Str} {fs : List (List Int)} {led r1 r2 : List (Addr × Obj)}
theorem write_use {outs its : List Value} {n n2 : Nat} {d : Tm} {v : Value} {l : Int} {u : Tok} (B : Below A₀ base outer h₀) (F : Fr h₀ L s.heap m) (X : (Mine.kk.heap_1 w.params).In h₀) (T : Top p loose mean mg mb h₀) (hk : cs.kind = .function) (hd : dp + 30 < recursionLimit) (hu : un + 400 < cLine) (ok : OkT d) (hl : lst = Str.ofString "" ∨ lst = Str.ofString "(") (hz1 : outs.length ≤ 100000) (hz2 : its.length ≤ 90000) (N : News h₀ L s.heap led) (_h1 : (wa, instObj 472 wd) ∈ led) (_h2 : (wd, wrD w k b op nm tk ot wk lst lt false) ∈ led) (P1 : Pull wd (wrD w k b op nm tk ot wk lst lt false) led r1) (P2 : Pull ot (listOf outs.toArray n) r1 r2) (P3 : Pull wk (listOf its.toArray n2) r2 rest) (hw : (wa, instObj 472 wd) ∈ rest) (n1 : @Ne Nat wd ot) (n3 : @Ne Nat wd wk) (n4 : @Ne Nat ot wk) (o1 : ∀ p ∈ rest, p.1 ≠ wd) (o2 : ∀ p ∈ rest, p.1 ≠ ot) (o3 : ∀ p ∈ rest, p.1 ≠ wk) (V : PEnv w rest b op xs fs) (hd' : TmIn rest xs fs v d)
  (hret : ∀ lt' t n' n'' ext tl h' tk', (∀ p ∈ tl, p.1 ≠ wd) → (∀ p ∈ tl, p.1 ≠ ot) → (∀ p ∈ tl, p.1 ≠ wk) → Fr h₀ L h' m → News h₀ L h' ((wd, wrD w k b op nm tk ot wk (lastOf (headT d)) lt' false) :: (ot, listOf (outs ++ [Value.str (headT d) t]).toArray n') :: (wk, listOf (its ++ ext).toArray n'') :: (rest ++ tl)) → StkAre (rest ++ tl) xs fs ext.reverse (moreT d) → Q .none { s with heap := h', toks := tk' }) :
  wpAny (model PySem.Challenge.rw_ok0024_01.row.prog w) (ktrTop dp un gd cn cs L a ccd cl outer) (call (.ref 392) [.ref wa, v, .int l u, .bool true]) Q E s :=
  write_spec B F X T hk hd hu ok hl hz1 hz2 (P3.news (pre := [_, _]) (P2.news (pre := [_]) (P1.news (pre := []) N))) hw n1 n3 n4 o1 o2 o3 V hd' hret
example : True := by (k_with "call ref" => (k_here; k_dflt (refine' write_use ?B_q122 ?F_q122 ?X_q122 ?T_q122 ?K_q122 ?d_q122 ?u_q122 ?ok_q122 ?hl_q122 ?hz1_q122 ?hz2_q122 ?N_q122 ?h1_q122 ?h2_q122 ?P1_q122 ?P2_q122 ?P3_q122 ?hw_q122 ?n1_q122 ?n3_q122 ?n4_q122 ?o1_q122 ?o2_q122 ?o3_q122 ?V_q122 ?hd'_q122 ?_; (case F_q122 => k_asm); (case B_q122 => k_asm); (case X_q122 => k_asm); (case T_q122 => k_asm); (case K_q122 => first | exact rfl | assumption); (case d_q122 => k_room); (case u_q122 => ktr_units); (case ok_q122 => assumption); (case hl_q122 => assumption); (case N_q122 => k_asm); (case h1_q122 => k_mem); (case h2_q122 => k_mem); (case P1_q122 => k_upd); (case P2_q122 => k_upd); (case P3_q122 => k_upd); (case hz1_q122 => assumption); (case hz2_q122 => assumption); (case hw_q122 => assumption); (case n1_q122 => k_ne); (case n3_q122 => k_ne); (case n4_q122 => k_ne); (case o1_q122 => assumption); (case o2_q122 => assumption); (case o3_q122 => assumption); (case V_q122 => assumption); (case hd'_q122 => assumption)); intro lt' t' n' n'' ext' tl' h' tk' q1' q2' q3' F' N' st'; (try dsimp only at N'); (try k_sweep); walk_say "write_use")); exact trivial
example : True := by (k_with "call builtin:list.pop" => (k_here; k_dflt (refine' c_pop ?F_q123 ?N_q123 ?P_q123 ?o_q123 ?z_q123 ?_; (case F_q123 => k_asm); (case N_q123 => k_asm); (case P_q123 => k_upd); (case o_q123 => k_all); (case z_q123 => assumption)); intro h' F' N'; (try k_sweep))); exact trivial
example : True := by (k_with "truthy ref" => (k_here; k_dflt (first | (refine' c_truthy_app ?N_q124 ?m_q124 ?z_q124 ?_; (case N_q124 => k_asm); (case m_q124 => k_mem); (case z_q124 => assumption)) | (refine' c_truthy_nil ?N_q124 ?m_q124 ?_; (case N_q124 => k_asm); (case m_q124 => k_mem))))); exact trivial
example : True := by (k_with "exec While Attribute cons nil" => (k_here; (rename Fr _ _ _ _ => lF'); (rename News _ _ _ _ => lN'); (with_unfolding_all refine' text_while [Str.ofString "kind", Str.ofString "item", Str.ofString "limit", Str.ofString "alone"] lF' lN' ?hw0_q125 ?hwd0_q125 ?P1_q125 ?P2_q125 ?P3_q125 ?hw_q125 ?o1_q125 ?o2_q125 ?o3_q125 ?V_q125 ?hv_q125 ?ok_q125 ?hsz_q125 (fun total' r' x' W' a' ta' ua' qa' ca' its' lst' lt' outs' n' n2' tl' ys' u' h' tk' he' hr' hx1' hx2' hx3' hv' hz2' hz1' hw' o1' o2' o3' hc' F' N' => ?_) (fun total' r' d' W' a' v' l' ta' qa' ca' its' lst' lt' outs' n' n2' tl' ys' u' h' tk' he' hr' hok' hl' hv' hd' hz2' hz1' hw' o1' o2' o3' V' hc' F' N' => ?_) (fun P' r' lst' lt' outs' ys' n' n2' u' h' tk' hs' hw' hys' hz1' ht' hl' F' N' => ?_)); (case hw0_q125 => k_mem); (case hwd0_q125 => k_mem); (case P1_q125 => k_upd); (case P2_q125 => k_upd); (case P3_q125 => k_upd); (case hw_q125 => k_mem); (case o1_q125 => k_all); (case o2_q125 => k_all); (case o3_q125 => k_all); (case V_q125 => (refine' PEnv.mono ?s_q125 (by assumption); (case s_q125 => k_allIn))); (case ok_q125 => assumption); (case hsz_q125 => assumption); (case hv_q125 => exact wi_term (by assumption) (by decide)); (all_goals (try clear lF' lN')); (all_goals (try k_fold)))); exact trivial
example : True := by (k_with "twPost" => (dsimp only [twPost, KswPost])); exact trivial
example : True := by (k_with "KswPost" => (dsimp only [twPost, KswPost])); exact trivial
example : True := by (k_with "KswEnd" => first | (refine' end_raw ?r_q128 ?h_q128 ?F_q128 ?N_q128 ?P1_q128 ?P2_q128 ?P3_q128 ?m_q128; (case r_q128 => assumption); (case h_q128 => assumption); (case F_q128 => assumption); (case N_q128 => assumption); (case P1_q128 => k_upd); (case P2_q128 => k_upd); (case P3_q128 => k_upd); (case m_q128 => (intro z h3; (simp only [List.contains_cons, List.contains_nil, Bool.or_false, Bool.or_eq_false_iff, beq_eq_false_iff_ne, ne_eq] at h3); simp [h3]))) | (refine' end_term ?r_q128 ?h_q128 ?q1_q128 ?q2_q128 ?q3_q128 ?st_q128 ?F_q128 ?N_q128 ?m_q128; (case r_q128 => assumption); (case h_q128 => assumption); (case q1_q128 => assumption); (case q2_q128 => assumption); (case q3_q128 => assumption); (case st_q128 => assumption); (case F_q128 => assumption); (case N_q128 => assumption); (case m_q128 => (intro z h3; (simp only [List.contains_cons, List.contains_nil, Bool.or_false, Bool.or_eq_false_iff, beq_eq_false_iff_ne, ne_eq] at h3); simp [h3])))); exact trivial
example : True := by (k_with "call builtin:str.join" => (k_here; k_dflt (refine' c_joinL ?N_q129 ?m_q129 ?i_q129 ?x_q129 ?w_q129 ?_; (case N_q129 => k_asm); (case m_q129 => k_mem); (case i_q129 => assumption); (case x_q129 => decide); (case w_q129 => exact join_w (by assumption) (by assumption) (by assumption) (by assumption)); k_whole); intro _ _)); exact trivial
theorem wtext_spec {ot0 wk0 : Addr} {lst0 : Str} {lt0 : Tok} {pf0 : Bool} {d : Tm} {v : Value} {u : Tok} (B : Below A₀ base outer h₀) (F : Fr h₀ L s.heap m) (X : (Mine.kk.heap_1 w.params).In h₀) (T : Top p loose mean mg mb h₀) (hk : cs.kind = .function) (hd : dp + 40 < recursionLimit) (hu : un + 600 < cLine) (N : News h₀ L s.heap ((wd, wrD w k b op nm tk ot0 wk0 lst0 lt0 pf0) :: rest)) (hw : (wa, instObj 472 wd) ∈ rest) (o1 : ∀ p ∈ rest, p.1 ≠ wd) (V : PEnv w rest b op xs fs) (hd' : TmIn rest xs fs v d) (ok : OkT d) (hsz : wsize d ≤ 100) (hle : (spell d).length ≤ 100000)
  (hret : ∀ t h' tk', Fr h₀ L h' m → News h₀ L h' rest → Q (.str (spell d) t) { s with heap := h', toks := tk' }) :
  wpAny (model PySem.Challenge.rw_ok0024_01.row.prog w) (ktrTop dp un gd cn cs L a ccd cl outer) (call (.ref 357) [.ref wa, v, .int 1201 u]) Q E s := by
  revert X; k_fill; intro X
  refine wpAny_call ?_
  k_dflt k_enter
  (refine sq_A ?_; intro A9)
  k_steps
  rename Txt.join _ _ = _ => hj9
  rename (∀ p ∈ _, p ∈ _) => lH9
  rename News _ _ _ _ => kN
  rename Fr _ _ _ _ => kF
  rw [hj9]
  refine' hret _ _ _ kF (cb_drop kN ?s)
  intro p9 h9
  have h8 := lH9 p9 (.tail _ h9)
  k_mem
example : True := by k_with_none; (k_with "x_k_room" => ((try simp (config := {zetaDelta := true}) only [depth_under_make, depth_under_kw, depth_in1, depth_deeper, depth_caller]); (try dsimp only [ktrTop]); (first | (refine' rm0 ?ha_q41; (case ha_q41 => assumption)) | (refine' rm1 ?ha_q41 ?hb_q41; (case ha_q41 => assumption); (case hb_q41 => exact rfl)) | (refine' rm2 ?ha_q41 ?hb_q41; (case ha_q41 => assumption); (case hb_q41 => exact rfl)) | (refine' rm3 ?ha_q41 ?hb_q41; (case ha_q41 => assumption); (case hb_q41 => exact rfl)) | (refine' rm4 ?ha_q41 ?hb_q41; (case ha_q41 => assumption); (case hb_q41 => exact rfl)) | omega))); (k_with "x_ktr_units" => ((try simp (config := {zetaDelta := true}) only [units_under_make, units_in1, units_deeper, Around.mark_units, units_caller]); (try dsimp only [ktrTop]); (first | (refine' rm0 ?ha_q42; (case ha_q42 => assumption)) | (refine' rm1 ?ha_q42 ?hb_q42; (case ha_q42 => assumption); (case hb_q42 => exact rfl)) | (refine' rm2 ?ha_q42 ?hb_q42; (case ha_q42 => assumption); (case hb_q42 => exact rfl)) | (refine' rm3 ?ha_q42 ?hb_q42; (case ha_q42 => assumption); (case hb_q42 => exact rfl)) | (refine' rm4 ?ha_q42 ?hb_q42; (case ha_q42 => assumption); (case hb_q42 => exact rfl)) | omega))); (k_with "execs cons" => (k_here; (with_reducible refine sq_tok ?_); intro tk')); (k_with "subscriptTail Name Constant ref int" => (k_here; (with_reducible show wpAny _ _ (subscriptTail _ _ (Value.ref _) (Value.int _ _)) _ _ _); k_dflt (first | (refine' item_tupleT ?t_q44 ?a_q44 ?b_q44 ?c_q44 ?d_q44 ?_; (case t_q44 => (refine' News.isTup ?t1_q44 ?t2_q44; (case t1_q44 => k_asm); (case t2_q44 => k_mem))); (case a_q44 => decide); (case b_q44 => decide); (case c_q44 => rfl); (case d_q44 => rfl); k_whole) | (refine' c_item_lit ?N_q44 ?m_q44 ?a2_q44 ?b2_q44 ?d2_q44 ?_; (case N_q44 => k_asm); (case m_q44 => k_mem); (case a2_q44 => decide); (case b2_q44 => decide); (case d2_q44 => rfl); k_whole)))); (k_with "eval Call Name" => (k_here; with_unfolding_all refine Call_ ?_)); (k_with "x_k_all" => first | assumption | exact List.forall_mem_nil _ | (refine' List.forall_mem_append.mpr ⟨?_, ?_⟩; (focus k_all); k_all) | (refine' List.forall_mem_cons.mpr ⟨?_, ?_⟩; (focus k_ne); k_all) | exact allNeP (by assumption) | (refine' Above.off ?hA_q46 ?hM_q46; (case hA_q46 => assumption); (case hM_q46 => k_mem)) | (refine' alt_all ?lh_q46 ?ls_q46; (case lh_q46 => assumption); (case ls_q46 => k_allIn)) | exact allNe0 (by assumption) | exact allNe1 (by assumption) | exact allNe2 (by assumption) | exact allNe3 (by assumption) | exact allNe4 (by assumption) | exact allNe5 (by assumption) | exact allNe6 (by assumption)); (k_with "x_k_ne" => first | assumption | (refine' alt_ne1 ?lh_q47 ?lm_q47; (case lh_q47 => assumption); (case lm_q47 => k_mem)) | (refine' alt_ne2 ?lh_q47 ?lm_q47; (case lh_q47 => assumption); (case lm_q47 => k_mem)) | (refine' alt_ne3 ?lx_q47 ?lh_q47 ?lm_q47; (case lx_q47 => assumption); (case lh_q47 => assumption); (case lm_q47 => k_mem)) | (refine' alt_ne4 ?lx_q47 ?lh_q47 ?lm_q47; (case lx_q47 => assumption); (case lh_q47 => assumption); (case lm_q47 => k_mem)) | (refine' Ne.symm ?_; assumption) | (refine neN ?_; refine' Ne.symm ?_; assumption) | (refine neN ?_; (try dsimp only); omega) | (refine' news_ne_cls ?nN_q47 ?n1_q47 ?n2_q47 ?n3_q47; (case nN_q47 => assumption); (case n1_q47 => k_mem); (case n2_q47 => k_mem); (case n3_q47 => (intro e9; exact absurd (Value.type.inj e9) (by decide)))) | (refine neN ?_; (try dsimp only); (simp only [List.forall_mem_cons] at *); omega)); (k_with "x_k_mem" => first | assumption | exact List.mem_cons_self | (refine' List.mem_cons_of_mem _ ?_; k_mem) | (refine' List.mem_append_left _ ?_; k_mem) | (refine' List.mem_append_right _ ?_; k_mem)); (k_with "x_k_upd" => first | exact Pull.head | (refine' Pull.tail ?b_q49; (case b_q49 => k_upd)) | (refine' Pull.under _ ?b_q49; (case b_q49 => k_upd))); (k_with "x_k_allIn" => first | assumption | (intro p9 h9; k_mem) | (refine' List.forall_mem_append.mpr ⟨?_, ?_⟩; (focus k_allIn); k_allIn) | exact List.forall_mem_nil _ | exact sub_l (by assumption)); (k_with "x_k_enter" => first | ktr_enter | (refine' code_def ?k1_q51 ?k2_q51 ?k3_q51 ?k4_q51 ?k5_q51 ?kA_q51 ?kF_q51 ?kK_q51 ?k6_q51 ?k7_q51 ?k8_q51 ?k9_q51 ?kB_q51 ?_ ?c2_q51 ?c3_q51 ?c4_q51 ?c5_q51; (case kA_q51 => exact rfl); (case kF_q51 => exact rfl); (case kK_q51 => first | exact rfl | assumption); (case k1_q51 => k_asm); (case k2_q51 => k_asm); (case k3_q51 => k_asm); (case k4_q51 => k_asm); (case k5_q51 => k_asm); (case k6_q51 => k_is); (case k7_q51 => k_is); (case k8_q51 => ktr_room); (case k9_q51 => exact binds_K (by k_in) rfl (by k_is) rfl rfl rfl); (case c5_q51 => decide); (case kB_q51 => exact locs rfl); (case c2_q51 => exact rfl); (case c3_q51 => exact rfl); (case c4_q51 => exact rfl); k_whole; intro g' L' h' FG' F' N' B' X' T'; (try dsimp only); (try k_fold))); exact trivial
end
end
section
noncomputable def kOf (a0 a1 a2 a3 a4 a5 a6 a7 a8 a9 a10 : Tok) : Fin 11 → Tok
  | 0 => a0
  | 1 => a1
  | 2 => a2
  | 3 => a3
  | 4 => a4
  | 5 => a5
  | 6 => a6
  | 7 => a7
  | 8 => a8
  | 9 => a9
  | 10 => a10
section
local macro_rules | `(tactic| k_allIn) => `(tactic| k_extra "x_k_allIn")
example : True := by (k_with "x_k_allIn" => first | assumption | (refine' sub_c ?s9_q130; (case s9_q130 => k_allIn))); exact trivial
variable {w : World} {p : Program} {loose : List Str} {mean : ExcName → Option Value} {mg mb : Str → Option Value} {dp un : Nat} {gd : Option (List Code)} {cn : Str} {cs : Scope} {a : Addr} {ccd : Value} {cl : List (Str × Addr)} {outer : List Env} {A₀ : Around} {base h₀ : Heap} {L : Addr} {m : Str → Option Value} {s : Shared} {Q E : Value → Shared → Prop} {news rest : List (Addr × Obj)}
variable {wa wd op nm tk ot wk b : Addr} {lst : Str} {lt : Tok} {pf : Bool} {xs : List Str} {fs : List (List Int)} {led : List (Addr × Obj)}
noncomputable abbrev wrE (w : World) (a0 a1 a2 a3 a4 a5 a6 a7 a8 a9 a10 : Tok) (sy op nm tk ot wk : Addr) (lst : Str) (lt : Tok) (pf : Bool) : Obj := dictOf [⟨PyData.keyHash w.params (Str.ofString "symbols"), .str (Str.ofString "symbols") a0, .ref sy⟩, ⟨PyData.keyHash w.params (Str.ofString "operators"), .str (Str.ofString "operators") a1, .ref op⟩, ⟨PyData.keyHash w.params (Str.ofString "quoted"), .str (Str.ofString "quoted") a2, .bool true⟩, ⟨PyData.keyHash w.params (Str.ofString "ignore_ops"), .str (Str.ofString "ignore_ops") a3, .bool false⟩, ⟨PyData.keyHash w.params (Str.ofString "numbervars"), .str (Str.ofString "numbervars") a4, .bool false⟩, ⟨PyData.keyHash w.params (Str.ofString "names"), .str (Str.ofString "names") a5, .ref nm⟩, ⟨PyData.keyHash w.params (Str.ofString "taken"), .str (Str.ofString "taken") a6, .ref tk⟩, ⟨PyData.keyHash w.params (Str.ofString "out"), .str (Str.ofString "out") a7, .ref ot⟩, ⟨PyData.keyHash w.params (Str.ofString "last"), .str (Str.ofString "last") a8, .str lst lt⟩, ⟨PyData.keyHash w.params (Str.ofString "prefixed"), .str (Str.ofString "prefixed") a9, .bool pf⟩, ⟨PyData.keyHash w.params (Str.ofString "work"), .str (Str.ofString "work") a10, .ref wk⟩] 11
theorem wtext_use {a0 a1 a2 a3 a4 a5 a6 a7 a8 a9 a10 : Tok} {d : Tm} {v : Value} {u : Tok} (B : Below A₀ base outer h₀) (F : Fr h₀ L s.heap m) (X : (Mine.kk.heap_1 w.params).In h₀) (T : Top p loose mean mg mb h₀) (hk : cs.kind = .function) (hd : dp + 40 < recursionLimit) (hu : un + 600 < cLine) (ok : OkT d) (hsz : wsize d ≤ 100) (hle : (spell d).length ≤ 100000) (N : News h₀ L s.heap led) (P : Pull wd (wrE w a0 a1 a2 a3 a4 a5 a6 a7 a8 a9 a10 b op nm tk ot wk lst lt pf) led rest) (hw : (wa, instObj 472 wd) ∈ rest) (o1 : ∀ p ∈ rest, p.1 ≠ wd) (V : PEnv w rest b op xs fs) (hd' : TmIn rest xs fs v d)
  (hret : ∀ t h' tk', Fr h₀ L h' m → News h₀ L h' rest → Q (.str (spell d) t) { s with heap := h', toks := tk' }) :
  wpAny (model PySem.Challenge.rw_ok0024_01.row.prog w) (ktrTop dp un gd cn cs L a ccd cl outer) (call (.ref 357) [.ref wa, v, .int 1201 u]) Q E s :=
  wtext_spec (k := kOf a0 a1 a2 a3 a4 a5 a6 a7 a8 a9 a10) B F X T hk hd hu (P.news (pre := []) N) hw o1 V hd' ok hsz hle hret
example : True := by (k_with "call ref" => (k_here; k_dflt (refine' wtext_use ?B_q131 ?F_q131 ?X_q131 ?T_q131 ?K_q131 ?d_q131 ?u_q131 ?ok_q131 ?hsz_q131 ?hle_q131 ?N_q131 ?P_q131 ?hw_q131 ?o1_q131 ?V_q131 ?hd'_q131 ?_; (case F_q131 => k_asm); (case B_q131 => k_asm); (case X_q131 => k_asm); (case T_q131 => k_asm); (case K_q131 => first | exact rfl | assumption); (case d_q131 => k_room); (case u_q131 => ktr_units); (case ok_q131 => assumption); (case hsz_q131 => assumption); (case hle_q131 => assumption); (case N_q131 => k_asm); (case P_q131 => k_upd); (case hw_q131 => k_mem); (case o1_q131 => k_all); (case V_q131 => (refine' PEnv.mono ?s_q131 (by assumption); (case s_q131 => k_allIn))); (case hd'_q131 => (refine' TmIn.mono ?s_q131 (by assumption); (case s_q131 => k_allIn)))); intro t' h' tk' F' N'; (try dsimp only at N'); (try k_sweep); walk_say "wtext_use")); exact trivial
theorem term_text_spec {d : Tm} {v : Value} (B : Below A₀ base outer h₀) (F : Fr h₀ L s.heap m) (X : (Mine.kk.heap_1 w.params).In h₀) (T : Top p loose mean mg mb h₀) (hk : cs.kind = .function) (hd : dp + 50 < recursionLimit) (hu : un + 800 < cLine) (N : News h₀ L s.heap led) (V : PEnv w led b op xs fs) (hd' : TmIn led xs fs v d) (ok : OkT d) (hsz : wsize d ≤ 100) (hle : (spell d).length ≤ 100000)
  (hret : ∀ t h' tk', Fr h₀ L h' m → News h₀ L h' led → Q (.str (spell d) t) { s with heap := h', toks := tk' }) :
  wpAny (model PySem.Challenge.rw_ok0024_01.row.prog w) (ktrTop dp un gd cn cs L a ccd cl outer) (call (.ref 484) [.ref b, .ref op, v]) Q E s := by
  revert X; k_fill; intro X
  refine wpAny_call ?_
  k_dflt k_enter
  (refine sq_A ?_; intro A9)
  k_steps
  rename News _ _ _ _ => kN
  rename Fr _ _ _ _ => kF
  refine' hret _ _ _ kF (cb_drop kN ?s)
  intro p9 h9
  k_mem
example : True := by k_with_none; (k_with "x_k_room" => ((try simp (config := {zetaDelta := true}) only [depth_under_make, depth_under_kw, depth_in1, depth_deeper, depth_caller]); (try dsimp only [ktrTop]); (first | (refine' rm0 ?ha_q41; (case ha_q41 => assumption)) | (refine' rm1 ?ha_q41 ?hb_q41; (case ha_q41 => assumption); (case hb_q41 => exact rfl)) | (refine' rm2 ?ha_q41 ?hb_q41; (case ha_q41 => assumption); (case hb_q41 => exact rfl)) | (refine' rm3 ?ha_q41 ?hb_q41; (case ha_q41 => assumption); (case hb_q41 => exact rfl)) | (refine' rm4 ?ha_q41 ?hb_q41; (case ha_q41 => assumption); (case hb_q41 => exact rfl)) | omega))); (k_with "x_ktr_units" => ((try simp (config := {zetaDelta := true}) only [units_under_make, units_in1, units_deeper, Around.mark_units, units_caller]); (try dsimp only [ktrTop]); (first | (refine' rm0 ?ha_q42; (case ha_q42 => assumption)) | (refine' rm1 ?ha_q42 ?hb_q42; (case ha_q42 => assumption); (case hb_q42 => exact rfl)) | (refine' rm2 ?ha_q42 ?hb_q42; (case ha_q42 => assumption); (case hb_q42 => exact rfl)) | (refine' rm3 ?ha_q42 ?hb_q42; (case ha_q42 => assumption); (case hb_q42 => exact rfl)) | (refine' rm4 ?ha_q42 ?hb_q42; (case ha_q42 => assumption); (case hb_q42 => exact rfl)) | omega))); (k_with "execs cons" => (k_here; (with_reducible refine sq_tok ?_); intro tk')); (k_with "subscriptTail Name Constant ref int" => (k_here; (with_reducible show wpAny _ _ (subscriptTail _ _ (Value.ref _) (Value.int _ _)) _ _ _); k_dflt (first | (refine' item_tupleT ?t_q44 ?a_q44 ?b_q44 ?c_q44 ?d_q44 ?_; (case t_q44 => (refine' News.isTup ?t1_q44 ?t2_q44; (case t1_q44 => k_asm); (case t2_q44 => k_mem))); (case a_q44 => decide); (case b_q44 => decide); (case c_q44 => rfl); (case d_q44 => rfl); k_whole) | (refine' c_item_lit ?N_q44 ?m_q44 ?a2_q44 ?b2_q44 ?d2_q44 ?_; (case N_q44 => k_asm); (case m_q44 => k_mem); (case a2_q44 => decide); (case b2_q44 => decide); (case d2_q44 => rfl); k_whole)))); (k_with "eval Call Name" => (k_here; with_unfolding_all refine Call_ ?_)); (k_with "x_k_all" => first | assumption | exact List.forall_mem_nil _ | (refine' List.forall_mem_append.mpr ⟨?_, ?_⟩; (focus k_all); k_all) | (refine' List.forall_mem_cons.mpr ⟨?_, ?_⟩; (focus k_ne); k_all) | exact allNeP (by assumption) | (refine' Above.off ?hA_q46 ?hM_q46; (case hA_q46 => assumption); (case hM_q46 => k_mem)) | (refine' alt_all ?lh_q46 ?ls_q46; (case lh_q46 => assumption); (case ls_q46 => k_allIn)) | exact allNe0 (by assumption) | exact allNe1 (by assumption) | exact allNe2 (by assumption) | exact allNe3 (by assumption) | exact allNe4 (by assumption) | exact allNe5 (by assumption) | exact allNe6 (by assumption)); (k_with "x_k_ne" => first | assumption | (refine' alt_ne1 ?lh_q47 ?lm_q47; (case lh_q47 => assumption); (case lm_q47 => k_mem)) | (refine' alt_ne2 ?lh_q47 ?lm_q47; (case lh_q47 => assumption); (case lm_q47 => k_mem)) | (refine' alt_ne3 ?lx_q47 ?lh_q47 ?lm_q47; (case lx_q47 => assumption); (case lh_q47 => assumption); (case lm_q47 => k_mem)) | (refine' alt_ne4 ?lx_q47 ?lh_q47 ?lm_q47; (case lx_q47 => assumption); (case lh_q47 => assumption); (case lm_q47 => k_mem)) | (refine' Ne.symm ?_; assumption) | (refine neN ?_; refine' Ne.symm ?_; assumption) | (refine neN ?_; (try dsimp only); omega) | (refine' news_ne_cls ?nN_q47 ?n1_q47 ?n2_q47 ?n3_q47; (case nN_q47 => assumption); (case n1_q47 => k_mem); (case n2_q47 => k_mem); (case n3_q47 => (intro e9; exact absurd (Value.type.inj e9) (by decide)))) | (refine neN ?_; (try dsimp only); (simp only [List.forall_mem_cons] at *); omega)); (k_with "x_k_mem" => first | assumption | exact List.mem_cons_self | (refine' List.mem_cons_of_mem _ ?_; k_mem) | (refine' List.mem_append_left _ ?_; k_mem) | (refine' List.mem_append_right _ ?_; k_mem)); (k_with "x_k_upd" => first | exact Pull.head | (refine' Pull.tail ?b_q49; (case b_q49 => k_upd)) | (refine' Pull.under _ ?b_q49; (case b_q49 => k_upd))); (k_with "x_k_allIn" => first | assumption | (intro p9 h9; k_mem) | (refine' List.forall_mem_append.mpr ⟨?_, ?_⟩; (focus k_allIn); k_allIn) | exact List.forall_mem_nil _ | exact sub_l (by assumption)); (k_with "x_k_enter" => first | ktr_enter | (refine' code_def ?k1_q51 ?k2_q51 ?k3_q51 ?k4_q51 ?k5_q51 ?kA_q51 ?kF_q51 ?kK_q51 ?k6_q51 ?k7_q51 ?k8_q51 ?k9_q51 ?kB_q51 ?_ ?c2_q51 ?c3_q51 ?c4_q51 ?c5_q51; (case kA_q51 => exact rfl); (case kF_q51 => exact rfl); (case kK_q51 => first | exact rfl | assumption); (case k1_q51 => k_asm); (case k2_q51 => k_asm); (case k3_q51 => k_asm); (case k4_q51 => k_asm); (case k5_q51 => k_asm); (case k6_q51 => k_is); (case k7_q51 => k_is); (case k8_q51 => ktr_room); (case k9_q51 => exact binds_K (by k_in) rfl (by k_is) rfl rfl rfl); (case c5_q51 => decide); (case kB_q51 => exact locs rfl); (case c2_q51 => exact rfl); (case c3_q51 => exact rfl); (case c4_q51 => exact rfl); k_whole; intro g' L' h' FG' F' N' B' X' T'; (try dsimp only); (try k_fold))); exact trivial
end
end
section
section
variable {prog : Program} {w : World} {A : Around} {E : Value → Shared → Prop} {s : Shared} {h₀ : Heap} {L : Addr} {m : Str → Option Value} {env : Env}
theorem tup_st {ta I : Addr} {its : Array Value} {c : Nat} : ∀ i (h h' : Heap) (o : Obj) (nw : List (Addr × Obj)), (h.IsTupleIter I ta i ∧ h.IsTuple ta its) → h.get? I = some o → h'.get? I = some o → (∀ b o, h₀.get? b = some o → h'.get? b = some o) → News h₀ L h' nw → (ta, ({ cls := .type "tuple", data := .seq its c } : Obj)) ∈ nw → (h'.IsTupleIter I ta i ∧ h'.IsTuple ta its) := by
  intro i h h' o nw st e e' _ N S
  obtain ⟨⟨o', q, r⟩, _⟩ := st
  rw [e] at q
  obtain rfl := Option.some.inj q
  exact ⟨⟨_, e', r⟩, ⟨_, (N _ S).1, rfl, c, rfl⟩⟩
noncomputable def SrcT (prog : Program) (w : World) (A : Around) (h₀ : Heap) (L : Addr) (m : Str → Option Value) (env : Env) (elt : PySem.Expr) (x : Str) (scope : Scope) (cl : List (Str × Addr)) (Fin : Shared → List Value → List (Addr × Obj) → Prop) (xv : Value) (s₁ : Shared) : Prop :=
  ∃ (ta : Addr) (its : List Value) (c : Nat) (news : List (Addr × Obj)), xv = .ref ta ∧ A.handled = none ∧ Fr h₀ L s₁.heap m ∧ News h₀ L s₁.heap news ∧ (ta, tupO its c) ∈ news ∧ its.length ≤ 1000 ∧
    ∀ g, LCg.CompRest prog w A h₀ L m env elt x scope cl { s₁ with heap := g } (fun nw => (ta, tupO its c) ∈ nw) (fun i v => its.toArray[i]? = some v) (Fin { s₁ with heap := g }) its.length 0 [] news
theorem SrcT.intro {elt : PySem.Expr} {x : Str} {scope : Scope} {cl : List (Str × Addr)} {Fin : Shared → List Value → List (Addr × Obj) → Prop} {ta : Addr} {its : List Value} {c : Nat} {news : List (Addr × Obj)} {s₁ : Shared} (hh : A.handled = none) (F : Fr h₀ L s₁.heap m) (N : News h₀ L s₁.heap news) (hm : (ta, tupO its c) ∈ news) (hz : its.length ≤ 1000)
    (h : ∀ g, LCg.CompRest prog w A h₀ L m env elt x scope cl { s₁ with heap := g } (fun nw => (ta, tupO its c) ∈ nw) (fun i v => its.toArray[i]? = some v) (Fin { s₁ with heap := g }) its.length 0 [] news) :
    SrcT prog w A h₀ L m env elt x scope cl Fin (.ref ta) s₁ := ⟨ta, its, c, news, rfl, hh, F, N, hm, hz, h⟩
theorem Assign_ListComp_T {elt iter : PySem.Expr} {x y : Str} {px py : Pos} {scope : Scope} {cl : List (Str × Addr)} {pos spos : Pos} {Q : Flow → Shared → Prop} (_F₀ : Fr h₀ L s.heap m) (hLe : env.locals = L)
    (hsw : swapsWith (.ListComp elt [⟨.Name x px, iter, [], 0⟩] scope pos) (some (.Name y py)) spos.line env = pure true)
    (hclos : closureFor scope env = pure cl) (hcell : ∀ z ∈ scope.names, z.2 ≠ .cell) (hkind : scope.kind = .function)
    (hnames : ∀ z ∈ scope.names, z.2 = .local → scope.names.lookup z.1 = some .local) (hx : scope.names.lookup x = some .local)
    (hy : env.kindOf y = some .local) (hp : (env.scope.kind == .class || (env.scope.kind == .module && env.locals != env.globals)) = false)
    (h : wpAny (model prog w) A (eval iter env) (SrcT prog w A h₀ L m env elt x scope cl (fun s₂ => LCg.FinA h₀ L m s₂ y Q)) E s)
    (hs : ∀ x, foldedSetIterable iter env x = pure x := by intro _; rfl) :
    wpAny (model prog w) A (exec (.Assign [.Name y py] (.ListComp elt [⟨.Name x px, iter, [], 0⟩] scope pos) spos) env) Q E s := by
  subst hLe
  rw [exec_Assign_Name_used _ _ _ _ hsw]
  refine wpAny_bind (wpAny_standAt (wpAny_bind ?_))
  show wpAny _ A (do let _ ← comprehension (.ListComp elt [⟨.Name x px, iter, [], 0⟩] scope pos) scope env _ (newList []) false (eval iter env) (some (assign (.Name y py) env))) _ _ s
  refine wpAny_bind (wpAny_mono (wpAny_comprehension_free (use := some (assign (.Name y py) env)) (Q := fun _ s' => Q .next s') rfl hs hclos hkind hnames
    (wpAny_mono h (fun xv s₁ h₁ => ?_) fun _ _ e => e)) (fun _ s' hq => wpAny_pure (wpAny_pure hq)) fun _ _ e => e)
  obtain ⟨ta, its, c, news, rfl, hh, F, N, hm, hz, R⟩ := h₁
  have hls : s₁.heap.IsTuple ta its.toArray := ⟨_, (N _ hm).1, rfl, c, rfl⟩
  have hlt : ta < s₁.heap.objs.size := Heap.lt_size (N _ hm).1
  refine wpAny_pyIter_tuple hls ?_
  have up : ∀ b o, s₁.heap.get? b = some o → (s₁.heap.push { cls := .type "tuple_iterator", data := .fields #[.ref ta, .int 0 0] }).get? b = some o := fun b o e => Heap.get?_push_of_some _ e
  have W := Walks.tuple (prog := prog) (w := w) hh s₁.heap.objs.size ta (Nat.ne_of_lt hlt) its.toArray
  rw [show its.toArray.size = its.length by simp] at W
  refine LCg.block_U (S := fun nw => (ta, tupO its c) ∈ nw) (P := fun i v => its.toArray[i]? = some v) W (by rw [sizeLine_eq]; omega) (fun i h st => by obtain ⟨o, e, _⟩ := st.1; exact ⟨o, e⟩) tup_st hcell hkind hx ⟨⟨_, Heap.get?_push_size _ rfl, rfl, rfl⟩, hls.at fun o e => up _ o e⟩ (fun b hb => ?_)
    (F.keeps up) (N.grown up) (Nat.ne_of_lt F.ns.lt) (next_is_new F) (fun p hp => Nat.ne_of_lt (Heap.lt_size (N p hp).1)) hm (R _) ?_
  · show b < (s₁.heap.push _).objs.size
    rw [Heap.size_push]
    rcases List.mem_cons.mp hb with rfl | hb
    · exact Nat.lt_succ_self _
    · rw [List.mem_singleton.mp hb]; exact Nat.lt_succ_of_lt hlt
  · intro D C h' tk m' ys news' F' N' o1 hn hC₀ hD₀ hCL hDL hCD offC fin
    show wpAny _ A (assign (.Name y py) env (.ref D)) _ _ _
    refine wpAny_assign_Name (wpAny_storeName_local hy F'.ns (fun h₂ hn₂ hs₂ => ?_) hp)
    have hL₀ : h₀.get? env.locals = none := Heap.get?_none_of_le F'.above
    have F₂ : Fr h₀ env.locals h₂ (fun z => if z = y then some (.ref D) else m z) := ⟨hn₂, fun b o e => hs₂.extBut b o (fun q => by rw [q, hL₀] at e; cases e) (F'.keep b o e), F'.above⟩
    refine ⟨m', hn.sameBut hs₂ hCL, fun h'' hs'' => fin D h'' _ (F₂.change hs'' hCL hC₀) (fun p hp => ?_) o1⟩
    refine ⟨hs''.extBut _ _ ?_ (hs₂.extBut _ _ (N' p hp).2.1 (N' p hp).1), (N' p hp).2⟩
    rcases List.mem_cons.mp hp with rfl | hp
    · exact Ne.symm hCD
    · exact offC p hp
theorem comp_same {I C D : Addr} {s₁ : Shared} {oI oC oD : Obj} {S : List (Addr × Obj) → Prop} {rest : Value → List (Addr × Obj) → Prop} {y : Value} {h' : Heap} {tk : Nat} {nw : List (Addr × Obj)} (F : Fr h₀ L h' m) (N : News h₀ L h' ((I, oI) :: (C, oC) :: (D, oD) :: nw)) (off : LCg.Off3 I C D nw) (hS : S nw) (r : rest y nw) : LCg.CompEnd h₀ L m s₁ I oI C oC D oD S rest y { s₁ with heap := h', toks := tk } :=
  LCg.CompEnd.intro F N nw (fun _ hp => hp) off hS r
end
end
section
noncomputable def ftext1 (lab p : Str) : Str := if (lab == Str.ofString "representation_error/1") = true then Str.ofString "representation limit passed: " ++ p else if (lab == Str.ofString "evaluation_error/1") = true then Str.ofString "evaluation error: " ++ p else if (lab == Str.ofString "resource_error/1") = true then Str.ofString "resource used up: " ++ p else if (lab == Str.ofString "syntax_error/1") = true then Str.ofString "syntax error: " ++ p else Str.ofString ""
noncomputable def ftext2 (lab p q : Str) : Str := if (lab == Str.ofString "type_error/2") = true then Str.ofString "type error: " ++ p ++ Str.ofString " expected, found " ++ q else if (lab == Str.ofString "domain_error/2") = true then Str.ofString "domain error: " ++ p ++ Str.ofString " expected, found " ++ q else Str.ofString "unknown " ++ p ++ Str.ofString ": " ++ q
noncomputable def Lab2 (lab : Str) : Prop := lab = Str.ofString "type_error/2" ∨ lab = Str.ofString "domain_error/2" ∨ lab = Str.ofString "existence_error/2"
theorem Lab2.ex {lab : Str} (h : Lab2 lab) (h1 : (lab == Str.ofString "type_error/2") = false) (h2 : (lab == Str.ofString "domain_error/2") = false) : (lab == Str.ofString "existence_error/2") = true := by
  rcases h with rfl | rfl | rfl
  · exact absurd h1 (by decide)
  · exact absurd h2 (by decide)
  · decide
section
local macro_rules | `(tactic| k_allIn) => `(tactic| k_extra "x_k_allIn")
example : True := by (k_with "x_k_allIn" => first | assumption | (refine' sub_c ?s9_q132; (case s9_q132 => k_allIn))); exact trivial
example : True := by (k_with "ite" => (k_here; first | (refine ite_isFalse (by with_reducible rfl) ?_) | (refine ite_pos (by with_reducible rfl) ?_) | (refine ite_isFalse (by decide) ?_) | (refine ite_pos (by decide) ?_))); exact trivial
example : True := by (k_with "exec Assign cons ListComp" => (k_here; k_dflt (refine Assign_ListComp_T (by k_asm) (by rfl) (by with_unfolding_all rfl) (by with_unfolding_all rfl) (by decide) (by rfl) (by decide) (by rfl) (by rfl) (by rfl) ?_))); exact trivial
example : True := by (k_with "SrcT" => (k_here; k_dflt (refine' SrcT.intro (by rfl) ?F_q135 ?N_q135 ?m_q135 ?z_q135 ?_; (case F_q135 => k_asm); (case N_q135 => k_asm); (case m_q135 => k_mem); (case z_q135 => (simp only [List.length_cons, List.length_nil]; decide))); intro g'; lcg_lit)); exact trivial
example : True := by (k_with "CompRest" => (with_unfolding_all first | (refine LCg.CompRest.succ ?_; intro v' I' oI' C' oC' D' m' h' tk' E' hv' hC' hx' F' N' off' ne'; lcg_open hv') | refine LCg.CompRest.zero ?_)); exact trivial
example : True := by (k_with "CompEnd" => (refine' comp_same ?F_q137 ?N_q137 ?o_q137 ?S_q137 ?_; (case F_q137 => k_asm); (case N_q137 => k_asm); (case o_q137 => assumption); (case S_q137 => k_mem))); exact trivial
variable {w : World} {p : Program} {loose : List Str} {mean : ExcName → Option Value} {mg mb : Str → Option Value} {dp un : Nat} {gd : Option (List Code)} {cn : Str} {cs : Scope} {a : Addr} {ccd : Value} {cl : List (Str × Addr)} {outer : List Env} {A₀ : Around} {base h₀ : Heap} {L : Addr} {m : Str → Option Value} {s : Shared} {Q E : Value → Shared → Prop} {news rest : List (Addr × Obj)}
variable {op b : Addr} {xs : List Str} {fs : List (List Int)} {led : List (Addr × Obj)}
theorem label_use {i j : Nat} {n' : Int} {x lab : Str} {tk : Tok} (B : Below A₀ base outer h₀) (F : Fr h₀ L s.heap m) (X : (Mine.kk.heap_1 w.params).In h₀) (T : Top p loose mean mg mb h₀) (hk : cs.kind = .function) (hd : dp + 5 < recursionLimit) (hu : un + 60 < cLine) (N : News h₀ L s.heap led) (V : PEnv w led b op xs fs) (hx : fs[i]? = some [((j : Nat) : Int), n']) (hy : xs[j]? = some x) (hl : x ++ Str.ofString "/" ++ Str.ofString (toString n') = lab) (hn0 : 0 ≤ n') (hn1 : n' < 10) (hxl : x.length ≤ 1000)
  (hret : ∀ t h' tk', Fr h₀ L h' m → News h₀ L h' led → Q (.str lab t) { s with heap := h', toks := tk' }) :
  wpAny (model PySem.Challenge.rw_ok0024_01.row.prog w) (ktrTop dp un gd cn cs L a ccd cl outer) (call (.ref 98) [.ref b, .int i tk]) Q E s := by
  subst hl
  obtain ⟨restB, rest0, bd, tx, an, fu, fn, opd, pre, inf, pos, t1, t2, t3, t4, v1, v2, v3, v4, oTx, oAn, oFu, oFn, oPre, oInf, oPos, K, n9, R, S, hz, hs, hs0, m1, m2, hx0, hf0, hop, hopd, hpre, hpos, O, hD, l1, l2⟩ := V
  exact label_spec B F X T hk hd hu N R S (by omega) hs0 m2 m1 hs hx hy hn0 hn1 hxl hret
local macro_rules | `(tactic| k_enter) => `(tactic| k_extra "x_k_enter")
example : True := by (k_with "x_k_enter" => first | ktr_enter | (refine' code_defC ?k1_q138 ?k2_q138 ?k3_q138 ?k4_q138 ?k5_q138 ?kA_q138 ?kF_q138 ?kK_q138 ?k6_q138 ?k7_q138 ?k8_q138 ?k9_q138 ?kB_q138 ?kD_q138 ?_ ?c2_q138 ?c3_q138 ?c4_q138; (case kA_q138 => exact rfl); (case kF_q138 => exact rfl); (case kK_q138 => first | exact rfl | assumption); (case k1_q138 => k_asm); (case k2_q138 => k_asm); (case k3_q138 => k_asm); (case k4_q138 => k_asm); (case k5_q138 => k_asm); (case k6_q138 => k_is); (case k7_q138 => k_is); (case k8_q138 => ktr_room); (case k9_q138 => first | exact BindsTo.of_eq rfl | exact binds_K (by k_in) rfl (by k_is) rfl rfl rfl); (case kB_q138 => exact rfl); (case kD_q138 => decide +kernel); (case c2_q138 => exact rfl); (case c3_q138 => exact rfl); (case c4_q138 => exact rfl); k_whole; intro g' L' h' tk' cells' FG' F' N' Y' B' X' T' l1; (try k_lt l1); k_cells Y'; (try simp only [List.cons_append, List.nil_append] at N'); (try dsimp only); (try k_fold))); exact trivial
example : True := by (k_with "call ref" => (k_here; k_dflt (refine' label_use ?B_q139 ?F_q139 ?X_q139 ?T_q139 ?K_q139 ?d_q139 ?u_q139 ?N_q139 ?V_q139 ?hx_q139 ?hy_q139 ?hl_q139 ?hn0_q139 ?hn1_q139 ?hxl_q139 ?_; (case F_q139 => k_asm); (case B_q139 => k_asm); (case X_q139 => k_asm); (case T_q139 => k_asm); (case K_q139 => first | exact rfl | assumption); (case d_q139 => k_room); (case u_q139 => ktr_units); (case N_q139 => k_asm); (case V_q139 => (refine' PEnv.mono ?s_q139 (by assumption); (case s_q139 => k_allIn))); (case hx_q139 => assumption); (case hy_q139 => assumption); (case hl_q139 => assumption); (case hn0_q139 => decide); (case hn1_q139 => decide); (case hxl_q139 => assumption)); intro t' h' tk' F' N'; (try dsimp only at N'); (try k_sweep); walk_say "label_use")); exact trivial
example : True := by (k_with "call ref" => (k_here; k_dflt (refine' term_text_spec ?B_q140 ?F_q140 ?X_q140 ?T_q140 ?K_q140 ?d_q140 ?u_q140 ?N_q140 ?V_q140 ?hd'_q140 ?ok_q140 ?hsz_q140 ?hle_q140 ?_; (case F_q140 => k_asm); (case B_q140 => k_asm); (case X_q140 => k_asm); (case T_q140 => k_asm); (case K_q140 => first | exact rfl | assumption); (case d_q140 => k_room); (case u_q140 => ktr_units); (case N_q140 => k_asm); (case V_q140 => (refine' PEnv.mono ?s_q140 (by assumption); (case s_q140 => k_allIn))); (case hd'_q140 => (refine' TmIn.mono ?s_q140 (by assumption); (case s_q140 => k_allIn))); (case ok_q140 => assumption); (case hsz_q140 => assumption); (case hle_q140 => assumption)); intro t' h' tk' F' N'; (try dsimp only at N'); (try k_sweep); walk_say "term_text_spec")); exact trivial
theorem formal1 {d1 : Tm} {p1 : Value} {i j : Nat} {x lab : Str} {ta ga : Addr} {u1 u2 : Tok} {c1 c2 : Nat} (B : Below A₀ base outer h₀) (F : Fr h₀ L s.heap m) (X : (Mine.kk.heap_1 w.params).In h₀) (T : Top p loose mean mg mb h₀) (hk : cs.kind = .function) (hd : dp + 60 < recursionLimit) (hu : un + 900 < cLine) (N : News h₀ L s.heap led) (V : PEnv w led b op xs fs) (ht : (ta, tupO [.str (Str.ofString "s") u1, .int i u2, .ref ga] c1) ∈ led) (hg : (ga, tupO [p1] c2) ∈ led) (hf : fs[i]? = some [((j : Nat) : Int), 1]) (hx : xs[j]? = some x) (hxl : x.length ≤ 1000) (hlab : x ++ Str.ofString "/" ++ Str.ofString (toString (1 : Int)) = lab) (n1 : (lab == Str.ofString "type_error/2") = false) (n2 : (lab == Str.ofString "domain_error/2") = false) (n3 : (lab == Str.ofString "existence_error/2") = false) (n4 : (lab == Str.ofString "permission_error/3") = false) (hd1 : TmIn led xs fs p1 d1) (ok1 : OkT d1) (hsz1 : wsize d1 ≤ 100) (hle1 : (spell d1).length ≤ 100000)
  (hret : ∀ t h' tk', Fr h₀ L h' m → News h₀ L h' led → Q (.str (ftext1 lab (spell d1)) t) { s with heap := h', toks := tk' }) :
  wpAny (model PySem.Challenge.rw_ok0024_01.row.prog w) (ktrTop dp un gd cn cs L a ccd cl outer) (call (.ref 496) [.ref b, .ref op, .ref ta]) Q E s := by
  have V0 := V
  obtain ⟨restB, rest0, bd, tx, an, fu, fn, opd, pre, inf, pos, t1, t2, t3, t4, v1, v2, v3, v4, oTx, oAn, oFu, oFn, oPre, oInf, oPos, K, n9, R, S, hz, hs, hs0, m1, m2, hx0, hf0, hop, hopd, hpre, hpos, O, hD, l1, l2⟩ := V0
  have hb := hs _ R.hb
  have hbd := hs _ R.hbd
  clear R S hs hs0 m1 m2 hx0 hf0 hop hopd hpre hpos O hD
  revert X; k_fill; intro X
  refine wpAny_call ?_
  k_dflt k_enter
  (refine sq_A ?_; intro A9)
  k_steps
  all_goals (rename News _ _ _ _ => kN; rename Fr _ _ _ _ => kF; (refine' ret_sN hret ?e kF kN ?s; (case s => (intro p9 h9; k_mem)); (case e => (first | rfl | (simp [ftext1, ftext2, *]; done)))))
section
example : True := by (k_with "ite" => (k_here; k_openite; refine ite_pos (Lab2.ex (by assumption) (by assumption) (by assumption)) ?_; walk_say "P2")); exact trivial
theorem formal2 {d1 d2 : Tm} {p1 p2 : Value} {i j : Nat} {x lab : Str} {ta ga : Addr} {u1 u2 : Tok} {c1 c2 : Nat} (B : Below A₀ base outer h₀) (F : Fr h₀ L s.heap m) (X : (Mine.kk.heap_1 w.params).In h₀) (T : Top p loose mean mg mb h₀) (hk : cs.kind = .function) (hd : dp + 60 < recursionLimit) (hu : un + 900 < cLine) (N : News h₀ L s.heap led) (V : PEnv w led b op xs fs) (ht : (ta, tupO [.str (Str.ofString "s") u1, .int i u2, .ref ga] c1) ∈ led) (hg : (ga, tupO [p1, p2] c2) ∈ led) (hf : fs[i]? = some [((j : Nat) : Int), 2]) (hx : xs[j]? = some x) (hxl : x.length ≤ 1000) (hlab : x ++ Str.ofString "/" ++ Str.ofString (toString (2 : Int)) = lab) (h2 : Lab2 lab) (hd1 : TmIn led xs fs p1 d1) (ok1 : OkT d1) (hsz1 : wsize d1 ≤ 100) (hle1 : (spell d1).length ≤ 100000) (hd2 : TmIn led xs fs p2 d2) (ok2 : OkT d2) (hsz2 : wsize d2 ≤ 100) (hle2 : (spell d2).length ≤ 100000)
  (hret : ∀ t h' tk', Fr h₀ L h' m → News h₀ L h' led → Q (.str (ftext2 lab (spell d1) (spell d2)) t) { s with heap := h', toks := tk' }) :
  wpAny (model PySem.Challenge.rw_ok0024_01.row.prog w) (ktrTop dp un gd cn cs L a ccd cl outer) (call (.ref 496) [.ref b, .ref op, .ref ta]) Q E s := by
  have V0 := V
  obtain ⟨restB, rest0, bd, tx, an, fu, fn, opd, pre, inf, pos, t1, t2, t3, t4, v1, v2, v3, v4, oTx, oAn, oFu, oFn, oPre, oInf, oPos, K, n9, R, S, hz, hs, hs0, m1, m2, hx0, hf0, hop, hopd, hpre, hpos, O, hD, l1, l2⟩ := V0
  have hb := hs _ R.hb
  have hbd := hs _ R.hbd
  clear R S hs hs0 m1 m2 hx0 hf0 hop hopd hpre hpos O hD
  revert X; k_fill; intro X
  refine wpAny_call ?_
  k_dflt k_enter
  (refine sq_A ?_; intro A9)
  k_steps
  all_goals (rename News _ _ _ _ => kN; rename Fr _ _ _ _ => kF; (refine' ret_sN hret ?e kF kN ?s; (case s => (intro p9 h9; k_mem)); (case e => (first | rfl | (simp [ftext1, ftext2, *]; done)))))
example : True := by k_with_none; (k_with "x_k_room" => ((try simp (config := {zetaDelta := true}) only [depth_under_make, depth_under_kw, depth_in1, depth_deeper, depth_caller]); (try dsimp only [ktrTop]); (first | (refine' rm0 ?ha_q41; (case ha_q41 => assumption)) | (refine' rm1 ?ha_q41 ?hb_q41; (case ha_q41 => assumption); (case hb_q41 => exact rfl)) | (refine' rm2 ?ha_q41 ?hb_q41; (case ha_q41 => assumption); (case hb_q41 => exact rfl)) | (refine' rm3 ?ha_q41 ?hb_q41; (case ha_q41 => assumption); (case hb_q41 => exact rfl)) | (refine' rm4 ?ha_q41 ?hb_q41; (case ha_q41 => assumption); (case hb_q41 => exact rfl)) | omega))); (k_with "x_ktr_units" => ((try simp (config := {zetaDelta := true}) only [units_under_make, units_in1, units_deeper, Around.mark_units, units_caller]); (try dsimp only [ktrTop]); (first | (refine' rm0 ?ha_q42; (case ha_q42 => assumption)) | (refine' rm1 ?ha_q42 ?hb_q42; (case ha_q42 => assumption); (case hb_q42 => exact rfl)) | (refine' rm2 ?ha_q42 ?hb_q42; (case ha_q42 => assumption); (case hb_q42 => exact rfl)) | (refine' rm3 ?ha_q42 ?hb_q42; (case ha_q42 => assumption); (case hb_q42 => exact rfl)) | (refine' rm4 ?ha_q42 ?hb_q42; (case ha_q42 => assumption); (case hb_q42 => exact rfl)) | omega))); (k_with "execs cons" => (k_here; (with_reducible refine sq_tok ?_); intro tk')); (k_with "subscriptTail Name Constant ref int" => (k_here; (with_reducible show wpAny _ _ (subscriptTail _ _ (Value.ref _) (Value.int _ _)) _ _ _); k_dflt (first | (refine' item_tupleT ?t_q44 ?a_q44 ?b_q44 ?c_q44 ?d_q44 ?_; (case t_q44 => (refine' News.isTup ?t1_q44 ?t2_q44; (case t1_q44 => k_asm); (case t2_q44 => k_mem))); (case a_q44 => decide); (case b_q44 => decide); (case c_q44 => rfl); (case d_q44 => rfl); k_whole) | (refine' c_item_lit ?N_q44 ?m_q44 ?a2_q44 ?b2_q44 ?d2_q44 ?_; (case N_q44 => k_asm); (case m_q44 => k_mem); (case a2_q44 => decide); (case b2_q44 => decide); (case d2_q44 => rfl); k_whole)))); (k_with "eval Call Name" => (k_here; with_unfolding_all refine Call_ ?_)); (k_with "x_k_all" => first | assumption | exact List.forall_mem_nil _ | (refine' List.forall_mem_append.mpr ⟨?_, ?_⟩; (focus k_all); k_all) | (refine' List.forall_mem_cons.mpr ⟨?_, ?_⟩; (focus k_ne); k_all) | exact allNeP (by assumption) | (refine' Above.off ?hA_q46 ?hM_q46; (case hA_q46 => assumption); (case hM_q46 => k_mem)) | (refine' alt_all ?lh_q46 ?ls_q46; (case lh_q46 => assumption); (case ls_q46 => k_allIn)) | exact allNe0 (by assumption) | exact allNe1 (by assumption) | exact allNe2 (by assumption) | exact allNe3 (by assumption) | exact allNe4 (by assumption) | exact allNe5 (by assumption) | exact allNe6 (by assumption)); (k_with "x_k_ne" => first | assumption | (refine' alt_ne1 ?lh_q47 ?lm_q47; (case lh_q47 => assumption); (case lm_q47 => k_mem)) | (refine' alt_ne2 ?lh_q47 ?lm_q47; (case lh_q47 => assumption); (case lm_q47 => k_mem)) | (refine' alt_ne3 ?lx_q47 ?lh_q47 ?lm_q47; (case lx_q47 => assumption); (case lh_q47 => assumption); (case lm_q47 => k_mem)) | (refine' alt_ne4 ?lx_q47 ?lh_q47 ?lm_q47; (case lx_q47 => assumption); (case lh_q47 => assumption); (case lm_q47 => k_mem)) | (refine' Ne.symm ?_; assumption) | (refine neN ?_; refine' Ne.symm ?_; assumption) | (refine neN ?_; (try dsimp only); omega) | (refine' news_ne_cls ?nN_q47 ?n1_q47 ?n2_q47 ?n3_q47; (case nN_q47 => assumption); (case n1_q47 => k_mem); (case n2_q47 => k_mem); (case n3_q47 => (intro e9; exact absurd (Value.type.inj e9) (by decide)))) | (refine neN ?_; (try dsimp only); (simp only [List.forall_mem_cons] at *); omega)); (k_with "x_k_mem" => first | assumption | exact List.mem_cons_self | (refine' List.mem_cons_of_mem _ ?_; k_mem) | (refine' List.mem_append_left _ ?_; k_mem) | (refine' List.mem_append_right _ ?_; k_mem)); (k_with "x_k_upd" => first | exact Pull.head | (refine' Pull.tail ?b_q49; (case b_q49 => k_upd)) | (refine' Pull.under _ ?b_q49; (case b_q49 => k_upd))); (k_with "x_k_allIn" => first | assumption | (intro p9 h9; k_mem) | (refine' List.forall_mem_append.mpr ⟨?_, ?_⟩; (focus k_allIn); k_allIn) | exact List.forall_mem_nil _ | exact sub_l (by assumption)); (k_with "x_k_enter" => first | ktr_enter | (refine' code_def ?k1_q51 ?k2_q51 ?k3_q51 ?k4_q51 ?k5_q51 ?kA_q51 ?kF_q51 ?kK_q51 ?k6_q51 ?k7_q51 ?k8_q51 ?k9_q51 ?kB_q51 ?_ ?c2_q51 ?c3_q51 ?c4_q51 ?c5_q51; (case kA_q51 => exact rfl); (case kF_q51 => exact rfl); (case kK_q51 => first | exact rfl | assumption); (case k1_q51 => k_asm); (case k2_q51 => k_asm); (case k3_q51 => k_asm); (case k4_q51 => k_asm); (case k5_q51 => k_asm); (case k6_q51 => k_is); (case k7_q51 => k_is); (case k8_q51 => ktr_room); (case k9_q51 => exact binds_K (by k_in) rfl (by k_is) rfl rfl rfl); (case c5_q51 => decide); (case kB_q51 => exact locs rfl); (case c2_q51 => exact rfl); (case c3_q51 => exact rfl); (case c4_q51 => exact rfl); k_whole; intro g' L' h' FG' F' N' B' X' T'; (try dsimp only); (try k_fold))); (k_with "x_k_allIn" => first | assumption | (refine' sub_c ?s9_q132; (case s9_q132 => k_allIn))); (k_with "ite" => (k_here; first | (refine ite_isFalse (by with_reducible rfl) ?_) | (refine ite_pos (by with_reducible rfl) ?_) | (refine ite_isFalse (by decide) ?_) | (refine ite_pos (by decide) ?_))); (k_with "exec Assign cons ListComp" => (k_here; k_dflt (refine Assign_ListComp_T (by k_asm) (by rfl) (by with_unfolding_all rfl) (by with_unfolding_all rfl) (by decide) (by rfl) (by decide) (by rfl) (by rfl) (by rfl) ?_))); (k_with "SrcT" => (k_here; k_dflt (refine' SrcT.intro (by rfl) ?F_q135 ?N_q135 ?m_q135 ?z_q135 ?_; (case F_q135 => k_asm); (case N_q135 => k_asm); (case m_q135 => k_mem); (case z_q135 => (simp only [List.length_cons, List.length_nil]; decide))); intro g'; lcg_lit)); (k_with "CompRest" => (with_unfolding_all first | (refine LCg.CompRest.succ ?_; intro v' I' oI' C' oC' D' m' h' tk' E' hv' hC' hx' F' N' off' ne'; lcg_open hv') | refine LCg.CompRest.zero ?_)); (k_with "CompEnd" => (refine' comp_same ?F_q137 ?N_q137 ?o_q137 ?S_q137 ?_; (case F_q137 => k_asm); (case N_q137 => k_asm); (case o_q137 => assumption); (case S_q137 => k_mem))); (k_with "x_k_enter" => first | ktr_enter | (refine' code_defC ?k1_q138 ?k2_q138 ?k3_q138 ?k4_q138 ?k5_q138 ?kA_q138 ?kF_q138 ?kK_q138 ?k6_q138 ?k7_q138 ?k8_q138 ?k9_q138 ?kB_q138 ?kD_q138 ?_ ?c2_q138 ?c3_q138 ?c4_q138; (case kA_q138 => exact rfl); (case kF_q138 => exact rfl); (case kK_q138 => first | exact rfl | assumption); (case k1_q138 => k_asm); (case k2_q138 => k_asm); (case k3_q138 => k_asm); (case k4_q138 => k_asm); (case k5_q138 => k_asm); (case k6_q138 => k_is); (case k7_q138 => k_is); (case k8_q138 => ktr_room); (case k9_q138 => first | exact BindsTo.of_eq rfl | exact binds_K (by k_in) rfl (by k_is) rfl rfl rfl); (case kB_q138 => exact rfl); (case kD_q138 => decide +kernel); (case c2_q138 => exact rfl); (case c3_q138 => exact rfl); (case c4_q138 => exact rfl); k_whole; intro g' L' h' tk' cells' FG' F' N' Y' B' X' T' l1; (try k_lt l1); k_cells Y'; (try simp only [List.cons_append, List.nil_append] at N'); (try dsimp only); (try k_fold))); (k_with "call ref" => (k_here; k_dflt (refine' label_use ?B_q139 ?F_q139 ?X_q139 ?T_q139 ?K_q139 ?d_q139 ?u_q139 ?N_q139 ?V_q139 ?hx_q139 ?hy_q139 ?hl_q139 ?hn0_q139 ?hn1_q139 ?hxl_q139 ?_; (case F_q139 => k_asm); (case B_q139 => k_asm); (case X_q139 => k_asm); (case T_q139 => k_asm); (case K_q139 => first | exact rfl | assumption); (case d_q139 => k_room); (case u_q139 => ktr_units); (case N_q139 => k_asm); (case V_q139 => (refine' PEnv.mono ?s_q139 (by assumption); (case s_q139 => k_allIn))); (case hx_q139 => assumption); (case hy_q139 => assumption); (case hl_q139 => assumption); (case hn0_q139 => decide); (case hn1_q139 => decide); (case hxl_q139 => assumption)); intro t' h' tk' F' N'; (try dsimp only at N'); (try k_sweep); walk_say "label_use")); (k_with "call ref" => (k_here; k_dflt (refine' term_text_spec ?B_q140 ?F_q140 ?X_q140 ?T_q140 ?K_q140 ?d_q140 ?u_q140 ?N_q140 ?V_q140 ?hd'_q140 ?ok_q140 ?hsz_q140 ?hle_q140 ?_; (case F_q140 => k_asm); (case B_q140 => k_asm); (case X_q140 => k_asm); (case T_q140 => k_asm); (case K_q140 => first | exact rfl | assumption); (case d_q140 => k_room); (case u_q140 => ktr_units); (case N_q140 => k_asm); (case V_q140 => (refine' PEnv.mono ?s_q140 (by assumption); (case s_q140 => k_allIn))); (case hd'_q140 => (refine' TmIn.mono ?s_q140 (by assumption); (case s_q140 => k_allIn))); (case ok_q140 => assumption); (case hsz_q140 => assumption); (case hle_q140 => assumption)); intro t' h' tk' F' N'; (try dsimp only at N'); (try k_sweep); walk_say "term_text_spec")); exact trivial
end
theorem formal3 {d1 d2 d3 : Tm} {p1 p2 p3 : Value} {i j : Nat} {x lab : Str} {ta ga : Addr} {u1 u2 : Tok} {c1 c2 : Nat} (B : Below A₀ base outer h₀) (F : Fr h₀ L s.heap m) (X : (Mine.kk.heap_1 w.params).In h₀) (T : Top p loose mean mg mb h₀) (hk : cs.kind = .function) (hd : dp + 60 < recursionLimit) (hu : un + 900 < cLine) (N : News h₀ L s.heap led) (V : PEnv w led b op xs fs) (ht : (ta, tupO [.str (Str.ofString "s") u1, .int i u2, .ref ga] c1) ∈ led) (hg : (ga, tupO [p1, p2, p3] c2) ∈ led) (hf : fs[i]? = some [((j : Nat) : Int), 3]) (hx : xs[j]? = some x) (hxl : x.length ≤ 1000) (hlab : x ++ Str.ofString "/" ++ Str.ofString (toString (3 : Int)) = lab) (h3 : lab = Str.ofString "permission_error/3") (hd1 : TmIn led xs fs p1 d1) (ok1 : OkT d1) (hsz1 : wsize d1 ≤ 100) (hle1 : (spell d1).length ≤ 100000) (hd2 : TmIn led xs fs p2 d2) (ok2 : OkT d2) (hsz2 : wsize d2 ≤ 100) (hle2 : (spell d2).length ≤ 100000) (hd3 : TmIn led xs fs p3 d3) (ok3 : OkT d3) (hsz3 : wsize d3 ≤ 100) (hle3 : (spell d3).length ≤ 100000)
  (hret : ∀ t h' tk', Fr h₀ L h' m → News h₀ L h' led → Q (.str (Str.ofString "no permission to " ++ spell d1 ++ Str.ofString " " ++ spell d2 ++ Str.ofString ": " ++ spell d3) t) { s with heap := h', toks := tk' }) :
  wpAny (model PySem.Challenge.rw_ok0024_01.row.prog w) (ktrTop dp un gd cn cs L a ccd cl outer) (call (.ref 496) [.ref b, .ref op, .ref ta]) Q E s := by
  have V0 := V
  obtain ⟨restB, rest0, bd, tx, an, fu, fn, opd, pre, inf, pos, t1, t2, t3, t4, v1, v2, v3, v4, oTx, oAn, oFu, oFn, oPre, oInf, oPos, K, n9, R, S, hz, hs, hs0, m1, m2, hx0, hf0, hop, hopd, hpre, hpos, O, hD, l1, l2⟩ := V0
  have hb := hs _ R.hb
  have hbd := hs _ R.hbd
  clear R S hs hs0 m1 m2 hx0 hf0 hop hopd hpre hpos O hD
  subst h3
  revert X; k_fill; intro X
  refine wpAny_call ?_
  k_dflt k_enter
  (refine sq_A ?_; intro A9)
  k_steps
  all_goals (rename News _ _ _ _ => kN; rename Fr _ _ _ _ => kF; (refine' ret_sN hret ?e kF kN ?s; (case s => (intro p9 h9; k_mem)); (case e => (first | rfl | (simp [ftext1, ftext2, *]; done)))))
example : True := by k_with_none; (k_with "x_k_room" => ((try simp (config := {zetaDelta := true}) only [depth_under_make, depth_under_kw, depth_in1, depth_deeper, depth_caller]); (try dsimp only [ktrTop]); (first | (refine' rm0 ?ha_q41; (case ha_q41 => assumption)) | (refine' rm1 ?ha_q41 ?hb_q41; (case ha_q41 => assumption); (case hb_q41 => exact rfl)) | (refine' rm2 ?ha_q41 ?hb_q41; (case ha_q41 => assumption); (case hb_q41 => exact rfl)) | (refine' rm3 ?ha_q41 ?hb_q41; (case ha_q41 => assumption); (case hb_q41 => exact rfl)) | (refine' rm4 ?ha_q41 ?hb_q41; (case ha_q41 => assumption); (case hb_q41 => exact rfl)) | omega))); (k_with "x_ktr_units" => ((try simp (config := {zetaDelta := true}) only [units_under_make, units_in1, units_deeper, Around.mark_units, units_caller]); (try dsimp only [ktrTop]); (first | (refine' rm0 ?ha_q42; (case ha_q42 => assumption)) | (refine' rm1 ?ha_q42 ?hb_q42; (case ha_q42 => assumption); (case hb_q42 => exact rfl)) | (refine' rm2 ?ha_q42 ?hb_q42; (case ha_q42 => assumption); (case hb_q42 => exact rfl)) | (refine' rm3 ?ha_q42 ?hb_q42; (case ha_q42 => assumption); (case hb_q42 => exact rfl)) | (refine' rm4 ?ha_q42 ?hb_q42; (case ha_q42 => assumption); (case hb_q42 => exact rfl)) | omega))); (k_with "execs cons" => (k_here; (with_reducible refine sq_tok ?_); intro tk')); (k_with "subscriptTail Name Constant ref int" => (k_here; (with_reducible show wpAny _ _ (subscriptTail _ _ (Value.ref _) (Value.int _ _)) _ _ _); k_dflt (first | (refine' item_tupleT ?t_q44 ?a_q44 ?b_q44 ?c_q44 ?d_q44 ?_; (case t_q44 => (refine' News.isTup ?t1_q44 ?t2_q44; (case t1_q44 => k_asm); (case t2_q44 => k_mem))); (case a_q44 => decide); (case b_q44 => decide); (case c_q44 => rfl); (case d_q44 => rfl); k_whole) | (refine' c_item_lit ?N_q44 ?m_q44 ?a2_q44 ?b2_q44 ?d2_q44 ?_; (case N_q44 => k_asm); (case m_q44 => k_mem); (case a2_q44 => decide); (case b2_q44 => decide); (case d2_q44 => rfl); k_whole)))); (k_with "eval Call Name" => (k_here; with_unfolding_all refine Call_ ?_)); (k_with "x_k_all" => first | assumption | exact List.forall_mem_nil _ | (refine' List.forall_mem_append.mpr ⟨?_, ?_⟩; (focus k_all); k_all) | (refine' List.forall_mem_cons.mpr ⟨?_, ?_⟩; (focus k_ne); k_all) | exact allNeP (by assumption) | (refine' Above.off ?hA_q46 ?hM_q46; (case hA_q46 => assumption); (case hM_q46 => k_mem)) | (refine' alt_all ?lh_q46 ?ls_q46; (case lh_q46 => assumption); (case ls_q46 => k_allIn)) | exact allNe0 (by assumption) | exact allNe1 (by assumption) | exact allNe2 (by assumption) | exact allNe3 (by assumption) | exact allNe4 (by assumption) | exact allNe5 (by assumption) | exact allNe6 (by assumption)); (k_with "x_k_ne" => first | assumption | (refine' alt_ne1 ?lh_q47 ?lm_q47; (case lh_q47 => assumption); (case lm_q47 => k_mem)) | (refine' alt_ne2 ?lh_q47 ?lm_q47; (case lh_q47 => assumption); (case lm_q47 => k_mem)) | (refine' alt_ne3 ?lx_q47 ?lh_q47 ?lm_q47; (case lx_q47 => assumption); (case lh_q47 => assumption); (case lm_q47 => k_mem)) | (refine' alt_ne4 ?lx_q47 ?lh_q47 ?lm_q47; (case lx_q47 => assumption); (case lh_q47 => assumption); (case lm_q47 => k_mem)) | (refine' Ne.symm ?_; assumption) | (refine neN ?_; refine' Ne.symm ?_; assumption) | (refine neN ?_; (try dsimp only); omega) | (refine' news_ne_cls ?nN_q47 ?n1_q47 ?n2_q47 ?n3_q47; (case nN_q47 => assumption); (case n1_q47 => k_mem); (case n2_q47 => k_mem); (case n3_q47 => (intro e9; exact absurd (Value.type.inj e9) (by decide)))) | (refine neN ?_; (try dsimp only); (simp only [List.forall_mem_cons] at *); omega)); (k_with "x_k_mem" => first | assumption | exact List.mem_cons_self | (refine' List.mem_cons_of_mem _ ?_; k_mem) | (refine' List.mem_append_left _ ?_; k_mem) | (refine' List.mem_append_right _ ?_; k_mem)); (k_with "x_k_upd" => first | exact Pull.head | (refine' Pull.tail ?b_q49; (case b_q49 => k_upd)) | (refine' Pull.under _ ?b_q49; (case b_q49 => k_upd))); (k_with "x_k_allIn" => first | assumption | (intro p9 h9; k_mem) | (refine' List.forall_mem_append.mpr ⟨?_, ?_⟩; (focus k_allIn); k_allIn) | exact List.forall_mem_nil _ | exact sub_l (by assumption)); (k_with "x_k_enter" => first | ktr_enter | (refine' code_def ?k1_q51 ?k2_q51 ?k3_q51 ?k4_q51 ?k5_q51 ?kA_q51 ?kF_q51 ?kK_q51 ?k6_q51 ?k7_q51 ?k8_q51 ?k9_q51 ?kB_q51 ?_ ?c2_q51 ?c3_q51 ?c4_q51 ?c5_q51; (case kA_q51 => exact rfl); (case kF_q51 => exact rfl); (case kK_q51 => first | exact rfl | assumption); (case k1_q51 => k_asm); (case k2_q51 => k_asm); (case k3_q51 => k_asm); (case k4_q51 => k_asm); (case k5_q51 => k_asm); (case k6_q51 => k_is); (case k7_q51 => k_is); (case k8_q51 => ktr_room); (case k9_q51 => exact binds_K (by k_in) rfl (by k_is) rfl rfl rfl); (case c5_q51 => decide); (case kB_q51 => exact locs rfl); (case c2_q51 => exact rfl); (case c3_q51 => exact rfl); (case c4_q51 => exact rfl); k_whole; intro g' L' h' FG' F' N' B' X' T'; (try dsimp only); (try k_fold))); exact trivial
end
end
section
noncomputable def OkD (d : Tm) : Prop := OkT d ∧ wsize d ≤ 40 ∧ (spell d).length ≤ 40000
inductive Fm | one (x : Str) (d : Tm) | two (x : Str) (d1 d2 : Tm) | three (x : Str) (d1 d2 d3 : Tm)
noncomputable def FmIn (led : List (Addr × Obj)) (xs : List Str) (fs : List (List Int)) (v : Value) : Fm → Prop
  | .one x d => TmIn led xs fs v (.S x d)
  | .two x d1 d2 => ∃ (a ga : Addr) (i j : Nat) (p1 p2 : Value) (t u : Tok) (c c2 : Nat), v = .ref a ∧ (a, tupO [.str (Str.ofString "s") t, .int i u, .ref ga] c) ∈ led ∧ (ga, tupO [p1, p2] c2) ∈ led ∧ xs[j]? = some x ∧ fs[i]? = some [((j : Nat) : Int), 2] ∧ TmIn led xs fs p1 d1 ∧ TmIn led xs fs p2 d2
  | .three x d1 d2 d3 => ∃ (a ga : Addr) (i j : Nat) (p1 p2 p3 : Value) (t u : Tok) (c c2 : Nat), v = .ref a ∧ (a, tupO [.str (Str.ofString "s") t, .int i u, .ref ga] c) ∈ led ∧ (ga, tupO [p1, p2, p3] c2) ∈ led ∧ xs[j]? = some x ∧ fs[i]? = some [((j : Nat) : Int), 3] ∧ TmIn led xs fs p1 d1 ∧ TmIn led xs fs p2 d2 ∧ TmIn led xs fs p3 d3
theorem FmIn.mono {led led' : List (Addr × Obj)} {xs : List Str} {fs : List (List Int)} (h : ∀ p ∈ led, p ∈ led') {f : Fm} {v : Value} (H : FmIn led xs fs v f) : FmIn led' xs fs v f := by
  cases f with
  | one _ _ => exact TmIn.mono h H
  | two _ _ _ =>
    obtain ⟨a, ga, i, j, p1, p2, t, u, c, c2, e, h1, h2, h3, h4, h5, h6⟩ := H
    exact ⟨a, ga, i, j, p1, p2, t, u, c, c2, e, h _ h1, h _ h2, h3, h4, h5.mono h, h6.mono h⟩
  | three _ _ _ _ =>
    obtain ⟨a, ga, i, j, p1, p2, p3, t, u, c, c2, e, h1, h2, h3, h4, h5, h6, h7⟩ := H
    exact ⟨a, ga, i, j, p1, p2, p3, t, u, c, c2, e, h _ h1, h _ h2, h3, h4, h5.mono h, h6.mono h, h7.mono h⟩
noncomputable def labOf (x : Str) (n : Int) : Str := x ++ Str.ofString "/" ++ Str.ofString (toString n)
noncomputable def Lab1 (lab : Str) : Prop := (lab == Str.ofString "type_error/2") = false ∧ (lab == Str.ofString "domain_error/2") = false ∧ (lab == Str.ofString "existence_error/2") = false ∧ (lab == Str.ofString "permission_error/3") = false
noncomputable def OkF : Fm → Prop
  | .one x d => x.length ≤ 1000 ∧ Lab1 (labOf x 1) ∧ OkD d
  | .two x d1 d2 => x.length ≤ 1000 ∧ Lab2 (labOf x 2) ∧ OkD d1 ∧ OkD d2
  | .three x d1 d2 d3 => x.length ≤ 1000 ∧ labOf x 3 = Str.ofString "permission_error/3" ∧ OkD d1 ∧ OkD d2 ∧ OkD d3
noncomputable def ftextF : Fm → Str
  | .one x d => ftext1 (labOf x 1) (spell d)
  | .two x d1 d2 => ftext2 (labOf x 2) (spell d1) (spell d2)
  | .three _ d1 d2 d3 => Str.ofString "no permission to " ++ spell d1 ++ Str.ofString " " ++ spell d2 ++ Str.ofString ": " ++ spell d3
section
variable {w : World} {p : Program} {loose : List Str} {mean : ExcName → Option Value} {mg mb : Str → Option Value} {dp un : Nat} {gd : Option (List Code)} {cn : Str} {cs : Scope} {a : Addr} {ccd : Value} {cl : List (Str × Addr)} {outer : List Env} {A₀ : Around} {base h₀ : Heap} {L : Addr} {m : Str → Option Value} {s : Shared} {Q E : Value → Shared → Prop} {news rest : List (Addr × Obj)}
variable {op b : Addr} {xs : List Str} {fs : List (List Int)} {led : List (Addr × Obj)}
theorem formal_text_spec {f : Fm} {v : Value} (B : Below A₀ base outer h₀) (F : Fr h₀ L s.heap m) (X : (Mine.kk.heap_1 w.params).In h₀) (T : Top p loose mean mg mb h₀) (hk : cs.kind = .function) (hd : dp + 60 < recursionLimit) (hu : un + 900 < cLine) (N : News h₀ L s.heap led) (V : PEnv w led b op xs fs) (hf : FmIn led xs fs v f) (ok : OkF f)
  (hret : ∀ t h' tk', Fr h₀ L h' m → News h₀ L h' led → Q (.str (ftextF f) t) { s with heap := h', toks := tk' }) :
  wpAny (model PySem.Challenge.rw_ok0024_01.row.prog w) (ktrTop dp un gd cn cs L a ccd cl outer) (call (.ref 496) [.ref b, .ref op, v]) Q E s := by
  cases f with
  | one x d =>
    obtain ⟨a, ga, i, j, v', t, u, c, c2, rfl, h1, h2, h3, h4, h5⟩ := hf
    obtain ⟨o1, ⟨l1, l2, l3, l4⟩, ok, o3, o4⟩ := ok
    exact formal1 B F X T hk hd hu N V h1 h2 h4 h3 o1 rfl l1 l2 l3 l4 h5 ok (by omega) (by omega) hret
  | two x d1 d2 =>
    obtain ⟨a, ga, i, j, p1, p2, t, u, c, c2, rfl, h1, h2, h3, h4, h5, h6⟩ := hf
    obtain ⟨o1, o2, ⟨k1, k2, k3⟩, ⟨k4, k5, k6⟩⟩ := ok
    exact formal2 B F X T hk hd hu N V h1 h2 h4 h3 o1 rfl o2 h5 k1 (by omega) (by omega) h6 k4 (by omega) (by omega) hret
  | three x d1 d2 d3 =>
    obtain ⟨a, ga, i, j, p1, p2, p3, t, u, c, c2, rfl, h1, h2, h3, h4, h5, h6, h7⟩ := hf
    obtain ⟨o1, o2, ⟨k1, k2, k3⟩, ⟨k4, k5, k6⟩, ⟨k7, k8, k9⟩⟩ := ok
    exact formal3 B F X T hk hd hu N V h1 h2 h4 h3 o1 rfl o2 h5 k1 (by omega) (by omega) h6 k4 (by omega) (by omega) h7 k7 (by omega) (by omega) hret
theorem text_use {i : Nat} {x : Str} {tk : Tok} (B : Below A₀ base outer h₀) (F : Fr h₀ L s.heap m) (X : (Mine.kk.heap_1 w.params).In h₀) (T : Top p loose mean mg mb h₀) (hk : cs.kind = .function) (hd : dp + 5 < recursionLimit) (hu : un + 60 < cLine) (N : News h₀ L s.heap led) (V : PEnv w led b op xs fs) (hx : xs[i]? = some x)
  (hret : ∀ t h' tk', Fr h₀ L h' m → News h₀ L h' led → Q (.str x t) { s with heap := h', toks := tk' }) :
  wpAny (model PySem.Challenge.rw_ok0024_01.row.prog w) (ktrTop dp un gd cn cs L a ccd cl outer) (call (.ref 63) [.ref b, .int i tk]) Q E s := by
  obtain ⟨restB, rest0, bd, tx, an, fu, fn, opd, pre, inf, pos, t1, t2, t3, t4, v1, v2, v3, v4, oTx, oAn, oFu, oFn, oPre, oInf, oPos, K, n9, R, S, hz, hs, hs0, m1, m2, hx0, hf0, hop, hopd, hpre, hpos, O, hD, l1, l2⟩ := V
  exact text_spec B F X T hk hd hu N R S (by omega) hs0 m1 hs hx hret
end
theorem not_error {xs : List Str} {fs : List (List Int)} {i j : Nat} (hf0 : FK <+: fs) (hf : fs[i]? = some [((j : Nat) : Int), 1]) : ¬ ((i : Nat) : Int) = 16 := by
  obtain ⟨q, rfl⟩ := hf0
  intro e
  have e : i = 16 := by omega
  subst e
  have h1 : (FK ++ q)[16]? = some [22, 2] := by rw [List.getElem?_append_left (by decide)]; decide
  rw [h1] at hf
  exact absurd (Option.some.inj hf) (by simp)
theorem PEnv.fk {w : World} {led : List (Addr × Obj)} {b op : Addr} {xs : List Str} {fs : List (List Int)} (V : PEnv w led b op xs fs) : FK <+: fs := by
  obtain ⟨restB, rest0, bd, tx, an, fu, fn, opd, pre, inf, pos, t1, t2, t3, t4, v1, v2, v3, v4, oTx, oAn, oFu, oFn, oPre, oInf, oPos, K, n, V⟩ := V
  exact V.hf
theorem PEnv.book {w : World} {led : List (Addr × Obj)} {b op : Addr} {xs : List Str} {fs : List (List Int)} (V : PEnv w led b op xs fs) : ∃ bd t1 t2 t3 t4 tx an fu fn, (b, instObj 122 bd) ∈ led ∧ (bd, bookD w t1 t2 t3 t4 tx an fu fn) ∈ led := by
  obtain ⟨restB, rest0, bd, tx, an, fu, fn, opd, pre, inf, pos, t1, t2, t3, t4, v1, v2, v3, v4, oTx, oAn, oFu, oFn, oPre, oInf, oPos, K, n, V⟩ := V
  exact ⟨_, _, _, _, _, _, _, _, _, V.hs _ V.R.hb, V.hs _ V.R.hbd⟩
section
local macro_rules | `(tactic| k_allIn) => `(tactic| k_extra "x_k_allIn")
example : True := by (k_with "x_k_allIn" => first | assumption | (refine' sub_c ?s9_q142; (case s9_q142 => k_allIn))); exact trivial
example : True := by (k_with "call ref" => (k_here; k_dflt (refine' formal_text_spec ?B_q143 ?F_q143 ?X_q143 ?T_q143 ?K_q143 ?d_q143 ?u_q143 ?N_q143 ?V_q143 ?hf_q143 ?ok_q143 ?_; (case F_q143 => k_asm); (case B_q143 => k_asm); (case X_q143 => k_asm); (case T_q143 => k_asm); (case K_q143 => first | exact rfl | assumption); (case d_q143 => k_room); (case u_q143 => ktr_units); (case N_q143 => k_asm); (case V_q143 => assumption); (case hf_q143 => assumption); (case ok_q143 => assumption)); intro t' h' tk' F' N'; (try dsimp only at N'); (try k_sweep); walk_say "formal_text_spec")); exact trivial
example : True := by (k_with "call ref" => (k_here; k_dflt (refine' text_use ?B_q144 ?F_q144 ?X_q144 ?T_q144 ?K_q144 ?d_q144 ?u_q144 ?N_q144 ?V_q144 ?hx_q144 ?_; (case F_q144 => k_asm); (case B_q144 => k_asm); (case X_q144 => k_asm); (case T_q144 => k_asm); (case K_q144 => first | exact rfl | assumption); (case d_q144 => k_room); (case u_q144 => ktr_units); (case N_q144 => k_asm); (case V_q144 => assumption); (case hx_q144 => assumption)); intro t' h' tk' F' N'; (try dsimp only at N'); (try k_sweep); walk_say "text_use")); exact trivial
example : True := by (k_with "call ref" => (k_here; k_dflt (refine' term_text_spec ?B_q145 ?F_q145 ?X_q145 ?T_q145 ?K_q145 ?d_q145 ?u_q145 ?N_q145 ?V_q145 ?hd'_q145 ?ok_q145 ?hsz_q145 ?hle_q145 ?_; (case F_q145 => k_asm); (case B_q145 => k_asm); (case X_q145 => k_asm); (case T_q145 => k_asm); (case K_q145 => first | exact rfl | assumption); (case d_q145 => k_room); (case u_q145 => ktr_units); (case N_q145 => k_asm); (case V_q145 => (refine' PEnv.mono ?s_q145 (by assumption); (case s_q145 => k_allIn))); (case hd'_q145 => (refine' TmIn.mono ?s_q145 (by assumption); (case s_q145 => k_allIn))); (case ok_q145 => assumption); (case hsz_q145 => assumption); (case hle_q145 => assumption)); intro t' h' tk' F' N'; (try dsimp only at N'); (try k_sweep); walk_say "term_text_spec")); exact trivial
example : True := by (k_with "ite" => (k_here; k_openite; first | (refine ite_isFalse (decide_eq_false (by with_reducible assumption)) ?_) | (refine ite_pos (decide_eq_true (by with_reducible assumption)) ?_); walk_say "P1")); exact trivial
variable {w : World} {p : Program} {loose : List Str} {mean : ExcName → Option Value} {mg mb : Str → Option Value} {dp un : Nat} {gd : Option (List Code)} {cn : Str} {cs : Scope} {a : Addr} {ccd : Value} {cl : List (Str × Addr)} {outer : List Env} {A₀ : Around} {base h₀ : Heap} {L : Addr} {m : Str → Option Value} {s : Shared} {Q E : Value → Shared → Prop} {news rest : List (Addr × Obj)}
variable {op b : Addr} {xs : List Str} {fs : List (List Int)} {led : List (Addr × Obj)}
theorem err_other {d : Tm} {v : Value} (B : Below A₀ base outer h₀) (F : Fr h₀ L s.heap m) (X : (Mine.kk.heap_1 w.params).In h₀) (T : Top p loose mean mg mb h₀) (hk : cs.kind = .function) (hd : dp + 80 < recursionLimit) (hu : un + 999 < cLine) (N : News h₀ L s.heap led) (V : PEnv w led b op xs fs) (hd' : TmIn led xs fs v d) (ok : OkD d)
  (hret : ∀ t h' tk', Fr h₀ L h' m → News h₀ L h' led → Q (.str (Str.ofString "uncaught ball: " ++ spell d) t) { s with heap := h', toks := tk' }) :
  wpAny (model PySem.Challenge.rw_ok0024_01.row.prog w) (ktrTop dp un gd cn cs L a ccd cl outer) (call (.ref 491) [.ref b, .ref op, v]) Q E s := by
  obtain ⟨ok1, ok2, ok3⟩ := ok
  have ok2' : wsize d ≤ 100 := by omega
  have ok3' : (spell d).length ≤ 100000 := by omega
  cases d with
  | A x =>
    have hd2 := hd'
    obtain ⟨ta, i, t1, u1, c1, rfl, ht, hx⟩ := hd2
    revert X; k_fill; intro X
    refine wpAny_call ?_
    k_dflt k_enter
    (refine sq_A ?_; intro A9)
    k_steps
    all_goals (rename News _ _ _ _ => kN; rename Fr _ _ _ _ => kF; (refine' ret_sN hret ?e kF kN ?s; (case s => (intro p9 h9; k_mem)); (case e => (first | rfl))))
  | I x =>
    have hd2 := hd'
    obtain ⟨ta, t1, u1, c1, rfl, ht⟩ := hd2
    revert X; k_fill; intro X
    refine wpAny_call ?_
    k_dflt k_enter
    (refine sq_A ?_; intro A9)
    k_steps
    all_goals (rename News _ _ _ _ => kN; rename Fr _ _ _ _ => kF; (refine' ret_sN hret ?e kF kN ?s; (case s => (intro p9 h9; k_mem)); (case e => (first | rfl))))
  | S x d =>
    have hd2 := hd'
    obtain ⟨ta, ga, i, j, v', t1, u1, c1, c2, rfl, ht, hg, hx, hf, hdd⟩ := hd2
    have h16 := not_error (xs := xs) V.fk hf
    have h16' : ((i : Nat) : Int) ≠ 16 := h16
    revert X; k_fill; intro X
    refine wpAny_call ?_
    k_dflt k_enter
    (refine sq_A ?_; intro A9)
    k_steps
    all_goals first | exact absurd (by assumption) h16 | skip
    all_goals (rename News _ _ _ _ => kN; rename Fr _ _ _ _ => kF; (refine' ret_sN hret ?e kF kN ?s; (case s => (intro p9 h9; k_mem)); (case e => (first | rfl))))
theorem err_atom {x : Str} {i : Nat} {ta ga fa : Addr} {cv : Value} {u1 u2 u3 u4 : Tok} {c1 c2 c3 : Nat} (B : Below A₀ base outer h₀) (F : Fr h₀ L s.heap m) (X : (Mine.kk.heap_1 w.params).In h₀) (T : Top p loose mean mg mb h₀) (hk : cs.kind = .function) (hd : dp + 80 < recursionLimit) (hu : un + 999 < cLine) (N : News h₀ L s.heap led) (V : PEnv w led b op xs fs) (ht : (ta, tupO [.str (Str.ofString "s") u1, .int 16 u2, .ref ga] c1) ∈ led) (hg : (ga, tupO [.ref fa, cv] c2) ∈ led) (hfa : (fa, tupO [.str (Str.ofString "a") u3, .int i u4] c3) ∈ led) (hx : xs[i]? = some x) (ok : OkD (.A x))
  (hret : ∀ t h' tk', Fr h₀ L h' m → News h₀ L h' led → Q (.str (if (x == Str.ofString "instantiation_error") = true then Str.ofString "an argument is not instantiated enough" else Str.ofString "error: " ++ spellB x) t) { s with heap := h', toks := tk' }) :
  wpAny (model PySem.Challenge.rw_ok0024_01.row.prog w) (ktrTop dp un gd cn cs L a ccd cl outer) (call (.ref 491) [.ref b, .ref op, .ref ta]) Q E s := by
  obtain ⟨ok1, ok2, ok3⟩ := ok
  have ok2' : wsize (.A x) ≤ 100 := by omega
  have ok3' : (spell (.A x)).length ≤ 100000 := by omega
  have hd' : TmIn led xs fs (.ref fa) (.A x) := ⟨fa, i, u3, u4, c3, rfl, hfa, hx⟩
  obtain ⟨bd, t1, t2, t3, t4, tx, an, fu, fn, hb, hbd⟩ := V.book
  revert X; k_fill; intro X
  refine wpAny_call ?_
  k_dflt k_enter
  (refine sq_A ?_; intro A9)
  k_steps
  all_goals (rename News _ _ _ _ => kN; rename Fr _ _ _ _ => kF; (refine' ret_sN hret ?e kF kN ?s; (case s => (intro p9 h9; k_mem)); (case e => (first | rfl | (simp [spell, *]; done)))))
theorem err_formal {f : Fm} {i : Nat} {ta ga fa fga : Addr} {cv : Value} {u1 u2 u3 u4 : Tok} {c1 c2 c3 : Nat} (B : Below A₀ base outer h₀) (F : Fr h₀ L s.heap m) (X : (Mine.kk.heap_1 w.params).In h₀) (T : Top p loose mean mg mb h₀) (hk : cs.kind = .function) (hd : dp + 80 < recursionLimit) (hu : un + 999 < cLine) (N : News h₀ L s.heap led) (V : PEnv w led b op xs fs) (ht : (ta, tupO [.str (Str.ofString "s") u1, .int 16 u2, .ref ga] c1) ∈ led) (hg : (ga, tupO [.ref fa, cv] c2) ∈ led) (hfa : (fa, tupO [.str (Str.ofString "s") u3, .int i u4, .ref fga] c3) ∈ led) (hf : FmIn led xs fs (.ref fa) f) (ok : OkF f) (hne : (ftextF f != Str.ofString "") = true)
  (hret : ∀ t h' tk', Fr h₀ L h' m → News h₀ L h' led → Q (.str (ftextF f) t) { s with heap := h', toks := tk' }) :
  wpAny (model PySem.Challenge.rw_ok0024_01.row.prog w) (ktrTop dp un gd cn cs L a ccd cl outer) (call (.ref 491) [.ref b, .ref op, .ref ta]) Q E s := by
  revert X; k_fill; intro X
  refine wpAny_call ?_
  k_dflt k_enter
  (refine sq_A ?_; intro A9)
  k_steps
  all_goals (rename News _ _ _ _ => kN; rename Fr _ _ _ _ => kF; (refine' ret_sN hret ?e kF kN ?s; (case s => (intro p9 h9; k_mem)); (case e => (first | rfl))))
theorem err_odd {x : Str} {d : Tm} {i : Nat} {ta ga fa fga : Addr} {cv : Value} {u1 u2 u3 u4 : Tok} {c1 c2 c3 : Nat} (B : Below A₀ base outer h₀) (F : Fr h₀ L s.heap m) (X : (Mine.kk.heap_1 w.params).In h₀) (T : Top p loose mean mg mb h₀) (hk : cs.kind = .function) (hd : dp + 80 < recursionLimit) (hu : un + 999 < cLine) (N : News h₀ L s.heap led) (V : PEnv w led b op xs fs) (ht : (ta, tupO [.str (Str.ofString "s") u1, .int 16 u2, .ref ga] c1) ∈ led) (hg : (ga, tupO [.ref fa, cv] c2) ∈ led) (hfa : (fa, tupO [.str (Str.ofString "s") u3, .int i u4, .ref fga] c3) ∈ led) (hf : FmIn led xs fs (.ref fa) (.one x d)) (ok : OkF (.one x d)) (okS : OkD (.S x d)) (hne : (ftextF (.one x d) != Str.ofString "") = false)
  (hret : ∀ t h' tk', Fr h₀ L h' m → News h₀ L h' led → Q (.str (Str.ofString "error: " ++ spell (.S x d)) t) { s with heap := h', toks := tk' }) :
  wpAny (model PySem.Challenge.rw_ok0024_01.row.prog w) (ktrTop dp un gd cn cs L a ccd cl outer) (call (.ref 491) [.ref b, .ref op, .ref ta]) Q E s := by
  obtain ⟨ok1, ok2, ok3⟩ := okS
  have ok2' : wsize (.S x d) ≤ 100 := by omega
  have ok3' : (spell (.S x d)).length ≤ 100000 := by omega
  have hd' : TmIn led xs fs (.ref fa) (.S x d) := hf
  revert X; k_fill; intro X
  refine wpAny_call ?_
  k_dflt k_enter
  (refine sq_A ?_; intro A9)
  k_steps
  all_goals (rename News _ _ _ _ => kN; rename Fr _ _ _ _ => kF; (refine' ret_sN hret ?e kF kN ?s; (case s => (intro p9 h9; k_mem)); (case e => (first | rfl))))
example : True := by k_with_none; (k_with "x_k_room" => ((try simp (config := {zetaDelta := true}) only [depth_under_make, depth_under_kw, depth_in1, depth_deeper, depth_caller]); (try dsimp only [ktrTop]); (first | (refine' rm0 ?ha_q41; (case ha_q41 => assumption)) | (refine' rm1 ?ha_q41 ?hb_q41; (case ha_q41 => assumption); (case hb_q41 => exact rfl)) | (refine' rm2 ?ha_q41 ?hb_q41; (case ha_q41 => assumption); (case hb_q41 => exact rfl)) | (refine' rm3 ?ha_q41 ?hb_q41; (case ha_q41 => assumption); (case hb_q41 => exact rfl)) | (refine' rm4 ?ha_q41 ?hb_q41; (case ha_q41 => assumption); (case hb_q41 => exact rfl)) | omega))); (k_with "x_ktr_units" => ((try simp (config := {zetaDelta := true}) only [units_under_make, units_in1, units_deeper, Around.mark_units, units_caller]); (try dsimp only [ktrTop]); (first | (refine' rm0 ?ha_q42; (case ha_q42 => assumption)) | (refine' rm1 ?ha_q42 ?hb_q42; (case ha_q42 => assumption); (case hb_q42 => exact rfl)) | (refine' rm2 ?ha_q42 ?hb_q42; (case ha_q42 => assumption); (case hb_q42 => exact rfl)) | (refine' rm3 ?ha_q42 ?hb_q42; (case ha_q42 => assumption); (case hb_q42 => exact rfl)) | (refine' rm4 ?ha_q42 ?hb_q42; (case ha_q42 => assumption); (case hb_q42 => exact rfl)) | omega))); (k_with "execs cons" => (k_here; (with_reducible refine sq_tok ?_); intro tk')); (k_with "subscriptTail Name Constant ref int" => (k_here; (with_reducible show wpAny _ _ (subscriptTail _ _ (Value.ref _) (Value.int _ _)) _ _ _); k_dflt (first | (refine' item_tupleT ?t_q44 ?a_q44 ?b_q44 ?c_q44 ?d_q44 ?_; (case t_q44 => (refine' News.isTup ?t1_q44 ?t2_q44; (case t1_q44 => k_asm); (case t2_q44 => k_mem))); (case a_q44 => decide); (case b_q44 => decide); (case c_q44 => rfl); (case d_q44 => rfl); k_whole) | (refine' c_item_lit ?N_q44 ?m_q44 ?a2_q44 ?b2_q44 ?d2_q44 ?_; (case N_q44 => k_asm); (case m_q44 => k_mem); (case a2_q44 => decide); (case b2_q44 => decide); (case d2_q44 => rfl); k_whole)))); (k_with "eval Call Name" => (k_here; with_unfolding_all refine Call_ ?_)); (k_with "x_k_all" => first | assumption | exact List.forall_mem_nil _ | (refine' List.forall_mem_append.mpr ⟨?_, ?_⟩; (focus k_all); k_all) | (refine' List.forall_mem_cons.mpr ⟨?_, ?_⟩; (focus k_ne); k_all) | exact allNeP (by assumption) | (refine' Above.off ?hA_q46 ?hM_q46; (case hA_q46 => assumption); (case hM_q46 => k_mem)) | (refine' alt_all ?lh_q46 ?ls_q46; (case lh_q46 => assumption); (case ls_q46 => k_allIn)) | exact allNe0 (by assumption) | exact allNe1 (by assumption) | exact allNe2 (by assumption) | exact allNe3 (by assumption) | exact allNe4 (by assumption) | exact allNe5 (by assumption) | exact allNe6 (by assumption)); (k_with "x_k_ne" => first | assumption | (refine' alt_ne1 ?lh_q47 ?lm_q47; (case lh_q47 => assumption); (case lm_q47 => k_mem)) | (refine' alt_ne2 ?lh_q47 ?lm_q47; (case lh_q47 => assumption); (case lm_q47 => k_mem)) | (refine' alt_ne3 ?lx_q47 ?lh_q47 ?lm_q47; (case lx_q47 => assumption); (case lh_q47 => assumption); (case lm_q47 => k_mem)) | (refine' alt_ne4 ?lx_q47 ?lh_q47 ?lm_q47; (case lx_q47 => assumption); (case lh_q47 => assumption); (case lm_q47 => k_mem)) | (refine' Ne.symm ?_; assumption) | (refine neN ?_; refine' Ne.symm ?_; assumption) | (refine neN ?_; (try dsimp only); omega) | (refine' news_ne_cls ?nN_q47 ?n1_q47 ?n2_q47 ?n3_q47; (case nN_q47 => assumption); (case n1_q47 => k_mem); (case n2_q47 => k_mem); (case n3_q47 => (intro e9; exact absurd (Value.type.inj e9) (by decide)))) | (refine neN ?_; (try dsimp only); (simp only [List.forall_mem_cons] at *); omega)); (k_with "x_k_mem" => first | assumption | exact List.mem_cons_self | (refine' List.mem_cons_of_mem _ ?_; k_mem) | (refine' List.mem_append_left _ ?_; k_mem) | (refine' List.mem_append_right _ ?_; k_mem)); (k_with "x_k_upd" => first | exact Pull.head | (refine' Pull.tail ?b_q49; (case b_q49 => k_upd)) | (refine' Pull.under _ ?b_q49; (case b_q49 => k_upd))); (k_with "x_k_allIn" => first | assumption | (intro p9 h9; k_mem) | (refine' List.forall_mem_append.mpr ⟨?_, ?_⟩; (focus k_allIn); k_allIn) | exact List.forall_mem_nil _ | exact sub_l (by assumption)); (k_with "x_k_enter" => first | ktr_enter | (refine' code_def ?k1_q51 ?k2_q51 ?k3_q51 ?k4_q51 ?k5_q51 ?kA_q51 ?kF_q51 ?kK_q51 ?k6_q51 ?k7_q51 ?k8_q51 ?k9_q51 ?kB_q51 ?_ ?c2_q51 ?c3_q51 ?c4_q51 ?c5_q51; (case kA_q51 => exact rfl); (case kF_q51 => exact rfl); (case kK_q51 => first | exact rfl | assumption); (case k1_q51 => k_asm); (case k2_q51 => k_asm); (case k3_q51 => k_asm); (case k4_q51 => k_asm); (case k5_q51 => k_asm); (case k6_q51 => k_is); (case k7_q51 => k_is); (case k8_q51 => ktr_room); (case k9_q51 => exact binds_K (by k_in) rfl (by k_is) rfl rfl rfl); (case c5_q51 => decide); (case kB_q51 => exact locs rfl); (case c2_q51 => exact rfl); (case c3_q51 => exact rfl); (case c4_q51 => exact rfl); k_whole; intro g' L' h' FG' F' N' B' X' T'; (try dsimp only); (try k_fold))); exact trivial
end
end
section
noncomputable abbrev RowIs (w : World) (o : Obj) (ce : Addr) (i : Int) (u1 : Tok) (sd : Int) (u2 : Tok) : Prop := o.IsDictOf (PySem.strKind PG w) [(Str.ofString "cells", .ref ce), (Str.ofString "at", .int i u1), (Str.ofString "seed", .int sd u2)]
noncomputable def Cells (its : List Value) : Prop := its.length ≤ 30 ∧ ∀ (i : Nat) v, its[i]? = some v → ∃ (x : Int) (t : Tok), v = .int x t ∧ 0 ≤ x ∧ x < 5040
theorem fmod_ok {x y : Int} (h : 0 < y) : 0 ≤ x.fmod y ∧ x.fmod y < y := ⟨Int.fmod_nonneg_of_pos _ h, Int.fmod_lt_of_pos _ h⟩
section
variable {prog : Program} {w : World} {A : Around} {E : Value → Shared → Prop} {s : Shared} {h₀ : Heap} {L d : Addr} {m : Str → Option Value} {led rest : List (Addr × Obj)} {o : Obj} {kvs : List (Str × Value)} {k : Str} {t : Tok} {v : Value}
theorem c_setS {Q : Unit → Shared → Prop} (F : Fr h₀ L s.heap m) (N : News h₀ L s.heap led) (P : Pull d o led rest) (o1 : ∀ p ∈ rest, p.1 ≠ d) (hd : o.IsDictOf (PySem.strKind prog w) kvs) (hsz : kvs.length ≤ 1000)
    (h : ∀ h' o', Fr h₀ L h' m → News h₀ L h' ((d, o') :: rest) → o'.IsDictOf (PySem.strKind prog w) (stored kvs k v) → Q () { s with heap := h', toks := s.toks + 1 }) : wpAny (model prog w) A (setItem (.ref d) (.str k t) v) Q E s :=
  kda_set (g := fun o' => (d, o') :: rest) F (P.news (pre := []) N) (.head o1) hd (strKind_is _ _ _ _) (by rw [sizeLine_eq]; omega) h
end
theorem c_getS {prog : Program} {w : World} {A : Around} {E : Value → Shared → Prop} {s : Shared} {h₀ : Heap} {L d : Addr} {led : List (Addr × Obj)} {o : Obj} {kvs : List (Str × Value)} {k : Str} {t : Tok} {v : Value} {Q : Value → Shared → Prop} (N : News h₀ L s.heap led) (hm : (d, o) ∈ led) (hd : o.IsDictOf (PySem.strKind prog w) kvs) (hl : valueAt kvs k = some v) (h : Q v { s with toks := s.toks + 1 }) : wpAny (model prog w) A (getItem (.ref d) (.str k t)) Q E s :=
  wpAny_getItem_of (strKind_is _ _ _ _) (kda_dict N hm hd).mapOf hl h
theorem rowset_at {prog : Program} {w : World} {o : Obj} {a b c v : Value} (h : o.IsDictOf (PySem.strKind prog w) (stored [(Str.ofString "cells", a), (Str.ofString "at", b), (Str.ofString "seed", c)] (Str.ofString "at") v)) : o.IsDictOf (PySem.strKind prog w) [(Str.ofString "cells", a), (Str.ofString "at", v), (Str.ofString "seed", c)] := h
theorem rowset_sd {prog : Program} {w : World} {o : Obj} {a b c v : Value} (h : o.IsDictOf (PySem.strKind prog w) (stored [(Str.ofString "cells", a), (Str.ofString "at", b), (Str.ofString "seed", c)] (Str.ofString "seed") v)) : o.IsDictOf (PySem.strKind prog w) [(Str.ofString "cells", a), (Str.ofString "at", b), (Str.ofString "seed", v)] := h
section
example : True := by (k_with "getItem ref" => (k_here; (with_reducible show wpAny _ _ (getItem (Value.ref _) (Value.str _ _)) _ _ _); k_dflt (refine' c_getS ?N_q147 ?m_q147 ?d_q147 ?l_q147 ?_; (case N_q147 => k_asm); (case m_q147 => k_mem); (case d_q147 => assumption); (case l_q147 => rfl); k_whole))); exact trivial
example : True := by (k_with "ite" => (k_here; k_openite; first | (refine ite_isFalse (decide_eq_false (by with_reducible assumption)) ?_) | (refine ite_pos (decide_eq_true (by with_reducible assumption)) ?_); walk_say "P1")); exact trivial
example : True := by (k_with "call builtin:len" => (k_here; k_dflt (refine' c_len_list ?N_q149 ?m_q149 ?z_q149 ?_; (case N_q149 => k_asm); (case m_q149 => k_mem); (case z_q149 => omega); k_whole))); exact trivial
example : True := by (k_with "subscriptTail" => (k_here; (with_reducible show wpAny _ _ (subscriptTail _ _ (Value.ref _) (Value.int _ _)) _ _ _); k_dflt (refine' c_item_list ?N_q150 ?m_q150 ?x_q150 ?i_q150 ?_; (case N_q150 => k_asm); (case m_q150 => k_mem); (case x_q150 => assumption); (case i_q150 => omega); k_whole))); (k_with "subscriptTail Name Constant ref int" => (k_here; (with_reducible show wpAny _ _ (subscriptTail _ _ (Value.ref _) (Value.int _ _)) _ _ _); k_dflt (refine' c_item_list ?N_q150 ?m_q150 ?x_q150 ?i_q150 ?_; (case N_q150 => k_asm); (case m_q150 => k_mem); (case x_q150 => assumption); (case i_q150 => omega); k_whole))); (k_with "subscriptTail Name" => (k_here; (with_reducible show wpAny _ _ (subscriptTail _ _ (Value.ref _) (Value.int _ _)) _ _ _); k_dflt (refine' c_item_list ?N_q150 ?m_q150 ?x_q150 ?i_q150 ?_; (case N_q150 => k_asm); (case m_q150 => k_mem); (case x_q150 => assumption); (case i_q150 => omega); k_whole))); exact trivial
example : True := by (k_with "subscriptTail" => (k_here; (with_reducible show wpAny _ _ (subscriptTail _ _ (Value.ref _) (Value.str _ _)) _ _ _); k_dflt (refine' kda_item (knd := PySem.strKind _ _) ?N_q151 ?m_q151 ?d_q151 (strKind_is _ _ _ _) ?l_q151 ?_; (case N_q151 => k_asm); (case m_q151 => k_mem); (case d_q151 => assumption); (case l_q151 => rfl); k_whole))); (k_with "subscriptTail Name Constant ref int" => (k_here; (with_reducible show wpAny _ _ (subscriptTail _ _ (Value.ref _) (Value.str _ _)) _ _ _); k_dflt (refine' kda_item (knd := PySem.strKind _ _) ?N_q151 ?m_q151 ?d_q151 (strKind_is _ _ _ _) ?l_q151 ?_; (case N_q151 => k_asm); (case m_q151 => k_mem); (case d_q151 => assumption); (case l_q151 => rfl); k_whole))); (k_with "subscriptTail Name" => (k_here; (with_reducible show wpAny _ _ (subscriptTail _ _ (Value.ref _) (Value.str _ _)) _ _ _); k_dflt (refine' kda_item (knd := PySem.strKind _ _) ?N_q151 ?m_q151 ?d_q151 (strKind_is _ _ _ _) ?l_q151 ?_; (case N_q151 => k_asm); (case m_q151 => k_mem); (case d_q151 => assumption); (case l_q151 => rfl); k_whole))); exact trivial
example : True := by (k_with "setItem ref str" => (k_here; k_dflt (refine' c_setS ?F_q152 ?N_q152 ?P_q152 ?o_q152 ?d_q152 ?z_q152 ?_; (case F_q152 => k_asm); (case N_q152 => k_asm); (case P_q152 => k_upd); (case o_q152 => k_all); (case d_q152 => assumption); (case z_q152 => exact Nat.le_of_ble_eq_true (by with_unfolding_all rfl))); intro h' o' F' N' hd'; (first | replace hd' := rowset_at hd' | replace hd' := rowset_sd hd'); (try dsimp only at N'))); exact trivial
variable {w : World} {p : Program} {loose : List Str} {mean : ExcName → Option Value} {mg mb : Str → Option Value} {dp un : Nat} {gd : Option (List Code)} {cn : Str} {cs : Scope} {a : Addr} {ccd : Value} {cl : List (Str × Addr)} {outer : List Env} {A₀ : Around} {base h₀ : Heap} {L : Addr} {m : Str → Option Value} {s : Shared} {Q E : Value → Shared → Prop} {news rest : List (Addr × Obj)}
variable {rd ce : Addr} {oR : Obj} {its : List Value} {n i : Nat} {sd : Int} {u1 u2 : Tok}
theorem law_draw_spec {most : Int} {u : Tok} (hm0 : 0 < most) (hm1 : most ≤ 1000) (B : Below A₀ base outer h₀) (F : Fr h₀ L s.heap m) (X : (Mine.kk.heap_1 w.params).In h₀) (T : Top p loose mean mg mb h₀) (hk : cs.kind = .function) (hd : dp + 5 < recursionLimit) (hu : un + 60 < cLine) (N : News h₀ L s.heap ((rd, oR) :: rest)) (hR : RowIs w oR ce i u1 sd u2) (hcl : (ce, listOf its.toArray n) ∈ rest) (hne : @Ne Nat ce rd) (o1 : ∀ p ∈ rest, p.1 ≠ rd) (hc : Cells its) (hi : i ≤ its.length) (hs0 : 0 ≤ sd) (hs1 : sd < 941)
  (hret : ∀ v t oR' (i' : Nat) u1' sd' u2' h' tk', 0 ≤ v → v < most → i' ≤ its.length → 0 ≤ sd' → sd' < 941 → Fr h₀ L h' m → News h₀ L h' ((rd, oR') :: rest) → RowIs w oR' ce i' u1' sd' u2' → Q (.int v t) { s with heap := h', toks := tk' }) :
  wpAny (model PySem.Challenge.rw_ok0024_01.row.prog w) (ktrTop dp un gd cn cs L a ccd cl outer) (call (.ref 503) [.ref rd, .int most u]) Q E s := by
  obtain ⟨hc1, hc2⟩ := hc
  by_cases hlt : i < its.length
  · obtain ⟨x, t, hx, h0, h1⟩ := hc2 i its[i] (by simp [hlt])
    have hv : its[i]? = some (.int x t) := by rw [List.getElem?_eq_getElem hlt, hx]
    have hlt' : ((i : Nat) : Int) < ((its.length : Nat) : Int) := by omega
    revert X; k_fill; intro X
    refine wpAny_call ?_
    k_dflt k_enter
    (refine sq_A ?_; intro A9)
    k_steps
    all_goals (rename News _ _ _ _ => kN; rename Fr _ _ _ _ => kF; rename Obj.IsDictOf _ _ _ => kD; exact hret _ _ _ (i + 1) _ sd _ _ _ (fmod_ok hm0).1 (fmod_ok hm0).2 (by omega) hs0 hs1 kF kN kD)
  · have hlt' : ¬ ((i : Nat) : Int) < ((its.length : Nat) : Int) := by omega
    revert X; k_fill; intro X
    refine wpAny_call ?_
    k_dflt k_enter
    (refine sq_A ?_; intro A9)
    k_steps
    all_goals (rename News _ _ _ _ => kN; rename Fr _ _ _ _ => kF; rename Obj.IsDictOf _ _ _ => kD; first | exact hret _ _ _ i _ _ _ _ _ (fmod_ok hm0).1 (fmod_ok hm0).2 hi (fmod_ok (by decide)).1 (fmod_ok (by decide)).2 kF kN kD | exact hret _ _ _ i _ _ _ _ _ (Int.le_refl 0) hm0 hi (fmod_ok (by decide)).1 (fmod_ok (by decide)).2 kF kN kD)
example : True := by k_with_none; (k_with "x_k_room" => ((try simp (config := {zetaDelta := true}) only [depth_under_make, depth_under_kw, depth_in1, depth_deeper, depth_caller]); (try dsimp only [ktrTop]); (first | (refine' rm0 ?ha_q41; (case ha_q41 => assumption)) | (refine' rm1 ?ha_q41 ?hb_q41; (case ha_q41 => assumption); (case hb_q41 => exact rfl)) | (refine' rm2 ?ha_q41 ?hb_q41; (case ha_q41 => assumption); (case hb_q41 => exact rfl)) | (refine' rm3 ?ha_q41 ?hb_q41; (case ha_q41 => assumption); (case hb_q41 => exact rfl)) | (refine' rm4 ?ha_q41 ?hb_q41; (case ha_q41 => assumption); (case hb_q41 => exact rfl)) | omega))); (k_with "x_ktr_units" => ((try simp (config := {zetaDelta := true}) only [units_under_make, units_in1, units_deeper, Around.mark_units, units_caller]); (try dsimp only [ktrTop]); (first | (refine' rm0 ?ha_q42; (case ha_q42 => assumption)) | (refine' rm1 ?ha_q42 ?hb_q42; (case ha_q42 => assumption); (case hb_q42 => exact rfl)) | (refine' rm2 ?ha_q42 ?hb_q42; (case ha_q42 => assumption); (case hb_q42 => exact rfl)) | (refine' rm3 ?ha_q42 ?hb_q42; (case ha_q42 => assumption); (case hb_q42 => exact rfl)) | (refine' rm4 ?ha_q42 ?hb_q42; (case ha_q42 => assumption); (case hb_q42 => exact rfl)) | omega))); (k_with "execs cons" => (k_here; (with_reducible refine sq_tok ?_); intro tk')); (k_with "subscriptTail Name Constant ref int" => (k_here; (with_reducible show wpAny _ _ (subscriptTail _ _ (Value.ref _) (Value.int _ _)) _ _ _); k_dflt (first | (refine' item_tupleT ?t_q44 ?a_q44 ?b_q44 ?c_q44 ?d_q44 ?_; (case t_q44 => (refine' News.isTup ?t1_q44 ?t2_q44; (case t1_q44 => k_asm); (case t2_q44 => k_mem))); (case a_q44 => decide); (case b_q44 => decide); (case c_q44 => rfl); (case d_q44 => rfl); k_whole) | (refine' c_item_lit ?N_q44 ?m_q44 ?a2_q44 ?b2_q44 ?d2_q44 ?_; (case N_q44 => k_asm); (case m_q44 => k_mem); (case a2_q44 => decide); (case b2_q44 => decide); (case d2_q44 => rfl); k_whole)))); (k_with "eval Call Name" => (k_here; with_unfolding_all refine Call_ ?_)); (k_with "x_k_all" => first | assumption | exact List.forall_mem_nil _ | (refine' List.forall_mem_append.mpr ⟨?_, ?_⟩; (focus k_all); k_all) | (refine' List.forall_mem_cons.mpr ⟨?_, ?_⟩; (focus k_ne); k_all) | exact allNeP (by assumption) | (refine' Above.off ?hA_q46 ?hM_q46; (case hA_q46 => assumption); (case hM_q46 => k_mem)) | (refine' alt_all ?lh_q46 ?ls_q46; (case lh_q46 => assumption); (case ls_q46 => k_allIn)) | exact allNe0 (by assumption) | exact allNe1 (by assumption) | exact allNe2 (by assumption) | exact allNe3 (by assumption) | exact allNe4 (by assumption) | exact allNe5 (by assumption) | exact allNe6 (by assumption)); (k_with "x_k_ne" => first | assumption | (refine' alt_ne1 ?lh_q47 ?lm_q47; (case lh_q47 => assumption); (case lm_q47 => k_mem)) | (refine' alt_ne2 ?lh_q47 ?lm_q47; (case lh_q47 => assumption); (case lm_q47 => k_mem)) | (refine' alt_ne3 ?lx_q47 ?lh_q47 ?lm_q47; (case lx_q47 => assumption); (case lh_q47 => assumption); (case lm_q47 => k_mem)) | (refine' alt_ne4 ?lx_q47 ?lh_q47 ?lm_q47; (case lx_q47 => assumption); (case lh_q47 => assumption); (case lm_q47 => k_mem)) | (refine' Ne.symm ?_; assumption) | (refine neN ?_; refine' Ne.symm ?_; assumption) | (refine neN ?_; (try dsimp only); omega) | (refine' news_ne_cls ?nN_q47 ?n1_q47 ?n2_q47 ?n3_q47; (case nN_q47 => assumption); (case n1_q47 => k_mem); (case n2_q47 => k_mem); (case n3_q47 => (intro e9; exact absurd (Value.type.inj e9) (by decide)))) | (refine neN ?_; (try dsimp only); (simp only [List.forall_mem_cons] at *); omega)); (k_with "x_k_mem" => first | assumption | exact List.mem_cons_self | (refine' List.mem_cons_of_mem _ ?_; k_mem) | (refine' List.mem_append_left _ ?_; k_mem) | (refine' List.mem_append_right _ ?_; k_mem)); (k_with "x_k_upd" => first | exact Pull.head | (refine' Pull.tail ?b_q49; (case b_q49 => k_upd)) | (refine' Pull.under _ ?b_q49; (case b_q49 => k_upd))); (k_with "x_k_allIn" => first | assumption | (intro p9 h9; k_mem) | (refine' List.forall_mem_append.mpr ⟨?_, ?_⟩; (focus k_allIn); k_allIn) | exact List.forall_mem_nil _ | exact sub_l (by assumption)); (k_with "x_k_enter" => first | ktr_enter | (refine' code_def ?k1_q51 ?k2_q51 ?k3_q51 ?k4_q51 ?k5_q51 ?kA_q51 ?kF_q51 ?kK_q51 ?k6_q51 ?k7_q51 ?k8_q51 ?k9_q51 ?kB_q51 ?_ ?c2_q51 ?c3_q51 ?c4_q51 ?c5_q51; (case kA_q51 => exact rfl); (case kF_q51 => exact rfl); (case kK_q51 => first | exact rfl | assumption); (case k1_q51 => k_asm); (case k2_q51 => k_asm); (case k3_q51 => k_asm); (case k4_q51 => k_asm); (case k5_q51 => k_asm); (case k6_q51 => k_is); (case k7_q51 => k_is); (case k8_q51 => ktr_room); (case k9_q51 => exact binds_K (by k_in) rfl (by k_is) rfl rfl rfl); (case c5_q51 => decide); (case kB_q51 => exact locs rfl); (case c2_q51 => exact rfl); (case c3_q51 => exact rfl); (case c4_q51 => exact rfl); k_whole; intro g' L' h' FG' F' N' B' X' T'; (try dsimp only); (try k_fold))); exact trivial
end
end
section
noncomputable def RowSt (w : World) (o : Obj) (ce : Addr) (len : Nat) : Prop := ∃ (i : Nat) (u1 : Tok) (sd : Int) (u2 : Tok), RowIs w o ce i u1 sd u2 ∧ i ≤ len ∧ 0 ≤ sd ∧ sd < 941
noncomputable def Nums (its : List Value) : Prop := 3 ≤ its.length ∧ its.length ≤ 33 ∧ ∀ (i : Nat) v, its[i]? = some v → ∃ (x : Int) (t : Tok), v = .int x t ∧ 0 ≤ x ∧ x < 1000000000000000000000000000000
theorem TmIn.grow {led : List (Addr × Obj)} {xs xs' : List Str} {fs fs' : List (List Int)} (hx : xs <+: xs') (hf : fs <+: fs') : ∀ {d : Tm} {v : Value}, TmIn led xs fs v d → TmIn led xs' fs' v d := by
  have gx : ∀ {i : Nat} {x : Str}, xs[i]? = some x → xs'[i]? = some x := fun {i x} h3 => by obtain ⟨r, rfl⟩ := hx; rw [List.getElem?_append_left (List.getElem?_eq_some_iff.mp h3).1]; exact h3
  have gf : ∀ {i : Nat} {x : List Int}, fs[i]? = some x → fs'[i]? = some x := fun {i x} h3 => by obtain ⟨r, rfl⟩ := hf; rw [List.getElem?_append_left (List.getElem?_eq_some_iff.mp h3).1]; exact h3
  intro d
  induction d with
  | A x => intro v H; obtain ⟨a, i, t, u, c, e, h1, h2⟩ := H; exact ⟨a, i, t, u, c, e, h1, gx h2⟩
  | I n => exact fun H => H
  | S x d ih => intro v H; obtain ⟨a, ga, i, j, v', t, u, c, c2, e, h1, h2, h3, h4, h5⟩ := H; exact ⟨a, ga, i, j, v', t, u, c, c2, e, h1, h2, gx h3, gf h4, ih h5⟩
theorem addA_pre2 (xs : List Str) (x : Str) : xs <+: addA xs x := by
  unfold addA; split
  · exact List.prefix_rfl
  · exact List.prefix_append _ _
theorem addF_pre2 (xs : List (List Int)) (x : List Int) : xs <+: addF xs x := by
  unfold addF; split
  · exact List.prefix_rfl
  · exact List.prefix_append _ _
noncomputable def OkE (d : Tm) : Prop := OkT d ∧ wsize d ≤ 20 ∧ (spell d).length ≤ 1000
theorem OkE.d {d : Tm} (h : OkE d) : OkD d := ⟨h.1, Nat.le_trans h.2.1 (by decide), Nat.le_trans h.2.2 (by decide)⟩
noncomputable def OkSide (x : Str) : Prop := OkE (.A x) ∧ spell (.A x) = x
theorem side_five {x : Str} (h : x ∈ [Str.ofString "callable", Str.ofString "integer", Str.ofString "foo", Str.ofString "x_1", Str.ofString "[]"]) : OkSide x := by
  simp only [List.mem_cons, List.not_mem_nil, or_false] at h
  rcases h with rfl | rfl | rfl | rfl | rfl
  · exact ⟨⟨⟨Or.inl (by decide +kernel), by decide⟩, by decide, by decide +kernel⟩, by decide +kernel⟩
  · exact ⟨⟨⟨Or.inl (by decide +kernel), by decide⟩, by decide, by decide +kernel⟩, by decide +kernel⟩
  · exact ⟨⟨⟨Or.inl (by decide +kernel), by decide⟩, by decide, by decide +kernel⟩, by decide +kernel⟩
  · exact ⟨⟨⟨Or.inl (by decide +kernel), by decide⟩, by decide, by decide +kernel⟩, by decide +kernel⟩
  · exact ⟨⟨⟨Or.inr (Or.inl rfl), by decide⟩, by decide, by decide +kernel⟩, by decide +kernel⟩
theorem side_two : OkE (.A (Str.ofString "two words")) ∧ spell (.A (Str.ofString "two words")) = Str.ofString "'two words'" :=
  ⟨⟨⟨Or.inr (Or.inr rfl), by decide⟩, by decide, by decide +kernel⟩, by decide +kernel⟩
theorem side_num {v : Int} (h0 : 0 ≤ v) (h1 : v < 1000000000000000000000000000000) : OkE (.I v) := ⟨⟨h0, h1⟩, Nat.le_of_ble_eq_true rfl, by have := num_len h0 h1; show (Str.ofString (toString v)).length ≤ 1000; omega⟩
theorem side_call {x y : Str} {d : Tm} (h : x ∈ [Str.ofString "f", Str.ofString "procedure"]) (hd : (d = .A (Str.ofString "a") ∧ y = Str.ofString "a") ∨ (d = .I 7 ∧ y = Str.ofString "7")) : OkE (.S x d) ∧ spell (.S x d) = x ++ Str.ofString "(" ++ y ++ Str.ofString ")" := by
  simp only [List.mem_cons, List.not_mem_nil, or_false] at h
  have ha : OkT (.A (Str.ofString "a")) := ⟨Or.inl (by decide +kernel), by decide⟩
  have hi : OkT (.I 7) := ⟨by decide, by decide⟩
  rcases h with rfl | rfl <;> rcases hd with ⟨rfl, rfl⟩ | ⟨rfl, rfl⟩
  · exact ⟨⟨⟨by decide +kernel, by decide +kernel, by decide, ha⟩, by decide, by decide +kernel⟩, by decide +kernel⟩
  · exact ⟨⟨⟨by decide +kernel, by decide +kernel, by decide, hi⟩, by decide, by decide +kernel⟩, by decide +kernel⟩
  · exact ⟨⟨⟨by decide +kernel, by decide +kernel, by decide, ha⟩, by decide, by decide +kernel⟩, by decide +kernel⟩
  · exact ⟨⟨⟨by decide +kernel, by decide +kernel, by decide, hi⟩, by decide, by decide +kernel⟩, by decide +kernel⟩
section
variable {prog : Program} {w : World} {A : Around} {E : Value → Shared → Prop} {s : Shared} {h₀ : Heap} {L l : Addr} {led : List (Addr × Obj)} {its : List Value} {n : Nat} {Q : Value → Shared → Prop} {v : Int} {u : Tok} {value slice : PySem.Expr}
theorem c_menu {names : List Str} (N : News h₀ L s.heap led) (hm : (l, listOf its.toArray n) ∈ led) (hi : StrsAre its names) (hz : names.length ≤ 1000) (hl : ∀ x ∈ names, x.length ≤ 100) (h0 : 0 ≤ v) (h1 : v < names.length) (h : ∀ x t, x ∈ names → x.length ≤ 100 → Q (.str x t) s)
    (hs : subscripted slice false (.ref l) (.int v u) = operate [.ref l, .int v u] (getItem (.ref l) (.int v u)) := by with_unfolding_all rfl) :
    wpAny (model prog w) A (subscriptTail value slice (.ref l) (.int v u)) Q E s := by
  obtain ⟨k, rfl⟩ := Int.eq_ofNat_of_zero_le h0
  have hk : k < names.length := by omega
  obtain ⟨t, ht⟩ := hi.get k names[k] (by simp [hk])
  exact c_item_list N hm ht (by omega) (h _ t (List.getElem_mem hk) (hl _ (List.getElem_mem hk))) hs
theorem c_num (N : News h₀ L s.heap led) (hm : (l, listOf its.toArray n) ∈ led) (hi : Nums its) (h0 : 0 ≤ v) (h1 : v < its.length) (h : ∀ x t, 0 ≤ x → x < 1000000000000000000000000000000 → Q (.int x t) s)
    (hs : subscripted slice false (.ref l) (.int v u) = operate [.ref l, .int v u] (getItem (.ref l) (.int v u)) := by with_unfolding_all rfl) :
    wpAny (model prog w) A (subscriptTail value slice (.ref l) (.int v u)) Q E s := by
  obtain ⟨k, rfl⟩ := Int.eq_ofNat_of_zero_le h0
  have hk : k < its.length := by omega
  obtain ⟨_, hz, hg⟩ := hi
  obtain ⟨x, t, e, g0, g1⟩ := hg k its[k] (by simp [hk])
  have ht : its[k]? = some (.int x t) := by rw [List.getElem?_eq_getElem hk, e]
  exact c_item_list N hm ht (by omega) (h x t g0 g1) hs
end
section
variable {w : World} {p : Program} {loose : List Str} {mean : ExcName → Option Value} {mg mb : Str → Option Value} {dp un : Nat} {gd : Option (List Code)} {cn : Str} {cs : Scope} {a : Addr} {ccd : Value} {cl : List (Str × Addr)} {outer : List Env} {A₀ : Around} {base h₀ : Heap} {L : Addr} {m : Str → Option Value} {s : Shared} {Q E : Value → Shared → Prop} {news rest : List (Addr × Obj)}
variable {led : List (Addr × Obj)}
theorem draw_use {rd ce : Addr} {oR : Obj} {its : List Value} {n : Nat} {most : Int} {u : Tok} (B : Below A₀ base outer h₀) (F : Fr h₀ L s.heap m) (X : (Mine.kk.heap_1 w.params).In h₀) (T : Top p loose mean mg mb h₀) (hk : cs.kind = .function) (hd : dp + 5 < recursionLimit) (hu : un + 60 < cLine) (hm0 : 0 < most) (hm1 : most ≤ 1000) (N : News h₀ L s.heap led) (hR : RowSt w oR ce its.length) (_h0 : (ce, listOf its.toArray n) ∈ led) (P : Pull rd oR led rest) (hcl : (ce, listOf its.toArray n) ∈ rest) (o1 : ∀ p ∈ rest, p.1 ≠ rd) (hc : Cells its)
  (hret : ∀ v t oR' h' tk', 0 ≤ v → v < most → Fr h₀ L h' m → News h₀ L h' ((rd, oR') :: rest) → RowSt w oR' ce its.length → Q (.int v t) { s with heap := h', toks := tk' }) :
  wpAny (model PySem.Challenge.rw_ok0024_01.row.prog w) (ktrTop dp un gd cn cs L a ccd cl outer) (call (.ref 503) [.ref rd, .int most u]) Q E s := by
  obtain ⟨i, u1, sd, u2, h1, h2, h3, h4⟩ := hR
  exact law_draw_spec hm0 hm1 B F X T hk hd hu (P.news (pre := []) N) h1 hcl (o1 _ hcl) o1 hc h2 h3 h4 fun v t oR' i' u1' sd' u2' h' tk' a b c d e F' N' D => hret v t oR' h' tk' a b F' N' ⟨i', u1', sd', u2', D, c, d, e⟩
end
end
section
theorem allLt6 {d : Addr} {r : List (Addr × Obj)} {a1 a2 a3 a4 a5 a6 : Prop} (h : a1 ∧ a2 ∧ a3 ∧ a4 ∧ a5 ∧ a6 ∧ AllLt d r) : ∀ p ∈ r, p.1 < d := tb_ltOf h.2.2.2.2.2.2
theorem allLt7 {d : Addr} {r : List (Addr × Obj)} {a0 a1 a2 a3 a4 a5 a6 : Prop} (h : a0 ∧ a1 ∧ a2 ∧ a3 ∧ a4 ∧ a5 ∧ a6 ∧ AllLt d r) : ∀ p ∈ r, p.1 < d := allLt6 h.2
theorem allLt8 {d : Addr} {r : List (Addr × Obj)} {b a0 a1 a2 a3 a4 a5 a6 : Prop} (h : b ∧ a0 ∧ a1 ∧ a2 ∧ a3 ∧ a4 ∧ a5 ∧ a6 ∧ AllLt d r) : ∀ p ∈ r, p.1 < d := allLt7 h.2
theorem allLt9 {d : Addr} {r : List (Addr × Obj)} {c b a0 a1 a2 a3 a4 a5 a6 : Prop} (h : c ∧ b ∧ a0 ∧ a1 ∧ a2 ∧ a3 ∧ a4 ∧ a5 ∧ a6 ∧ AllLt d r) : ∀ p ∈ r, p.1 < d := allLt8 h.2
theorem allLt10 {d : Addr} {r : List (Addr × Obj)} {e c b a0 a1 a2 a3 a4 a5 a6 : Prop} (h : e ∧ c ∧ b ∧ a0 ∧ a1 ∧ a2 ∧ a3 ∧ a4 ∧ a5 ∧ a6 ∧ AllLt d r) : ∀ p ∈ r, p.1 < d := allLt9 h.2
theorem allLt11 {d : Addr} {r : List (Addr × Obj)} {f e c b a0 a1 a2 a3 a4 a5 a6 : Prop} (h : f ∧ e ∧ c ∧ b ∧ a0 ∧ a1 ∧ a2 ∧ a3 ∧ a4 ∧ a5 ∧ a6 ∧ AllLt d r) : ∀ p ∈ r, p.1 < d := allLt10 h.2
theorem allLt12 {d : Addr} {r : List (Addr × Obj)} {g f e c b a0 a1 a2 a3 a4 a5 a6 : Prop} (h : g ∧ f ∧ e ∧ c ∧ b ∧ a0 ∧ a1 ∧ a2 ∧ a3 ∧ a4 ∧ a5 ∧ a6 ∧ AllLt d r) : ∀ p ∈ r, p.1 < d := allLt11 h.2
noncomputable def SideR (w : World) (h₀ : Heap) (L : Addr) (h : Heap) (oTx0 oAn0 oFu0 oFn0 oR0 : Obj) (r0 rest : List (Addr × Obj)) (b bd tx an fu fn rd ce : Addr) (t1 t2 t3 t4 : Tok) (len : Nat) (xs : List Str) (fs : List (List Int)) (K : Nat) (ta : Addr) : Prop :=
  ∃ (oTx oAn oFu oFn oR : Obj) (xs' : List Str) (fs' : List (List Int)) (tl : List (Addr × Obj)) (v : Value) (d : Tm) (t : Tok) (c : Nat), xs <+: xs' ∧ fs <+: fs' ∧ Above ((tx, oTx0) :: (an, oAn0) :: (fu, oFu0) :: (fn, oFn0) :: (rd, oR0) :: rest) tl ∧ News h₀ L h ((tx, oTx) :: (an, oAn) :: (fu, oFu) :: (fn, oFn) :: (rd, oR) :: (rest ++ tl)) ∧ BookS PG w (r0 ++ tl) oTx oAn oFu oFn xs' fs' (K + 3) ∧ RowSt w oR ce len ∧ (ta, tupO [v, .str (spell d) t] c) ∈ tl ∧ TmIn tl xs' fs' v d ∧ OkE d
theorem above_mono {l l' tl : List (Addr × Obj)} (h : Above l tl) (e : ∀ p ∈ l', ∃ o, (p.1, o) ∈ l) : Above l' tl := fun q hq p hp => by
  obtain ⟨o, ho⟩ := e q hq
  exact h _ ho p hp
section
variable {w : World} {h₀ h : Heap} {L : Addr} {led r0 r1 r2 r3 r4 r5 rest rest0 tl : List (Addr × Obj)} {b bd tx an fu fn rd ce ta : Addr} {t1 t2 t3 t4 t : Tok} {len c : Nat} {xs xs' : List Str} {fs fs' : List (List Int)} {K K' : Nat} {oTx oAn oFu oFn oR oTx0 oAn0 oFu0 oFn0 oR0 : Obj} {v : Value} {d : Tm} {y : Str}
noncomputable def flt (l r : List (Addr × Obj)) : List (Addr × Obj) := r.filter fun p => decide (∀ q ∈ l, q.1 < p.1)
theorem flt_mem {l r : List (Addr × Obj)} {p : Addr × Obj} (h : p ∈ r) (a : ∀ q ∈ l, q.1 < p.1) : p ∈ flt l r := List.mem_filter.mpr ⟨h, decide_eq_true a⟩
theorem flt_above {l r : List (Addr × Obj)} : Above l (flt l r) := fun q hq p hp => of_decide_eq_true (List.mem_filter.mp hp).2 q hq
theorem flt_sub {l r tl : List (Addr × Obj)} (h : ∀ p ∈ tl, p ∈ r) (a : Above l tl) : ∀ p ∈ tl, p ∈ flt l r := fun p hp => flt_mem (h p hp) fun q hq => a q hq p hp
theorem side_fin (N : News h₀ L h led) (hbd0 : (bd, bookD w t1 t2 t3 t4 tx an fu fn) ∈ led) (S : BookS PG w rest0 oTx oAn oFu oFn xs' fs' K') (hR : RowSt w oR ce len) (P1 : Pull tx oTx led r1) (P2 : Pull an oAn r1 r2) (P3 : Pull fu oFu r2 r3) (P4 : Pull fn oFn r3 r4) (P5 : Pull rd oR r4 r5) (hs : ∀ p ∈ rest, p ∈ r5) (hl : tl = flt ((tx, oTx0) :: (an, oAn0) :: (fu, oFu0) :: (fn, oFn0) :: (rd, oR0) :: rest) r5) (ht : (ta, tupO [v, .str y t] c) ∈ tl) (hd : TmIn tl xs' fs' v d) (hs0 : ∀ p ∈ rest0, p ∈ r0 ++ tl)
    (hx : xs <+: xs') (hf : fs <+: fs') (hK : K' ≤ K + 3) (ok : OkE d ∧ spell d = y) : SideR w h₀ L h oTx0 oAn0 oFu0 oFn0 oR0 r0 rest b bd tx an fu fn rd ce t1 t2 t3 t4 len xs fs K ta := by
  obtain ⟨ok, rfl⟩ := ok
  refine ⟨oTx, oAn, oFu, oFn, oR, xs', fs', tl, v, d, t, c, hx, hf, hl ▸ flt_above, cb_drop (P5.news (pre := [_, _, _, _]) (P4.news (pre := [_, _, _]) (P3.news (pre := [_, _]) (P2.news (pre := [_]) (P1.news (pre := []) N))))) ?_, (S.mono hs0).le hK, hR, ht, hd, ok⟩
  intro p hp
  simp only [List.mem_cons, List.mem_append] at hp ⊢
  rcases hp with h | h | h | h | h | h | h
  · simp [h]
  · simp [h]
  · simp [h]
  · simp [h]
  · simp [h]
  · simp [hs p h]
  · rw [hl] at h
    have h := (List.mem_filter.mp h).1
    simp [h]
theorem tm_atom {a : Addr} {i : Nat} {u : Tok} {x : Str} (h1 : (a, tupO [.str (Str.ofString "a") t, .int i u] c) ∈ led) (h2 : xs[i]? = some x) : TmIn led xs fs (.ref a) (.A x) := ⟨a, i, t, u, c, rfl, h1, h2⟩
theorem tm_int {a : Addr} {i : Int} {u : Tok} (h1 : (a, tupO [.str (Str.ofString "i") t, .int i u] c) ∈ led) : TmIn led xs fs (.ref a) (.I i) := ⟨a, t, u, c, rfl, h1⟩
theorem tm_call {a ga : Addr} {i j : Nat} {u : Tok} {x : Str} {c2 : Nat} (h1 : (a, tupO [.str (Str.ofString "s") t, .int i u, .ref ga] c) ∈ led) (h2 : (ga, tupO [v] c2) ∈ led) (h3 : xs[j]? = some x) (h4 : fs[i]? = some [((j : Nat) : Int), 1]) (h5 : TmIn led xs fs v d) : TmIn led xs fs (.ref a) (.S x d) := ⟨a, ga, i, j, v, t, u, c, c2, rfl, h1, h2, h3, h4, h5⟩
end
section
local macro_rules | `(tactic| k_allIn) => `(tactic| k_extra "x_k_allIn")
example : True := by (k_with "x_k_allIn" => first | assumption | (refine' sub_c ?s9_q153; (case s9_q153 => k_allIn))); exact trivial
example : True := by (k_with "call ref" => (k_here; k_dflt (refine' atom_use ?B_q154 ?F_q154 ?X_q154 ?T_q154 ?K_q154 ?d_q154 ?u_q154 ?R_q154 ?S_q154 ?N_q154 ?P1_q154 ?P2_q154 ?P3_q154 ?P4_q154 ?s_q154 ?s0_q154 ?o1_q154 ?o2_q154 ?o3_q154 ?o4_q154 ?z_q154 ?_; (case F_q154 => k_asm); (case B_q154 => k_asm); (case X_q154 => k_asm); (case T_q154 => k_asm); (case K_q154 => first | exact rfl | assumption); (case d_q154 => k_room); (case u_q154 => ktr_units); (case R_q154 => assumption); (case S_q154 => assumption); (case N_q154 => k_asm); (case P1_q154 => k_upd); (case P2_q154 => k_upd); (case P3_q154 => k_upd); (case P4_q154 => k_upd); (case s_q154 => k_allIn); (case s0_q154 => k_allIn); (case o1_q154 => k_all); (case o2_q154 => k_all); (case o3_q154 => k_all); (case o4_q154 => k_all); (case z_q154 => omega)); intro i' t' h' tk' oTx' oAn' F' N' R' S' hi'; (try simp only [List.cons_append, List.nil_append, List.append_assoc] at N' R' S'); (clear R'); (try k_sweep); walk_say "atom_use")); exact trivial
example : True := by (k_with "call ref" => (k_here; k_dflt (refine' func_use ?B_q155 ?F_q155 ?X_q155 ?T_q155 ?K_q155 ?d_q155 ?u_q155 ?R_q155 ?S_q155 ?N_q155 ?P1_q155 ?P2_q155 ?P3_q155 ?P4_q155 ?s_q155 ?s0_q155 ?o1_q155 ?o2_q155 ?o3_q155 ?o4_q155 ?z_q155 ?_; (case F_q155 => k_asm); (case B_q155 => k_asm); (case X_q155 => k_asm); (case T_q155 => k_asm); (case K_q155 => first | exact rfl | assumption); (case d_q155 => k_room); (case u_q155 => ktr_units); (case R_q155 => assumption); (case S_q155 => assumption); (case N_q155 => k_asm); (case P1_q155 => k_upd); (case P2_q155 => k_upd); (case P3_q155 => k_upd); (case P4_q155 => k_upd); (case s_q155 => k_allIn); (case s0_q155 => k_allIn); (case o1_q155 => k_all); (case o2_q155 => k_all); (case o3_q155 => k_all); (case o4_q155 => k_all); (case z_q155 => omega)); intro j' i' t' h' tk' oTx' oAn' oFu' oFn' tl' hA' F' N' R' S' hj' hi'; (try simp only [List.cons_append, List.nil_append, List.append_assoc] at N' R' S'); (clear R'); (try k_sweep); walk_say "func_use")); exact trivial
example : True := by (k_with "call ref" => (k_here; k_dflt (refine' draw_use ?B_q156 ?F_q156 ?X_q156 ?T_q156 ?K_q156 ?d_q156 ?u_q156 ?hm0_q156 ?hm1_q156 ?N_q156 ?hR_q156 ?h0_q156 ?P_q156 ?hcl_q156 ?o1_q156 ?hc_q156 ?_; (case F_q156 => k_asm); (case B_q156 => k_asm); (case X_q156 => k_asm); (case T_q156 => k_asm); (case K_q156 => first | exact rfl | assumption); (case d_q156 => k_room); (case u_q156 => ktr_units); (case hm0_q156 => omega); (case hm1_q156 => omega); (case N_q156 => k_asm); (case hR_q156 => assumption); (case h0_q156 => k_mem); (case P_q156 => k_upd); (case hcl_q156 => k_mem); (case o1_q156 => k_all); (case hc_q156 => assumption)); intro v' t' oR' h' tk' hv0' hv1' F' N' hR'; (try dsimp only at N'); (try k_sweep); walk_say "draw_use")); exact trivial
example : True := by (k_with "call builtin:len" => (k_here; k_dflt (refine' c_len_list ?N_q157 ?m_q157 ?z_q157 ?_; (case N_q157 => k_asm); (case m_q157 => k_mem); (case z_q157 => omega); k_whole))); exact trivial
example : True := by (k_with "subscriptTail" => (k_here; (with_reducible show wpAny _ _ (subscriptTail _ _ (Value.ref _) (Value.int _ _)) _ _ _); k_dflt (first | (refine' c_menu ?N_q158 ?m_q158 ?i_q158 ?z_q158 ?hl_q158 ?h0_q158 ?h1_q158 ?_; (case N_q158 => k_asm); (case m_q158 => k_mem); (case i_q158 => first | exact .cons _ _ (.cons _ _ (.cons _ _ (.cons _ _ (.cons _ _ .nil)))) | exact .cons _ _ (.cons _ _ .nil)); (case z_q158 => decide); (case hl_q158 => decide); (case h0_q158 => omega); (case h1_q158 => (simp only [List.length_cons, List.length_nil]; omega)); k_whole; intro x' t' hx' hxl') | (refine' c_num ?N_q158 ?m_q158 ?i_q158 ?h0_q158 ?h1_q158 ?_; (case N_q158 => k_asm); (case m_q158 => k_mem); (case i_q158 => assumption); (case h0_q158 => omega); (case h1_q158 => omega); k_whole; intro x' t' hx0' hx1')))); (k_with "subscriptTail Name Constant ref int" => (k_here; (with_reducible show wpAny _ _ (subscriptTail _ _ (Value.ref _) (Value.int _ _)) _ _ _); k_dflt (first | (refine' c_menu ?N_q158 ?m_q158 ?i_q158 ?z_q158 ?hl_q158 ?h0_q158 ?h1_q158 ?_; (case N_q158 => k_asm); (case m_q158 => k_mem); (case i_q158 => first | exact .cons _ _ (.cons _ _ (.cons _ _ (.cons _ _ (.cons _ _ .nil)))) | exact .cons _ _ (.cons _ _ .nil)); (case z_q158 => decide); (case hl_q158 => decide); (case h0_q158 => omega); (case h1_q158 => (simp only [List.length_cons, List.length_nil]; omega)); k_whole; intro x' t' hx' hxl') | (refine' c_num ?N_q158 ?m_q158 ?i_q158 ?h0_q158 ?h1_q158 ?_; (case N_q158 => k_asm); (case m_q158 => k_mem); (case i_q158 => assumption); (case h0_q158 => omega); (case h1_q158 => omega); k_whole; intro x' t' hx0' hx1')))); (k_with "subscriptTail Name" => (k_here; (with_reducible show wpAny _ _ (subscriptTail _ _ (Value.ref _) (Value.int _ _)) _ _ _); k_dflt (first | (refine' c_menu ?N_q158 ?m_q158 ?i_q158 ?z_q158 ?hl_q158 ?h0_q158 ?h1_q158 ?_; (case N_q158 => k_asm); (case m_q158 => k_mem); (case i_q158 => first | exact .cons _ _ (.cons _ _ (.cons _ _ (.cons _ _ (.cons _ _ .nil)))) | exact .cons _ _ (.cons _ _ .nil)); (case z_q158 => decide); (case hl_q158 => decide); (case h0_q158 => omega); (case h1_q158 => (simp only [List.length_cons, List.length_nil]; omega)); k_whole; intro x' t' hx' hxl') | (refine' c_num ?N_q158 ?m_q158 ?i_q158 ?h0_q158 ?h1_q158 ?_; (case N_q158 => k_asm); (case m_q158 => k_mem); (case i_q158 => assumption); (case h0_q158 => omega); (case h1_q158 => omega); k_whole; intro x' t' hx0' hx1')))); exact trivial
example : True := by (k_with "call type:str" => (k_here; (with_reducible show wpAny _ _ (call (Value.type "str") [Value.int _ _]) _ _ _); (refine PySem.P.str_of_int (log_small (by omega) (by omega)) ?_))); exact trivial
variable {w : World} {p : Program} {loose : List Str} {mean : ExcName → Option Value} {mg mb : Str → Option Value} {dp un : Nat} {gd : Option (List Code)} {cn : Str} {cs : Scope} {a : Addr} {ccd : Value} {cl : List (Str × Addr)} {outer : List Env} {A₀ : Around} {base h₀ : Heap} {L : Addr} {m : Str → Option Value} {s : Shared} {Q E : Value → Shared → Prop} {news rest : List (Addr × Obj)}
variable {b bd tx an fu fn rd ce na : Addr} {t1 t2 t3 t4 : Tok} {oTx oAn oFu oFn oR : Obj} {xs : List Str} {fs : List (List Int)} {K : Nat} {rest0 : List (Addr × Obj)} {cits nits : List Value} {cc nn : Nat}
theorem law_side_spec (B : Below A₀ base outer h₀) (F : Fr h₀ L s.heap m) (X : (Mine.kk.heap_1 w.params).In h₀) (T : Top p loose mean mg mb h₀) (hk : cs.kind = .function) (hd : dp + 30 < recursionLimit) (hu : un + 400 < cLine) (N : News h₀ L s.heap ((tx, oTx) :: (an, oAn) :: (fu, oFu) :: (fn, oFn) :: (rd, oR) :: rest)) (R : BookR w rest b bd tx an fu fn t1 t2 t3 t4) (S : BookS PG w rest0 oTx oAn oFu oFn xs fs K) (hs0 : ∀ p ∈ rest0, p ∈ rest) (hz : K ≤ 80000) (hR : RowSt w oR ce cits.length) (hce : (ce, listOf cits.toArray cc) ∈ rest) (hc : Cells cits) (hna : (na, listOf nits.toArray nn) ∈ rest) (hn : Nums nits) (e1 : @Ne Nat rd tx) (e2 : @Ne Nat rd an) (e3 : @Ne Nat rd fu) (e4 : @Ne Nat rd fn) (o5 : ∀ p ∈ rest, p.1 ≠ rd)
  (hret : ∀ ta h' tk', Fr h₀ L h' m → SideR w h₀ L h' oTx oAn oFu oFn oR rest0 rest b bd tx an fu fn rd ce t1 t2 t3 t4 cits.length xs fs K ta → Q (.ref ta) { s with heap := h', toks := tk' }) :
  wpAny (model PySem.Challenge.rw_ok0024_01.row.prog w) (ktrTop dp un gd cn cs L a ccd cl outer) (call (.ref 510) [.ref rd, .ref b, .ref na]) Q E s := by
  have R2 := R
  obtain ⟨hb, hbd, lo1, lo2, n1, n2, n3, n4, n5, n6, o1, o2, o3, o4⟩ := R2
  have hn2 := hn
  obtain ⟨hn3, hn33, _⟩ := hn2
  revert X; k_fill; intro X
  refine wpAny_call ?_
  k_dflt k_enter
  (refine sq_A ?_; intro A9)
  k_steps
  · (rename Fr _ _ _ _ => kF; rename News _ _ _ _ => kN; rename RowSt _ _ _ _ => kR; rename BookS _ _ _ _ _ _ _ _ _ _ => kS; (refine' hret _ _ _ kF (side_fin kN ?bz4 kS kR ?P1z4 ?P2z4 ?P3z4 ?P4z4 ?P5z4 ?hsz4 rfl ?htz4 ?hdz4 ?hs0z4 ?hxz4 ?hfz4 ?hKz4 ?okz4); (case bz4 => k_mem); (case P1z4 => k_upd); (case P2z4 => k_upd); (case P3z4 => k_upd); (case P4z4 => k_upd); (case P5z4 => k_upd); (case hsz4 => k_allIn); (case htz4 => (refine' flt_mem ?pz5 ?qz5; (case pz5 => k_mem); (case qz5 => (refine' List.forall_mem_cons.mpr ⟨?az6, List.forall_mem_cons.mpr ⟨?bz6, List.forall_mem_cons.mpr ⟨?cz6, List.forall_mem_cons.mpr ⟨?dz6, List.forall_mem_cons.mpr ⟨?ez6, ?fz6⟩⟩⟩⟩⟩; (case az6 => (refine' alt_get ?lh ?lm; (case lh => assumption); (case lm => k_mem))); (case bz6 => (refine' alt_get ?lh ?lm; (case lh => assumption); (case lm => k_mem))); (case cz6 => (refine' alt_get ?lh ?lm; (case lh => assumption); (case lm => k_mem))); (case dz6 => (refine' alt_get ?lh ?lm; (case lh => assumption); (case lm => k_mem))); (case ez6 => (refine' alt_get ?lh ?lm; (case lh => assumption); (case lm => k_mem))); (case fz6 => (refine' alt_lt_all ?lh ?ls; (case lh => assumption); (case ls => k_allIn))))))); (case hdz4 => (refine' tm_atom ?iz1 ?jz1; (case iz1 => (refine' flt_mem ?pz2 ?qz2; (case pz2 => k_mem); (case qz2 => (refine' List.forall_mem_cons.mpr ⟨?az3, List.forall_mem_cons.mpr ⟨?bz3, List.forall_mem_cons.mpr ⟨?cz3, List.forall_mem_cons.mpr ⟨?dz3, List.forall_mem_cons.mpr ⟨?ez3, ?fz3⟩⟩⟩⟩⟩; (case az3 => (refine' alt_get ?lh ?lm; (case lh => assumption); (case lm => k_mem))); (case bz3 => (refine' alt_get ?lh ?lm; (case lh => assumption); (case lm => k_mem))); (case cz3 => (refine' alt_get ?lh ?lm; (case lh => assumption); (case lm => k_mem))); (case dz3 => (refine' alt_get ?lh ?lm; (case lh => assumption); (case lm => k_mem))); (case ez3 => (refine' alt_get ?lh ?lm; (case lh => assumption); (case lm => k_mem))); (case fz3 => (refine' alt_lt_all ?lh ?ls; (case lh => assumption); (case ls => k_allIn))))))); (case jz1 => assumption))); (case hs0z4 => (intro p9 h9; exact List.mem_append_left _ h9)); (case hxz4 => exact addA_pre2 _ _); (case hfz4 => exact List.prefix_rfl); (case hKz4 => omega); (case okz4 => exact side_five (by assumption))))
  · (rename Fr _ _ _ _ => kF; rename News _ _ _ _ => kN; rename RowSt _ _ _ _ => kR; rename BookS _ _ _ _ _ _ _ _ _ _ => kS; (refine' hret _ _ _ kF (side_fin kN ?bz10 kS kR ?P1z10 ?P2z10 ?P3z10 ?P4z10 ?P5z10 ?hsz10 rfl ?htz10 ?hdz10 ?hs0z10 ?hxz10 ?hfz10 ?hKz10 ?okz10); (case bz10 => k_mem); (case P1z10 => k_upd); (case P2z10 => k_upd); (case P3z10 => k_upd); (case P4z10 => k_upd); (case P5z10 => k_upd); (case hsz10 => k_allIn); (case htz10 => (refine' flt_mem ?pz11 ?qz11; (case pz11 => k_mem); (case qz11 => (refine' List.forall_mem_cons.mpr ⟨?az12, List.forall_mem_cons.mpr ⟨?bz12, List.forall_mem_cons.mpr ⟨?cz12, List.forall_mem_cons.mpr ⟨?dz12, List.forall_mem_cons.mpr ⟨?ez12, ?fz12⟩⟩⟩⟩⟩; (case az12 => (refine' alt_get ?lh ?lm; (case lh => assumption); (case lm => k_mem))); (case bz12 => (refine' alt_get ?lh ?lm; (case lh => assumption); (case lm => k_mem))); (case cz12 => (refine' alt_get ?lh ?lm; (case lh => assumption); (case lm => k_mem))); (case dz12 => (refine' alt_get ?lh ?lm; (case lh => assumption); (case lm => k_mem))); (case ez12 => (refine' alt_get ?lh ?lm; (case lh => assumption); (case lm => k_mem))); (case fz12 => (refine' alt_lt_all ?lh ?ls; (case lh => assumption); (case ls => k_allIn))))))); (case hdz10 => (refine' tm_atom ?iz7 ?jz7; (case iz7 => (refine' flt_mem ?pz8 ?qz8; (case pz8 => k_mem); (case qz8 => (refine' List.forall_mem_cons.mpr ⟨?az9, List.forall_mem_cons.mpr ⟨?bz9, List.forall_mem_cons.mpr ⟨?cz9, List.forall_mem_cons.mpr ⟨?dz9, List.forall_mem_cons.mpr ⟨?ez9, ?fz9⟩⟩⟩⟩⟩; (case az9 => (refine' alt_get ?lh ?lm; (case lh => assumption); (case lm => k_mem))); (case bz9 => (refine' alt_get ?lh ?lm; (case lh => assumption); (case lm => k_mem))); (case cz9 => (refine' alt_get ?lh ?lm; (case lh => assumption); (case lm => k_mem))); (case dz9 => (refine' alt_get ?lh ?lm; (case lh => assumption); (case lm => k_mem))); (case ez9 => (refine' alt_get ?lh ?lm; (case lh => assumption); (case lm => k_mem))); (case fz9 => (refine' alt_lt_all ?lh ?ls; (case lh => assumption); (case ls => k_allIn))))))); (case jz7 => assumption))); (case hs0z10 => (intro p9 h9; exact List.mem_append_left _ h9)); (case hxz10 => exact addA_pre2 _ _); (case hfz10 => exact List.prefix_rfl); (case hKz10 => omega); (case okz10 => exact side_two)))
  · (rename Fr _ _ _ _ => kF; rename News _ _ _ _ => kN; rename RowSt _ _ _ _ => kR; rename BookS _ _ _ _ _ _ _ _ _ _ => kS; (refine' hret _ _ _ kF (side_fin kN ?bz16 kS kR ?P1z16 ?P2z16 ?P3z16 ?P4z16 ?P5z16 ?hsz16 rfl ?htz16 ?hdz16 ?hs0z16 ?hxz16 ?hfz16 ?hKz16 ?okz16); (case bz16 => k_mem); (case P1z16 => k_upd); (case P2z16 => k_upd); (case P3z16 => k_upd); (case P4z16 => k_upd); (case P5z16 => k_upd); (case hsz16 => k_allIn); (case htz16 => (refine' flt_mem ?pz17 ?qz17; (case pz17 => k_mem); (case qz17 => (refine' List.forall_mem_cons.mpr ⟨?az18, List.forall_mem_cons.mpr ⟨?bz18, List.forall_mem_cons.mpr ⟨?cz18, List.forall_mem_cons.mpr ⟨?dz18, List.forall_mem_cons.mpr ⟨?ez18, ?fz18⟩⟩⟩⟩⟩; (case az18 => (refine' alt_get ?lh ?lm; (case lh => assumption); (case lm => k_mem))); (case bz18 => (refine' alt_get ?lh ?lm; (case lh => assumption); (case lm => k_mem))); (case cz18 => (refine' alt_get ?lh ?lm; (case lh => assumption); (case lm => k_mem))); (case dz18 => (refine' alt_get ?lh ?lm; (case lh => assumption); (case lm => k_mem))); (case ez18 => (refine' alt_get ?lh ?lm; (case lh => assumption); (case lm => k_mem))); (case fz18 => (refine' alt_lt_all ?lh ?ls; (case lh => assumption); (case ls => k_allIn))))))); (case hdz16 => (refine' tm_int ?iz13; (case iz13 => (refine' flt_mem ?pz14 ?qz14; (case pz14 => k_mem); (case qz14 => (refine' List.forall_mem_cons.mpr ⟨?az15, List.forall_mem_cons.mpr ⟨?bz15, List.forall_mem_cons.mpr ⟨?cz15, List.forall_mem_cons.mpr ⟨?dz15, List.forall_mem_cons.mpr ⟨?ez15, ?fz15⟩⟩⟩⟩⟩; (case az15 => (refine' alt_get ?lh ?lm; (case lh => assumption); (case lm => k_mem))); (case bz15 => (refine' alt_get ?lh ?lm; (case lh => assumption); (case lm => k_mem))); (case cz15 => (refine' alt_get ?lh ?lm; (case lh => assumption); (case lm => k_mem))); (case dz15 => (refine' alt_get ?lh ?lm; (case lh => assumption); (case lm => k_mem))); (case ez15 => (refine' alt_get ?lh ?lm; (case lh => assumption); (case lm => k_mem))); (case fz15 => (refine' alt_lt_all ?lh ?ls; (case lh => assumption); (case ls => k_allIn))))))))); (case hs0z16 => (intro p9 h9; exact List.mem_append_left _ h9)); (case hxz16 => exact List.prefix_rfl); (case hfz16 => exact List.prefix_rfl); (case hKz16 => omega); (case okz16 => exact ⟨side_num (by assumption) (by assumption), rfl⟩)))
  · (rename Fr _ _ _ _ => kF; rename News _ _ _ _ => kN; rename RowSt _ _ _ _ => kR; rename BookS _ _ _ _ _ _ _ _ _ _ => kS; (refine' hret _ _ _ kF (side_fin kN ?bz29 kS kR ?P1z29 ?P2z29 ?P3z29 ?P4z29 ?P5z29 ?hsz29 rfl ?htz29 ?hdz29 ?hs0z29 ?hxz29 ?hfz29 ?hKz29 ?okz29); (case bz29 => k_mem); (case P1z29 => k_upd); (case P2z29 => k_upd); (case P3z29 => k_upd); (case P4z29 => k_upd); (case P5z29 => k_upd); (case hsz29 => k_allIn); (case htz29 => (refine' flt_mem ?pz30 ?qz30; (case pz30 => k_mem); (case qz30 => (refine' List.forall_mem_cons.mpr ⟨?az31, List.forall_mem_cons.mpr ⟨?bz31, List.forall_mem_cons.mpr ⟨?cz31, List.forall_mem_cons.mpr ⟨?dz31, List.forall_mem_cons.mpr ⟨?ez31, ?fz31⟩⟩⟩⟩⟩; (case az31 => (refine' alt_get ?lh ?lm; (case lh => assumption); (case lm => k_mem))); (case bz31 => (refine' alt_get ?lh ?lm; (case lh => assumption); (case lm => k_mem))); (case cz31 => (refine' alt_get ?lh ?lm; (case lh => assumption); (case lm => k_mem))); (case dz31 => (refine' alt_get ?lh ?lm; (case lh => assumption); (case lm => k_mem))); (case ez31 => (refine' alt_get ?lh ?lm; (case lh => assumption); (case lm => k_mem))); (case fz31 => (refine' alt_lt_all ?lh ?ls; (case lh => assumption); (case ls => k_allIn))))))); (case hdz29 => (refine' tm_call ?iz22 ?jz22 ?kz22 ?lz22 ?mz22; (case iz22 => (refine' flt_mem ?pz23 ?qz23; (case pz23 => k_mem); (case qz23 => (refine' List.forall_mem_cons.mpr ⟨?az24, List.forall_mem_cons.mpr ⟨?bz24, List.forall_mem_cons.mpr ⟨?cz24, List.forall_mem_cons.mpr ⟨?dz24, List.forall_mem_cons.mpr ⟨?ez24, ?fz24⟩⟩⟩⟩⟩; (case az24 => (refine' alt_get ?lh ?lm; (case lh => assumption); (case lm => k_mem))); (case bz24 => (refine' alt_get ?lh ?lm; (case lh => assumption); (case lm => k_mem))); (case cz24 => (refine' alt_get ?lh ?lm; (case lh => assumption); (case lm => k_mem))); (case dz24 => (refine' alt_get ?lh ?lm; (case lh => assumption); (case lm => k_mem))); (case ez24 => (refine' alt_get ?lh ?lm; (case lh => assumption); (case lm => k_mem))); (case fz24 => (refine' alt_lt_all ?lh ?ls; (case lh => assumption); (case ls => k_allIn))))))); (case jz22 => (refine' flt_mem ?pz25 ?qz25; (case pz25 => k_mem); (case qz25 => (refine' List.forall_mem_cons.mpr ⟨?az26, List.forall_mem_cons.mpr ⟨?bz26, List.forall_mem_cons.mpr ⟨?cz26, List.forall_mem_cons.mpr ⟨?dz26, List.forall_mem_cons.mpr ⟨?ez26, ?fz26⟩⟩⟩⟩⟩; (case az26 => (refine' alt_get ?lh ?lm; (case lh => assumption); (case lm => k_mem))); (case bz26 => (refine' alt_get ?lh ?lm; (case lh => assumption); (case lm => k_mem))); (case cz26 => (refine' alt_get ?lh ?lm; (case lh => assumption); (case lm => k_mem))); (case dz26 => (refine' alt_get ?lh ?lm; (case lh => assumption); (case lm => k_mem))); (case ez26 => (refine' alt_get ?lh ?lm; (case lh => assumption); (case lm => k_mem))); (case fz26 => (refine' alt_lt_all ?lh ?ls; (case lh => assumption); (case ls => k_allIn))))))); (case lz22 => assumption); (case kz22 => assumption); (case mz22 => (refine' tm_int ?iz19; (case iz19 => (refine' flt_mem ?pz20 ?qz20; (case pz20 => k_mem); (case qz20 => (refine' List.forall_mem_cons.mpr ⟨?az21, List.forall_mem_cons.mpr ⟨?bz21, List.forall_mem_cons.mpr ⟨?cz21, List.forall_mem_cons.mpr ⟨?dz21, List.forall_mem_cons.mpr ⟨?ez21, ?fz21⟩⟩⟩⟩⟩; (case az21 => (refine' alt_get ?lh ?lm; (case lh => assumption); (case lm => k_mem))); (case bz21 => (refine' alt_get ?lh ?lm; (case lh => assumption); (case lm => k_mem))); (case cz21 => (refine' alt_get ?lh ?lm; (case lh => assumption); (case lm => k_mem))); (case dz21 => (refine' alt_get ?lh ?lm; (case lh => assumption); (case lm => k_mem))); (case ez21 => (refine' alt_get ?lh ?lm; (case lh => assumption); (case lm => k_mem))); (case fz21 => (refine' alt_lt_all ?lh ?ls; (case lh => assumption); (case ls => k_allIn))))))))))); (case hs0z29 => (refine' List.forall_mem_append.mpr ⟨?x1z27, ?x2z27⟩; (case x1z27 => (intro p9 h9; exact List.mem_append_left _ h9)); (case x2z27 => (intro p9 h9; refine List.mem_append_right _ (?_); revert p9; (refine' flt_sub ?az28 (above_mono (by assumption) ?bz28); (case az28 => (intro p9 h9; k_mem)); (case bz28 => (refine' List.forall_mem_cons.mpr ⟨⟨_, ?k1z28⟩, List.forall_mem_cons.mpr ⟨⟨_, ?k2z28⟩, List.forall_mem_cons.mpr ⟨⟨_, ?k3z28⟩, List.forall_mem_cons.mpr ⟨⟨_, ?k4z28⟩, List.forall_mem_cons.mpr ⟨⟨_, ?k5z28⟩, fun p9 h9 => ⟨p9.2, ?k6z28⟩⟩⟩⟩⟩⟩; (case k1z28 => k_mem); (case k2z28 => k_mem); (case k3z28 => k_mem); (case k4z28 => k_mem); (case k5z28 => k_mem); (case k6z28 => k_mem)))))))); (case hxz29 => first | exact (addA_pre2 _ _).trans (addA_pre2 _ _) | exact addA_pre2 _ _); (case hfz29 => exact addF_pre2 _ _); (case hKz29 => omega); (case okz29 => exact side_call (by assumption) (Or.inr ⟨rfl, rfl⟩))))
  · (rename Fr _ _ _ _ => kF; rename News _ _ _ _ => kN; rename RowSt _ _ _ _ => kR; rename BookS _ _ _ _ _ _ _ _ _ _ => kS; (refine' hret _ _ _ kF (side_fin kN ?bz42 kS kR ?P1z42 ?P2z42 ?P3z42 ?P4z42 ?P5z42 ?hsz42 rfl ?htz42 ?hdz42 ?hs0z42 ?hxz42 ?hfz42 ?hKz42 ?okz42); (case bz42 => k_mem); (case P1z42 => k_upd); (case P2z42 => k_upd); (case P3z42 => k_upd); (case P4z42 => k_upd); (case P5z42 => k_upd); (case hsz42 => k_allIn); (case htz42 => (refine' flt_mem ?pz43 ?qz43; (case pz43 => k_mem); (case qz43 => (refine' List.forall_mem_cons.mpr ⟨?az44, List.forall_mem_cons.mpr ⟨?bz44, List.forall_mem_cons.mpr ⟨?cz44, List.forall_mem_cons.mpr ⟨?dz44, List.forall_mem_cons.mpr ⟨?ez44, ?fz44⟩⟩⟩⟩⟩; (case az44 => (refine' alt_get ?lh ?lm; (case lh => assumption); (case lm => k_mem))); (case bz44 => (refine' alt_get ?lh ?lm; (case lh => assumption); (case lm => k_mem))); (case cz44 => (refine' alt_get ?lh ?lm; (case lh => assumption); (case lm => k_mem))); (case dz44 => (refine' alt_get ?lh ?lm; (case lh => assumption); (case lm => k_mem))); (case ez44 => (refine' alt_get ?lh ?lm; (case lh => assumption); (case lm => k_mem))); (case fz44 => (refine' alt_lt_all ?lh ?ls; (case lh => assumption); (case ls => k_allIn))))))); (case hdz42 => (refine' tm_call ?iz35 ?jz35 ?kz35 ?lz35 ?mz35; (case iz35 => (refine' flt_mem ?pz36 ?qz36; (case pz36 => k_mem); (case qz36 => (refine' List.forall_mem_cons.mpr ⟨?az37, List.forall_mem_cons.mpr ⟨?bz37, List.forall_mem_cons.mpr ⟨?cz37, List.forall_mem_cons.mpr ⟨?dz37, List.forall_mem_cons.mpr ⟨?ez37, ?fz37⟩⟩⟩⟩⟩; (case az37 => (refine' alt_get ?lh ?lm; (case lh => assumption); (case lm => k_mem))); (case bz37 => (refine' alt_get ?lh ?lm; (case lh => assumption); (case lm => k_mem))); (case cz37 => (refine' alt_get ?lh ?lm; (case lh => assumption); (case lm => k_mem))); (case dz37 => (refine' alt_get ?lh ?lm; (case lh => assumption); (case lm => k_mem))); (case ez37 => (refine' alt_get ?lh ?lm; (case lh => assumption); (case lm => k_mem))); (case fz37 => (refine' alt_lt_all ?lh ?ls; (case lh => assumption); (case ls => k_allIn))))))); (case jz35 => (refine' flt_mem ?pz38 ?qz38; (case pz38 => k_mem); (case qz38 => (refine' List.forall_mem_cons.mpr ⟨?az39, List.forall_mem_cons.mpr ⟨?bz39, List.forall_mem_cons.mpr ⟨?cz39, List.forall_mem_cons.mpr ⟨?dz39, List.forall_mem_cons.mpr ⟨?ez39, ?fz39⟩⟩⟩⟩⟩; (case az39 => (refine' alt_get ?lh ?lm; (case lh => assumption); (case lm => k_mem))); (case bz39 => (refine' alt_get ?lh ?lm; (case lh => assumption); (case lm => k_mem))); (case cz39 => (refine' alt_get ?lh ?lm; (case lh => assumption); (case lm => k_mem))); (case dz39 => (refine' alt_get ?lh ?lm; (case lh => assumption); (case lm => k_mem))); (case ez39 => (refine' alt_get ?lh ?lm; (case lh => assumption); (case lm => k_mem))); (case fz39 => (refine' alt_lt_all ?lh ?ls; (case lh => assumption); (case ls => k_allIn))))))); (case lz35 => assumption); (case kz35 => assumption); (case mz35 => (refine' tm_atom ?iz32 ?jz32; (case iz32 => (refine' flt_mem ?pz33 ?qz33; (case pz33 => k_mem); (case qz33 => (refine' List.forall_mem_cons.mpr ⟨?az34, List.forall_mem_cons.mpr ⟨?bz34, List.forall_mem_cons.mpr ⟨?cz34, List.forall_mem_cons.mpr ⟨?dz34, List.forall_mem_cons.mpr ⟨?ez34, ?fz34⟩⟩⟩⟩⟩; (case az34 => (refine' alt_get ?lh ?lm; (case lh => assumption); (case lm => k_mem))); (case bz34 => (refine' alt_get ?lh ?lm; (case lh => assumption); (case lm => k_mem))); (case cz34 => (refine' alt_get ?lh ?lm; (case lh => assumption); (case lm => k_mem))); (case dz34 => (refine' alt_get ?lh ?lm; (case lh => assumption); (case lm => k_mem))); (case ez34 => (refine' alt_get ?lh ?lm; (case lh => assumption); (case lm => k_mem))); (case fz34 => (refine' alt_lt_all ?lh ?ls; (case lh => assumption); (case ls => k_allIn))))))); (case jz32 => exact addA_get (by assumption)))))); (case hs0z42 => (refine' List.forall_mem_append.mpr ⟨?x1z40, ?x2z40⟩; (case x1z40 => (intro p9 h9; exact List.mem_append_left _ h9)); (case x2z40 => (intro p9 h9; refine List.mem_append_right _ (?_); revert p9; (refine' flt_sub ?az41 (above_mono (by assumption) ?bz41); (case az41 => (intro p9 h9; k_mem)); (case bz41 => (refine' List.forall_mem_cons.mpr ⟨⟨_, ?k1z41⟩, List.forall_mem_cons.mpr ⟨⟨_, ?k2z41⟩, List.forall_mem_cons.mpr ⟨⟨_, ?k3z41⟩, List.forall_mem_cons.mpr ⟨⟨_, ?k4z41⟩, List.forall_mem_cons.mpr ⟨⟨_, ?k5z41⟩, fun p9 h9 => ⟨p9.2, ?k6z41⟩⟩⟩⟩⟩⟩; (case k1z41 => k_mem); (case k2z41 => k_mem); (case k3z41 => k_mem); (case k4z41 => k_mem); (case k5z41 => k_mem); (case k6z41 => k_mem)))))))); (case hxz42 => first | exact (addA_pre2 _ _).trans (addA_pre2 _ _) | exact addA_pre2 _ _); (case hfz42 => exact addF_pre2 _ _); (case hKz42 => omega); (case okz42 => exact side_call (by assumption) (Or.inl ⟨rfl, rfl⟩))))
example : True := by k_with_none; (k_with "x_k_room" => ((try simp (config := {zetaDelta := true}) only [depth_under_make, depth_under_kw, depth_in1, depth_deeper, depth_caller]); (try dsimp only [ktrTop]); (first | (refine' rm0 ?ha_q41; (case ha_q41 => assumption)) | (refine' rm1 ?ha_q41 ?hb_q41; (case ha_q41 => assumption); (case hb_q41 => exact rfl)) | (refine' rm2 ?ha_q41 ?hb_q41; (case ha_q41 => assumption); (case hb_q41 => exact rfl)) | (refine' rm3 ?ha_q41 ?hb_q41; (case ha_q41 => assumption); (case hb_q41 => exact rfl)) | (refine' rm4 ?ha_q41 ?hb_q41; (case ha_q41 => assumption); (case hb_q41 => exact rfl)) | omega))); (k_with "x_ktr_units" => ((try simp (config := {zetaDelta := true}) only [units_under_make, units_in1, units_deeper, Around.mark_units, units_caller]); (try dsimp only [ktrTop]); (first | (refine' rm0 ?ha_q42; (case ha_q42 => assumption)) | (refine' rm1 ?ha_q42 ?hb_q42; (case ha_q42 => assumption); (case hb_q42 => exact rfl)) | (refine' rm2 ?ha_q42 ?hb_q42; (case ha_q42 => assumption); (case hb_q42 => exact rfl)) | (refine' rm3 ?ha_q42 ?hb_q42; (case ha_q42 => assumption); (case hb_q42 => exact rfl)) | (refine' rm4 ?ha_q42 ?hb_q42; (case ha_q42 => assumption); (case hb_q42 => exact rfl)) | omega))); (k_with "execs cons" => (k_here; (with_reducible refine sq_tok ?_); intro tk')); (k_with "subscriptTail Name Constant ref int" => (k_here; (with_reducible show wpAny _ _ (subscriptTail _ _ (Value.ref _) (Value.int _ _)) _ _ _); k_dflt (first | (refine' item_tupleT ?t_q44 ?a_q44 ?b_q44 ?c_q44 ?d_q44 ?_; (case t_q44 => (refine' News.isTup ?t1_q44 ?t2_q44; (case t1_q44 => k_asm); (case t2_q44 => k_mem))); (case a_q44 => decide); (case b_q44 => decide); (case c_q44 => rfl); (case d_q44 => rfl); k_whole) | (refine' c_item_lit ?N_q44 ?m_q44 ?a2_q44 ?b2_q44 ?d2_q44 ?_; (case N_q44 => k_asm); (case m_q44 => k_mem); (case a2_q44 => decide); (case b2_q44 => decide); (case d2_q44 => rfl); k_whole)))); (k_with "eval Call Name" => (k_here; with_unfolding_all refine Call_ ?_)); (k_with "x_k_all" => first | assumption | exact List.forall_mem_nil _ | (refine' List.forall_mem_append.mpr ⟨?_, ?_⟩; (focus k_all); k_all) | (refine' List.forall_mem_cons.mpr ⟨?_, ?_⟩; (focus k_ne); k_all) | exact allNeP (by assumption) | (refine' Above.off ?hA_q46 ?hM_q46; (case hA_q46 => assumption); (case hM_q46 => k_mem)) | (refine' alt_all ?lh_q46 ?ls_q46; (case lh_q46 => assumption); (case ls_q46 => k_allIn)) | exact allNe0 (by assumption) | exact allNe1 (by assumption) | exact allNe2 (by assumption) | exact allNe3 (by assumption) | exact allNe4 (by assumption) | exact allNe5 (by assumption) | exact allNe6 (by assumption)); (k_with "x_k_ne" => first | assumption | (refine' alt_ne1 ?lh_q47 ?lm_q47; (case lh_q47 => assumption); (case lm_q47 => k_mem)) | (refine' alt_ne2 ?lh_q47 ?lm_q47; (case lh_q47 => assumption); (case lm_q47 => k_mem)) | (refine' alt_ne3 ?lx_q47 ?lh_q47 ?lm_q47; (case lx_q47 => assumption); (case lh_q47 => assumption); (case lm_q47 => k_mem)) | (refine' alt_ne4 ?lx_q47 ?lh_q47 ?lm_q47; (case lx_q47 => assumption); (case lh_q47 => assumption); (case lm_q47 => k_mem)) | (refine' Ne.symm ?_; assumption) | (refine neN ?_; refine' Ne.symm ?_; assumption) | (refine neN ?_; (try dsimp only); omega) | (refine' news_ne_cls ?nN_q47 ?n1_q47 ?n2_q47 ?n3_q47; (case nN_q47 => assumption); (case n1_q47 => k_mem); (case n2_q47 => k_mem); (case n3_q47 => (intro e9; exact absurd (Value.type.inj e9) (by decide)))) | (refine neN ?_; (try dsimp only); (simp only [List.forall_mem_cons] at *); omega)); (k_with "x_k_mem" => first | assumption | exact List.mem_cons_self | (refine' List.mem_cons_of_mem _ ?_; k_mem) | (refine' List.mem_append_left _ ?_; k_mem) | (refine' List.mem_append_right _ ?_; k_mem)); (k_with "x_k_upd" => first | exact Pull.head | (refine' Pull.tail ?b_q49; (case b_q49 => k_upd)) | (refine' Pull.under _ ?b_q49; (case b_q49 => k_upd))); (k_with "x_k_allIn" => first | assumption | (intro p9 h9; k_mem) | (refine' List.forall_mem_append.mpr ⟨?_, ?_⟩; (focus k_allIn); k_allIn) | exact List.forall_mem_nil _ | exact sub_l (by assumption)); (k_with "x_k_enter" => first | ktr_enter | (refine' code_def ?k1_q51 ?k2_q51 ?k3_q51 ?k4_q51 ?k5_q51 ?kA_q51 ?kF_q51 ?kK_q51 ?k6_q51 ?k7_q51 ?k8_q51 ?k9_q51 ?kB_q51 ?_ ?c2_q51 ?c3_q51 ?c4_q51 ?c5_q51; (case kA_q51 => exact rfl); (case kF_q51 => exact rfl); (case kK_q51 => first | exact rfl | assumption); (case k1_q51 => k_asm); (case k2_q51 => k_asm); (case k3_q51 => k_asm); (case k4_q51 => k_asm); (case k5_q51 => k_asm); (case k6_q51 => k_is); (case k7_q51 => k_is); (case k8_q51 => ktr_room); (case k9_q51 => exact binds_K (by k_in) rfl (by k_is) rfl rfl rfl); (case c5_q51 => decide); (case kB_q51 => exact locs rfl); (case c2_q51 => exact rfl); (case c3_q51 => exact rfl); (case c4_q51 => exact rfl); k_whole; intro g' L' h' FG' F' N' B' X' T'; (try dsimp only); (try k_fold))); exact trivial
end
end
section
noncomputable def wtext (x : Str) (ps : List Str) : Str := match ps with
  | [p] => if x = Str.ofString "representation_error" then Str.ofString "representation limit passed: " ++ p else if x = Str.ofString "evaluation_error" then Str.ofString "evaluation error: " ++ p else if x = Str.ofString "resource_error" then Str.ofString "resource used up: " ++ p else if x = Str.ofString "syntax_error" then Str.ofString "syntax error: " ++ p else Str.ofString "error: " ++ x ++ Str.ofString "(" ++ p ++ Str.ofString ")"
  | [p, q] => if x = Str.ofString "type_error" then Str.ofString "type error: " ++ p ++ Str.ofString " expected, found " ++ q else if x = Str.ofString "domain_error" then Str.ofString "domain error: " ++ p ++ Str.ofString " expected, found " ++ q else Str.ofString "unknown " ++ p ++ Str.ofString ": " ++ q
  | [p, q, r] => Str.ofString "no permission to " ++ p ++ Str.ofString " " ++ q ++ Str.ofString ": " ++ r
  | _ => Str.ofString ""
section
theorem mk_str {prog : Program} {w : World} {h₀ h : Heap} {L : Addr} {m : Str → Option Value} {news : List (Addr × Obj)} {vs : List (Value × Value)} {P : Heap → Prop} (F : Fr h₀ L h m) (N : News h₀ L h news) (hbig : h₀.NoLimit) (hk : allStrKeys vs = true) (hn : ((strPairs vs).map (·.1)).Nodup)
    (k : ∀ h' o, Fr h₀ L h' m → News h₀ L h' ((h.objs.size, o) :: news) → (∀ p ∈ news, p.1 < h.objs.size) → (h.objs.size == sysModules) = false → o.IsDictOf (PySem.strKind prog w) (strPairs vs) → P h') :
    ∃ kvs, Carries (PySem.strKind prog w) vs kvs ∧ (h.push { cls := .type "dict", data := .dict #[] }).DictOf (PySem.strKind prog w) h.objs.size [] ∧
      ∀ h', h'.DictOf (PySem.strKind prog w) h.objs.size (merged [] kvs) → Heap.SameBut h.objs.size (h.push { cls := .type "dict", data := .dict #[] }) h' → P h' :=
  made_str F N hk hn fun h' o F' N' hd => k h' o F' N' (fun p hp => Heap.lt_size (N p hp).1) (F.notModules (modules_low hbig)) hd
theorem if_skip {prog : Program} {w : World} {A : Around} {E : Value → Shared → Prop} {env : Env} {s : Shared} {x c : Str} {i k : Int} {u t : Tok} {e1 e2 : PySem.Expr} {k1 k2 : Nat} {p2 p3 p5 p6 p7 p8 : Pos} {body : List Stmt} {Q : Flow → Shared → Prop} (hne : i ≠ k)
    (H1 : ∀ {Q : Value → Shared → Prop}, Q (.str x u) s → wpAny (model prog w) A (eval e1 env) Q E s)
    (H2 : ∀ {Q : Value → Shared → Prop}, Q (.int i t) { s with toks := s.toks + 1 } → wpAny (model prog w) A (eval e2 env) Q E { s with toks := s.toks + 1 })
    (h : ∀ tk, Q .next { s with toks := tk }) : wpAny (model prog w) A (exec (.If (.BoolOp .And [.Compare e1 [.Eq] [.Constant (.str c) k1 p2] p3, .Compare e2 [.Eq] [.Constant (.int k) k2 p5] p6] p7) body [] p8) env) Q E s := by
  refine wpAny_If (isTrue_and (wpAny_isTrue_Compare1 (H1 (Constant_str (eq_str (wpAny_truthy_bool ?_)))) rfl))
  by_cases hxc : (x == c) = true
  · rw [if_pos hxc]
    refine isTrue_and (wpAny_isTrue_Compare1 (H2 (wpAny_Constant_int (eq_int (wpAny_truthy_bool ?_)))) rfl)
    rw [if_neg (by simp [hne])]
    exact wpAny_execs_nil (h _)
  · rw [if_neg hxc]
    exact wpAny_execs_nil (h _)
example : True := by (k_with "ite" => (k_here; first | (refine ite_isFalse (by with_reducible rfl) ?_) | (refine ite_pos (by with_reducible rfl) ?_) | (refine ite_isFalse (by decide) ?_) | (refine ite_pos (by decide) ?_))); exact trivial
example : True := by (k_with "Exists" => (k_here; (refine mk_str (by k_asm) (by k_asm) (Top.nolimit (by k_asm)) (by rfl) (of_decide_eq_true (by rfl)) ?_); intro h' o' F' N' l1 lo' hd'; (try k_lt l1))); exact trivial
example : True := by (k_with "setItem ref str" => (k_here; k_dflt (refine' c_setS ?F_q162 ?N_q162 ?P_q162 ?o_q162 ?d_q162 ?z_q162 ?_; (case F_q162 => k_asm); (case N_q162 => k_asm); (case P_q162 => k_upd); (case o_q162 => k_all); (case d_q162 => assumption); (case z_q162 => exact Nat.le_of_ble_eq_true (by with_unfolding_all rfl))); intro h' o' F' N' hd'; (try dsimp only at N'))); exact trivial
example : True := by (k_with "compareOp In str ref" => (k_here; k_dflt (first | (refine' kda_in (knd := PySem.strKind _ _) ?N_q163 ?m_q163 ?d_q163 ?lo_q163 (strKind_is _ _ _ _) true ?b_q163 ?_; (case N_q163 => k_asm); (case m_q163 => k_mem); (case d_q163 => assumption); (case lo_q163 => assumption); (case b_q163 => rfl)) | (refine' kda_in (knd := PySem.strKind _ _) ?N_q163 ?m_q163 ?d_q163 ?lo_q163 (strKind_is _ _ _ _) false ?b_q163 ?_; (case N_q163 => k_asm); (case m_q163 => k_mem); (case d_q163 => assumption); (case lo_q163 => assumption); (case b_q163 => rfl))))); exact trivial
example : True := by (k_with "subscriptTail" => (k_here; (with_reducible show wpAny _ _ (subscriptTail _ _ (Value.ref _) (Value.str _ _)) _ _ _); k_dflt (refine' kda_item (knd := PySem.strKind _ _) ?N_q164 ?m_q164 ?d_q164 (strKind_is _ _ _ _) ?l_q164 ?_; (case N_q164 => k_asm); (case m_q164 => k_mem); (case d_q164 => assumption); (case l_q164 => rfl); k_whole))); (k_with "subscriptTail Name Constant ref int" => (k_here; (with_reducible show wpAny _ _ (subscriptTail _ _ (Value.ref _) (Value.str _ _)) _ _ _); k_dflt (refine' kda_item (knd := PySem.strKind _ _) ?N_q164 ?m_q164 ?d_q164 (strKind_is _ _ _ _) ?l_q164 ?_; (case N_q164 => k_asm); (case m_q164 => k_mem); (case d_q164 => assumption); (case l_q164 => rfl); k_whole))); (k_with "subscriptTail Name" => (k_here; (with_reducible show wpAny _ _ (subscriptTail _ _ (Value.ref _) (Value.str _ _)) _ _ _); k_dflt (refine' kda_item (knd := PySem.strKind _ _) ?N_q164 ?m_q164 ?d_q164 (strKind_is _ _ _ _) ?l_q164 ?_; (case N_q164 => k_asm); (case m_q164 => k_mem); (case d_q164 => assumption); (case l_q164 => rfl); k_whole))); exact trivial
example : True := by (k_with "exec If" => (k_here; (with_reducible show wpAny _ _ (exec (Stmt.If (Expr.BoolOp _ [Expr.Compare _ [_] [Expr.Constant (Const.str _) _ _] _, _] _) _ [] _) _) _ _ _); (refine' if_skip ?n_q165 ?H1_q165 ?H2_q165 ?_; rotate_left 3; (case H1_q165 => (intro Q9 h9; walk1; exact h9)); (case H2_q165 => (intro Q9 h9; walk1; exact h9)); (case n_q165 => decide)); intro tk')); exact trivial
variable {w : World} {p : Program} {loose : List Str} {mean : ExcName → Option Value} {mg mb : Str → Option Value} {dp un : Nat} {gd : Option (List Code)} {cn : Str} {cs : Scope} {a : Addr} {ccd : Value} {cl : List (Str × Addr)} {outer : List Env} {A₀ : Around} {base h₀ : Heap} {L : Addr} {m : Str → Option Value} {s : Shared} {Q E : Value → Shared → Prop} {news rest : List (Addr × Obj)}
variable {sl : Addr} {u v1 v2 v3 : Tok} {n : Nat} {p1 p2 p3 : Str} {led : List (Addr × Obj)}
theorem words1 {x : Str} (B : Below A₀ base outer h₀) (F : Fr h₀ L s.heap m) (X : (Mine.kk.heap_1 w.params).In h₀) (T : Top p loose mean mg mb h₀) (hk : cs.kind = .function) (hd : dp + 5 < recursionLimit) (hu : un + 60 < cLine) (hx : x = Str.ofString "type_error" ∨ x = Str.ofString "domain_error" ∨ x = Str.ofString "existence_error" ∨ x = Str.ofString "permission_error" ∨ x = Str.ofString "representation_error" ∨ x = Str.ofString "evaluation_error" ∨ x = Str.ofString "resource_error" ∨ x = Str.ofString "syntax_error" ∨ x = Str.ofString "instantiation_error" ∨ x = Str.ofString "zork") (N : News h₀ L s.heap ((sl, listOf [Value.str p1 v1].toArray n) :: rest)) (z1 : p1.length ≤ 40000)
  (hret : ∀ t h' tk', Fr h₀ L h' m → News h₀ L h' ((sl, listOf [Value.str p1 v1].toArray n) :: rest) → Q (.str (wtext x [p1]) t) { s with heap := h', toks := tk' }) :
  wpAny (model PySem.Challenge.rw_ok0024_01.row.prog w) (ktrTop dp un gd cn cs L a ccd cl outer) (call (.ref 517) [.str x u, .ref sl]) Q E s := by
  revert X; k_fill; intro X
  refine wpAny_call ?_
  k_dflt k_enter
  (refine sq_A ?_; intro A9)
  k_steps
  rcases hx with rfl | rfl | rfl | rfl | rfl | rfl | rfl | rfl | rfl | rfl
  all_goals k_steps
  all_goals (rename News _ _ _ _ => kN; rename Fr _ _ _ _ => kF; (refine' ret_sN hret ?e kF kN ?s; (case s => (intro p9 h9; k_mem)); (case e => (first | rfl | (simp [wtext]; done) | decide))))
theorem words2 {x : Str} (B : Below A₀ base outer h₀) (F : Fr h₀ L s.heap m) (X : (Mine.kk.heap_1 w.params).In h₀) (T : Top p loose mean mg mb h₀) (hk : cs.kind = .function) (hd : dp + 5 < recursionLimit) (hu : un + 60 < cLine) (hx : x = Str.ofString "type_error" ∨ x = Str.ofString "domain_error" ∨ x = Str.ofString "existence_error") (N : News h₀ L s.heap ((sl, listOf [Value.str p1 v1, Value.str p2 v2].toArray n) :: rest)) (z1 : p1.length ≤ 40000) (z2 : p2.length ≤ 40000)
  (hret : ∀ t h' tk', Fr h₀ L h' m → News h₀ L h' ((sl, listOf [Value.str p1 v1, Value.str p2 v2].toArray n) :: rest) → Q (.str (wtext x [p1, p2]) t) { s with heap := h', toks := tk' }) :
  wpAny (model PySem.Challenge.rw_ok0024_01.row.prog w) (ktrTop dp un gd cn cs L a ccd cl outer) (call (.ref 517) [.str x u, .ref sl]) Q E s := by
  rcases hx with rfl | rfl | rfl
  · revert X; k_fill; intro X
    refine wpAny_call ?_
    k_dflt k_enter
    (refine sq_A ?_; intro A9)
    k_steps
    all_goals (rename News _ _ _ _ => kN; rename Fr _ _ _ _ => kF; (refine' ret_sN hret ?e kF kN ?s; (case s => (intro p9 h9; k_mem)); (case e => (first | rfl | (simp [wtext]; done) | decide))))
  · revert X; k_fill; intro X
    refine wpAny_call ?_
    k_dflt k_enter
    (refine sq_A ?_; intro A9)
    k_steps
    all_goals (rename News _ _ _ _ => kN; rename Fr _ _ _ _ => kF; (refine' ret_sN hret ?e kF kN ?s; (case s => (intro p9 h9; k_mem)); (case e => (first | rfl | (simp [wtext]; done) | decide))))
  · revert X; k_fill; intro X
    refine wpAny_call ?_
    k_dflt k_enter
    (refine sq_A ?_; intro A9)
    k_steps
    all_goals (rename News _ _ _ _ => kN; rename Fr _ _ _ _ => kF; (refine' ret_sN hret ?e kF kN ?s; (case s => (intro p9 h9; k_mem)); (case e => (first | rfl | (simp [wtext]; done) | decide))))
theorem words3 {x : Str} (B : Below A₀ base outer h₀) (F : Fr h₀ L s.heap m) (X : (Mine.kk.heap_1 w.params).In h₀) (T : Top p loose mean mg mb h₀) (hk : cs.kind = .function) (hd : dp + 5 < recursionLimit) (hu : un + 60 < cLine) (hx : x = Str.ofString "permission_error") (N : News h₀ L s.heap ((sl, listOf [Value.str p1 v1, Value.str p2 v2, Value.str p3 v3].toArray n) :: rest)) (z1 : p1.length ≤ 40000) (z2 : p2.length ≤ 40000) (z3 : p3.length ≤ 40000)
  (hret : ∀ t h' tk', Fr h₀ L h' m → News h₀ L h' ((sl, listOf [Value.str p1 v1, Value.str p2 v2, Value.str p3 v3].toArray n) :: rest) → Q (.str (wtext x [p1, p2, p3]) t) { s with heap := h', toks := tk' }) :
  wpAny (model PySem.Challenge.rw_ok0024_01.row.prog w) (ktrTop dp un gd cn cs L a ccd cl outer) (call (.ref 517) [.str x u, .ref sl]) Q E s := by
  rcases hx with rfl
  · revert X; k_fill; intro X
    refine wpAny_call ?_
    k_dflt k_enter
    (refine sq_A ?_; intro A9)
    k_steps
    all_goals (rename News _ _ _ _ => kN; rename Fr _ _ _ _ => kF; (refine' ret_sN hret ?e kF kN ?s; (case s => (intro p9 h9; k_mem)); (case e => (first | rfl | (simp [wtext]; done) | decide))))
example : True := by k_with_none; (k_with "x_k_room" => ((try simp (config := {zetaDelta := true}) only [depth_under_make, depth_under_kw, depth_in1, depth_deeper, depth_caller]); (try dsimp only [ktrTop]); (first | (refine' rm0 ?ha_q41; (case ha_q41 => assumption)) | (refine' rm1 ?ha_q41 ?hb_q41; (case ha_q41 => assumption); (case hb_q41 => exact rfl)) | (refine' rm2 ?ha_q41 ?hb_q41; (case ha_q41 => assumption); (case hb_q41 => exact rfl)) | (refine' rm3 ?ha_q41 ?hb_q41; (case ha_q41 => assumption); (case hb_q41 => exact rfl)) | (refine' rm4 ?ha_q41 ?hb_q41; (case ha_q41 => assumption); (case hb_q41 => exact rfl)) | omega))); (k_with "x_ktr_units" => ((try simp (config := {zetaDelta := true}) only [units_under_make, units_in1, units_deeper, Around.mark_units, units_caller]); (try dsimp only [ktrTop]); (first | (refine' rm0 ?ha_q42; (case ha_q42 => assumption)) | (refine' rm1 ?ha_q42 ?hb_q42; (case ha_q42 => assumption); (case hb_q42 => exact rfl)) | (refine' rm2 ?ha_q42 ?hb_q42; (case ha_q42 => assumption); (case hb_q42 => exact rfl)) | (refine' rm3 ?ha_q42 ?hb_q42; (case ha_q42 => assumption); (case hb_q42 => exact rfl)) | (refine' rm4 ?ha_q42 ?hb_q42; (case ha_q42 => assumption); (case hb_q42 => exact rfl)) | omega))); (k_with "execs cons" => (k_here; (with_reducible refine sq_tok ?_); intro tk')); (k_with "subscriptTail Name Constant ref int" => (k_here; (with_reducible show wpAny _ _ (subscriptTail _ _ (Value.ref _) (Value.int _ _)) _ _ _); k_dflt (first | (refine' item_tupleT ?t_q44 ?a_q44 ?b_q44 ?c_q44 ?d_q44 ?_; (case t_q44 => (refine' News.isTup ?t1_q44 ?t2_q44; (case t1_q44 => k_asm); (case t2_q44 => k_mem))); (case a_q44 => decide); (case b_q44 => decide); (case c_q44 => rfl); (case d_q44 => rfl); k_whole) | (refine' c_item_lit ?N_q44 ?m_q44 ?a2_q44 ?b2_q44 ?d2_q44 ?_; (case N_q44 => k_asm); (case m_q44 => k_mem); (case a2_q44 => decide); (case b2_q44 => decide); (case d2_q44 => rfl); k_whole)))); (k_with "eval Call Name" => (k_here; with_unfolding_all refine Call_ ?_)); (k_with "x_k_all" => first | assumption | exact List.forall_mem_nil _ | (refine' List.forall_mem_append.mpr ⟨?_, ?_⟩; (focus k_all); k_all) | (refine' List.forall_mem_cons.mpr ⟨?_, ?_⟩; (focus k_ne); k_all) | exact allNeP (by assumption) | (refine' Above.off ?hA_q46 ?hM_q46; (case hA_q46 => assumption); (case hM_q46 => k_mem)) | (refine' alt_all ?lh_q46 ?ls_q46; (case lh_q46 => assumption); (case ls_q46 => k_allIn)) | exact allNe0 (by assumption) | exact allNe1 (by assumption) | exact allNe2 (by assumption) | exact allNe3 (by assumption) | exact allNe4 (by assumption) | exact allNe5 (by assumption) | exact allNe6 (by assumption)); (k_with "x_k_ne" => first | assumption | (refine' alt_ne1 ?lh_q47 ?lm_q47; (case lh_q47 => assumption); (case lm_q47 => k_mem)) | (refine' alt_ne2 ?lh_q47 ?lm_q47; (case lh_q47 => assumption); (case lm_q47 => k_mem)) | (refine' alt_ne3 ?lx_q47 ?lh_q47 ?lm_q47; (case lx_q47 => assumption); (case lh_q47 => assumption); (case lm_q47 => k_mem)) | (refine' alt_ne4 ?lx_q47 ?lh_q47 ?lm_q47; (case lx_q47 => assumption); (case lh_q47 => assumption); (case lm_q47 => k_mem)) | (refine' Ne.symm ?_; assumption) | (refine neN ?_; refine' Ne.symm ?_; assumption) | (refine neN ?_; (try dsimp only); omega) | (refine' news_ne_cls ?nN_q47 ?n1_q47 ?n2_q47 ?n3_q47; (case nN_q47 => assumption); (case n1_q47 => k_mem); (case n2_q47 => k_mem); (case n3_q47 => (intro e9; exact absurd (Value.type.inj e9) (by decide)))) | (refine neN ?_; (try dsimp only); (simp only [List.forall_mem_cons] at *); omega)); (k_with "x_k_mem" => first | assumption | exact List.mem_cons_self | (refine' List.mem_cons_of_mem _ ?_; k_mem) | (refine' List.mem_append_left _ ?_; k_mem) | (refine' List.mem_append_right _ ?_; k_mem)); (k_with "x_k_upd" => first | exact Pull.head | (refine' Pull.tail ?b_q49; (case b_q49 => k_upd)) | (refine' Pull.under _ ?b_q49; (case b_q49 => k_upd))); (k_with "x_k_allIn" => first | assumption | (intro p9 h9; k_mem) | (refine' List.forall_mem_append.mpr ⟨?_, ?_⟩; (focus k_allIn); k_allIn) | exact List.forall_mem_nil _ | exact sub_l (by assumption)); (k_with "x_k_enter" => first | ktr_enter | (refine' code_def ?k1_q51 ?k2_q51 ?k3_q51 ?k4_q51 ?k5_q51 ?kA_q51 ?kF_q51 ?kK_q51 ?k6_q51 ?k7_q51 ?k8_q51 ?k9_q51 ?kB_q51 ?_ ?c2_q51 ?c3_q51 ?c4_q51 ?c5_q51; (case kA_q51 => exact rfl); (case kF_q51 => exact rfl); (case kK_q51 => first | exact rfl | assumption); (case k1_q51 => k_asm); (case k2_q51 => k_asm); (case k3_q51 => k_asm); (case k4_q51 => k_asm); (case k5_q51 => k_asm); (case k6_q51 => k_is); (case k7_q51 => k_is); (case k8_q51 => ktr_room); (case k9_q51 => exact binds_K (by k_in) rfl (by k_is) rfl rfl rfl); (case c5_q51 => decide); (case kB_q51 => exact locs rfl); (case c2_q51 => exact rfl); (case c3_q51 => exact rfl); (case c4_q51 => exact rfl); k_whole; intro g' L' h' FG' F' N' B' X' T'; (try dsimp only); (try k_fold))); exact trivial
end
end
section
noncomputable def CellsN (i : Nat) (its : List Value) : Prop := its.length = i ∧ ∀ (j : Nat) v, its[j]? = some v → ∃ (x : Int) (t : Tok), v = .int x t ∧ 0 ≤ x ∧ x < 5040
noncomputable def NumsN (i : Nat) (its : List Value) : Prop := its.length = i + 3 ∧ ∀ (j : Nat) v, its[j]? = some v → ∃ (x : Int) (t : Tok), v = .int x t ∧ 0 ≤ x ∧ x < 1000000000000000000000000000000
theorem get_snoc {P : Value → Prop} {its : List Value} {a : Value} (h : ∀ (j : Nat) v, its[j]? = some v → P v) (ha : P a) : ∀ (j : Nat) v, (its ++ [a])[j]? = some v → P v := by
  intro j v hj
  by_cases hl : j < its.length
  · rw [List.getElem?_append_left hl] at hj; exact h j v hj
  · rw [List.getElem?_append_right (by omega)] at hj
    have : j - its.length = 0 := by
      rcases Nat.eq_zero_or_pos (j - its.length) with h2 | h2
      · exact h2
      · rw [List.getElem?_eq_none (by simp; omega)] at hj; cases hj
    rw [this] at hj
    cases hj
    exact ha
theorem CellsN.snoc {i : Nat} {its : List Value} {x : Int} {t : Tok} (h : CellsN i its) (h0 : 0 ≤ x) (h1 : x < 5040) : CellsN (i + 1) (its ++ [.int x t]) :=
  ⟨by rw [List.length_append, h.1]; rfl, get_snoc h.2 ⟨x, t, rfl, h0, h1⟩⟩
theorem NumsN.snoc {i : Nat} {its : List Value} {x : Int} {t : Tok} (h : NumsN i its) (h0 : 0 ≤ x) (h1 : x < 1000000000000000000000000000000) : NumsN (i + 1) (its ++ [.int x t]) :=
  ⟨by rw [List.length_append, h.1]; simp +arith, get_snoc h.2 ⟨x, t, rfl, h0, h1⟩⟩
theorem nums_start {t0 t1 t2 : Tok} : NumsN 0 [.int 0 t0, .int 12 t1, .int 7 t2] := by
  refine ⟨rfl, fun j v hj => ?_⟩
  rcases j with _ | _ | _ | j
  · exact ⟨0, t0, (Option.some.inj hj).symm, by decide, by decide⟩
  · exact ⟨12, t1, (Option.some.inj hj).symm, by decide, by decide⟩
  · exact ⟨7, t2, (Option.some.inj hj).symm, by decide, by decide⟩
  · simp at hj
section
variable {prog : Program} {w : World} {A : Around} {E : Value → Shared → Prop} {s : Shared} {env : Env} {h₀ : Heap} {body : List Stmt} {Q : Flow → Shared → Prop}
noncomputable def LawJ (x y : Str) (cl nl : Addr) (m₀ : Str → Option Value) (rest : List (Addr × Obj)) (i : Nat) (m : Str → Option Value) (nx : List (Addr × Obj)) : Prop := ∃ cits nits n1 n2 sd u, nx = (cl, listOf cits.toArray n1) :: (nl, listOf nits.toArray n2) :: rest ∧ CellsN i cits ∧ NumsN i nits ∧ 0 ≤ sd ∧ sd < 941 ∧ m y = some (.int sd u) ∧ ∀ z, z ≠ x → z ≠ y → m z = m₀ z
theorem iter_law {x y : Str} {D cl nl : Addr} {ws : List Value} {ks : List Int} {n n1 n2 : Nat} {t0 t1 t2 t3 : Tok} {m₀ : Str → Option Value} {rest : List (Addr × Obj)} (hxy : x ≠ y)
    (hh : A.handled = none) (F : Fr h₀ env.locals s.heap m₀) (N : News h₀ env.locals s.heap ((D, listOf ws.toArray n) :: (cl, listOf #[] n1) :: (nl, listOf #[.int 0 t0, .int 12 t1, .int 7 t2] n2) :: rest)) (hI : IntsAre ws ks) (hlen : ks.length ≤ 30) (e1 : @Ne Nat cl D) (e2 : @Ne Nat nl D) (o1 : ∀ p ∈ rest, p.1 ≠ D) (hm0 : m₀ y = some (.int 3 t3))
    (turn : ∀ i k t cits nits n1 n2 sd u own h tk, i < 30 → CellsN i cits → NumsN i nits → cits.length < 30 → nits.length < 33 → 0 ≤ sd → sd < 941 → (∀ p ∈ own, p.1 ≠ cl) → (∀ p ∈ own, p.1 ≠ nl) → TbOff own rest → Fr h₀ env.locals h (fun z => if z = x then some (.int k t) else if z = y then some (.int sd u) else m₀ z) → News h₀ env.locals h ((cl, listOf cits.toArray n1) :: (nl, listOf nits.toArray n2) :: (rest ++ own)) →
      wpAny (model prog w) A (execs body env) (TbPost h₀ env.locals (LawJ x y cl nl m₀ rest (i + 1)) own { s with heap := h, toks := tk } Q) E { s with heap := h, toks := tk })
    (done : ∀ (uu : Str → Option Value) cits nits n1 n2 sd u h tk, Cells cits → Nums nits → 0 ≤ sd → sd < 941 → Fr h₀ env.locals h (fun z => if z = x then uu z else if z = y then some (.int sd u) else m₀ z) → News h₀ env.locals h ((cl, listOf cits.toArray n1) :: (nl, listOf nits.toArray n2) :: rest) → Q .next { s with heap := h, toks := tk }) :
    wpAny (model prog w) A (pyIter (.ref D)) (fun it s₂ => LoopAtV prog w A h₀ env x body Q E it s₂) E s := by
  have hD := N _ (List.mem_cons_self ..)
  have hl : s.heap.IsList D ws.toArray := ⟨_, hD.1, rfl, n, rfl⟩
  have hlt : D < s.heap.objs.size := Heap.lt_size hD.1
  have hne : D ≠ s.heap.objs.size := Nat.ne_of_lt hlt
  refine wpAny_pyIter_list hl ?_
  have W := Walks.list (prog := prog) (w := w) hh s.heap.objs.size D hne ws.toArray
  rw [show ws.toArray.size = ws.length by simp] at W
  have hwl : ws.length = ks.length := hI.length
  have N0 : News h₀ env.locals s.heap ((cl, listOf #[] n1) :: (nl, listOf #[.int 0 t0, .int 12 t1, .int 7 t2] n2) :: rest) := fun p hp => N p (.tail _ hp)
  have fr : ∀ (m₁ : Str → Option Value) (v : Value) sd u, m₁ y = some (.int sd u) → (∀ z, z ≠ x → z ≠ y → m₁ z = m₀ z) → (fun z => if z = x then some v else m₁ z) = fun z => if z = x then some v else if z = y then some (.int sd u) else m₀ z := by
    intro m₁ v sd u h1 h2
    funext z
    by_cases hz : z = x
    · simp [hz]
    · by_cases hz2 : z = y
      · simp [hz2, h1]
      · simp [hz, hz2, h2 z hz hz2]
  refine ⟨_, _, _, ws.length, _, _, m₀, _, (fun i m nx => LawJ x y cl nl m₀ rest i m nx ∧ ∀ p ∈ nx, p.1 ≠ D), rfl, W, ?_, ?_, ?_, ⟨⟨_, Heap.get?_push_size _ rfl, rfl, rfl⟩, hl.at fun o e => Heap.get?_push_of_some _ e⟩, F.push _, (fun p hp => ⟨Heap.get?_push_of_some _ (N0 p hp).1, (N0 p hp).2⟩), ⟨⟨[], [.int 0 t0, .int 12 t1, .int 7 t2], n1, n2, 3, t3, rfl, ⟨rfl, by simp⟩, nums_start, by decide, by decide, hm0, fun _ _ _ => rfl⟩, List.forall_mem_cons.mpr ⟨e1, List.forall_mem_cons.mpr ⟨e2, o1⟩⟩⟩, ?_, ?_⟩
  · intro hmm
    rcases List.mem_cons.mp hmm with e | hmm
    · exact absurd F.ns.lt (e ▸ Nat.lt_irrefl _)
    · exact hD.2.1 (List.mem_singleton.mp hmm).symm
  · intro b hb
    rw [List.mem_singleton.mp hb]
    exact next_is_new F
  · intro p hp hI
    exact absurd (Heap.lt_size (N0 p hp).1) ((List.mem_singleton.mp hI) ▸ Nat.lt_irrefl _)
  · rintro i v m₁ news₁ s₁ own ⟨hh', tk', rfl⟩ hin hP ⟨⟨cits, nits, k1, k2, sd, u, rfl, hc, hn, h0, h1, hm, hm'⟩, hoD⟩ hofs hown hget hall hst F₁ N₁
    obtain ⟨⟨oi, hoi, _⟩, ⟨od, hod, _⟩⟩ := hst
    have hv : ws[i]? = some v := by simpa using hP
    obtain ⟨k, t, rfl⟩ : ∃ k t, v = .int k t := by
      obtain ⟨t, ht⟩ := hI.get i (ks[i]'(by omega)) (by simp)
      rw [hv] at ht
      exact ⟨_, t, Option.some.inj ht⟩
    rw [fr m₁ _ sd u hm hm'] at F₁
    have hI' : (s.heap.objs.size, oi) ∈ own := hall _ (.head _) (next_is_new F) oi hoi
    have hD' : (D, od) ∈ own := hall _ (.tail _ (.head _)) hD.2.2 od hod
    have hsep : ∀ p ∈ own, ∀ q ∈ (cl, listOf cits.toArray k1) :: (nl, listOf nits.toArray k2) :: rest, p.1 ≠ q.1 := by
      intro p hp q hq e
      rcases List.mem_cons.mp (hown p hp) with h | h
      · exact hofs q hq (List.mem_singleton.mpr (by rw [← e, h]))
      · exact hoD q hq (by rw [← e]; exact List.mem_singleton.mp h)
    have hi : i < 30 := by omega
    refine wpAny_mono (turn i k t cits nits k1 k2 sd u own hh' tk' hi hc hn (by rw [hc.1]; exact hi) (by rw [hn.1]; omega) h0 h1 (fun p hp => hsep p hp _ (.head _)) (fun p hp => hsep p hp _ (.tail _ (.head _))) (fun p hp q hq => hsep p hp q (.tail _ (.tail _ hq))) F₁ fun p hp => N₁ p ?_) (fun f s₂ p => ?_) fun _ _ e => e
    · simp only [List.mem_cons, List.mem_append] at hp ⊢
      rcases hp with h | h | h | h <;> simp [h]
    have fin : TbEnd h₀ env.locals (LawJ x y cl nl m₀ rest (i + 1)) own { s with heap := hh', toks := tk' } s₂ → LoopStepU h₀ env.locals [s.heap.objs.size] own (fun m nx => LawJ x y cl nl m₀ rest (i + 1) m nx ∧ ∀ p ∈ nx, p.1 ≠ D) { s with heap := hh', toks := tk' } .next s₂ := by
      rintro ⟨h', tk, m', news', nx, e, F', N', hn, ho, ha, hm⟩
      exact ⟨rfl, h', tk, m', nx, e, F', fun p hp => N' p ((List.mem_append.mp hp).elim (ho p) (hn p)), fun p hp hq => ha _ hI' p hp (List.mem_singleton.mp hq).symm, hm, fun p hp e => ha _ hD' p hp e.symm⟩
    cases f with
    | ret v => exact .ret p
    | brk => exact .brk p
    | next => exact .next (fin p)
    | cont => exact .cont (fin p)
  · rintro h' tk m' news' F' N' _ ⟨⟨cits, nits, k1, k2, sd, u, rfl, hc, hn, h0, h1, hm, hm'⟩, _⟩
    have e : m' = fun z => if z = x then m' z else if z = y then some (.int sd u) else m₀ z := by
      funext z
      by_cases hz : z = x
      · simp [hz]
      · by_cases hz2 : z = y
        · rw [hz2]; simp [Ne.symm hxy, hm]
        · simp [hz, hz2, hm' z hz hz2]
    rw [e] at F'
    exact done m' cits nits k1 k2 sd u h' tk ⟨by rw [hc.1]; omega, hc.2⟩ ⟨by rw [hn.1]; omega, by rw [hn.1]; omega, hn.2⟩ h0 h1 F' N'
theorem law_end {x y : Str} {cl nl L : Addr} {m₀ m' : Str → Option Value} {rest own news' : List (Addr × Obj)} {i : Nat} {cits nits : List Value} {n1 n2 : Nat} {a1 a2 sd : Int} {b1 b2 u : Tok} {s₁ : Shared} {h' : Heap} {tk : Nat} (hc : CellsN i cits) (hn : NumsN i nits) (p1 : ∀ p ∈ own, p.1 ≠ cl) (p2 : ∀ p ∈ own, p.1 ≠ nl) (p3 : TbOff own rest) (F : Fr h₀ L h' m') (N : News h₀ L h' ((nl, listOf (nits.toArray.push (Value.int a2 b2)) n2) :: (cl, listOf (cits.toArray.push (Value.int a1 b1)) n1) :: news')) (hs : ∀ p ∈ rest ++ own, p ∈ news') (ha1 : 0 ≤ a1 ∧ a1 < 5040) (ha2 : 0 ≤ a2 ∧ a2 < 1000000000000000000000000000000) (hsd : 0 ≤ sd ∧ sd < 941) (hy : m' y = some (.int sd u)) (hm : ∀ z, z ≠ x → z ≠ y → m' z = m₀ z) :
    TbEnd h₀ L (LawJ x y cl nl m₀ rest (i + 1)) own s₁ { s₁ with heap := h', toks := tk } := by
  rw [List.push_toArray, List.push_toArray] at N
  refine ⟨h', tk, m', _, (cl, listOf (cits ++ [Value.int a1 b1]).toArray n1) :: (nl, listOf (nits ++ [Value.int a2 b2]).toArray n2) :: rest, rfl, F, N, ?_, fun p hp => .tail _ (.tail _ (hs p (List.mem_append_right _ hp))), ?_, ⟨_, _, _, _, sd, u, rfl, hc.snoc ha1.1 ha1.2, hn.snoc ha2.1 ha2.2, hsd.1, hsd.2, hy, hm⟩⟩
  · intro p hp
    rcases List.mem_cons.mp hp with rfl | hp
    · exact .tail _ (.head _)
    rcases List.mem_cons.mp hp with rfl | hp
    · exact .head _
    · exact .tail _ (.tail _ (hs p (List.mem_append_left _ hp)))
  · intro p hp q hq
    rcases List.mem_cons.mp hq with rfl | hq
    · exact p1 p hp
    rcases List.mem_cons.mp hq with rfl | hq
    · exact p2 p hp
    · exact p3 p hp q hq
end
end
section
noncomputable def NM10 (x : Str) : Prop := x = Str.ofString "type_error" ∨ x = Str.ofString "domain_error" ∨ x = Str.ofString "existence_error" ∨ x = Str.ofString "permission_error" ∨ x = Str.ofString "representation_error" ∨ x = Str.ofString "evaluation_error" ∨ x = Str.ofString "resource_error" ∨ x = Str.ofString "syntax_error" ∨ x = Str.ofString "instantiation_error" ∨ x = Str.ofString "zork"
noncomputable def NM3 (x : Str) : Prop := x = Str.ofString "type_error" ∨ x = Str.ofString "domain_error" ∨ x = Str.ofString "existence_error"
noncomputable def FmG : Fm → Prop
  | .one x d => NM10 x ∧ OkE d
  | .two x d1 d2 => NM3 x ∧ OkE d1 ∧ OkE d2
  | .three x d1 d2 d3 => x = Str.ofString "permission_error" ∧ OkE d1 ∧ OkE d2 ∧ OkE d3
noncomputable def wtF : Fm → Str
  | .one x d => wtext x [spell d]
  | .two x d1 d2 => wtext x [spell d1, spell d2]
  | .three x d1 d2 d3 => wtext x [spell d1, spell d2, spell d3]
theorem str_ne {a b : Str} (h : 0 < a.cps.size) : ((a ++ b) != Str.ofString "") = true := by
  rw [bne_iff_ne]
  intro e
  have e2 := congrArg (fun s : Str => s.cps.size) e
  have e3 : (a ++ b).cps.size = a.cps.size + b.cps.size := by rw [Str.cps_append, Array.size_append]
  have e4 : (Str.ofString "").cps.size = 0 := by decide
  simp only [e3, e4] at e2
  omega
theorem str_ne3 {a b c : Str} (h : 0 < a.cps.size) : ((a ++ b ++ c) != Str.ofString "") = true := by
  rw [Str.append_assoc]; exact str_ne h
theorem str_ne4 {a b c d : Str} (h : 0 < a.cps.size) : ((a ++ b ++ c ++ d) != Str.ofString "") = true := by
  rw [Str.append_assoc (a ++ b)]; exact str_ne3 h
theorem str_ne6 {a b c d e f : Str} (h : 0 < a.cps.size) : ((a ++ b ++ c ++ d ++ e ++ f) != Str.ofString "") = true := by
  rw [Str.append_assoc (a ++ b ++ c ++ d), Str.append_assoc (a ++ b ++ c)]; exact str_ne4 h
theorem str_len (a b : Str) : (a ++ b).length = a.length + b.length := by
  show (a ++ b).cps.size = a.cps.size + b.cps.size
  rw [Str.cps_append, Array.size_append]
theorem okS {x : Str} {d : Tm} (hx : NM10 x) (h : OkE d) : OkD (.S x d) := by
  obtain ⟨h1, h2, h3⟩ := h
  have hl : x.length ≤ 50 ∧ alnumNameB x = true ∧ x ∉ OPN := by
    rcases hx with rfl | rfl | rfl | rfl | rfl | rfl | rfl | rfl | rfl | rfl <;> exact ⟨by decide, by decide +kernel, by decide +kernel⟩
  refine ⟨⟨hl.2.1, hl.2.2, by omega, h1⟩, ?_, ?_⟩
  · show wsize d + 4 ≤ 40
    omega
  · show (x ++ Str.ofString "(" ++ spell d ++ Str.ofString ")").length ≤ 40000
    rw [str_len, str_len, str_len]
    have a1 : (Str.ofString "(").length = 1 := by decide
    have a2 : (Str.ofString ")").length = 1 := by decide
    omega
theorem okF1 {x : Str} {d : Tm} (hx : NM10 x) (h : OkE d) : OkF (.one x d) := by
  refine ⟨?_, ?_, h.d⟩
  · rcases hx with rfl | rfl | rfl | rfl | rfl | rfl | rfl | rfl | rfl | rfl <;> decide
  · rcases hx with rfl | rfl | rfl | rfl | rfl | rfl | rfl | rfl | rfl | rfl <;> exact ⟨by decide +kernel, by decide +kernel, by decide +kernel, by decide +kernel⟩
theorem okF2 {x : Str} {d1 d2 : Tm} (hx : NM3 x) (h1 : OkE d1) (h2 : OkE d2) : OkF (.two x d1 d2) := by
  refine ⟨?_, ?_, h1.d, h2.d⟩
  · rcases hx with rfl | rfl | rfl <;> decide
  · rcases hx with rfl | rfl | rfl
    · exact Or.inl (by decide +kernel)
    · exact Or.inr (Or.inl (by decide +kernel))
    · exact Or.inr (Or.inr (by decide +kernel))
theorem okF3 {x : Str} {d1 d2 d3 : Tm} (hx : x = Str.ofString "permission_error") (h1 : OkE d1) (h2 : OkE d2) (h3 : OkE d3) : OkF (.three x d1 d2 d3) := by
  subst hx
  exact ⟨by decide, by decide +kernel, h1.d, h2.d, h3.d⟩
theorem ft1_in {x : Str} {d : Tm} (hx : x = Str.ofString "representation_error" ∨ x = Str.ofString "evaluation_error" ∨ x = Str.ofString "resource_error" ∨ x = Str.ofString "syntax_error") : ftextF (.one x d) = wtext x [spell d] ∧ (ftextF (.one x d) != Str.ofString "") = true := by
  have e : ∀ y z : Str, (labOf y 1 == z) = decide (labOf y 1 = z) := fun y z => rfl
  have k : ∀ y : Str, (y = Str.ofString "representation_error" ∨ y = Str.ofString "evaluation_error" ∨ y = Str.ofString "resource_error" ∨ y = Str.ofString "syntax_error") → ∀ p, ftext1 (labOf y 1) p = wtext y [p] ∧ (ftext1 (labOf y 1) p != Str.ofString "") = true := by
    rintro y (rfl | rfl | rfl | rfl) p
    · have h : ftext1 (labOf (Str.ofString "representation_error") 1) p = Str.ofString "representation limit passed: " ++ p := if_pos (by decide +kernel)
      have h2 : wtext (Str.ofString "representation_error") [p] = Str.ofString "representation limit passed: " ++ p := by
        unfold wtext
        exact if_pos rfl
      exact ⟨h.trans h2.symm, by rw [h]; exact str_ne (by decide)⟩
    · have h : ftext1 (labOf (Str.ofString "evaluation_error") 1) p = Str.ofString "evaluation error: " ++ p := (if_neg (by decide +kernel)).trans (if_pos (by decide +kernel))
      have h2 : wtext (Str.ofString "evaluation_error") [p] = Str.ofString "evaluation error: " ++ p := by
        unfold wtext
        exact (if_neg (by decide +kernel)).trans (if_pos rfl)
      exact ⟨h.trans h2.symm, by rw [h]; exact str_ne (by decide)⟩
    · have h : ftext1 (labOf (Str.ofString "resource_error") 1) p = Str.ofString "resource used up: " ++ p := (if_neg (by decide +kernel)).trans ((if_neg (by decide +kernel)).trans (if_pos (by decide +kernel)))
      have h2 : wtext (Str.ofString "resource_error") [p] = Str.ofString "resource used up: " ++ p := by
        unfold wtext
        exact (if_neg (by decide +kernel)).trans ((if_neg (by decide +kernel)).trans (if_pos rfl))
      exact ⟨h.trans h2.symm, by rw [h]; exact str_ne (by decide)⟩
    · have h : ftext1 (labOf (Str.ofString "syntax_error") 1) p = Str.ofString "syntax error: " ++ p := (if_neg (by decide +kernel)).trans ((if_neg (by decide +kernel)).trans ((if_neg (by decide +kernel)).trans (if_pos (by decide +kernel))))
      have h2 : wtext (Str.ofString "syntax_error") [p] = Str.ofString "syntax error: " ++ p := by
        unfold wtext
        exact (if_neg (by decide +kernel)).trans ((if_neg (by decide +kernel)).trans ((if_neg (by decide +kernel)).trans (if_pos rfl)))
      exact ⟨h.trans h2.symm, by rw [h]; exact str_ne (by decide)⟩
  exact k x hx (spell d)
theorem ft1_out {x : Str} {d : Tm} (hx : x = Str.ofString "type_error" ∨ x = Str.ofString "domain_error" ∨ x = Str.ofString "existence_error" ∨ x = Str.ofString "permission_error" ∨ x = Str.ofString "instantiation_error" ∨ x = Str.ofString "zork") : (ftextF (.one x d) != Str.ofString "") = false ∧ Str.ofString "error: " ++ spell (.S x d) = wtext x [spell d] := by
  have k : ∀ y : Str, (y = Str.ofString "type_error" ∨ y = Str.ofString "domain_error" ∨ y = Str.ofString "existence_error" ∨ y = Str.ofString "permission_error" ∨ y = Str.ofString "instantiation_error" ∨ y = Str.ofString "zork") → ((labOf y 1 == Str.ofString "representation_error/1") = false ∧ (labOf y 1 == Str.ofString "evaluation_error/1") = false ∧ (labOf y 1 == Str.ofString "resource_error/1") = false ∧ (labOf y 1 == Str.ofString "syntax_error/1") = false) ∧ (¬ y = Str.ofString "representation_error" ∧ ¬ y = Str.ofString "evaluation_error" ∧ ¬ y = Str.ofString "resource_error" ∧ ¬ y = Str.ofString "syntax_error") := by
    rintro y (rfl | rfl | rfl | rfl | rfl | rfl) <;> exact ⟨⟨by decide +kernel, by decide +kernel, by decide +kernel, by decide +kernel⟩, by decide +kernel, by decide +kernel, by decide +kernel, by decide +kernel⟩
  obtain ⟨⟨a, b, c, e⟩, a', b', c', e'⟩ := k x hx
  constructor
  · show (ftext1 (labOf x 1) (spell d) != Str.ofString "") = false
    simp only [ftext1, a, b, c, e, if_false, Bool.false_eq_true]; decide
  · show Str.ofString "error: " ++ (x ++ Str.ofString "(" ++ spell d ++ Str.ofString ")") = wtext x [spell d]
    simp only [wtext, a', b', c', e', if_false, Str.append_assoc]
theorem ft2 {x : Str} {d1 d2 : Tm} (hx : NM3 x) : ftextF (.two x d1 d2) = wtext x [spell d1, spell d2] ∧ (ftextF (.two x d1 d2) != Str.ofString "") = true := by
  have k : ∀ y : Str, NM3 y → ∀ p q, ftext2 (labOf y 2) p q = wtext y [p, q] ∧ (ftext2 (labOf y 2) p q != Str.ofString "") = true := by
    rintro y (rfl | rfl | rfl) p q
    · have h : ftext2 (labOf (Str.ofString "type_error") 2) p q = Str.ofString "type error: " ++ p ++ Str.ofString " expected, found " ++ q := if_pos (by decide +kernel)
      have h2 : wtext (Str.ofString "type_error") [p, q] = Str.ofString "type error: " ++ p ++ Str.ofString " expected, found " ++ q := by
        unfold wtext
        exact if_pos rfl
      exact ⟨h.trans h2.symm, by rw [h]; exact str_ne4 (by decide)⟩
    · have h : ftext2 (labOf (Str.ofString "domain_error") 2) p q = Str.ofString "domain error: " ++ p ++ Str.ofString " expected, found " ++ q := (if_neg (by decide +kernel)).trans (if_pos (by decide +kernel))
      have h2 : wtext (Str.ofString "domain_error") [p, q] = Str.ofString "domain error: " ++ p ++ Str.ofString " expected, found " ++ q := by
        unfold wtext
        exact (if_neg (by decide +kernel)).trans (if_pos rfl)
      exact ⟨h.trans h2.symm, by rw [h]; exact str_ne4 (by decide)⟩
    · have h : ftext2 (labOf (Str.ofString "existence_error") 2) p q = Str.ofString "unknown " ++ p ++ Str.ofString ": " ++ q := (if_neg (by decide +kernel)).trans (if_neg (by decide +kernel))
      have h2 : wtext (Str.ofString "existence_error") [p, q] = Str.ofString "unknown " ++ p ++ Str.ofString ": " ++ q := by
        unfold wtext
        exact (if_neg (by decide +kernel)).trans (if_neg (by decide +kernel))
      exact ⟨h.trans h2.symm, by rw [h]; exact str_ne4 (by decide)⟩
  exact k x hx _ _
section
variable {w : World} {p : Program} {loose : List Str} {mean : ExcName → Option Value} {mg mb : Str → Option Value} {dp un : Nat} {gd : Option (List Code)} {cn : Str} {cs : Scope} {a : Addr} {ccd : Value} {cl : List (Str × Addr)} {outer : List Env} {A₀ : Around} {base h₀ : Heap} {L : Addr} {m : Str → Option Value} {s : Shared} {Q E : Value → Shared → Prop} {news rest : List (Addr × Obj)}
variable {op b : Addr} {xs : List Str} {fs : List (List Int)} {led : List (Addr × Obj)}
theorem err_law {f : Fm} {i : Nat} {ta ga fa fga : Addr} {cv : Value} {u1 u2 u3 u4 : Tok} {c1 c2 c3 : Nat} (B : Below A₀ base outer h₀) (F : Fr h₀ L s.heap m) (X : (Mine.kk.heap_1 w.params).In h₀) (T : Top p loose mean mg mb h₀) (hk : cs.kind = .function) (hd : dp + 80 < recursionLimit) (hu : un + 999 < cLine) (N : News h₀ L s.heap led) (V : PEnv w led b op xs fs) (ht : (ta, tupO [.str (Str.ofString "s") u1, .int 16 u2, .ref ga] c1) ∈ led) (hg : (ga, tupO [.ref fa, cv] c2) ∈ led) (hfa : (fa, tupO [.str (Str.ofString "s") u3, .int i u4, .ref fga] c3) ∈ led) (hf : FmIn led xs fs (.ref fa) f) (G : FmG f)
  (hret : ∀ t h' tk', Fr h₀ L h' m → News h₀ L h' led → Q (.str (wtF f) t) { s with heap := h', toks := tk' }) :
  wpAny (model PySem.Challenge.rw_ok0024_01.row.prog w) (ktrTop dp un gd cn cs L a ccd cl outer) (call (.ref 491) [.ref b, .ref op, .ref ta]) Q E s := by
  cases f with
  | one x d =>
    have G1 : NM10 x := G.1
    by_cases hx : x = Str.ofString "representation_error" ∨ x = Str.ofString "evaluation_error" ∨ x = Str.ofString "resource_error" ∨ x = Str.ofString "syntax_error"
    · obtain ⟨e, hne⟩ := ft1_in (d := d) hx
      refine err_formal B F X T hk hd hu N V ht hg hfa hf (okF1 G.1 G.2) hne ?_
      rw [e]; exact hret
    · have hx' : x = Str.ofString "type_error" ∨ x = Str.ofString "domain_error" ∨ x = Str.ofString "existence_error" ∨ x = Str.ofString "permission_error" ∨ x = Str.ofString "instantiation_error" ∨ x = Str.ofString "zork" := by
        rcases G1 with h | h | h | h | h | h | h | h | h | h
        · exact .inl h
        · exact .inr (.inl h)
        · exact .inr (.inr (.inl h))
        · exact .inr (.inr (.inr (.inl h)))
        · exact absurd (.inl h) hx
        · exact absurd (.inr (.inl h)) hx
        · exact absurd (.inr (.inr (.inl h))) hx
        · exact absurd (.inr (.inr (.inr h))) hx
        · exact .inr (.inr (.inr (.inr (.inl h))))
        · exact .inr (.inr (.inr (.inr (.inr h))))
      obtain ⟨hne, e⟩ := ft1_out (d := d) hx'
      refine err_odd B F X T hk hd hu N V ht hg hfa hf (okF1 G.1 G.2) (okS G.1 G.2) hne ?_
      rw [e]; exact hret
  | two x d1 d2 =>
    obtain ⟨e, hne⟩ := ft2 (d1 := d1) (d2 := d2) G.1
    refine err_formal B F X T hk hd hu N V ht hg hfa hf (okF2 G.1 G.2.1 G.2.2) hne ?_
    rw [e]; exact hret
  | three x d1 d2 d3 =>
    refine err_formal B F X T hk hd hu N V ht hg hfa hf (okF3 G.1 G.2.1 G.2.2.1 G.2.2.2) (str_ne6 (by decide)) ?_
    exact hret
end
noncomputable def Many (x : Str) (k : Int) : Prop := (k = 1 ∧ NM10 x) ∨ (k = 2 ∧ NM3 x) ∨ (k = 3 ∧ x = Str.ofString "permission_error")
theorem c_get_many {prog : Program} {w : World} {A : Around} {E : Value → Shared → Prop} {s : Shared} {h₀ : Heap} {L d : Addr} {news : List (Addr × Obj)} {o : Obj} {x : Str} {t t1 t2 t3 t4 t5 : Tok} {Q : Value → Shared → Prop} (N : News h₀ L s.heap news) (hm : (d, o) ∈ news) (lo : (d == sysModules) = false) (hd : o.IsDictOf (PySem.strKind prog w) [(Str.ofString "type_error", .int 2 t1), (Str.ofString "domain_error", .int 2 t2), (Str.ofString "existence_error", .int 2 t3), (Str.ofString "permission_error", .int 3 t4)]) (hx : NM10 x)
    (h : ∀ k u, Many x k → Q (.int k u) { s with toks := s.toks + 1 }) : wpAny (model prog w) A (call (.builtin "dict.get") [.ref d, .str x t, .int 1 t5]) Q E s := by
  have hx0 := hx
  rcases hx0 with rfl | rfl | rfl | rfl | rfl | rfl | rfl | rfl | rfl | rfl
  · exact c_dict_get_hit N hm lo hd (strKind_is _ _ _ _) rfl (h _ _ (.inr (.inl ⟨rfl, .inl rfl⟩)))
  · exact c_dict_get_hit N hm lo hd (strKind_is _ _ _ _) rfl (h _ _ (.inr (.inl ⟨rfl, .inr (.inl rfl)⟩)))
  · exact c_dict_get_hit N hm lo hd (strKind_is _ _ _ _) rfl (h _ _ (.inr (.inl ⟨rfl, .inr (.inr rfl)⟩)))
  · exact c_dict_get_hit N hm lo hd (strKind_is _ _ _ _) rfl (h _ _ (.inr (.inr ⟨rfl, rfl⟩)))
  · exact c_dict_get_miss N hm lo hd (strKind_is _ _ _ _) rfl (h _ _ (.inl ⟨rfl, hx⟩))
  · exact c_dict_get_miss N hm lo hd (strKind_is _ _ _ _) rfl (h _ _ (.inl ⟨rfl, hx⟩))
  · exact c_dict_get_miss N hm lo hd (strKind_is _ _ _ _) rfl (h _ _ (.inl ⟨rfl, hx⟩))
  · exact c_dict_get_miss N hm lo hd (strKind_is _ _ _ _) rfl (h _ _ (.inl ⟨rfl, hx⟩))
  · exact c_dict_get_miss N hm lo hd (strKind_is _ _ _ _) rfl (h _ _ (.inl ⟨rfl, hx⟩))
  · exact c_dict_get_miss N hm lo hd (strKind_is _ _ _ _) rfl (h _ _ (.inl ⟨rfl, hx⟩))
end
section
theorem OpS.grow {prog : Program} {w : World} {xs xs' : List Str} {oPre oInf : Obj} {n : Nat} (hx : xs <+: xs') (S : OpS prog w xs oPre oInf n) : OpS prog w xs' oPre oInf n := by
  obtain ⟨⟨kp, a, b, c⟩, d⟩ := S
  refine ⟨⟨kp, a, b, fun k hk => ?_⟩, d⟩
  obtain ⟨i, y, e, h, hy⟩ := c k hk
  obtain ⟨r, rfl⟩ := hx
  exact ⟨i, y, e, by rw [List.getElem?_append_left (List.getElem?_eq_some_iff.mp h).1]; exact h, hy⟩
inductive OpF (w : World) (led : List (Addr × Obj)) (b op : Addr) (xs : List Str) : Prop
  | mk (opd pre inf pos : Addr) (v1 v2 v3 v4 : Tok) (oPre oInf oPos : Obj) (n : Nat) (h1 : (op, instObj 287 opd) ∈ led) (h2 : (opd, opD w v1 v2 v3 v4 b pre inf pos) ∈ led) (h3 : (pre, oPre) ∈ led) (h4 : (pos, oPos) ∈ led) (h5 : OpS PG w xs oPre oInf n) (h6 : oPos.IsDictOf (intKind PG w) []) (h7 : (pre == sysModules) = false) (h8 : (pos == sysModules) = false) : OpF w led b op xs
theorem OpF.grow {w : World} {led led' : List (Addr × Obj)} {b op : Addr} {xs xs' : List Str} (h : ∀ p ∈ led, p ∈ led') (hx : xs <+: xs') (H : OpF w led b op xs) : OpF w led' b op xs' := by
  obtain ⟨opd, pre, inf, pos, v1, v2, v3, v4, oPre, oInf, oPos, n, h1, h2, h3, h4, h5, h6, h7, h8⟩ := H
  exact ⟨opd, pre, inf, pos, v1, v2, v3, v4, oPre, oInf, oPos, n, h _ h1, h _ h2, h _ h3, h _ h4, h5.grow hx, h6, h7, h8⟩
theorem mk_penv {w : World} {led ledO restB rest0 : List (Addr × Obj)} {b op bd tx an fu fn : Addr} {t1 t2 t3 t4 : Tok} {oTx oAn oFu oFn : Obj} {xs xs0 : List Str} {fs : List (List Int)} {K : Nat} (R : BookR w restB b bd tx an fu fn t1 t2 t3 t4) (S : BookS PG w rest0 oTx oAn oFu oFn xs fs K) (O : OpF w ledO b op xs0) (hK : K ≤ 90000) (hsR : ∀ p ∈ restB, p ∈ led) (hs0 : ∀ p ∈ rest0, p ∈ led) (m1 : (tx, oTx) ∈ led) (m2 : (fu, oFu) ∈ led) (hx : FA <+: xs) (hf : FK <+: fs) (hs9 : ∀ p ∈ ledO, p ∈ led) (hxx : xs0 <+: xs) : PEnv w led b op xs fs := by
  obtain ⟨opd, pre, inf, pos, v1, v2, v3, v4, oPre, oInf, oPos, n, h1, h2, h3, h4, h5, h6, h7, h8⟩ := O.grow hs9 hxx
  exact ⟨restB, rest0, bd, tx, an, fu, fn, opd, pre, inf, pos, t1, t2, t3, t4, v1, v2, v3, v4, oTx, oAn, oFu, oFn, oPre, oInf, oPos, K, n, R, S, hK, hsR, hs0, m1, m2, hx, hf, h1, h2, h3, h4, h5, h6, h7, h8⟩
section
variable {w : World} {p : Program} {loose : List Str} {mean : ExcName → Option Value} {mg mb : Str → Option Value} {dp un : Nat} {gd : Option (List Code)} {cn : Str} {cs : Scope} {a : Addr} {ccd : Value} {cl : List (Str × Addr)} {outer : List Env} {A₀ : Around} {base h₀ : Heap} {L : Addr} {m : Str → Option Value} {s : Shared} {Q E : Value → Shared → Prop} {news rest : List (Addr × Obj)}
variable {b bd tx an fu fn rd ce na : Addr} {t1 t2 t3 t4 : Tok} {oTx oAn oFu oFn oR : Obj} {led r1 r2 r3 r4 restR rest0 : List (Addr × Obj)} {xs : List Str} {fs : List (List Int)} {K : Nat} {cits nits : List Value} {cc nn : Nat}
theorem symbols_use (B : Below A₀ base outer h₀) (F : Fr h₀ L s.heap m) (X : (Mine.kk.heap_1 w.params).In h₀) (T : Top p loose mean mg mb h₀) (hk : cs.kind = .function) (hd : dp + 10 < recursionLimit) (hu : un + 130 < cLine) (N : News h₀ L s.heap news)
  (hret : ∀ b bd tx an fu fn t1 t2 t3 t4 oTx oAn oFu oFn tl h' tk', (∀ q ∈ news, q.1 < tx) → (∀ q ∈ news, q.1 < an) → (∀ q ∈ news, q.1 < fu) → (∀ q ∈ news, q.1 < fn) → Above news tl → Fr h₀ L h' m → News h₀ L h' ((tx, oTx) :: (an, oAn) :: (fu, oFu) :: (fn, oFn) :: (news ++ tl)) → BookR w tl b bd tx an fu fn t1 t2 t3 t4 → BookS PG w tl oTx oAn oFu oFn FA FK 93 → Q (.ref b) { s with heap := h', toks := tk' }) :
  wpAny (model PySem.Challenge.rw_ok0024_01.row.prog w) (ktrTop dp un gd cn cs L a ccd cl outer) (call (.ref 122) []) Q E s :=
  symbols_spec B F X T hk hd hu N fun b bd tx an fu fn t1 t2 t3 t4 oTx oAn oFu oFn tl h' tk' A F' N' R h1 h2 S => hret b bd tx an fu fn t1 t2 t3 t4 oTx oAn oFu oFn tl h' tk' (fun q hq => A q hq _ (.head _)) (fun q hq => A q hq _ (.tail _ (.head _))) (fun q hq => A q hq _ (.tail _ (.tail _ (.head _)))) (fun q hq => A q hq _ (.tail _ (.tail _ (.tail _ (.head _))))) (fun q hq p hp => A q hq p (.tail _ (.tail _ (.tail _ (.tail _ hp))))) F' N' (R.sub (fun p hp => List.mem_append_right _ hp) h1 h2) S
theorem optab_use {len : Nat} (B : Below A₀ base outer h₀) (F : Fr h₀ L s.heap m) (X : (Mine.kk.heap_1 w.params).In h₀) (T : Top p loose mean mg mb h₀) (hk : cs.kind = .function) (hd : dp + 16 < recursionLimit) (hu : un + 200 < cLine) (_hR : RowSt w oR ce len) (R0 : BookR w restR b bd tx an fu fn t1 t2 t3 t4) (S0 : BookS PG w rest0 oTx oAn oFu oFn FA FK 93) (N : News h₀ L s.heap led) (P1 : Pull tx oTx led r1) (P2 : Pull an oAn r1 r2) (P3 : Pull fu oFu r2 r3) (P4 : Pull fn oFn r3 r4) (P5 : Pull rd oR r4 rest) (hs : ∀ p ∈ restR, p ∈ rest) (hs0 : ∀ p ∈ rest0, p ∈ rest) (o1 : ∀ p ∈ r4, p.1 ≠ tx) (o2 : ∀ p ∈ r4, p.1 ≠ an) (o3 : ∀ p ∈ r4, p.1 ≠ fu) (o4 : ∀ p ∈ r4, p.1 ≠ fn) (o5 : ∀ p ∈ rest, p.1 ≠ rd)
  (hret : ∀ R9, (∀ p ∈ rest, p ∈ R9) → (∀ p ∈ R9, p.1 ≠ tx) → (∀ p ∈ R9, p.1 ≠ an) → (∀ p ∈ R9, p.1 ≠ fu) → (∀ p ∈ R9, p.1 ≠ fn) → (∀ p ∈ R9, p.1 ≠ rd) → @Ne Nat rd tx → @Ne Nat rd an → @Ne Nat rd fu → @Ne Nat rd fn → ∀ op oTx' oAn' xs h' tk', Fr h₀ L h' m → News h₀ L h' ((tx, oTx') :: (an, oAn') :: (fu, oFu) :: (fn, oFn) :: (rd, oR) :: R9) → BookR w R9 b bd tx an fu fn t1 t2 t3 t4 → OpF w R9 b op xs → BookS PG w R9 oTx' oAn' oFu oFn xs FK 300 → FA <+: xs → Q (.ref op) { s with heap := h', toks := tk' }) :
  wpAny (model PySem.Challenge.rw_ok0024_01.row.prog w) (ktrTop dp un gd cn cs L a ccd cl outer) (call (.ref 287) [.ref b]) Q E s := by
  have hm : (rd, oR) ∈ r4 := P5.sub _ (.head _)
  have hr : ∀ p ∈ rest, p ∈ r4 := fun p hp => P5.sub _ (.tail _ hp)
  refine optab_spec B F X T hk hd hu (pull4 N P1 P2 P3 P4) (R0.mono (fun p hp => hr p (hs p hp)) o1 o2 o3 o4) S0 (fun p hp => hr p (hs0 p hp)) fun op opd pre inf pos v1 v2 v3 v4 oTx' oAn' oPre oInf oPos xs tl h' tk' A F' N' R' m1 m2 m3 m4 dp l1 l2 S' hx O => ?_
  have hA : Above rest tl := fun q hq p hp => A q (.tail _ (.tail _ (.tail _ (.tail _ (hr q hq))))) p hp
  have q1 : ∀ p ∈ rest ++ tl, p.1 ≠ tx := List.forall_mem_append.mpr ⟨fun p hp => o1 p (hr p hp), A.off (.head _)⟩
  have q2 : ∀ p ∈ rest ++ tl, p.1 ≠ an := List.forall_mem_append.mpr ⟨fun p hp => o2 p (hr p hp), A.off (.tail _ (.head _))⟩
  have q3 : ∀ p ∈ rest ++ tl, p.1 ≠ fu := List.forall_mem_append.mpr ⟨fun p hp => o3 p (hr p hp), A.off (.tail _ (.tail _ (.head _)))⟩
  have q4 : ∀ p ∈ rest ++ tl, p.1 ≠ fn := List.forall_mem_append.mpr ⟨fun p hp => o4 p (hr p hp), A.off (.tail _ (.tail _ (.tail _ (.head _))))⟩
  have q5 : ∀ p ∈ rest ++ tl, p.1 ≠ rd := List.forall_mem_append.mpr ⟨o5, A.off (.tail _ (.tail _ (.tail _ (.tail _ hm))))⟩
  refine hret (rest ++ tl) (fun p hp => List.mem_append_left _ hp) q1 q2 q3 q4 q5 (o1 _ hm) (o2 _ hm) (o3 _ hm) (o4 _ hm) op oTx' oAn' xs h' tk' F' (cb_drop N' ?_) (R0.mono (fun p hp => List.mem_append_left _ (hs p hp)) q1 q2 q3 q4) ⟨opd, pre, inf, pos, v1, v2, v3, v4, oPre, oInf, oPos, 131, List.mem_append_right _ m1, List.mem_append_right _ m2, List.mem_append_right _ m3, List.mem_append_right _ m4, O, dp, l1, l2⟩ (S'.mono fun p hp => List.mem_append_left _ (hs0 p hp)) hx
  intro p hp
  simp only [List.mem_cons, List.mem_append] at hp ⊢
  rcases hp with h | h | h | h | h | h | h
  · simp [h]
  · simp [h]
  · simp [h]
  · simp [h]
  · rw [h]; simp [hm]
  · simp [hr p h]
  · simp [h]
theorem side_use (B : Below A₀ base outer h₀) (F : Fr h₀ L s.heap m) (X : (Mine.kk.heap_1 w.params).In h₀) (T : Top p loose mean mg mb h₀) (hk : cs.kind = .function) (hd : dp + 30 < recursionLimit) (hu : un + 400 < cLine) (R0 : BookR w restR b bd tx an fu fn t1 t2 t3 t4) (S0 : BookS PG w rest0 oTx oAn oFu oFn xs fs K) (hR : RowSt w oR ce cits.length) (hc : Cells cits) (hn : Nums nits) (N : News h₀ L s.heap led) (P1 : Pull tx oTx led r1) (P2 : Pull an oAn r1 r2) (P3 : Pull fu oFu r2 r3) (P4 : Pull fn oFn r3 r4) (P5 : Pull rd oR r4 rest) (hce : (ce, listOf cits.toArray cc) ∈ rest) (hna : (na, listOf nits.toArray nn) ∈ rest) (hs : ∀ p ∈ restR, p ∈ rest) (hs0 : ∀ p ∈ rest0, p ∈ rest) (o1 : ∀ p ∈ rest, p.1 ≠ tx) (o2 : ∀ p ∈ rest, p.1 ≠ an) (o3 : ∀ p ∈ rest, p.1 ≠ fu) (o4 : ∀ p ∈ rest, p.1 ≠ fn) (o5 : ∀ p ∈ rest, p.1 ≠ rd) (hz : K ≤ 80000) (e1 : @Ne Nat rd tx) (e2 : @Ne Nat rd an) (e3 : @Ne Nat rd fu) (e4 : @Ne Nat rd fn)
  (hret : ∀ ta oTx' oAn' oFu' oFn' oR' xs' fs' tl v d t c h' tk', xs <+: xs' → fs <+: fs' → Above ((tx, oTx) :: (an, oAn) :: (fu, oFu) :: (fn, oFn) :: (rd, oR) :: rest) tl → Fr h₀ L h' m → News h₀ L h' ((tx, oTx') :: (an, oAn') :: (fu, oFu') :: (fn, oFn') :: (rd, oR') :: (rest ++ tl)) → BookS PG w (rest0 ++ tl) oTx' oAn' oFu' oFn' xs' fs' (K + 3) → RowSt w oR' ce cits.length → (ta, tupO [v, .str (spell d) t] c) ∈ tl → TmIn tl xs' fs' v d → OkE d → Q (.ref ta) { s with heap := h', toks := tk' }) :
  wpAny (model PySem.Challenge.rw_ok0024_01.row.prog w) (ktrTop dp un gd cn cs L a ccd cl outer) (call (.ref 510) [.ref rd, .ref b, .ref na]) Q E s := by
  refine law_side_spec B F X T hk hd hu (P5.news (pre := [_, _, _, _]) (pull4 N P1 P2 P3 P4)) (R0.mono hs o1 o2 o3 o4) S0 hs0 hz hR hce hc hna hn e1 e2 e3 e4 o5 fun ta h' tk' F' D => ?_
  obtain ⟨oTx', oAn', oFu', oFn', oR', xs', fs', tl, v, d, t, c, a1, a2, a3, a4, a5, a6, a7, a8, a9⟩ := D
  exact hret ta oTx' oAn' oFu' oFn' oR' xs' fs' tl v d t c h' tk' a1 a2 a3 F' a4 a5 a6 a7 a8 a9
end
theorem comp_side {h₀ h' : Heap} {L I C D tx an fu fn rd : Addr} {m : Str → Option Value} {s₁ : Shared} {oI oC oD oTx oAn oFu oFn oR oTx' oAn' oFu' oFn' oR' : Obj} {R tl : List (Addr × Obj)} {rest : Value → List (Addr × Obj) → Prop} {y : Value} {tk : Nat}
    (off : LCg.Off3 I C D ((tx, oTx) :: (an, oAn) :: (fu, oFu) :: (fn, oFn) :: (rd, oR) :: R)) (hA : Above ((tx, oTx) :: (an, oAn) :: (fu, oFu) :: (fn, oFn) :: (rd, oR) :: (I, oI) :: (C, oC) :: (D, oD) :: R) tl) (F : Fr h₀ L h' m) (N : News h₀ L h' ((tx, oTx') :: (an, oAn') :: (fu, oFu') :: (fn, oFn') :: (rd, oR') :: (I, oI) :: (C, oC) :: (D, oD) :: (R ++ tl))) (r : rest y ((tx, oTx') :: (an, oAn') :: (fu, oFu') :: (fn, oFn') :: (rd, oR') :: (R ++ tl))) :
    LCg.CompEnd h₀ L m s₁ I oI C oC D oD (fun _ => True) rest y { s₁ with heap := h', toks := tk } := by
  refine LCg.CompEnd.intro F N _ ?_ ?_ trivial r
  · intro p hp
    simp only [List.mem_cons, List.mem_append] at hp ⊢
    rcases hp with h | h | h | h | h | h | h | h | h | h <;> simp [h]
  · obtain ⟨q1, q2, q3, q4, q5, q⟩ := off
    refine ⟨q1, q2, q3, q4, q5, LCg.Off3.of (List.forall_mem_append.mpr ⟨q.mem, fun p hp => ⟨?_, ?_, ?_⟩⟩)⟩
    · exact hA.off (o := oI) (by simp) p hp
    · exact hA.off (o := oC) (by simp) p hp
    · exact hA.off (o := oD) (by simp) p hp
end
section
theorem row_start {w : World} {o : Obj} {ce : Addr} {its : List Value} {t1 t2 t3 u1 u2 : Tok} {sd : Int} (_hc : Cells its) (hd : o.IsDictOf (PySem.strKind PG w) (strPairs [(.str (Str.ofString "cells") t1, .ref ce), (.str (Str.ofString "at") t2, .int 0 u1), (.str (Str.ofString "seed") t3, .int sd u2)])) (h0 : 0 ≤ sd) (h1 : sd < 941) : RowSt w o ce its.length :=
  ⟨0, u1, sd, u2, hd, Nat.zero_le _, h0, h1⟩
noncomputable def JnAt (w : World) (h₀ : Heap) (L : Addr) (m₀ : Str → Option Value) (y : Str) (k : Int) (rd ce : Addr) (rest : List (Addr × Obj)) (len : Nat) (s : Shared) (f : Flow) (s' : Shared) : Prop :=
  f = .next ∧ ∃ h tk oR' r t, s' = { s with heap := h, toks := tk } ∧ Fr h₀ L h (fun z => if z = y then some (.int r t) else m₀ z) ∧ News h₀ L h ((rd, oR') :: rest) ∧ RowSt w oR' ce len ∧ (r = 1 ∨ r = k)
section
variable {prog : Program} {w : World} {A : Around} {E : Value → Shared → Prop} {s : Shared} {env : Env} {h₀ h : Heap} {L rd ce : Addr} {m₀ : Str → Option Value} {led rest : List (Addr × Obj)} {oR oR' : Obj} {len tk : Nat} {k : Int} {y : Str} {t₀ t : Tok} {test : PySem.Expr} {body : List Stmt} {pos : Pos} {Q : Flow → Shared → Prop}
theorem if_join (_F : Fr h₀ L s.heap m₀) (_N : News h₀ L s.heap led) (_hR : RowSt w oR ce len) (_P : Pull rd oR led rest) (_hold : m₀ y = some (.int k t₀))
    (first : wpAny (model prog w) A (isTrue test env (eval test env)) (fun b s₂ => if b then wpAny (model prog w) A (execs body env) (JnAt w h₀ L m₀ y k rd ce rest len s) E s₂ else wpAny (model prog w) A (execs [] env) (JnAt w h₀ L m₀ y k rd ce rest len s) E s₂) E s)
    (next : ∀ h tk oR' r t, (r = 1 ∨ r = k) → Fr h₀ L h (fun z => if z = y then some (.int r t) else m₀ z) → News h₀ L h ((rd, oR') :: rest) → RowSt w oR' ce len → Q .next { s with heap := h, toks := tk }) :
    wpAny (model prog w) A (exec (.If test body [] pos) env) Q E s :=
  wpAny_mono (wpAny_If first) (fun f s' h => by
    obtain ⟨e, h, tk, oR', r, t, es, F', N', R', hr⟩ := h
    subst e es
    exact next h tk oR' r t hr F' N' R') fun _ _ e => e
theorem jn_set (F : Fr h₀ L h (fun z => if z = y then some (.int 1 t) else m₀ z)) (N : News h₀ L h ((rd, oR') :: rest)) (R : RowSt w oR' ce len) : JnAt w h₀ L m₀ y k rd ce rest len s .next { s with heap := h, toks := tk } :=
  ⟨rfl, h, tk, oR', 1, t, rfl, F, N, R, .inl rfl⟩
theorem jn_not (hold : m₀ y = some (.int k t₀)) (F : Fr h₀ L h m₀) (N : News h₀ L h ((rd, oR') :: rest)) (R : RowSt w oR' ce len) : JnAt w h₀ L m₀ y k rd ce rest len s .next { s with heap := h, toks := tk } := by
  refine ⟨rfl, h, tk, oR', k, t₀, rfl, ?_, N, R, .inr rfl⟩
  have e : (fun z => if z = y then some (Value.int k t₀) else m₀ z) = m₀ := by
    funext z
    by_cases hz : z = y
    · rw [if_pos hz, hz, hold]
    · rw [if_neg hz]
  rw [e]; exact F
end
section
variable {led : List (Addr × Obj)} {xs : List Str} {fs : List (List Int)} {fa fga : Addr} {i j : Nat} {v v1 v2 v3 : Value} {u3 u4 : Tok} {c3 c4 : Nat} {x : Str} {d d1 d2 d3 : Tm}
theorem fm_one (h1 : (fa, tupO [.str (Str.ofString "s") u3, .int i u4, .ref fga] c3) ∈ led) (h2 : (fga, tupO [v] c4) ∈ led) (h3 : xs[j]? = some x) (h4 : fs[i]? = some [((j : Nat) : Int), 1]) (h5 : TmIn led xs fs v d) : FmIn led xs fs (.ref fa) (.one x d) := ⟨fa, fga, i, j, v, u3, u4, c3, c4, rfl, h1, h2, h3, h4, h5⟩
theorem fm_two (h1 : (fa, tupO [.str (Str.ofString "s") u3, .int i u4, .ref fga] c3) ∈ led) (h2 : (fga, tupO [v1, v2] c4) ∈ led) (h3 : xs[j]? = some x) (h4 : fs[i]? = some [((j : Nat) : Int), 2]) (h5 : TmIn led xs fs v1 d1) (h6 : TmIn led xs fs v2 d2) : FmIn led xs fs (.ref fa) (.two x d1 d2) := ⟨fa, fga, i, j, v1, v2, u3, u4, c3, c4, rfl, h1, h2, h3, h4, h5, h6⟩
theorem fm_three (h1 : (fa, tupO [.str (Str.ofString "s") u3, .int i u4, .ref fga] c3) ∈ led) (h2 : (fga, tupO [v1, v2, v3] c4) ∈ led) (h3 : xs[j]? = some x) (h4 : fs[i]? = some [((j : Nat) : Int), 3]) (h5 : TmIn led xs fs v1 d1) (h6 : TmIn led xs fs v2 d2) (h7 : TmIn led xs fs v3 d3) : FmIn led xs fs (.ref fa) (.three x d1 d2 d3) := ⟨fa, fga, i, j, v1, v2, v3, u3, u4, c3, c4, rfl, h1, h2, h3, h4, h5, h6, h7⟩
theorem fmG1 (h1 : NM10 x) (h2 : OkE d) : FmG (.one x d) := ⟨h1, h2⟩
theorem fmG2 (h1 : NM3 x) (h2 : OkE d1) (h3 : OkE d2) : FmG (.two x d1 d2) := ⟨h1, h2, h3⟩
theorem fmG3 (h1 : x = Str.ofString "permission_error") (h2 : OkE d1) (h3 : OkE d2) (h4 : OkE d3) : FmG (.three x d1 d2 d3) := ⟨h1, h2, h3, h4⟩
theorem oke_len (h : OkE d) : (spell d).length ≤ 40000 := Nat.le_trans h.2.2 (by decide)
end
theorem nm10_of {x : Str} (h : x ∈ [Str.ofString "type_error", Str.ofString "domain_error", Str.ofString "existence_error", Str.ofString "permission_error", Str.ofString "representation_error", Str.ofString "evaluation_error", Str.ofString "resource_error", Str.ofString "syntax_error", Str.ofString "instantiation_error", Str.ofString "zork"]) : NM10 x := by
  simp only [List.mem_cons, List.not_mem_nil, or_false] at h
  exact h
theorem at_ok {x : Str} (h : x ∈ [Str.ofString "instantiation_error", Str.ofString "type_error", Str.ofString "odd"]) : OkD (.A x) ∧ spellB x = x := by
  simp only [List.mem_cons, List.not_mem_nil, or_false] at h
  rcases h with rfl | rfl | rfl
  · exact ⟨⟨⟨Or.inl (by decide +kernel), by decide⟩, by decide, by decide +kernel⟩, by decide +kernel⟩
  · exact ⟨⟨⟨Or.inl (by decide +kernel), by decide⟩, by decide, by decide +kernel⟩, by decide +kernel⟩
  · exact ⟨⟨⟨Or.inl (by decide +kernel), by decide⟩, by decide, by decide +kernel⟩, by decide +kernel⟩
theorem Many.one {x : Str} {k r : Int} (h : Many x k) (hr : r = 1 ∨ r = k) (hx : NM10 x) : Many x r := by
  rcases hr with rfl | rfl
  · exact .inl ⟨rfl, hx⟩
  · exact h
end
section
section
variable {prog : Program} {w : World} {A : Around} {E : Value → Shared → Prop} {s : Shared} {h₀ : Heap} {L D b : Addr} {m : Str → Option Value} {news rest : List (Addr × Obj)} {its its2 : List Value} {n n2 : Nat}
theorem c_iadd_list {Q : Value → Shared → Prop} (F : Fr h₀ L s.heap m) (N : News h₀ L s.heap news) (P : Pull D (listOf its.toArray n) news rest) (o : ∀ p ∈ rest, p.1 ≠ D) (hb : (b, listOf its2.toArray n2) ∈ news) (hz : its.length + its2.length ≤ 1000) (hne : 0 < its2.length)
    (h : ∀ h', Fr h₀ L h' m → News h₀ L h' ((D, listOf (its ++ its2).toArray (n + 1)) :: rest) → Q (.ref D) { s with heap := h' }) : wpAny (model prog w) A (inplaceOp .Add (.ref D) (.ref b)) Q E s := by
  have N1 := P.news (pre := []) N
  have z := N1 (D, listOf its.toArray n) (.head _)
  have zb := N _ hb
  have ta : s.TypeIs (.ref D) "list" := ⟨_, z.1, rfl⟩
  have tb : s.TypeIs (.ref b) "list" := ⟨_, zb.1, rfl⟩
  have hi : typeLookup (.type "list") (dunderI "add") = pure (some (.builtin "list.__iadd__")) := PySem.F.slot_list_iadd.lookup
  have hfi : fillsInplaceSlot (.type "list") "add" (Operator.Add == .Add) = pure false := by
    unfold fillsInplaceSlot
    show (typeLookup (.type "list") (dunderI "add") >>= fun fi => pure (fi.isSome && !isSeqSlot fi)) = pure false
    rw [hi, pure_bind]
    exact congrArg pure (by decide +kernel)
  have hsi : seqSlot? (.type "list") (dunderI "add") = pure (some (.builtin "list.__iadd__")) := PySem.seqSlot_of hi (by decide +kernel)
  unfold inplaceOp
  refine wpAny_holding ?_
  refine wpAny_bind (wpAny_typeOf ta (wpAny_bind (wpAny_of_eq hfi ?_)))
  show wpAny _ A (if false = true then _ else _) Q E s
  rw [if_neg Bool.false_ne_true]
  refine wpAny_bind (wpAny_binaryOp1_none (nm := "add") ta tb noFill_list_add ?_)
  refine wpAny_bind (wpAny_of_eq hsi ?_)
  refine wpAny_bind (wpAny_rule ?_)
  have e1 : its.toArray.size = its.length := List.size_toArray
  have e2 : its2.toArray.size = its2.length := List.size_toArray
  refine call_meets PySem.F.slot_list_iadd ta PySem.F.entry_list_iadd (PySem.F.args_list_iadd_2 _ _) (PySem.AutoSeq1.list___iadd___list_list_0 D its.toArray n b its2.toArray n2 ?_ (by rw [e1, sizeLine_eq]; omega) (by rw [e1, e2, sizeLine_eq]; omega)) ⟨z.1, zb.1, ?_⟩
  · have : Builtin.List.listTooLong (its.toArray.size + its2.toArray.size) = false := by
      rw [e1, e2]
      exact decide_eq_false (by rw [sizeLine_eq]; omega)
    rw [this, Bool.and_false]; exact Bool.false_ne_true
  · exact h _ (F.change (Heap.SameBut.update ..) z.2.1 z.2.2) (kl_turn (pre := []) (fun x => x ++ its2.toArray) N1 (fun _ hp => nomatch hp) o (by simp) (by simp only [List.size_toArray, List.length_append]; exact fun e => Nat.ne_of_gt hne (by omega)))
end
section
variable {w : World} {p : Program} {loose : List Str} {mean : ExcName → Option Value} {mg mb : Str → Option Value} {dp un : Nat} {gd : Option (List Code)} {cn : Str} {cs : Scope} {a : Addr} {ccd : Value} {cl : List (Str × Addr)} {outer : List Env} {A₀ : Around} {base h₀ : Heap} {L : Addr} {m : Str → Option Value} {s : Shared} {Q E : Value → Shared → Prop} {news rest : List (Addr × Obj)}
variable {op b : Addr} {xs : List Str} {fs : List (List Int)} {led : List (Addr × Obj)}
theorem err_name {x : Str} {i : Nat} {ta ga fa : Addr} {cv : Value} {u1 u2 u3 u4 : Tok} {c1 c2 c3 : Nat} (B : Below A₀ base outer h₀) (F : Fr h₀ L s.heap m) (X : (Mine.kk.heap_1 w.params).In h₀) (T : Top p loose mean mg mb h₀) (hk : cs.kind = .function) (hd : dp + 80 < recursionLimit) (hu : un + 999 < cLine) (N : News h₀ L s.heap led) (V : PEnv w led b op xs fs) (ht : (ta, tupO [.str (Str.ofString "s") u1, .int 16 u2, .ref ga] c1) ∈ led) (hg : (ga, tupO [.ref fa, cv] c2) ∈ led) (hfa : (fa, tupO [.str (Str.ofString "a") u3, .int i u4] c3) ∈ led) (hx : xs[i]? = some x) (h3 : x ∈ [Str.ofString "instantiation_error", Str.ofString "type_error", Str.ofString "odd"])
  (hret : ∀ t h' tk', Fr h₀ L h' m → News h₀ L h' led → Q (.str (if (x == Str.ofString "instantiation_error") = true then Str.ofString "an argument is not instantiated enough" else Str.ofString "error: " ++ x) t) { s with heap := h', toks := tk' }) :
  wpAny (model PySem.Challenge.rw_ok0024_01.row.prog w) (ktrTop dp un gd cn cs L a ccd cl outer) (call (.ref 491) [.ref b, .ref op, .ref ta]) Q E s :=
  err_atom B F X T hk hd hu N V ht hg hfa hx (at_ok h3).1 (by rw [(at_ok h3).2]; exact hret)
end
theorem canon_at {G : Prop} {w : World} {h₀ h : Heap} {L b bd tx an fu fn rd ce : Addr} {t1 t2 t3 t4 : Tok} {oTx oAn oFu oFn oR : Obj} {led R9 R8 : List (Addr × Obj)} {xs : List Str} {fs : List (List Int)} {K len : Nat} (N : News h₀ L h led) (_R : BookR w R9 b bd tx an fu fn t1 t2 t3 t4) (_S : BookS PG w R8 oTx oAn oFu oFn xs fs K) (_hR : RowSt w oR ce len) (m1 : (tx, oTx) ∈ led) (m2 : (an, oAn) ∈ led) (m3 : (fu, oFu) ∈ led) (m4 : (fn, oFn) ∈ led) (m5 : (rd, oR) ∈ led) (m6 : ∀ p ∈ R9, p ∈ led) (h : News h₀ L h ((tx, oTx) :: (an, oAn) :: (fu, oFu) :: (fn, oFn) :: (rd, oR) :: R9) → G) : G :=
  h (cb_drop N (List.forall_mem_cons.mpr ⟨m1, List.forall_mem_cons.mpr ⟨m2, List.forall_mem_cons.mpr ⟨m3, List.forall_mem_cons.mpr ⟨m4, List.forall_mem_cons.mpr ⟨m5, m6⟩⟩⟩⟩⟩))
theorem comp_list {h₀ h' : Heap} {L I C D ax : Addr} {m : Str → Option Value} {s₁ : Shared} {oI oC oD : Obj} {its : Array Value} {n : Nat} {nw : List (Addr × Obj)} {rest : Value → List (Addr × Obj) → Prop} {y : Value} {tk : Nat} (F : Fr h₀ L h' m) (N : News h₀ L h' ((I, oI) :: (C, oC) :: (D, oD) :: nw)) (off : LCg.Off3 I C D nw) (hm : (ax, listOf its n) ∈ nw) (r : rest y nw) : LCg.CompEnd h₀ L m s₁ I oI C oC D oD (LCg.SrcAt h₀ ax its) rest y { s₁ with heap := h', toks := tk } :=
  LCg.CompEnd.intro F N nw (fun _ hp => hp) off (Or.inr ⟨_, hm, rfl, _, rfl⟩) r
theorem Many.split {G : Prop} {x : Str} {k : Int} (h : Many x k) (h1 : k = 1 → NM10 x → G) (h2 : k = 2 → NM3 x → G) (h3 : k = 3 → x = Str.ofString "permission_error" → G) : G := by
  rcases h with ⟨a, b⟩ | ⟨a, b⟩ | ⟨a, b⟩
  · exact h1 a b
  · exact h2 a b
  · exact h3 a b
theorem off_cons {I C D x : Addr} {oI oC oD ox : Obj} {news R : List (Addr × Obj)} (off : LCg.Off3 I C D news) (hm : (x, ox) ∈ news) (h : ∀ p ∈ R, p.1 ≠ x) : ∀ p ∈ (I, oI) :: (C, oC) :: (D, oD) :: R, p.1 ≠ x :=
  have q := off.mem _ hm
  List.forall_mem_cons.mpr ⟨q.1.symm, List.forall_mem_cons.mpr ⟨q.2.1.symm, List.forall_mem_cons.mpr ⟨q.2.2.symm, h⟩⟩⟩
theorem off1_mem {D : Addr} : ∀ {l : List (Addr × Obj)}, LCg.Off1 D l → ∀ p ∈ l, p.1 ≠ D
  | [], _, _, h => nomatch h
  | _ :: _, x, p, h => by
    rcases List.mem_cons.mp h with rfl | h
    · exact x.1
    · exact off1_mem x.2 p h
theorem off1_ne {D x : Addr} {ox : Obj} {news : List (Addr × Obj)} (off : LCg.Off1 D news) (hm : (x, ox) ∈ news) : D ≠ x := (off1_mem off _ hm).symm
section
variable {prog : Program} {w : World} {A : Around} {E : Value → Shared → Prop} {s : Shared} {h₀ : Heap} {L ta : Addr} {led : List (Addr × Obj)} {c : Nat} {v v0 : Value} {u : Tok} {Q : Value → Shared → Prop} {value slice : PySem.Expr}
theorem c_tup0 (N : News h₀ L s.heap led) (hm : (ta, tupO [v, v0] c) ∈ led) (h : Q v s)
    (hs : subscripted slice false (.ref ta) (.int 0 u) = operate [.ref ta, .int 0 u] (getItem (.ref ta) (.int 0 u)) := by with_unfolding_all rfl) : wpAny (model prog w) A (subscriptTail value slice (.ref ta) (.int 0 u)) Q E s :=
  have ht : IsTup s.heap ta [v, v0].toArray := News.isTup N hm
  tail_any ht.typeIs slot_tuple_getitem.lookup (getItem_tuple (j := 0) ht (by decide) (by decide) (by rfl) (by rfl) h) hs
theorem c_tup1 (N : News h₀ L s.heap led) (hm : (ta, tupO [v0, v] c) ∈ led) (h : Q v s)
    (hs : subscripted slice false (.ref ta) (.int 1 u) = operate [.ref ta, .int 1 u] (getItem (.ref ta) (.int 1 u)) := by with_unfolding_all rfl) : wpAny (model prog w) A (subscriptTail value slice (.ref ta) (.int 1 u)) Q E s :=
  have ht : IsTup s.heap ta [v0, v].toArray := News.isTup N hm
  tail_any ht.typeIs slot_tuple_getitem.lookup (getItem_tuple (j := 1) ht (by decide) (by decide) (by rfl) (by rfl) h) hs
end
end
example : True := by k_with_none; exact trivial
end
section
local macro_rules | `(tactic| k_lt $h:ident) => `(tactic| skip)
local macro_rules | `(tactic| k_room) => `(tactic| k_extra "x_k_room")
example : True := by (k_with "x_k_room" => ((try simp (config := {zetaDelta := true}) only [depth_under_make, depth_under_kw, depth_in1, depth_deeper, depth_caller]); (try dsimp only [ktrTop]); (first | (refine' rm0 ?ha_q166; (case ha_q166 => assumption)) | (refine' rm1 ?ha_q166 ?hb_q166; (case ha_q166 => assumption); (case hb_q166 => exact rfl)) | (refine' rm2 ?ha_q166 ?hb_q166; (case ha_q166 => assumption); (case hb_q166 => exact rfl)) | (refine' rm3 ?ha_q166 ?hb_q166; (case ha_q166 => assumption); (case hb_q166 => exact rfl)) | (refine' rm4 ?ha_q166 ?hb_q166; (case ha_q166 => assumption); (case hb_q166 => exact rfl)) | omega))); exact trivial
local macro_rules | `(tactic| ktr_room) => `(tactic| k_room)
local macro_rules | `(tactic| ktr_units) => `(tactic| k_extra "x_ktr_units")
example : True := by (k_with "x_ktr_units" => ((try simp (config := {zetaDelta := true}) only [units_under_make, units_in1, units_deeper, Around.mark_units, units_caller]); (try dsimp only [ktrTop]); (first | (refine' rm0 ?ha_q167; (case ha_q167 => assumption)) | (refine' rm1 ?ha_q167 ?hb_q167; (case ha_q167 => assumption); (case hb_q167 => exact rfl)) | (refine' rm2 ?ha_q167 ?hb_q167; (case ha_q167 => assumption); (case hb_q167 => exact rfl)) | (refine' rm3 ?ha_q167 ?hb_q167; (case ha_q167 => assumption); (case hb_q167 => exact rfl)) | (refine' rm4 ?ha_q167 ?hb_q167; (case ha_q167 => assumption); (case hb_q167 => exact rfl)) | omega))); exact trivial
local macro_rules | `(tactic| walk_at $s:str) => `(tactic| k_extra $s)
example : True := by (k_with "execs cons" => (k_here; (with_reducible refine sq_tok ?_); intro tk')); exact trivial
example : True := by (k_with "subscriptTail Name Constant ref int" => (k_here; (with_reducible show wpAny _ _ (subscriptTail _ _ (Value.ref _) (Value.int _ _)) _ _ _); k_dflt (first | (refine' item_tupleT ?t_q169 ?a_q169 ?b_q169 ?c_q169 ?d_q169 ?_; (case t_q169 => (refine' News.isTup ?t1_q169 ?t2_q169; (case t1_q169 => k_asm); (case t2_q169 => k_mem))); (case a_q169 => decide); (case b_q169 => decide); (case c_q169 => rfl); (case d_q169 => rfl); k_whole) | (refine' c_item_lit ?N_q169 ?m_q169 ?a2_q169 ?b2_q169 ?d2_q169 ?_; (case N_q169 => k_asm); (case m_q169 => k_mem); (case a2_q169 => decide); (case b2_q169 => decide); (case d2_q169 => rfl); k_whole)))); exact trivial
example : True := by (k_with "eval Call Name" => (k_here; with_unfolding_all refine Call_ ?_)); exact trivial
local macro_rules | `(tactic| lcg_off) => `(tactic| k_extra "x_lcg_off")
example : True := by (k_with "x_lcg_off" => first | exact List.mem_cons_self | (refine' List.mem_cons_of_mem _ ?_; lcg_off) | (refine' List.mem_append_left _ ?_; lcg_off) | (refine' List.mem_append_right _ ?_; lcg_off) | assumption); exact trivial
local macro_rules | `(tactic| k_mem) => `(tactic| lcg_off)
local macro_rules | `(tactic| lcg_sub) => `(tactic| k_extra "x_lcg_sub")
example : True := by (k_with "x_lcg_sub" => first | assumption | (refine' off1_ne ?oo_q172 ?om_q172; (case oo_q172 => assumption); (case om_q172 => lcg_off)) | (refine' alt_ne1 ?lh_q172 ?lm_q172; (case lh_q172 => assumption); (case lm_q172 => lcg_off)) | (refine' alt_ne2 ?lh_q172 ?lm_q172; (case lh_q172 => assumption); (case lm_q172 => lcg_off)) | (refine' Ne.symm ?_; assumption) | (refine neN ?_; refine' Ne.symm ?_; assumption) | (refine neN ?_; (try dsimp only); omega) | (refine neN ?_; (try dsimp only); (simp only [List.forall_mem_cons] at *); omega)); exact trivial
local macro_rules | `(tactic| k_ne) => `(tactic| lcg_sub)
local macro_rules | `(tactic| lcg_src) => `(tactic| k_extra "x_lcg_src")
example : True := by (k_with "x_lcg_src" => first | assumption | (refine' off_cons ?oo_q173 ?om_q173 ?or_q173; (case oo_q173 => assumption); (case om_q173 => lcg_off); (case or_q173 => lcg_src)) | exact List.forall_mem_nil _ | (refine' List.forall_mem_append.mpr ⟨?_, ?_⟩; (focus lcg_src); lcg_src) | (refine' List.forall_mem_cons.mpr ⟨?_, ?_⟩; (focus lcg_sub); lcg_src) | exact allNeP (by assumption) | (refine' Above.off ?hA_q173 ?hM_q173; (case hA_q173 => assumption); (case hM_q173 => lcg_off)) | (refine' alt_all ?lh_q173 ?ls_q173; (case lh_q173 => assumption); (case ls_q173 => k_allIn)) | exact allNe0 (by assumption) | exact allNe1 (by assumption) | exact allNe2 (by assumption) | exact allNe3 (by assumption) | exact allNe4 (by assumption) | exact allNe5 (by assumption) | exact allNe6 (by assumption) | exact allNe7 (by assumption) | exact allNe8 (by assumption)); exact trivial
local macro_rules | `(tactic| k_all) => `(tactic| lcg_src)
local macro_rules | `(tactic| k_allIn) => `(tactic| k_extra "x_k_allIn")
example : True := by (k_with "x_k_allIn" => first | assumption | exact List.prefix_rfl | (refine' List.IsPrefix.trans ?a9_q174 ?b9_q174; (case b9_q174 => first | assumption | exact addA_pre2 _ _ | exact addF_pre2 _ _); (case a9_q174 => k_allIn)) | (intro p9 h9; lcg_off) | (refine' List.forall_mem_append.mpr ⟨?_, ?_⟩; (focus k_allIn); k_allIn) | (refine' List.forall_mem_cons.mpr ⟨?_, ?_⟩; (focus lcg_off); k_allIn)); exact trivial
local macro_rules | `(tactic| k_upd) => `(tactic| k_extra "x_k_upd")
example : True := by (k_with "x_k_upd" => first | exact Pull.head | (refine' Pull.tail ?b_q175; (case b_q175 => k_upd)) | (refine' Pull.under _ ?b_q175; (case b_q175 => k_upd))); exact trivial
local macro_rules | `(tactic| k_enter) => `(tactic| k_extra "x_k_enter")
example : True := by (k_with "x_k_enter" => first | ktr_enter | (refine' code_def ?k1_q176 ?k2_q176 ?k3_q176 ?k4_q176 ?k5_q176 ?kA_q176 ?kF_q176 ?kK_q176 ?k6_q176 ?k7_q176 ?k8_q176 ?k9_q176 ?kB_q176 ?_ ?c2_q176 ?c3_q176 ?c4_q176 ?c5_q176; (case kA_q176 => exact rfl); (case kF_q176 => exact rfl); (case kK_q176 => first | exact rfl | assumption); (case k1_q176 => k_asm); (case k2_q176 => k_asm); (case k3_q176 => k_asm); (case k4_q176 => k_asm); (case k5_q176 => k_asm); (case k6_q176 => k_is); (case k7_q176 => k_is); (case k8_q176 => ktr_room); (case k9_q176 => exact binds_K (by k_in) rfl (by k_is) rfl rfl rfl); (case c5_q176 => decide); (case kB_q176 => exact locs rfl); (case c2_q176 => exact rfl); (case c3_q176 => exact rfl); (case c4_q176 => exact rfl); k_whole; intro g' L' h' FG' F' N' B' X' T'; (try dsimp only); (try k_fold))); exact trivial
section
section
theorem c_item_last {prog : Program} {w : World} {A : Around} {E : Value → Shared → Prop} {s : Shared} {h₀ : Heap} {L l : Addr} {news : List (Addr × Obj)} {its : List Value} {n : Nat} {v : Value} {u : Tok} {Q : Value → Shared → Prop} {value slice : PySem.Expr} (N : News h₀ L s.heap news) (hm : (l, listOf (its.toArray.push v) n) ∈ news) (h : Q v s)
    (hs : subscripted slice false (.ref l) (.int (-1) u) = operate [.ref l, .int (-1) u] (getItem (.ref l) (.int (-1) u)) := by with_unfolding_all rfl) :
    wpAny (model prog w) A (subscriptTail value slice (.ref l) (.int (-1) u)) Q E s := by
  have hL : s.heap.IsList l (its.toArray.push v) := News.isList N hm
  have hz : (its.toArray.push v).size = its.length + 1 := by simp
  exact tail_any hL.typeIs slot_list_getitem.lookup (wpAny_getItem_list_neg hL (by decide) (by rw [hz]; omega) (by decide) (by rw [hz, show (-1 + ((its.length + 1 : Nat) : Int)).toNat = its.length by omega]; simp) h) hs
example : True := by (k_with "subscriptTail" => (k_here; (with_reducible show wpAny _ _ (subscriptTail _ _ (Value.ref _) (Value.int (-1) _)) _ _ _); k_dflt (refine' c_item_last ?N_q177 ?m_q177 ?_; (case N_q177 => k_asm); (case m_q177 => k_mem); k_whole))); (k_with "subscriptTail Name Constant ref int" => (k_here; (with_reducible show wpAny _ _ (subscriptTail _ _ (Value.ref _) (Value.int (-1) _)) _ _ _); k_dflt (refine' c_item_last ?N_q177 ?m_q177 ?_; (case N_q177 => k_asm); (case m_q177 => k_mem); k_whole))); (k_with "subscriptTail Name" => (k_here; (with_reducible show wpAny _ _ (subscriptTail _ _ (Value.ref _) (Value.int (-1) _)) _ _ _); k_dflt (refine' c_item_last ?N_q177 ?m_q177 ?_; (case N_q177 => k_asm); (case m_q177 => k_mem); k_whole))); exact trivial
example : True := by (k_with "call ref" => (k_here; k_dflt (refine' symbols_use ?B_q178 ?F_q178 ?X_q178 ?T_q178 ?K_q178 ?d_q178 ?u_q178 ?N_q178 ?_; (case F_q178 => k_asm); (case B_q178 => k_asm); (case X_q178 => k_asm); (case T_q178 => k_asm); (case K_q178 => first | exact rfl | assumption); (case d_q178 => k_room); (case u_q178 => ktr_units); (case N_q178 => k_asm)); intro b' bd' tx' an' fu' fn' t1' t2' t3' t4' oTx' oAn' oFu' oFn' tl' h' tk' q1' q2' q3' q4' hA' F' N' R' S'; (try k_lt q1'); (try k_lt q2'); (try k_lt q3'); (try k_lt q4'); (have o1' := BookR.o1 R'); (have o2' := BookR.o2 R'); (have o3' := BookR.o3 R'); (have o4' := BookR.o4 R'); (try simp only [List.cons_append, List.nil_append] at N'); (try dsimp only at N'); (try k_sweep); walk_say "symbols_use")); exact trivial
example : True := by (k_with "call ref" => (k_here; k_dflt (refine' optab_use ?B_q179 ?F_q179 ?X_q179 ?T_q179 ?K_q179 ?d_q179 ?u_q179 ?hR_q179 ?R_q179 ?S_q179 ?N_q179 ?P1_q179 ?P2_q179 ?P3_q179 ?P4_q179 ?P5_q179 ?s_q179 ?s0_q179 ?o1_q179 ?o2_q179 ?o3_q179 ?o4_q179 ?o5_q179 ?_; (case F_q179 => k_asm); (case B_q179 => k_asm); (case X_q179 => k_asm); (case T_q179 => k_asm); (case K_q179 => first | exact rfl | assumption); (case d_q179 => k_room); (case u_q179 => ktr_units); (case hR_q179 => assumption); (case R_q179 => assumption); (case S_q179 => assumption); (case N_q179 => k_asm); (case P1_q179 => k_upd); (case P2_q179 => k_upd); (case P3_q179 => k_upd); (case P4_q179 => k_upd); (case P5_q179 => k_upd); (case s_q179 => k_allIn); (case s0_q179 => k_allIn); (case o1_q179 => k_all); (case o2_q179 => k_all); (case o3_q179 => k_all); (case o4_q179 => k_all); (case o5_q179 => k_all)); intro R9' e1' q1' q2' q3' q4' q5' n1' n2' n3' n4' op' oTx' oAn' xs' h' tk' F' N' R' O' S' hx'; (have hb' := BookR.hb R'); (have hbd' := BookR.hbd R'); (simp only [List.forall_mem_cons] at e1'); (obtain ⟨g1', g2', g3', g4', g5', g6'⟩ := e1'); (try k_sweep))); exact trivial
example : True := by (k_with "exec For Name Subscript cons nil" => (k_here; (rename Fr _ _ _ _ => lF'); (with_unfolding_all refine' For_invVF lF' ?k1_q180 ?k2_q180 ?_; (case k1_q180 => exact rfl); (case k2_q180 => exact rfl); k_whole))); exact trivial
example : True := by (k_with "pyIter ref" => (k_here; (rename Fr _ _ _ _ => lF'); (rename News _ _ _ _ => lN'); (with_unfolding_all refine' iter_law (x := Str.ofString "cell") (y := Str.ofString "seed") (by decide) (by rfl) lF' lN' ?hI_q181 ?hl_q181 ?e1_q181 ?e2_q181 ?o1_q181 ?m0_q181 (fun i' k' t' cits' nits' n1' n2' sd' u' own' h' tk' hi' hc' hn' hc30' hn33' hs0' hs1' p1' p2' p3' F' N' => ?_) (fun uu' cits' nits' n1' n2' sd' u' h' tk' hc' hn' hs0' hs1' F' N' => ?_)); (case hI_q181 => assumption); (case hl_q181 => omega); (case e1_q181 => k_ne); (case e2_q181 => k_ne); (case o1_q181 => k_all); (case m0_q181 => (with_unfolding_all exact rfl)); (try simp only [List.cons_append, List.nil_append] at N'); (all_goals (try clear lF' lN')); (all_goals (try k_fold)))); exact trivial
example : True := by (k_with "TbPost" => (dsimp only [TbPost])); exact trivial
theorem pow30 {x : Int} : 0 ≤ x.fmod (10 ^ Int.toNat 30) ∧ x.fmod (10 ^ Int.toNat 30) < 1000000000000000000000000000000 := by
  have e : (10 : Int) ^ Int.toNat 30 = 1000000000000000000000000000000 := by decide
  rw [e]; exact ⟨Int.fmod_nonneg_of_pos _ (by decide), Int.fmod_lt_of_pos _ (by decide)⟩
theorem fmod_in {x y : Int} (h : 0 < y) : 0 ≤ x.fmod y ∧ x.fmod y < y := ⟨Int.fmod_nonneg_of_pos _ h, Int.fmod_lt_of_pos _ h⟩
theorem law_end2 {x y : Str} {cl nl L : Addr} {m₀ m' : Str → Option Value} {h₀ : Heap} {rest own news' : List (Addr × Obj)} {i : Nat} {cits nits : List Value} {n1 n2 : Nat} {a1 a2 sd : Int} {b1 b2 u : Tok} {s₁ : Shared} {h' : Heap} {tk : Nat} (hc : CellsN i cits) (hn : NumsN i nits) (p1 : ∀ p ∈ own, p.1 ≠ cl) (p2 : ∀ p ∈ own, p.1 ≠ nl) (p3 : TbOff own rest) (F : Fr h₀ L h' m') (N : News h₀ L h' ((cl, listOf (cits.toArray.push (Value.int a1 b1)) n1) :: (nl, listOf (nits.toArray.push (Value.int a2 b2)) n2) :: news')) (hs : ∀ p ∈ rest ++ own, p ∈ news') (ha1 : 0 ≤ a1 ∧ a1 < 5040) (ha2 : 0 ≤ a2 ∧ a2 < 1000000000000000000000000000000) (hsd : 0 ≤ sd ∧ sd < 941) (hy : m' y = some (.int sd u)) (hm : ∀ z, z ≠ x → z ≠ y → m' z = m₀ z) :
    TbEnd h₀ L (LawJ x y cl nl m₀ rest (i + 1)) own s₁ { s₁ with heap := h', toks := tk } :=
  law_end hc hn p1 p2 p3 F (cb_drop N (fun p hp => by
    rcases List.mem_cons.mp hp with rfl | hp
    · exact .tail _ (.head _)
    rcases List.mem_cons.mp hp with rfl | hp
    · exact .head _
    · exact .tail _ (.tail _ hp))) hs ha1 ha2 hsd hy hm
example : True := by (k_with "TbEnd" => (refine' law_end2 ?hc_q183 ?hn_q183 ?p1_q183 ?p2_q183 ?p3_q183 ?F_q183 ?N_q183 ?hs_q183 ?a1_q183 ?a2_q183 ?sd_q183 ?hy_q183 ?hm_q183; (case hc_q183 => assumption); (case hn_q183 => assumption); (case p1_q183 => assumption); (case p2_q183 => assumption); (case p3_q183 => assumption); (case F_q183 => assumption); (case N_q183 => assumption); (case hs_q183 => exact fun p9 h9 => h9); (case a1_q183 => exact fmod_in (by decide)); (case a2_q183 => exact pow30); (case hy_q183 => with_unfolding_all exact rfl); (case sd_q183 => exact fmod_in (by decide)); (case hm_q183 => exact fun z9 h8 h9 => (if_neg h9).trans ((if_neg h8).trans (if_neg h9))))); exact trivial
example : True := by (k_with "Exists" => (k_here; (refine mk_str (by k_asm) (by k_asm) (Top.nolimit (by k_asm)) (by rfl) (of_decide_eq_true (by rfl)) ?_); intro h' o' F' N' l1 lo' hd'; (try k_lt l1); (try replace hd' := row_start (by assumption) hd' (by assumption) (by assumption)))); exact trivial
example : True := by (k_with "call ref" => (k_here; k_dflt (refine' draw_use ?B_q185 ?F_q185 ?X_q185 ?T_q185 ?K_q185 ?d_q185 ?u_q185 ?hm0_q185 ?hm1_q185 ?N_q185 ?hR_q185 ?h0_q185 ?P_q185 ?hcl_q185 ?o1_q185 ?hc_q185 ?_; (case F_q185 => k_asm); (case B_q185 => k_asm); (case X_q185 => k_asm); (case T_q185 => k_asm); (case K_q185 => first | exact rfl | assumption); (case d_q185 => k_room); (case u_q185 => ktr_units); (case hm0_q185 => omega); (case hm1_q185 => omega); (case N_q185 => k_asm); (case hR_q185 => assumption); (case h0_q185 => k_mem); (case P_q185 => k_upd); (case hcl_q185 => k_mem); (case o1_q185 => k_all); (case hc_q185 => assumption)); intro v' t' oR' h' tk' hv0' hv1' F' N' hR'; (try dsimp only at N'); (try k_sweep); walk_say "draw_use")); exact trivial
example : True := by (k_with "call ref" => (k_here; k_dflt (refine' side_use ?B_q186 ?F_q186 ?X_q186 ?T_q186 ?K_q186 ?d_q186 ?u_q186 ?R_q186 ?S_q186 ?hR_q186 ?hc_q186 ?hn_q186 ?N_q186 ?P1_q186 ?P2_q186 ?P3_q186 ?P4_q186 ?P5_q186 ?hce_q186 ?hna_q186 ?hs_q186 ?hs0_q186 ?o1_q186 ?o2_q186 ?o3_q186 ?o4_q186 ?o5_q186 ?hz_q186 ?e1_q186 ?e2_q186 ?e3_q186 ?e4_q186 ?_; (case F_q186 => k_asm); (case B_q186 => k_asm); (case X_q186 => k_asm); (case T_q186 => k_asm); (case K_q186 => first | exact rfl | assumption); (case d_q186 => k_room); (case u_q186 => ktr_units); (case R_q186 => assumption); (case S_q186 => assumption); (case hR_q186 => assumption); (case hc_q186 => assumption); (case hn_q186 => assumption); (case N_q186 => k_asm); (case P1_q186 => k_upd); (case P2_q186 => k_upd); (case P3_q186 => k_upd); (case P4_q186 => k_upd); (case P5_q186 => k_upd); (case hce_q186 => k_mem); (case hna_q186 => k_mem); (case hs_q186 => k_allIn); (case hs0_q186 => k_allIn); (case o1_q186 => k_all); (case o2_q186 => k_all); (case o3_q186 => k_all); (case o4_q186 => k_all); (case o5_q186 => k_all); (case hz_q186 => omega); (case e1_q186 => assumption); (case e2_q186 => assumption); (case e3_q186 => assumption); (case e4_q186 => assumption)); intro ta' oTx' oAn' oFu' oFn' oR' xs' fs' tl' v' d' t' c' h' tk' hx' hf' hA' F' N' S' hR' ht' hd' ok'; (have hl' := oke_len ok'); (try simp only [List.cons_append, List.nil_append] at N'); (try dsimp only at N'); (try k_sweep); walk_say "side_use")); exact trivial
example : True := by (k_with "call ref" => (k_here; k_dflt (refine' err_other ?B_q187 ?F_q187 ?X_q187 ?T_q187 ?K_q187 ?d_q187 ?u_q187 ?N_q187 ?V_q187 ?hd'_q187 ?ok_q187 ?_; (case F_q187 => k_asm); (case B_q187 => k_asm); (case X_q187 => k_asm); (case T_q187 => k_asm); (case K_q187 => first | exact rfl | assumption); (case d_q187 => k_room); (case u_q187 => ktr_units); (case N_q187 => k_asm); (case V_q187 => (refine' mk_penv ?vR_q187 ?vS_q187 ?vO_q187 ?vK_q187 ?vsR_q187 ?vs0_q187 ?vm1_q187 ?vm2_q187 ?vx_q187 ?vf_q187 ?vs9_q187 ?vxx_q187; (case vR_q187 => assumption); (case vS_q187 => assumption); (case vO_q187 => assumption); (case vK_q187 => omega); (case vsR_q187 => k_allIn); (case vs0_q187 => k_allIn); (case vm1_q187 => k_mem); (case vm2_q187 => k_mem); (case vx_q187 => k_allIn); (case vf_q187 => k_allIn); (case vs9_q187 => k_allIn); (case vxx_q187 => k_allIn))); (case hd'_q187 => (refine' TmIn.mono ?tms_q187 (TmIn.grow ?tmx_q187 ?tmf_q187 ?tmh_q187); (case tmh_q187 => assumption); (case tmx_q187 => k_allIn); (case tmf_q187 => k_allIn); (case tms_q187 => k_allIn))); (case ok_q187 => (refine' OkE.d ?okd_q187; (case okd_q187 => assumption)))); intro t' h' tk' F' N'; (try dsimp only at N'); (try k_sweep); walk_say "err_other")); exact trivial
example : True := by (k_with "call ref" => (k_here; k_dflt (refine' atom_use ?B_q188 ?F_q188 ?X_q188 ?T_q188 ?K_q188 ?d_q188 ?u_q188 ?R_q188 ?S_q188 ?N_q188 ?P1_q188 ?P2_q188 ?P3_q188 ?P4_q188 ?s_q188 ?s0_q188 ?o1_q188 ?o2_q188 ?o3_q188 ?o4_q188 ?z_q188 ?_; (case F_q188 => k_asm); (case B_q188 => k_asm); (case X_q188 => k_asm); (case T_q188 => k_asm); (case K_q188 => first | exact rfl | assumption); (case d_q188 => k_room); (case u_q188 => ktr_units); (case R_q188 => assumption); (case S_q188 => assumption); (case N_q188 => k_asm); (case P1_q188 => k_upd); (case P2_q188 => k_upd); (case P3_q188 => k_upd); (case P4_q188 => k_upd); (case s_q188 => k_allIn); (case s0_q188 => k_allIn); (case o1_q188 => k_all); (case o2_q188 => k_all); (case o3_q188 => k_all); (case o4_q188 => k_all); (case z_q188 => omega)); intro i' t' h' tk' oTx' oAn' F' N' R' S' hi'; (try simp only [List.cons_append, List.nil_append, List.append_assoc] at N' R' S'); (clear R'); (try k_sweep); walk_say "atom_use")); exact trivial
example : True := by (k_with "call ref" => (k_here; k_dflt (refine' func_use ?B_q189 ?F_q189 ?X_q189 ?T_q189 ?K_q189 ?d_q189 ?u_q189 ?R_q189 ?S_q189 ?N_q189 ?P1_q189 ?P2_q189 ?P3_q189 ?P4_q189 ?s_q189 ?s0_q189 ?o1_q189 ?o2_q189 ?o3_q189 ?o4_q189 ?z_q189 ?_; (case F_q189 => k_asm); (case B_q189 => k_asm); (case X_q189 => k_asm); (case T_q189 => k_asm); (case K_q189 => first | exact rfl | assumption); (case d_q189 => k_room); (case u_q189 => ktr_units); (case R_q189 => assumption); (case S_q189 => assumption); (case N_q189 => k_asm); (case P1_q189 => k_upd); (case P2_q189 => k_upd); (case P3_q189 => k_upd); (case P4_q189 => k_upd); (case s_q189 => k_allIn); (case s0_q189 => k_allIn); (case o1_q189 => k_all); (case o2_q189 => k_all); (case o3_q189 => k_all); (case o4_q189 => k_all); (case z_q189 => omega)); intro j' i' t' h' tk' oTx' oAn' oFu' oFn' tl' hA' F' N' R' S' hj' hi'; (try simp only [List.cons_append, List.nil_append, List.append_assoc] at N' R' S'); (clear R'); (try k_sweep); walk_say "func_use")); exact trivial
example : True := by (k_with "call ref" => (k_here; k_dflt (refine' err_name ?B_q190 ?F_q190 ?X_q190 ?T_q190 ?K_q190 ?d_q190 ?u_q190 ?N_q190 ?V_q190 ?ht_q190 ?hg_q190 ?hfa_q190 ?hx_q190 ?h3_q190 ?_; (case F_q190 => k_asm); (case B_q190 => k_asm); (case X_q190 => k_asm); (case T_q190 => k_asm); (case K_q190 => first | exact rfl | assumption); (case d_q190 => k_room); (case u_q190 => ktr_units); (case N_q190 => k_asm); (case V_q190 => (refine' mk_penv ?vR_q190 ?vS_q190 ?vO_q190 ?vK_q190 ?vsR_q190 ?vs0_q190 ?vm1_q190 ?vm2_q190 ?vx_q190 ?vf_q190 ?vs9_q190 ?vxx_q190; (case vR_q190 => assumption); (case vS_q190 => assumption); (case vO_q190 => assumption); (case vK_q190 => omega); (case vsR_q190 => k_allIn); (case vs0_q190 => k_allIn); (case vm1_q190 => k_mem); (case vm2_q190 => k_mem); (case vx_q190 => k_allIn); (case vf_q190 => k_allIn); (case vs9_q190 => k_allIn); (case vxx_q190 => k_allIn))); (case ht_q190 => k_mem); (case hg_q190 => k_mem); (case hfa_q190 => k_mem); (case hx_q190 => assumption); (case h3_q190 => assumption)); intro t' h' tk' F' N'; (try dsimp only at N'); (try k_sweep); walk_say "err_name")); exact trivial
example : True := by (k_with "subscriptTail" => (k_here; (with_reducible show wpAny _ _ (subscriptTail _ _ (Value.ref _) (Value.int _ _)) _ _ _); k_dflt (refine' c_menu ?N_q191 ?m_q191 ?i_q191 ?z_q191 ?hl_q191 ?h0_q191 ?h1_q191 ?_; (case N_q191 => k_asm); (case m_q191 => k_mem); (case i_q191 => first | exact .cons _ _ (.cons _ _ (.cons _ _ .nil)) | exact .cons _ _ (.cons _ _ (.cons _ _ (.cons _ _ (.cons _ _ (.cons _ _ (.cons _ _ (.cons _ _ (.cons _ _ (.cons _ _ .nil)))))))))); (case z_q191 => decide); (case hl_q191 => decide); (case h0_q191 => omega); (case h1_q191 => (simp only [List.length_cons, List.length_nil]; omega)); k_whole; intro x' t' hx' hxl'))); (k_with "subscriptTail Name Constant ref int" => (k_here; (with_reducible show wpAny _ _ (subscriptTail _ _ (Value.ref _) (Value.int _ _)) _ _ _); k_dflt (refine' c_menu ?N_q191 ?m_q191 ?i_q191 ?z_q191 ?hl_q191 ?h0_q191 ?h1_q191 ?_; (case N_q191 => k_asm); (case m_q191 => k_mem); (case i_q191 => first | exact .cons _ _ (.cons _ _ (.cons _ _ .nil)) | exact .cons _ _ (.cons _ _ (.cons _ _ (.cons _ _ (.cons _ _ (.cons _ _ (.cons _ _ (.cons _ _ (.cons _ _ (.cons _ _ .nil)))))))))); (case z_q191 => decide); (case hl_q191 => decide); (case h0_q191 => omega); (case h1_q191 => (simp only [List.length_cons, List.length_nil]; omega)); k_whole; intro x' t' hx' hxl'))); (k_with "subscriptTail Name" => (k_here; (with_reducible show wpAny _ _ (subscriptTail _ _ (Value.ref _) (Value.int _ _)) _ _ _); k_dflt (refine' c_menu ?N_q191 ?m_q191 ?i_q191 ?z_q191 ?hl_q191 ?h0_q191 ?h1_q191 ?_; (case N_q191 => k_asm); (case m_q191 => k_mem); (case i_q191 => first | exact .cons _ _ (.cons _ _ (.cons _ _ .nil)) | exact .cons _ _ (.cons _ _ (.cons _ _ (.cons _ _ (.cons _ _ (.cons _ _ (.cons _ _ (.cons _ _ (.cons _ _ (.cons _ _ .nil)))))))))); (case z_q191 => decide); (case hl_q191 => decide); (case h0_q191 => omega); (case h1_q191 => (simp only [List.length_cons, List.length_nil]; omega)); k_whole; intro x' t' hx' hxl'))); exact trivial
example : True := by (k_with "inplaceOp Add ref" => (k_here; k_dflt (refine' c_iadd_list ?F_q192 ?N_q192 ?P_q192 ?o_q192 ?b_q192 ?z_q192 ?e_q192 ?_; (case F_q192 => k_asm); (case N_q192 => k_asm); (case P_q192 => k_upd); (case o_q192 => k_all); (case b_q192 => k_mem); (case z_q192 => exact Nat.le_of_ble_eq_true rfl); (case e_q192 => exact Nat.le_of_ble_eq_true rfl)); intro h' F' N'; (try simp only [List.cons_append, List.nil_append] at N'); (try k_sweep))); exact trivial
example : True := by (k_with "getMethod ref" => (k_here; (with_reducible show wpAny _ _ (getMethod (Value.ref _) (PySem.Str.ofString "get") _) _ _ _); k_dflt (refine' gm_dict_get (knd := PySem.strKind _ _) ?N_q193 ?m_q193 ?d_q193 ?_; (case N_q193 => k_asm); (case m_q193 => k_mem); (case d_q193 => assumption)))); exact trivial
example : True := by (k_with "call builtin:dict.get" => (k_here; k_dflt (refine' c_get_many ?N_q194 ?m_q194 ?lo_q194 ?d_q194 ?hx_q194 ?_; (case N_q194 => k_asm); (case m_q194 => k_mem); (case lo_q194 => assumption); (case d_q194 => assumption); (case hx_q194 => exact nm10_of (by assumption))); intro k' u' hM')); exact trivial
example : True := by (k_with "exec If" => (k_here; (with_reducible show wpAny _ _ (exec (Stmt.If _ [Stmt.Assign [Expr.Name (Str.ofString "many") _] _ _] _ _) _) _ _ _); k_dflt (refine' if_join (y := Str.ofString "many") ?F_q195 ?N_q195 ?R_q195 ?P_q195 ?h_q195 ?_ ?_; (case F_q195 => k_asm); (case N_q195 => k_asm); (case R_q195 => assumption); (case P_q195 => k_upd); (case h_q195 => with_unfolding_all exact rfl)); rotate_left; (intro h' tk' oR' r' t' hr' F' N' R'; (try k_sweep); (have hM9 := Many.one (by assumption) hr' (nm10_of (by assumption)))); rotate_left)); exact trivial
example : True := by (k_with "JnAt" => first | (refine' jn_set ?F_q196 ?N_q196 ?R_q196; (case F_q196 => assumption); (case N_q196 => assumption); (case R_q196 => assumption)) | (refine' jn_not ?h_q196 ?F_q196 ?N_q196 ?R_q196; (case h_q196 => with_unfolding_all exact rfl); (case F_q196 => assumption); (case N_q196 => assumption); (case R_q196 => assumption))); exact trivial
example : True := by (k_with "FinE" => ((unfold LCg.FinE); intro D' h' tk' F' N' o1'; (try simp only [List.nil_append, List.cons_append] at N'); (try dsimp only))); exact trivial
example : True := by (k_with "FinA" => ((unfold LCg.FinA); intro D' h' tk' F' N' o1'; (try simp only [List.nil_append, List.cons_append] at N'); (try dsimp only))); exact trivial
example : True := by (k_with "exec Assign cons ListComp" => (k_here; (rename Many _ _ => hM8); (refine' Many.split hM8 ?_ ?_ ?_) <;> (intro he8 hx8; subst he8; k_dflt (refine LCg.Assign_ListComp_U (F₀ := by k_asm) (by rfl) (by with_unfolding_all rfl) (by with_unfolding_all rfl) (by decide) (by rfl) (by decide) (by rfl) (by rfl) (by rfl) ?_)))); exact trivial
example : True := by (k_with "CompSrc" => (k_here; first | ((rename News _ _ _ _ => kN8); (refine' canon_at kN8 ?R_q200 ?S_q200 ?hR_q200 ?m1_q200 ?m2_q200 ?m3_q200 ?m4_q200 ?m5_q200 ?m6_q200 ?_; (case R_q200 => assumption); (case S_q200 => assumption); (case hR_q200 => assumption); (case m1_q200 => k_mem); (case m2_q200 => k_mem); (case m3_q200 => k_mem); (case m4_q200 => k_mem); (case m5_q200 => k_mem); (case m6_q200 => k_allIn)); intro N'; clear kN8; k_dflt (refine' LCg.CompSrc.range ?rhh_q200 ?rF_q200 ?rN_q200 ?rr_q200 ?rsm_q200 ?rn_q200 ?rz_q200 ?_; (case rhh_q200 => exact rfl); (case rF_q200 => k_asm); (case rN_q200 => k_asm); (case rr_q200 => assumption); (case rsm_q200 => first | decide | rfl); (case rn_q200 => first | rfl | decide); (case rz_q200 => exact Nat.le_of_ble_eq_true rfl)); intro g'; lcg_lit) | (k_dflt (refine' LCg.CompSrc.ledger ?rhh_q200 ?rF_q200 ?rN_q200 ?rm_q200 ?rz_q200 ?_; (case rhh_q200 => exact rfl); (case rF_q200 => k_asm); (case rN_q200 => k_asm); (case rm_q200 => k_mem); (case rz_q200 => exact Nat.le_of_ble_eq_true rfl)); intro g'; lcg_lit))); exact trivial
example : True := by (k_with "CompRest" => (with_unfolding_all first | (refine LCg.CompRest.succ ?_; intro v' I' oI' C' oC' D' m' h' tk' E' hv' hC' hx' F' N' off' ne'; (first | lcg_open hv' | (obtain ⟨t9', hv9'⟩ := hv'; subst hv9'))) | refine LCg.CompRest.zero ?_)); exact trivial
example : True := by (k_with "CompEnd" => first | (refine' comp_side ?off_q202 ?hA_q202 ?F_q202 ?N_q202 ?_; (case off_q202 => assumption); (case hA_q202 => assumption); (case F_q202 => k_asm); (case N_q202 => assumption)) | (refine' comp_list ?F_q202 ?N_q202 ?off_q202 ?m_q202 ?_; (case F_q202 => k_asm); (case N_q202 => k_asm); (case off_q202 => assumption); (case m_q202 => k_mem))); exact trivial
example : True := by (k_with "call ref" => (k_here; k_dflt (refine' err_law ?B_q203 ?F_q203 ?X_q203 ?T_q203 ?K_q203 ?d_q203 ?u_q203 ?N_q203 ?V_q203 ?ht_q203 ?hg_q203 ?hfa_q203 ?hf_q203 ?G_q203 ?_; (case F_q203 => k_asm); (case B_q203 => k_asm); (case X_q203 => k_asm); (case T_q203 => k_asm); (case K_q203 => first | exact rfl | assumption); (case d_q203 => k_room); (case u_q203 => ktr_units); (case N_q203 => k_asm); (case V_q203 => (refine' mk_penv ?vR_q203 ?vS_q203 ?vO_q203 ?vK_q203 ?vsR_q203 ?vs0_q203 ?vm1_q203 ?vm2_q203 ?vx_q203 ?vf_q203 ?vs9_q203 ?vxx_q203; (case vR_q203 => assumption); (case vS_q203 => assumption); (case vO_q203 => assumption); (case vK_q203 => omega); (case vsR_q203 => k_allIn); (case vs0_q203 => k_allIn); (case vm1_q203 => k_mem); (case vm2_q203 => k_mem); (case vx_q203 => k_allIn); (case vf_q203 => k_allIn); (case vs9_q203 => k_allIn); (case vxx_q203 => k_allIn))); (case ht_q203 => k_mem); (case hg_q203 => k_mem); (case hfa_q203 => k_mem); (case hf_q203 => first | (refine' fm_one ?fh1_q203 ?fh2_q203 ?fh3_q203 ?fh4_q203 ?fh5_q203; (case fh1_q203 => k_mem); (case fh2_q203 => k_mem); (case fh3_q203 => assumption); (case fh4_q203 => assumption); (case fh5_q203 => (refine' TmIn.mono ?tms_q203 (TmIn.grow ?tmx_q203 ?tmf_q203 ?tmh_q203); (case tmh_q203 => assumption); (case tmx_q203 => k_allIn); (case tmf_q203 => k_allIn); (case tms_q203 => k_allIn)))) | (refine' fm_two ?fh1_q203 ?fh2_q203 ?fh3_q203 ?fh4_q203 ?fh5_q203 ?fh6_q203; (case fh1_q203 => k_mem); (case fh2_q203 => k_mem); (case fh3_q203 => assumption); (case fh4_q203 => assumption); (case fh5_q203 => (refine' TmIn.mono ?tms_q203 (TmIn.grow ?tmx_q203 ?tmf_q203 ?tmh_q203); (case tmh_q203 => assumption); (case tmx_q203 => k_allIn); (case tmf_q203 => k_allIn); (case tms_q203 => k_allIn))); (case fh6_q203 => (refine' TmIn.mono ?tms_q203 (TmIn.grow ?tmx_q203 ?tmf_q203 ?tmh_q203); (case tmh_q203 => assumption); (case tmx_q203 => k_allIn); (case tmf_q203 => k_allIn); (case tms_q203 => k_allIn)))) | (refine' fm_three ?fh1_q203 ?fh2_q203 ?fh3_q203 ?fh4_q203 ?fh5_q203 ?fh6_q203 ?fh7_q203; (case fh1_q203 => k_mem); (case fh2_q203 => k_mem); (case fh3_q203 => assumption); (case fh4_q203 => assumption); (case fh5_q203 => (refine' TmIn.mono ?tms_q203 (TmIn.grow ?tmx_q203 ?tmf_q203 ?tmh_q203); (case tmh_q203 => assumption); (case tmx_q203 => k_allIn); (case tmf_q203 => k_allIn); (case tms_q203 => k_allIn))); (case fh6_q203 => (refine' TmIn.mono ?tms_q203 (TmIn.grow ?tmx_q203 ?tmf_q203 ?tmh_q203); (case tmh_q203 => assumption); (case tmx_q203 => k_allIn); (case tmf_q203 => k_allIn); (case tms_q203 => k_allIn))); (case fh7_q203 => (refine' TmIn.mono ?tms_q203 (TmIn.grow ?tmx_q203 ?tmf_q203 ?tmh_q203); (case tmh_q203 => assumption); (case tmx_q203 => k_allIn); (case tmf_q203 => k_allIn); (case tms_q203 => k_allIn))))); (case G_q203 => first | (refine' fmG1 ?fg0_q203 ?fg1_q203; (case fg0_q203 => assumption); (case fg1_q203 => assumption)) | (refine' fmG2 ?fg0_q203 ?fg1_q203 ?fg2_q203; (case fg0_q203 => assumption); (case fg1_q203 => assumption); (case fg2_q203 => assumption)) | (refine' fmG3 ?fg0_q203 ?fg1_q203 ?fg2_q203 ?fg3_q203; (case fg0_q203 => assumption); (case fg1_q203 => assumption); (case fg2_q203 => assumption); (case fg3_q203 => assumption)))); intro t' h' tk' F' N'; (try dsimp only at N'); (try k_sweep); walk_say "err_law")); exact trivial
example : True := by (k_with "subscriptTail" => (k_here; first | ((with_reducible show wpAny _ _ (subscriptTail _ _ (Value.ref _) (Value.int 0 _)) _ _ _); k_dflt (refine' c_tup0 ?N_q204 ?m_q204 ?_; (case N_q204 => k_asm); (case m_q204 => k_mem); k_whole)) | ((with_reducible show wpAny _ _ (subscriptTail _ _ (Value.ref _) (Value.int 1 _)) _ _ _); k_dflt (refine' c_tup1 ?N_q204 ?m_q204 ?_; (case N_q204 => k_asm); (case m_q204 => k_mem); k_whole)))); (k_with "subscriptTail Name Constant ref int" => (k_here; first | ((with_reducible show wpAny _ _ (subscriptTail _ _ (Value.ref _) (Value.int 0 _)) _ _ _); k_dflt (refine' c_tup0 ?N_q204 ?m_q204 ?_; (case N_q204 => k_asm); (case m_q204 => k_mem); k_whole)) | ((with_reducible show wpAny _ _ (subscriptTail _ _ (Value.ref _) (Value.int 1 _)) _ _ _); k_dflt (refine' c_tup1 ?N_q204 ?m_q204 ?_; (case N_q204 => k_asm); (case m_q204 => k_mem); k_whole)))); (k_with "subscriptTail Name" => (k_here; first | ((with_reducible show wpAny _ _ (subscriptTail _ _ (Value.ref _) (Value.int 0 _)) _ _ _); k_dflt (refine' c_tup0 ?N_q204 ?m_q204 ?_; (case N_q204 => k_asm); (case m_q204 => k_mem); k_whole)) | ((with_reducible show wpAny _ _ (subscriptTail _ _ (Value.ref _) (Value.int 1 _)) _ _ _); k_dflt (refine' c_tup1 ?N_q204 ?m_q204 ?_; (case N_q204 => k_asm); (case m_q204 => k_mem); k_whole)))); exact trivial
example : True := by (k_with "call ref" => (k_here; k_dflt (refine' words1 ?B_q205 ?F_q205 ?X_q205 ?T_q205 ?K_q205 ?d_q205 ?u_q205 ?hx_q205 ?N_q205 ?z1_q205 ?_; (case F_q205 => k_asm); (case B_q205 => k_asm); (case X_q205 => k_asm); (case T_q205 => k_asm); (case K_q205 => first | exact rfl | assumption); (case d_q205 => k_room); (case u_q205 => ktr_units); (case hx_q205 => assumption); (case N_q205 => k_asm); (case z1_q205 => assumption)); intro t' h' tk' F' N'; (try dsimp only at N'); (try k_sweep); walk_say "words1")); exact trivial
example : True := by (k_with "call ref" => (k_here; k_dflt (refine' words2 ?B_q206 ?F_q206 ?X_q206 ?T_q206 ?K_q206 ?d_q206 ?u_q206 ?hx_q206 ?N_q206 ?z1_q206 ?z2_q206 ?_; (case F_q206 => k_asm); (case B_q206 => k_asm); (case X_q206 => k_asm); (case T_q206 => k_asm); (case K_q206 => first | exact rfl | assumption); (case d_q206 => k_room); (case u_q206 => ktr_units); (case hx_q206 => assumption); (case N_q206 => k_asm); (case z1_q206 => assumption); (case z2_q206 => assumption)); intro t' h' tk' F' N'; (try dsimp only at N'); (try k_sweep); walk_say "words2")); exact trivial
example : True := by (k_with "call ref" => (k_here; k_dflt (refine' words3 ?B_q207 ?F_q207 ?X_q207 ?T_q207 ?K_q207 ?d_q207 ?u_q207 ?hx_q207 ?N_q207 ?z1_q207 ?z2_q207 ?z3_q207 ?_; (case F_q207 => k_asm); (case B_q207 => k_asm); (case X_q207 => k_asm); (case T_q207 => k_asm); (case K_q207 => first | exact rfl | assumption); (case d_q207 => k_room); (case u_q207 => ktr_units); (case hx_q207 => assumption); (case N_q207 => k_asm); (case z1_q207 => assumption); (case z2_q207 => assumption); (case z3_q207 => assumption)); intro t' h' tk' F' N'; (try dsimp only at N'); (try k_sweep); walk_say "words3")); exact trivial
local macro_rules | `(tactic| k_qdec) => `(tactic| first | exact Mine.qd1 | exact Mine.qd2)
theorem law_walk : PySem.Challenge.rw_ok0024_01.Holds := Mine.hd (by
  k_go0
  (all_goals try k_fold)
  k_steps)
example : True := by k_with_none; (k_with "x_k_room" => ((try simp (config := {zetaDelta := true}) only [depth_under_make, depth_under_kw, depth_in1, depth_deeper, depth_caller]); (try dsimp only [ktrTop]); (first | (refine' rm0 ?ha_q166; (case ha_q166 => assumption)) | (refine' rm1 ?ha_q166 ?hb_q166; (case ha_q166 => assumption); (case hb_q166 => exact rfl)) | (refine' rm2 ?ha_q166 ?hb_q166; (case ha_q166 => assumption); (case hb_q166 => exact rfl)) | (refine' rm3 ?ha_q166 ?hb_q166; (case ha_q166 => assumption); (case hb_q166 => exact rfl)) | (refine' rm4 ?ha_q166 ?hb_q166; (case ha_q166 => assumption); (case hb_q166 => exact rfl)) | omega))); (k_with "x_ktr_units" => ((try simp (config := {zetaDelta := true}) only [units_under_make, units_in1, units_deeper, Around.mark_units, units_caller]); (try dsimp only [ktrTop]); (first | (refine' rm0 ?ha_q167; (case ha_q167 => assumption)) | (refine' rm1 ?ha_q167 ?hb_q167; (case ha_q167 => assumption); (case hb_q167 => exact rfl)) | (refine' rm2 ?ha_q167 ?hb_q167; (case ha_q167 => assumption); (case hb_q167 => exact rfl)) | (refine' rm3 ?ha_q167 ?hb_q167; (case ha_q167 => assumption); (case hb_q167 => exact rfl)) | (refine' rm4 ?ha_q167 ?hb_q167; (case ha_q167 => assumption); (case hb_q167 => exact rfl)) | omega))); (k_with "execs cons" => (k_here; (with_reducible refine sq_tok ?_); intro tk')); (k_with "subscriptTail Name Constant ref int" => (k_here; (with_reducible show wpAny _ _ (subscriptTail _ _ (Value.ref _) (Value.int _ _)) _ _ _); k_dflt (first | (refine' item_tupleT ?t_q169 ?a_q169 ?b_q169 ?c_q169 ?d_q169 ?_; (case t_q169 => (refine' News.isTup ?t1_q169 ?t2_q169; (case t1_q169 => k_asm); (case t2_q169 => k_mem))); (case a_q169 => decide); (case b_q169 => decide); (case c_q169 => rfl); (case d_q169 => rfl); k_whole) | (refine' c_item_lit ?N_q169 ?m_q169 ?a2_q169 ?b2_q169 ?d2_q169 ?_; (case N_q169 => k_asm); (case m_q169 => k_mem); (case a2_q169 => decide); (case b2_q169 => decide); (case d2_q169 => rfl); k_whole)))); (k_with "eval Call Name" => (k_here; with_unfolding_all refine Call_ ?_)); (k_with "x_lcg_off" => first | exact List.mem_cons_self | (refine' List.mem_cons_of_mem _ ?_; lcg_off) | (refine' List.mem_append_left _ ?_; lcg_off) | (refine' List.mem_append_right _ ?_; lcg_off) | assumption); (k_with "x_lcg_sub" => first | assumption | (refine' off1_ne ?oo_q172 ?om_q172; (case oo_q172 => assumption); (case om_q172 => lcg_off)) | (refine' alt_ne1 ?lh_q172 ?lm_q172; (case lh_q172 => assumption); (case lm_q172 => lcg_off)) | (refine' alt_ne2 ?lh_q172 ?lm_q172; (case lh_q172 => assumption); (case lm_q172 => lcg_off)) | (refine' Ne.symm ?_; assumption) | (refine neN ?_; refine' Ne.symm ?_; assumption) | (refine neN ?_; (try dsimp only); omega) | (refine neN ?_; (try dsimp only); (simp only [List.forall_mem_cons] at *); omega)); (k_with "x_lcg_src" => first | assumption | (refine' off_cons ?oo_q173 ?om_q173 ?or_q173; (case oo_q173 => assumption); (case om_q173 => lcg_off); (case or_q173 => lcg_src)) | exact List.forall_mem_nil _ | (refine' List.forall_mem_append.mpr ⟨?_, ?_⟩; (focus lcg_src); lcg_src) | (refine' List.forall_mem_cons.mpr ⟨?_, ?_⟩; (focus lcg_sub); lcg_src) | exact allNeP (by assumption) | (refine' Above.off ?hA_q173 ?hM_q173; (case hA_q173 => assumption); (case hM_q173 => lcg_off)) | (refine' alt_all ?lh_q173 ?ls_q173; (case lh_q173 => assumption); (case ls_q173 => k_allIn)) | exact allNe0 (by assumption) | exact allNe1 (by assumption) | exact allNe2 (by assumption) | exact allNe3 (by assumption) | exact allNe4 (by assumption) | exact allNe5 (by assumption) | exact allNe6 (by assumption) | exact allNe7 (by assumption) | exact allNe8 (by assumption)); (k_with "x_k_allIn" => first | assumption | exact List.prefix_rfl | (refine' List.IsPrefix.trans ?a9_q174 ?b9_q174; (case b9_q174 => first | assumption | exact addA_pre2 _ _ | exact addF_pre2 _ _); (case a9_q174 => k_allIn)) | (intro p9 h9; lcg_off) | (refine' List.forall_mem_append.mpr ⟨?_, ?_⟩; (focus k_allIn); k_allIn) | (refine' List.forall_mem_cons.mpr ⟨?_, ?_⟩; (focus lcg_off); k_allIn)); (k_with "x_k_upd" => first | exact Pull.head | (refine' Pull.tail ?b_q175; (case b_q175 => k_upd)) | (refine' Pull.under _ ?b_q175; (case b_q175 => k_upd))); (k_with "x_k_enter" => first | ktr_enter | (refine' code_def ?k1_q176 ?k2_q176 ?k3_q176 ?k4_q176 ?k5_q176 ?kA_q176 ?kF_q176 ?kK_q176 ?k6_q176 ?k7_q176 ?k8_q176 ?k9_q176 ?kB_q176 ?_ ?c2_q176 ?c3_q176 ?c4_q176 ?c5_q176; (case kA_q176 => exact rfl); (case kF_q176 => exact rfl); (case kK_q176 => first | exact rfl | assumption); (case k1_q176 => k_asm); (case k2_q176 => k_asm); (case k3_q176 => k_asm); (case k4_q176 => k_asm); (case k5_q176 => k_asm); (case k6_q176 => k_is); (case k7_q176 => k_is); (case k8_q176 => ktr_room); (case k9_q176 => exact binds_K (by k_in) rfl (by k_is) rfl rfl rfl); (case c5_q176 => decide); (case kB_q176 => exact locs rfl); (case c2_q176 => exact rfl); (case c3_q176 => exact rfl); (case c4_q176 => exact rfl); k_whole; intro g' L' h' FG' F' N' B' X' T'; (try dsimp only); (try k_fold))); exact trivial
end
end
example : True := by k_with_none; exact trivial
end
end Mine
theorem PySem.Challenge.cw_ok0024_01_holds : PySem.Challenge.rw_ok0024_01.Holds := by
  exact Mine.law_walk
