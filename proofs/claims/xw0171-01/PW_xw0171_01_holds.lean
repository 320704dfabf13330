import PyProof.Rows.All
import Wide.All
import OpenK.AllK
import Wide.FinOn
import PySem.Challenge.RW_xw0171_01
set_option Elab.async false
set_option maxRecDepth 100000
set_option linter.all false
section
open PySem PySem.W PyProof.Rows
set_option Elab.async false
set_option maxRecDepth 1000000
set_option maxHeartbeats 0
namespace Mine
section
theorem hkStart {P : Prop} (_w : True) (h : P) : P := h
local macro_rules | `(tactic| o_head $_) => `(tactic| refine hkStart ?hw ?hc)
local macro_rules | `(tactic| w_witness2) => `(tactic| trivial)
open_top hk for PySem.Challenge.rw_xw0171_01.row
end

noncomputable abbrev pw : Program := PySem.Challenge.pw_xw0171_01
/-- the view: the top's statements that the pinned names need -/
noncomputable def vw : Program := { pw with main := { pw.main with body := [0, 2, 4, 5, 6, 7, 8, 9, 10, 11, 12, 13, 14, 15, 17, 19, 21, 22, 24, 26, 28, 29, 30, 31, 32, 33, 34, 35, 36, 37, 38, 39, 40].filterMap fun i => pw.main.body[i]? } }
abbrev loose : List PySem.Str := [PySem.Str.ofString "LendError"]
def asK : List Addr := [2, 3, 15, 17, 18, 20, 21, 29, 30, 32, 33, 35, 36, 37, 39, 40, 42, 43, 44, 46, 47, 49, 50, 51, 53, 54, 56, 57, 58, 60, 61, 63, 64, 65, 67, 68, 70, 71, 72, 73, 75, 76, 78, 79, 80, 81, 82, 83, 84, 87, 89, 90, 92, 93, 94, 96, 97, 99, 100, 101, 104, 105, 106, 109, 110, 111, 113, 114, 116, 117, 118, 120, 121, 123, 124, 125, 127, 128, 130, 131, 132, 134, 135, 137, 138, 139, 142, 143, 144, 146, 147, 149, 150, 151, 154, 155, 163, 166, 167, 168, 170, 171, 173, 174, 175, 176, 178, 179, 181, 182, 183, 185, 186, 188, 189, 190, 192, 193, 195, 196, 197, 199, 200, 202, 203, 204, 206, 207, 209, 210, 211, 213, 214, 216, 217, 218, 220, 221, 223, 224, 225, 227, 228, 230, 231, 232, 234, 235, 237, 238, 239, 241, 242, 244, 245, 246, 248, 249, 251, 252, 253, 255, 256, 258, 259, 260, 262, 263, 265, 266, 267, 269, 270, 272, 273, 274, 276, 277, 279, 280, 281, 283, 284, 286, 287, 288, 290, 291, 293, 294, 295, 297, 298, 300, 301, 302, 303, 304, 305, 306, 316, 318, 319, 321, 322, 323, 324, 325, 326, 327, 330, 337, 338, 340, 341, 343, 344, 345, 346, 347, 348, 351, 358, 360, 361, 363, 364, 365, 366, 367, 377, 379, 380, 382, 383, 384, 386, 387, 389, 390, 391, 393, 394, 396, 397, 398, 400, 401, 403, 404, 405, 408, 409, 410, 412, 413, 415, 416, 417, 419, 420, 422, 423, 424, 425, 426, 427, 428, 438, 439, 441, 442, 444, 445, 446, 448, 449, 451, 452, 453, 454, 455, 456, 457, 460, 462, 463, 465, 466, 467, 469, 470, 472, 473, 474, 476, 477, 479, 480, 481, 483, 484, 486, 487, 488, 491, 492, 493, 495, 496, 498, 499, 500, 502, 503, 505, 506, 507, 510, 511, 512, 514, 515, 517, 518, 519, 521, 522, 524, 525, 526, 528, 529, 531, 532, 533, 535, 536, 538, 539, 540, 542, 543, 545, 546]
theorem asK_ok (P : Params) : asK = (Mine.hk.heap_1 P).map (·.1) := by kernel_rfl
noncomputable abbrev hkK : Hook := kmHook Mine.hk.heap_1 asK asK_ok [140]
noncomputable def env0 : Env := { scope := pw.main.scope, locals := mainNs, globals := mainNs, cells := [], code := .ref 13, frame := some 14 }
noncomputable def treeFrom : List Obj → Nat → BT → BT
  | [], _, t => t
  | o :: r, i, t => treeFrom r (i + 1) (t.ins i o)
abbrev ann0 : Option Value := some (.ref 6)
abbrev pos0 : Pos := ⟨0, 0, 0, 0⟩
abbrev posE : Pos := ⟨398, 0, 408, 65⟩
noncomputable abbrev code0 : Code := .body (behindTheImports pw) env0
noncomputable abbrev Xt0 : Shared → Bool := fun s => xlAt vw [] s && recOk PySem.Challenge.rw_xw0171_01.row.records s
noncomputable abbrev S0 (w : World) (os : OsState) : Shared := ⟨boot_heap w.params, #[], boot_drawn, boot_toks, os⟩
noncomputable def goPre (w : World) (os : OsState) : Option (Shared × Thread) := topGo treeTable pw w 11 ann0 12 (S0 w os) (topStub pw)
noncomputable def Sa (w : World) (os : OsState) : Shared := match goPre w os with | some (s, _) => s | none => S0 w os
noncomputable def Ta (w : World) (os : OsState) : SharedT := ⟨treeFrom (Sa w os).heap.objs.toList 0 .nil, 15, (Sa w os).heap.life, (Sa w os).gens, (Sa w os).drawn, (Sa w os).toks, os⟩
theorem opening_ok : opening pw = plainProg pw.main.scope.names := by kernel_rfl
theorem fence_ok (s : Shared) : fenceModules? pw s = some s := by kernel_rfl
theorem size_ok (w : World) : ((boot_heap w.params).isNs mainGlobals && (#[] : Array GenState).size == 0, (boot_heap w.params).objs.size, (boot_heap w.params).nsMap mainGlobals "__annotations__") = (true, 11, ann0) := by kernel_rfl
theorem pre_ok (w : World) (os : OsState) : topGo treeTable pw w 11 ann0 12 (S0 w os) (topStub pw) = some (Sa w os, ⟨denote treeTable code0, code0, pos0, [topFrame pos0]⟩) := by kernel_rfl
theorem block_ok (w : World) (os : OsState) : segRun treeTable pw w 11 ann0 1 1 (Sa w os) (blockOf (behindTheImports pw) env0 code0 pos0 [topFrame pos0]) = some (.next, (Ta w os).abs, code0, pos0) := by kernel_rfl
theorem fin_ok (w : World) (s : Shared) : topRun treeTable pw w 11 ann0 2 s ⟨doneF .next, code0, posE, [topFrame pos0]⟩ = some s := by kernel_rfl
noncomputable def getA (t : BT) (a : Nat) : Option Obj := match t.get a with | some o => alive o | none => none
theorem run_A (w : World) (os : OsState) : (Fast.tw10110043849684766642 Fast.tw14364793385576792824 pw w 11 ann0 1 3600 (Ta w os) (piecesOf (behindTheImports pw) env0 code0 pos0 [topFrame pos0])).map (fun r => (r.1, r.2.2,
      (staticsOk (importedModules pw.main.body) (boot_heap w.params) r.2.1.abs.heap && namesBound pw r.2.1.abs.heap && gensDone r.2.1.abs && laidKept (boot_heap w.params) r.2.1.abs.heap),
      Fast.tw4187177175401517315 vw loose (importedModules pw.main.body) Xt0 true r.2.1.abs)) = some (.next, (code0, posE), true, openGood vw loose) := by kernel_rfl
theorem run_K (w : World) (os : OsState) : (Fast.tw10110043849684766642 Fast.tw14364793385576792824 pw w 11 ann0 1 3600 (Ta w os) (piecesOf (behindTheImports pw) env0 code0 pos0 [topFrame pos0])).map (fun r => (asK.all (fun a => Nat.blt a r.2.1.n), Nat.blt 140 r.2.1.n, asK.map (getA r.2.1.tree), getA r.2.1.tree 140)) = some (true, true, (Mine.hk.heap_1 w.params).map (fun p => some p.2), some (tabObj #[])) := by kernel_rfl
theorem wellSaid_ok : PySem.Challenge.rw_xw0171_01.wellSaid = true := by
  have h : Fast.tw9446332074065402090 PySem.Challenge.rw_xw0171_01 = true := by kernel_rfl
  rwa [← Fast.te9446332074065402090] at h
theorem get_abs {t : BT} {n : Nat} {life : Life} {a : Nat} {o : Obj} (h : Nat.blt a n = true) (g : getA t a = some o) : (absHeap t n life).get? a = some o := by
  unfold getA at g
  split at g
  · rename_i o' g'
    rw [abs_get (by rwa [Nat.blt_eq] at h) g', g]
  · cases g
theorem gets_abs {t : BT} {n : Nat} {life : Life} : ∀ {as : List Nat} {os : List (Option Obj)}, as.all (fun a => Nat.blt a n) = true → as.map (getA t) = os → (∀ o ∈ os, o.isSome = true) → as.map (absHeap t n life).get? = os
  | [], _, _, h, _ => by cases h; rfl
  | a :: r, _, hb, h, hs => by
    subst h
    rw [List.all_cons, Bool.and_eq_true] at hb
    obtain ⟨o, ho⟩ := Option.isSome_iff_exists.mp (hs (getA t a) (.head _))
    rw [List.map_cons, List.map_cons, get_abs hb.1 ho, gets_abs hb.2 rfl (fun o h => hs o (.tail _ h)), ho]
/-- from a run of the statements in one piece to the whole top -/
theorem run_of {p : Program} {w : World} {m₀ : Nat} {ann : Option Value} {env : Env} {c : Code} {q pos pos' : Pos} {b : List Stmt} {s₀ s₁ s₂ : Shared} {sT s' : SharedT} {n1 n2 n3 n4 : Nat}
    (pre : topGo treeTable p w m₀ ann n1 s₀ (topStub p) = some (s₁, ⟨denote treeTable (.body b env), c, q, [topFrame q]⟩))
    (block : segRun treeTable p w m₀ ann 1 n2 s₁ (blockOf b env c q [topFrame q]) = some (.next, sT.abs, c, pos))
    (run : segRunT treeTable p w m₀ ann 1 n3 sT (piecesOf b env c pos [topFrame q]) = some (.next, s', c, pos'))
    (fin : topRun treeTable p w m₀ ann n4 s'.abs ⟨doneF .next, c, pos', [topFrame q]⟩ = some s₂) :
    topRun treeTable p w m₀ ann (n1 + (n2 + (n3 + n4))) s₀ (topStub p) = some s₂ := by
  have hp := piece_app (rest := []) (segRun_of run) (piece_nil fin)
  rw [List.append_nil] at hp
  exact go_top pre (piece_block block hp)
theorem left_of {p q : Program} {loose : List PySem.Str} {Xt : Shared → Bool} {K : Params → Frag} {as : List Addr} {e : ∀ P, as = (K P).map (·.1)} {N M : Nat} {H₀ : Params → Heap} {gs₀ : Array GenState} {d₀ : Drawn} {k₀ m₀ : Nat} {ann : Option Value} {P : Nat}
    (open_ : ∀ w : World, (fencedOpening treeTable p w N).map (fun s => (s.heap, s.gens, s.drawn, s.toks)) = some (H₀ w.params, gs₀, d₀, k₀))
    (size : ∀ w : World, ((H₀ w.params).isNs mainGlobals && gs₀.size == 0, (H₀ w.params).objs.size, (H₀ w.params).nsMap mainGlobals "__annotations__") = (true, m₀, ann))
    (run : ∀ (w : World) (os : OsState), ∃ s' : SharedT, topRun treeTable p w m₀ ann M ⟨H₀ w.params, gs₀, d₀, k₀, os⟩ (topStub p) = some s'.abs ∧
      (staticsOk (importedModules p.main.body) (H₀ w.params) s'.abs.heap && namesBound p s'.abs.heap && gensDone s'.abs && laidKept (H₀ w.params) s'.abs.heap) = true ∧
      openSeen q loose (importedModules p.main.body) Xt true s'.abs = openGood q loose ∧
      (as.all (fun a => Nat.blt a s'.n), Nat.blt P s'.n, as.map (getA s'.tree), getA s'.tree P) = (true, true, (K w.params).map (fun p => some p.2), some (tabObj #[])))
    (le : Nat.ble M N = true) : LeftO p q loose Xt (kmHook K as e [P]).obs (kmHook K as e [P]).val N := fun w => by
  obtain ⟨⟨h, gs, d, k, os⟩, e1, e'⟩ := Option.map_eq_some_iff.mp (open_ w)
  obtain ⟨rfl, rfl, rfl, rfl⟩ : h = H₀ w.params ∧ gs = gs₀ ∧ d = d₀ ∧ k = k₀ := by simpa using e'
  obtain ⟨z1, z2, z3⟩ : _ ∧ _ ∧ _ := by simpa only [Prod.mk.injEq] using size w
  obtain ⟨s', r, l1, l2, l3⟩ := run w os
  obtain ⟨k1, k2⟩ := Prod.mk.inj l3
  obtain ⟨k3, k4⟩ := Prod.mk.inj k2
  obtain ⟨k5, k6⟩ := Prod.mk.inj k4
  have r := topRun_mono (N - M) _ _ _ _ r
  rw [show M + (N - M) = N by have := Nat.le_of_ble_eq_true le; omega] at r
  have t : topFrom treeTable p w N ⟨H₀ w.params, gs, d, k, os⟩ = some s'.abs := by
    unfold topFrom
    dsimp only
    rw [z1, z2, z3, r]
    show (match staticsOk (importedModules p.main.body) (H₀ w.params) s'.abs.heap && namesBound p s'.abs.heap && gensDone s'.abs && laidKept (H₀ w.params) s'.abs.heap with | true => _ | false => _) = _
    rw [l1]
  have hY : (kmHook K as e [P]).obs s'.abs = (kmHook K as e [P]).val w := by
    show (as.map (absHeap s'.tree s'.n s'.life).get?, [(absHeap s'.tree s'.n s'.life).get? P]) = ((K w.params).map (fun p => some p.2), [some (tabObj #[])])
    rw [gets_abs k1 k5 (fun o ho => by obtain ⟨p, _, rfl⟩ := List.mem_map.mp ho; rfl), get_abs k3 k6]
  show (openEnds treeTable p w N).map _ = _
  unfold openEnds
  rw [e1]
  show (topFrom treeTable p w N _).map _ = _
  rw [t]
  show some (openSeen q loose (importedModules p.main.body) Xt true s'.abs, (kmHook K as e [P]).obs s'.abs) = _
  rw [l2, hY]
theorem top_ok (w : World) (os : OsState) : ∃ s' : SharedT, topRun treeTable pw w 11 ann0 (12 + (1 + (3600 + 2))) ⟨boot_heap w.params, #[], boot_drawn, boot_toks, os⟩ (topStub pw) = some s'.abs ∧
    (staticsOk (importedModules pw.main.body) (boot_heap w.params) s'.abs.heap && namesBound pw s'.abs.heap && gensDone s'.abs && laidKept (boot_heap w.params) s'.abs.heap) = true ∧
    openSeen vw loose (importedModules pw.main.body) Xt0 true s'.abs = openGood vw loose ∧
    (asK.all (fun a => Nat.blt a s'.n), Nat.blt 140 s'.n, asK.map (getA s'.tree), getA s'.tree 140) = (true, true, (Mine.hk.heap_1 w.params).map (fun p => some p.2), some (tabObj #[])) := by
  have hA := run_A w os
  have hK := run_K w os
  rw [← Fast.te10110043849684766642, ← Fast.te14364793385576792824, ← Fast.te4187177175401517315] at hA
  rw [← Fast.te10110043849684766642, ← Fast.te14364793385576792824] at hK
  obtain ⟨⟨f, s', c', q'⟩, h1, h2⟩ := Option.map_eq_some_iff.mp hA
  obtain ⟨r, h1', h2'⟩ := Option.map_eq_some_iff.mp hK
  obtain rfl : (f, s', c', q') = r := Option.some.inj (h1.symm.trans h1')
  obtain ⟨rfl, e2⟩ := Prod.mk.inj h2
  obtain ⟨e3, e4⟩ := Prod.mk.inj e2
  obtain ⟨rfl, rfl⟩ := Prod.mk.inj e3
  obtain ⟨e5, e6⟩ := Prod.mk.inj e4
  exact ⟨s', run_of (pre_ok w os) (block_ok w os) h1 (fin_ok w s'.abs), e5, e6, h2'⟩
theorem left_ok : LeftO pw vw loose Xt0 hkK.obs hkK.val 7098 := left_of (boot_open opening_ok (by decide) fence_ok) size_ok top_ok rfl
section
local macro_rules | `(tactic| o_law) => `(tactic| refine holds_law wellSaid_ok fun said => ?_)
local macro_rules | `(tactic| k_head) => `(tactic| refine holds_open (q := vw) (loose := loose) (Xt := Xt0) (XP := XL vw []) (Yf := Hook.obs (kmHook Mine.hk.heap_1 asK asK_ok [140])) (Ya := Hook.val (kmHook Mine.hk.heap_1 asK asK_ok [140])) (YP := Hook.says (kmHook Mine.hk.heap_1 asK asK_ok [140])) (N := 7098) left_ok (Hook.of (kmHook Mine.hk.heap_1 asK asK_ok [140])) (Hook.keeps (kmHook Mine.hk.heap_1 asK asK_ok [140])) (fun s e => xl_of s (Bool.and_eq_true_iff.mp e).1) XL.keeps (by rfl) (by rfl) (by rfl) (fun s e => recFacts_of (Bool.and_eq_true_iff.mp e).2) (by rfl) (by assumption) (by decide +kernel) ⟨rfl, rfl, rfl, rfl, rfl, by decide +kernel⟩ ?hw ?hc)
open_top hd for PySem.Challenge.rw_xw0171_01
end
end Mine
end
section
open PySem PySem.W PyProof.Rows PySem.Calls
set_option maxRecDepth 100000
set_option Elab.async false
namespace Mine
/-- a value, its token left out -/
inductive Vl | none | bool (b : Bool) | int (n : Int) | str (s : Str) | ref (a : Addr)
def Vl.is : Vl → Value → Prop
  | .none, u => u = .none
  | .bool b, u => u = .bool b
  | .int n, u => ∃ t, u = .int n t
  | .str s, u => ∃ t, u = .str s t
  | .ref a, u => u = .ref a
inductive AllIs : List Vl → List Value → Prop
  | nil : AllIs [] []
  | cons {v u vs us} : Vl.is v u → AllIs vs us → AllIs (v :: vs) (u :: us)
theorem AllIs.length {vs us} (h : AllIs vs us) : vs.length = us.length := by
  induction h with
  | nil => rfl
  | cons _ _ ih => rw [List.length_cons, List.length_cons, ih]
theorem AllIs.app {vs us vs' us'} (h : AllIs vs us) (h' : AllIs vs' us') : AllIs (vs ++ vs') (us ++ us') := by
  induction h with
  | nil => exact h'
  | cons a _ ih => exact .cons a ih
theorem AllIs.get {vs us} (h : AllIs vs us) : ∀ {i : Nat} {v : Vl}, vs[i]? = some v → ∃ u, us[i]? = some u ∧ v.is u := by
  induction h with
  | nil => intro i v e; cases i <;> cases e
  | cons a _ ih =>
    intro i v e
    cases i with
    | zero => cases e; exact ⟨_, rfl, a⟩
    | succ i => exact ih e
theorem AllIs.split {vs vs' us} (h : AllIs (vs ++ vs') us) : ∃ a b, us = a ++ b ∧ AllIs vs a ∧ AllIs vs' b := by
  induction vs generalizing us with
  | nil => exact ⟨[], us, rfl, .nil, h⟩
  | cons v vs ih =>
    cases h with
    | cons a h =>
      obtain ⟨x, y, rfl, hx, hy⟩ := ih h
      exact ⟨_ :: x, y, rfl, .cons a hx, hy⟩
theorem AllIs.rev {vs us} (h : AllIs vs us) : AllIs vs.reverse us.reverse := by
  induction h with
  | nil => exact .nil
  | cons a _ ih => rw [List.reverse_cons, List.reverse_cons]; exact ih.app (.cons a .nil)
theorem AllIs.set {vs us} (h : AllIs vs us) {v u} (a : Vl.is v u) : ∀ i, AllIs (vs.set i v) (us.set i u) := by
  induction h with
  | nil => intro i; exact .nil
  | cons b h ih =>
    intro i
    cases i with
    | zero => exact .cons a h
    | succ i => exact .cons b (ih i)
abbrev Dsc := Obj → Prop
abbrev Led := List (Addr × Dsc)
abbrev Loc := List (Str × Vl)
def dLst (vs : List Vl) : Dsc := fun o => ∃ us n, o = listOf us.toArray n ∧ AllIs vs us
def dTup (vs : List Vl) : Dsc := fun o => ∃ us n, o = { cls := .type "tuple", data := .seq (List.toArray us) n } ∧ AllIs vs us
def dInst (C d : Addr) : Dsc := fun o => o = instObj C d
/-- an instance's own names -/
inductive EsIs (w : World) : List (Str × Vl) → List DictEntry → Prop
  | nil : EsIs w [] []
  | cons {x t v u es ds} : Vl.is v u → EsIs w es ds → EsIs w ((x, v) :: es) (⟨PyData.keyHash w.params x, .str x t, u⟩ :: ds)
def dDct (w : World) (es : List (Str × Vl)) : Dsc := fun o => ∃ ds n, o = dictOf ds n ∧ EsIs w es ds
/-- the function in whose frame the walk is -/
structure Fn where
  cn : Str
  cs : Scope
  a : Addr
  cd : Value
  cl : Addr → List (Str × Addr)
abbrev Fn.env (I : Fn) (L : Addr) : Env := envX I.cn I.cs L I.a I.cd (I.cl L)
structure Jp where
  w : World
  d : Nat
  u : Nat
  I : Fn
  tl : Led
structure Ctx where
  A : Around
  A₀ : Around
  base : Heap
  h₀ : Heap
  outer : List Env
  L : Addr
  mg : Str → Option Value
  mb : Str → Option Value
  p : Program
  loose : List Str
  mean : ExcName → Option Value
  /-- frozen objects that nobody in the walk asks for (iterators of loops under way) -/
  X : List (Addr × (Obj → Prop))
abbrev pg : Program := PySem.Challenge.rw_xw0171_01.row.prog
structure Ctx.Ok (c : Ctx) (j : Jp) : Prop where
  B : Below c.A₀ c.base c.outer c.h₀
  K : (Mine.hk.heap_1 j.w.params).In c.h₀
  T : Top c.p c.loose c.mean c.mg c.mb c.h₀
  fr : c.A.frames = some (j.I.env c.L :: c.outer)
  hd : c.A.handled = none
  kd : j.I.cs.kind = .function
  dp : c.A.depth ≤ j.d
  un : c.A.units ≤ j.u
def LocIs (l : Loc) (m : Str → Option Value) : Prop := ∀ y v, l.lookup y = some v → ∃ u, m y = some u ∧ v.is u
def NewsD (h₀ : Heap) (L : Addr) (h : Heap) (G : Led) : Prop := ∀ p ∈ G, ∃ o, p.2 o ∧ h.get? p.1 = some o ∧ p.1 ≠ L ∧ h₀.get? p.1 = none
def Dis (W F : Led) : Prop := (∀ (i k : Nat) (p q : Addr × Dsc), W[i]? = some p → W[k]? = some q → i ≠ k → p.1 ≠ q.1) ∧ ∀ p ∈ W, ∀ q ∈ F, p.1 ≠ q.1
def OffT (fz tl : Led) : Prop := ∀ p ∈ fz, ∀ q ∈ tl, p.1 ≠ q.1
structure St (c : Ctx) (tl : Led) (l : Loc) (W fz : Led) (h : Heap) : Prop where
  F : ∃ m, Fr c.h₀ c.L h m ∧ LocIs l m
  N : NewsD c.h₀ c.L h (W ++ (fz ++ (tl ++ c.X)))
  D : Dis W (fz ++ (tl ++ c.X))
  O : OffT fz (tl ++ c.X)
section
variable {h₀ h : Heap} {L : Addr} {G G' : Led}
theorem NewsD.mono (n : NewsD h₀ L h G) (s : ∀ p ∈ G', p ∈ G) : NewsD h₀ L h G' := fun p hp => n p (s p hp)
theorem NewsD.one (n : NewsD h₀ L h G) {a : Addr} {D : Dsc} (m : (a, D) ∈ G) : ∃ o, D o ∧ News h₀ L h [(a, o)] := by
  obtain ⟨o, h1, h2, h3, h4⟩ := n _ m
  exact ⟨o, h1, fun p hp => by rw [List.mem_singleton.mp hp]; exact ⟨h2, h3, h4⟩⟩
theorem News.two {a b : Addr} {o o' : Obj} (n : News h₀ L h [(a, o)]) (n' : News h₀ L h [(b, o')]) : News h₀ L h [(a, o), (b, o')] := by
  intro p hp
  rcases List.mem_cons.mp hp with rfl | hp
  · exact n _ (.head _)
  · exact n' _ hp
/-- pairs of a ledger of descriptors and one of objects -/
inductive Pairs : Led → List (Addr × Obj) → Prop
  | nil : Pairs [] []
  | cons {a D o G N} : D o → Pairs G N → Pairs ((a, D) :: G) ((a, o) :: N)
theorem NewsD.pairs : ∀ {G : Led}, NewsD h₀ L h G → ∃ N, Pairs G N ∧ News h₀ L h N
  | [], _ => ⟨[], .nil, News.nil⟩
  | (a, D) :: G, n => by
    obtain ⟨N, p, q⟩ := NewsD.pairs (G := G) (n.mono fun p hp => .tail _ hp)
    obtain ⟨o, h1, h2, h3, h4⟩ := n _ (.head _)
    refine ⟨(a, o) :: N, .cons h1 p, fun x hx => ?_⟩
    rcases List.mem_cons.mp hx with rfl | hx
    · exact ⟨h2, h3, h4⟩
    · exact q x hx
theorem Pairs.news {N} (p : Pairs G N) : News h₀ L h N → NewsD h₀ L h G := by
  induction p with
  | nil => intro _ p hp; cases hp
  | cons d _ ih =>
    intro n p hp
    rcases List.mem_cons.mp hp with rfl | hp
    · exact ⟨_, d, n _ (.head _)⟩
    · exact ih (fun x hx => n x (.tail _ hx)) p hp
theorem Pairs.adr {N} (p : Pairs G N) : G.map (·.1) = N.map (·.1) := by
  induction p with
  | nil => rfl
  | cons _ _ ih => rw [List.map_cons, List.map_cons, ih]
/-- one entry changes, the others' addresses are other ones -/
theorem Pairs.upd {N} (p : Pairs G N) : ∀ {i : Nat} {a : Addr} {D : Dsc}, G[i]? = some (a, D) → (∀ k q, G[k]? = some q → k ≠ i → q.1 ≠ a) →
    ∃ o, D o ∧ (a, o) ∈ N ∧ ∀ o', ∃ N', Upd a o o' N N' ∧ ∀ D' : Dsc, D' o' → Pairs (G.set i (a, D')) N' := by
  induction p with
  | nil => intro i a D e; cases i <;> cases e
  | @cons b E o G N d p ih =>
    intro i a D e hne
    cases i with
    | zero =>
      cases e
      refine ⟨o, d, .head _, fun o' => ⟨(b, o') :: N, .head fun q hq => ?_, fun D' d' => .cons d' p⟩⟩
      have : q.1 ∈ G.map (·.1) := by rw [p.adr]; exact List.mem_map_of_mem hq
      obtain ⟨r, hr, e⟩ := List.mem_map.mp this
      obtain ⟨k, hk⟩ := List.getElem?_of_mem hr
      rw [← e]
      exact hne (k + 1) r hk (Nat.succ_ne_zero k)
    | succ i =>
      obtain ⟨o₁, d₁, m₁, u⟩ := ih e fun k q hk hn => hne (k + 1) q hk (fun e => hn (Nat.succ.inj e))
      refine ⟨o₁, d₁, .tail _ m₁, fun o' => ?_⟩
      obtain ⟨N', u', r⟩ := u o'
      exact ⟨(b, o) :: N', .tail (hne 0 _ rfl (Nat.succ_ne_zero i).symm) u', fun D' d' => .cons d (r D' d')⟩
end
theorem Dis.ne {W F : Led} (h : Dis W F) {i : Nat} {a : Addr} {D : Dsc} (e : W[i]? = some (a, D)) : ∀ k q, (W ++ F)[k]? = some q → k ≠ i → q.1 ≠ a := by
  intro k q hk hn
  rcases Nat.lt_or_ge k W.length with hl | hl
  · rw [List.getElem?_append_left hl] at hk
    exact h.1 k i q (a, D) hk e hn
  · rw [List.getElem?_append_right hl] at hk
    exact (h.2 (a, D) (List.mem_of_getElem? e) q (List.mem_of_getElem? hk)).symm
theorem setAt {W : Led} {i : Nat} {a : Addr} {D D' : Dsc} (e : W[i]? = some (a, D)) {k : Nat} {p : Addr × Dsc} (h : (W.set i (a, D'))[k]? = some p) : ∃ q, W[k]? = some q ∧ q.1 = p.1 := by
  by_cases hk : i = k
  · subst hk
    rw [List.getElem?_set_self (List.getElem?_eq_some_iff.mp e).1] at h
    cases h
    exact ⟨_, e, rfl⟩
  · rw [List.getElem?_set_ne hk] at h
    exact ⟨p, h, rfl⟩
theorem Dis.set {W F : Led} (h : Dis W F) {i : Nat} {a : Addr} {D D' : Dsc} (e : W[i]? = some (a, D)) : Dis (W.set i (a, D')) F := by
  refine ⟨fun x y p q hp hq hn => ?_, fun p hp q hq => ?_⟩
  · obtain ⟨p', a1, a2⟩ := setAt e hp
    obtain ⟨q', b1, b2⟩ := setAt e hq
    rw [← a2, ← b2]
    exact h.1 x y p' q' a1 b1 hn
  · obtain ⟨k, hk⟩ := List.getElem?_of_mem hp
    obtain ⟨p', a1, a2⟩ := setAt e hk
    rw [← a2]
    exact h.2 p' (List.mem_of_getElem? a1) q hq
theorem Pairs.mem {G : Led} {N : List (Addr × Obj)} (p : Pairs G N) {q : Addr × Dsc} (h : q ∈ G) : ∃ o, q.2 o ∧ (q.1, o) ∈ N := by
  induction p with
  | nil => cases h
  | cons d _ ih =>
    rcases List.mem_cons.mp h with rfl | h
    · exact ⟨_, d, .head _⟩
    · obtain ⟨o, a, b⟩ := ih h
      exact ⟨o, a, .tail _ b⟩
/-- the state after one entry of W was changed in the heap -/
theorem St.updA {c : Ctx} {tl : Led} {l : Loc} {W fz : Led} {h : Heap} (s : St c tl l W fz h) {i : Nat} {a : Addr} {D : Dsc} (e : W[i]? = some (a, D)) :
    ∃ m o N, Fr c.h₀ c.L h m ∧ LocIs l m ∧ News c.h₀ c.L h N ∧ D o ∧ (a, o) ∈ N ∧
      (∀ o', ∃ N', Upd a o o' N N' ∧ ∀ (D' : Dsc) (h' : Heap), D' o' → Fr c.h₀ c.L h' m → News c.h₀ c.L h' N' → St c tl l (W.set i (a, D')) fz h') ∧
      ∀ q ∈ W ++ (fz ++ (tl ++ c.X)), ∃ o, q.2 o ∧ (q.1, o) ∈ N := by
  obtain ⟨m, F, hm⟩ := s.F
  obtain ⟨N, P, n⟩ := s.N.pairs
  have hi : i < W.length := (List.getElem?_eq_some_iff.mp e).1
  obtain ⟨o, d, hmem, u⟩ := P.upd (by rw [List.getElem?_append_left hi]; exact e) (s.D.ne e)
  refine ⟨m, o, N, F, hm, n, d, hmem, fun o' => ?_, fun q hq => P.mem hq⟩
  obtain ⟨N', u', r⟩ := u o'
  refine ⟨N', u', fun D' h' d' F' n' => ⟨⟨m, F', hm⟩, ?_, s.D.set e, s.O⟩⟩
  have := (r D' d').news n'
  rwa [List.set_append_left _ _ hi] at this
theorem St.upd {c : Ctx} {tl : Led} {l : Loc} {W fz : Led} {h : Heap} (s : St c tl l W fz h) {i : Nat} {a : Addr} {D : Dsc} (e : W[i]? = some (a, D)) :
    ∃ m o N, Fr c.h₀ c.L h m ∧ LocIs l m ∧ News c.h₀ c.L h N ∧ D o ∧ (a, o) ∈ N ∧
      ∀ o', ∃ N', Upd a o o' N N' ∧ ∀ (D' : Dsc) (h' : Heap), D' o' → Fr c.h₀ c.L h' m → News c.h₀ c.L h' N' → St c tl l (W.set i (a, D')) fz h' := by
  obtain ⟨m, o, N, F, hm, n, d, hmem, up, _⟩ := s.updA e
  exact ⟨m, o, N, F, hm, n, d, hmem, up⟩
end Mine
end
section
open PySem PySem.W PyProof.Rows PySem.Calls
set_option maxRecDepth 100000
set_option Elab.async false
namespace Mine
/-- every address of the ledger lies below d -/
def NewA (d : Addr) (news : List (Addr × Obj)) : Prop := ∀ p ∈ news, p.1 < d
/-- the item at an int place, from the front or from the back -/
def IxAt (vs : List Value) (k : Int) (v : Value) : Prop :=
  (0 ≤ k ∧ k < 2 ^ 63 ∧ vs[k.toNat]? = some v) ∨ (k < 0 ∧ -(vs.length : Int) ≤ k ∧ -(2 ^ 63) ≤ k ∧ vs[(k + vs.length).toNat]? = some v)
section
variable {prog : Program} {w : World} {A : Around} {E : Value → Shared → Prop} {s : Shared} {h₀ : Heap} {L D : Addr} {m : Str → Option Value} {news news' : List (Addr × Obj)} {vs : List Value} {n : Nat} {x v : Value}

theorem getItem_own {k : Int} {u : Tok} {Q : Value → Shared → Prop} (N : News h₀ L s.heap news) (hm : (D, listOf vs.toArray n) ∈ news) (hk : IxAt vs k v) (h : Q v s) :
    wpAny (model prog w) A (getItem (.ref D) (.int k u)) Q E s := by
  have hl : s.heap.IsList D vs.toArray := ⟨_, (N _ hm).1, rfl, n, rfl⟩
  rcases hk with ⟨a, b, c⟩ | ⟨a, b, c, d⟩
  · exact wpAny_getItem_list hl a b (by simpa using c) h
  · exact wpAny_getItem_list_neg hl a (by simpa using b) c (by simpa using d) h
theorem item_own {value slice : PySem.Expr} {k : Int} {u : Tok} {Q : Value → Shared → Prop} (N : News h₀ L s.heap news) (hm : (D, listOf vs.toArray n) ∈ news) (hk : IxAt vs k v) (h : Q v s)
    (hs : subscripted slice false (.ref D) (.int k u) = operate [.ref D, .int k u] (getItem (.ref D) (.int k u)) := by with_unfolding_all rfl) :
    wpAny (model prog w) A (subscriptTail value slice (.ref D) (.int k u)) Q E s :=
  tail_any (show s.heap.IsList D vs.toArray from ⟨_, (N _ hm).1, rfl, n, rfl⟩).typeIs slot_list_getitem.lookup (getItem_own N hm hk h) hs
theorem itup_own {value slice : PySem.Expr} {k : Int} {u : Tok} {Q : Value → Shared → Prop} (N : News h₀ L s.heap news) (hm : (D, ({ cls := .type "tuple", data := .seq vs.toArray n } : Obj)) ∈ news) (hk : IxAt vs k v) (h : Q v s)
    (hs : subscripted slice false (.ref D) (.int k u) = operate [.ref D, .int k u] (getItem (.ref D) (.int k u)) := by with_unfolding_all rfl) :
    wpAny (model prog w) A (subscriptTail value slice (.ref D) (.int k u)) Q E s := by
  rcases hk with ⟨a, b, c⟩ | ⟨a, b, c, d⟩
  · have hl : k.toNat < vs.length := by
      false_or_by_contra
      rename_i hc
      rw [List.getElem?_eq_none (by omega)] at c
      cases c
    exact item_tupleT (News.isTup N hm) (by omega) b (seqIndex_of a (by omega)) c h hs
  · exact item_tupleT (News.isTup N hm) c (by omega) (PySem.seqIndex_neg a b) d h hs
theorem append_own {Q : Value → Shared → Prop} (F : Fr h₀ L s.heap m) (N : News h₀ L s.heap news) (U : Upd D (listOf vs.toArray n) (listOf (vs ++ [x]).toArray (n + 1)) news news')
    (hz : vs.length ≤ 1000000) (h : ∀ h', Fr h₀ L h' m → News h₀ L h' news' → Q .none { s with heap := h' }) : wpAny (model prog w) A (call (.builtin "list.append") [.ref D, x]) Q E s :=
  append_K (its := vs.toArray) (hsz := by rw [List.size_toArray]; exact Nat.le_trans hz (by decide)) F N (by rw [List.push_toArray]; exact U) h
theorem len_own {Q : Value → Shared → Prop} (N : News h₀ L s.heap news) (hm : (D, listOf vs.toArray n) ∈ news) (hz : vs.length ≤ 1000000)
    (h : ∀ t tk, Q (.int vs.length t) { s with toks := tk }) : wpAny (model prog w) A (call (.builtin "len") [.ref D]) Q E s :=
  len_list (items := vs.toArray) ⟨_, (N _ hm).1, rfl, n, rfl⟩ (by rw [List.size_toArray]; omega) (by rw [List.size_toArray]; exact h _ _)
theorem pop_own {Q : Value → Shared → Prop} (F : Fr h₀ L s.heap m) (N : News h₀ L s.heap news) (U : Upd D (listOf (vs ++ [x]).toArray n) (listOf vs.toArray (n + 1)) news news')
    (hz : vs.length ≤ 1000000) (h : ∀ h', Fr h₀ L h' m → News h₀ L h' news' → Q x { s with heap := h' }) : wpAny (model prog w) A (call (.builtin "list.pop") [.ref D]) Q E s := by
  refine kl_pop (p := vs) F N ?_ U (by simp only [List.length_append, List.length_singleton]; rw [sizeLine_eq]; omega) h
  clear U N F h hz
  show kl_last (vs ++ [x]) = some (vs, x)
  induction vs with
  | nil => rfl
  | cons y r ih => show (match kl_last (r ++ [x]) with | some (p, z) => some (y :: p, z) | none => some ([], y)) = _; rw [ih]
theorem ne_nil_own {D2 : Addr} {n2 : Nat} {Q : Value → Shared → Prop} (N : News h₀ L s.heap news) (hm : (D, listOf vs.toArray n) ∈ news) (he : (D2, listOf ([] : List Value).toArray n2) ∈ news) (hu : A.units < cLine)
    (h : Q (.bool (!vs.isEmpty)) s) : wpAny (model prog w) A (compareOp .NotEq (.ref D) (.ref D2)) Q E s := by
  have hl : s.heap.IsList D vs.toArray := ⟨_, (N _ hm).1, rfl, n, rfl⟩
  have hl2 : s.heap.IsList D2 ([] : List Value).toArray := ⟨_, (N _ he).1, rfl, n2, rfl⟩
  cases vs with
  | nil => exact PySem.SeqAt.RcNeAt.lists (e := fun _ => true) hl hl2 rfl hu (fun j h1 _ => absurd h1 (Nat.not_lt_zero _)) prog w E Q h
  | cons x r => exact PySem.SeqAt.RcNeAt.lists_lengths hl hl2 (by simp) hu prog w E Q h
theorem eq_nil_own {D2 : Addr} {n2 : Nat} {Q : Value → Shared → Prop} (N : News h₀ L s.heap news) (hm : (D, listOf vs.toArray n) ∈ news) (he : (D2, listOf ([] : List Value).toArray n2) ∈ news) (hu : A.units < cLine)
    (h : Q (.bool vs.isEmpty) s) : wpAny (model prog w) A (compareOp .Eq (.ref D) (.ref D2)) Q E s := by
  have hl : s.heap.IsList D vs.toArray := ⟨_, (N _ hm).1, rfl, n, rfl⟩
  have hl2 : s.heap.IsList D2 ([] : List Value).toArray := ⟨_, (N _ he).1, rfl, n2, rfl⟩
  cases vs with
  | nil => exact PySem.SeqAt.RcAt.lists (e := fun _ => true) hl hl2 rfl hu (fun j h1 _ => absurd h1 (Nat.not_lt_zero _)) prog w E Q h
  | cons x r => exact PySem.SeqAt.RcAt.lists_lengths hl hl2 (by simp) hu prog w E Q h
end
theorem News.of {h₀ h : Heap} {L : Addr} {news news' : List (Addr × Obj)} (N : News h₀ L h news) (hs : ∀ p ∈ news', p ∈ news) : News h₀ L h news' := fun p hp => N p (hs p hp)
theorem hd1 {h₀ h : Heap} {L a : Addr} {o : Obj} {r : List (Addr × Obj)} (_N : News h₀ L h ((a, o) :: r)) : ∃ x, x = a := ⟨a, rfl⟩
theorem hd2 {h₀ h : Heap} {L a b : Addr} {o o2 : Obj} {r : List (Addr × Obj)} (_N : News h₀ L h ((a, o) :: (b, o2) :: r)) : ∃ x y, x = a ∧ y = b := ⟨a, b, rfl, rfl⟩
/-- x is new: none of these addresses, none of this ledger's -/
structure Fresh (x : Addr) (adr : List Addr) (own : List (Addr × Obj)) : Prop where
  a : ∀ b ∈ adr, x ≠ b
  o : ∀ p ∈ own, p.1 ≠ x
abbrev tupO (vs : List Value) : Obj := { cls := .type "tuple", data := .seq vs.toArray }
end Mine
end
section
open PySem PySem.W PyProof.Rows PySem.Calls
set_option maxRecDepth 100000
set_option Elab.async false
namespace Mine
section
variable (j : Jp) (l : Loc) (W fz : Led)
/-- an expression's value; W, fz and the locals stay -/
def PV (e : PySem.Expr) (v : Vl) : Prop :=
  ∀ c : Ctx, c.Ok j → ∀ h g dr t o, St c j.tl l W fz h → ∀ QQ E : Value → Shared → Prop, (∀ u h' t', v.is u → St c j.tl l W fz h' → QQ u ⟨h', g, dr, t', o⟩) →
    wpAny (model pg j.w) c.A (eval e (j.I.env c.L)) QQ E ⟨h, g, dr, t, o⟩
/-- an expression that may change W and fz -/
def JE (e : PySem.Expr) (Q : Vl → Led → Led → Prop) : Prop :=
  ∀ c : Ctx, c.Ok j → ∀ h g dr t o, St c j.tl l W fz h → ∀ QQ E : Value → Shared → Prop, (∀ v u W' fz' h' t', v.is u → St c j.tl l W' fz' h' → Q v W' fz' → QQ u ⟨h', g, dr, t', o⟩) →
    wpAny (model pg j.w) c.A (eval e (j.I.env c.L)) QQ E ⟨h, g, dr, t, o⟩
/-- expressions from left to right -/
def PL (es : List PySem.Expr) (vs : List Vl) : Prop :=
  ∀ c : Ctx, c.Ok j → ∀ h g dr t o, St c j.tl l W fz h → ∀ (pos : Pos) (QQ : List Value → Shared → Prop) (E : Value → Shared → Prop), (∀ us h' t', AllIs vs us → St c j.tl l W fz h' → QQ us ⟨h', g, dr, t', o⟩) →
    wpAny (model pg j.w) c.A (spliced (backTo pos (starEach es (j.I.env c.L)))) QQ E ⟨h, g, dr, t, o⟩
def JL (es : List PySem.Expr) (Q : List Vl → Led → Led → Prop) : Prop :=
  ∀ c : Ctx, c.Ok j → ∀ h g dr t o, St c j.tl l W fz h → ∀ (pos : Pos) (QQ : List Value → Shared → Prop) (E : Value → Shared → Prop), (∀ vs us W' fz' h' t', AllIs vs us → St c j.tl l W' fz' h' → Q vs W' fz' → QQ us ⟨h', g, dr, t', o⟩) →
    wpAny (model pg j.w) c.A (spliced (backTo pos (starEach es (j.I.env c.L)))) QQ E ⟨h, g, dr, t, o⟩
/-- a comparison's answer -/
def PC (op : CmpOp) (e e' : PySem.Expr) (b : Bool) : Prop :=
  ∀ c : Ctx, c.Ok j → ∀ h g dr t o, St c j.tl l W fz h → ∀ QQ E : Value → Shared → Prop, (∀ h' t', St c j.tl l W fz h' → QQ (.bool b) ⟨h', g, dr, t', o⟩) →
    wpAny (model pg j.w) c.A (eval e (j.I.env c.L)) (fun a s₁ => wpAny (model pg j.w) c.A (eval e' (j.I.env c.L)) (fun b s₂ => wpAny (model pg j.w) c.A (compareOp op a b) QQ E s₂) E s₁) E ⟨h, g, dr, t, o⟩
/-- a test's answer -/
def PT (e : PySem.Expr) (b : Bool) : Prop :=
  ∀ c : Ctx, c.Ok j → ∀ h g dr t o, St c j.tl l W fz h → ∀ (QQ : Bool → Shared → Prop) (E : Value → Shared → Prop), (∀ h' t', St c j.tl l W fz h' → QQ b ⟨h', g, dr, t', o⟩) →
    wpAny (model pg j.w) c.A (PySem.isTrue e (j.I.env c.L) (eval e (j.I.env c.L))) QQ E ⟨h, g, dr, t, o⟩
def JT (e : PySem.Expr) (Q : Bool → Led → Led → Prop) : Prop :=
  ∀ c : Ctx, c.Ok j → ∀ h g dr t o, St c j.tl l W fz h → ∀ (QQ : Bool → Shared → Prop) (E : Value → Shared → Prop), (∀ b W' fz' h' t', St c j.tl l W' fz' h' → Q b W' fz' → QQ b ⟨h', g, dr, t', o⟩) →
    wpAny (model pg j.w) c.A (PySem.isTrue e (j.I.env c.L) (eval e (j.I.env c.L))) QQ E ⟨h, g, dr, t, o⟩
/-- the parts of an and, of an or, as a test -/
def PO (op : BoolOp) (es : List PySem.Expr) (b : Bool) : Prop :=
  ∀ c : Ctx, c.Ok j → ∀ h g dr t o, St c j.tl l W fz h → ∀ (z : Sem Value) (pos : Pos) (QQ : Bool → Shared → Prop) (E : Value → Shared → Prop), (∀ h' t', St c j.tl l W fz h' → QQ b ⟨h', g, dr, t', o⟩) →
    wpAny (model pg j.w) c.A (PySem.isTrue (.BoolOp op es pos) (j.I.env c.L) z) QQ E ⟨h, g, dr, t, o⟩
def JO (op : BoolOp) (es : List PySem.Expr) (Q : Bool → Led → Led → Prop) : Prop :=
  ∀ c : Ctx, c.Ok j → ∀ h g dr t o, St c j.tl l W fz h → ∀ (z : Sem Value) (pos : Pos) (QQ : Bool → Shared → Prop) (E : Value → Shared → Prop), (∀ b W' fz' h' t', St c j.tl l W' fz' h' → Q b W' fz' → QQ b ⟨h', g, dr, t', o⟩) →
    wpAny (model pg j.w) c.A (PySem.isTrue (.BoolOp op es pos) (j.I.env c.L) z) QQ E ⟨h, g, dr, t, o⟩
end
/- what the rules ask of a text's own shape -/
def notStar : PySem.Expr → Bool | .Starred .. => false | _ => true
def notSlice : PySem.Expr → Bool | .Slice _ _ none _ => false | _ => true
def plainBase : PySem.Expr → Bool | .Call (.Name ..) [] [] _ => false | _ => true
def notComp : PySem.Expr → Bool | .ListComp .. | .SetComp .. | .DictComp .. => false | _ => true
theorem star_of {e : PySem.Expr} (h : notStar e = true) (rest : List PySem.Expr) (env : Env) : starEach (e :: rest) env = (false, eval e env) :: starEach rest env := by
  cases e <;> first | rfl | cases h
theorem stars_none : ∀ {es : List PySem.Expr}, es.all notStar = true → ∀ (pos : Pos) (env : Env), (backTo pos (starEach es env)).any (·.1) = false
  | [], _, _, _ => rfl
  | e :: es, h, pos, env => by
    rw [List.all_cons, Bool.and_eq_true] at h
    rw [star_of h.1]
    show (false || (backTo pos (starEach es env)).any (·.1)) = false
    rw [stars_none h.2]; rfl
theorem sub_of {e : PySem.Expr} (h : notSlice e = true) (o i : Value) : subscripted e false o i = operate [o, i] (getItem o i) := by
  cases e <;> first | rfl | skip
  rename_i a b s p
  cases s <;> first | rfl | cases h
theorem attr_of {e : PySem.Expr} (h : plainBase e = true) (x : Str) (pos : Pos) (env : Env) :
    eval (.Attribute e x pos) env = (do let o ← eval e env; standAt pos.atName; let r ← holding [o] (getAttr o x true); letTemporaryGo e o r; pure r) := by
  have : attributeBase e x env (eval e env) = eval e env := by
    cases e <;> try rfl
    rename_i f as ks p
    cases f <;> try rfl
    cases as <;> try rfl
    cases ks <;> first | rfl | cases h
  show (do let o ← attributeBase e x env (eval e env); _) = _
  rw [this]
theorem swaps_of {e : PySem.Expr} (h : notComp e = true) (t : Option PySem.Expr) (n : Nat) (env : Env) : swapsWith e t n env = pure false := by
  cases e <;> first | rfl | cases h
def nameOk (j : Jp) (x : Str) : Bool := j.I.cs.names.lookup x == some .local && !(x == ("__debug__" : Str))
theorem nameOk.kind {j : Jp} {x : Str} (h : nameOk j x = true) : j.I.cs.names.lookup x = some .local ∧ (x == ("__debug__" : Str)) = false := by
  unfold nameOk at h
  rw [Bool.and_eq_true] at h
  exact ⟨by simpa using h.1, by simpa using h.2⟩
section
variable {j : Jp} {l : Loc} {W fz : Led} {e e' : PySem.Expr} {v : Vl} {pos : Pos}
theorem PV.name {x : Str} (hv : l.lookup x = some v) (hx : nameOk j x = true) : PV j l W fz (.Name x pos) v := by
  intro c ok h g dr t o s QQ E K
  obtain ⟨m, F, hm⟩ := s.F
  obtain ⟨u, hu, iu⟩ := hm x v hv
  exact nameX_L F hu (K u h t iu s) ok.kd (nameOk.kind hx).1 (nameOk.kind hx).2
theorem PV.int {k : Nat} {i : Int} : PV j l W fz (.Constant (.int i) k pos) (.int i) := fun _ _ _ _ _ _ _ s _ _ K => wpAny_Constant_int (K _ _ _ ⟨_, rfl⟩ s)
theorem PV.str {k : Nat} {x : Str} : PV j l W fz (.Constant (.str x) k pos) (.str x) := fun _ _ _ _ _ _ _ s _ _ K => Constant_str (K _ _ _ ⟨_, rfl⟩ s)
theorem PV.bool {k : Nat} {b : Bool} : PV j l W fz (.Constant (.bool b) k pos) (.bool b) := fun _ _ _ _ _ _ _ s _ _ K => Constant_bool (K _ _ _ rfl s)
theorem PV.none {k : Nat} : PV j l W fz (.Constant .none k pos) .none := fun _ _ _ _ _ _ _ s _ _ K => wpAny_Constant_none (K _ _ _ rfl s)
theorem PV.neg {i : Int} (p : PV j l W fz e (.int i)) : PV j l W fz (.UnaryOp .USub e pos) (.int (-i)) := fun c ok h g dr t o s QQ E K =>
  UnaryOp_ (p c ok h g dr t o s _ E fun u h' t' iu s' => by obtain ⟨_, rfl⟩ := iu; exact neg_int (K _ _ _ ⟨_, rfl⟩ s'))
section
variable {a b : Int}
theorem PV.add (p : PV j l W fz e (.int a)) (q : PV j l W fz e' (.int b)) : PV j l W fz (.BinOp e .Add e' pos) (.int (a + b)) := fun c ok h g dr t o s QQ E K =>
  wpAny_BinOp (p c ok h g dr t o s _ E fun u h' t' iu s' => q c ok h' g dr t' o s' _ E fun u' h'' t'' iu' s'' => by obtain ⟨_, rfl⟩ := iu; obtain ⟨_, rfl⟩ := iu'; exact add_int (K _ _ _ ⟨_, rfl⟩ s''))
theorem PV.sub (p : PV j l W fz e (.int a)) (q : PV j l W fz e' (.int b)) : PV j l W fz (.BinOp e .Sub e' pos) (.int (a - b)) := fun c ok h g dr t o s QQ E K =>
  wpAny_BinOp (p c ok h g dr t o s _ E fun u h' t' iu s' => q c ok h' g dr t' o s' _ E fun u' h'' t'' iu' s'' => by obtain ⟨_, rfl⟩ := iu; obtain ⟨_, rfl⟩ := iu'; exact sub_int (K _ _ _ ⟨_, rfl⟩ s''))
theorem PV.mul (p : PV j l W fz e (.int a)) (q : PV j l W fz e' (.int b)) (z : IntMulOk a b) : PV j l W fz (.BinOp e .Mult e' pos) (.int (a * b)) := fun c ok h g dr t o s QQ E K =>
  wpAny_BinOp (p c ok h g dr t o s _ E fun u h' t' iu s' => q c ok h' g dr t' o s' _ E fun u' h'' t'' iu' s'' => by obtain ⟨_, rfl⟩ := iu; obtain ⟨_, rfl⟩ := iu'; exact mul_int (K _ _ _ ⟨_, rfl⟩ s'') z)
end
theorem PV.mod {a b : Int} (p : PV j l W fz e (.int a)) (q : PV j l W fz e' (.int b)) (z : b ≠ 0) : PV j l W fz (.BinOp e .Mod e' pos) (.int (a.fmod b)) := fun c ok h g dr t o s QQ E K =>
  wpAny_BinOp (p c ok h g dr t o s _ E fun u h' t' iu s' => q c ok h' g dr t' o s' _ E fun u' h'' t'' iu' s'' => by obtain ⟨_, rfl⟩ := iu; obtain ⟨_, rfl⟩ := iu'; exact mod_int' z (K _ _ _ ⟨_, rfl⟩ s''))
theorem PV.fdiv {a b : Int} (p : PV j l W fz e (.int a)) (q : PV j l W fz e' (.int b)) (z : b ≠ 0) (y : Builtin.divisionGoesByPylong a b = false) : PV j l W fz (.BinOp e .FloorDiv e' pos) (.int (a.fdiv b)) := fun c ok h g dr t o s QQ E K =>
  wpAny_BinOp (p c ok h g dr t o s _ E fun u h' t' iu s' => q c ok h' g dr t' o s' _ E fun u' h'' t'' iu' s'' => by obtain ⟨_, rfl⟩ := iu; obtain ⟨_, rfl⟩ := iu'; exact floordiv_int z (K _ _ _ ⟨_, rfl⟩ s'') (.inl y))
theorem PV.pow {a n : Int} (p : PV j l W fz e (.int a)) (q : PV j l W fz e' (.int n)) (z1 : 0 ≤ n) (z2 : n ≤ 1000000) (z3 : a.natAbs < 2 ^ 64) : PV j l W fz (.BinOp e .Pow e' pos) (.int (a ^ n.toNat)) := fun c ok h g dr t o s QQ E K =>
  wpAny_BinOp (p c ok h g dr t o s _ E fun u h' t' iu s' => q c ok h' g dr t' o s' _ E fun u' h'' t'' iu' s'' => by obtain ⟨_, rfl⟩ := iu; obtain ⟨_, rfl⟩ := iu'; exact pow_int_small z1 z2 z3 (K _ _ _ ⟨_, rfl⟩ s''))
end
/- an instance's names -/
section
variable {w : World}
theorem Vl.handed {v : Vl} {u : Value} (h : v.is u) : handedIn u = true := by
  cases v <;> simp only [Vl.is] at h
  · subst h; rfl
  · subst h; rfl
  · obtain ⟨_, rfl⟩ := h; rfl
  · obtain ⟨_, rfl⟩ := h; rfl
  · subst h; rfl
theorem strEq {x y : Str} : Value.isStr (.str x t) y = (y == x) := by
  show (x == y) = _
  exact Bool.eq_iff_iff.mpr ⟨fun h => by rw [beq_iff_eq] at h ⊢; exact h.symm, fun h => by rw [beq_iff_eq] at h ⊢; exact h.symm⟩
theorem EsIs.noRef {es : List (Str × Vl)} {ds : List DictEntry} (h : EsIs w es ds) : ds.any (·.refKey) = false := by
  induction h with
  | nil => rfl
  | cons _ _ ih => rw [List.any_cons, ih]; rfl
theorem EsIs.find {es : List (Str × Vl)} {ds : List DictEntry} (h : EsIs w es ds) (x : Str) :
    (∀ v, es.lookup x = some v → ∃ e, ds.find? (·.key.isStr x) = some e ∧ v.is e.val) ∧ (es.lookup x = none → ds.find? (·.key.isStr x) = none) := by
  induction h with
  | nil => exact ⟨fun v e => (by cases e), fun _ => rfl⟩
  | @cons y t v' u es ds a h ih =>
    rw [List.find?_cons, List.lookup_cons]
    have hk : (DictEntry.key ⟨PyData.keyHash w.params y, .str y t, u⟩).isStr x = (x == y) := strEq
    rw [hk]
    cases x == y with
    | true => exact ⟨fun v e => by cases e; exact ⟨_, rfl, a⟩, fun e => by cases e⟩
    | false => exact ih
theorem EsIs.get {es : List (Str × Vl)} {ds : List DictEntry} (h : EsIs w es ds) {x : Str} {v : Vl} (e : es.lookup x = some v) : ∃ u, getL x ds = some (some u) ∧ v.is u := by
  obtain ⟨d, h1, h2⟩ := (h.find x).1 v e
  exact ⟨d.val, by unfold getL; rw [h1], h2⟩
theorem EsIs.miss {es : List (Str × Vl)} {ds : List DictEntry} (h : EsIs w es ds) {x : Str} (e : es.lookup x = none) : getL x ds = some none := by
  unfold getL
  rw [(h.find x).2 e, h.noRef]
  rfl
/-- a name set: its value changed where it stands, or put behind the rest -/
def setE (x : Str) (v : Vl) : List (Str × Vl) → List (Str × Vl)
  | [] => [(x, v)]
  | (y, u) :: r => if y == x then (y, v) :: r else (y, u) :: setE x v r
theorem EsIs.put {es : List (Str × Vl)} {ds : List DictEntry} (h : EsIs w es ds) (x : Str) (t : Tok) {v : Vl} {u : Value} (a : v.is u) : EsIs w (setE x v es) (putL x (PyData.keyHash w.params x) (.str x t) u ds) := by
  induction h with
  | nil => exact .cons a .nil
  | @cons y t' v' u' es ds b h ih =>
    unfold setE putL
    have hk : (Value.str y t').isStr x = (y == x) := rfl
    show EsIs w _ (if (Value.str y t').isStr x = true then _ else _)
    rw [hk]
    cases y == x with
    | true => exact .cons a h
    | false => exact .cons b ih
theorem EsIs.length {es : List (Str × Vl)} {ds : List DictEntry} (h : EsIs w es ds) : ds.length = es.length := by
  induction h with
  | nil => rfl
  | cons _ _ ih => rw [List.length_cons, List.length_cons, ih]
end
/- items of a list, of a tuple -/
def IxV (vs : List Vl) (k : Int) (v : Vl) : Prop :=
  (0 ≤ k ∧ k < 2 ^ 63 ∧ vs[k.toNat]? = some v) ∨ (k < 0 ∧ -(vs.length : Int) ≤ k ∧ -(2 ^ 63) ≤ k ∧ vs[(k + vs.length).toNat]? = some v)
theorem IxV.at {vs : List Vl} {us : List Value} {k : Int} {v : Vl} (h : IxV vs k v) (a : AllIs vs us) : ∃ u, IxAt us k u ∧ v.is u := by
  rcases h with ⟨h1, h2, h3⟩ | ⟨h1, h2, h3, h4⟩
  · obtain ⟨u, e, i⟩ := a.get h3
    exact ⟨u, .inl ⟨h1, h2, e⟩, i⟩
  · obtain ⟨u, e, i⟩ := a.get h4
    rw [a.length] at h2 e
    exact ⟨u, .inr ⟨h1, h2, h3, e⟩, i⟩
theorem IxV.last {vs : List Vl} {v : Vl} : IxV (vs ++ [v]) (-1) v := by
  refine .inr ⟨by decide, ?_, by decide, ?_⟩
  · rw [List.length_append, List.length_singleton]; omega
  · have e : (-1 + ((vs ++ [v]).length : Int)).toNat = vs.length := by rw [List.length_append, List.length_singleton]; omega
    rw [e]; simp
theorem IxV.zero {vs : List Vl} {v : Vl} : IxV (v :: vs) 0 v := .inl ⟨by decide, by decide, rfl⟩
theorem IxV.one {vs : List Vl} {v y : Vl} : IxV (y :: v :: vs) 1 v := .inl ⟨by decide, by decide, rfl⟩
theorem IxV.two {vs : List Vl} {v y z : Vl} : IxV (y :: z :: v :: vs) 2 v := .inl ⟨by decide, by decide, rfl⟩
theorem IxV.three {vs : List Vl} {v y z x : Vl} : IxV (y :: z :: x :: v :: vs) 3 v := .inl ⟨by decide, by decide, rfl⟩
theorem IxV.to {vs : List Vl} {v : Vl} {k k' : Int} (h : IxV vs k v) (e : k' = k) : IxV vs k' v := e ▸ h
theorem IxV.of {vs : List Vl} {v : Vl} {k : Nat} (h : vs[k]? = some v) (hz : vs.length ≤ 1000000) : IxV vs k v := by
  have : k < vs.length := (List.getElem?_eq_some_iff.mp h).1
  exact .inl ⟨by omega, by omega, by simpa using h⟩
theorem IxV.mid {vs ws : List Vl} {v : Vl} {k : Int} (hk : k = vs.length) (hs : vs.length ≤ 1000000) : IxV (vs ++ v :: ws) k v := by
  subst hk
  exact .inl ⟨Int.natCast_nonneg _, by omega, by simp⟩
section
variable {j : Jp} {l : Loc} {W fz : Led} {e e' : PySem.Expr} {v : Vl} {pos : Pos} {h : Heap} {c : Ctx}
theorem memX {W fz tl X : Led} {p : Addr × Dsc} (m : p ∈ W ++ (fz ++ tl)) : p ∈ W ++ (fz ++ (tl ++ X)) := by
  rw [← List.append_assoc fz, ← List.append_assoc W]
  exact List.mem_append_left _ m
theorem St.has (s : St c j.tl l W fz h) {a : Addr} {D : Dsc} (m : (a, D) ∈ W ++ (fz ++ j.tl)) : ∃ o, D o ∧ News c.h₀ c.L h [(a, o)] := s.N.one (memX m)
theorem St.inst (s : St c j.tl l W fz h) {z d C : Addr} {es : List (Str × Vl)} (m1 : (z, dInst C d) ∈ W ++ (fz ++ j.tl)) (m2 : (d, dDct j.w es) ∈ W ++ (fz ++ j.tl)) :
    ∃ ds n, EsIs j.w es ds ∧ PySem.W.InstAt h z (instObj C d) C (some (dictOf ds n)) := by
  obtain ⟨o, rfl, n1⟩ := St.has s m1
  obtain ⟨o', ⟨ds, n, rfl, hd⟩, n2⟩ := St.has s m2
  exact ⟨ds, n, hd, PySem.W.InstAt.of_news (Mine.News.two n1 n2) (.head _) (.tail _ (.head _))⟩
/-- a local's own field: the instance and its names stand in the ledger -/
theorem PV.attr {z d C : Addr} {es : List (Str × Vl)} {x : Str} {attr : Option Value} (p : PV j l W fz e (.ref z)) (m1 : (z, dInst C d) ∈ W ++ (fz ++ j.tl)) (m2 : (d, dDct j.w es) ∈ W ++ (fz ++ j.tl)) (k5 : es.lookup x = some v)
    (k1 : plainGet (Mine.hk.heap_1 j.w.params) C x = true) (k2 : hasDictIn (Mine.hk.heap_1 j.w.params) C = true) (k3 : findIn (Mine.hk.heap_1 j.w.params) (.ref C) x = some attr) (k4 : noGet (Mine.hk.heap_1 j.w.params) attr = true) (he : plainBase e = true) : PV j l W fz (.Attribute e x pos) v := by
  intro c ok h g dr t o s QQ E K
  refine Attribute_any_ (p c ok h g dr t o s _ E fun u h' t' iu s' => ?_) (attr_of he _ _ _)
  cases iu
  obtain ⟨m, F, hm⟩ := s'.F
  obtain ⟨ds, n, hd, I⟩ := St.inst s' m1 m2
  obtain ⟨u, hu, iu⟩ := hd.get k5
  exact get_own F ok.K I k1 k2 k3 k4 hu (Vl.handed iu) (K _ _ _ iu s')
theorem PV.item {z : Addr} {vs : List Vl} {k : Int} (p : PV j l W fz e (.ref z)) (q : PV j l W fz e' (.int k)) (m : (z, dLst vs) ∈ W ++ (fz ++ j.tl)) (hk : IxV vs k v) (hs : notSlice e' = true) : PV j l W fz (.Subscript e e' pos) v := by
  intro c ok h g dr t o s QQ E K
  refine Subscript_ (p c ok h g dr t o s _ E fun u h' t' iu s' => q c ok h' g dr t' o s' _ E fun u' h'' t'' iu' s'' => ?_)
  cases iu
  obtain ⟨_, rfl⟩ := iu'
  obtain ⟨o', ⟨us, n, rfl, a⟩, n1⟩ := St.has s'' m
  obtain ⟨x, hx, ix⟩ := hk.at a
  exact item_own n1 (.head _) hx (K _ _ _ ix s'') (sub_of hs _ _)
theorem PV.itemT {z : Addr} {vs : List Vl} {k : Int} (p : PV j l W fz e (.ref z)) (q : PV j l W fz e' (.int k)) (m : (z, dTup vs) ∈ W ++ (fz ++ j.tl)) (hk : IxV vs k v) (hs : notSlice e' = true) : PV j l W fz (.Subscript e e' pos) v := by
  intro c ok h g dr t o s QQ E K
  refine Subscript_ (p c ok h g dr t o s _ E fun u h' t' iu s' => q c ok h' g dr t' o s' _ E fun u' h'' t'' iu' s'' => ?_)
  cases iu
  obtain ⟨_, rfl⟩ := iu'
  obtain ⟨o', ⟨us, n, rfl, a⟩, n1⟩ := St.has s'' m
  obtain ⟨x, hx, ix⟩ := hk.at a
  exact itup_own n1 (.head _) hx (K _ _ _ ix s'') (sub_of hs _ _)
/- comparisons -/
variable {a b : Int} {x y : Str}
theorem PC.eqI (p : PV j l W fz e (.int a)) (q : PV j l W fz e' (.int b)) : PC j l W fz .Eq e e' (a == b) := fun c ok h g dr t o s QQ E K =>
  p c ok h g dr t o s _ E fun u h' t' iu s' => q c ok h' g dr t' o s' _ E fun u' h'' t'' iu' s'' => by obtain ⟨_, rfl⟩ := iu; obtain ⟨_, rfl⟩ := iu'; exact eq_int (K _ _ s'')
theorem PC.neI (p : PV j l W fz e (.int a)) (q : PV j l W fz e' (.int b)) : PC j l W fz .NotEq e e' (a != b) := fun c ok h g dr t o s QQ E K =>
  p c ok h g dr t o s _ E fun u h' t' iu s' => q c ok h' g dr t' o s' _ E fun u' h'' t'' iu' s'' => by obtain ⟨_, rfl⟩ := iu; obtain ⟨_, rfl⟩ := iu'; exact ne_int (K _ _ s'')
theorem PC.ltI (p : PV j l W fz e (.int a)) (q : PV j l W fz e' (.int b)) : PC j l W fz .Lt e e' (decide (a < b)) := fun c ok h g dr t o s QQ E K =>
  p c ok h g dr t o s _ E fun u h' t' iu s' => q c ok h' g dr t' o s' _ E fun u' h'' t'' iu' s'' => by obtain ⟨_, rfl⟩ := iu; obtain ⟨_, rfl⟩ := iu'; exact lt_int (K _ _ s'')
theorem PC.gtI (p : PV j l W fz e (.int a)) (q : PV j l W fz e' (.int b)) : PC j l W fz .Gt e e' (decide (b < a)) := fun c ok h g dr t o s QQ E K =>
  p c ok h g dr t o s _ E fun u h' t' iu s' => q c ok h' g dr t' o s' _ E fun u' h'' t'' iu' s'' => by obtain ⟨_, rfl⟩ := iu; obtain ⟨_, rfl⟩ := iu'; exact gt_int (K _ _ s'')
theorem PC.geI (p : PV j l W fz e (.int a)) (q : PV j l W fz e' (.int b)) : PC j l W fz .GtE e e' (decide (b ≤ a)) := fun c ok h g dr t o s QQ E K =>
  p c ok h g dr t o s _ E fun u h' t' iu s' => q c ok h' g dr t' o s' _ E fun u' h'' t'' iu' s'' => by obtain ⟨_, rfl⟩ := iu; obtain ⟨_, rfl⟩ := iu'; exact ge_int (K _ _ s'')
theorem PC.eqS (p : PV j l W fz e (.str x)) (q : PV j l W fz e' (.str y)) : PC j l W fz .Eq e e' (x == y) := fun c ok h g dr t o s QQ E K =>
  p c ok h g dr t o s _ E fun u h' t' iu s' => q c ok h' g dr t' o s' _ E fun u' h'' t'' iu' s'' => by obtain ⟨_, rfl⟩ := iu; obtain ⟨_, rfl⟩ := iu'; exact eq_str (K _ _ s'')
theorem PC.neS (p : PV j l W fz e (.str x)) (q : PV j l W fz e' (.str y)) : PC j l W fz .NotEq e e' (x != y) := fun c ok h g dr t o s QQ E K =>
  p c ok h g dr t o s _ E fun u h' t' iu s' => q c ok h' g dr t' o s' _ E fun u' h'' t'' iu' s'' => by obtain ⟨_, rfl⟩ := iu; obtain ⟨_, rfl⟩ := iu'; exact ne_str (K _ _ s'')
theorem PC.neB {a b : Bool} (p : PV j l W fz e (.bool a)) (q : PV j l W fz e' (.bool b)) : PC j l W fz .NotEq e e' (a != b) := fun c ok h g dr t o s QQ E K =>
  p c ok h g dr t o s _ E fun u h' t' iu s' => q c ok h' g dr t' o s' _ E fun u' h'' t'' iu' s'' => by cases iu; cases iu'; exact ne_bool (K _ _ s'')
theorem PC.isN (p : PV j l W fz e .none) (q : PV j l W fz e' .none) : PC j l W fz .Is e e' true := fun c ok h g dr t o s QQ E K =>
  p c ok h g dr t o s _ E fun u h' t' iu s' => q c ok h' g dr t' o s' _ E fun u' h'' t'' iu' s'' => by cases iu; cases iu'; exact is_none_none (K _ _ s'')
theorem PT.cmp {op : CmpOp} {b : Bool} (p : PC j l W fz op e e' b) (hb : behindInMarks op e' = false) : PT j l W fz (.Compare e [op] [e'] pos) b := fun c ok h g dr t o s QQ E K =>
  wpAny_isTrue_Compare1 (p c ok h g dr t o s _ E fun h' t' s' => wpAny_truthy_bool (K _ _ s')) hb
theorem PV.cmp {op : CmpOp} {b : Bool} (p : PC j l W fz op e e' b) (hb : behindInMarks op e' = false) : PV j l W fz (.Compare e [op] [e'] pos) (.bool b) := fun c ok h g dr t o s QQ E K =>
  wpAny_Compare1 (p c ok h g dr t o s _ E fun h' t' s' => K _ _ _ rfl s') hb
theorem PT.bop {op : BoolOp} {es : List PySem.Expr} {b : Bool} (p : PO j l W fz op es b) : PT j l W fz (.BoolOp op es pos) b := fun c ok h g dr t o s QQ E K => p c ok h g dr t o s _ _ QQ E K
theorem PO.orT {es : List PySem.Expr} (p : PT j l W fz e true) : PO j l W fz .Or (e :: es) true := fun c ok h g dr t o s z pos QQ E K =>
  isTrue_or (p c ok h g dr t o s _ E fun h' t' s' => by rw [if_pos rfl]; exact K _ _ s')
theorem PO.orF {es : List PySem.Expr} {b : Bool} (p : PT j l W fz e false) (q : PO j l W fz .Or es b) : PO j l W fz .Or (e :: es) b := fun c ok h g dr t o s z pos QQ E K =>
  isTrue_or (p c ok h g dr t o s _ E fun h' t' s' => by rw [if_neg (by decide)]; exact q c ok _ g dr _ o s' _ _ QQ E K)
theorem PO.orN : PO j l W fz .Or [] false := fun c ok h g dr t o s z pos QQ E K => isTrue_or_nil (K _ _ s)
theorem PO.andF {es : List PySem.Expr} (p : PT j l W fz e false) : PO j l W fz .And (e :: es) false := fun c ok h g dr t o s z pos QQ E K =>
  isTrue_and (p c ok h g dr t o s _ E fun h' t' s' => by rw [if_neg (by decide)]; exact K _ _ s')
theorem PO.andT {es : List PySem.Expr} {b : Bool} (p : PT j l W fz e true) (q : PO j l W fz .And es b) : PO j l W fz .And (e :: es) b := fun c ok h g dr t o s z pos QQ E K =>
  isTrue_and (p c ok h g dr t o s _ E fun h' t' s' => by rw [if_pos rfl]; exact q c ok _ g dr _ o s' _ _ QQ E K)
theorem PO.andN : PO j l W fz .And [] true := fun c ok h g dr t o s z pos QQ E K => isTrue_and_nil (K _ _ s)
/-- or, and of tests whose answers are known letters -/
theorem PO.or {es : List PySem.Expr} {b b' : Bool} (p : PT j l W fz e b) (q : PO j l W fz .Or es b') : PO j l W fz .Or (e :: es) (b || b') := by
  cases b with
  | true => exact PO.orT p
  | false => exact PO.orF p q
theorem PO.and {es : List PySem.Expr} {b b' : Bool} (p : PT j l W fz e b) (q : PO j l W fz .And es b') : PO j l W fz .And (e :: es) (b && b') := by
  cases b with
  | true => exact PO.andT p q
  | false => exact PO.andF p
/-- a value that is a bool, as a test -/
def plainTest : PySem.Expr → Bool | .UnaryOp .Not .. | .BoolOp .. | .IfExp .. | .Compare .. => false | _ => true
theorem plain_of {e : PySem.Expr} (h : plainTest e = true) (env : Env) (z : Sem Value) : PySem.isTrue e env z = (do let v ← z; standAt e.pos; holding [v] (truthy v)) := by
  cases e <;> first | rfl | (cases h; done) | skip
  rename_i op x p
  cases op <;> first | rfl | cases h
theorem PL.nil : PL j l W fz [] [] := fun c ok h g dr t o s pos QQ E K => args_nil (K _ _ _ .nil s)
theorem PL.cons {es : List PySem.Expr} {vs : List Vl} (p : PV j l W fz e v) (q : PL j l W fz es vs) (hs : notStar e = true) : PL j l W fz (e :: es) (v :: vs) := fun c ok h g dr t o s pos QQ E K =>
  args_cons (p c ok h g dr t o s _ E fun u h' t' iu s' => q c ok h' g dr t' o s' pos _ E fun us h'' t'' ius s'' => K _ _ _ (.cons iu ius) s'') (star_of hs _ _)
end
end Mine
end
section
open PySem PySem.W PyProof.Rows PySem.Calls
set_option maxRecDepth 100000
set_option Elab.async false
namespace Mine
inductive Fl | next | brk | cont | ret (v : Vl)
def Fl.is : Fl → Flow → Prop
  | .next, f => f = .next
  | .brk, f => f = .brk
  | .cont, f => f = .cont
  | .ret v, f => ∃ u, f = .ret u ∧ v.is u
/-- statements -/
def JX (j : Jp) (l : Loc) (W fz : Led) (ss : List Stmt) (Q : Fl → Loc → Led → Led → Prop) : Prop :=
  ∀ c : Ctx, c.Ok j → ∀ h g dr t o, St c j.tl l W fz h → ∀ (QQ : Flow → Shared → Prop) (E : Value → Shared → Prop), PassesOwn (model pg j.w) c.A (j.I.env c.L) E → (∀ f f' l' W' fz' h' t', f.is f' → St c j.tl l' W' fz' h' → Q f l' W' fz' → QQ f' ⟨h', g, dr, t', o⟩) →
    wpAny (model pg j.w) c.A (execs ss (j.I.env c.L)) QQ E ⟨h, g, dr, t, o⟩
/-- a call of a def of the program's, wherever it stands -/
def JC (w : World) (d u : Nat) (tl W fz : Led) (f : Addr) (vs : List Vl) (Q : Vl → Led → Led → Prop) : Prop :=
  ∀ (I : Fn) (l : Loc) (c : Ctx), c.Ok ⟨w, d, u, I, tl⟩ → ∀ h g dr t o, St c tl l W fz h → ∀ us, AllIs vs us → ∀ QQ E : Value → Shared → Prop, (∀ v u W' fz' h' t', v.is u → St c tl l W' fz' h' → Q v W' fz' → QQ u ⟨h', g, dr, t', o⟩) →
    wpAny (model pg w) c.A (call (.ref f) us) QQ E ⟨h, g, dr, t, o⟩
theorem Ctx.Ok.more {c : Ctx} {w : World} {d u d' u' : Nat} {I : Fn} {tl : Led} (h : c.Ok ⟨w, d, u, I, tl⟩) (h1 : d ≤ d') (h2 : u ≤ u') : c.Ok ⟨w, d', u', I, tl⟩ := ⟨h.B, h.K, h.T, h.fr, h.hd, h.kd, Nat.le_trans h.dp h1, Nat.le_trans h.un h2⟩
theorem Ctx.Ok.tl {c : Ctx} {w : World} {d u : Nat} {I : Fn} {tl tl' : Led} (h : c.Ok ⟨w, d, u, I, tl⟩) : c.Ok ⟨w, d, u, I, tl'⟩ := ⟨h.B, h.K, h.T, h.fr, h.hd, h.kd, h.dp, h.un⟩
theorem JC.more {w : World} {d u d' u' : Nat} {tl W fz : Led} {f : Addr} {vs : List Vl} {Q : Vl → Led → Led → Prop} (p : JC w d' u' tl W fz f vs Q) (h1 : Nat.ble d d' = true) (h2 : Nat.ble u u' = true) : JC w d u tl W fz f vs Q :=
  fun I l c ok => p I l c (ok.more (Nat.le_of_ble_eq_true h1) (Nat.le_of_ble_eq_true h2))
/- names bound at a call -/
inductive LsIs : Loc → List (Str × Value) → Prop
  | nil : LsIs [] []
  | cons {x v u l m} : Vl.is v u → LsIs l m → LsIs ((x, v) :: l) ((x, u) :: m)
theorem LsIs.loc {l : Loc} {m : List (Str × Value)} (h : LsIs l m) : LocIs l (fun y => m.lookup y) := by
  induction h with
  | nil => intro y v e; cases e
  | @cons x v u l m a h ih =>
    intro y v' e
    rw [List.lookup_cons] at e
    show ∃ u', List.lookup y _ = _ ∧ _
    rw [List.lookup_cons]
    cases hb : (y == x) with
    | true => rw [hb] at e; cases e; exact ⟨u, rfl, a⟩
    | false => rw [hb] at e; exact ih y v' e
theorem LocIs.store {l : Loc} {m : Str → Option Value} (h : LocIs l m) {x : Str} {v : Vl} {u : Value} (a : v.is u) : LocIs ((x, v) :: l) (fun y => if y = x then some u else m y) := by
  intro y v' e
  rw [List.lookup_cons] at e
  show ∃ u', (if y = x then some u else m y) = _ ∧ _
  cases hb : (y == x) with
  | true => rw [hb] at e; cases e; rw [if_pos (beq_iff_eq.mp hb)]; exact ⟨u, rfl, a⟩
  | false => rw [hb] at e; rw [if_neg (fun q => by rw [beq_iff_eq.mpr q] at hb; cases hb)]; exact h y v' e
/-- what a body's end hands to the caller -/
def retQ (Q : Vl → Led → Led → Prop) (f : Fl) (_ : Loc) (W fz : Led) : Prop := match f with | .ret v => Q v W fz | _ => Q .none W fz
theorem retQ.ret {Q : Vl → Led → Led → Prop} {v : Vl} {l : Loc} {W fz : Led} (q : Q v W fz) : retQ Q (.ret v) l W fz := q
theorem JC.enter {w : World} {d u : Nat} {tl W fz : Led} {f : Addr} {vs : List Vl} {Q : Vl → Led → Led → Prop} {name qual : Str} {params : Arguments} {body : List Stmt} {scope : Scope} {dV kV doc pm cdv ct oc : Value} {an od : Option Addr} {osl : Array (Option Value)} {l0 : Loc}
    (ho : (Mine.hk.heap_1 w.params).lookup f = some ⟨oc, od, .func (fnOf name qual params body scope dV kV doc pm an cdv ct), osl⟩) (hcd : codeIn (Mine.hk.heap_1 w.params) cdv qual = true) (hd : Nat.blt d recursionLimit = true)
    (hb : ∀ us, AllIs vs us → ∃ bs, (∀ s : Shared, (Mine.hk.heap_1 w.params).In s.heap → BindsTo s (fnOf name qual params body scope dV kV doc pm an cdv ct) ⟨us, []⟩ bs) ∧ LsIs l0 bs.reverse ∧ ∀ y ∈ bs, scope.names.lookup y.1 = some .local)
    (hco : scope.isCoroutine = false) (hgen : scope.isGenerator = false) (hk : scope.kind = .function) (hcell : scope.names.all (fun x => x.2 != .cell) = true)
    (H : JX ⟨w, d + 1, u + 3, ⟨qual, scope, f, cdv, fun _ => []⟩, tl⟩ l0 W fz body (retQ Q)) : JC w d u tl W fz f vs Q := by
  intro I l c ok h g dr t o s us a QQ E K
  obtain ⟨bs, hB, hl, hloc⟩ := hb us a
  obtain ⟨m, F, hm⟩ := s.F
  obtain ⟨N, P, n⟩ := s.N.pairs
  have hdp : c.A.depth < recursionLimit := Nat.lt_of_le_of_lt ok.dp (by simpa [Nat.blt_eq] using hd)
  refine wpAny_call (code_def ok.B F ok.K n ok.T ok.fr rfl ok.kd ho hcd hdp (hB _ (ok.K.keeps F.keep)) hloc (fun G L' h₁ FG F' N' B' X' T' => ?_) hco hgen hk (fun x hx => by have := List.all_eq_true.mp hcell x hx; simpa [bne] using this))
  refine H ⟨c.A.deeper (envOf qual scope L' f cdv), c.A, c.base, G, I.env c.L :: c.outer, L', c.mg, c.mb, c.p, c.loose, c.mean, c.X⟩
    ⟨B', X', T', Around.frames_deeper ok.fr, ok.hd, hk, Nat.add_le_add_right ok.dp 1, Nat.add_le_add_right ok.un 3⟩ _ _ _ _ _ ⟨⟨_, F', hl.loc⟩, P.news N', s.D, s.O⟩ _ _ PassesOwn.leaving fun fl f' l' W' fz' h' t' hf s' q => ?_
  obtain ⟨m', F'', hm'⟩ := s'.F
  obtain ⟨N'', P', n'⟩ := s'.N.pairs
  refine leaveK_ F'' n' fun Fb Nb => ?_
  have back : St c tl l W' fz' h' := ⟨⟨m, Fb, hm⟩, P'.news Nb, s'.D, s'.O⟩
  cases fl with
  | ret v => obtain ⟨x, rfl, ix⟩ := hf; exact K v x W' fz' h' t' ix back q
  | next => cases hf; exact K .none _ W' fz' h' t' rfl back q
  | brk => cases hf; exact K .none _ W' fz' h' t' rfl back q
  | cont => cases hf; exact K .none _ W' fz' h' t' rfl back q
theorem bind0 {w : World} {fd : FuncData} {names : List (Str × NameKind)} (e : bindArgs fd ⟨[], []⟩ = pure []) (k : ([] : List Str).all (fun x => names.lookup x == some .local) = true) :
    ∀ us, AllIs [] us → ∃ bs, (∀ s : Shared, (Mine.hk.heap_1 w.params).In s.heap → BindsTo s fd ⟨us, []⟩ bs) ∧ LsIs [] bs.reverse ∧ ∀ y ∈ bs, names.lookup y.1 = some .local := by
  intro us a
  cases a
  refine ⟨_, fun s _ => BindsTo.of_eq (e), .nil, fun y hy => ?_⟩
  cases hy
theorem bind1 {w : World} {fd : FuncData} {names : List (Str × NameKind)} {x0 : Str} {v0 : Vl} (e : ∀ u0, bindArgs fd ⟨[u0], []⟩ = pure [(x0, u0)]) (k : [x0].all (fun x => names.lookup x == some .local) = true) :
    ∀ us, AllIs [v0] us → ∃ bs, (∀ s : Shared, (Mine.hk.heap_1 w.params).In s.heap → BindsTo s fd ⟨us, []⟩ bs) ∧ LsIs [(x0, v0)] bs.reverse ∧ ∀ y ∈ bs, names.lookup y.1 = some .local := by
  intro us a
  cases a with
  | cons a0 a =>
  cases a
  simp only [List.all_cons, List.all_nil, Bool.and_eq_true, beq_iff_eq, and_true] at k
  have k0 := k
  refine ⟨_, fun s _ => BindsTo.of_eq (e _), .cons a0 (.nil), fun y hy => ?_⟩
  simp only [List.mem_cons, List.not_mem_nil, or_false] at hy
  rcases hy with rfl
  · exact k0
theorem bind2 {w : World} {fd : FuncData} {names : List (Str × NameKind)} {x0 x1 : Str} {v0 v1 : Vl} (e : ∀ u0 u1, bindArgs fd ⟨[u0, u1], []⟩ = pure [(x0, u0), (x1, u1)]) (k : [x0, x1].all (fun x => names.lookup x == some .local) = true) :
    ∀ us, AllIs [v0, v1] us → ∃ bs, (∀ s : Shared, (Mine.hk.heap_1 w.params).In s.heap → BindsTo s fd ⟨us, []⟩ bs) ∧ LsIs [(x1, v1), (x0, v0)] bs.reverse ∧ ∀ y ∈ bs, names.lookup y.1 = some .local := by
  intro us a
  cases a with
  | cons a0 a =>
  cases a with
  | cons a1 a =>
  cases a
  simp only [List.all_cons, List.all_nil, Bool.and_eq_true, beq_iff_eq, and_true] at k
  obtain ⟨k0, k1⟩ := k
  refine ⟨_, fun s _ => BindsTo.of_eq (e _ _), .cons a1 (.cons a0 (.nil)), fun y hy => ?_⟩
  simp only [List.mem_cons, List.not_mem_nil, or_false] at hy
  rcases hy with rfl | rfl
  · exact k0
  · exact k1
theorem bind3 {w : World} {fd : FuncData} {names : List (Str × NameKind)} {x0 x1 x2 : Str} {v0 v1 v2 : Vl} (e : ∀ u0 u1 u2, bindArgs fd ⟨[u0, u1, u2], []⟩ = pure [(x0, u0), (x1, u1), (x2, u2)]) (k : [x0, x1, x2].all (fun x => names.lookup x == some .local) = true) :
    ∀ us, AllIs [v0, v1, v2] us → ∃ bs, (∀ s : Shared, (Mine.hk.heap_1 w.params).In s.heap → BindsTo s fd ⟨us, []⟩ bs) ∧ LsIs [(x2, v2), (x1, v1), (x0, v0)] bs.reverse ∧ ∀ y ∈ bs, names.lookup y.1 = some .local := by
  intro us a
  cases a with
  | cons a0 a =>
  cases a with
  | cons a1 a =>
  cases a with
  | cons a2 a =>
  cases a
  simp only [List.all_cons, List.all_nil, Bool.and_eq_true, beq_iff_eq, and_true] at k
  obtain ⟨k0, k1, k2⟩ := k
  refine ⟨_, fun s _ => BindsTo.of_eq (e _ _ _), .cons a2 (.cons a1 (.cons a0 (.nil))), fun y hy => ?_⟩
  simp only [List.mem_cons, List.not_mem_nil, or_false] at hy
  rcases hy with rfl | rfl | rfl
  · exact k0
  · exact k1
  · exact k2
theorem bind5 {w : World} {fd : FuncData} {names : List (Str × NameKind)} {x0 x1 x2 x3 x4 : Str} {v0 v1 v2 v3 v4 : Vl} (e : ∀ u0 u1 u2 u3 u4, bindArgs fd ⟨[u0, u1, u2, u3, u4], []⟩ = pure [(x0, u0), (x1, u1), (x2, u2), (x3, u3), (x4, u4)]) (k : [x0, x1, x2, x3, x4].all (fun x => names.lookup x == some .local) = true) :
    ∀ us, AllIs [v0, v1, v2, v3, v4] us → ∃ bs, (∀ s : Shared, (Mine.hk.heap_1 w.params).In s.heap → BindsTo s fd ⟨us, []⟩ bs) ∧ LsIs [(x4, v4), (x3, v3), (x2, v2), (x1, v1), (x0, v0)] bs.reverse ∧ ∀ y ∈ bs, names.lookup y.1 = some .local := by
  intro us a
  cases a with
  | cons a0 a =>
  cases a with
  | cons a1 a =>
  cases a with
  | cons a2 a =>
  cases a with
  | cons a3 a =>
  cases a with
  | cons a4 a =>
  cases a
  simp only [List.all_cons, List.all_nil, Bool.and_eq_true, beq_iff_eq, and_true] at k
  obtain ⟨k0, k1, k2, k3, k4⟩ := k
  refine ⟨_, fun s _ => BindsTo.of_eq (e _ _ _ _ _), .cons a4 (.cons a3 (.cons a2 (.cons a1 (.cons a0 (.nil))))), fun y hy => ?_⟩
  simp only [List.mem_cons, List.not_mem_nil, or_false] at hy
  rcases hy with rfl | rfl | rfl | rfl | rfl
  · exact k0
  · exact k1
  · exact k2
  · exact k3
  · exact k4
end Mine
end
section
open PySem PySem.W PyProof.Rows PySem.Calls
set_option maxRecDepth 100000
set_option Elab.async false
namespace Mine
section
variable {c : Ctx} {tl : Led} {l : Loc} {W fz : Led} {h : Heap}
theorem St.newer (s : St c tl l W fz h) : ∀ p ∈ W ++ (fz ++ (tl ++ c.X)), h.objs.size ≠ p.1 := fun p hp => by
  obtain ⟨o, _, h2, _⟩ := s.N p hp
  exact Nat.ne_of_gt (Heap.lt_size h2)
theorem Dis.cons {W F : Led} {a : Addr} {D : Dsc} (d : Dis W F) (n : ∀ p ∈ W ++ F, a ≠ p.1) : Dis ((a, D) :: W) F := by
  refine ⟨fun i k p q hp hq hn => ?_, fun p hp q hq => ?_⟩
  · cases i with
    | zero =>
      cases hp
      cases k with
      | zero => exact absurd rfl hn
      | succ k => exact n q (List.mem_append_left _ (List.mem_of_getElem? hq))
    | succ i =>
      cases k with
      | zero => cases hq; exact (n p (List.mem_append_left _ (List.mem_of_getElem? hp))).symm
      | succ k => exact d.1 i k p q hp hq (fun e => hn (congrArg Nat.succ e))
  · rcases List.mem_cons.mp hp with rfl | hp
    · exact n q (List.mem_append_right _ hq)
    · exact d.2 p hp q hq
theorem Dis.froz {W F : Led} {a : Addr} {D : Dsc} (d : Dis W F) (n : ∀ p ∈ W, a ≠ p.1) : Dis W ((a, D) :: F) := by
  refine ⟨d.1, fun p hp q hq => ?_⟩
  rcases List.mem_cons.mp hq with rfl | hq
  · exact (n p hp).symm
  · exact d.2 p hp q hq
theorem St.push (s : St c tl l W fz h) {o : Obj} {D : Dsc} (d : D o) (hf : o.isFreed = false) : St c tl l ((h.objs.size, D) :: W) fz (h.push o) := by
  obtain ⟨m, F, hm⟩ := s.F
  obtain ⟨N, P, n⟩ := s.N.pairs
  exact ⟨⟨m, F.push o, hm⟩, (Pairs.cons d P).news (n.push F o hf), s.D.cons s.newer, s.O⟩
theorem St.pushF (s : St c tl l W fz h) {o : Obj} {D : Dsc} (d : D o) (hf : o.isFreed = false) : St c tl l W ((h.objs.size, D) :: fz) (h.push o) := by
  have r := s.push (D := D) d hf
  refine ⟨r.F, r.N.mono fun p hp => ?_, s.D.froz fun p hp => s.newer p (List.mem_append_left _ hp), fun p hp q hq => ?_⟩
  · rcases List.mem_append.mp hp with hp | hp
    · exact .tail _ (List.mem_append_left _ hp)
    · rcases List.mem_cons.mp hp with rfl | hp
      · exact .head _
      · exact .tail _ (List.mem_append_right _ hp)
  · rcases List.mem_cons.mp hp with rfl | hp
    · exact s.newer q (List.mem_append_right _ (List.mem_append_right _ hq))
    · exact s.O p hp q hq
end
theorem len_fits {n : Nat} (h : Nat.ble n 1000000 = true) : n ≤ sizeLine := Nat.le_trans (Nat.le_of_ble_eq_true h) (by decide)
/-- what a display's items are made into -/
def TupQ (Q : Vl → Led → Led → Prop) (vs : List Vl) (W fz : Led) : Prop := Nat.ble vs.length 1000000 = true ∧ ∀ a, Q (.ref a) W ((a, dTup vs) :: fz)
def LstQ (Q : Vl → Led → Led → Prop) (vs : List Vl) (W fz : Led) : Prop := Nat.ble vs.length 1000000 = true ∧ ∀ a, Q (.ref a) ((a, dLst vs) :: W) fz
def AppQ (a : Addr) (Q : Vl → Led → Led → Prop) (v : Vl) (W fz : Led) : Prop := ∃ i us, W[i]? = some (a, dLst us) ∧ us.length ≤ 1000000 ∧ Q .none (W.set i (a, dLst (us ++ [v]))) fz
def nameG (j : Jp) (x : Str) : Bool := j.I.cs.names.lookup x == some .globalImplicit && !(x == ("__debug__" : Str))
theorem nameG.kind {j : Jp} {x : Str} (h : nameG j x = true) : j.I.cs.names.lookup x = some .globalImplicit ∧ (x == ("__debug__" : Str)) = false := by
  unfold nameG at h
  rw [Bool.and_eq_true] at h
  exact ⟨by simpa using h.1, by simpa using h.2⟩
def methOk (o : PySem.Expr) (args : List PySem.Expr) (apos pos : Pos) : Bool := plainBase o && (args.all notStar && (Nat.blt args.length 30 && apos.endLine == pos.line))
def plBase (o : PySem.Expr) (env : Env) : Sem Bool := do return (← importBound o env).getD true
theorem stars_form : ∀ {es : List PySem.Expr}, es.all notStar = true → ∀ (pos : Pos) (env : Env), (backTo pos (starEach es env)).all (fun x => !x.1) = true
  | [], _, _, _ => rfl
  | e :: es, h, pos, env => by
    rw [List.all_cons, Bool.and_eq_true] at h
    rw [star_of h.1]
    show (true && (backTo pos (starEach es env)).all (fun x => !x.1)) = true
    rw [stars_form h.2]; rfl
theorem meth_of {o : PySem.Expr} {args : List PySem.Expr} {apos pos : Pos} (h : methOk o args apos pos = true) (name : Str) (env : Env) :
    eval (.Call (.Attribute o name apos) args [] pos) env = (do
      let ov ← eval o env
      standAt apos.atName
      let (f, first) ← holding [ov] (getMethod ov name (plBase o env))
      callWith pos f first (backTo pos (starEach args env)) []) := by
  unfold methOk at h
  simp only [Bool.and_eq_true] at h
  obtain ⟨h1, h2, h3, h4⟩ := h
  have ha : attributeBase o name env (eval o env) = eval o env := by
    cases o <;> try rfl
    rename_i f as ks p
    cases f <;> try rfl
    cases as <;> try rfl
    cases ks <;> first | rfl | cases h1
  have hm : methodCallForm (args.length + ([] : List Keyword).length) (backTo pos (starEach args env)) (backToKw pos (keywordEach [] env)) = true := by
    show (((backTo pos (starEach args env)).all fun x => !x.1) && true && decide (args.length + 0 + 0 < 30)) = true
    rw [stars_form h2]
    have : args.length < 30 := by simpa [Nat.blt_eq] using h3
    simp [this]
  have hp : methodCallPos true o env apos pos = pure pos := by
    unfold methodCallPos
    rw [h4]; rfl
  show (do
    let ov ← attributeBase o name env (eval o env)
    standAt apos.atName
    methodCall o name apos pos env ov (args.length + ([] : List Keyword).length) (backTo pos (starEach args env)) (backToKw pos (keywordEach [] env))) = _
  rw [ha]
  unfold methodCall
  rw [hm, hp]
  rfl
section
variable {j : Jp} {l : Loc} {W fz : Led} {e e' : PySem.Expr} {v : Vl} {pos apos : Pos} {Q : Vl → Led → Led → Prop}
theorem JE.pure (p : PV j l W fz e v) (q : Q v W fz) : JE j l W fz e Q := fun c ok h g dr t o s QQ E K => p c ok h g dr t o s QQ E fun u h' t' iu s' => K v u W fz h' t' iu s' q
theorem JL.pure {es : List PySem.Expr} {vs : List Vl} {Q : List Vl → Led → Led → Prop} (p : PL j l W fz es vs) (q : Q vs W fz) : JL j l W fz es Q := fun c ok h g dr t o s pos QQ E K => p c ok h g dr t o s pos QQ E fun u h' t' iu s' => K vs u W fz h' t' iu s' q
theorem JL.cons {es : List PySem.Expr} {Q : List Vl → Led → Led → Prop} (p : JE j l W fz e (fun v W' fz' => JL j l W' fz' es (fun vs => Q (v :: vs)))) (hs : notStar e = true) : JL j l W fz (e :: es) Q := fun c ok h g dr t o s pos QQ E K =>
  args_cons (p c ok h g dr t o s _ E fun v u W' fz' h' t' iu s' q => q c ok h' g dr t' o s' pos _ E fun vs us W'' fz'' h'' t'' ius s'' q' => K _ _ _ _ _ _ (.cons iu ius) s'' q') (star_of hs _ _)
theorem JL.consP {es : List PySem.Expr} {Q : List Vl → Led → Led → Prop} (p : PV j l W fz e v) (q : JL j l W fz es (fun vs => Q (v :: vs))) (hs : notStar e = true) : JL j l W fz (e :: es) Q := JL.cons (JE.pure p q) hs
theorem JE.tup {es : List PySem.Expr} {k : Nat} (p : JL j l W fz es (TupQ Q)) : JE j l W fz (.Tuple es k pos) Q := fun c ok h g dr t o s QQ E K =>
  Tuple_ (p c ok h g dr t o s pos _ E fun vs us W' fz' h' t' a s' q => wpAny_newTuple (K (.ref _) _ _ _ _ _ rfl (s'.pushF (D := dTup vs) ⟨us, 0, rfl, a⟩ rfl) (q.2 _)) (a.length ▸ len_fits q.1))
theorem JE.lst {es : List PySem.Expr} (p : JL j l W fz es (LstQ Q)) : JE j l W fz (.List es pos) Q := fun c ok h g dr t o s QQ E K =>
  List_ (p c ok h g dr t o s pos _ E fun vs us W' fz' h' t' a s' q => wpAny_newList (K (.ref _) _ _ _ _ _ rfl (s'.push (D := dLst vs) ⟨us, 0, rfl, a⟩ rfl) (q.2 _)) (a.length ▸ len_fits q.1))
theorem JE.tupP {es : List PySem.Expr} {vs : List Vl} {k : Nat} (p : PL j l W fz es vs) (z : Nat.ble vs.length 1000000 = true) (q : ∀ a, Q (.ref a) W ((a, dTup vs) :: fz)) : JE j l W fz (.Tuple es k pos) Q := JE.tup (JL.pure p ⟨z, q⟩)
theorem JE.lstP {es : List PySem.Expr} {vs : List Vl} (p : PL j l W fz es vs) (z : Nat.ble vs.length 1000000 = true) (q : ∀ a, Q (.ref a) ((a, dLst vs) :: W) fz) : JE j l W fz (.List es pos) Q := JE.lst (JL.pure p ⟨z, q⟩)
/-- a call of a def by its name -/
theorem JE.fn {x : Str} {f : Addr} {np : Pos} {args : List PySem.Expr} (hx : nameG j x = true) (hn : nsIn (Mine.hk.heap_1 j.w.params) mainGlobals x = some (some (.ref f))) (hk : keepIn (Mine.hk.heap_1 j.w.params) (.ref f) = true) (hs : (e :: args).all notStar = true)
    (p : JL j l W fz (e :: args) (fun vs W' fz' => JC j.w j.d j.u j.tl W' fz' f vs Q)) : JE j l W fz (.Call (.Name x np) (e :: args) [] pos) Q := by
  intro c ok h g dr t o s QQ E K
  obtain ⟨m, F, hm⟩ := s.F
  rw [List.all_cons, Bool.and_eq_true] at hs
  refine Call_ (nameX_K F ok.K (topRead_of ok.T) hn ?_ ok.kd (nameG.kind hx).1 (nameG.kind hx).2)
  refine callWith_K ok.K hk (p c ok h g dr t o s pos _ E fun vs us W' fz' h' t' a s' q => ?_) (star_of hs.1 _ _) (stars_none hs.2 _ _)
  obtain ⟨m', F', _⟩ := s'.F
  exact ⟨ok.K.keeps F'.keep, q j.I l c ok h' g dr t' o s' us a QQ E K⟩
theorem JE.fn0 {x : Str} {f : Addr} {np : Pos} (hx : nameG j x = true) (hn : nsIn (Mine.hk.heap_1 j.w.params) mainGlobals x = some (some (.ref f))) (hk : keepIn (Mine.hk.heap_1 j.w.params) (.ref f) = true)
    (p : JC j.w j.d j.u j.tl W fz f [] Q) : JE j l W fz (.Call (.Name x np) [] [] pos) Q := by
  intro c ok h g dr t o s QQ E K
  obtain ⟨m, F, hm⟩ := s.F
  refine Call_ (nameX_K F ok.K (topRead_of ok.T) hn ?_ ok.kd (nameG.kind hx).1 (nameG.kind hx).2)
  exact callWith_K0 (ok.K.keeps F.keep) hk (p j.I l c ok h g dr t o s [] .nil QQ E K)
/-- a method of an instance -/
theorem JE.meth {b : PySem.Expr} {z d C f : Addr} {es : List (Str × Vl)} {x : Str} {args : List PySem.Expr} (p : PV j l W fz b (.ref z)) (m1 : (z, dInst C d) ∈ W ++ (fz ++ j.tl)) (m2 : (d, dDct j.w es) ∈ W ++ (fz ++ j.tl)) (k3 : es.lookup x = none)
    (k1 : plainGet (Mine.hk.heap_1 j.w.params) C x = true) (k2 : findIn (Mine.hk.heap_1 j.w.params) (.ref C) x = some (some (.ref f))) (k4 : isFn (Mine.hk.heap_1 j.w.params) (.ref f) = true) (hk : keepIn (Mine.hk.heap_1 j.w.params) (.ref f) = true) (ho : methOk b (e :: args) apos pos = true)
    (q : JL j l W fz (e :: args) (fun vs W' fz' => JC j.w j.d j.u j.tl W' fz' f (.ref z :: vs) Q)) : JE j l W fz (.Call (.Attribute b x apos) (e :: args) [] pos) Q := by
  intro c ok h g dr t o s QQ E K
  have hs : (e :: args).all notStar = true := by
    unfold methOk at ho
    simp only [Bool.and_eq_true] at ho
    exact ho.2.1
  rw [List.all_cons, Bool.and_eq_true] at hs
  refine MethodCall_ (p c ok h g dr t o s _ E fun u h' t' iu s' => ?_) (meth_of ho x _)
  cases iu
  obtain ⟨m, F, hm⟩ := s'.F
  obtain ⟨ds, n, hd, I⟩ := St.inst (j := j) s' m1 m2
  refine method_inst F ok.K I k1 k2 k4 (hd.miss k3) ?_
  refine callWith_K ok.K hk (q c ok _ g dr _ o s' pos _ E fun vs us W' fz' h' t' a s'' q => ?_) (star_of hs.1 _ _) (stars_none hs.2 _ _)
  obtain ⟨m', F', _⟩ := s''.F
  exact ⟨ok.K.keeps F'.keep, q j.I l c ok _ g dr _ o s'' _ (.cons rfl a) QQ E K⟩
theorem JE.meth0 {b : PySem.Expr} {z d C f : Addr} {es : List (Str × Vl)} {x : Str} (p : PV j l W fz b (.ref z)) (m1 : (z, dInst C d) ∈ W ++ (fz ++ j.tl)) (m2 : (d, dDct j.w es) ∈ W ++ (fz ++ j.tl)) (k3 : es.lookup x = none)
    (k1 : plainGet (Mine.hk.heap_1 j.w.params) C x = true) (k2 : findIn (Mine.hk.heap_1 j.w.params) (.ref C) x = some (some (.ref f))) (k4 : isFn (Mine.hk.heap_1 j.w.params) (.ref f) = true) (hk : keepIn (Mine.hk.heap_1 j.w.params) (.ref f) = true) (ho : methOk b [] apos pos = true)
    (q : JC j.w j.d j.u j.tl W fz f [.ref z] Q) : JE j l W fz (.Call (.Attribute b x apos) [] [] pos) Q := by
  intro c ok h g dr t o s QQ E K
  refine MethodCall_ (p c ok h g dr t o s _ E fun u h' t' iu s' => ?_) (meth_of ho x _)
  cases iu
  obtain ⟨m, F, hm⟩ := s'.F
  obtain ⟨ds, n, hd, I⟩ := St.inst (j := j) s' m1 m2
  refine method_inst F ok.K I k1 k2 k4 (hd.miss k3) ?_
  exact callWith_K0 (ok.K.keeps F.keep) hk (q j.I l c ok _ g dr _ o s' _ (.cons rfl .nil) QQ E K)
/- a list's own methods -/
theorem JE.append {b : PySem.Expr} {a : Addr} {us₀ : List Vl} (p : PV j l W fz b (.ref a)) (m : (a, dLst us₀) ∈ W ++ (fz ++ j.tl)) (ho : methOk b [e] apos pos = true) (q : JE j l W fz e (AppQ a Q)) :
    JE j l W fz (.Call (.Attribute b (PySem.Str.ofString "append") apos) [e] [] pos) Q := by
  intro c ok h g dr t o s QQ E K
  have hs : [e].all notStar = true := by
    unfold methOk at ho
    simp only [Bool.and_eq_true] at ho
    exact ho.2.1
  rw [List.all_cons, Bool.and_eq_true] at hs
  refine MethodCall_ (p c ok h g dr t o s _ E fun u h' t' iu s' => ?_) (meth_of ho _ _)
  cases iu
  obtain ⟨o', ⟨us, n, rfl, _⟩, n1⟩ := St.has (j := j) s' m
  refine listMethod_K n1 (.head _) PySem.F.slot_list_append PySem.F.type_list_append ?_
  refine callWith_method1 (args_cons (q c ok _ g dr _ o s' _ E fun v u W' fz' h'' t'' iv s'' q' => args_nil ?_) (star_of hs.1 _ _)) (star_of hs.1 _ _) rfl
  obtain ⟨i, ws, hi, hz, q'⟩ := q'
  obtain ⟨m', o₁, N, F', hm', n', ⟨us', n₁, rfl, a'⟩, hmem, up⟩ := s''.upd hi
  obtain ⟨N', u', done⟩ := up (listOf (us' ++ [u]).toArray (n₁ + 1))
  exact append_own F' n' u' (a'.length ▸ hz) fun h₃ F₃ n₃ => K .none _ _ _ _ _ rfl (done (dLst (ws ++ [v])) h₃ ⟨us' ++ [u], n₁ + 1, rfl, a'.app (.cons iv .nil)⟩ F₃ n₃) q'
theorem TupQ.mk {vs : List Vl} (h : Nat.ble vs.length 1000000 = true) (q : ∀ a, Q (.ref a) W ((a, dTup vs) :: fz)) : TupQ Q vs W fz := ⟨h, q⟩
theorem LstQ.mk {vs : List Vl} (h : Nat.ble vs.length 1000000 = true) (q : ∀ a, Q (.ref a) ((a, dLst vs) :: W) fz) : LstQ Q vs W fz := ⟨h, q⟩
theorem AppQ.mk {a : Addr} {us : List Vl} (i : Nat) (hi : W[i]? = some (a, dLst us)) (hz : us.length ≤ 1000000) (q : Q .none (W.set i (a, dLst (us ++ [v]))) fz) : AppQ a Q v W fz := ⟨i, us, hi, hz, q⟩
theorem AllIs.snoc {vs : List Vl} {us : List Value} {v : Vl} (a : AllIs (vs ++ [v]) us) : ∃ us' u, us = us' ++ [u] ∧ AllIs vs us' ∧ v.is u := by
  obtain ⟨x, y, rfl, hx, hy⟩ := a.split
  cases hy with
  | cons iu hy => cases hy; exact ⟨x, _, rfl, hx, iu⟩
theorem JE.pop {b : PySem.Expr} {a : Addr} {us : List Vl} (i : Nat) (p : PV j l W fz b (.ref a)) (hi : W[i]? = some (a, dLst (us ++ [v]))) (hz : us.length ≤ 1000000) (ho : methOk b [] apos pos = true) (q : Q v (W.set i (a, dLst us)) fz) :
    JE j l W fz (.Call (.Attribute b (PySem.Str.ofString "pop") apos) [] [] pos) Q := by
  intro c ok h g dr t o s QQ E K
  refine MethodCall_ (p c ok h g dr t o s _ E fun u h' t' iu s' => ?_) (meth_of ho _ _)
  cases iu
  obtain ⟨m', o₁, N, F', hm', n', ⟨us', n₁, rfl, a'⟩, hmem, up⟩ := s'.upd hi
  refine listMethod_K n' hmem PySem.F.slot_list_pop PySem.F.type_list_pop ?_
  obtain ⟨ws, u, rfl, aw, iu⟩ := a'.snoc
  obtain ⟨N', u', done⟩ := up (listOf ws.toArray (n₁ + 1))
  exact callWith_method0 (pop_own F' n' u' (aw.length ▸ hz) fun h₃ F₃ n₃ => K _ _ _ _ _ _ iu (done (dLst us) h₃ ⟨ws, n₁ + 1, rfl, aw⟩ F₃ n₃) q)
/- parts that may change the ledger -/
theorem JE.item {z : Addr} {vs : List Vl} {k : Int} (p : PV j l W fz e (.ref z)) (q : JE j l W fz e' (fun i W' fz' => ∃ k vs, i = .int k ∧ (z, dLst vs) ∈ W' ++ (fz' ++ j.tl) ∧ ∃ v, IxV vs k v ∧ Q v W' fz')) (hs : notSlice e' = true) : JE j l W fz (.Subscript e e' pos) Q := by
  intro c ok h g dr t o s QQ E K
  refine Subscript_ (p c ok h g dr t o s _ E fun u h' t' iu s' => q c ok h' g dr t' o s' _ E fun i u' W' fz' h'' t'' iu' s'' q' => ?_)
  cases iu
  obtain ⟨k, vs, rfl, m, v, hk, q'⟩ := q'
  obtain ⟨_, rfl⟩ := iu'
  obtain ⟨o', ⟨us, n, rfl, a⟩, n1⟩ := St.has (j := j) s'' m
  obtain ⟨x, hx, ix⟩ := hk.at a
  exact item_own n1 (.head _) hx (K _ _ _ _ _ _ ix s'' q') (sub_of hs _ _)
end
end Mine
end
section
open PySem PySem.W PyProof.Rows PySem.Calls
set_option maxRecDepth 100000
set_option Elab.async false
namespace Mine
/-- what follows a statement that has statements of its own -/
def thenX (j : Jp) (rest : List Stmt) (Q : Fl → Loc → Led → Led → Prop) (f : Fl) (l : Loc) (W fz : Led) : Prop := match f with | .next => JX j l W fz rest Q | f => Q f l W fz
/-- two ways -/
def CondQ (P R : Led → Led → Prop) (b : Bool) (W fz : Led) : Prop := (b = true → P W fz) ∧ (b = false → R W fz)
theorem CondQ.T {P R : Led → Led → Prop} {b : Bool} {W fz : Led} (hb : b = true) (p : P W fz) : CondQ P R b W fz := ⟨fun _ => p, fun h => (by rw [hb] at h; cases h)⟩
theorem CondQ.F {P R : Led → Led → Prop} {b : Bool} {W fz : Led} (hb : b = false) (p : R W fz) : CondQ P R b W fz := ⟨fun h => (by rw [hb] at h; cases h), fun _ => p⟩
section
variable {j : Jp} {l : Loc} {W fz : Led} {e e' : PySem.Expr} {v : Vl} {pos apos : Pos} {rest body orelse : List Stmt} {Q : Fl → Loc → Led → Led → Prop}
theorem JX.nil (q : Q .next l W fz) : JX j l W fz [] Q := fun c ok h g dr t o s QQ E hE K => wpAny_execs_nil (K .next _ _ _ _ _ _ rfl s q)
theorem JX.out (q : Q (.ret v) l W fz) : thenX j rest Q (.ret v) l W fz := q
theorem JX.ret (p : JE j l W fz e (fun v W' fz' => Q (.ret v) l W' fz')) : JX j l W fz (.Return (some e) pos :: rest) Q := fun c ok h g dr t o s QQ E hE K =>
  wpAny_execs_cons (wpAny_Return_some (p c ok h g dr t o s _ E fun v u W' fz' h' t' iu s' q => K (.ret v) _ _ _ _ _ _ ⟨u, rfl, iu⟩ s' q))
theorem JX.retP (p : PV j l W fz e v) (q : Q (.ret v) l W fz) : JX j l W fz (.Return (some e) pos :: rest) Q := JX.ret (JE.pure p q)
theorem JX.expr (p : JE j l W fz e (fun _ W' fz' => JX j l W' fz' rest Q)) (hc : notComp e = true) : JX j l W fz (.Expr e pos :: rest) Q := fun c ok h g dr t o s QQ E hE K =>
  wpAny_execs_cons (wpAny_Expr_any (p c ok h g dr t o s _ E fun v u W' fz' h' t' iu s' q => q c ok h' g dr t' o s' QQ E hE K)
    (by show (j.I.cs.kind == .module && _) = false; rw [ok.kd]; rfl) (swaps_of hc _ _ _))
theorem JX.assign {x : Str} {xp : Pos} (p : JE j l W fz e (fun v W' fz' => JX j ((x, v) :: l) W' fz' rest Q)) (hx : nameOk j x = true) (hc : notComp e = true) : JX j l W fz (.Assign [.Name x xp] e pos :: rest) Q := fun c ok h g dr t o s QQ E hE K =>
  wpAny_execs_cons (wpAny_Assign_Name (p c ok h g dr t o s _ E fun v u W' fz' h' t' iu s' q => by
    obtain ⟨m, F, hm⟩ := s'.F
    obtain ⟨N, P, n⟩ := s'.N.pairs
    exact storeX_L F n (fun h'' F' n' => q c ok h'' g dr _ o ⟨⟨_, F', hm.store iu⟩, P.news n', s'.D, s'.O⟩ QQ E hE K) ok.kd (nameOk.kind hx).1) (swaps_of hc _ _ _))
theorem JX.assignP {x : Str} {xp : Pos} (p : PV j l W fz e v) (q : JX j ((x, v) :: l) W fz rest Q) (hx : nameOk j x = true) (hc : notComp e = true) : JX j l W fz (.Assign [.Name x xp] e pos :: rest) Q := JX.assign (JE.pure p q) hx hc
theorem JX.cond (p : JT j l W fz e (CondQ (fun W' fz' => JX j l W' fz' body (thenX j rest Q)) (fun W' fz' => JX j l W' fz' orelse (thenX j rest Q)))) : JX j l W fz (.If e body orelse pos :: rest) Q := by
  intro c ok h g dr t o s QQ E hE K
  refine wpAny_execs_cons (wpAny_If (p c ok h g dr t o s _ E fun b W' fz' h' t' s' q => ?_))
  cases b with
  | true =>
    rw [if_pos rfl]
    refine q.1 rfl c ok h' g dr t' o s' _ E hE fun f f' l' W'' fz'' h'' t'' hf s'' q => ?_
    cases f with
    | next => cases hf; exact q c ok h'' g dr t'' o s'' QQ E hE K
    | brk => cases hf; exact K .brk _ _ _ _ _ _ rfl s'' q
    | cont => cases hf; exact K .cont _ _ _ _ _ _ rfl s'' q
    | ret v => obtain ⟨u, rfl, iu⟩ := hf; exact K (.ret v) _ _ _ _ _ _ ⟨u, rfl, iu⟩ s'' q
  | false =>
    rw [if_neg (by decide)]
    refine q.2 rfl c ok h' g dr t' o s' _ E hE fun f f' l' W'' fz'' h'' t'' hf s'' q => ?_
    cases f with
    | next => cases hf; exact q c ok h'' g dr t'' o s'' QQ E hE K
    | brk => cases hf; exact K .brk _ _ _ _ _ _ rfl s'' q
    | cont => cases hf; exact K .cont _ _ _ _ _ _ rfl s'' q
    | ret v => obtain ⟨u, rfl, iu⟩ := hf; exact K (.ret v) _ _ _ _ _ _ ⟨u, rfl, iu⟩ s'' q
theorem JT.pure {b : Bool} {Q : Bool → Led → Led → Prop} (p : PT j l W fz e b) (q : Q b W fz) : JT j l W fz e Q := fun c ok h g dr t o s QQ E K => p c ok h g dr t o s QQ E fun h' t' s' => K b W fz h' t' s' q
theorem JX.ifT {b : Bool} (p : PT j l W fz e b) (hb : b = true) (q : JX j l W fz body (thenX j rest Q)) : JX j l W fz (.If e body orelse pos :: rest) Q := JX.cond (JT.pure p ⟨fun _ => q, fun h => (by rw [hb] at h; cases h)⟩)
theorem JX.ifF {b : Bool} (p : PT j l W fz e b) (hb : b = false) (q : JX j l W fz orelse (thenX j rest Q)) : JX j l W fz (.If e body orelse pos :: rest) Q := JX.cond (JT.pure p ⟨fun h => (by rw [hb] at h; cases h), fun _ => q⟩)
theorem JX.ifB {b : Bool} (p : PT j l W fz e b) (q : b = true → JX j l W fz body (thenX j rest Q)) (r : b = false → JX j l W fz orelse (thenX j rest Q)) : JX j l W fz (.If e body orelse pos :: rest) Q := JX.cond (JT.pure p ⟨q, r⟩)
/-- what the setting of a field leads to -/
def SetA (j : Jp) (l : Loc) (b : PySem.Expr) (x : Str) (R : Led → Led → Prop) (v : Vl) (W fz : Led) : Prop :=
  ∃ z C d es i, PV j l W fz b (.ref z) ∧ (z, dInst C d) ∈ W ++ (fz ++ j.tl) ∧ W[i]? = some (d, dDct j.w es) ∧ Nat.ble (setE x v es).length 1000 = true ∧
    (findIn (Mine.hk.heap_1 j.w.params) (.ref C) (PySem.Str.ofString "__setattr__") = some (some (.builtin "object.__setattr__")) ∧ plainOver (Mine.hk.heap_1 j.w.params) C = true ∧ takerIn (Mine.hk.heap_1 j.w.params) C x = some none ∧ hasDictIn (Mine.hk.heap_1 j.w.params) C = true) ∧
    R (W.set i (d, dDct j.w (setE x v es))) fz
theorem SetA.mk {b : PySem.Expr} {x : Str} {R : Led → Led → Prop} {z C d : Addr} {es : List (Str × Vl)} (i : Nat) (p : PV j l W fz b (.ref z)) (m1 : (z, dInst C d) ∈ W ++ (fz ++ j.tl)) (hi : W[i]? = some (d, dDct j.w es)) (hz : Nat.ble (setE x v es).length 1000 = true)
    (k1 : findIn (Mine.hk.heap_1 j.w.params) (.ref C) (PySem.Str.ofString "__setattr__") = some (some (.builtin "object.__setattr__"))) (k2 : plainOver (Mine.hk.heap_1 j.w.params) C = true) (k3 : takerIn (Mine.hk.heap_1 j.w.params) C x = some none) (k4 : hasDictIn (Mine.hk.heap_1 j.w.params) C = true)
    (r : R (W.set i (d, dDct j.w (setE x v es))) fz) : SetA j l b x R v W fz := ⟨z, C, d, es, i, p, m1, hi, hz, ⟨k1, k2, k3, k4⟩, r⟩
theorem EsIs.isSome {w : World} {es : List (Str × Vl)} {ds : List DictEntry} (h : EsIs w es ds) (x : Str) : (getL x ds).isSome = true := by
  cases q : es.lookup x with
  | none => rw [h.miss q]; rfl
  | some v => obtain ⟨u, e, _⟩ := h.get q; rw [e]; rfl
theorem JX.setA {b : PySem.Expr} {x : Str} {ap : Pos} (p : JE j l W fz e (SetA j l b x (fun W' fz' => JX j l W' fz' rest Q))) (hc : notComp e = true) : JX j l W fz (.Assign [.Attribute b x ap] e pos :: rest) Q := by
  intro c ok h g dr t o s QQ E hE K
  refine wpAny_execs_cons (plainObj_wpAny_Assign_Attribute (p c ok h g dr t o s _ E fun v u W' fz' h' t' iu s' q => ?_) (swaps_of hc _ _ _))
  obtain ⟨z, C, d, es, i, q, m1, hi, hz, ⟨k1, k2, k3, k4⟩, r⟩ := q
  refine q c ok h' g dr t' o s' _ E fun u' h'' t'' iu' s'' => ?_
  cases iu'
  obtain ⟨o₁, rfl, n1⟩ := St.has (j := j) s'' m1
  obtain ⟨m, o', N, F', hm', n', ⟨ds, n₁, rfl, a'⟩, hmem, up⟩ := s''.upd hi
  obtain ⟨N', u', done⟩ := up (dictOf (putL x (PyData.keyHash j.w.params x) (.str x (t'' + 1)) u ds) (putN x ds n₁))
  have a'' := a'.put x (t'' + 1) iu
  refine set_dict F' ok.K n' (PySem.W.InstAt.of_news (Mine.News.two n1 (News.of n' fun p hp => by rw [List.mem_singleton.mp hp]; exact hmem)) (.head _) (.tail _ (.head _))) rfl k1 k2 k3 k4 (a'.isSome x) rfl u'
    (by rw [a''.length]; exact Nat.le_of_ble_eq_true hz) fun h₃ F₃ n₃ => ?_
  exact r c ok h₃ g dr _ o (done (dDct j.w (setE x v es)) h₃ ⟨_, _, rfl, a''⟩ F₃ n₃) QQ E hE K
/-- what the setting of a list's item leads to -/
def SetI (j : Jp) (l : Loc) (b e' : PySem.Expr) (R : Led → Led → Prop) (v : Vl) (W fz : Led) : Prop :=
  ∃ a k i vs, PV j l W fz b (.ref a) ∧ PV j l W fz e' (.int k) ∧ W[i]? = some (a, dLst vs) ∧ 0 ≤ k ∧ k.toNat < vs.length ∧ vs.length ≤ 1000000 ∧ R (W.set i (a, dLst (vs.set k.toNat v))) fz
theorem SetI.mk {b : PySem.Expr} {R : Led → Led → Prop} {a : Addr} {k : Int} {vs : List Vl} (i : Nat) (p : PV j l W fz b (.ref a)) (q : PV j l W fz e' (.int k)) (hi : W[i]? = some (a, dLst vs)) (h0 : 0 ≤ k) (hk : k.toNat < vs.length) (hz : vs.length ≤ 1000000)
    (r : R (W.set i (a, dLst (vs.set k.toNat v))) fz) : SetI j l b e' R v W fz := ⟨a, k, i, vs, p, q, hi, h0, hk, hz, r⟩
theorem setL_eq : ∀ (us : List Value) (k : Nat) (u : Value), k < us.length → ki_setL us k u = some (us.set k u)
  | [], k, u, h => absurd h (Nat.not_lt_zero _)
  | x :: us, 0, u, _ => rfl
  | x :: us, k + 1, u, h => by
    unfold ki_setL
    rw [setL_eq us k u (Nat.lt_of_succ_lt_succ h)]; rfl
theorem JX.setI {b : PySem.Expr} {sp : Pos} (p : JE j l W fz e (SetI j l b e' (fun W' fz' => JX j l W' fz' rest Q))) (hc : notComp e = true) : JX j l W fz (.Assign [.Subscript b e' sp] e pos :: rest) Q := by
  intro c ok h g dr t o s QQ E hE K
  refine wpAny_execs_cons (wpAny_Assign_Subscript (p c ok h g dr t o s _ E fun v u W' fz' h' t' iu s' q => ?_) (swaps_of hc _ _ _))
  obtain ⟨a, k, i, vs, q1, q2, hi, h0, hk, hz, r⟩ := q
  refine q1 c ok h' g dr t' o s' _ E fun u' h'' t'' iu' s'' => ?_
  cases iu'
  refine q2 c ok h'' g dr t'' o s'' _ E fun u' h₃ t₃ iu' s₃ => ?_
  obtain ⟨_, rfl⟩ := iu'
  obtain ⟨m, o', N, F', hm', n', ⟨us, n₁, rfl, a'⟩, hmem, up⟩ := s₃.upd hi
  obtain ⟨N', u', done⟩ := up (listOf (us.set k.toNat u).toArray n₁)
  refine ki_set F' n' h0 (by omega) (setL_eq us k.toNat u (a'.length ▸ hk)) u' fun h₄ F₄ n₄ => ?_
  exact r c ok h₄ g dr _ o (done (dLst (vs.set k.toNat v)) h₄ ⟨_, _, rfl, a'.set iu _⟩ F₄ n₄) QQ E hE K
end
end Mine
end
section
open PySem PySem.W PyProof.Rows PySem.Calls
set_option maxRecDepth 100000
set_option Elab.async false
namespace Mine
theorem ns_len (w : World) : nsIn (Mine.hk.heap_1 w.params) mainGlobals (PySem.Str.ofString "len") = some none := by rfl
theorem ns_int (w : World) : nsIn (Mine.hk.heap_1 w.params) mainGlobals (PySem.Str.ofString "int") = some none := by rfl
theorem ns_range (w : World) : nsIn (Mine.hk.heap_1 w.params) mainGlobals (PySem.Str.ofString "range") = some none := by rfl
theorem ns_max (w : World) : nsIn (Mine.hk.heap_1 w.params) mainGlobals (PySem.Str.ofString "max") = some none := by rfl
section
variable {j : Jp} {l : Loc} {W fz : Led} {e e' : PySem.Expr} {v : Vl} {pos np : Pos} {Q : Vl → Led → Led → Prop}
theorem PV.len {a : Addr} {vs : List Vl} (p : PV j l W fz e (.ref a)) (m : (a, dLst vs) ∈ W ++ (fz ++ j.tl)) (hz : vs.length ≤ 1000000) (hx : nameG j (PySem.Str.ofString "len") = true) (hs : notStar e = true) :
    PV j l W fz (.Call (.Name (PySem.Str.ofString "len") np) [e] [] pos) (.int vs.length) := by
  intro c ok h g dr t o s QQ E K
  obtain ⟨m₀, F, hm⟩ := s.F
  refine Call_ (nameX_B F ok.K (topRead_of ok.T) (ns_len _) (v := .builtin "len") (by boot_by_name) (by decide) ?_ ok.kd (nameG.kind hx).1 (by decide))
  refine callWith_builtin1 (args_cons (p c ok h g dr t o s _ E fun u h' t' iu s' => args_nil ?_) (star_of hs _ _)) (star_of hs _ _) rfl
  cases iu
  obtain ⟨o', ⟨us, n, rfl, a'⟩, n1⟩ := St.has (j := j) s' m
  refine len_own n1 (.head _) (a'.length ▸ hz) fun t'' tk => K _ _ _ ⟨t'', ?_⟩ s'
  rw [a'.length]
theorem PV.toInt {n : Int} (p : PV j l W fz e (.int n)) (hx : nameG j (PySem.Str.ofString "int") = true) (hs : notStar e = true) : PV j l W fz (.Call (.Name (PySem.Str.ofString "int") np) [e] [] pos) (.int n) := by
  intro c ok h g dr t o s QQ E K
  obtain ⟨m₀, F, hm⟩ := s.F
  refine Call_ (nameX_B F ok.K (topRead_of ok.T) (ns_int _) (v := .type "int") (by boot_by_name) (by decide) ?_ ok.kd (nameG.kind hx).1 (by decide))
  refine PySem.Pv.callWith_type1 (args_cons (p c ok h g dr t o s _ E fun u h' t' iu s' => args_nil ?_) (star_of hs _ _)) (star_of hs _ _) rfl
  obtain ⟨_, rfl⟩ := iu
  exact call_int_int (K _ _ _ ⟨_, rfl⟩ s')
theorem PV.bitInt {b : Bool} (p : PV j l W fz e (.bool b)) (hx : nameG j (PySem.Str.ofString "int") = true) (hs : notStar e = true) : PV j l W fz (.Call (.Name (PySem.Str.ofString "int") np) [e] [] pos) (.int (if b = true then 1 else 0)) := by
  intro c ok h g dr t o s QQ E K
  obtain ⟨m₀, F, hm⟩ := s.F
  refine Call_ (nameX_B F ok.K (topRead_of ok.T) (ns_int _) (v := .type "int") (by boot_by_name) (by decide) ?_ ok.kd (nameG.kind hx).1 (by decide))
  refine PySem.Pv.callWith_type1 (args_cons (p c ok h g dr t o s _ E fun u h' t' iu s' => args_nil ?_) (star_of hs _ _)) (star_of hs _ _) rfl
  cases iu
  exact call_int_bool (K _ _ _ ⟨_, rfl⟩ s')
end
/- the frame rule: a callee sees a part of W, the rest is frozen to it -/
inductive Sel : Led → Led → Led → Prop
  | nil {W} : Sel W [] W
  | cons {W p Wc Wr} (i : Nat) : W[i]? = some p → Sel (W.eraseIdx i) Wc Wr → Sel W (p :: Wc) Wr
theorem perm_at : ∀ (W : Led) (i : Nat) (h : i < W.length), W.Perm (W[i] :: W.eraseIdx i)
  | p :: W, 0, _ => .refl _
  | p :: W, i + 1, h => .trans (.cons p (perm_at W i (Nat.lt_of_succ_lt_succ h))) (.swap _ _ _)
theorem Sel.perm {W Wc Wr : Led} (h : Sel W Wc Wr) : W.Perm (Wc ++ Wr) := by
  induction h with
  | nil => exact .refl _
  | @cons W p Wc Wr i e _ ih =>
    obtain ⟨hi, e⟩ := List.getElem?_eq_some_iff.mp e
    refine List.Perm.trans ?_ (.cons p ih)
    rw [← e]
    exact perm_at W i hi
theorem Dis.iff {W F : Led} : Dis W F ↔ W.Pairwise (fun p q => p.1 ≠ q.1) ∧ ∀ p ∈ W, ∀ q ∈ F, p.1 ≠ q.1 := by
  refine ⟨fun h => ⟨?_, h.2⟩, fun h => ⟨fun i k p q hp hq hn => ?_, h.2⟩⟩
  · rw [List.pairwise_iff_getElem]
    intro i k hi hk hl
    exact h.1 i k _ _ (List.getElem?_eq_getElem hi) (List.getElem?_eq_getElem hk) (Nat.ne_of_lt hl)
  · obtain ⟨hi, rfl⟩ := List.getElem?_eq_some_iff.mp hp
    obtain ⟨hk, rfl⟩ := List.getElem?_eq_some_iff.mp hq
    rcases Nat.lt_or_gt_of_ne hn with q | q
    · exact List.pairwise_iff_getElem.mp h.1 i k hi hk q
    · exact (List.pairwise_iff_getElem.mp h.1 k i hk hi q).symm
theorem Dis.perm {W W' F : Led} (h : Dis W F) (p : W.Perm W') : Dis W' F := by
  rw [Dis.iff] at h ⊢
  exact ⟨(p.pairwise_iff (fun q => q.symm)).mp h.1, fun x hx => h.2 x (p.mem_iff.mpr hx)⟩
theorem St.frameIn {c : Ctx} {tl : Led} {l : Loc} {W Wc Wr fz : Led} {h : Heap} (s : St c tl l W fz h) (sel : Sel W Wc Wr) : St c (Wr ++ (fz ++ tl)) l Wc [] h := by
  have D := Dis.iff.mp (s.D.perm sel.perm)
  have D1 := List.pairwise_append.mp D.1
  have e : (Wr ++ (fz ++ tl)) ++ c.X = Wr ++ (fz ++ (tl ++ c.X)) := by rw [List.append_assoc, List.append_assoc]
  refine ⟨s.F, s.N.mono fun p hp => ?_, Dis.iff.mpr ⟨D1.1, fun p hp q hq => ?_⟩, fun p hp => nomatch hp⟩
  · rw [e] at hp
    rcases List.mem_append.mp hp with hp | hp
    · exact List.mem_append_left _ (sel.perm.mem_iff.mpr (List.mem_append_left _ hp))
    · rcases List.mem_append.mp (show p ∈ Wr ++ (fz ++ (tl ++ c.X)) from hp) with hp | hp
      · exact List.mem_append_left _ (sel.perm.mem_iff.mpr (List.mem_append_right _ hp))
      · exact List.mem_append_right _ hp
  · rw [e] at hq
    rcases List.mem_append.mp (show q ∈ Wr ++ (fz ++ (tl ++ c.X)) from hq) with hq | hq
    · exact D1.2.2 p hp q hq
    · exact D.2 p (List.mem_append_left _ hp) q hq
theorem St.frameOut {c : Ctx} {tl : Led} {l l' : Loc} {W Wc Wr fz W' fz' : Led} {h h' : Heap} (s : St c tl l W fz h) (sel : Sel W Wc Wr) (s' : St c (Wr ++ (fz ++ tl)) l' W' fz' h') : St c tl l' (W' ++ Wr) (fz' ++ fz) h' := by
  have D := Dis.iff.mp (s.D.perm sel.perm)
  have D1 := List.pairwise_append.mp D.1
  have D' := Dis.iff.mp s'.D
  have e : (Wr ++ (fz ++ tl)) ++ c.X = Wr ++ (fz ++ (tl ++ c.X)) := by rw [List.append_assoc, List.append_assoc]
  have N' := s'.N
  have O' := s'.O
  rw [e] at D' N' O'
  refine ⟨s'.F, N'.mono fun p hp => ?_, Dis.iff.mpr ⟨List.pairwise_append.mpr ⟨D'.1, D1.2.1, fun p hp q hq => ?_⟩, fun p hp q hq => ?_⟩, fun p hp q hq => ?_⟩
  · rw [List.append_assoc, List.append_assoc] at hp
    rcases List.mem_append.mp hp with hp | hp
    · exact List.mem_append_left _ hp
    · rcases List.mem_append.mp hp with hp | hp
      · exact List.mem_append_right _ (List.mem_append_right _ (List.mem_append_left _ hp))
      · rcases List.mem_append.mp hp with hp | hp
        · exact List.mem_append_right _ (List.mem_append_left _ hp)
        · exact List.mem_append_right _ (List.mem_append_right _ (List.mem_append_right _ hp))
  · exact D'.2 p hp q (List.mem_append_right _ (List.mem_append_left _ hq))
  · rw [List.append_assoc] at hq
    rcases List.mem_append.mp hp with hp | hp
    · rcases List.mem_append.mp hq with hq | hq
      · exact D'.2 p hp q (List.mem_append_left _ hq)
      · exact D'.2 p hp q (List.mem_append_right _ (List.mem_append_right _ hq))
    · rcases List.mem_append.mp hq with hq | hq
      · exact (O' q hq p (List.mem_append_left _ hp)).symm
      · exact D.2 p (List.mem_append_right _ hp) q hq
  · rcases List.mem_append.mp hp with hp | hp
    · exact O' p hp q (List.mem_append_right _ (List.mem_append_right _ hq))
    · exact s.O p hp q hq
theorem JC.frame {w : World} {d u : Nat} {tl W Wc Wr fz : Led} {f : Addr} {vs : List Vl} {Q : Vl → Led → Led → Prop} (sel : Sel W Wc Wr)
    (H : JC w d u (Wr ++ (fz ++ tl)) Wc [] f vs (fun v W' fz' => Q v (W' ++ Wr) (fz' ++ fz))) : JC w d u tl W fz f vs Q := by
  intro I l c ok h g dr t o s us a QQ E K
  exact H I l c ok.tl h g dr t o (St.frameIn s sel) us a QQ E fun v u W' fz' h' t' iu s' q => K v u (W' ++ Wr) (fz' ++ fz) h' t' iu (St.frameOut s sel s') q
/-- an object that is to stay as it is -/
theorem St.freeze {c : Ctx} {tl : Led} {l : Loc} {W fz : Led} {h : Heap} (s : St c tl l W fz h) {i : Nat} {p : Addr × Dsc} (e : W[i]? = some p) : St c tl l (W.eraseIdx i) (p :: fz) h := by
  have sel : Sel W [p] (W.eraseIdx i) := .cons i e .nil
  have D := Dis.iff.mp (s.D.perm sel.perm)
  have D1 := List.pairwise_cons.mp D.1
  refine ⟨s.F, s.N.mono fun q hq => ?_, Dis.iff.mpr ⟨D1.2, fun x hx q hq => ?_⟩, fun x hx q hq => ?_⟩
  · rcases List.mem_append.mp hq with hq | hq
    · exact List.mem_append_left _ (sel.perm.mem_iff.mpr (.tail _ hq))
    · rcases List.mem_cons.mp hq with rfl | hq
      · exact List.mem_append_left _ (sel.perm.mem_iff.mpr (.head _))
      · exact List.mem_append_right _ hq
  · rcases List.mem_cons.mp hq with rfl | hq
    · exact (D1.1 x hx).symm
    · exact D.2 x (.tail _ hx) q hq
  · rcases List.mem_cons.mp hx with rfl | hx
    · exact D.2 x (.head _) q (List.mem_append_right _ hq)
    · exact s.O x hx q hq
theorem JX.freeze {j : Jp} {l : Loc} {W fz : Led} {ss : List Stmt} {Q : Fl → Loc → Led → Led → Prop} (i : Nat) {p : Addr × Dsc} (e : W[i]? = some p) (q : JX j l (W.eraseIdx i) (p :: fz) ss Q) : JX j l W fz ss Q :=
  fun c ok h g dr t o s QQ E hE K => q c ok h g dr t o (St.freeze s e) QQ E hE K
/-- a part of W that is no longer wanted -/
theorem JX.drop {j : Jp} {l : Loc} {W Wc Wr fz : Led} {ss : List Stmt} {Q : Fl → Loc → Led → Led → Prop} (sel : Sel W Wc Wr) (q : JX j l Wr fz ss Q) : JX j l W fz ss Q := fun c ok h g dr t o s QQ E hE K => by
  have D := Dis.iff.mp (s.D.perm sel.perm)
  have D1 := List.pairwise_append.mp D.1
  refine q c ok h g dr t o ⟨s.F, s.N.mono fun p hp => ?_, Dis.iff.mpr ⟨D1.2.1, fun p hp => D.2 p (List.mem_append_right _ hp)⟩, s.O⟩ QQ E hE K
  rcases List.mem_append.mp hp with hp | hp
  · exact List.mem_append_left _ (sel.perm.mem_iff.mpr (List.mem_append_right _ hp))
  · exact List.mem_append_right _ hp
theorem JX.sel {j : Jp} {l : Loc} {W Wc Wr fz : Led} {ss : List Stmt} {Q : Fl → Loc → Led → Led → Prop} (sel : Sel W Wc Wr) (q : JX j l (Wc ++ Wr) fz ss Q) : JX j l W fz ss Q := fun c ok h g dr t o s QQ E hE K =>
  q c ok h g dr t o ⟨s.F, s.N.mono fun p hp => (List.mem_append.mp hp).elim (fun hp => List.mem_append_left _ (sel.perm.mem_iff.mpr hp)) fun hp => List.mem_append_right _ hp, s.D.perm sel.perm, s.O⟩ QQ E hE K
theorem JX.nilT {j : Jp} {l : Loc} {W fz : Led} {rest : List Stmt} {Q : Fl → Loc → Led → Led → Prop} (q : JX j l W fz rest Q) : JX j l W fz [] (thenX j rest Q) := JX.nil q
theorem JX.nilR {j : Jp} {l : Loc} {W fz : Led} {Q : Vl → Led → Led → Prop} (q : Q .none W fz) : JX j l W fz [] (retQ Q) := JX.nil q
/-- what a call has made and is to stay as it is -/
theorem JC.frz {w : World} {d u : Nat} {tl W fz : Led} {f : Addr} {vs : List Vl} {Q : Vl → Led → Led → Prop} (i : Nat) (H : JC w d u tl W fz f vs (fun v W' fz' => ∃ p, W'[i]? = some p ∧ Q v (W'.eraseIdx i) (p :: fz'))) : JC w d u tl W fz f vs Q :=
  fun I l c ok h g dr t o s us a QQ E K => H I l c ok h g dr t o s us a QQ E fun v u W' fz' h' t' iu s' q => q.elim fun p x => K v u _ _ h' t' iu (St.freeze s' x.1) x.2
end Mine
end
section
open PySem PySem.W PyProof.Rows PySem.Calls PyProof.V
set_option maxRecDepth 100000
set_option Elab.async false
namespace Mine
abbrev ent (w : World) (x : String) (t : Nat) (v : Value) : DictEntry := ⟨PyData.keyHash w.params (Str.ofString x), .str (Str.ofString x) t, v⟩
abbrev AR (d u : Nat) (env : Env) (outer : List Env) (gd : Option (List Code)) : Around := { handled := none, depth := d, frames := some (env :: outer), guards := gd, units := u }

def TurnEnd (h₀ : Heap) (L : Addr) (s₁ : Shared) (G : (Str → Option Value) → List (Addr × Obj) → Prop) (Q : Flow → Shared → Prop) (f : Flow) (s₂ : Shared) : Prop :=
  match f with
  | .ret v => Q (.ret v) s₂
  | .brk => Q .next s₂
  | _ => ∃ h' tk m' led, s₂ = { s₁ with heap := h', toks := tk } ∧ Fr h₀ L h' m' ∧ News h₀ L h' led ∧ G m' led

def GoOn (J : (Str → Option Value) → List (Addr × Obj) → Prop) (I : Addr) (o : Obj) (m' : Str → Option Value) (led : List (Addr × Obj)) : Prop :=
  (I, o) ∈ led ∧ ∃ news', J m' news' ∧ (∀ p ∈ news', p ∈ led) ∧ ∀ p ∈ news', p.1 ≠ I

section
variable {prog : Program} {w : World} {A : Around} {E : Value → Shared → Prop} {s : Shared} {env : Env} {h₀ : Heap} {target : PySem.Expr} {body : List Stmt} {Q : Flow → Shared → Prop}

theorem list_rest {ax I : Addr} {lo : Obj} (J : List Value → (Str → Option Value) → List (Addr × Obj) → Prop) (hkeep : ∀ r m news, J r m news → (ax, lo) ∈ news)
    (turn : ∀ v r m news o h tk, J (v :: r) m news → (∀ p ∈ news, p.1 ≠ I) → Fr h₀ env.locals h m → News h₀ env.locals h ((I, o) :: news) →
      wpAny (model prog w) A (assign target env v) (fun _ s₂ => wpAny (model prog w) A (execs body env) (TurnEnd h₀ env.locals { s with heap := h, toks := tk } (GoOn (J r) I o) Q) E s₂) E { s with heap := h, toks := tk })
    (done : ∀ m news h tk, J [] m news → Fr h₀ env.locals h m → News h₀ env.locals h news → Q .next { s with heap := h, toks := tk }) :
    ∀ (vs : List Value) (m : Str → Option Value) (news : List (Addr × Obj)), J vs m news → (∀ p ∈ news, p.1 ≠ I) →
      ItemsRest prog w A E h₀ env target body Q s [(I, "list_iterator")] [(ax, lo)] (vs.map .val) m news := by
  intro vs
  induction vs with
  | nil => intro m news hj _; exact ItemsRest.zero fun h tk F N => done m news h tk hj F N
  | cons v r ih =>
    intro m news hj hI
    refine ItemsRest.val fun h tk F => AllObj.cons fun o _ => AllObj.nil fun N => ?_
    refine wpAny_mono (turn v r m news o h tk hj hI F N) (fun _ s₂ h₂ => wpAny_mono h₂ (fun f s₃ h₃ => ?_) fun _ _ e => e) fun _ _ e => e
    have fin : (∃ h' tk' m' led, s₃ = { ({ s with heap := h, toks := tk } : Shared) with heap := h', toks := tk' } ∧ Fr h₀ env.locals h' m' ∧ News h₀ env.locals h' led ∧ GoOn (J r) I o m' led) →
        UnrEndW h₀ env.locals { s with heap := h, toks := tk } [(I, o)] (fun m' n' => SubL [(ax, lo)] n' ∧ ItemsRest prog w A E h₀ env target body Q s [(I, "list_iterator")] [(ax, lo)] (r.map .val) m' n') s₃ := by
      rintro ⟨h', tk', m', led, e, F', N', hIl, news', hj', hs, hI'⟩
      refine ⟨h', tk', m', news', e, F', fun p hp => ?_, fun p hp q hq => ?_, ⟨⟨hkeep _ _ _ hj', trivial⟩, ih m' news' hj' hI'⟩⟩
      · rcases List.mem_append.mp hp with hp | hp
        · rw [List.mem_singleton.mp hp]; exact N' _ hIl
        · exact N' _ (hs p hp)
      · rw [List.mem_singleton.mp hq]; exact hI' p hp
    cases f with
    | ret v => exact h₃
    | brk => exact h₃
    | next => exact fin h₃
    | cont => exact fin h₃

theorem list_loop {ax : Addr} {lo : Obj} {vs : List Value} {n : Nat} {m : Str → Option Value} {news : List (Addr × Obj)} (J : List Value → (Str → Option Value) → List (Addr × Obj) → Prop)
    (hh : A.handled = none) (F : Fr h₀ env.locals s.heap m) (N : News h₀ env.locals s.heap news) (hc : lo.cls = .type "list") (hd : lo.data = .seq vs.toArray n) (hj : J vs m news)
    (hkeep : ∀ r m news, J r m news → (ax, lo) ∈ news)
    (turn : ∀ v r m news I o h tk, J (v :: r) m news → (∀ p ∈ news, p.1 ≠ I) → Fr h₀ env.locals h m → News h₀ env.locals h ((I, o) :: news) →
      wpAny (model prog w) A (assign target env v) (fun _ s₂ => wpAny (model prog w) A (execs body env) (TurnEnd h₀ env.locals { s with heap := h, toks := tk } (GoOn (J r) I o) Q) E s₂) E { s with heap := h, toks := tk })
    (done : ∀ m news h tk, J [] m news → Fr h₀ env.locals h m → News h₀ env.locals h news → Q .next { s with heap := h, toks := tk }) :
    wpAny (model prog w) A (pyIter (.ref ax)) (fun it s₂ => TurnsAt prog w A h₀ env target body Q E it s₂) E s :=
  iter_listTurns hh F N (hkeep _ _ _ hj) hc hd fun I hI =>
    list_rest J hkeep (fun v r m news o h tk a b c d => turn v r m news I o h tk a b c d) done vs m news hj fun p hp => Nat.ne_of_lt (hI p hp)
end
section
variable {prog : Program} {w : World} {A : Around} {E : Value → Shared → Prop} {s : Shared} {env : Env} {h₀ : Heap} {x : Str} {body : List Stmt} {Q : Flow → Shared → Prop}
theorem range_rest {I : Addr} {a : Int} {n : Nat} (J : Nat → (Str → Option Value) → List (Addr × Obj) → Prop)
    (turn : ∀ i t m news o h tk, i < n → J i m news → (∀ p ∈ news, p.1 ≠ I) → Fr h₀ env.locals h (fun y => if y = x then some (.int (a + (i : Int)) t) else m y) → News h₀ env.locals h ((I, o) :: news) →
      wpAny (model prog w) A (execs body env) (TurnEnd h₀ env.locals { s with heap := h, toks := tk } (GoOn (J (i + 1)) I o) Q) E { s with heap := h, toks := tk })
    (done : ∀ m news h tk, J n m news → Fr h₀ env.locals h m → News h₀ env.locals h news → Q .next { s with heap := h, toks := tk }) :
    ∀ (k i : Nat) (m : Str → Option Value) (news : List (Addr × Obj)), i + k = n → J i m news → (∀ p ∈ news, p.1 ≠ I) → RangeRest prog w A E h₀ env x body Q s I a n k i m news := by
  intro k
  induction k with
  | zero => intro i m news e hj _; exact RangeRest.zero fun h tk F N => done m news h tk (by have : i = n := by omega
                                                                                             exact this ▸ hj) F N
  | succ k ih =>
    intro i m news e hj hI
    refine RangeRest.succ fun t h tk F N => ?_
    refine wpAny_mono (turn i t m news _ h tk (by omega) hj hI F N) (fun f s₃ h₃ => ?_) fun _ _ e => e
    have fin : (∃ h' tk' m' led, s₃ = { ({ s with heap := h, toks := tk } : Shared) with heap := h', toks := tk' } ∧ Fr h₀ env.locals h' m' ∧ News h₀ env.locals h' led ∧ GoOn (J (i + 1)) I (itR (a + ((i + 1 : Nat) : Int)) ((n : Int) - ((i + 1 : Nat) : Int))) m' led) →
        UnrEnd h₀ env.locals { s with heap := h, toks := tk } I (itR (a + ((i + 1 : Nat) : Int)) ((n : Int) - ((i + 1 : Nat) : Int))) (RangeRest prog w A E h₀ env x body Q s I a n k (i + 1)) s₃ := by
      rintro ⟨h', tk', m', led, e', F', N', hIl, news', hj', hs, hI'⟩
      refine ⟨h', tk', m', news', e', F', fun p hp => ?_, hI', ih (i + 1) m' news' (by omega) hj' hI'⟩
      rcases List.mem_cons.mp hp with hp | hp
      · rw [hp]; exact N' _ hIl
      · exact N' _ (hs p hp)
    cases f with
    | ret v => exact h₃
    | brk => exact h₃
    | next => exact fin h₃
    | cont => exact fin h₃
theorem range_loop {r : Addr} {a₀ b₀ : Int} {t₀ u₀ v₀ : Tok} {n : Nat} {m : Str → Option Value} {news : List (Addr × Obj)} (J : Nat → (Str → Option Value) → List (Addr × Obj) → Prop)
    (hh : A.handled = none) (hr : IsRange s.heap r a₀ b₀ 1 t₀ u₀ v₀) (hsmall : Builtin.Range.small a₀ b₀ 1 = true) (hn : Builtin.Range.rangeSize a₀ b₀ 1 = (n : Int)) (F : Fr h₀ env.locals s.heap m) (N : News h₀ env.locals s.heap news) (hj : J 0 m news)
    (turn : ∀ i t m news I o h tk, i < n → J i m news → (∀ p ∈ news, p.1 ≠ I) → Fr h₀ env.locals h (fun y => if y = x then some (.int (a₀ + (i : Int)) t) else m y) → News h₀ env.locals h ((I, o) :: news) →
      wpAny (model prog w) A (execs body env) (TurnEnd h₀ env.locals { s with heap := h, toks := tk } (GoOn (J (i + 1)) I o) Q) E { s with heap := h, toks := tk })
    (done : ∀ m news h tk, J n m news → Fr h₀ env.locals h m → News h₀ env.locals h news → Q .next { s with heap := h, toks := tk }) :
    wpAny (model prog w) A (pyIter (.ref r)) (fun it s₂ => LoopAtV prog w A h₀ env x body Q E it s₂) E s :=
  iter_rangeUnr hh hr hsmall hn F N fun I hI => range_rest J (fun i t m news o h tk a b c d e => turn i t m news I o h tk a b c d e) done n 0 m news (by omega) hj fun p hp => Nat.ne_of_lt (hI p hp)
end
end Mine
end
section
open PySem PySem.W PyProof.Rows PySem.Calls PyProof.V
set_option maxRecDepth 100000
set_option Elab.async false
namespace Mine
section
variable {prog : Program} {w : World} {A : Around} {E : Value → Shared → Prop} {s : Shared} {env : Env} {h₀ : Heap} {target : PySem.Expr} {body : List Stmt} {Q : Flow → Shared → Prop}
end
section
variable {prog : Program} {w : World} {A : Around} {E : Value → Shared → Prop} {s : Shared} {env : Env} {h₀ : Heap} {x : Str} {body : List Stmt} {Q : Flow → Shared → Prop}
end
theorem rangeSize_nat (n : Nat) : Builtin.Range.rangeSize 0 (n : Int) 1 = (n : Int) := by
  unfold Builtin.Range.rangeSize
  rw [if_pos (by decide)]
  split
  · omega
  · omega
theorem rangeSmall_nat {n : Nat} (h : n ≤ 1000000) : Builtin.Range.small 0 (n : Int) 1 = true := by
  unfold Builtin.Range.small
  rw [rangeSize_nat]
  have a : ∀ k : Int, -(2 ^ 40) ≤ k → k ≤ 2 ^ 40 → Builtin.Range.rangeFitsLong k = true := by
    intro k h1 h2
    unfold Builtin.Range.rangeFitsLong
    simp
    omega
  rw [a 0 (by decide) (by decide), a 1 (by decide) (by decide), a (n : Int) (by omega) (by omega), a ((n : Int) + (1 - 1)) (by omega) (by omega)]
  simp
end Mine
end
section
open PySem PySem.W PyProof.Rows PySem.Calls
set_option maxRecDepth 100000
set_option Elab.async false
namespace Mine
/-- a target is given a value, then the statements -/
def JB (j : Jp) (l : Loc) (W fz : Led) (t : PySem.Expr) (v : Vl) (ss : List Stmt) (Q : Fl → Loc → Led → Led → Prop) : Prop :=
  ∀ c : Ctx, c.Ok j → ∀ h g dr t' o, St c j.tl l W fz h → ∀ u, v.is u → ∀ (QQ : Flow → Shared → Prop) (E : Value → Shared → Prop), PassesOwn (model pg j.w) c.A (j.I.env c.L) E →
    (∀ f f' l' W' fz' h' t', f.is f' → St c j.tl l' W' fz' h' → Q f l' W' fz' → QQ f' ⟨h', g, dr, t', o⟩) →
    wpAny (model pg j.w) c.A (assign t (j.I.env c.L) u) (fun _ s₂ => wpAny (model pg j.w) c.A (execs ss (j.I.env c.L)) QQ E s₂) E ⟨h, g, dr, t', o⟩
/-- nothing that the locals l name has changed -/
def Keep (l l' : Loc) : Prop := ∀ y v, l.lookup y = some v → l'.lookup y = some v
theorem Keep.refl {l : Loc} : Keep l l := fun _ _ h => h
theorem Keep.cons {l l' : Loc} {x : Str} {v : Vl} (h : Keep l l') (hx : (l.lookup x).isNone = true) : Keep l ((x, v) :: l') := fun y u e => by
  rw [List.lookup_cons]
  cases hb : (y == x) with
  | true => rw [beq_iff_eq] at hb; subst hb; rw [e] at hx; cases hx
  | false => exact h y u e
theorem LocIs.keep {l l' : Loc} {m : Str → Option Value} (h : LocIs l' m) (k : Keep l l') : LocIs l m := fun y v e => h y v (k y v e)
/-- a turn's end -/
def turnQ (l : Loc) (I : Led → Led → Prop) (Q : Fl → Loc → Led → Led → Prop) (f : Fl) (l' : Loc) (W fz : Led) : Prop := match f with | .ret v => Q (.ret v) l' W fz | .brk => False | _ => Keep l l' ∧ I W fz
theorem turnQ.next {l : Loc} {I : Led → Led → Prop} {Q : Fl → Loc → Led → Led → Prop} {l' : Loc} {W fz : Led} (k : Keep l l') (i : I W fz) : turnQ l I Q .next l' W fz := ⟨k, i⟩
theorem turnQ.ret {l : Loc} {I : Led → Led → Prop} {Q : Fl → Loc → Led → Led → Prop} {l' : Loc} {v : Vl} {W fz : Led} (q : Q (.ret v) l' W fz) : turnQ l I Q (.ret v) l' W fz := q
section
variable {j : Jp} {l : Loc} {W fz : Led} {e : PySem.Expr} {v : Vl} {pos : Pos} {rest body : List Stmt} {Q : Fl → Loc → Led → Led → Prop}
theorem JB.name {x : Str} (q : JX j ((x, v) :: l) W fz body Q) (hx : nameOk j x = true) : JB j l W fz (.Name x pos) v body Q := fun c ok h g dr t' o s u iu QQ E hE K => by
  obtain ⟨m, F, hm⟩ := s.F
  obtain ⟨N, P, n⟩ := s.N.pairs
  exact assign_Name (storeX_L F n (fun h'' F' n' => q c ok h'' g dr _ o ⟨⟨_, F', hm.store iu⟩, P.news n', s.D, s.O⟩ QQ E hE K) ok.kd (nameOk.kind hx).1)
theorem JB.pair {x y : Str} {px py : Pos} {k : Nat} {t : Addr} {a b : Vl} (m : (t, dTup [a, b]) ∈ W ++ (fz ++ j.tl)) (q : JX j ((y, b) :: (x, a) :: l) W fz body Q) (hx : nameOk j x = true) (hy : nameOk j y = true) :
    JB j l W fz (.Tuple [.Name x px, .Name y py] k pos) (.ref t) body Q := fun c ok h g dr t' o s u iu QQ E hE K => by
  cases iu
  obtain ⟨m₀, F, hm⟩ := s.F
  obtain ⟨N, P, n⟩ := s.N.pairs
  obtain ⟨o', ⟨us, n', rfl, a'⟩, n1⟩ := St.has s m
  cases a' with
  | cons ia a' =>
  cases a' with
  | cons ib a' =>
  cases a'
  refine unpackN_ F n (News.isTup n1 (.head _)) ok.hd rfl rfl fun h' F' n2 => ?_
  refine assignInOrder_cons (assign_Name (storeX_L F' n2 (fun h'' F'' n3 => ?_) ok.kd (nameOk.kind hx).1))
  refine assignInOrder_cons (assign_Name (storeX_L F'' n3 (fun h₃ F₃ n₄ => ?_) ok.kd (nameOk.kind hy).1))
  exact assignInOrder_nil (q c ok h₃ g dr _ o ⟨⟨_, F₃, (hm.store ia).store ib⟩, P.news n₄, s.D, s.O⟩ QQ E hE K)
def notSet : PySem.Expr → Bool | .Set .. => false | _ => true
theorem notSet_of {e : PySem.Expr} (h : notSet e = true) (env : Env) (x : Value) : foldedSetIterable e env x = pure x := by
  cases e <;> first | rfl | cases h
theorem Pairs.off {G : Led} {N : List (Addr × Obj)} (p : Pairs G N) {a : Addr} (h : ∀ q ∈ N, q.1 ≠ a) : ∀ q ∈ G, a ≠ q.1 := fun q hq => by
  have : q.1 ∈ N.map (·.1) := by rw [← p.adr]; exact List.mem_map_of_mem hq
  obtain ⟨r, hr, e⟩ := List.mem_map.mp this
  rw [← e]; exact (h r hr).symm
theorem Pairs.off' {G : Led} {N : List (Addr × Obj)} (p : Pairs G N) {a : Addr} (h : ∀ q ∈ G, a ≠ q.1) : ∀ q ∈ N, q.1 ≠ a := fun q hq => by
  have : q.1 ∈ G.map (·.1) := by rw [p.adr]; exact List.mem_map_of_mem hq
  obtain ⟨r, hr, e⟩ := List.mem_map.mp this
  rw [← e]; exact (h r hr).symm
/-- one more hidden object -/
def Ctx.hide (c : Ctx) (a : Addr) (o : Obj) : Ctx := { c with X := (a, (· = o)) :: c.X }
theorem Ctx.Ok.hide {c : Ctx} {j : Jp} (h : c.Ok j) (a : Addr) (o : Obj) : (c.hide a o).Ok j := ⟨h.B, h.K, h.T, h.fr, h.hd, h.kd, h.dp, h.un⟩
theorem hideMem {W fz tl X : Led} {x p : Addr × Dsc} : p ∈ W ++ (fz ++ (tl ++ (x :: X))) ↔ p = x ∨ p ∈ W ++ (fz ++ (tl ++ X)) := by
  simp only [List.mem_append, List.mem_cons]
  constructor
  · rintro (h | h | h | h | h)
    · exact .inr (.inl h)
    · exact .inr (.inr (.inl h))
    · exact .inr (.inr (.inr (.inl h)))
    · exact .inl h
    · exact .inr (.inr (.inr (.inr h)))
  · rintro (h | h | h | h | h)
    · exact .inr (.inr (.inr (.inl h)))
    · exact .inl h
    · exact .inr (.inl h)
    · exact .inr (.inr (.inl h))
    · exact .inr (.inr (.inr (.inr h)))
theorem St.hide {c : Ctx} {tl : Led} {l : Loc} {W fz : Led} {h : Heap} {a : Addr} {o : Obj} (F : ∃ m, Fr c.h₀ c.L h m ∧ LocIs l m) (n : NewsD c.h₀ c.L h (W ++ (fz ++ (tl ++ c.X)))) (D : Dis W (fz ++ (tl ++ c.X))) (O : OffT fz (tl ++ c.X))
    (n1 : News c.h₀ c.L h [(a, o)]) (hI : ∀ q ∈ W ++ (fz ++ (tl ++ c.X)), a ≠ q.1) : St (c.hide a o) tl l W fz h := by
  refine ⟨F, fun p hp => ?_, ⟨D.1, fun p hp q hq => ?_⟩, fun p hp q hq => ?_⟩
  · rcases hideMem.mp hp with rfl | hp
    · exact ⟨o, rfl, n1 _ (.head _)⟩
    · exact n p hp
  · have hq' : q ∈ ([] : Led) ++ (fz ++ (tl ++ ((a, (· = o)) :: c.X))) := hq
    rcases hideMem.mp hq' with rfl | hq
    · exact (hI p (List.mem_append_left _ hp)).symm
    · exact D.2 p hp q hq
  · have hq' : q ∈ ([] : Led) ++ (([] : Led) ++ (tl ++ ((a, (· = o)) :: c.X))) := hq
    rcases hideMem.mp hq' with rfl | hq
    · exact (hI p (List.mem_append_right _ (List.mem_append_left _ hp))).symm
    · exact O p hp q hq
/-- what the loop's invariant is to the library's rule -/
def LoopJ (j : Jp) (l : Loc) (c : Ctx) (I : Led → Led → Prop) (m : Str → Option Value) (N : List (Addr × Obj)) : Prop :=
  ∃ W fz, I W fz ∧ LocIs l m ∧ Pairs (W ++ (fz ++ (j.tl ++ c.X))) N ∧ Dis W (fz ++ (j.tl ++ c.X)) ∧ OffT fz (j.tl ++ c.X)
theorem LoopJ.of {c : Ctx} {I : Led → Led → Prop} {h : Heap} (s : St c j.tl l W fz h) (i : I W fz) : ∃ m N, Fr c.h₀ c.L h m ∧ News c.h₀ c.L h N ∧ LoopJ j l c I m N := by
  obtain ⟨m, F, hm⟩ := s.F
  obtain ⟨N, P, n⟩ := s.N.pairs
  exact ⟨m, N, F, n, W, fz, i, hm, P, s.D, s.O⟩
theorem TurnEnd.mono {h₀ : Heap} {L : Addr} {s₁ : Shared} {G G' : (Str → Option Value) → List (Addr × Obj) → Prop} {Q : Flow → Shared → Prop} {f : Flow} {s₂ : Shared} (t : TurnEnd h₀ L s₁ G Q f s₂) (x : ∀ m led, G m led → G' m led) : TurnEnd h₀ L s₁ G' Q f s₂ := by
  cases f with
  | ret v => exact t
  | brk => exact t
  | next => exact t.elim fun h' y => y.elim fun tk y => y.elim fun m y => y.elim fun led z => ⟨h', tk, m, led, z.1, z.2.1, z.2.2.1, x _ _ z.2.2.2⟩
  | cont => exact t.elim fun h' y => y.elim fun tk y => y.elim fun m y => y.elim fun led z => ⟨h', tk, m, led, z.1, z.2.1, z.2.2.1, x _ _ z.2.2.2⟩
/-- a turn's end, as the library's loops want it -/
theorem turn_end {c : Ctx} {I₀ : Addr} {o : Obj} {I : Led → Led → Prop} {QQ : Flow → Shared → Prop} {h h' : Heap} {g : Array GenState} {dr : Drawn} {t t' : Nat} {os : OsState} {f : Fl} {f' : Flow} {l' : Loc} {W' fz' : Led}
    (hf : f.is f') (s : St (c.hide I₀ o) j.tl l' W' fz' h') (q : turnQ l I Q f l' W' fz') (htl : ∀ q ∈ j.tl ++ c.X, q.1 ≠ I₀) (K : ∀ v u l' W' fz' h' t', v.is u → St c j.tl l' W' fz' h' → Q (.ret v) l' W' fz' → QQ (.ret u) ⟨h', g, dr, t', os⟩) :
    TurnEnd c.h₀ c.L ⟨h, g, dr, t, os⟩ (GoOn (LoopJ j l c I) I₀ o) QQ f' ⟨h', g, dr, t', os⟩ := by
  have hN : NewsD c.h₀ c.L h' (W' ++ (fz' ++ (j.tl ++ c.X))) := s.N.mono fun p hp => hideMem.mpr (.inr hp)
  have hD : Dis W' (fz' ++ (j.tl ++ c.X)) := ⟨s.D.1, fun p hp q hq => s.D.2 p hp q (hideMem (W := []).mpr (.inr hq))⟩
  have hO : OffT fz' (j.tl ++ c.X) := fun p hp q hq => s.O p hp q (hideMem (W := []) (fz := []).mpr (.inr hq))
  obtain ⟨m, F, hm⟩ := s.F
  have fin : Keep l l' ∧ I W' fz' → ∃ h₁ tk m' led, (⟨h', g, dr, t', os⟩ : Shared) = { (⟨h, g, dr, t, os⟩ : Shared) with heap := h₁, toks := tk } ∧ Fr c.h₀ c.L h₁ m' ∧ News c.h₀ c.L h₁ led ∧ GoOn (LoopJ j l c I) I₀ o m' led := by
    rintro ⟨k, i⟩
    obtain ⟨N, P, n⟩ := hN.pairs
    obtain ⟨o', ho, hx⟩ := s.N (I₀, (· = o)) (hideMem.mpr (.inl rfl))
    have ho' : o' = o := ho
    subst ho'
    refine ⟨h', t', m, (I₀, o') :: N, rfl, F, fun p hp => ?_, .head _, N, ⟨W', fz', i, hm.keep k, P, hD, hO⟩, fun p hp => .tail _ hp, P.off' fun q hq => ?_⟩
    · rcases List.mem_cons.mp hp with rfl | hp
      · exact hx
      · exact n p hp
    · rcases List.mem_append.mp hq with hq | hq
      · exact (s.D.2 q hq (I₀, _) (hideMem (W := []).mpr (.inl rfl))).symm
      · rcases List.mem_append.mp hq with hq | hq
        · exact (s.O q hq (I₀, _) (hideMem (W := []) (fz := []).mpr (.inl rfl))).symm
        · exact (htl q hq).symm
  cases f with
  | ret v => obtain ⟨u, rfl, iu⟩ := hf; exact K v u _ _ _ _ _ iu ⟨⟨m, F, hm⟩, hN, hD, hO⟩ q
  | brk => exact q.elim
  | next => cases hf; exact fin q
  | cont => cases hf; exact fin q
theorem St.unhide {c : Ctx} {tl : Led} {l : Loc} {W fz : Led} {h : Heap} {a : Addr} {o : Obj} (s : St (c.hide a o) tl l W fz h) : St c tl l W fz h :=
  ⟨s.F, s.N.mono fun p hp => hideMem.mpr (.inr hp), ⟨s.D.1, fun p hp q hq => s.D.2 p hp q (hideMem (W := []).mpr (.inr hq))⟩, fun p hp q hq => s.O p hp q (hideMem (W := []) (fz := []).mpr (.inr hq))⟩
theorem St.back {c : Ctx} {tl : Led} {l : Loc} {W fz : Led} {h : Heap} {a : Addr} {o : Obj} {D : Dsc} (s : St (c.hide a o) tl l W fz h) (d : D o) (hoff : ∀ q ∈ tl ++ c.X, a ≠ q.1) : St c tl l ((a, D) :: W) fz h := by
  have u := s.unhide
  refine ⟨u.F, fun p hp => ?_, u.D.cons fun p hp => ?_, u.O⟩
  · rcases List.mem_cons.mp hp with rfl | hp
    · obtain ⟨o', ho, hx⟩ := s.N (a, (· = o)) (hideMem.mpr (.inl rfl))
      have ho' : o' = o := ho
      exact ⟨o', ho' ▸ d, hx⟩
    · exact u.N p hp
  · rcases List.mem_append.mp hp with hp | hp
    · exact (s.D.2 p hp (a, (· = o)) (hideMem (W := []).mpr (.inl rfl))).symm
    · rcases List.mem_append.mp hp with hp | hp
      · exact (s.O p hp (a, (· = o)) (hideMem (W := []) (fz := []).mpr (.inl rfl))).symm
      · exact hoff p hp
/-- a loop over a list that nobody else holds -/
theorem JX.forL {t : PySem.Expr} {a : Addr} {vs : List Vl} (i : Nat) (I : List Vl → Led → Led → Prop) (p : PV j l W fz e (.ref a)) (hi : W[i]? = some (a, dLst vs)) (h0 : I vs (W.eraseIdx i) fz) (hs : notSet e = true)
    (turn : ∀ v r W' fz', I (v :: r) W' fz' → JB j l W' fz' t v body (turnQ l (I r) Q)) (done : ∀ W' fz', I [] W' fz' → JX j l ((a, dLst vs) :: W') fz' rest Q) : JX j l W fz (.For t e body [] pos :: rest) Q := by
  intro c ok h g dr t₀ o s QQ E hE K
  obtain ⟨m₀, F₀, _⟩ := s.F
  refine wpAny_execs_cons (For_turns F₀ (p c ok h g dr t₀ o s _ E fun u h' t' iu s' => ?_) (notSet_of hs _) hE)
  cases iu
  have sf := St.freeze s' hi
  have hm : (a, dLst vs) ∈ W.eraseIdx i ++ ((a, dLst vs) :: fz ++ (j.tl ++ c.X)) := List.mem_append_right _ (.head _)
  obtain ⟨o₁, ⟨us, n, rfl, au⟩, n1⟩ := sf.N.one hm
  have hoff : ∀ q ∈ W.eraseIdx i ++ (fz ++ (j.tl ++ c.X)), a ≠ q.1 := by
    have sel : Sel W [(a, dLst vs)] (W.eraseIdx i) := .cons i hi .nil
    have D := Dis.iff.mp (s'.D.perm sel.perm)
    intro q hq
    rcases List.mem_append.mp hq with hq | hq
    · exact (List.pairwise_cons.mp D.1).1 q hq
    · exact D.2 _ (.head _) q hq
  have s1 : St (c.hide a (listOf us.toArray n)) j.tl l (W.eraseIdx i) fz h' := by
    refine St.hide sf.F (sf.N.mono fun q hq => ?_) ⟨sf.D.1, fun p hp q hq => sf.D.2 p hp q (.tail _ hq)⟩ (fun p hp q hq => sf.O p (.tail _ hp) q hq) n1 hoff
    rcases List.mem_append.mp hq with hq | hq
    · exact List.mem_append_left _ hq
    · exact List.mem_append_right _ (.tail _ hq)
  obtain ⟨m, N, F, nn, lj⟩ := LoopJ.of (j := j) (l := l) (I := I vs) s1 h0
  have hX : ∀ q ∈ j.tl ++ c.X, a ≠ q.1 := fun q hq => hoff q (List.mem_append_right _ (List.mem_append_right _ hq))
  have ok1 := ok.hide a (listOf us.toArray n)
  refine list_loop (ax := a) (lo := listOf us.toArray n) (vs := us) (n := n) (fun r m N => ∃ vr, AllIs vr r ∧ LoopJ j l (c.hide a (listOf us.toArray n)) (I vr) m N) ok.hd F nn rfl rfl ⟨vs, au, lj⟩ ?_ ?_ ?_
  · rintro r m N ⟨vr, _, W', fz', _, _, P, _, _⟩
    obtain ⟨o₂, ho, hm⟩ := P.mem (q := (a, (· = listOf us.toArray n))) (hideMem.mpr (.inl rfl))
    have ho' : o₂ = listOf us.toArray n := ho
    exact ho' ▸ hm
  · rintro v r m N I' o' h₁ tk ⟨vr, avr, W', fz', i', hm', P, D, O⟩ hI F' N'
    cases avr with
    | @cons vh _ vr _ iv avr =>
    have hIoff := P.off hI
    have sI : St ((c.hide a (listOf us.toArray n)).hide I' o') j.tl l W' fz' h₁ := St.hide ⟨m, F', hm'⟩ (P.news fun p hp => N' p (.tail _ hp)) D O (fun p hp => by rw [List.mem_singleton.mp hp]; exact N' _ (.head _)) hIoff
    refine turn vh vr W' fz' i' _ (ok1.hide I' o') h₁ g dr tk o sI v iv _ E hE fun f f' l' W₂ fz₂ h₂ t₂ hf s₂ q => ?_
    have te := turn_end (QQ := fun f s' => match f with | Flow.next => wpAny (model pg j.w) c.A (execs rest (j.I.env c.L)) QQ E s' | f => QQ f s') (h := h₁) (g := g) (dr := dr) (t := tk) (t' := t₂) (os := o) (I := I vr) (Q := Q) hf s₂ q (fun x hx => (hIoff x (List.mem_append_right _ (List.mem_append_right _ hx))).symm)
      (fun v u l' W' fz' h' t' iu s₃ q => K (.ret v) _ _ _ _ _ _ ⟨u, rfl, iu⟩ s₃.unhide q)
    exact te.mono fun m led x => ⟨x.1, x.2.elim fun N' y => ⟨N', ⟨vr, avr, y.1⟩, y.2⟩⟩
  · rintro m N h₁ tk ⟨vr, avr, W', fz', i', hm', P, D, O⟩ F' N'
    cases avr
    have s2 : St (c.hide a (listOf us.toArray n)) j.tl l W' fz' h₁ := ⟨⟨m, F', hm'⟩, P.news N', D, O⟩
    exact done W' fz' i' c ok h₁ g dr tk o (s2.back (D := dLst vs) ⟨us, n, rfl, au⟩ hX) QQ E hE K
/-- what a range's bound leads to -/
def RngQ (j : Jp) (l : Loc) (x : Str) (body rest : List Stmt) (Q : Fl → Loc → Led → Led → Prop) (v : Vl) (W fz : Led) : Prop :=
  ∃ (k : Nat) (I : Nat → Led → Led → Prop), v = .int k ∧ k ≤ 1000000 ∧ I 0 W fz ∧ (∀ i W' fz', i < k → I i W' fz' → JX j ((x, .int i) :: l) W' fz' body (turnQ l (I (i + 1)) Q)) ∧ ∀ W' fz', I k W' fz' → JX j l W' fz' rest Q
theorem RngQ.mk {x : Str} {k : Nat} (I : Nat → Led → Led → Prop) (hk : k ≤ 1000000) (h0 : I 0 W fz) (turn : ∀ i W' fz', i < k → I i W' fz' → JX j ((x, .int i) :: l) W' fz' body (turnQ l (I (i + 1)) Q)) (done : ∀ W' fz', I k W' fz' → JX j l W' fz' rest Q) :
    RngQ j l x body rest Q (.int k) W fz := ⟨k, I, rfl, hk, h0, turn, done⟩
theorem JX.forR {x : Str} {xp np rp : Pos} (p : JE j l W fz e (RngQ j l x body rest Q)) (hx : nameOk j x = true) (hr : nameG j (PySem.Str.ofString "range") = true) (hs : notStar e = true) :
    JX j l W fz (.For (.Name x xp) (.Call (.Name (PySem.Str.ofString "range") np) [e] [] rp) body [] pos :: rest) Q := by
  intro c ok h g dr t₀ o s QQ E hE K
  obtain ⟨m₀, F₀, _⟩ := s.F
  refine wpAny_execs_cons (For_invVF F₀ (nameOk.kind hx).1 (by show (j.I.cs.kind == .class || (j.I.cs.kind == .module && _)) = false; rw [ok.kd]; rfl) ?_ (fun _ => rfl) hE)
  refine Call_ (nameX_B F₀ ok.K (topRead_of ok.T) (ns_range _) (v := .type "range") (by boot_by_name) (by decide) ?_ ok.kd (nameG.kind hr).1 (by decide))
  refine PySem.Pv.callWith_type1 (args_cons (p c ok h g dr t₀ o s _ E fun v u W' fz' h' t' iu s' q => args_nil ?_) (star_of hs _ _)) (star_of hs _ _) rfl
  obtain ⟨k, I, rfl, hk, h0, turn, done⟩ := q
  obtain ⟨_, rfl⟩ := iu
  obtain ⟨m, N, F, nn, lj⟩ := LoopJ.of (j := j) (l := l) (I := I 0) s' h0
  refine range1_rows F nn fun h₁ tk t₁ u₁ v₁ R F₁ N₁ _ => ?_
  refine range_loop (fun i m N => LoopJ j l c (I i) m N) ok.hd R (rangeSmall_nat (by omega)) (rangeSize_nat _) F₁ N₁ lj ?_ ?_
  · rintro i t m N I' o' h₂ tk hi ⟨W₂, fz₂, i', hm', P, D, O⟩ hI F' N'
    have hIoff := P.off hI
    have sI : St (c.hide I' o') j.tl ((x, .int i) :: l) W₂ fz₂ h₂ := St.hide ⟨_, F', hm'.store (v := .int i) ⟨t, by rw [Int.zero_add]⟩⟩ (P.news fun p hp => N' p (.tail _ hp)) D O (fun p hp => by rw [List.mem_singleton.mp hp]; exact N' _ (.head _)) hIoff
    refine turn i W₂ fz₂ hi i' _ (ok.hide I' o') h₂ g dr tk o sI _ E hE fun f f' l' W₃ fz₃ h₃ t₃ hf s₃ q => ?_
    exact turn_end (QQ := fun f s' => match f with | Flow.next => wpAny (model pg j.w) c.A (execs rest (j.I.env c.L)) QQ E s' | f => QQ f s') (h := h₂) (g := g) (dr := dr) (t := tk) (t' := t₃) (os := o) (I := I (i + 1)) (Q := Q) hf s₃ q (fun x hx => (hIoff x (List.mem_append_right _ (List.mem_append_right _ hx))).symm)
      (fun v u l' W' fz' h' t' iu s₃ q => K (.ret v) _ _ _ _ _ _ ⟨u, rfl, iu⟩ s₃ q)
  · rintro m N h₂ tk ⟨W₂, fz₂, i', hm', P, D, O⟩ F' N'
    exact done W₂ fz₂ i' c ok h₂ g dr tk o ⟨⟨m, F', hm'⟩, P.news N', D, O⟩ QQ E hE K
theorem St.keep {c : Ctx} {tl : Led} {l l' : Loc} {W fz : Led} {h : Heap} (s : St c tl l' W fz h) (k : Keep l l') : St c tl l W fz h := ⟨s.F.elim fun m x => ⟨m, x.1, x.2.keep k⟩, s.N, s.D, s.O⟩
theorem JX.whl (I : Nat → Led → Led → Prop) (n : Nat) (h0 : I n W fz)
    (turn : ∀ n W' fz', I n W' fz' → JT j l W' fz' e (CondQ (fun W₂ fz₂ => JX j l W₂ fz₂ body (turnQ l (fun W fz => ∃ k, k < n ∧ I k W fz) Q)) (fun W₂ fz₂ => JX j l W₂ fz₂ rest Q))) :
    JX j l W fz (.While e body [] pos :: rest) Q := by
  intro c ok h g dr t₀ o s QQ E hE K
  refine wpAny_execs_cons (whl_start 1 ?_)
  induction n using Nat.strongRecOn generalizing W fz h t₀ with
  | _ n ih =>
    refine whl_turn (k := 0) hE (turn n W fz h0 c ok h g dr t₀ o s _ E fun b W₂ fz₂ h₂ t₂ s₂ q => ?_)
    cases b with
    | false => exact WhlIf.no rfl (wpAny_execs_nil (q.2 rfl c ok h₂ g dr t₂ o s₂ QQ E hE K))
    | true =>
      refine WhlIf.yes rfl (q.1 rfl c ok h₂ g dr t₂ o s₂ _ E hE fun f f' l' W₃ fz₃ h₃ t₃ hf s₃ q₃ => ?_)
      cases f with
      | ret v => obtain ⟨u, rfl, iu⟩ := hf; exact K (.ret v) _ _ _ _ _ _ ⟨u, rfl, iu⟩ s₃ q₃
      | brk => exact q₃.elim
      | next => cases hf; obtain ⟨kp, k, hk, i⟩ := q₃; exact ih k hk i h₃ t₃ (s₃.keep kp)
      | cont => cases hf; obtain ⟨kp, k, hk, i⟩ := q₃; exact ih k hk i h₃ t₃ (s₃.keep kp)
def notTup : PySem.Expr → Bool | .Tuple .. => false | _ => true
theorem noSwap_of {e : PySem.Expr} (h : notTup e = true) (ts : List PySem.Expr) (k : Nat) (tp : Pos) (env : Env) : swappedStores [.Tuple ts k tp] e env = pure Option.none := by
  cases e <;> first | rfl | cases h
theorem swapsSole_of {e : PySem.Expr} (h : notComp e = true) (t : PySem.Expr) (n : Nat) (env : Env) : swapsWithSole [t] e n env = Sem.pure false := by
  unfold swapsWithSole
  exact swaps_of h _ _ _
theorem JX.unpack {ts : List PySem.Expr} {k : Nat} {tp : Pos} (p : JE j l W fz e (fun v W' fz' => JB j l W' fz' (.Tuple ts k tp) v rest Q)) (hc : notComp e = true) (ht : notTup e = true) : JX j l W fz (.Assign [.Tuple ts k tp] e pos :: rest) Q := fun c ok h g dr t₀ o s QQ E hE K =>
  wpAny_execs_cons (Assign_Tuple (p c ok h g dr t₀ o s _ E fun v u W' fz' h' t' iu s' q => q c ok h' g dr t' o s' u iu QQ E hE K) (swapsSole_of hc _ _ _) (noSwap_of ht _ _ _ _))
end
end Mine
end
section
open PySem PySem.W PyProof.Rows PySem.Calls
set_option maxRecDepth 100000
set_option Elab.async false
namespace Mine
theorem mAt {W F : Led} {x : Addr × Dsc} (i : Nat) (h : (W ++ F)[i]? = some x) : x ∈ W ++ F := List.mem_of_getElem? h
theorem mTl {W fz tl : Led} {x : Addr × Dsc} (h : x ∈ tl) : x ∈ W ++ (fz ++ tl) := List.mem_append_right _ (List.mem_append_right _ h)
theorem mFz {W fz tl : Led} {x : Addr × Dsc} (h : x ∈ fz ++ tl) : x ∈ W ++ (fz ++ tl) := List.mem_append_right _ h
theorem mG {G : Led} {x : Addr × Dsc} (i : Nat) (h : G[i]? = some x) : x ∈ G := List.mem_of_getElem? h
section
variable {j : Jp} {l : Loc} {W fz : Led} {e e' b : PySem.Expr} {v : Vl} {pos : Pos} {rest body : List Stmt} {Q : Vl → Led → Led → Prop}
def BoolQ (Q : Bool → Led → Led → Prop) (v : Vl) (W fz : Led) : Prop := ∃ b, v = .bool b ∧ Q b W fz
theorem BoolQ.mk {Q : Bool → Led → Led → Prop} {b : Bool} (q : Q b W fz) : BoolQ Q (.bool b) W fz := ⟨b, rfl, q⟩
theorem JT.val {Q : Bool → Led → Led → Prop} (p : JE j l W fz e (BoolQ Q)) (hp : plainTest e = true) : JT j l W fz e Q := fun c ok h g dr t o s QQ E K =>
  isTrue_plain (p c ok h g dr t o s _ E fun v u W' fz' h' t' iu s' q => by obtain ⟨b, rfl, q⟩ := q; cases iu; exact wpAny_truthy_bool (K _ _ _ _ _ s' q)) (plain_of hp _ _)
theorem JT.not {Q : Bool → Led → Led → Prop} (p : JT j l W fz e (fun b W' fz' => Q (!b) W' fz')) : JT j l W fz (.UnaryOp .Not e pos) Q := fun c ok h g dr t o s QQ E K =>
  isTrue_not (p c ok h g dr t o s _ E fun b W' fz' h' t' s' q => K _ _ _ _ _ s' q)
theorem JT.bop {op : BoolOp} {es : List PySem.Expr} {Q : Bool → Led → Led → Prop} (p : JO j l W fz op es Q) : JT j l W fz (.BoolOp op es pos) Q := fun c ok h g dr t o s QQ E K => p c ok h g dr t o s _ _ QQ E K
theorem JO.or {es : List PySem.Expr} {Q : Bool → Led → Led → Prop} (p : JT j l W fz e (CondQ (Q true) (fun W' fz' => JO j l W' fz' .Or es Q))) : JO j l W fz .Or (e :: es) Q := fun c ok h g dr t o s z pos QQ E K =>
  isTrue_or (p c ok h g dr t o s _ E fun b W' fz' h' t' s' q => by
    cases b with
    | true => rw [if_pos rfl]; exact K _ _ _ _ _ s' (q.1 rfl)
    | false => rw [if_neg (by decide)]; exact q.2 rfl c ok h' g dr t' o s' z pos QQ E K)
theorem JO.orN {Q : Bool → Led → Led → Prop} (q : Q false W fz) : JO j l W fz .Or [] Q := fun c ok h g dr t o s z pos QQ E K => isTrue_or_nil (K _ _ _ _ _ s q)
theorem JO.and {es : List PySem.Expr} {Q : Bool → Led → Led → Prop} (p : JT j l W fz e (CondQ (fun W' fz' => JO j l W' fz' .And es Q) (Q false))) : JO j l W fz .And (e :: es) Q := fun c ok h g dr t o s z pos QQ E K =>
  isTrue_and (p c ok h g dr t o s _ E fun b W' fz' h' t' s' q => by
    cases b with
    | true => rw [if_pos rfl]; exact q.1 rfl c ok h' g dr t' o s' z pos QQ E K
    | false => rw [if_neg (by decide)]; exact K _ _ _ _ _ s' (q.2 rfl))
theorem JO.andN {Q : Bool → Led → Led → Prop} (q : Q true W fz) : JO j l W fz .And [] Q := fun c ok h g dr t o s z pos QQ E K => isTrue_and_nil (K _ _ _ _ _ s q)
/-- an item of what the base comes to -/
def SubQ (j : Jp) (l : Loc) (e' : PySem.Expr) (Q : Vl → Led → Led → Prop) (z : Vl) (W fz : Led) : Prop := ∃ a vs k v, z = .ref a ∧ ((a, dLst vs) ∈ W ++ (fz ++ j.tl) ∨ (a, dTup vs) ∈ W ++ (fz ++ j.tl)) ∧ PV j l W fz e' (.int k) ∧ IxV vs k v ∧ Q v W fz
theorem SubQ.lst {a : Addr} {vs : List Vl} {k : Int} (m : (a, dLst vs) ∈ W ++ (fz ++ j.tl)) (p : PV j l W fz e' (.int k)) (hk : IxV vs k v) (q : Q v W fz) : SubQ j l e' Q (.ref a) W fz := ⟨a, vs, k, v, rfl, .inl m, p, hk, q⟩
theorem SubQ.tup {a : Addr} {vs : List Vl} {k : Int} (m : (a, dTup vs) ∈ W ++ (fz ++ j.tl)) (p : PV j l W fz e' (.int k)) (hk : IxV vs k v) (q : Q v W fz) : SubQ j l e' Q (.ref a) W fz := ⟨a, vs, k, v, rfl, .inr m, p, hk, q⟩
theorem JE.subQ (p : JE j l W fz e (SubQ j l e' Q)) (hs : notSlice e' = true) : JE j l W fz (.Subscript e e' pos) Q := by
  intro c ok h g dr t o s QQ E K
  refine Subscript_ (p c ok h g dr t o s _ E fun z u W' fz' h' t' iu s' q' => ?_)
  obtain ⟨a, vs, k, v, rfl, m, q, hk, q'⟩ := q'
  cases iu
  refine q c ok h' g dr t' o s' _ E fun u' h'' t'' iu' s'' => ?_
  obtain ⟨_, rfl⟩ := iu'
  rcases m with m | m
  · obtain ⟨o', ⟨us, n, rfl, a⟩, n1⟩ := St.has s'' m
    obtain ⟨x, hx, ix⟩ := hk.at a
    exact item_own n1 (.head _) hx (K _ _ _ _ _ _ ix s'' q') (sub_of hs _ _)
  · obtain ⟨o', ⟨us, n, rfl, a⟩, n1⟩ := St.has s'' m
    obtain ⟨x, hx, ix⟩ := hk.at a
    exact itup_own n1 (.head _) hx (K _ _ _ _ _ _ ix s'' q') (sub_of hs _ _)
end

theorem AppQ.at0 {a : Addr} {us : List Vl} {v : Vl} {fz r : Led} {Q : Vl → Led → Led → Prop} (hz : us.length ≤ 1000000) (q : Q .none ((a, dLst (us ++ [v])) :: r) fz) : AppQ a Q v ((a, dLst us) :: r) fz := AppQ.mk 0 rfl hz q
theorem SetI.at0 {j : Jp} {l : Loc} {b e' : PySem.Expr} {R : Led → Led → Prop} {a : Addr} {k : Int} {vs : List Vl} {v : Vl} {fz r : Led} (p : PV j l ((a, dLst vs) :: r) fz b (.ref a)) (q : PV j l ((a, dLst vs) :: r) fz e' (.int k)) (h0 : 0 ≤ k) (hk : k.toNat < vs.length) (hz : vs.length ≤ 1000000) (s : R ((a, dLst (vs.set k.toNat v)) :: r) fz) : SetI j l b e' R v ((a, dLst vs) :: r) fz := SetI.mk 0 p q rfl h0 hk hz s
theorem SetA.at0 {j : Jp} {l : Loc} {b : PySem.Expr} {x : Str} {R : Led → Led → Prop} {z C d : Addr} {es : List (Str × Vl)} {v : Vl} {fz r : Led} (p : PV j l ((d, dDct j.w es) :: r) fz b (.ref z)) (m1 : (z, dInst C d) ∈ ((d, dDct j.w es) :: r) ++ (fz ++ j.tl)) (hz : Nat.ble (setE x v es).length 1000 = true) (k1 : findIn (Mine.hk.heap_1 j.w.params) (.ref C) (PySem.Str.ofString "__setattr__") = some (some (.builtin "object.__setattr__"))) (k2 : plainOver (Mine.hk.heap_1 j.w.params) C = true) (k3 : takerIn (Mine.hk.heap_1 j.w.params) C x = some none) (k4 : hasDictIn (Mine.hk.heap_1 j.w.params) C = true) (s : R ((d, dDct j.w (setE x v es)) :: r) fz) : SetA j l b x R v ((d, dDct j.w es) :: r) fz := SetA.mk 0 p m1 rfl hz k1 k2 k3 k4 s
theorem JE.pop0 {j : Jp} {l : Loc} {b : PySem.Expr} {a : Addr} {us : List Vl} {v : Vl} {apos pos : Pos} {fz r : Led} {Q : Vl → Led → Led → Prop} (p : PV j l ((a, dLst (us ++ [v])) :: r) fz b (.ref a)) (hz : us.length ≤ 1000000) (ho : methOk b [] apos pos = true) (q : Q v ((a, dLst us) :: r) fz) : JE j l ((a, dLst (us ++ [v])) :: r) fz (.Call (.Attribute b (PySem.Str.ofString "pop") apos) [] [] pos) Q := JE.pop 0 p rfl hz ho q
theorem AppQ.at1 {a : Addr} {us : List Vl} {v : Vl} {fz r : Led} {Q : Vl → Led → Led → Prop} {p0 : Addr × Dsc} (hz : us.length ≤ 1000000) (q : Q .none (p0 :: (a, dLst (us ++ [v])) :: r) fz) : AppQ a Q v (p0 :: (a, dLst us) :: r) fz := AppQ.mk 1 rfl hz q
theorem SetI.at1 {j : Jp} {l : Loc} {b e' : PySem.Expr} {R : Led → Led → Prop} {a : Addr} {k : Int} {vs : List Vl} {v : Vl} {fz r : Led} {p0 : Addr × Dsc} (p : PV j l (p0 :: (a, dLst vs) :: r) fz b (.ref a)) (q : PV j l (p0 :: (a, dLst vs) :: r) fz e' (.int k)) (h0 : 0 ≤ k) (hk : k.toNat < vs.length) (hz : vs.length ≤ 1000000) (s : R (p0 :: (a, dLst (vs.set k.toNat v)) :: r) fz) : SetI j l b e' R v (p0 :: (a, dLst vs) :: r) fz := SetI.mk 1 p q rfl h0 hk hz s
theorem SetA.at1 {j : Jp} {l : Loc} {b : PySem.Expr} {x : Str} {R : Led → Led → Prop} {z C d : Addr} {es : List (Str × Vl)} {v : Vl} {fz r : Led} {p0 : Addr × Dsc} (p : PV j l (p0 :: (d, dDct j.w es) :: r) fz b (.ref z)) (m1 : (z, dInst C d) ∈ (p0 :: (d, dDct j.w es) :: r) ++ (fz ++ j.tl)) (hz : Nat.ble (setE x v es).length 1000 = true) (k1 : findIn (Mine.hk.heap_1 j.w.params) (.ref C) (PySem.Str.ofString "__setattr__") = some (some (.builtin "object.__setattr__"))) (k2 : plainOver (Mine.hk.heap_1 j.w.params) C = true) (k3 : takerIn (Mine.hk.heap_1 j.w.params) C x = some none) (k4 : hasDictIn (Mine.hk.heap_1 j.w.params) C = true) (s : R (p0 :: (d, dDct j.w (setE x v es)) :: r) fz) : SetA j l b x R v (p0 :: (d, dDct j.w es) :: r) fz := SetA.mk 1 p m1 rfl hz k1 k2 k3 k4 s
theorem AppQ.at2 {a : Addr} {us : List Vl} {v : Vl} {fz r : Led} {Q : Vl → Led → Led → Prop} {p0 p1 : Addr × Dsc} (hz : us.length ≤ 1000000) (q : Q .none (p0 :: p1 :: (a, dLst (us ++ [v])) :: r) fz) : AppQ a Q v (p0 :: p1 :: (a, dLst us) :: r) fz := AppQ.mk 2 rfl hz q
theorem SetA.at2 {j : Jp} {l : Loc} {b : PySem.Expr} {x : Str} {R : Led → Led → Prop} {z C d : Addr} {es : List (Str × Vl)} {v : Vl} {fz r : Led} {p0 p1 : Addr × Dsc} (p : PV j l (p0 :: p1 :: (d, dDct j.w es) :: r) fz b (.ref z)) (m1 : (z, dInst C d) ∈ (p0 :: p1 :: (d, dDct j.w es) :: r) ++ (fz ++ j.tl)) (hz : Nat.ble (setE x v es).length 1000 = true) (k1 : findIn (Mine.hk.heap_1 j.w.params) (.ref C) (PySem.Str.ofString "__setattr__") = some (some (.builtin "object.__setattr__"))) (k2 : plainOver (Mine.hk.heap_1 j.w.params) C = true) (k3 : takerIn (Mine.hk.heap_1 j.w.params) C x = some none) (k4 : hasDictIn (Mine.hk.heap_1 j.w.params) C = true) (s : R (p0 :: p1 :: (d, dDct j.w (setE x v es)) :: r) fz) : SetA j l b x R v (p0 :: p1 :: (d, dDct j.w es) :: r) fz := SetA.mk 2 p m1 rfl hz k1 k2 k3 k4 s
theorem SetA.at3 {j : Jp} {l : Loc} {b : PySem.Expr} {x : Str} {R : Led → Led → Prop} {z C d : Addr} {es : List (Str × Vl)} {v : Vl} {fz r : Led} {p0 p1 p2 : Addr × Dsc} (p : PV j l (p0 :: p1 :: p2 :: (d, dDct j.w es) :: r) fz b (.ref z)) (m1 : (z, dInst C d) ∈ (p0 :: p1 :: p2 :: (d, dDct j.w es) :: r) ++ (fz ++ j.tl)) (hz : Nat.ble (setE x v es).length 1000 = true) (k1 : findIn (Mine.hk.heap_1 j.w.params) (.ref C) (PySem.Str.ofString "__setattr__") = some (some (.builtin "object.__setattr__"))) (k2 : plainOver (Mine.hk.heap_1 j.w.params) C = true) (k3 : takerIn (Mine.hk.heap_1 j.w.params) C x = some none) (k4 : hasDictIn (Mine.hk.heap_1 j.w.params) C = true) (s : R (p0 :: p1 :: p2 :: (d, dDct j.w (setE x v es)) :: r) fz) : SetA j l b x R v (p0 :: p1 :: p2 :: (d, dDct j.w es) :: r) fz := SetA.mk 3 p m1 rfl hz k1 k2 k3 k4 s
theorem JX.freeze3 {j : Jp} {l : Loc} {fz r : Led} {ss : List Stmt} {Q : Fl → Loc → Led → Led → Prop} {p : Addr × Dsc} {p0 p1 p2 : Addr × Dsc} (q : JX j l (p0 :: p1 :: p2 :: r) (p :: fz) ss Q) : JX j l (p0 :: p1 :: p2 :: p :: r) fz ss Q := JX.freeze 3 rfl q
theorem AppQ.at4 {a : Addr} {us : List Vl} {v : Vl} {fz r : Led} {Q : Vl → Led → Led → Prop} {p0 p1 p2 p3 : Addr × Dsc} (hz : us.length ≤ 1000000) (q : Q .none (p0 :: p1 :: p2 :: p3 :: (a, dLst (us ++ [v])) :: r) fz) : AppQ a Q v (p0 :: p1 :: p2 :: p3 :: (a, dLst us) :: r) fz := AppQ.mk 4 rfl hz q
theorem SetA.at4 {j : Jp} {l : Loc} {b : PySem.Expr} {x : Str} {R : Led → Led → Prop} {z C d : Addr} {es : List (Str × Vl)} {v : Vl} {fz r : Led} {p0 p1 p2 p3 : Addr × Dsc} (p : PV j l (p0 :: p1 :: p2 :: p3 :: (d, dDct j.w es) :: r) fz b (.ref z)) (m1 : (z, dInst C d) ∈ (p0 :: p1 :: p2 :: p3 :: (d, dDct j.w es) :: r) ++ (fz ++ j.tl)) (hz : Nat.ble (setE x v es).length 1000 = true) (k1 : findIn (Mine.hk.heap_1 j.w.params) (.ref C) (PySem.Str.ofString "__setattr__") = some (some (.builtin "object.__setattr__"))) (k2 : plainOver (Mine.hk.heap_1 j.w.params) C = true) (k3 : takerIn (Mine.hk.heap_1 j.w.params) C x = some none) (k4 : hasDictIn (Mine.hk.heap_1 j.w.params) C = true) (s : R (p0 :: p1 :: p2 :: p3 :: (d, dDct j.w (setE x v es)) :: r) fz) : SetA j l b x R v (p0 :: p1 :: p2 :: p3 :: (d, dDct j.w es) :: r) fz := SetA.mk 4 p m1 rfl hz k1 k2 k3 k4 s
theorem JX.freeze4 {j : Jp} {l : Loc} {fz r : Led} {ss : List Stmt} {Q : Fl → Loc → Led → Led → Prop} {p : Addr × Dsc} {p0 p1 p2 p3 : Addr × Dsc} (q : JX j l (p0 :: p1 :: p2 :: p3 :: r) (p :: fz) ss Q) : JX j l (p0 :: p1 :: p2 :: p3 :: p :: r) fz ss Q := JX.freeze 4 rfl q
theorem AppQ.at5 {a : Addr} {us : List Vl} {v : Vl} {fz r : Led} {Q : Vl → Led → Led → Prop} {p0 p1 p2 p3 p4 : Addr × Dsc} (hz : us.length ≤ 1000000) (q : Q .none (p0 :: p1 :: p2 :: p3 :: p4 :: (a, dLst (us ++ [v])) :: r) fz) : AppQ a Q v (p0 :: p1 :: p2 :: p3 :: p4 :: (a, dLst us) :: r) fz := AppQ.mk 5 rfl hz q
theorem SetA.at5 {j : Jp} {l : Loc} {b : PySem.Expr} {x : Str} {R : Led → Led → Prop} {z C d : Addr} {es : List (Str × Vl)} {v : Vl} {fz r : Led} {p0 p1 p2 p3 p4 : Addr × Dsc} (p : PV j l (p0 :: p1 :: p2 :: p3 :: p4 :: (d, dDct j.w es) :: r) fz b (.ref z)) (m1 : (z, dInst C d) ∈ (p0 :: p1 :: p2 :: p3 :: p4 :: (d, dDct j.w es) :: r) ++ (fz ++ j.tl)) (hz : Nat.ble (setE x v es).length 1000 = true) (k1 : findIn (Mine.hk.heap_1 j.w.params) (.ref C) (PySem.Str.ofString "__setattr__") = some (some (.builtin "object.__setattr__"))) (k2 : plainOver (Mine.hk.heap_1 j.w.params) C = true) (k3 : takerIn (Mine.hk.heap_1 j.w.params) C x = some none) (k4 : hasDictIn (Mine.hk.heap_1 j.w.params) C = true) (s : R (p0 :: p1 :: p2 :: p3 :: p4 :: (d, dDct j.w (setE x v es)) :: r) fz) : SetA j l b x R v (p0 :: p1 :: p2 :: p3 :: p4 :: (d, dDct j.w es) :: r) fz := SetA.mk 5 p m1 rfl hz k1 k2 k3 k4 s
theorem JE.pop5 {j : Jp} {l : Loc} {b : PySem.Expr} {a : Addr} {us : List Vl} {v : Vl} {apos pos : Pos} {fz r : Led} {Q : Vl → Led → Led → Prop} {p0 p1 p2 p3 p4 : Addr × Dsc} (p : PV j l (p0 :: p1 :: p2 :: p3 :: p4 :: (a, dLst (us ++ [v])) :: r) fz b (.ref a)) (hz : us.length ≤ 1000000) (ho : methOk b [] apos pos = true) (q : Q v (p0 :: p1 :: p2 :: p3 :: p4 :: (a, dLst us) :: r) fz) : JE j l (p0 :: p1 :: p2 :: p3 :: p4 :: (a, dLst (us ++ [v])) :: r) fz (.Call (.Attribute b (PySem.Str.ofString "pop") apos) [] [] pos) Q := JE.pop 5 p rfl hz ho q
theorem AppQ.at6 {a : Addr} {us : List Vl} {v : Vl} {fz r : Led} {Q : Vl → Led → Led → Prop} {p0 p1 p2 p3 p4 p5 : Addr × Dsc} (hz : us.length ≤ 1000000) (q : Q .none (p0 :: p1 :: p2 :: p3 :: p4 :: p5 :: (a, dLst (us ++ [v])) :: r) fz) : AppQ a Q v (p0 :: p1 :: p2 :: p3 :: p4 :: p5 :: (a, dLst us) :: r) fz := AppQ.mk 6 rfl hz q
theorem SetA.at6 {j : Jp} {l : Loc} {b : PySem.Expr} {x : Str} {R : Led → Led → Prop} {z C d : Addr} {es : List (Str × Vl)} {v : Vl} {fz r : Led} {p0 p1 p2 p3 p4 p5 : Addr × Dsc} (p : PV j l (p0 :: p1 :: p2 :: p3 :: p4 :: p5 :: (d, dDct j.w es) :: r) fz b (.ref z)) (m1 : (z, dInst C d) ∈ (p0 :: p1 :: p2 :: p3 :: p4 :: p5 :: (d, dDct j.w es) :: r) ++ (fz ++ j.tl)) (hz : Nat.ble (setE x v es).length 1000 = true) (k1 : findIn (Mine.hk.heap_1 j.w.params) (.ref C) (PySem.Str.ofString "__setattr__") = some (some (.builtin "object.__setattr__"))) (k2 : plainOver (Mine.hk.heap_1 j.w.params) C = true) (k3 : takerIn (Mine.hk.heap_1 j.w.params) C x = some none) (k4 : hasDictIn (Mine.hk.heap_1 j.w.params) C = true) (s : R (p0 :: p1 :: p2 :: p3 :: p4 :: p5 :: (d, dDct j.w (setE x v es)) :: r) fz) : SetA j l b x R v (p0 :: p1 :: p2 :: p3 :: p4 :: p5 :: (d, dDct j.w es) :: r) fz := SetA.mk 6 p m1 rfl hz k1 k2 k3 k4 s
theorem JE.pop6 {j : Jp} {l : Loc} {b : PySem.Expr} {a : Addr} {us : List Vl} {v : Vl} {apos pos : Pos} {fz r : Led} {Q : Vl → Led → Led → Prop} {p0 p1 p2 p3 p4 p5 : Addr × Dsc} (p : PV j l (p0 :: p1 :: p2 :: p3 :: p4 :: p5 :: (a, dLst (us ++ [v])) :: r) fz b (.ref a)) (hz : us.length ≤ 1000000) (ho : methOk b [] apos pos = true) (q : Q v (p0 :: p1 :: p2 :: p3 :: p4 :: p5 :: (a, dLst us) :: r) fz) : JE j l (p0 :: p1 :: p2 :: p3 :: p4 :: p5 :: (a, dLst (us ++ [v])) :: r) fz (.Call (.Attribute b (PySem.Str.ofString "pop") apos) [] [] pos) Q := JE.pop 6 p rfl hz ho q
theorem AppQ.at7 {a : Addr} {us : List Vl} {v : Vl} {fz r : Led} {Q : Vl → Led → Led → Prop} {p0 p1 p2 p3 p4 p5 p6 : Addr × Dsc} (hz : us.length ≤ 1000000) (q : Q .none (p0 :: p1 :: p2 :: p3 :: p4 :: p5 :: p6 :: (a, dLst (us ++ [v])) :: r) fz) : AppQ a Q v (p0 :: p1 :: p2 :: p3 :: p4 :: p5 :: p6 :: (a, dLst us) :: r) fz := AppQ.mk 7 rfl hz q
theorem SetA.at7 {j : Jp} {l : Loc} {b : PySem.Expr} {x : Str} {R : Led → Led → Prop} {z C d : Addr} {es : List (Str × Vl)} {v : Vl} {fz r : Led} {p0 p1 p2 p3 p4 p5 p6 : Addr × Dsc} (p : PV j l (p0 :: p1 :: p2 :: p3 :: p4 :: p5 :: p6 :: (d, dDct j.w es) :: r) fz b (.ref z)) (m1 : (z, dInst C d) ∈ (p0 :: p1 :: p2 :: p3 :: p4 :: p5 :: p6 :: (d, dDct j.w es) :: r) ++ (fz ++ j.tl)) (hz : Nat.ble (setE x v es).length 1000 = true) (k1 : findIn (Mine.hk.heap_1 j.w.params) (.ref C) (PySem.Str.ofString "__setattr__") = some (some (.builtin "object.__setattr__"))) (k2 : plainOver (Mine.hk.heap_1 j.w.params) C = true) (k3 : takerIn (Mine.hk.heap_1 j.w.params) C x = some none) (k4 : hasDictIn (Mine.hk.heap_1 j.w.params) C = true) (s : R (p0 :: p1 :: p2 :: p3 :: p4 :: p5 :: p6 :: (d, dDct j.w (setE x v es)) :: r) fz) : SetA j l b x R v (p0 :: p1 :: p2 :: p3 :: p4 :: p5 :: p6 :: (d, dDct j.w es) :: r) fz := SetA.mk 7 p m1 rfl hz k1 k2 k3 k4 s
theorem SetA.at8 {j : Jp} {l : Loc} {b : PySem.Expr} {x : Str} {R : Led → Led → Prop} {z C d : Addr} {es : List (Str × Vl)} {v : Vl} {fz r : Led} {p0 p1 p2 p3 p4 p5 p6 p7 : Addr × Dsc} (p : PV j l (p0 :: p1 :: p2 :: p3 :: p4 :: p5 :: p6 :: p7 :: (d, dDct j.w es) :: r) fz b (.ref z)) (m1 : (z, dInst C d) ∈ (p0 :: p1 :: p2 :: p3 :: p4 :: p5 :: p6 :: p7 :: (d, dDct j.w es) :: r) ++ (fz ++ j.tl)) (hz : Nat.ble (setE x v es).length 1000 = true) (k1 : findIn (Mine.hk.heap_1 j.w.params) (.ref C) (PySem.Str.ofString "__setattr__") = some (some (.builtin "object.__setattr__"))) (k2 : plainOver (Mine.hk.heap_1 j.w.params) C = true) (k3 : takerIn (Mine.hk.heap_1 j.w.params) C x = some none) (k4 : hasDictIn (Mine.hk.heap_1 j.w.params) C = true) (s : R (p0 :: p1 :: p2 :: p3 :: p4 :: p5 :: p6 :: p7 :: (d, dDct j.w (setE x v es)) :: r) fz) : SetA j l b x R v (p0 :: p1 :: p2 :: p3 :: p4 :: p5 :: p6 :: p7 :: (d, dDct j.w es) :: r) fz := SetA.mk 8 p m1 rfl hz k1 k2 k3 k4 s
end Mine
end
section
open PySem PySem.W PyProof.Rows PySem.Calls PyProof.V
set_option maxRecDepth 100000
set_option Elab.async false
namespace Mine
section
variable {prog : Program} {w : World} {A : Around} {E : Value → Shared → Prop} {s : Shared} {h₀ : Heap} {L sp a : Addr} {m : Str → Option Value} {news led : List (Addr × Obj)} {o ok : Obj} {n : Nat} {ks : List Int} {v : Value}
theorem slice_rev_own {l : Addr} {vs : List Value} {n : Nat} {value slice : PySem.Expr} {vk : Value} {ops : List Value} {Q : Value → Shared → Prop} (F : Fr h₀ L s.heap m) (N : News h₀ L s.heap news) (hm : (l, listOf vs.toArray n) ∈ news) (pk : IsPart vk (some (-1)))
    (hz : vs.length ≤ 1000000) (h : ∀ D h', Fr h₀ L h' m → News h₀ L h' ((D, listOf vs.reverse.toArray 0) :: news) → NewA D news → Q (.ref D) { s with heap := h' })
    (hs : subscripted slice false (.ref l) (.ref s.heap.objs.size) = operate ops (getItem (.ref l) (.ref s.heap.objs.size))) (ht : ∀ r, letTemporaryGo value (.ref l) r = pure ()) :
    wpAny (model prog w) A (subscriptTail value slice (.ref l) (.ref s.heap.objs.size)) Q E { s with heap := s.heap.push { cls := .type "slice", data := .fields #[.none, .none, vk] } } :=
  krv_lit (its := vs.toArray) (zs := vs.reverse) F N ⟨_, (N _ hm).1, rfl, n, rfl⟩ pk rfl (fun D h' F' N' l1 => h D h' F' N' l1) hs ht (by rw [List.size_toArray]; exact Nat.le_trans hz (by decide))
end
/-- the fixed part of a Scopes: where its parts lie, and the tokens of its names -/
structure Cfg where
  (S dS Bo dB W BD AG AL FR RM LC bl sp : Addr)
  (t0 t1 t2 t3 t4 t5 t6 t7 t8 t9 u s0 b0 b1 b2 b3 b4 tn ta ln : Nat)
  lv : List Value
abbrev scObj (w : World) (c : Cfg) (here : Nat) (th : Nat) : Obj :=
  dictOf [ent w "world" c.t0 (.ref c.W), ent w "bounds" c.t1 (.ref c.BD), ent w "args" c.t2 (.ref c.AG), ent w "first_user" c.t3 (.int 1 c.u), ent w "body" c.t4 (.ref c.Bo), ent w "spot" c.t5 (.int 0 c.s0), ent w "alias" c.t6 (.ref c.AL), ent w "frames" c.t7 (.ref c.FR), ent w "rooms" c.t8 (.ref c.RM), ent w "here" c.t9 (.int here th)] 10
abbrev boObj (w : World) (c : Cfg) : Obj :=
  dictOf [ent w "name" c.b0 (.str (Str.ofString "f") c.tn), ent w "arg_count" c.b1 (.int 0 c.ta), ent w "locals" c.b2 (.ref c.LC), ent w "blocks" c.b3 (.ref c.bl), ent w "spots" c.b4 (.ref c.sp)] 5
abbrev scL (w : World) (c : Cfg) (here th : Nat) (b st : Addr) (bs ts : List Value) (n1 n2 n3 : Nat) (o : Obj) : List (Addr × Obj) :=
  [(c.S, instObj 304 c.dS), (c.dS, scObj w c here th), (c.Bo, instObj 82 c.dB), (c.dB, boObj w c), (c.sp, o), (c.bl, listOf (bs ++ [Value.ref b]).toArray n1), (b, listOf [Value.ref st, Value.none].toArray n2), (st, listOf ts.toArray n3)]
end Mine
end
section
open PySem PySem.W PyProof.Rows PySem.Calls PyProof.V
set_option maxRecDepth 100000
set_option Elab.async false
namespace Mine
section
variable {prog : Program} {w : World} {A : Around} {E : Value → Shared → Prop} {s : Shared} {env : Env} {h₀ : Heap} {x : Str} {body : List Stmt} {Q : Flow → Shared → Prop}
theorem rangeC_rest {I : Addr} {a c : Int} {n : Nat} (J : Nat → (Str → Option Value) → List (Addr × Obj) → Prop)
    (turn : ∀ i t m news o h tk, i < n → J i m news → (∀ p ∈ news, p.1 ≠ I) → Fr h₀ env.locals h (fun y => if y = x then some (.int (a + (i : Int) * c) t) else m y) → News h₀ env.locals h ((I, o) :: news) →
      wpAny (model prog w) A (execs body env) (TurnEnd h₀ env.locals { s with heap := h, toks := tk } (GoOn (J (i + 1)) I o) Q) E { s with heap := h, toks := tk })
    (done : ∀ m news h tk, J n m news → Fr h₀ env.locals h m → News h₀ env.locals h news → Q .next { s with heap := h, toks := tk }) :
    ∀ (k i : Nat) (m : Str → Option Value) (news : List (Addr × Obj)), i + k = n → J i m news → (∀ p ∈ news, p.1 ≠ I) → KrsRest prog w A E h₀ env x body Q s I a c n k i m news := by
  intro k
  induction k with
  | zero =>
    intro i m news e hj _
    have e' : i = n := by omega
    exact KrsRest.zero fun h tk F N => done m news h tk (e' ▸ hj) F N
  | succ k ih =>
    intro i m news e hj hI
    refine KrsRest.succ rfl fun t h tk F N => ?_
    refine wpAny_mono (turn i t m news _ h tk (by omega) hj hI F N) (fun f s₃ h₃ => ?_) fun _ _ e => e
    have fin : (∃ h' tk' m' led, s₃ = { ({ s with heap := h, toks := tk } : Shared) with heap := h', toks := tk' } ∧ Fr h₀ env.locals h' m' ∧ News h₀ env.locals h' led ∧ GoOn (J (i + 1)) I (krsIt (a + ((i + 1 : Nat) : Int) * c) ((n : Int) - ((i + 1 : Nat) : Int)) c) m' led) →
        UnrEnd h₀ env.locals { s with heap := h, toks := tk } I (krsIt (a + ((i + 1 : Nat) : Int) * c) ((n : Int) - ((i + 1 : Nat) : Int)) c) (KrsRest prog w A E h₀ env x body Q s I a c n k (i + 1)) s₃ := by
      rintro ⟨h', tk', m', led, e', F', N', hIl, news', hj', hs, hI'⟩
      refine ⟨h', tk', m', news', e', F', fun p hp => ?_, hI', ih (i + 1) m' news' (by omega) hj' hI'⟩
      rcases List.mem_cons.mp hp with hp | hp
      · rw [hp]; exact N' _ hIl
      · exact N' _ (hs p hp)
    cases f with
    | ret v => exact h₃
    | brk => exact h₃
    | next => exact fin h₃
    | cont => exact fin h₃
theorem rangeC_loop {r : Addr} {a₀ b₀ c : Int} {t₀ u₀ v₀ : Tok} {n : Nat} {m : Str → Option Value} {news : List (Addr × Obj)} (J : Nat → (Str → Option Value) → List (Addr × Obj) → Prop)
    (hh : A.handled = none) (hr : IsRange s.heap r a₀ b₀ c t₀ u₀ v₀) (hsmall : Builtin.Range.small a₀ b₀ c = true) (hn : Builtin.Range.rangeSize a₀ b₀ c = (n : Int)) (F : Fr h₀ env.locals s.heap m) (N : News h₀ env.locals s.heap news) (hj : J 0 m news)
    (turn : ∀ i t m news I o h tk, i < n → J i m news → (∀ p ∈ news, p.1 ≠ I) → Fr h₀ env.locals h (fun y => if y = x then some (.int (a₀ + (i : Int) * c) t) else m y) → News h₀ env.locals h ((I, o) :: news) →
      wpAny (model prog w) A (execs body env) (TurnEnd h₀ env.locals { s with heap := h, toks := tk } (GoOn (J (i + 1)) I o) Q) E { s with heap := h, toks := tk })
    (done : ∀ m news h tk, J n m news → Fr h₀ env.locals h m → News h₀ env.locals h news → Q .next { s with heap := h, toks := tk }) :
    wpAny (model prog w) A (pyIter (.ref r)) (fun it s₂ => LoopAtV prog w A h₀ env x body Q E it s₂) E s :=
  krs_iter hh hr hsmall hn F N fun I hI => rangeC_rest J (fun i t m news o h tk a b c d e => turn i t m news I o h tk a b c d e) done n 0 m news (by omega) hj fun p hp => Nat.ne_of_lt (hI p hp)
end
end Mine
end
section
open PySem PySem.W PyProof.Rows PySem.Calls PyProof.V
set_option maxRecDepth 100000
set_option Elab.async false
namespace Mine
open PyProof.Rows.LCg PyProof.Rows.LCt
inductive Kd | uni | sha | res
  deriving DecidableEq
def Kd.str : Kd → Str
  | .uni => Str.ofString "unique"
  | .sha => Str.ofString "shared"
  | .res => Str.ofString "reserved"
abbrev SRow := Nat × Kd
def rowS (r : SRow) : Dat := .tuple [.int r.1, .str r.2.str]
/-- where a stack's parts lie -/
structure SCfg where
  (ST dST : Addr)
  (ti : Nat)
abbrev stL (w : World) (c : SCfg) (it : Addr) (vs : List Value) (k : Nat) : List (Addr × Obj) :=
  [(c.ST, instObj 426 c.dST), (c.dST, dictOf [ent w "items" c.ti (.ref it)] 1), (it, listOf vs.toArray k)]
section
variable {prog : Program} {w : World} {A : Around} {E : Value → Shared → Prop} {s : Shared} {h₀ : Heap} {L D a b l : Addr} {m : Str → Option Value} {news : List (Addr × Obj)} {vs ws zs : List Value} {n n1 n2 : Nat}
theorem slice_own {value slice : PySem.Expr} {vl vu : Value} {lo hi : Option Int} {Q : Value → Shared → Prop} (F : Fr h₀ L s.heap m) (N : News h₀ L s.heap news) (hm : (l, listOf vs.toArray n) ∈ news) (pl : IsPart vl lo) (pu : IsPart vu hi) (e : kms_pick vs lo hi = zs) (hz : vs.length ≤ 1000000)
    (h : ∀ D h', Fr h₀ L h' m → News h₀ L h' ((D, listOf zs.toArray 0) :: news) → NewA D news → Q (.ref D) { s with heap := h' })
    (hs : subscripted slice false (.ref l) (.ref s.heap.objs.size) = operate [.ref s.heap.objs.size, .ref l] (getItem (.ref l) (.ref s.heap.objs.size))) (ht : ∀ r, letTemporaryGo value (.ref l) r = pure ()) :
    wpAny (model prog w) A (subscriptTail value slice (.ref l) (.ref s.heap.objs.size)) Q E { s with heap := s.heap.push { cls := .type "slice", data := .fields #[vl, vu, .none] } } :=
  kms_slice_lit (its := vs.toArray) F N ⟨_, (N _ hm).1, rfl, n, rfl⟩ pl pu (by rw [List.toList_toArray]; exact e) h hs ht (by rw [List.size_toArray]; exact Nat.le_trans hz (by decide))
theorem add_own {Q : Value → Shared → Prop} (F : Fr h₀ L s.heap m) (N : News h₀ L s.heap news) (ha : (a, listOf vs.toArray n1) ∈ news) (hb : (b, listOf ws.toArray n2) ∈ news) (hz : vs.length + ws.length ≤ 1000000)
    (h : ∀ D h', Fr h₀ L h' m → News h₀ L h' ((D, listOf (vs ++ ws).toArray 0) :: news) → NewA D news → Q (.ref D) { s with heap := h' }) :
    wpAny (model prog w) A (binaryOp .Add (.ref a) (.ref b)) Q E s :=
  kmk_add_lit (its := vs.toArray) (its2 := ws.toArray) F N ⟨_, (N _ ha).1, rfl, n1, rfl⟩ ⟨_, (N _ hb).1, rfl, n2, rfl⟩ (by rw [List.toList_toArray, List.toList_toArray]) h (by rw [List.toList_toArray, List.toList_toArray]; exact Nat.le_trans hz (by decide))
theorem pick_upto {k : Int} (e : k = vs.length) : kms_pick (vs ++ ws) none (some k) = vs := by
  subst e
  have h0 : ¬ ((vs.length : Int) < 0) := by omega
  simp [kms_pick, kms_lo, kms_hi, h0]
theorem pick_from {k : Int} (e : k = vs.length) : kms_pick (vs ++ ws) (some k) none = ws := by
  subst e
  have h0 : ¬ ((vs.length : Int) < 0) := by omega
  simp [kms_pick, kms_lo, kms_hi, h0]
end
end Mine
end
section
open PySem PySem.W PyProof.Rows PySem.Calls PyProof.V
set_option maxRecDepth 100000
set_option Elab.async false
namespace Mine
section
variable {prog : Program} {w : World} {A : Around} {E : Value → Shared → Prop} {s : Shared} {h₀ : Heap} {L D b : Addr} {m : Str → Option Value} {news news' : List (Addr × Obj)} {vs us : List Value} {n n2 : Nat}
theorem extend_own {Q : Value → Shared → Prop} (F : Fr h₀ L s.heap m) (N : News h₀ L s.heap news) (hb : (b, listOf us.toArray n2) ∈ news) (hne : us.length ≠ 0) (U : Upd D (listOf vs.toArray n) (listOf (vs ++ us).toArray (n + 1)) news news')
    (hz : vs.length + us.length ≤ 1000000) (h : ∀ h', Fr h₀ L h' m → News h₀ L h' news' → Q .none { s with heap := h' }) : wpAny (model prog w) A (call (.builtin "list.extend") [.ref D, .ref b]) Q E s :=
  kl_extend (its := vs.toArray) (its2 := us.toArray) F N hb rfl (by simpa using hne) (by simpa using U) (by
    intro hc
    rw [Bool.and_eq_true] at hc
    have h2 := hc.2
    simp only [Builtin.List.listTooLong, List.size_toArray] at h2
    have h3 : vs.length + us.length ≤ sizeLine := Nat.le_trans hz (Nat.le_of_ble_eq_true rfl)
    revert h2
    simp
    omega) (by show vs.toArray.toList.length ≤ sizeLine; rw [List.toList_toArray]; exact Nat.le_trans (Nat.le_trans (Nat.le_add_right _ _) hz) (by decide)) (by rw [List.size_toArray, List.size_toArray]; exact Nat.le_trans hz (by decide)) h
theorem copy_own {Q : Value → Shared → Prop} (F : Fr h₀ L s.heap m) (N : News h₀ L s.heap news) (hb : (b, listOf us.toArray n2) ∈ news) (hz : us.length ≤ 1000000)
    (h : ∀ D c h', Fr h₀ L h' m → News h₀ L h' ((D, listOf us.toArray c) :: news) → NewA D news → Q (.ref D) { s with heap := h' }) : wpAny (model prog w) A (call (.type "list") [.ref b]) Q E s :=
  kup_listOf F N hb (List.toList_toArray) h (by rw [List.toList_toArray]; exact Nat.le_trans hz (by decide))
theorem range0_own {r : Addr} {t₀ u₀ v₀ : Tok} {Q : Value → Shared → Prop} (hh : A.handled = none) (F : Fr h₀ L s.heap m) (N : News h₀ L s.heap news) (hr : IsRange s.heap r 1 1 1 t₀ u₀ v₀)
    (h : ∀ D c h' tk, Fr h₀ L h' m → News h₀ L h' ((D, listOf ([] : List Value).toArray c) :: news) → NewA D news → Q (.ref D) { s with heap := h', toks := tk }) :
    wpAny (model prog w) A (call (.type "list") [.ref r]) Q E s :=
  kll_range (n := 0) hh F N hr (by decide) (by decide) (by decide) fun D us c h' tk F' N' l hI => by
    have : us = [] := by
      cases us with
      | nil => rfl
      | cons x r => exact absurd hI.length (by show r.length + 1 ≠ 0; exact Nat.succ_ne_zero _)
    subst this
    exact h D c h' tk F' N' l
end
end Mine
end
section
open PySem PySem.W PyProof.Rows PySem.Calls
set_option maxRecDepth 100000
set_option Elab.async false
namespace Mine
/-- what a call has made and nobody wants -/
theorem JC.drp {w : World} {d u : Nat} {tl W fz : Led} {f : Addr} {vs : List Vl} {Q : Vl → Led → Led → Prop} (H : JC w d u tl W fz f vs (fun v W' fz' => ∃ Wc Wr, Sel W' Wc Wr ∧ Q v Wr fz')) : JC w d u tl W fz f vs Q :=
  fun I l c ok h g dr t o s us a QQ E K => H I l c ok h g dr t o s us a QQ E fun v u W' fz' h' t' iu s' q => by
    obtain ⟨Wc, Wr, sel, q⟩ := q
    have D := Dis.iff.mp (s'.D.perm sel.perm)
    refine K v u Wr fz' h' t' iu ⟨s'.F, s'.N.mono fun p hp => ?_, Dis.iff.mpr ⟨(List.pairwise_append.mp D.1).2.1, fun p hp => D.2 p (List.mem_append_right _ hp)⟩, s'.O⟩ q
    rcases List.mem_append.mp hp with hp | hp
    · exact List.mem_append_left _ (sel.perm.mem_iff.mpr (List.mem_append_right _ hp))
    · exact List.mem_append_right _ hp
section
variable {c : Ctx} {tl : Led} {l : Loc} {W fz : Led} {h h' : Heap} {p : Addr × Dsc}
theorem St.forgetW (s : St c tl l (p :: W) fz h) : St c tl l W fz h :=
  ⟨s.F, s.N.mono fun _ hp => .tail _ hp, ⟨fun i k p q a b n => s.D.1 (i + 1) (k + 1) p q a b (fun e => n (Nat.succ.inj e)), fun p hp => s.D.2 p (.tail _ hp)⟩, s.O⟩
theorem St.forgetF (s : St c tl l W (p :: fz) h) : St c tl l W fz h :=
  ⟨s.F, s.N.mono fun q hq => (List.mem_append.mp hq).elim (fun hq => List.mem_append_left _ hq) fun hq => List.mem_append_right _ (.tail _ hq), ⟨s.D.1, fun p hp q hq => s.D.2 p hp q (.tail _ hq)⟩, fun p hp => s.O p (.tail _ hp)⟩
/-- an object that a rule of the library's has made -/
theorem St.alloc (s : St c tl l W fz h) {N : List (Addr × Obj)} {m : Str → Option Value} {D : Addr} {o : Obj} {d : Dsc} (P : Pairs (W ++ (fz ++ (tl ++ c.X))) N) (F' : Fr c.h₀ c.L h' m) (hm : LocIs l m) (N' : News c.h₀ c.L h' ((D, o) :: N)) (new : NewA D N) (ho : d o) :
    St c tl l ((D, d) :: W) fz h' :=
  ⟨⟨m, F', hm⟩, (Pairs.cons ho P).news N', s.D.cons (P.off fun q hq => Nat.ne_of_lt (new q hq)), s.O⟩
end
/-- texts -/
theorem AllIs.strs : ∀ {ys : List Str} {us : List Value}, AllIs (ys.map Vl.str) us → StrsAre us ys
  | [], _, h => by cases h; exact .nil
  | y :: ys, _, h => by
    cases h with
    | cons iu h => obtain ⟨t, rfl⟩ := iu; exact .cons y t (AllIs.strs h)
section
variable {j : Jp} {l : Loc} {W fz : Led} {e e' b : PySem.Expr} {v : Vl} {pos pos' apos : Pos} {Q : Vl → Led → Led → Prop}
theorem PC.inS {x : Str} {ys : List Str} {es : List PySem.Expr} {k : Nat} (p : PV j l W fz e (.str x)) (q : PL j l W fz es (ys.map Vl.str)) (hz : Nat.ble (ys.map Vl.str).length 1000000 = true) : PC j l W fz .In e (.Tuple es k pos) (ys.any (· == x)) := fun c ok h g dr t o s QQ E K =>
  p c ok h g dr t o s _ E fun u h' t' iu s' => Tuple_ (q c ok h' g dr t' o s' pos _ E fun us h'' t'' a s'' => wpAny_newTuple (by
    obtain ⟨_, rfl⟩ := iu
    have s₃ := s''.pushF (o := { cls := .type "tuple", data := .seq us.toArray }) (D := dTup (ys.map Vl.str)) ⟨us, 0, rfl, a⟩ rfl
    obtain ⟨o', ho, n1⟩ := s₃.N.one (a := h''.objs.size) (List.mem_append_right _ (.head _))
    obtain ⟨us', n, rfl, a'⟩ := ho
    exact in_tuple_strs (News.isTup n1 (.head _)) (by rw [List.toList_toArray]; exact a'.strs) (K _ _ s₃.forgetF)) (a.length ▸ len_fits hz))
theorem PC.inS2 {x y y' : Str} {e₁ e₂ : PySem.Expr} {k : Nat} (p : PV j l W fz e (.str x)) (q₁ : PV j l W fz e₁ (.str y)) (q₂ : PV j l W fz e₂ (.str y')) (h1 : notStar e₁ = true) (h2 : notStar e₂ = true) : PC j l W fz .In e (.Tuple [e₁, e₂] k pos) ([y, y'].any (· == x)) :=
  PC.inS (ys := [y, y']) p (.cons q₁ (.cons q₂ .nil h2) h1) rfl
theorem cLine_fits {c : Ctx} (ok : c.Ok j) (hu : Nat.blt j.u cLine = true) : c.A.units < cLine := by
  have h1 := ok.un
  have h2 : j.u < cLine := by simpa [Nat.blt_eq] using hu
  omega
theorem PC.eqN {a : Addr} {vs : List Vl} {b : Bool} (p : PV j l W fz e (.ref a)) (m : (a, dLst vs) ∈ W ++ (fz ++ j.tl)) (hb : vs.isEmpty = b) (hu : Nat.blt j.u cLine = true) : PC j l W fz .Eq e (.List [] pos) b := fun c ok h g dr t o s QQ E K =>
  p c ok h g dr t o s _ E fun u h' t' iu s' => List_ (args_nil (wpAny_newList (by
    cases iu
    obtain ⟨o', ⟨us, n, rfl, a'⟩, n1⟩ := St.has s' m
    have s₃ := s'.push (o := listOf ([] : List Value).toArray 0) (D := dLst []) ⟨[], 0, rfl, .nil⟩ rfl
    obtain ⟨o₁, ho, n2⟩ := s₃.N.one (a := h'.objs.size) (.head _)
    have n1' : News c.h₀ c.L (h'.push (listOf ([] : List Value).toArray 0)) [(a, listOf us.toArray n)] := fun p hp => ⟨Heap.get?_push_of_some _ (n1 p hp).1, (n1 p hp).2⟩
    have e1 : (h'.push (listOf ([] : List Value).toArray 0)).get? h'.objs.size = some (listOf ([] : List Value).toArray 0) := Heap.get?_push_size _ rfl
    have : o₁ = listOf ([] : List Value).toArray 0 := Option.some.inj ((n2 _ (.head _)).1.symm.trans e1)
    subst this
    refine eq_nil_own (Mine.News.two n1' n2) (.head _) (.tail _ (.head _)) (cLine_fits ok hu) ?_
    have hv : us.isEmpty = vs.isEmpty := by cases a' <;> rfl
    rw [hv, hb]; exact K _ _ s₃.forgetW)))
theorem PC.neN {a : Addr} {vs : List Vl} {b : Bool} (p : PV j l W fz e (.ref a)) (m : (a, dLst vs) ∈ W ++ (fz ++ j.tl)) (hb : vs.isEmpty = b) (hu : Nat.blt j.u cLine = true) : PC j l W fz .NotEq e (.List [] pos) (!b) := fun c ok h g dr t o s QQ E K =>
  p c ok h g dr t o s _ E fun u h' t' iu s' => List_ (args_nil (wpAny_newList (by
    cases iu
    obtain ⟨o', ⟨us, n, rfl, a'⟩, n1⟩ := St.has s' m
    have s₃ := s'.push (o := listOf ([] : List Value).toArray 0) (D := dLst []) ⟨[], 0, rfl, .nil⟩ rfl
    obtain ⟨o₁, ho, n2⟩ := s₃.N.one (a := h'.objs.size) (.head _)
    have n1' : News c.h₀ c.L (h'.push (listOf ([] : List Value).toArray 0)) [(a, listOf us.toArray n)] := fun p hp => ⟨Heap.get?_push_of_some _ (n1 p hp).1, (n1 p hp).2⟩
    have e1 : (h'.push (listOf ([] : List Value).toArray 0)).get? h'.objs.size = some (listOf ([] : List Value).toArray 0) := Heap.get?_push_size _ rfl
    have : o₁ = listOf ([] : List Value).toArray 0 := Option.some.inj ((n2 _ (.head _)).1.symm.trans e1)
    subst this
    refine ne_nil_own (Mine.News.two n1' n2) (.head _) (.tail _ (.head _)) (cLine_fits ok hu) ?_
    have hv : us.isEmpty = vs.isEmpty := by cases a' <;> rfl
    rw [hv, hb]; exact K _ _ s₃.forgetW)))
/-- xs.extend(ys) -/
def ExtQ (j : Jp) (a : Addr) (Q : Vl → Led → Led → Prop) (z : Vl) (W fz : Led) : Prop := ∃ b ws i us, z = .ref b ∧ ((b, dLst ws) ∈ W ++ (fz ++ j.tl) ∨ (b, dTup ws) ∈ W ++ (fz ++ j.tl)) ∧ ws.length ≠ 0 ∧ W[i]? = some (a, dLst us) ∧ us.length + ws.length ≤ 1000000 ∧ Q .none (W.set i (a, dLst (us ++ ws))) fz
theorem ExtQ.lst {a z : Addr} {us ws : List Vl} (i : Nat) (m : (z, dLst ws) ∈ W ++ (fz ++ j.tl)) (hw : ws.length ≠ 0) (hi : W[i]? = some (a, dLst us)) (hz : us.length + ws.length ≤ 1000000) (q : Q .none (W.set i (a, dLst (us ++ ws))) fz) : ExtQ j a Q (.ref z) W fz := ⟨z, ws, i, us, rfl, .inl m, hw, hi, hz, q⟩
theorem ExtQ.tup {a z : Addr} {us ws : List Vl} (i : Nat) (m : (z, dTup ws) ∈ W ++ (fz ++ j.tl)) (hw : ws.length ≠ 0) (hi : W[i]? = some (a, dLst us)) (hz : us.length + ws.length ≤ 1000000) (q : Q .none (W.set i (a, dLst (us ++ ws))) fz) : ExtQ j a Q (.ref z) W fz := ⟨z, ws, i, us, rfl, .inr m, hw, hi, hz, q⟩
theorem JE.ext {a : Addr} {us₀ : List Vl} (p : PV j l W fz b (.ref a)) (m : (a, dLst us₀) ∈ W ++ (fz ++ j.tl)) (ho : methOk b [e] apos pos = true) (q : JE j l W fz e (ExtQ j a Q)) :
    JE j l W fz (.Call (.Attribute b (PySem.Str.ofString "extend") apos) [e] [] pos) Q := by
  intro c ok h g dr t o s QQ E K
  have hs : [e].all notStar = true := by
    unfold methOk at ho
    simp only [Bool.and_eq_true] at ho
    exact ho.2.1
  rw [List.all_cons, Bool.and_eq_true] at hs
  refine MethodCall_ (p c ok h g dr t o s _ E fun u h' t' iu s' => ?_) (meth_of ho _ _)
  cases iu
  obtain ⟨o', ⟨us, n, rfl, _⟩, n1⟩ := St.has (j := j) s' m
  refine kl_method n1 (.head _) PySem.F.slot_list_extend PySem.F.type_list_extend ?_
  refine callWith_method1 (args_cons (q c ok _ g dr _ o s' _ E fun v u W' fz' h'' t'' iv s'' q' => args_nil ?_) (star_of hs.1 _ _)) (star_of hs.1 _ _) rfl
  obtain ⟨z, ws, i, vs, rfl, m', hw, hi, hz, q'⟩ := q'
  cases iv
  obtain ⟨m'', o₁, N, F', hm', n', ⟨vs', n₁, rfl, av⟩, hmem, up, all⟩ := St.updA s'' hi
  rcases m' with m' | m'
  · obtain ⟨o₂, ⟨ws', n₂, rfl, aw⟩, n3⟩ := all _ (memX m')
    obtain ⟨N', u', done⟩ := up (listOf (vs' ++ ws').toArray (n₁ + 1))
    exact extend_own F' n' n3 (aw.length ▸ hw) u' (by rw [← av.length, ← aw.length]; exact hz) fun h₃ F₃ n₃ => K .none _ _ _ _ _ rfl (done (dLst (vs ++ ws)) h₃ ⟨_, _, rfl, av.app aw⟩ F₃ n₃) q'
  · obtain ⟨o₂, ⟨ws', n₂, rfl, aw⟩, n3⟩ := all _ (memX m')
    obtain ⟨N', u', done⟩ := up (listOf (vs' ++ ws').toArray (n₁ + 1))
    have hz' : vs'.length + ws'.length ≤ 1000000 := by rw [← av.length, ← aw.length]; exact hz
    refine kup_extend (its := vs'.toArray) (its2 := ws'.toArray) F' n' n3 (by rw [List.toList_toArray, List.toList_toArray]) (by rw [List.toList_toArray, ← aw.length]; exact hw) u' ?_ ?_ ?_ fun h₃ F₃ n₃ => K .none _ _ _ _ _ rfl (done (dLst (vs ++ ws)) h₃ ⟨_, _, rfl, av.app aw⟩ F₃ n₃) q'
    · intro hc
      rw [Bool.and_eq_true] at hc
      have h2 := hc.2
      simp only [Builtin.List.listTooLong, List.size_toArray] at h2
      have h3 : vs'.length + ws'.length ≤ sizeLine := Nat.le_trans hz' (Nat.le_of_ble_eq_true rfl)
      revert h2
      simp
      omega
    · rw [List.toList_toArray]; exact Nat.le_trans (by omega) (by decide : 1000000 ≤ sizeLine)
    · rw [List.size_toArray, List.size_toArray]; exact Nat.le_trans hz' (by decide : 1000000 ≤ sizeLine + 1)
/-- xs[::-1] -/
theorem JE.rev {a : Addr} {vs : List Vl} {sp : Pos} (p : PV j l W fz e (.ref a)) (m : (a, dLst vs) ∈ W ++ (fz ++ j.tl)) (st : PV j l W fz e' (.int (-1))) (hz : vs.length ≤ 1000000) (q : ∀ D, Q (.ref D) ((D, dLst vs.reverse) :: W) fz) :
    JE j l W fz (.Subscript e (.Slice none none (some e') sp) pos) Q := by
  intro c ok h g dr t o s QQ E K
  refine Subscript_ (p c ok h g dr t o s _ E fun u h' t' iu s' => wpAny_Slice (evalPart_none_step (evalPart_none_step (evalPart_some_step (st c ok h' g dr t' o s' _ E fun u' h'' t'' iu' s'' => ?_)))))
  cases iu
  obtain ⟨tk, rfl⟩ := iu'
  obtain ⟨m₀, F, hm⟩ := s''.F
  obtain ⟨N, P, n⟩ := s''.N.pairs
  obtain ⟨o₂, ⟨us, n₂, rfl, au⟩, n3⟩ := P.mem (memX m)
  refine kba_turn (value' := PySem.Expr.Name (PySem.Str.ofString "_") ⟨0, 0, 0, 0⟩) (fun _ => rfl) ?_
  refine slice_rev_own (s := ⟨h'', g, dr, t'', o⟩) F n n3 (IsPart.int _ _) (au.length ▸ hz) (fun D h₃ F₃ n₃ new => ?_) rfl (fun _ => rfl)
  exact K (.ref D) _ _ _ _ _ rfl (s''.alloc (d := dLst vs.reverse) P F₃ hm n₃ new ⟨us.reverse, 0, rfl, au.rev⟩) (q D)
theorem JE.upTo {a : Addr} {vs ws : List Vl} {k : Int} {sp : Pos} (p : PV j l W fz e (.ref a)) (m : (a, dLst (vs ++ ws)) ∈ W ++ (fz ++ j.tl)) (st : PV j l W fz e' (.int k)) (hk : k = vs.length) (hz : (vs ++ ws).length ≤ 1000000) (q : ∀ D, Q (.ref D) ((D, dLst vs) :: W) fz) :
    JE j l W fz (.Subscript e (.Slice none (some e') none sp) pos) Q := by
  intro c ok h g dr t o s QQ E K
  refine Subscript_ (p c ok h g dr t o s _ E fun u h' t' iu s' => wpAny_Slice (evalPart_none_step (evalPart_some_step (st c ok h' g dr t' o s' _ E fun u' h'' t'' iu' s'' => evalPart_none_step ?_))))
  cases iu
  obtain ⟨tk, rfl⟩ := iu'
  obtain ⟨m₀, F, hm⟩ := s''.F
  obtain ⟨N, P, n⟩ := s''.N.pairs
  obtain ⟨o₂, ⟨us, n₂, rfl, au⟩, n3⟩ := P.mem (memX m)
  obtain ⟨x, y, rfl, ax, ay⟩ := au.split
  refine kba_turn (value' := PySem.Expr.Name (PySem.Str.ofString "_") ⟨0, 0, 0, 0⟩) (fun _ => rfl) ?_
  refine slice_own (s := ⟨h'', g, dr, t'', o⟩) F n n3 IsPart.none (IsPart.int _ _) (pick_upto (ws := y) (by rw [hk, ax.length])) (au.length ▸ hz) (fun D h₃ F₃ n₃ new => ?_) rfl (fun _ => rfl)
  exact K (.ref D) _ _ _ _ _ rfl (s''.alloc (d := dLst vs) P F₃ hm n₃ new ⟨x, 0, rfl, ax⟩) (q D)
theorem JE.from {a : Addr} {vs ws : List Vl} {k : Int} {sp : Pos} (p : PV j l W fz e (.ref a)) (m : (a, dLst (vs ++ ws)) ∈ W ++ (fz ++ j.tl)) (st : PV j l W fz e' (.int k)) (hk : k = vs.length) (hz : (vs ++ ws).length ≤ 1000000) (q : ∀ D, Q (.ref D) ((D, dLst ws) :: W) fz) :
    JE j l W fz (.Subscript e (.Slice (some e') none none sp) pos) Q := by
  intro c ok h g dr t o s QQ E K
  refine Subscript_ (p c ok h g dr t o s _ E fun u h' t' iu s' => wpAny_Slice (evalPart_some_step (st c ok h' g dr t' o s' _ E fun u' h'' t'' iu' s'' => evalPart_none_step (evalPart_none_step ?_))))
  cases iu
  obtain ⟨tk, rfl⟩ := iu'
  obtain ⟨m₀, F, hm⟩ := s''.F
  obtain ⟨N, P, n⟩ := s''.N.pairs
  obtain ⟨o₂, ⟨us, n₂, rfl, au⟩, n3⟩ := P.mem (memX m)
  obtain ⟨x, y, rfl, ax, ay⟩ := au.split
  refine kba_turn (value' := PySem.Expr.Name (PySem.Str.ofString "_") ⟨0, 0, 0, 0⟩) (fun _ => rfl) ?_
  refine slice_own (s := ⟨h'', g, dr, t'', o⟩) F n n3 (IsPart.int _ _) IsPart.none (pick_from (ws := y) (by rw [hk, ax.length])) (au.length ▸ hz) (fun D h₃ F₃ n₃ new => ?_) rfl (fun _ => rfl)
  exact K (.ref D) _ _ _ _ _ rfl (s''.alloc (d := dLst ws) P F₃ hm n₃ new ⟨y, 0, rfl, ay⟩) (q D)
/-- xs + ys: the left in the ledger all along, the right may be new -/
def AddQ (j : Jp) (a : Addr) (Q : Vl → Led → Led → Prop) (z : Vl) (W fz : Led) : Prop := ∃ b vs ws, z = .ref b ∧ (a, dLst vs) ∈ W ++ (fz ++ j.tl) ∧ (b, dLst ws) ∈ W ++ (fz ++ j.tl) ∧ vs.length + ws.length ≤ 1000000 ∧ ∀ D, Q (.ref D) ((D, dLst (vs ++ ws)) :: W) fz
theorem AddQ.mk {a z : Addr} {vs ws : List Vl} (m : (a, dLst vs) ∈ W ++ (fz ++ j.tl)) (m' : (z, dLst ws) ∈ W ++ (fz ++ j.tl)) (hz : vs.length + ws.length ≤ 1000000) (q : ∀ D, Q (.ref D) ((D, dLst (vs ++ ws)) :: W) fz) : AddQ j a Q (.ref z) W fz := ⟨z, vs, ws, rfl, m, m', hz, q⟩
def AddQ1 (j : Jp) (l : Loc) (e' : PySem.Expr) (Q : Vl → Led → Led → Prop) (z : Vl) (W fz : Led) : Prop := ∃ a, z = .ref a ∧ JE j l W fz e' (AddQ j a Q)
theorem AddQ1.mk {a : Addr} (q : JE j l W fz e' (AddQ j a Q)) : AddQ1 j l e' Q (.ref a) W fz := ⟨a, rfl, q⟩
theorem JE.addL (p : JE j l W fz e (AddQ1 j l e' Q)) : JE j l W fz (.BinOp e .Add e' pos) Q := by
  intro c ok h g dr t o s QQ E K
  refine wpAny_BinOp (p c ok h g dr t o s _ E fun v u W₁ fz₁ h' t' iu s' q => ?_)
  obtain ⟨a, rfl, q⟩ := q
  cases iu
  refine q c ok h' g dr t' o s' _ E fun v' u' W₂ fz₂ h'' t'' iu' s'' q' => ?_
  obtain ⟨z, vs, ws, rfl, m, m', hz, q'⟩ := q'
  cases iu'
  obtain ⟨m₀, F, hm⟩ := s''.F
  obtain ⟨N, P, n⟩ := s''.N.pairs
  obtain ⟨o₁, ⟨us, n₁, rfl, au⟩, n3⟩ := P.mem (memX m)
  obtain ⟨o₂, ⟨us', n₂, rfl, au'⟩, n4⟩ := P.mem (memX m')
  exact add_own F n n3 n4 (by rw [← au.length, ← au'.length]; exact hz) fun D h₃ F₃ n₃ new => K (.ref D) _ _ _ _ _ rfl (s''.alloc (d := dLst (vs ++ ws)) P F₃ hm n₃ new ⟨us ++ us', 0, rfl, au.app au'⟩) (q' D)
end
theorem ExtQ.tup0 {j : Jp} {a z : Addr} {us ws : List Vl} {fz r : Led} {Q : Vl → Led → Led → Prop} (m : (z, dTup ws) ∈ ((a, dLst us) :: r) ++ (fz ++ j.tl)) (hw : ws.length ≠ 0) (hz : us.length + ws.length ≤ 1000000) (q : Q .none ((a, dLst (us ++ ws)) :: r) fz) : ExtQ j a Q (.ref z) ((a, dLst us) :: r) fz := ExtQ.tup 0 m hw rfl hz q
theorem ExtQ.lst1 {j : Jp} {a z : Addr} {us ws : List Vl} {fz r : Led} {Q : Vl → Led → Led → Prop} {p0 : Addr × Dsc} (m : (z, dLst ws) ∈ (p0 :: (a, dLst us) :: r) ++ (fz ++ j.tl)) (hw : ws.length ≠ 0) (hz : us.length + ws.length ≤ 1000000) (q : Q .none (p0 :: (a, dLst (us ++ ws)) :: r) fz) : ExtQ j a Q (.ref z) (p0 :: (a, dLst us) :: r) fz := ExtQ.lst 1 m hw rfl hz q
theorem ExtQ.lst2 {j : Jp} {a z : Addr} {us ws : List Vl} {fz r : Led} {Q : Vl → Led → Led → Prop} {p0 p1 : Addr × Dsc} (m : (z, dLst ws) ∈ (p0 :: p1 :: (a, dLst us) :: r) ++ (fz ++ j.tl)) (hw : ws.length ≠ 0) (hz : us.length + ws.length ≤ 1000000) (q : Q .none (p0 :: p1 :: (a, dLst (us ++ ws)) :: r) fz) : ExtQ j a Q (.ref z) (p0 :: p1 :: (a, dLst us) :: r) fz := ExtQ.lst 2 m hw rfl hz q
end Mine
end
section
open PySem PySem.W PyProof.Rows PySem.Calls PyProof.V
set_option maxRecDepth 100000
set_option Elab.async false
namespace Mine
/-- a call that only tells a value -/
def PureC (w : World) (d u : Nat) (tl W fz : Led) (f : Addr) (vs : List Vl) (v : Vl) : Prop := ∀ Q : Vl → Led → Led → Prop, Q v W fz → JC w d u tl W fz f vs Q
section
variable {j : Jp} {l : Loc} {W fz : Led} {e e' : PySem.Expr} {v : Vl} {pos apos : Pos}
theorem PV.of (H : ∀ Q : Vl → Led → Led → Prop, Q v W fz → JE j l W fz e Q) : PV j l W fz e v := fun c ok h g dr t o s QQ E K =>
  H (fun v' W' fz' => v' = v ∧ W' = W ∧ fz' = fz) ⟨rfl, rfl, rfl⟩ c ok h g dr t o s QQ E fun v' u W' fz' h' t' iu s' q => by
    obtain ⟨rfl, rfl, rfl⟩ := q
    exact K u h' t' iu s'
theorem PV.meth {b : PySem.Expr} {z d C f : Addr} {es : List (Str × Vl)} {x : Str} {args : List PySem.Expr} {vs : List Vl} (p : PV j l W fz b (.ref z)) (m1 : (z, dInst C d) ∈ W ++ (fz ++ j.tl)) (m2 : (d, dDct j.w es) ∈ W ++ (fz ++ j.tl)) (k3 : es.lookup x = Option.none)
    (k1 : plainGet (Mine.hk.heap_1 j.w.params) C x = true) (k2 : findIn (Mine.hk.heap_1 j.w.params) (.ref C) x = some (some (.ref f))) (k4 : isFn (Mine.hk.heap_1 j.w.params) (.ref f) = true) (hk : keepIn (Mine.hk.heap_1 j.w.params) (.ref f) = true) (ho : methOk b (e :: args) apos pos = true)
    (q : PL j l W fz (e :: args) vs) (r : PureC j.w j.d j.u j.tl W fz f (.ref z :: vs) v) : PV j l W fz (.Call (.Attribute b x apos) (e :: args) [] pos) v :=
  PV.of fun _ hq => JE.meth p m1 m2 k3 k1 k2 k4 hk ho (JL.pure q (r _ hq))
end
section
variable {j : Jp} {l : Loc} {W fz : Led} {e : PySem.Expr} {pos : Pos} {rest body : List Stmt} {Q : Fl → Loc → Led → Led → Prop}
def ForQ (j : Jp) (l : Loc) (t : PySem.Expr) (body rest : List Stmt) (Q : Fl → Loc → Led → Led → Prop) (v : Vl) (W fz : Led) : Prop :=
  ∃ (a : Addr) (vs : List Vl) (r : Led) (I : List Vl → Led → Led → Prop), v = .ref a ∧ W = (a, dLst vs) :: r ∧ I vs r fz ∧ (∀ v r W' fz', I (v :: r) W' fz' → JB j l W' fz' t v body (turnQ l (I r) Q)) ∧ ∀ W' fz', I [] W' fz' → JX j l ((a, dLst vs) :: W') fz' rest Q
theorem ForQ.mk {t : PySem.Expr} {a : Addr} {vs : List Vl} {r : Led} (I : List Vl → Led → Led → Prop) (h0 : I vs r fz) (turn : ∀ v r W' fz', I (v :: r) W' fz' → JB j l W' fz' t v body (turnQ l (I r) Q)) (done : ∀ W' fz', I [] W' fz' → JX j l ((a, dLst vs) :: W') fz' rest Q) : ForQ j l t body rest Q (.ref a) ((a, dLst vs) :: r) fz := ⟨a, vs, r, I, rfl, rfl, h0, turn, done⟩
/-- a loop over a list made for it -/
theorem JX.forE {t : PySem.Expr} (p : JE j l W fz e (ForQ j l t body rest Q)) (hs : notSet e = true) : JX j l W fz (.For t e body [] pos :: rest) Q := by
  intro c ok h g dr t₀ o s QQ E hE K
  obtain ⟨m₀, F₀, _⟩ := s.F
  refine wpAny_execs_cons (For_turns F₀ (p c ok h g dr t₀ o s _ E fun v u W' fz' h' t' iu s' q => ?_) (notSet_of hs _) hE)
  obtain ⟨a, vs, W, I, rfl, rfl, h0, turn, done⟩ := q
  cases iu
  have sf : St c j.tl l W ((a, dLst vs) :: fz') h' := St.freeze s' (i := 0) rfl
  have hm : (a, dLst vs) ∈ W ++ ((a, dLst vs) :: fz' ++ (j.tl ++ c.X)) := List.mem_append_right _ (.head _)
  obtain ⟨o₁, ⟨us, n, rfl, au⟩, n1⟩ := sf.N.one hm
  have hoff : ∀ q ∈ W ++ (fz' ++ (j.tl ++ c.X)), a ≠ q.1 := by
    have sel : Sel ((a, dLst vs) :: W) [(a, dLst vs)] W := .cons 0 rfl .nil
    have D := Dis.iff.mp (s'.D.perm sel.perm)
    intro q hq
    rcases List.mem_append.mp hq with hq | hq
    · exact (List.pairwise_cons.mp D.1).1 q hq
    · exact D.2 _ (.head _) q hq
  have s1 : St (c.hide a (listOf us.toArray n)) j.tl l (W) fz' h' := by
    refine St.hide sf.F (NewsD.mono sf.N fun q hq => ?_) ⟨sf.D.1, fun p hp q hq => sf.D.2 p hp q (.tail _ hq)⟩ (fun p hp q hq => sf.O p (.tail _ hp) q hq) n1 hoff
    rcases List.mem_append.mp hq with hq | hq
    · exact List.mem_append_left _ hq
    · exact List.mem_append_right _ (.tail _ hq)
  obtain ⟨m, N, F, nn, lj⟩ := LoopJ.of (j := j) (l := l) (I := I vs) s1 h0
  have hX : ∀ q ∈ j.tl ++ c.X, a ≠ q.1 := fun q hq => hoff q (List.mem_append_right _ (List.mem_append_right _ hq))
  have ok1 := ok.hide a (listOf us.toArray n)
  refine list_loop (ax := a) (lo := listOf us.toArray n) (vs := us) (n := n) (fun r m N => ∃ vr, AllIs vr r ∧ LoopJ j l (c.hide a (listOf us.toArray n)) (I vr) m N) ok.hd F nn rfl rfl ⟨vs, au, lj⟩ ?_ ?_ ?_
  · rintro r m N ⟨vr, _, W', fz', _, _, P, _, _⟩
    obtain ⟨o₂, ho, hm⟩ := P.mem (q := (a, (· = listOf us.toArray n))) (hideMem.mpr (.inl rfl))
    have ho' : o₂ = listOf us.toArray n := ho
    exact ho' ▸ hm
  · rintro v r m N I' o' h₁ tk ⟨vr, avr, W', fz', i', hm', P, D, O⟩ hI F' N'
    cases avr with
    | @cons vh _ vr _ iv avr =>
    have hIoff := P.off hI
    have sI : St ((c.hide a (listOf us.toArray n)).hide I' o') j.tl l W' fz' h₁ := St.hide ⟨m, F', hm'⟩ (P.news fun p hp => N' p (.tail _ hp)) D O (fun p hp => by rw [List.mem_singleton.mp hp]; exact N' _ (.head _)) hIoff
    refine turn vh vr W' fz' i' _ (ok1.hide I' o') h₁ g dr tk o sI v iv _ E hE fun f f' l' W₂ fz₂ h₂ t₂ hf s₂ q => ?_
    have te := turn_end (QQ := fun f s' => match f with | Flow.next => wpAny (model pg j.w) c.A (execs rest (j.I.env c.L)) QQ E s' | f => QQ f s') (h := h₁) (g := g) (dr := dr) (t := tk) (t' := t₂) (os := o) (I := I vr) (Q := Q) hf s₂ q (fun x hx => (hIoff x (List.mem_append_right _ (List.mem_append_right _ hx))).symm)
      (fun v u l' W' fz' h' t' iu s₃ q => K (.ret v) _ _ _ _ _ _ ⟨u, rfl, iu⟩ s₃.unhide q)
    exact te.mono fun m led x => ⟨x.1, x.2.elim fun N' y => ⟨N', ⟨vr, avr, y.1⟩, y.2⟩⟩
  · rintro m N h₁ tk ⟨vr, avr, W', fz', i', hm', P, D, O⟩ F' N'
    cases avr
    have s2 : St (c.hide a (listOf us.toArray n)) j.tl l W' fz' h₁ := ⟨⟨m, F', hm'⟩, P.news N', D, O⟩
    exact done W' fz' i' c ok h₁ g dr tk o (s2.back (D := dLst vs) ⟨us, n, rfl, au⟩ hX) QQ E hE K
end
/-- a dict keyed by tuples of whole numbers, the keys among G; no more than n keys -/
def dSpot (w : World) (G : Led) (n : Nat) : Dsc := fun o => o.ExactDict ∧ ∃ (es : Array DictEntry) (ep : Nat) (xs : List (List Int × Addr × Value)), o.data = .dict es ep ∧ es.toList = xs.map (entryOfKey (tupleKind (intKind pg w))) ∧ (xs.map (·.1)).Nodup ∧
  (∀ x ∈ xs, (x.2.1, dTup (x.1.map Vl.int)) ∈ G) ∧ xs.length ≤ n
theorem itemsInt {w : World} : ∀ {ks : List Int} {us : List Value}, AllIs (ks.map Vl.int) us → ItemsAre (intKind pg w) ks us
  | [], _, h => by cases h; exact .nil
  | k :: ks, _, h => by
    cases h with
    | cons a h =>
      obtain ⟨t, rfl⟩ := a
      exact .cons (intKind_is pg w k t) (itemsInt h)
theorem tupKey {w : World} {ks : List Int} {o : Obj} (h : dTup (ks.map Vl.int) o) : TupKeyObj (intKind pg w) ks o := by
  obtain ⟨us, n, rfl, a⟩ := h
  exact ⟨rfl, _, n, rfl, itemsInt a⟩
section
variable {j : Jp} {l : Loc} {W fz : Led} {e b : PySem.Expr} {v : Vl} {pos spos : Pos} {rest : List Stmt} {Q : Fl → Loc → Led → Led → Prop}
theorem JX.setSpot {es : List PySem.Expr} {k : Nat} {tp : Pos} {ks : List Int} {sp : Addr} {G : Led} {n : Nat} (i : Nat) (p : PV j l W fz e v) (q : PV j l W fz b (.ref sp)) (r : PL j l W fz es (ks.map Vl.int)) (hi : W[i]? = some (sp, dSpot j.w G n)) (hG : ∀ p ∈ G, p ∈ fz ++ j.tl)
    (hz : n ≤ 1000000) (hl : Nat.ble ks.length 1000000 = true) (hu : Nat.blt (j.u + 1) cLine = true) (hc : notComp e = true)
    (K : ∀ a, JX j l (W.set i (sp, dSpot j.w ((a, dTup (ks.map Vl.int)) :: G) (n + 1))) ((a, dTup (ks.map Vl.int)) :: fz) rest Q) : JX j l W fz (.Assign [.Subscript b (.Tuple es k tp) spos] e pos :: rest) Q := by
  intro c ok h g dr t o s QQ E hE K'
  refine wpAny_execs_cons (wpAny_Assign_Subscript (p c ok h g dr t o s _ E fun u h' t' iu s' => ?_) (swaps_of hc _ _ _))
  refine q c ok h' g dr t' o s' _ E fun u' h'' t'' iu' s'' => ?_
  cases iu'
  refine JE.tupP (Q := fun v W' fz' => ∃ a, v = .ref a ∧ W' = W ∧ fz' = (a, dTup (ks.map Vl.int)) :: fz) r (by rw [List.length_map]; exact hl) (fun a => ⟨a, rfl, rfl, rfl⟩) c ok h'' g dr t'' o s'' _ E fun v' u' W' fz' h₃ t₃ iu' s₃ q' => ?_
  obtain ⟨a, rfl, rfl, rfl⟩ := q'
  cases iu'
  obtain ⟨m, o', N, F', hm', n', ⟨hx, es', ep, xs, hd, he, hn, hk, hlen⟩, hmem, up, all⟩ := s₃.updA hi
  obtain ⟨ot, ht, hat⟩ := all (a, dTup (ks.map Vl.int)) (List.mem_append_right _ (.head _))
  have key : ∀ x ∈ xs, IsTupleKey (intKind pg j.w) h₃ x.1 x.2.1 := fun x hx => by
    obtain ⟨ok', h1, h2⟩ := all _ (memX (List.mem_append_right _ (.tail _ (hG _ (hk x hx)))))
    exact (tupKey h1).key (n'.get h2)
  have D : h₃.DictOfH (tupleKind (intKind pg j.w)) sp xs := ⟨o', es', ep, n'.get hmem, hx, hd, he, key, hn⟩
  refine wpAny_setItem_heap (hsz := Nat.le_trans hlen (Nat.le_trans hz (by decide))) (knd := tupleKind (intKind pg j.w)) (tupleKind_room_in1 (Nat.lt_of_le_of_lt (Nat.add_le_add_right ok.un 1) (by simpa [Nat.blt_eq] using hu))) ((tupKey ht).key (n'.get hat)) D fun h₄ hm₄ hs => ?_
  obtain ⟨o₂, es₂, ep₂, ho₂, hc₂, hd₂, he₂, _, hn₂⟩ := hm₄
  obtain ⟨N', u', done⟩ := up o₂
  obtain ⟨pre, post, e1, e2, h1, h2⟩ := u'.split
  have N₂ : News c.h₀ c.L h₃ (pre ++ (sp, o') :: post) := e1 ▸ n'
  refine K a c ok h₄ g dr _ o (done _ h₄ ⟨hc₂, es₂, ep₂, storedH xs ks a u, hd₂, he₂, hn₂, fun x hx => ?_, ?_⟩ (F'.change hs (n' _ hmem).2.1 (n'.fresh hmem)) (by rw [e2]; exact news_set N₂ h1 h2 hs ho₂)) QQ E hE K'
  · rcases mem_storedH hx with ⟨y, hy, q1, q2⟩ | ⟨q1, q2⟩
    · rw [q1, q2]; exact .tail _ (hk y hy)
    · rw [q1, q2]; exact .head _
  · unfold storedH
    split
    · rw [List.length_map]; omega
    · rw [List.length_append, List.length_singleton]; omega
theorem JX.setSpot0 {es : List PySem.Expr} {k : Nat} {tp : Pos} {x y : Int} {sp : Addr} {w : World} {G r : Led} {n : Nat} (p : PV j l ((sp, dSpot w G n) :: r) fz e v) (q : PV j l ((sp, dSpot w G n) :: r) fz b (.ref sp)) (z : PL j l ((sp, dSpot w G n) :: r) fz es [.int x, .int y]) (hw : j.w = w) (hG : ∀ p ∈ G, p ∈ fz ++ j.tl)
    (hz : n ≤ 1000000) (hu : Nat.blt (j.u + 1) cLine = true) (hc : notComp e = true)
    (K : ∀ a, JX j l ((sp, dSpot w ((a, dTup [.int x, .int y]) :: G) (n + 1)) :: r) ((a, dTup [.int x, .int y]) :: fz) rest Q) : JX j l ((sp, dSpot w G n) :: r) fz (.Assign [.Subscript b (.Tuple es k tp) spos] e pos :: rest) Q := by
  subst hw
  exact JX.setSpot (ks := [x, y]) 0 p q z rfl hG hz rfl hu hc K
end
end Mine
end
section
open PySem PySem.W PyProof.Rows PySem.Calls
set_option maxRecDepth 100000
set_option Elab.async false
namespace Mine
mutual
/-- a value's data, its parts standing in a ledger -/
inductive Dt (own : Led) : Vl → Dat → Prop
  | none : Dt own .none .none
  | bool {b} : Dt own (.bool b) (.bool b)
  | int {n} : Dt own (.int n) (.int n)
  | str {s} : Dt own (.str s) (.str s)
  | tup {a vs ds} : (a, dTup vs) ∈ own → DtA own vs ds → Dt own (.ref a) (.tuple ds)
  | lst {a vs ds} : (a, dLst vs) ∈ own → DtA own vs ds → Dt own (.ref a) (.list ds)
inductive DtA (own : Led) : List Vl → List Dat → Prop
  | nil : DtA own [] []
  | cons {v vs d ds} : Dt own v d → DtA own vs ds → DtA own (v :: vs) (d :: ds)
end
section
variable {own own' : Led}
mutual
theorem Dt.mono {v : Vl} {d : Dat} (h : Dt own v d) (s : ∀ p ∈ own, p ∈ own') : Dt own' v d := by
  match h with
  | .none => exact .none
  | .bool => exact .bool
  | .int => exact .int
  | .str => exact .str
  | .tup m a => exact .tup (s _ m) (DtA.mono a s)
  | .lst m a => exact .lst (s _ m) (DtA.mono a s)
theorem DtA.mono {vs : List Vl} {ds : List Dat} (h : DtA own vs ds) (s : ∀ p ∈ own, p ∈ own') : DtA own' vs ds := by
  match h with
  | .nil => exact .nil
  | .cons a b => exact .cons (Dt.mono a s) (DtA.mono b s)
end
theorem DtA.length {vs : List Vl} {ds : List Dat} (h : DtA own vs ds) : vs.length = ds.length := by
  induction vs generalizing ds with
  | nil => cases h; rfl
  | cons v vs ih => cases h with | cons _ h => rw [List.length_cons, List.length_cons, ih h]
theorem DtA.app {vs : List Vl} {ds : List Dat} {vs' : List Vl} {ds' : List Dat} (h : DtA own vs ds) (h' : DtA own vs' ds') : DtA own (vs ++ vs') (ds ++ ds') := by
  induction vs generalizing ds with
  | nil => cases h; exact h'
  | cons v vs ih => cases h with | cons a h => exact .cons a (ih h)
theorem DtA.one {v : Vl} {d : Dat} (h : Dt own v d) : DtA own [v] [d] := .cons h .nil
theorem DtA.get {vs : List Vl} {ds : List Dat} (h : DtA own vs ds) : ∀ {k : Nat} {d : Dat}, ds[k]? = some d → ∃ v, vs[k]? = some v ∧ Dt own v d := by
  induction vs generalizing ds with
  | nil => cases h; intro k d e; cases k <;> cases e
  | cons v vs ih =>
    cases h with
    | cons a h =>
      intro k d e
      cases k with
      | zero => cases e; exact ⟨v, rfl, a⟩
      | succ k => exact ih h e
theorem DtA.rev {vs : List Vl} {ds : List Dat} (h : DtA own vs ds) : DtA own vs.reverse ds.reverse := by
  induction vs generalizing ds with
  | nil => cases h; exact .nil
  | cons v vs ih => cases h with | cons a h => rw [List.reverse_cons, List.reverse_cons]; exact (ih h).app (.one a)
end
/- taken apart -/
section
variable {own : Led} {v : Vl}
theorem Dt.boolI {b : Bool} (h : Dt own v (.bool b)) : v = .bool b := by cases h; rfl
theorem Dt.intI {n : Int} (h : Dt own v (.int n)) : v = .int n := by cases h; rfl
theorem Dt.strI {s : Str} (h : Dt own v (.str s)) : v = .str s := by cases h; rfl
theorem Dt.tupI {ds : List Dat} (h : Dt own v (.tuple ds)) : ∃ a vs, v = .ref a ∧ (a, dTup vs) ∈ own ∧ DtA own vs ds := by
  cases h with | tup m a => exact ⟨_, _, rfl, m, a⟩
theorem DtA.nilI {vs : List Vl} (h : DtA own vs []) : vs = [] := by cases h; rfl
theorem DtA.consI {vs : List Vl} {d : Dat} {ds : List Dat} (h : DtA own vs (d :: ds)) : ∃ v vs', vs = v :: vs' ∧ Dt own v d ∧ DtA own vs' ds := by
  cases h with | cons a h => exact ⟨_, _, rfl, a, h⟩
theorem DtA.snocI {vs : List Vl} {d : Dat} {ds : List Dat} (h : DtA own vs (ds ++ [d])) : ∃ vs' v, vs = vs' ++ [v] ∧ DtA own vs' ds ∧ Dt own v d := by
  induction ds generalizing vs with
  | nil => obtain ⟨v, vs', rfl, a, h⟩ := h.consI; obtain rfl := h.nilI; exact ⟨[], v, rfl, .nil, a⟩
  | cons e ds ih =>
    obtain ⟨v, vs', rfl, a, h⟩ := DtA.consI h
    obtain ⟨ws, u, rfl, b, c⟩ := ih h
    exact ⟨v :: ws, u, rfl, .cons a b, c⟩
end
def dStr (x : String) : Dat := .str (Str.ofString x)
def tyInt : Dat := .tuple [dStr "int", dStr "u8"]
def tyBox : Dat := .tuple [dStr "box", tyInt]
def tyOf : Nat → Dat
  | 0 => tyInt
  | 1 => tyBox
  | 2 => .tuple [dStr "tuple", .tuple [tyInt, tyBox]]
  | 3 => .tuple [dStr "ref", .none, .bool false, tyBox]
  | 4 => .tuple [dStr "array", tyBox, .int 2]
  | _ => .tuple [dStr "array", tyInt, .int 2]
def tyNeeds : Nat → Bool
  | 1 => true
  | 2 => true
  | 4 => true
  | _ => false
def tyRow (k : Nat) : Dat := Dat.tuple [tyOf k, .bool (tyNeeds k)]
def tyRows : List Dat := [tyRow 0, tyRow 1, tyRow 2, tyRow 3, tyRow 4, tyRow 5]
theorem tyRows_get {k : Nat} (h : k < 6) : tyRows[k]? = some (tyRow k) := by
  rcases k with _ | _ | _ | _ | _ | _ | k
  all_goals first | rfl | omega
end Mine
end
section
open PySem PySem.W PyProof.Rows PySem.Calls PyProof.V
set_option maxRecDepth 100000
set_option Elab.async false
namespace Mine
section
variable {own : Led} {N : List (Addr × Obj)} (al : ∀ q ∈ own, ∃ o, q.2 o ∧ (q.1, o) ∈ N)
include al
mutual
theorem Dt.toIn {v : Vl} {d : Dat} {u : Value} (h : Dt own v d) (i : v.is u) : DatIn N u d := by
  match h with
  | .none => cases i; exact .none
  | .bool => cases i; exact .bool _
  | .int => obtain ⟨_, rfl⟩ := i; exact .int _ _
  | .str => obtain ⟨_, rfl⟩ := i; exact .str _ _
  | .tup m a =>
    cases i
    obtain ⟨o, ⟨us, n, rfl, aus⟩, hm⟩ := al _ m
    exact .tuple hm (DtA.toIn a aus)
  | .lst m a =>
    cases i
    obtain ⟨o, ⟨us, n, rfl, aus⟩, hm⟩ := al _ m
    exact .list hm (DtA.toIn a aus)
theorem DtA.toIn {vs : List Vl} {ds : List Dat} {us : List Value} (h : DtA own vs ds) (i : AllIs vs us) : DatAll N us ds := by
  match h with
  | .nil => cases i; exact .nil
  | .cons a b =>
    cases i with
    | cons ia ib => exact .cons (Dt.toIn a ia) (DtA.toIn b ib)
end
end
section
variable {j : Jp} {l : Loc} {W fz : Led} {e e' e₂ : PySem.Expr} {v : Vl} {pos : Pos} {rest : List PySem.Expr}
theorem PC.neD {a b : Addr} {xs ys : List Vl} {ds : List Dat} (p : PV j l W fz e (.ref a)) (q : PV j l W fz e' (.ref b)) (ma : (a, dLst xs) ∈ W ++ (fz ++ j.tl)) (mb : (b, dLst ys) ∈ W ++ (fz ++ j.tl)) (da : DtA (W ++ (fz ++ j.tl)) xs ds) (db : DtA (W ++ (fz ++ j.tl)) ys ds)
    (hk : ∀ d ∈ ds, kqdOk 8 d = true) (hu : Nat.blt (j.u + 64) cLine = true) : PC j l W fz .NotEq e e' false := fun c ok h g dr t o s QQ E K =>
  p c ok h g dr t o s _ E fun u h' t' iu s' => q c ok h' g dr t' o s' _ E fun u' h'' t'' iu' s'' => by
    cases iu; cases iu'
    obtain ⟨N, P, n⟩ := s''.N.pairs
    obtain ⟨oa, ⟨us, ka, rfl, ia⟩, hma⟩ := P.mem (memX ma)
    obtain ⟨ob, ⟨us', kb, rfl, ib⟩, hmb⟩ := P.mem (memX mb)
    have al : ∀ q ∈ W ++ (fz ++ j.tl), ∃ o, q.2 o ∧ (q.1, o) ∈ N := fun q hq => P.mem (memX hq)
    exact kqd_ne n hma rfl rfl (da.toIn al ia) (fun p hp => hp) hmb rfl rfl (db.toIn al ib) (fun p hp => hp) hk hk (Nat.lt_of_le_of_lt (Nat.add_le_add_right ok.un 64) (by simpa [Nat.blt_eq] using hu)) (by simpa using K _ _ s'')
theorem PC.eqD {a b : Addr} {xs ys : List Vl} {ds : List Dat} (p : PV j l W fz e (.ref a)) (q : PV j l W fz e' (.ref b)) (ma : (a, dLst xs) ∈ W ++ (fz ++ j.tl)) (mb : (b, dLst ys) ∈ W ++ (fz ++ j.tl)) (da : DtA (W ++ (fz ++ j.tl)) xs ds) (db : DtA (W ++ (fz ++ j.tl)) ys ds)
    (hk : ∀ d ∈ ds, kqdOk 8 d = true) (hu : Nat.blt (j.u + 64) cLine = true) : PC j l W fz .Eq e e' true := fun c ok h g dr t o s QQ E K =>
  p c ok h g dr t o s _ E fun u h' t' iu s' => q c ok h' g dr t' o s' _ E fun u' h'' t'' iu' s'' => by
    cases iu; cases iu'
    obtain ⟨N, P, n⟩ := s''.N.pairs
    obtain ⟨oa, ⟨us, ka, rfl, ia⟩, hma⟩ := P.mem (memX ma)
    obtain ⟨ob, ⟨us', kb, rfl, ib⟩, hmb⟩ := P.mem (memX mb)
    have al : ∀ q ∈ W ++ (fz ++ j.tl), ∃ o, q.2 o ∧ (q.1, o) ∈ N := fun q hq => P.mem (memX hq)
    exact kqd_eq n hma rfl rfl (da.toIn al ia) (fun p hp => hp) hmb rfl rfl (db.toIn al ib) (fun p hp => hp) hk hk (Nat.lt_of_le_of_lt (Nat.add_le_add_right ok.un 64) (by simpa [Nat.blt_eq] using hu)) (by simpa using K _ _ s'')
theorem PV.bop1 {op : BoolOp} (p : PV j l W fz e v) : PV j l W fz (.BoolOp op [e] pos) v := fun c ok h g dr t o s QQ E K => BoolOp_one (p c ok h g dr t o s QQ E K)
theorem PV.and {a b : Bool} (p : PV j l W fz e (.bool a)) (q : PV j l W fz (.BoolOp .And (e₂ :: rest) pos) (.bool b)) : PV j l W fz (.BoolOp .And (e :: e₂ :: rest) pos) (.bool (a && b)) := fun c ok h g dr t o s QQ E K =>
  BoolOp_and (p c ok h g dr t o s _ E fun u h' t' iu s' => by
    cases iu
    refine wpAny_truthy_bool ?_
    cases a with
    | true => rw [if_pos rfl]; exact q c ok _ g dr _ o s' QQ E K
    | false => rw [if_neg (by decide)]; exact K _ _ _ rfl s')
theorem PV.or {a b : Bool} (p : PV j l W fz e (.bool a)) (q : PV j l W fz (.BoolOp .Or (e₂ :: rest) pos) (.bool b)) : PV j l W fz (.BoolOp .Or (e :: e₂ :: rest) pos) (.bool (a || b)) := fun c ok h g dr t o s QQ E K =>
  BoolOp_or (p c ok h g dr t o s _ E fun u h' t' iu s' => by
    cases iu
    refine wpAny_truthy_bool ?_
    cases a with
    | true => rw [if_pos rfl]; exact K _ _ _ rfl s'
    | false => rw [if_neg (by decide)]; exact q c ok _ g dr _ o s' QQ E K)
theorem JE.bop1 {op : BoolOp} {Q : Vl → Led → Led → Prop} (p : JE j l W fz e Q) : JE j l W fz (.BoolOp op [e] pos) Q := fun c ok h g dr t o s QQ E K => BoolOp_one (p c ok h g dr t o s QQ E K)
/-- an and whose first part is true -/
def AndQ (j : Jp) (l : Loc) (e : PySem.Expr) (Q : Vl → Led → Led → Prop) (v : Vl) (W fz : Led) : Prop := v = .bool true ∧ JE j l W fz e Q
theorem AndQ.mk {Q : Vl → Led → Led → Prop} (q : JE j l W fz e Q) : AndQ j l e Q (.bool true) W fz := ⟨rfl, q⟩
theorem JE.and {Q : Vl → Led → Led → Prop} (p : JE j l W fz e (AndQ j l (.BoolOp .And (e₂ :: rest) pos) Q)) : JE j l W fz (.BoolOp .And (e :: e₂ :: rest) pos) Q := fun c ok h g dr t o s QQ E K =>
  BoolOp_and (p c ok h g dr t o s _ E fun v u W' fz' h' t' iu s' q => by
    obtain ⟨rfl, q⟩ := q
    cases iu
    refine wpAny_truthy_bool ?_
    rw [if_pos rfl]
    exact q c ok _ g dr _ o s' QQ E K)
end
theorem bind4 {w : World} {fd : FuncData} {names : List (Str × NameKind)} {x0 x1 x2 x3 : Str} {v0 v1 v2 v3 : Vl} (e : ∀ u0 u1 u2 u3, bindArgs fd ⟨[u0, u1, u2, u3], []⟩ = pure [(x0, u0), (x1, u1), (x2, u2), (x3, u3)]) (k : [x0, x1, x2, x3].all (fun x => names.lookup x == some .local) = true) :
    ∀ us, AllIs [v0, v1, v2, v3] us → ∃ bs, (∀ s : Shared, (Mine.hk.heap_1 w.params).In s.heap → BindsTo s fd ⟨us, []⟩ bs) ∧ LsIs [(x3, v3), (x2, v2), (x1, v1), (x0, v0)] bs.reverse ∧ ∀ y ∈ bs, names.lookup y.1 = some .local := by
  intro us a
  cases a with
  | cons a0 a =>
  cases a with
  | cons a1 a =>
  cases a with
  | cons a2 a =>
  cases a with
  | cons a3 a =>
  cases a
  simp only [List.all_cons, List.all_nil, Bool.and_eq_true, beq_iff_eq, and_true] at k
  obtain ⟨k0, k1, k2, k3⟩ := k
  refine ⟨_, fun s _ => BindsTo.of_eq (e _ _ _ _), .cons a3 (.cons a2 (.cons a1 (.cons a0 (.nil)))), fun y hy => ?_⟩
  simp only [List.mem_cons, List.not_mem_nil, or_false] at hy
  rcases hy with rfl | rfl | rfl | rfl
  · exact k0
  · exact k1
  · exact k2
  · exact k3
end Mine
end
section
open PySem PySem.W PyProof.Rows PySem.Calls PyProof.V
set_option maxRecDepth 100000
set_option Elab.async false
namespace Mine
section
variable {j : Jp} {l : Loc} {W fz : Led} {e : PySem.Expr} {es : List PySem.Expr} {pos : Pos} {rest body : List Stmt} {Q : Fl → Loc → Led → Led → Prop}
/-- a loop down to nought -/
theorem JX.forD {x : Str} {xp np rp : Pos} {k : Nat} (I : Nat → Led → Led → Prop) (p : PL j l W fz (e :: es) [.int ((k : Int) - 1), .int (-1), .int (-1)]) (hk : k ≤ 1000000) (h0 : I 0 W fz)
    (turn : ∀ i W' fz', i < k → I i W' fz' → JX j ((x, .int ((k : Int) - 1 + (i : Int) * -1)) :: l) W' fz' body (turnQ l (I (i + 1)) Q)) (done : ∀ W' fz', I k W' fz' → JX j l W' fz' rest Q)
    (hx : nameOk j x = true) (hr : nameG j (PySem.Str.ofString "range") = true) (hs : notStar e = true) (hs' : es.all notStar = true) :
    JX j l W fz (.For (.Name x xp) (.Call (.Name (PySem.Str.ofString "range") np) (e :: es) [] rp) body [] pos :: rest) Q := by
  intro c ok h g dr t₀ o s QQ E hE K
  obtain ⟨m₀, F₀, _⟩ := s.F
  refine wpAny_execs_cons (For_invVF F₀ (nameOk.kind hx).1 (by show (j.I.cs.kind == .class || (j.I.cs.kind == .module && _)) = false; rw [ok.kd]; rfl) ?_ (fun _ => rfl) hE)
  refine Call_ (nameX_B F₀ ok.K (topRead_of ok.T) (ns_range _) (v := .type "range") (by boot_by_name) (by decide) ?_ ok.kd (nameG.kind hr).1 (by decide))
  refine PySem.Pv.callWith_type1 (p c ok h g dr t₀ o s _ _ E fun us h' t' iu s' => ?_) (star_of hs _ _) (stars_none hs' _ _)
  cases iu with
  | cons i1 iu =>
  cases iu with
  | cons i2 iu =>
  cases iu with
  | cons i3 iu =>
  cases iu
  obtain ⟨_, rfl⟩ := i1
  obtain ⟨_, rfl⟩ := i2
  obtain ⟨_, rfl⟩ := i3
  obtain ⟨m, N, F, nn, lj⟩ := LoopJ.of (j := j) (l := l) (I := I 0) s' h0
  refine range3_rows F nn (by decide) fun h₁ tk t₁ u₁ v₁ R F₁ N₁ _ => ?_
  refine rangeC_loop (fun i m N => LoopJ j l c (I i) m N) (n := k) ok.hd R (PySem.W.small_down (by omega) (by omega) (by omega) (by omega)) (by rw [PySem.W.rangeSize_downNat]; omega) F₁ N₁ lj ?_ ?_
  · rintro i t m N I' o' h₂ tk hi ⟨W₂, fz₂, i', hm', P, D, O⟩ hI F' N'
    have hIoff := P.off hI
    have sI : St (c.hide I' o') j.tl ((x, .int ((k : Int) - 1 + (i : Int) * -1)) :: l) W₂ fz₂ h₂ := St.hide ⟨_, F', hm'.store (v := .int _) ⟨t, rfl⟩⟩ (P.news fun p hp => N' p (.tail _ hp)) D O (fun p hp => by rw [List.mem_singleton.mp hp]; exact N' _ (.head _)) hIoff
    refine turn i W₂ fz₂ hi i' _ (ok.hide I' o') h₂ g dr tk o sI _ E hE fun f f' l' W₃ fz₃ h₃ t₃ hf s₃ q => ?_
    exact turn_end (QQ := fun f s' => match f with | Flow.next => wpAny (model pg j.w) c.A (execs rest (j.I.env c.L)) QQ E s' | f => QQ f s') (h := h₂) (g := g) (dr := dr) (t := tk) (t' := t₃) (os := o) (I := I (i + 1)) (Q := Q) hf s₃ q (fun x hx => (hIoff x (List.mem_append_right _ (List.mem_append_right _ hx))).symm)
      (fun v u l' W' fz' h' t' iu s₃ q => K (.ret v) _ _ _ _ _ _ ⟨u, rfl, iu⟩ s₃ q)
  · rintro m N h₂ tk ⟨W₂, fz₂, i', hm', P, D, O⟩ F' N'
    exact done W₂ fz₂ i' c ok h₂ g dr tk o ⟨⟨m, F', hm'⟩, P.news N', D, O⟩ QQ E hE K
theorem St.hideT {c : Ctx} {tl : Led} {l : Loc} {W fz : Led} {h : Heap} {a : Addr} {o : Obj} (F : ∃ m, Fr c.h₀ c.L h m ∧ LocIs l m) (n : NewsD c.h₀ c.L h (W ++ (fz ++ (tl ++ c.X)))) (D : Dis W (fz ++ (tl ++ c.X))) (O : OffT fz (tl ++ c.X))
    (n1 : News c.h₀ c.L h [(a, o)]) (hI : ∀ q ∈ W ++ fz, a ≠ q.1) : St (c.hide a o) tl l W fz h := by
  refine ⟨F, fun p hp => ?_, ⟨D.1, fun p hp q hq => ?_⟩, fun p hp q hq => ?_⟩
  · rcases hideMem.mp hp with rfl | hp
    · exact ⟨o, rfl, n1 _ (.head _)⟩
    · exact n p hp
  · have hq' : q ∈ ([] : Led) ++ (fz ++ (tl ++ ((a, (· = o)) :: c.X))) := hq
    rcases hideMem.mp hq' with rfl | hq
    · exact (hI p (List.mem_append_left _ hp)).symm
    · exact D.2 p hp q hq
  · have hq' : q ∈ ([] : Led) ++ (([] : Led) ++ (tl ++ ((a, (· = o)) :: c.X))) := hq
    rcases hideMem.mp hq' with rfl | hq
    · exact (hI p (List.mem_append_right _ hp)).symm
    · exact O p hp q hq
/-- a loop over a list that stays as it is -/
theorem JX.forT {t : PySem.Expr} {a : Addr} {vs : List Vl} (I : List Vl → Led → Led → Prop) (p : PV j l W fz e (.ref a)) (hm : (a, dLst vs) ∈ j.tl) (h0 : I vs W fz) (hs : notSet e = true)
    (turn : ∀ v r W' fz', I (v :: r) W' fz' → JB j l W' fz' t v body (turnQ l (I r) Q)) (done : ∀ W' fz', I [] W' fz' → JX j l W' fz' rest Q) : JX j l W fz (.For t e body [] pos :: rest) Q := by
  intro c ok h g dr t₀ o s QQ E hE K
  obtain ⟨m₀, F₀, _⟩ := s.F
  refine wpAny_execs_cons (For_turns F₀ (p c ok h g dr t₀ o s _ E fun u h' t' iu s' => ?_) (notSet_of hs _) hE)
  cases iu
  obtain ⟨o₁, ⟨us, n, rfl, au⟩, n1⟩ := s'.N.one (List.mem_append_right W (List.mem_append_right fz (List.mem_append_left c.X hm)))
  have hoff : ∀ q ∈ W ++ fz, a ≠ q.1 := by
    intro q hq
    rcases List.mem_append.mp hq with hq | hq
    · exact (s'.D.2 q hq (a, dLst vs) (List.mem_append_right _ (List.mem_append_left _ hm))).symm
    · exact (s'.O q hq (a, dLst vs) (List.mem_append_left _ hm)).symm
  have s1 : St (c.hide a (listOf us.toArray n)) j.tl l W fz h' := St.hideT s'.F s'.N s'.D s'.O n1 hoff
  obtain ⟨m, N, F, nn, lj⟩ := LoopJ.of (j := j) (l := l) (I := I vs) s1 h0
  have ok1 := ok.hide a (listOf us.toArray n)
  refine list_loop (ax := a) (lo := listOf us.toArray n) (vs := us) (n := n) (fun r m N => ∃ vr, AllIs vr r ∧ LoopJ j l (c.hide a (listOf us.toArray n)) (I vr) m N) ok.hd F nn rfl rfl ⟨vs, au, lj⟩ ?_ ?_ ?_
  · rintro r m N ⟨vr, _, W', fz', _, _, P, _, _⟩
    obtain ⟨o₂, ho, hm⟩ := P.mem (q := (a, (· = listOf us.toArray n))) (hideMem.mpr (.inl rfl))
    have ho' : o₂ = listOf us.toArray n := ho
    exact ho' ▸ hm
  · rintro v r m N I' o' h₁ tk ⟨vr, avr, W', fz', i', hm', P, D, O⟩ hI F' N'
    cases avr with
    | @cons vh _ vr _ iv avr =>
    have hIoff := P.off hI
    have sI : St ((c.hide a (listOf us.toArray n)).hide I' o') j.tl l W' fz' h₁ := St.hide ⟨m, F', hm'⟩ (P.news fun p hp => N' p (.tail _ hp)) D O (fun p hp => by rw [List.mem_singleton.mp hp]; exact N' _ (.head _)) hIoff
    refine turn vh vr W' fz' i' _ (ok1.hide I' o') h₁ g dr tk o sI v iv _ E hE fun f f' l' W₂ fz₂ h₂ t₂ hf s₂ q => ?_
    have te := turn_end (QQ := fun f s' => match f with | Flow.next => wpAny (model pg j.w) c.A (execs rest (j.I.env c.L)) QQ E s' | f => QQ f s') (h := h₁) (g := g) (dr := dr) (t := tk) (t' := t₂) (os := o) (I := I vr) (Q := Q) hf s₂ q (fun x hx => (hIoff x (List.mem_append_right _ (List.mem_append_right _ hx))).symm)
      (fun v u l' W' fz' h' t' iu s₃ q => K (.ret v) _ _ _ _ _ _ ⟨u, rfl, iu⟩ s₃.unhide q)
    exact te.mono fun m led x => ⟨x.1, x.2.elim fun N' y => ⟨N', ⟨vr, avr, y.1⟩, y.2⟩⟩
  · rintro m N h₁ tk ⟨vr, avr, W', fz', i', hm', P, D, O⟩ F' N'
    cases avr
    have s2 : St (c.hide a (listOf us.toArray n)) j.tl l W' fz' h₁ := ⟨⟨m, F', hm'⟩, P.news N', D, O⟩
    exact done W' fz' i' c ok h₁ g dr tk o s2.unhide QQ E hE K
theorem PV.notB {b : Bool} (p : PV j l W fz e (.bool b)) : PV j l W fz (.UnaryOp .Not e pos) (.bool (!b)) := fun c ok h g dr t o s QQ E K =>
  UnaryOp_ (p c ok h g dr t o s _ E fun u h' t' iu s' => by cases iu; exact not_of (wpAny_truthy_bool (K _ _ _ rfl s')))
end
end Mine
end
section
open PySem PySem.W PyProof.Rows PySem.Calls PyProof.V
set_option maxRecDepth 100000
set_option Elab.async false
namespace Mine
/-- the entries of the kinds dict bear these rows, in order -/
inductive KvR : List (Int × Value) → List SRow → Prop
  | nil : KvR [] []
  | cons {a : Nat} {kd : Kd} {t : Tok} {kvs : List (Int × Value)} {R : List SRow} : KvR kvs R → KvR (((a : Int), .str kd.str t) :: kvs) ((a, kd) :: R)
theorem KvR.length {kvs : List (Int × Value)} {R : List SRow} (h : KvR kvs R) : kvs.length = R.length := by
  induction h with
  | nil => rfl
  | cons _ ih => rw [List.length_cons, List.length_cons, ih]
theorem KvR.append {k1 k2 : List (Int × Value)} {R1 R2 : List SRow} (h : KvR k1 R1) (h2 : KvR k2 R2) : KvR (k1 ++ k2) (R1 ++ R2) := by
  induction h with
  | nil => exact h2
  | cons _ ih => exact .cons ih
abbrev rowOf (R : List SRow) (a : Nat) : Option SRow := R.find? fun r => decide (r.1 = a)
theorem KvR.valueAt {kvs : List (Int × Value)} {R : List SRow} (h : KvR kvs R) (a : Nat) : (rowOf R a = none ∧ PySem.valueAt kvs (a : Int) = none) ∨ ∃ kd t, rowOf R a = some (a, kd) ∧ PySem.valueAt kvs (a : Int) = some (.str kd.str t) := by
  induction h with
  | nil => exact .inl ⟨rfl, rfl⟩
  | @cons b kd t kvs R _ ih =>
    by_cases e : b = a
    · subst e
      exact .inr ⟨kd, t, by simp [rowOf], by simp [PySem.valueAt]⟩
    · have e' : ¬ ((b : Int) = (a : Int)) := by omega
      rcases ih with ⟨h1, h2⟩ | ⟨k, t, h1, h2⟩
      · refine .inl ⟨?_, ?_⟩
        · rw [← h1]; simp [rowOf, e]
        · rw [← h2]; simp [PySem.valueAt, e']
      · refine .inr ⟨k, t, ?_, ?_⟩
        · rw [← h1]; simp [rowOf, e]
        · rw [← h2]; simp [PySem.valueAt, e']
theorem KvR.without {kvs : List (Int × Value)} {R : List SRow} (h : KvR kvs R) (a : Nat) : KvR (PySem.without kvs (a : Int)) (R.filter fun r => decide (r.1 ≠ a)) := by
  induction h with
  | nil => exact .nil
  | @cons b kd t kvs R _ ih =>
    by_cases e : b = a
    · subst e
      have h1 : PySem.without (((b : Int), Value.str kd.str t) :: kvs) (b : Int) = PySem.without kvs (b : Int) := by simp [PySem.without]
      rw [h1, List.filter_cons_of_neg (by simp)]
      exact ih
    · have e' : ¬ ((b : Int) = (a : Int)) := by omega
      have h1 : PySem.without (((b : Int), Value.str kd.str t) :: kvs) (a : Int) = ((b : Int), Value.str kd.str t) :: PySem.without kvs (a : Int) := by simp [PySem.without, e']
      rw [h1, List.filter_cons_of_pos (by simpa using e)]
      exact .cons ih
theorem KvR.any {kvs : List (Int × Value)} {R : List SRow} (h : KvR kvs R) (a : Nat) : kvs.any (fun kv => decide (kv.1 = (a : Int))) = R.any fun r => decide (r.1 = a) := by
  induction h with
  | nil => rfl
  | @cons b kd t kvs R _ ih =>
    rw [List.any_cons, List.any_cons, ih]
    congr 1
    by_cases e : b = a
    · subst e; simp
    · have e' : ¬ ((b : Int) = (a : Int)) := by omega
      simp [e, e']
theorem KvR.map {kvs : List (Int × Value)} {R : List SRow} (h : KvR kvs R) (a : Nat) (kd : Kd) (t : Tok) : KvR (kvs.map fun kv => if kv.1 = (a : Int) then (kv.1, Value.str kd.str t) else kv) (R.map fun r => if r.1 = a then (r.1, kd) else r) := by
  induction h with
  | nil => exact .nil
  | @cons b k u kvs R _ ih =>
    rw [List.map_cons, List.map_cons]
    by_cases e : b = a
    · subst e
      rw [if_pos rfl, if_pos rfl]
      exact .cons ih
    · have e' : ¬ ((b : Int) = (a : Int)) := by omega
      rw [if_neg e, if_neg e']
      exact .cons ih
def setRow (R : List SRow) (a : Nat) (kd : Kd) : List SRow := if R.any (fun r => decide (r.1 = a)) = true then R.map (fun r => if r.1 = a then (r.1, kd) else r) else R ++ [(a, kd)]
theorem KvR.stored {kvs : List (Int × Value)} {R : List SRow} (h : KvR kvs R) (a : Nat) (kd : Kd) (t : Tok) : KvR (PySem.stored kvs (a : Int) (.str kd.str t)) (setRow R a kd) := by
  unfold PySem.stored setRow
  rw [h.any a]
  split
  · exact h.map a kd t
  · exact h.append (.cons .nil)
/-- tags rise -/
def Rise (R : List SRow) : Prop := R.Pairwise fun a b => a.1 < b.1
theorem setRow_new {R : List SRow} {a : Nat} {kd : Kd} (h : ∀ r ∈ R, r.1 ≠ a) : setRow R a kd = R ++ [(a, kd)] := by
  unfold setRow
  rw [if_neg]
  simp only [List.any_eq_true, decide_eq_true_eq, not_exists, not_and]
  exact h
theorem setRow_at {R1 : List SRow} {a : Nat} {kp kd : Kd} (h : ∀ r ∈ R1, r.1 ≠ a) : setRow (R1 ++ [(a, kp)]) a kd = R1 ++ [(a, kd)] := by
  unfold setRow
  rw [if_pos (by simp), List.map_append]
  congr 1
  · conv => rhs; rw [← List.map_id R1]
    refine List.map_congr_left fun r hr => ?_
    rw [if_neg (h r hr)]; rfl
  · simp
/-- what the law takes from the kinds -/
def stays (parent : Nat) (kd : Kd) (r : SRow) : Bool := !(decide (parent < r.1) && (decide (kd = .uni) || decide (r.2 = .uni)))
/-- what Stack.push leaves of the rows, and the new one -/
def pushR (R1 : List SRow) (r : SRow) (R2 : List SRow) (tag : Nat) (kd : Kd) : List SRow :=
  (match kd with | .uni => R1 ++ [(r.1, Kd.uni)] | _ => R1 ++ r :: R2.filter fun r => decide (r.2 ≠ .uni)) ++ [(tag, kd)]
theorem Rise.split {R1 R2 : List SRow} {r : SRow} (h : Rise (R1 ++ r :: R2)) : (∀ q ∈ R1, q.1 < r.1) ∧ (∀ q ∈ R2, r.1 < q.1) ∧ (∀ q ∈ R1, ∀ p ∈ R2, q.1 < p.1) ∧ Rise R1 ∧ Rise R2 := by
  obtain ⟨a, b, c⟩ := List.pairwise_append.mp h
  obtain ⟨d, e⟩ := List.pairwise_cons.mp b
  exact ⟨fun q hq => c q hq r (.head _), d, fun q hq p hp => c q hq p (.tail _ hp), a, e⟩
theorem filter_stays {R1 R2 : List SRow} {p : Nat} {kp kd : Kd} (h : Rise (R1 ++ (p, kp) :: R2)) :
    (R1 ++ (p, kp) :: R2).filter (stays p kd) = R1 ++ (p, kp) :: (match kd with | .uni => [] | _ => R2.filter fun r => decide (r.2 ≠ .uni)) := by
  obtain ⟨h1, h2, -, -, -⟩ := h.split
  rw [List.filter_append, List.filter_cons_of_pos (by simp [stays])]
  have e2 : R2.filter (stays p kd) = (match kd with | .uni => [] | _ => R2.filter fun r => decide (r.2 ≠ .uni)) := by
    cases kd with
    | uni =>
      refine List.filter_eq_nil_iff.mpr fun r hr => ?_
      have := h2 r hr
      simp [stays, this]
    | sha =>
      refine List.filter_congr fun r hr => ?_
      have := h2 r hr
      simp [stays, this]
    | res =>
      refine List.filter_congr fun r hr => ?_
      have := h2 r hr
      simp [stays, this]
  have e1 : R1.filter (stays p kd) = R1 := List.filter_eq_self.mpr fun r hr => by
    have := h1 r hr
    simp only [stays, Bool.not_eq_true', Bool.and_eq_false_iff, decide_eq_false_iff_not]
    exact .inl (Nat.not_lt.mpr (Nat.le_of_lt this))
  rw [e1, e2]
/-- the law's kinds after a turn hold the rows of the stack -/
theorem kinds_push {R1 R2 : List SRow} {p many : Nat} {kp kd : Kd} (h : Rise (R1 ++ (p, kp) :: R2)) (hm : ∀ r ∈ R1 ++ (p, kp) :: R2, r.1 < many) :
    setRow (if kd = .uni then setRow ((R1 ++ (p, kp) :: R2).filter (stays p kd)) p .uni else (R1 ++ (p, kp) :: R2).filter (stays p kd)) many kd = pushR R1 (p, kp) R2 many kd := by
  obtain ⟨h1, h2, -, -, -⟩ := h.split
  have hp : p < many := hm (p, kp) (by simp)
  have hm1 : ∀ r ∈ R1, r.1 ≠ many := fun r hr => Nat.ne_of_lt (hm r (by simp [hr]))
  have hm2 : ∀ r ∈ R2, r.1 ≠ many := fun r hr => Nat.ne_of_lt (hm r (by simp [hr]))
  rw [filter_stays h]
  cases kd with
  | uni =>
    rw [if_pos rfl, setRow_at fun r hr => Nat.ne_of_lt (h1 r hr)]
    rw [setRow_new]
    · rfl
    · intro r hr
      rcases List.mem_append.mp hr with hr | hr
      · exact hm1 r hr
      · rw [List.mem_singleton.mp hr]; exact Nat.ne_of_lt hp
  | sha =>
    rw [if_neg (by decide), setRow_new]
    · rfl
    · intro r hr
      rcases List.mem_append.mp hr with hr | hr
      · exact hm1 r hr
      · rcases List.mem_cons.mp hr with rfl | hr
        · exact Nat.ne_of_lt hp
        · exact hm2 r ((List.mem_filter.mp hr).1)
  | res =>
    rw [if_neg (by decide), setRow_new]
    · rfl
    · intro r hr
      rcases List.mem_append.mp hr with hr | hr
      · exact hm1 r hr
      · rcases List.mem_cons.mp hr with rfl | hr
        · exact Nat.ne_of_lt hp
        · exact hm2 r ((List.mem_filter.mp hr).1)
theorem pushR_rise {R1 R2 : List SRow} {p many : Nat} {kp kd : Kd} (h : Rise (R1 ++ (p, kp) :: R2)) (hm : ∀ r ∈ R1 ++ (p, kp) :: R2, r.1 < many) : Rise (pushR R1 (p, kp) R2 many kd) ∧ ∀ r ∈ pushR R1 (p, kp) R2 many kd, r.1 < many + 1 := by
  obtain ⟨h1, h2, h3, h4, h5⟩ := h.split
  have hp : p < many := hm (p, kp) (by simp)
  have hm1 : ∀ r ∈ R1, r.1 < many := fun r hr => hm r (by simp [hr])
  have hm2 : ∀ r ∈ R2, r.1 < many := fun r hr => hm r (by simp [hr])
  have key : ∀ Rx : List SRow, Rise Rx → (∀ r ∈ Rx, r.1 < many) → Rise (Rx ++ [(many, kd)]) ∧ ∀ r ∈ Rx ++ [(many, kd)], r.1 < many + 1 := fun Rx a b => by
    refine ⟨List.pairwise_append.mpr ⟨a, List.pairwise_singleton _ _, fun x hx y hy => by rw [List.mem_singleton.mp hy]; exact b x hx⟩, fun r hr => ?_⟩
    rcases List.mem_append.mp hr with hr | hr
    · exact Nat.lt_succ_of_lt (b r hr)
    · rw [List.mem_singleton.mp hr]; exact Nat.lt_succ_self _
  have k2 : ∀ f : SRow → Bool, Rise (R1 ++ (p, kp) :: R2.filter f) ∧ ∀ r ∈ R1 ++ (p, kp) :: R2.filter f, r.1 < many := fun f => by
    refine ⟨List.pairwise_append.mpr ⟨h4, List.pairwise_cons.mpr ⟨fun y hy => h2 y ((List.mem_filter.mp hy).1), h5.filter _⟩, fun x hx y hy => ?_⟩, fun r hr => ?_⟩
    · rcases List.mem_cons.mp hy with rfl | hy
      · exact h1 x hx
      · exact h3 x hx y ((List.mem_filter.mp hy).1)
    · rcases List.mem_append.mp hr with hr | hr
      · exact hm1 r hr
      · rcases List.mem_cons.mp hr with rfl | hr
        · exact hp
        · exact hm2 r ((List.mem_filter.mp hr).1)
  cases kd with
  | uni =>
    refine key _ (List.pairwise_append.mpr ⟨h4, List.pairwise_singleton _ _, fun x hx y hy => by rw [List.mem_singleton.mp hy]; exact h1 x hx⟩) fun r hr => ?_
    rcases List.mem_append.mp hr with hr | hr
    · exact hm1 r hr
    · rw [List.mem_singleton.mp hr]; exact hp
  | sha => exact key _ (k2 _).1 (k2 _).2
  | res => exact key _ (k2 _).1 (k2 _).2
section
variable {prog : Program} {w : World} {A : Around} {E : Value → Shared → Prop} {s : Shared} {h₀ : Heap} {L d : Addr} {m : Str → Option Value} {news : List (Addr × Obj)} {o : Obj} {kvs : List (Int × Value)} {k : Int} {t : Tok} {v dflt : Value} {Q : Value → Shared → Prop}
theorem in_yes (N : News h₀ L s.heap news) (hp : (d, o) ∈ news) (hd : o.IsDictOf (PySem.intKind prog w) kvs) (lo : (d == sysModules) = false) (hl : PySem.valueAt kvs k = some v) (h : ∀ tk, Q (.bool true) { s with toks := tk }) :
    wpAny (model prog w) A (compareOp .In (.int k t) (.ref d)) Q E s := kda_in N hp hd lo (intKind_is prog w k t) true (by rw [hl]; rfl) (h _)
theorem in_no (N : News h₀ L s.heap news) (hp : (d, o) ∈ news) (hd : o.IsDictOf (PySem.intKind prog w) kvs) (lo : (d == sysModules) = false) (hl : PySem.valueAt kvs k = none) (h : ∀ tk, Q (.bool false) { s with toks := tk }) :
    wpAny (model prog w) A (compareOp .In (.int k t) (.ref d)) Q E s := kda_in N hp hd lo (intKind_is prog w k t) false (by rw [hl]; rfl) (h _)
theorem get_yes (N : News h₀ L s.heap news) (hp : (d, o) ∈ news) (hd : o.IsDictOf (PySem.intKind prog w) kvs) (lo : (d == sysModules) = false) (hl : PySem.valueAt kvs k = some v) (h : ∀ tk, Q v { s with toks := tk }) :
    wpAny (model prog w) A (call (.builtin "dict.get") [.ref d, .int k t, dflt]) Q E s := kdg_get2 N hp hd lo (intKind_is prog w k t) (some v) hl (h _)
theorem get_no (N : News h₀ L s.heap news) (hp : (d, o) ∈ news) (hd : o.IsDictOf (PySem.intKind prog w) kvs) (lo : (d == sysModules) = false) (hl : PySem.valueAt kvs k = none) (h : ∀ tk, Q dflt { s with toks := tk }) :
    wpAny (model prog w) A (call (.builtin "dict.get") [.ref d, .int k t, dflt]) Q E s := kdg_get2 N hp hd lo (intKind_is prog w k t) none hl (h _)
theorem get_meth {pl : Sem Bool} {Q : Value × List Value → Shared → Prop} (hd : o.IsDictOf (PySem.intKind prog w) kvs) (hp : (d, o) ∈ news) (N : News h₀ L s.heap news) (h : Q (.builtin "dict.get", [.ref d]) s) : wpAny (model prog w) A (getMethod (.ref d) "get" pl) Q E s := kdg_method N hp hd h
theorem pop_meth {pl : Sem Bool} {Q : Value × List Value → Shared → Prop} (hd : o.IsDictOf (PySem.intKind prog w) kvs) (hp : (d, o) ∈ news) (N : News h₀ L s.heap news) (h : Q (.builtin "dict.pop", [.ref d]) s) : wpAny (model prog w) A (getMethod (.ref d) "pop" pl) Q E s :=
  kob_method PySem.F.slot_dict_pop PySem.F.type_dict_pop N hp hd h
end
end Mine
end
section
open PySem PySem.W PyProof.Rows PySem.Calls PyProof.V
set_option maxRecDepth 100000
namespace Mine
end Mine
end
section
open PySem PySem.W PyProof.Rows PySem.Calls PyProof.V
set_option maxRecDepth 100000
set_option Elab.async false
namespace Mine
theorem ints_kf {vs : List Value} {ns : List Int} (h : IntsAre vs ns) : kf_ints vs = true ∧ lks_nums vs = ns := by
  induction h with
  | nil => exact ⟨rfl, rfl⟩
  | cons n t _ ih => exact ⟨ih.1, congrArg (List.cons n) ih.2⟩
theorem asc_of : ∀ {ns : List Int}, ns.Pairwise (· < ·) → lks_asc ns = true
  | [], _ => rfl
  | a :: r, h => by
    obtain ⟨h1, h2⟩ := List.pairwise_cons.mp h
    simp only [lks_asc, Bool.and_eq_true, List.all_eq_true, decide_eq_true_eq]
    exact ⟨fun b hb => Int.le_of_lt (h1 b hb), asc_of h2⟩
theorem vals_are : ∀ (ns : List Int) (i : Nat) (t : Nat → Tok), IntsAre (lks_vals ns i t) ns
  | [], _, _ => .nil
  | _ :: r, i, t => .cons _ _ (vals_are r (i + 1) t)
abbrev tagsOf (R : List SRow) : List Int := R.map fun r => (r.1 : Int)
theorem Rise.tags {R : List SRow} (h : Rise R) : (tagsOf R).Pairwise (· < ·) := List.pairwise_map.mpr (h.imp fun h => by omega)
theorem keys_ints {prog : Program} {w : World} : ∀ {kvs : List (Int × Value)} {R : List SRow} {vs : List Value}, KvR kvs R → vs.length = kvs.length → (∀ (j : Nat) (v : Value), vs[j]? = some v → ∃ k x, kvs[j]? = some (k, x) ∧ (PySem.intKind prog w).is k v = true) → IntsAre vs (tagsOf R) := by
  intro kvs R vs hk
  induction hk generalizing vs with
  | nil => intro hl _; rw [List.length_eq_zero_iff.mp hl]; exact .nil
  | @cons a kd t kvs R _ ih =>
    intro hl hv
    cases vs with
    | nil => cases hl
    | cons v vs =>
      obtain ⟨k, x, e, hk⟩ := hv 0 v rfl
      simp only [List.getElem?_cons_zero, Option.some.injEq, Prod.mk.injEq] at e
      obtain ⟨rfl, -⟩ := e
      have hi : ∃ t, v = .int (a : Int) t := by
        cases v <;> simp [PySem.intKind, Value.isInt] at hk
        subst hk; exact ⟨_, rfl⟩
      obtain ⟨t', rfl⟩ := hi
      exact .cons _ _ (ih (by simpa using hl) fun j u hu => hv (j + 1) u (by simpa using hu))
section
variable {prog : Program} {w : World} {A : Around} {E : Value → Shared → Prop} {s : Shared} {h₀ : Heap} {L d : Addr} {m : Str → Option Value} {news : List (Addr × Obj)} {o : Obj} {kvs : List (Int × Value)} {R : List SRow}
theorem sorted_own {Q : Value → Shared → Prop} (hh : A.handled = none) (F : Fr h₀ L s.heap m) (N : News h₀ L s.heap news) (hp : (d, o) ∈ news) (hd : o.IsDictOf (PySem.intKind prog w) kvs) (lo : (d == sysModules) = false) (hk : KvR kvs R) (hR : Rise R) (hz : R.length < 64) (hne : R ≠ [])
    (h : ∀ D vs c h' tk, Fr h₀ L h' m → News h₀ L h' ((D, listOf vs.toArray c) :: news) → NewA D news → IntsAre vs (tagsOf R) → Q (.ref D) { s with heap := h', toks := tk }) : wpAny (model prog w) A (call (.builtin "sorted") [.ref d]) Q E s := by
  have hD := kda_dict N hp hd
  obtain ⟨ep, hat⟩ := hD.dictAt
  have hkl := hk.length
  refine kdu_sorted (kdl_dict (knd := PySem.intKind prog w) (kvs := kvs) (ep := ep) lo) hh F N hat (by rw [sizeLine_eq]; omega) fun D h' tk vs F' N' hlt hl hv => ?_
  have hI := keys_ints hk hl hv
  obtain ⟨q1, q2⟩ := ints_kf hI
  have hneD : ∀ p ∈ news, p.1 ≠ D := fun p hp => Nat.ne_of_lt (hlt p hp)
  refine lks_sort (q := tagsOf R) (its := vs.toArray) (news' := fun t => (D, listOf (lks_vals (tagsOf R) 0 t).toArray (0 + 2)) :: news) F' N' (fun t => Upd.head hneD) (by rw [List.toList_toArray]; exact q1) ?_ ?_ (by rw [List.toList_toArray]; omega) fun t h'' F'' N'' => ?_
  · rw [List.toList_toArray]
    unfold lks_ok
    rw [q2, asc_of hR.tags, List.isPerm_iff.mpr (List.Perm.refl _)]
    rfl
  · rw [List.toList_toArray]
    cases vs with
    | nil =>
      exfalso
      apply hne
      have : R.length = 0 := by rw [← hkl]; exact hl.symm
      exact List.length_eq_zero_iff.mp this
    | cons _ _ => rfl
  · exact h D _ _ h'' _ F'' N'' hlt (vals_are _ 0 t)
end
section
variable {prog : Program} {w : World} {A : Around} {E : Value → Shared → Prop} {s : Shared} {env : Env} {h₀ : Heap} {x : Str} {body : List Stmt} {Q : Flow → Shared → Prop}
end
end Mine
end
section
open PySem PySem.W PyProof.Rows PySem.Calls PyProof.V
set_option maxRecDepth 100000
set_option Elab.async false
namespace Mine
theorem swap2 {α : Type} {a b : α} {r : List α} : ∀ q ∈ a :: b :: r, q ∈ b :: a :: r := fun q hq => by
  rcases List.mem_cons.mp hq with rfl | hq
  · exact .tail _ (.head _)
  · rcases List.mem_cons.mp hq with rfl | hq
    · exact .head _
    · exact .tail _ (.tail _ hq)
theorem rowOf_at {R1 R2 : List SRow} {p : Nat} {kp : Kd} (h : Rise (R1 ++ (p, kp) :: R2)) : rowOf (R1 ++ (p, kp) :: R2) p = some (p, kp) := by
  obtain ⟨h1, -, -, -, -⟩ := h.split
  unfold rowOf
  rw [List.find?_append, List.find?_eq_none.mpr fun r hr => by simpa using Nat.ne_of_lt (h1 r hr)]
  simp
theorem pushR_length {R1 R2 : List SRow} {r : SRow} {tag : Nat} {kd : Kd} : (pushR R1 r R2 tag kd).length ≤ (R1 ++ r :: R2).length + 1 := by
  have h := List.length_filter_le (fun r : SRow => decide (r.2 ≠ .uni)) R2
  unfold pushR
  cases kd <;> simp only [List.length_append, List.length_cons, List.length_nil] <;> omega
theorem pushR_ne {R1 R2 : List SRow} {r : SRow} {tag : Nat} {kd : Kd} : pushR R1 r R2 tag kd ≠ [] := by
  unfold pushR
  simp
section
variable {prog : Program} {w : World} {A : Around} {E : Value → Shared → Prop} {s : Shared} {h₀ : Heap} {L d : Addr} {m : Str → Option Value} {news : List (Addr × Obj)} {o : Obj} {kvs : List (Int × Value)} {k : Int} {t : Tok} {v : Value}
theorem kitem {value slice : PySem.Expr} {Q : Value → Shared → Prop} (N : News h₀ L s.heap news) (hp : (d, o) ∈ news) (hd : o.IsDictOf (PySem.intKind prog w) kvs) (hl : PySem.valueAt kvs k = some v) (h : ∀ tk, Q v { s with toks := tk })
    (hs : subscripted slice false (.ref d) (.int k t) = operate [.ref d, .int k t] (getItem (.ref d) (.int k t)) := by with_unfolding_all rfl) (hg : ∀ r, letTemporaryGo value (.ref d) r = pure () := by intro _; with_unfolding_all rfl) :
    wpAny (model prog w) A (subscriptTail value slice (.ref d) (.int k t)) Q E s := kda_item N hp hd (intKind_is prog w k t) hl (h _) hs hg
theorem kpop {Q : Value → Shared → Prop} {g : Obj → List (Addr × Obj)} (F : Fr h₀ L s.heap m) (N : News h₀ L s.heap news) (U : UpdF d o news g) (hd : o.IsDictOf (PySem.intKind prog w) kvs) (hl : PySem.valueAt kvs k = some v) (hz : kvs.length ≤ 1000)
    (h : ∀ h' o' tk, Fr h₀ L h' m → News h₀ L h' (g o') → o'.IsDictOf (PySem.intKind prog w) (PySem.without kvs k) → Q v { s with heap := h', toks := tk }) :
    wpAny (model prog w) A (call (.builtin "dict.pop") [.ref d, .int k t]) Q E s :=
  kob_pop (more := []) F N U hd (intKind_is prog w k t) (.inl rfl) (by rfl) (PySem.F.args_dict_pop_2 _ _) hl (by rw [sizeLine_eq]; omega) fun h' o' a b c => h h' o' _ a b c
theorem kset {Q : Unit → Shared → Prop} {g : Obj → List (Addr × Obj)} (F : Fr h₀ L s.heap m) (N : News h₀ L s.heap news) (U : UpdF d o news g) (hd : o.IsDictOf (PySem.intKind prog w) kvs) (hz : kvs.length ≤ 1000)
    (h : ∀ h' o' tk, Fr h₀ L h' m → News h₀ L h' (g o') → o'.IsDictOf (PySem.intKind prog w) (PySem.stored kvs k v) → Q () { s with heap := h', toks := tk }) : wpAny (model prog w) A (setItem (.ref d) (.int k t) v) Q E s :=
  kda_set F N U hd (intKind_is prog w k t) (by rw [sizeLine_eq]; omega) fun h' o' a b c => h h' o' _ a b c
end
theorem rise_part {Rd Rr : List SRow} {f : SRow → Bool} (h : Rise (Rd ++ Rr)) : Rise (Rd.filter f ++ Rr) :=
  List.Pairwise.sublist (List.Sublist.append List.filter_sublist (List.Sublist.refl _)) h
end Mine
end
section
open PySem PySem.W PyProof.Rows PySem.Calls PyProof.V
set_option maxRecDepth 100000
set_option Elab.async false
namespace Mine
/-- a dict from tags to kinds -/
def dKd (w : World) (R : List SRow) : Dsc := fun o => ∃ kvs, o.IsDictOf (PySem.intKind pg w) kvs ∧ KvR kvs R
section
variable {j : Jp} {l : Loc} {W fz : Led} {e e' e₂ b : PySem.Expr} {v : Vl} {pos apos : Pos}
theorem PC.inK {d : Addr} {R : List SRow} {k : Nat} (p : PV j l W fz e (.int k)) (q : PV j l W fz e' (.ref d)) (m : (d, dKd j.w R) ∈ W ++ (fz ++ j.tl)) (lo : (d == sysModules) = false) : PC j l W fz .In e e' (rowOf R k).isSome := fun c ok h g dr t o s QQ E K =>
  p c ok h g dr t o s _ E fun u h' t' iu s' => q c ok h' g dr t' o s' _ E fun u' h'' t'' iu' s'' => by
    obtain ⟨_, rfl⟩ := iu
    cases iu'
    obtain ⟨o', ⟨kvs, hd, hk⟩, n1⟩ := St.has s'' m
    rcases hk.valueAt k with ⟨h1, h2⟩ | ⟨kd, t, h1, h2⟩
    · rw [h1] at K
      exact in_no n1 (.head _) hd lo h2 fun tk => K _ _ s''
    · rw [h1] at K
      exact in_yes n1 (.head _) hd lo h2 fun tk => K _ _ s''
/-- the kind that a dict tells of a tag, or another word -/
def kindStr (R : List SRow) (k : Nat) (x : Str) : Str := match rowOf R k with | some r => r.2.str | none => x
theorem PV.getK {d : Addr} {R : List SRow} {k : Nat} {x : Str} (p : PV j l W fz b (.ref d)) (q : PL j l W fz [e, e'] [.int k, .str x]) (m : (d, dKd j.w R) ∈ W ++ (fz ++ j.tl)) (lo : (d == sysModules) = false) (ho : methOk b [e, e'] apos pos = true) :
    PV j l W fz (.Call (.Attribute b (PySem.Str.ofString "get") apos) [e, e'] [] pos) (.str (kindStr R k x)) := by
  intro c ok h g dr t o s QQ E K
  have hs : [e, e'].all notStar = true := by
    unfold methOk at ho
    simp only [Bool.and_eq_true] at ho
    exact ho.2.1
  rw [List.all_cons, Bool.and_eq_true] at hs
  refine MethodCall_ (p c ok h g dr t o s _ E fun u h' t' iu s' => ?_) (meth_of ho _ _)
  cases iu
  obtain ⟨o', ⟨kvs, hd, hk⟩, n1⟩ := St.has s' m
  refine get_meth hd (.head _) n1 ?_
  refine callWith_method1 (q c ok _ g dr _ o s' _ _ E fun us h'' t'' ius s'' => ?_) (star_of hs.1 _ _) (stars_none hs.2 _ _)
  cases ius with
  | cons i1 ius =>
  cases ius with
  | cons i2 ius =>
  cases ius
  obtain ⟨_, rfl⟩ := i1
  obtain ⟨o₂, ⟨kvs₂, hd₂, hk₂⟩, n₂⟩ := St.has s'' m
  unfold kindStr at K
  rcases hk₂.valueAt k with ⟨h1, h2⟩ | ⟨kd, t, h1, h2⟩
  · rw [h1] at K
    exact get_no n₂ (.head _) hd₂ lo h2 fun tk => K _ _ _ i2 s''
  · rw [h1] at K
    exact get_yes n₂ (.head _) hd₂ lo h2 fun tk => K _ _ _ ⟨_, rfl⟩ s''
theorem PV.itemK {d : Addr} {R : List SRow} {k : Nat} {kd : Kd} (p : PV j l W fz e (.ref d)) (q : PV j l W fz e' (.int k)) (m : (d, dKd j.w R) ∈ W ++ (fz ++ j.tl)) (hr : rowOf R k = some (k, kd)) (hs : notSlice e' = true) (hg : ∀ r, letTemporaryGo e (.ref d) r = pure ()) : PV j l W fz (.Subscript e e' pos) (.str kd.str) := by
  intro c ok h g dr t o s QQ E K
  refine Subscript_ (p c ok h g dr t o s _ E fun u h' t' iu s' => q c ok h' g dr t' o s' _ E fun u' h'' t'' iu' s'' => ?_)
  cases iu
  obtain ⟨_, rfl⟩ := iu'
  obtain ⟨o', ⟨kvs, hd, hk⟩, n1⟩ := St.has s'' m
  rcases hk.valueAt k with ⟨h1, h2⟩ | ⟨kd', t, h1, h2⟩
  · rw [h1] at hr; cases hr
  · rw [h1] at hr
    cases hr
    exact kitem n1 (.head _) hd h2 (fun tk => K _ _ _ ⟨_, rfl⟩ s'') (sub_of hs _ _) hg
end
theorem Pairs.updF {G : Led} {N : List (Addr × Obj)} (p : Pairs G N) : ∀ {i : Nat} {a : Addr} {D : Dsc}, G[i]? = some (a, D) → (∀ k q, G[k]? = some q → k ≠ i → q.1 ≠ a) →
    ∃ o g, D o ∧ (a, o) ∈ N ∧ UpdF a o N g ∧ ∀ (o' : Obj) (D' : Dsc), D' o' → Pairs (G.set i (a, D')) (g o') := by
  induction p with
  | nil => intro i a D e; cases i <;> cases e
  | @cons b E o G N d p ih =>
    intro i a D e hne
    cases i with
    | zero =>
      cases e
      refine ⟨o, _, d, .head _, .head fun q hq => ?_, fun o' D' d' => .cons d' p⟩
      have : q.1 ∈ G.map (·.1) := by rw [p.adr]; exact List.mem_map_of_mem hq
      obtain ⟨r, hr, e⟩ := List.mem_map.mp this
      obtain ⟨k, hk⟩ := List.getElem?_of_mem hr
      rw [← e]
      exact hne (k + 1) r hk (Nat.succ_ne_zero k)
    | succ i =>
      obtain ⟨o₁, g, d₁, m₁, u, r⟩ := ih e fun k q hk hn => hne (k + 1) q hk (fun e => hn (Nat.succ.inj e))
      exact ⟨o₁, _, d₁, .tail _ m₁, .tail (hne 0 _ rfl (Nat.succ_ne_zero i).symm) u, fun o' D' d' => .cons d (r o' D' d')⟩
theorem St.updF {c : Ctx} {tl : Led} {l : Loc} {W fz : Led} {h : Heap} (s : St c tl l W fz h) {i : Nat} {a : Addr} {D : Dsc} (e : W[i]? = some (a, D)) :
    ∃ m o N g, Fr c.h₀ c.L h m ∧ LocIs l m ∧ News c.h₀ c.L h N ∧ D o ∧ (a, o) ∈ N ∧ UpdF a o N g ∧ ∀ (o' : Obj) (D' : Dsc) (h' : Heap), D' o' → Fr c.h₀ c.L h' m → News c.h₀ c.L h' (g o') → St c tl l (W.set i (a, D')) fz h' := by
  obtain ⟨m, F, hm⟩ := s.F
  obtain ⟨N, P, n⟩ := s.N.pairs
  have hi : i < W.length := (List.getElem?_eq_some_iff.mp e).1
  obtain ⟨o, g, d, hmem, u, r⟩ := P.updF (by rw [List.getElem?_append_left hi]; exact e) (s.D.ne e)
  refine ⟨m, o, N, g, F, hm, n, d, hmem, u, fun o' D' h' d' F' n' => ⟨⟨m, F', hm⟩, ?_, s.D.set e, s.O⟩⟩
  have := (r o' D' d').news n'
  rwa [List.set_append_left _ _ hi] at this
section
variable {j : Jp} {l : Loc} {W fz : Led} {e e' e₂ b : PySem.Expr} {v : Vl} {pos apos : Pos} {rest : List Stmt}
theorem JX.setK {Q : Fl → Loc → Led → Led → Prop} {sp : Pos} {d : Addr} {R : List SRow} {k : Nat} {kd : Kd} {x : Str} (i : Nat) (p : PV j l W fz e (.str x)) (hx : x = kd.str) (q : PV j l W fz b (.ref d)) (r : PV j l W fz e' (.int k)) (hi : W[i]? = some (d, dKd j.w R)) (hz : R.length ≤ 1000) (hc : notComp e = true)
    (K : JX j l (W.set i (d, dKd j.w (setRow R k kd))) fz rest Q) : JX j l W fz (.Assign [.Subscript b e' sp] e pos :: rest) Q := by
  intro c ok h g dr t o s QQ E hE K'
  refine wpAny_execs_cons (wpAny_Assign_Subscript (p c ok h g dr t o s _ E fun u h' t' iu s' => ?_) (swaps_of hc _ _ _))
  refine q c ok h' g dr t' o s' _ E fun u' h'' t'' iu' s'' => ?_
  cases iu'
  refine r c ok h'' g dr t'' o s'' _ E fun u' h₃ t₃ iu' s₃ => ?_
  obtain ⟨_, rfl⟩ := iu'
  obtain ⟨_, rfl⟩ := iu
  obtain ⟨m, o', N, g', F', hm', n', ⟨kvs, hd, hk⟩, hmem, up, done⟩ := s₃.updF hi
  refine kset F' n' up hd (by rw [hk.length]; exact hz) fun h₄ o₄ tk F₄ n₄ hd₄ => ?_
  subst hx
  exact K c ok h₄ g dr _ o (done o₄ (dKd j.w (setRow R k kd)) h₄ ⟨_, hd₄, hk.stored k kd _⟩ F₄ n₄) QQ E hE K'
theorem JE.popK {Q : Vl → Led → Led → Prop} {d : Addr} {R : List SRow} {k : Nat} {kd : Kd} (i : Nat) (p : PV j l W fz b (.ref d)) (q : PV j l W fz e (.int k)) (hi : W[i]? = some (d, dKd j.w R)) (hr : rowOf R k = some (k, kd)) (hz : R.length ≤ 1000) (ho : methOk b [e] apos pos = true)
    (K : Q (.str kd.str) (W.set i (d, dKd j.w (R.filter fun r => decide (r.1 ≠ k)))) fz) : JE j l W fz (.Call (.Attribute b (PySem.Str.ofString "pop") apos) [e] [] pos) Q := by
  intro c ok h g dr t o s QQ E K'
  have hs : [e].all notStar = true := by
    unfold methOk at ho
    simp only [Bool.and_eq_true] at ho
    exact ho.2.1
  rw [List.all_cons, Bool.and_eq_true] at hs
  refine MethodCall_ (p c ok h g dr t o s _ E fun u h' t' iu s' => ?_) (meth_of ho _ _)
  cases iu
  have s0 := s'
  obtain ⟨m, o', N, g', F', hm', n', ⟨kvs, hd, hk⟩, hmem, up, done⟩ := s'.updF hi
  refine pop_meth hd hmem n' ?_
  refine callWith_method1 (args_cons (q c ok _ g dr _ o s0 _ E fun u h'' t'' iu s'' => args_nil ?_) (star_of hs.1 _ _)) (star_of hs.1 _ _) rfl
  obtain ⟨_, rfl⟩ := iu
  obtain ⟨m, o', N, g', F', hm', n', ⟨kvs, hd, hk⟩, hmem, up, done⟩ := s''.updF hi
  rcases hk.valueAt k with ⟨h1, h2⟩ | ⟨kd', t, h1, h2⟩
  · rw [h1] at hr; cases hr
  · rw [h1] at hr
    cases hr
    refine kpop F' n' up hd h2 (by rw [hk.length]; exact hz) fun h₄ o₄ tk F₄ n₄ hd₄ => ?_
    exact K' (.str kd.str) _ _ _ _ _ ⟨_, rfl⟩ (done o₄ (dKd j.w _) h₄ ⟨_, hd₄, hk.without k⟩ F₄ n₄) K
theorem allInts : ∀ {vs : List Value} {ns : List Int}, IntsAre vs ns → AllIs (ns.map Vl.int) vs
  | _, _, .nil => .nil
  | _, _, .cons _ _ h => .cons ⟨_, rfl⟩ (allInts h)
theorem ns_sorted (w : World) : nsIn (Mine.hk.heap_1 w.params) mainGlobals (PySem.Str.ofString "sorted") = some none := by rfl
theorem JE.sortedK {Q : Vl → Led → Led → Prop} {np : Pos} {d : Addr} {R : List SRow} (p : PV j l W fz e (.ref d)) (m : (d, dKd j.w R) ∈ W ++ (fz ++ j.tl)) (lo : (d == sysModules) = false) (hR : Rise R) (hz : R.length < 64) (hne : R ≠ [])
    (hx : nameG j (PySem.Str.ofString "sorted") = true) (hs : notStar e = true) (K : ∀ D, Q (.ref D) ((D, dLst (R.map fun r => Vl.int r.1)) :: W) fz) : JE j l W fz (.Call (.Name (PySem.Str.ofString "sorted") np) [e] [] pos) Q := by
  intro c ok h g dr t o s QQ E K'
  obtain ⟨m₀, F, _⟩ := s.F
  refine Call_ (nameX_B F ok.K (topRead_of ok.T) (ns_sorted _) (v := .builtin "sorted") (by boot_by_name) (by decide) ?_ ok.kd (nameG.kind hx).1 (by decide))
  refine callWith_builtin1 (args_cons (p c ok h g dr t o s _ E fun u h' t' iu s' => args_nil ?_) (star_of hs _ _)) (star_of hs _ _) rfl
  cases iu
  obtain ⟨m', F', hm'⟩ := s'.F
  obtain ⟨N, P, n⟩ := s'.N.pairs
  obtain ⟨o', ⟨kvs, hd, hk⟩, hmem⟩ := P.mem (memX m)
  refine sorted_own ok.hd F' n hmem hd lo hk hR hz hne fun D vs cc h'' tk F'' N'' off hI => ?_
  have nD := N'' _ (.head _)
  have hoff : ∀ p ∈ W ++ (fz ++ (j.tl ++ c.X)), D ≠ p.1 := P.off fun q hq => Nat.ne_of_lt (off q hq)
  refine K' (.ref D) _ _ _ _ _ rfl ⟨⟨m', F'', hm'⟩, fun p hp => ?_, s'.D.cons hoff, s'.O⟩ (K D)
  rcases List.mem_cons.mp hp with rfl | hp
  · exact ⟨_, ⟨vs, cc, rfl, by have := allInts hI; rwa [List.map_map] at this⟩, nD⟩
  · exact P.news (fun q hq => N'' q (.tail _ hq)) p hp
end
end Mine
end
section
open PySem PySem.W PyProof.Rows PySem.Calls PyProof.V
set_option maxRecDepth 100000
set_option Elab.async false
namespace Mine
/-- a def's code, however it is called -/
def JCo (w : World) (d u : Nat) (tl W fz : Led) (f : Addr) (vs : List Vl) (Q : Vl → Led → Led → Prop) : Prop :=
  ∀ (I : Fn) (l : Loc) (c : Ctx), c.Ok ⟨w, d, u, I, tl⟩ → ∀ h g dr t o, St c tl l W fz h → ∀ us, AllIs vs us → ∀ R : Result → Shared → Prop, (∀ v u W' fz' h' t', v.is u → St c tl l W' fz' h' → Q v W' fz' → R (.ok (.ret u)) ⟨h', g, dr, t', o⟩) →
    codeAny (model pg w) c.A (.call (.ref f) ⟨us, []⟩) R ⟨h, g, dr, t, o⟩
theorem JCo.enter {w : World} {d u : Nat} {tl W fz : Led} {f : Addr} {vs : List Vl} {Q : Vl → Led → Led → Prop} {name qual : Str} {params : Arguments} {body : List Stmt} {scope : Scope} {dV kV doc pm cdv ct oc : Value} {an od : Option Addr} {osl : Array (Option Value)} {l0 : Loc}
    (ho : (Mine.hk.heap_1 w.params).lookup f = some ⟨oc, od, .func (fnOf name qual params body scope dV kV doc pm an cdv ct), osl⟩) (hcd : codeIn (Mine.hk.heap_1 w.params) cdv qual = true) (hd : Nat.blt d recursionLimit = true)
    (hb : ∀ us, AllIs vs us → ∃ bs, (∀ s : Shared, (Mine.hk.heap_1 w.params).In s.heap → BindsTo s (fnOf name qual params body scope dV kV doc pm an cdv ct) ⟨us, []⟩ bs) ∧ LsIs l0 bs.reverse ∧ ∀ y ∈ bs, scope.names.lookup y.1 = some .local)
    (hco : scope.isCoroutine = false) (hgen : scope.isGenerator = false) (hk : scope.kind = .function) (hcell : scope.names.all (fun x => x.2 != .cell) = true)
    (H : JX ⟨w, d + 1, u + 3, ⟨qual, scope, f, cdv, fun _ => []⟩, tl⟩ l0 W fz body (retQ Q)) : JCo w d u tl W fz f vs Q := by
  intro I l c ok h g dr t o s us a R K
  obtain ⟨bs, hB, hl, hloc⟩ := hb us a
  obtain ⟨m, F, hm⟩ := s.F
  obtain ⟨N, P, n⟩ := s.N.pairs
  have hdp : c.A.depth < recursionLimit := Nat.lt_of_le_of_lt ok.dp (by simpa [Nat.blt_eq] using hd)
  refine (code_def ok.B F ok.K n ok.T ok.fr rfl ok.kd ho hcd hdp (hB _ (ok.K.keeps F.keep)) hloc (fun G L' h₁ FG F' N' B' X' T' => ?_) hco hgen hk (fun x hx => by have := List.all_eq_true.mp hcell x hx; simpa [bne] using this))
  refine H ⟨c.A.deeper (envOf qual scope L' f cdv), c.A, c.base, G, I.env c.L :: c.outer, L', c.mg, c.mb, c.p, c.loose, c.mean, c.X⟩
    ⟨B', X', T', Around.frames_deeper ok.fr, ok.hd, hk, Nat.add_le_add_right ok.dp 1, Nat.add_le_add_right ok.un 3⟩ _ _ _ _ _ ⟨⟨_, F', hl.loc⟩, P.news N', s.D, s.O⟩ _ _ PassesOwn.leaving fun fl f' l' W' fz' h' t' hf s' q => ?_
  obtain ⟨m', F'', hm'⟩ := s'.F
  obtain ⟨N'', P', n'⟩ := s'.N.pairs
  refine leaveK_ F'' n' fun Fb Nb => ?_
  have back : St c tl l W' fz' h' := ⟨⟨m, Fb, hm⟩, P'.news Nb, s'.D, s'.O⟩
  cases fl with
  | ret v => obtain ⟨x, rfl, ix⟩ := hf; exact K v x W' fz' h' t' ix back q
  | next => cases hf; exact K .none _ W' fz' h' t' rfl back q
  | brk => cases hf; exact K .none _ W' fz' h' t' rfl back q
  | cont => cases hf; exact K .none _ W' fz' h' t' rfl back q
theorem dDct.nil0 {w : World} : dDct w [] (dictOf [] 0) := ⟨[], 0, rfl, .nil⟩
theorem JC.cls {w : World} {d u : Nat} {tl W fz : Led} {C fI : Addr} {vs : List Vl} {Q : Vl → Led → Led → Prop} (hm : makesIn (Mine.hk.heap_1 w.params) C = true) (hi : findIn (Mine.hk.heap_1 w.params) (.ref C) "__init__" = some (some (.ref fI))) (hf : isFn (Mine.hk.heap_1 w.params) (.ref fI) = true)
    (H : ∀ x dx, JCo w (d + 1) (u + 1) tl ((dx, dDct w []) :: W) ((x, dInst C dx) :: fz) fI (.ref x :: vs) (fun v W' fz' => v = .none ∧ Q (.ref x) W' fz')) : JC w d u tl W fz C vs Q := by
  intro I l c ok h g dr t o s us a QQ E K
  obtain ⟨m, F, hm'⟩ := s.F
  obtain ⟨N, P, n⟩ := s.N.pairs
  refine call_cls F ok.K n hm hi hf fun x dx h' F' N' l1 l2 => ?_
  obtain ⟨A', hA', e1, e2, e3, e4⟩ : ∃ A', c.A.under (.builtin "type.__call__" ⟨.ref C :: us, []⟩) = A' ∧ A'.frames = c.A.frames ∧ A'.handled = c.A.handled ∧ A'.depth = c.A.depth + 1 ∧ A'.units = c.A.units + 1 := by
    refine ⟨_, rfl, ?_, rfl, rfl, rfl⟩
    show pushEnvs [] c.A.frames = c.A.frames
    rw [ok.fr]; rfl
  rw [hA']
  have off1 : ∀ p ∈ W ++ (fz ++ (tl ++ c.X)), dx ≠ p.1 := P.off fun q hq => Nat.ne_of_lt (l1 q hq)
  have off2 : ∀ p ∈ W ++ (fz ++ (tl ++ c.X)), x ≠ p.1 := P.off fun q hq => Nat.ne_of_lt (Nat.lt_trans (l1 q hq) l2)
  have s' : St { c with A := A' } tl l ((dx, dDct w []) :: W) ((x, dInst C dx) :: fz) h' := by
    refine ⟨⟨m, F', hm'⟩, fun p hp => ?_, (s.D.froz fun p hp => off2 p (List.mem_append_left _ hp)).cons fun p hp => ?_, fun p hp q hq => ?_⟩
    · rcases List.mem_cons.mp hp with rfl | hp
      · exact ⟨_, dDct.nil0, N' _ (.tail _ (.head _))⟩
      · rcases List.mem_append.mp hp with hp | hp
        · exact P.news (fun q hq => N' q (.tail _ (.tail _ hq))) p (List.mem_append_left _ hp)
        · rcases List.mem_cons.mp hp with rfl | hp
          · exact ⟨_, rfl, N' _ (.head _)⟩
          · exact P.news (fun q hq => N' q (.tail _ (.tail _ hq))) p (List.mem_append_right _ hp)
    · rcases List.mem_append.mp hp with hp | hp
      · exact off1 p (List.mem_append_left _ hp)
      · rcases List.mem_cons.mp hp with rfl | hp
        · exact Nat.ne_of_lt l2
        · exact off1 p (List.mem_append_right _ hp)
    · rcases List.mem_cons.mp hp with rfl | hp
      · exact off2 q (List.mem_append_right _ (List.mem_append_right _ hq))
      · exact s.O p hp q hq
  refine H x dx I l { c with A := A' } ⟨ok.B, ok.K, ok.T, e1.trans ok.fr, e2.trans ok.hd, ok.kd, by show A'.depth ≤ d + 1; rw [e3]; exact Nat.add_le_add_right ok.dp 1, by show A'.units ≤ u + 1; rw [e4]; exact Nat.add_le_add_right ok.un 1⟩ h' g dr t o s' (.ref x :: us) (.cons rfl a) _ fun v u W' fz' h'' t' iu s'' q => ?_
  obtain ⟨rfl, q⟩ := q
  cases iu
  exact ⟨rfl, K (.ref x) _ W' fz' h'' t' rfl ⟨s''.F, s''.N, s''.D, s''.O⟩ q⟩
end Mine
end
section
open PySem PySem.W PyProof.Rows PySem.Calls PyProof.V
set_option maxRecDepth 100000
set_option Elab.async false
namespace Mine
open PyProof.Rows.LCg
/- comprehensions: their own objects (iterator, names, growing list) lie among the hidden ones -/
def Ctx.ext (c : Ctx) (G : List (Addr × Obj)) : Ctx := { c with X := G.map (fun p => (p.1, (· = p.2))) ++ c.X }
theorem Ctx.Ok.ext {c : Ctx} {j : Jp} (h : c.Ok j) (G : List (Addr × Obj)) : (c.ext G).Ok j := ⟨h.B, h.K, h.T, h.fr, h.hd, h.kd, h.dp, h.un⟩
structure Cs (c : Ctx) (tl : Led) (l : Loc) (W fz : Led) (h : Heap) (G : List (Addr × Obj)) : Prop where
  s : St c tl l W fz h
  n : News c.h₀ c.L h G
  o : ∀ g ∈ G, ∀ q ∈ W ++ (fz ++ (tl ++ c.X)), g.1 ≠ q.1
section
variable {c : Ctx} {tl : Led} {l : Loc} {W fz : Led} {h h' : Heap} {G G' : List (Addr × Obj)}
theorem extMem {W fz tl Y X : Led} {p : Addr × Dsc} : p ∈ W ++ (fz ++ (tl ++ (Y ++ X))) ↔ p ∈ Y ∨ p ∈ W ++ (fz ++ (tl ++ X)) := by
  simp only [List.mem_append]
  constructor
  · rintro (h | h | h | h | h)
    · exact .inr (.inl h)
    · exact .inr (.inr (.inl h))
    · exact .inr (.inr (.inr (.inl h)))
    · exact .inl h
    · exact .inr (.inr (.inr (.inr h)))
  · rintro (h | h | h | h | h)
    · exact .inr (.inr (.inr (.inl h)))
    · exact .inl h
    · exact .inr (.inl h)
    · exact .inr (.inr (.inl h))
    · exact .inr (.inr (.inr (.inr h)))
theorem ext_mem {p : Addr × Dsc} (h : p ∈ G.map (fun p => ((p.1, (· = p.2)) : Addr × Dsc))) : ∃ g ∈ G, p = (g.1, (· = g.2)) := by
  obtain ⟨g, hg, e⟩ := List.mem_map.mp h
  exact ⟨g, hg, e.symm⟩
theorem Cs.hid (x : Cs c tl l W fz h G) : St (c.ext G) tl l W fz h := by
  refine ⟨x.s.F, fun p hp => ?_, ⟨x.s.D.1, fun p hp q hq => ?_⟩, fun p hp q hq => ?_⟩
  · rcases extMem.mp hp with hp | hp
    · obtain ⟨g, hg, rfl⟩ := ext_mem hp
      exact ⟨g.2, rfl, x.n g hg⟩
    · exact x.s.N p hp
  · rcases extMem (W := []).mp hq with hq | hq
    · obtain ⟨g, hg, rfl⟩ := ext_mem hq
      exact (x.o g hg p (List.mem_append_left _ hp)).symm
    · exact x.s.D.2 p hp q hq
  · rcases extMem (W := []) (fz := []).mp hq with hq | hq
    · obtain ⟨g, hg, rfl⟩ := ext_mem hq
      exact (x.o g hg p (List.mem_append_right _ (List.mem_append_left _ hp))).symm
    · exact x.s.O p hp q hq
theorem Cs.of (s : St (c.ext G) tl l W fz h) (ho : ∀ g ∈ G, ∀ q ∈ tl ++ c.X, g.1 ≠ q.1) : Cs c tl l W fz h G := by
  have hm : ∀ g ∈ G, (g.1, (· = g.2)) ∈ (c.ext G).X := fun g hg => List.mem_append_left _ (List.mem_map.mpr ⟨g, hg, rfl⟩)
  refine ⟨⟨s.F, s.N.mono fun p hp => extMem.mpr (.inr hp), ⟨s.D.1, fun p hp q hq => s.D.2 p hp q (extMem (W := []).mpr (.inr hq))⟩, fun p hp q hq => s.O p hp q (extMem (W := []) (fz := []).mpr (.inr hq))⟩, fun g hg => ?_, fun g hg q hq => ?_⟩
  · obtain ⟨o, ho, hx⟩ := s.N _ (List.mem_append_right W (List.mem_append_right fz (List.mem_append_right tl (hm g hg))))
    have ho' : o = g.2 := ho
    exact ho' ▸ hx
  · rcases List.mem_append.mp hq with hq | hq
    · exact (s.D.2 q hq _ (List.mem_append_right _ (List.mem_append_right _ (hm g hg)))).symm
    · rcases List.mem_append.mp hq with hq | hq
      · exact (s.O q hq _ (List.mem_append_right _ (hm g hg))).symm
      · exact ho g hg q hq
theorem Cs.offT (x : Cs c tl l W fz h G) : ∀ g ∈ G, ∀ q ∈ tl ++ c.X, g.1 ≠ q.1 := fun g hg q hq => x.o g hg q (List.mem_append_right _ (List.mem_append_right _ hq))
/-- one of the comprehension's own objects has changed -/
theorem Cs.chg (x : Cs c tl l W fz h G) {a : Addr} {o₀ : Obj} (ha : (a, o₀) ∈ G) (hk : ∀ b o, b ≠ a → h.get? b = some o → h'.get? b = some o) (n' : News c.h₀ c.L h' G') (e : ∀ g ∈ G', ∃ o, (g.1, o) ∈ G) : Cs c tl l W fz h' G' := by
  obtain ⟨m, F, hm⟩ := x.s.F
  have na := x.n _ ha
  refine ⟨⟨⟨m, ⟨F.ns.at' fun o e => hk c.L o (fun q => na.2.1 q.symm) e, fun b o e => hk b o (fun q => by rw [q, na.2.2] at e; cases e) (F.keep b o e), F.above⟩, hm⟩, fun p hp => ?_, x.s.D, x.s.O⟩, n', fun g hg q hq => ?_⟩
  · obtain ⟨o, h1, h2, h3⟩ := x.s.N p hp
    exact ⟨o, h1, hk _ _ (x.o _ ha p hp).symm h2, h3⟩
  · obtain ⟨o, ho⟩ := e g hg
    exact x.o (g.1, o) ho q hq
theorem Cs.grow (x : Cs c tl l W fz h G) (hk : ∀ b o, h.get? b = some o → h'.get? b = some o) : Cs c tl l W fz h' G := by
  obtain ⟨m, F, hm⟩ := x.s.F
  exact ⟨⟨⟨m, F.keeps hk, hm⟩, fun p hp => by obtain ⟨o, h1, h2, h3⟩ := x.s.N p hp; exact ⟨o, h1, hk _ _ h2, h3⟩, x.s.D, x.s.O⟩, x.n.grown hk, x.o⟩
theorem Cs.own {a : Addr} {o : Obj} {D : Dsc} (x : Cs c tl l W fz h [(a, o)]) (d : D o) : St c tl l ((a, D) :: W) fz h :=
  ⟨x.s.F, fun p hp => by
    rcases List.mem_cons.mp hp with rfl | hp
    · exact ⟨o, d, x.n _ (.head _)⟩
    · exact x.s.N p hp, x.s.D.cons fun p hp => x.o _ (.head _) p hp, x.s.O⟩
end
/-- in a comprehension's turn: an expression's value -/
def JEc (j : Jp) (S : Scope) (cl : List (Str × Addr)) (lc : Loc) (W fz : Led) (e : PySem.Expr) (Q : Vl → Led → Led → Prop) : Prop :=
  ∀ c : Ctx, c.Ok j → ∀ C oC m₂, (C, (· = oC)) ∈ c.X → NsObj oC m₂ → LocIs lc m₂ → ∀ h g dr t o l, St c j.tl l W fz h → ∀ QQ E : Value → Shared → Prop, (∀ v u W' fz' h' t', v.is u → St c j.tl l W' fz' h' → Q v W' fz' → QQ u ⟨h', g, dr, t', o⟩) →
    wpAny (model pg j.w) c.A (eval e (compEnvC S cl C (j.I.env c.L))) QQ E ⟨h, g, dr, t, o⟩
def JLc (j : Jp) (S : Scope) (cl : List (Str × Addr)) (lc : Loc) (W fz : Led) (es : List PySem.Expr) (Q : List Vl → Led → Led → Prop) : Prop :=
  ∀ c : Ctx, c.Ok j → ∀ C oC m₂, (C, (· = oC)) ∈ c.X → NsObj oC m₂ → LocIs lc m₂ → ∀ h g dr t o l, St c j.tl l W fz h → ∀ (pos : Pos) (QQ : List Value → Shared → Prop) (E : Value → Shared → Prop), (∀ vs us W' fz' h' t', AllIs vs us → St c j.tl l W' fz' h' → Q vs W' fz' → QQ us ⟨h', g, dr, t', o⟩) →
    wpAny (model pg j.w) c.A (spliced (backTo pos (starEach es (compEnvC S cl C (j.I.env c.L))))) QQ E ⟨h, g, dr, t, o⟩
/-- a comprehension's tests -/
def JTs (j : Jp) (S : Scope) (cl : List (Str × Addr)) (lc : Loc) (W fz : Led) (ifs : List PySem.Expr) (Q : Bool → Led → Led → Prop) : Prop :=
  ∀ c : Ctx, c.Ok j → ∀ C oC m₂, (C, (· = oC)) ∈ c.X → NsObj oC m₂ → LocIs lc m₂ → ∀ h g dr t o l, St c j.tl l W fz h → ∀ (QQ : Bool → Shared → Prop) (E : Value → Shared → Prop), (∀ b W' fz' h' t', St c j.tl l W' fz' h' → Q b W' fz' → QQ b ⟨h', g, dr, t', o⟩) →
    wpAny (model pg j.w) c.A (forIn ifs true fun ct r => if r = true then do let ok ← PySem.isTrue ct (compEnvC S cl C (j.I.env c.L)) (eval ct (compEnvC S cl C (j.I.env c.L))); pure (ForInStep.yield ok) else pure (ForInStep.yield r)) QQ E ⟨h, g, dr, t, o⟩
/-- a comprehension's target is given a value -/
def Tg (j : Jp) (S : Scope) (cl : List (Str × Addr)) (target : PySem.Expr) (v : Vl) (lc : Loc) (W fz : Led) : Prop :=
  ∀ c : Ctx, c.Ok j → ∀ l C oC m₂ G h g dr t o, Cs c j.tl l W fz h ((C, oC) :: G) → (∀ p ∈ G, C ≠ p.1) → NsObj oC m₂ → ∀ u, v.is u → ∀ (QQ : Unit → Shared → Prop) (E : Value → Shared → Prop),
    (∀ h' tk oC' m', Cs c j.tl l W fz h' ((C, oC') :: G) → NsObj oC' m' → LocIs lc m' → (∀ b o, b ≠ C → h.get? b = some o → h'.get? b = some o) → QQ () ⟨h', g, dr, tk, o⟩) →
    wpAny (model pg j.w) c.A (assign target (compEnvC S cl C (j.I.env c.L)) u) QQ E ⟨h, g, dr, t, o⟩
theorem compLoop_all {prog : Program} {w : World} {A : Around} {elt target iter : PySem.Expr} {ifs : List PySem.Expr} {scope : Scope} {pos : Pos} {it acc : Value} {env : Env} {R : Result → Shared → Prop} {s : Shared} (I : Nat → Shared → Prop)
    (turn : ∀ n s, I n s → wpAny (model prog w) A (pyNext it) (fun r s₁ => match r with
      | none => R (.ok .next) s₁
      | some v => wpAny (model prog w) A (letOwnedTupleGo target it v) (fun _ s₁' => wpAny (model prog w) A (assign target env v) (fun _ s₂ =>
          wpAny (model prog w) A (forIn ifs true fun c r => if r = true then do let ok ← PySem.isTrue c env (eval c env); pure (ForInStep.yield ok) else pure (ForInStep.yield r)) (fun ok s₃ =>
            if ok = true then wpAny (model prog w) A (eval elt env) (fun x s₄ =>
              wpAny (model prog w) A (call (.builtin "list.append") [acc, x]) (fun _ s₅ => ∃ m, m < n ∧ I m s₅) (notedBy (model prog w) A env fun e s' => R (.error e) s') s₄) (notedBy (model prog w) A env fun e s' => R (.error e) s') s₃
            else ∃ m, m < n ∧ I m s₃) (notedBy (model prog w) A env fun e s' => R (.error e) s') s₂) (notedBy (model prog w) A env fun e s' => R (.error e) s') s₁') (notedBy (model prog w) A env fun e s' => R (.error e) s') s₁) (notedBy (model prog w) A env fun e s' => R (.error e) s') s)
    (n : Nat) (h : I n s) : codeAny (model prog w) A (.compLoop (.ListComp elt [⟨target, iter, ifs, 0⟩] scope pos) 0 it acc env) R s := by
  refine codeAny_loop rfl I (fun n s hI => ?_) n h
  show wpAny _ A ((compTurn (.ListComp elt [⟨target, iter, ifs, 0⟩] scope pos) 0 it acc env).onRaise (fun x => do noteFrame x env; theTreesLotGoes x)) _ _ s
  refine wpAny_noted ?_
  rw [compTurn_list]
  refine wpAny_bind (wpAny_standAt (wpAny_bind (wpAny_mono (turn n s hI) (fun r s₁ h₁ => ?_) fun _ _ h' => h')))
  cases r with
  | none => exact wpAny_pure h₁
  | some v =>
    refine wpAny_bind (wpAny_mono h₁ (fun _ s₁' h₁' => ?_) fun _ _ h' => h')
    refine wpAny_bind (wpAny_mono h₁' (fun _ s₂ h₂ => wpAny_bind (wpAny_mono h₂ (fun ok s₃ h₃ => ?_) fun _ _ h' => h')) fun _ _ h' => h')
    cases ok with
    | false => exact wpAny_pure ⟨rfl, h₃⟩
    | true => exact wpAny_bind (wpAny_bind (wpAny_mono h₃ (fun x s₄ h₄ => wpAny_bind (wpAny_mono h₄ (fun _ s₅ h₅ => wpAny_pure (wpAny_pure ⟨rfl, h₅⟩)) fun _ _ h' => h')) fun _ _ h' => h'))
/-- one turn: the target, the tests, the element -/
def CTurn (j : Jp) (S : Scope) (cl : List (Str × Addr)) (target elt : PySem.Expr) (ifs : List PySem.Expr) (v : Vl) (ys : List Vl) (I' : List Vl → Led → Led → Prop) (W fz : Led) : Prop :=
  ∃ lc, Tg j S cl target v lc W fz ∧ JTs j S cl lc W fz ifs (fun b W' fz' => if b = true then JEc j S cl lc W' fz' elt (fun y W₂ fz₂ => I' (ys ++ [y]) W₂ fz₂) else I' ys W' fz')
theorem comp_core {j : Jp} {c : Ctx} (ok : c.Ok j) {target elt iter : PySem.Expr} {ifs : List PySem.Expr} {scope : Scope} {cl : List (Str × Addr)} {pos : Pos} {I : Addr} {oI : Obj} {fp : List Addr} {n : Nat} {p : Nat → Vl → Prop} {P : Nat → Value → Prop} {Stt : Nat → Heap → Prop} {l : Loc} {W fz : Led}
    {h : Heap} {g : Array GenState} {dr : Drawn} {t : Nat} {o : OsState} {RR : Value → Addr → Result → Shared → Prop} {E : Value → Shared → Prop}
    (Wk : Walks pg j.w c.A I fp [I] n P Stt) (hP : ∀ i u, P i u → ∃ v, p i v ∧ v.is u) (hsz : n ≤ 1000000) (hIo : ∀ i h, Stt i h → ∃ o, h.get? I = some o)
    (hSt : ∀ i h h' o, Stt i h → h.get? I = some o → h'.get? I = some o → NewsD c.h₀ c.L h' c.X → Stt i h')
    (hgo : ∀ (i : Nat) (s : Shared) (v : Vl) (u : Value) (Q : Unit → Shared → Prop) (E : Value → Shared → Prop), Stt i s.heap → p (i - 1) v → v.is u → Q () s → wpAny (model pg j.w) c.A (letOwnedTupleGo target (.ref I) u) Q E s)
    (hcell : ∀ y ∈ scope.names, y.2 ≠ .cell) (hkind : scope.kind = .function)
    (s : Cs c j.tl l W fz h [(I, oI)]) (hst : Stt 0 h) (hfp : ∀ b ∈ fp, b < h.objs.size) (Inv : Nat → List Vl → Led → Led → Prop) (h0 : Inv 0 [] W fz)
    (turn : ∀ i v ys W' fz', i < n → p i v → Inv i ys W' fz' → CTurn j scope cl target elt ifs v ys (Inv (i + 1)) W' fz')
    (hRR : ∀ D C oC m' h' tk us ys W' fz', AllIs ys us → NsObj oC m' → Cs c j.tl l W' fz' h' [(D, lst us), (C, oC)] → C ≠ D → Inv n ys W' fz' → RR (.ref D) C (.ok .next) ⟨h', g, dr, tk, o⟩) :
    wpAny (model pg j.w) c.A (newList []) (fun acc s₃ => wpAny (model pg j.w) c.A (newFunctionEnv scope (j.I.env c.L).globals cl [] (j.I.env c.L).qual none .none (some (j.I.env c.L))) (fun cenv s₄ =>
      codeAny (model pg j.w) c.A (.compStart (.ListComp elt [⟨target, iter, ifs, 0⟩] scope pos) 0 (.ref I) acc { cenv with scope := relabel scope (j.I.env c.L) }) (RR acc cenv.locals) s₄) E s₃) E ⟨h, g, dr, t, o⟩ := by
  refine wpAny_newObj_type (wpAny_newFunctionEnv hcell (by intro y hy; simp at hy) (fun h₁ hns₁ hsb₁ => ?_) hkind)
  dsimp only at hns₁ hsb₁ ⊢
  generalize hH2 : h.push { cls := .type "list", dict := none, data := .seq ([] : List Value).toArray } = H2 at hns₁ hsb₁ ⊢
  have hC : H2.objs.size = h.objs.size + 1 := by rw [← hH2, Heap.size_push]
  have hDC : h.objs.size ≠ H2.objs.size := by rw [hC]; exact Nat.ne_of_lt (Nat.lt_succ_self _)
  have below : ∀ b, b < h.objs.size → b ≠ H2.objs.size ∧ b ≠ h.objs.size := fun b hb => ⟨by rw [hC]; exact Nat.ne_of_lt (Nat.lt_succ_of_lt hb), Nat.ne_of_lt hb⟩
  have old : ∀ b o, h.get? b = some o → h₁.get? b = some o := fun b o e => hsb₁.extBut b o (below b (Heap.lt_size e)).1 (Heap.get?_push_of_some _ (hH2 ▸ Heap.get?_push_of_some _ e))
  have hacc : h₁.get? h.objs.size = some (lst []) := hsb₁.extBut _ _ hDC (Heap.get?_push_of_some _ (hH2 ▸ Heap.get?_push_size _ rfl))
  have hIf : I ∈ fp := Wk.sub I (List.mem_singleton.mpr rfl)
  have hIlt : I < h.objs.size := hfp I hIf
  have hCI : I ≠ H2.objs.size := (below I hIlt).1
  have hDI : I ≠ h.objs.size := (below I hIlt).2
  have hCf : H2.objs.size ∉ fp := fun hm => (below _ (hfp _ hm)).1 rfl
  have hDf : h.objs.size ∉ fp := fun hm => (below _ (hfp _ hm)).2 rfl
  have hst₁ : Stt 0 h₁ := Wk.frame _ _ _ hst fun b _ o e => old b o e
  have htl := s.offT
  have s₁ := s.grow old
  obtain ⟨m₀, F₀, _⟩ := s.s.F
  have hLlt : c.L < h.objs.size := F₀.ns.lt
  have fresh : ∀ a, h.objs.size ≤ a → c.h₀.get? a = none := fun a ha => Heap.get?_none_of_le (Nat.le_trans (Nat.le_of_lt (Nat.lt_of_le_of_lt F₀.above hLlt)) ha)
  obtain ⟨oC₁, heC₁, hoC₁⟩ := ns_obj hns₁
  have offNew : ∀ q ∈ W ++ (fz ++ (j.tl ++ c.X)), h.objs.size ≠ q.1 ∧ H2.objs.size ≠ q.1 := fun q hq => by
    obtain ⟨oq, _, hq2, _⟩ := s.s.N q hq
    exact ⟨(below _ (Heap.lt_size hq2)).2.symm, (below _ (Heap.lt_size hq2)).1.symm⟩
  have G₁ : Cs c j.tl l W fz h₁ [(H2.objs.size, oC₁), (I, oI), (h.objs.size, lst [])] := by
    refine ⟨s₁.s, fun q hq => ?_, fun q hq r hr => ?_⟩
    · rcases List.mem_cons.mp hq with rfl | hq
      · exact ⟨heC₁, Ne.symm (below c.L hLlt).1, fresh _ (by rw [hC]; exact Nat.le_succ _)⟩
      · rcases List.mem_cons.mp hq with rfl | hq
        · exact s₁.n _ (.head _)
        · rw [List.mem_singleton.mp hq]
          exact ⟨hacc, Ne.symm (below c.L hLlt).2, fresh _ (Nat.le_refl _)⟩
    · rcases List.mem_cons.mp hq with rfl | hq
      · exact (offNew r hr).2
      · rcases List.mem_cons.mp hq with rfl | hq
        · exact s₁.o _ (.head _) r hr
        · rw [List.mem_singleton.mp hq]
          exact (offNew r hr).1
  have loop : ∀ s₃ : Shared, s₃ = ⟨h₁, g, dr, t + ([] : List (Str × Value)).length, o⟩ →
      codeAny (model pg j.w) c.A (.compLoop (.ListComp elt [⟨target, iter, ifs, 0⟩] scope pos) 0 (.ref I) (.ref h.objs.size) (compEnvC scope cl H2.objs.size (j.I.env c.L))) (RR (.ref h.objs.size) H2.objs.size) s₃ := by
    rintro s₃ rfl
    refine compLoop_all
      (fun k s' => ∃ h' tk i ys us m' W' fz' oI oC, s' = ⟨h', g, dr, tk, o⟩ ∧ i ≤ n ∧ k = n + 1 - i ∧ ys.length ≤ i ∧ AllIs ys us ∧ Stt i h' ∧ Cs c j.tl l W' fz' h' [(H2.objs.size, oC), (I, oI), (h.objs.size, lst us)] ∧ NsObj oC m' ∧ Inv i ys W' fz') ?_ (n + 1)
      ⟨h₁, _, 0, [], [], _, W, fz, oI, oC₁, rfl, Nat.zero_le _, rfl, Nat.le_refl _, .nil, hst₁, G₁, hoC₁, h0⟩
    rintro k s' ⟨h', tk, i, ys, us, m', W', fz', oI', oC', rfl, hi, rfl, hyl, hyu, hst', G', hoC', inv⟩
    by_cases hlt : i < n
    · refine Wk.item i _ _ _ hlt hst' fun u h₂ tk₂ hPu hst₂ hk₂ => ?_
      obtain ⟨v, hpv, iv⟩ := hP i u hPu
      obtain ⟨oI₂, heI₂⟩ := hIo _ _ hst₂
      have nI := G'.n _ (.tail _ (.head _))
      have kk₂ : ∀ b o, b ≠ I → h'.get? b = some o → h₂.get? b = some o := fun b o hb e => hk₂ b o (by simpa using hb) e
      have G₂ : Cs c j.tl l W' fz' h₂ [(H2.objs.size, oC'), (I, oI₂), (h.objs.size, lst us)] := G'.chg (.tail _ (.head _)) kk₂ (fun q hq => by
        rcases List.mem_cons.mp hq with rfl | hq
        · have z := G'.n _ (.head _)
          exact ⟨kk₂ _ _ (Ne.symm hCI) z.1, z.2⟩
        · rcases List.mem_cons.mp hq with rfl | hq
          · exact ⟨heI₂, nI.2⟩
          · rw [List.mem_singleton.mp hq]
            have z := G'.n _ (.tail _ (.tail _ (.head _)))
            exact ⟨kk₂ _ _ (Ne.symm hDI) z.1, z.2⟩) (fun q hq => by
        rcases List.mem_cons.mp hq with rfl | hq
        · exact ⟨_, .head _⟩
        · rcases List.mem_cons.mp hq with rfl | hq
          · exact ⟨_, .tail _ (.head _)⟩
          · rw [List.mem_singleton.mp hq]; exact ⟨_, .tail _ (.tail _ (.head _))⟩)
      obtain ⟨lc, hT, hE⟩ := turn i v ys W' fz' hlt hpv inv
      refine hgo (i + 1) _ v u _ _ hst₂ hpv iv ?_
      refine hT c ok l _ oC' m' _ h₂ g dr _ o G₂ (fun q hq => ?_) hoC' u iv _ _ fun h₃ tk₃ oC₃ m₃ G₃ ho₃ hl₃ hk₃ => ?_
      · rcases List.mem_cons.mp hq with rfl | hq
        · exact Ne.symm hCI
        · rw [List.mem_singleton.mp hq]; exact Ne.symm hDC
      have hst₃ : Stt (i + 1) h₃ := Wk.frame _ _ _ hst₂ fun b hb o e => hk₃ b o (fun q => hCf (q ▸ hb)) e
      have ok3 := ok.ext [(H2.objs.size, oC₃), (I, oI₂), (h.objs.size, lst us)]
      have htl3 := G₃.offT
      have back : ∀ W₄ fz₄ h₄, St (c.ext [(H2.objs.size, oC₃), (I, oI₂), (h.objs.size, lst us)]) j.tl l W₄ fz₄ h₄ → Cs c j.tl l W₄ fz₄ h₄ [(H2.objs.size, oC₃), (I, oI₂), (h.objs.size, lst us)] ∧ Stt (i + 1) h₄ := fun W₄ fz₄ h₄ s₄ => by
        have G₄ := Cs.of s₄ htl3
        exact ⟨G₄, hSt _ _ _ _ hst₃ (G₃.n _ (.tail _ (.head _))).1 (G₄.n _ (.tail _ (.head _))).1 (G₄.s.N.mono fun q hq => List.mem_append_right _ (List.mem_append_right _ (List.mem_append_right _ hq)))⟩
      refine hE _ ok3 _ oC₃ m₃ (.head _) ho₃ hl₃ h₃ g dr _ o l G₃.hid _ _ fun b W₄ fz₄ h₄ t₄ s₄ q => ?_
      cases b with
      | false =>
        rw [if_neg (by decide)] at q ⊢
        obtain ⟨G₄, hst₄⟩ := back _ _ _ s₄
        exact ⟨n + 1 - (i + 1), by omega, h₄, t₄, i + 1, ys, us, m₃, W₄, fz₄, oI₂, oC₃, rfl, hlt, rfl, Nat.le_succ_of_le hyl, hyu, hst₄, G₄, ho₃, q⟩
      | true =>
        rw [if_pos rfl] at q ⊢
        refine q _ ok3 _ oC₃ m₃ (.head _) ho₃ hl₃ h₄ g dr _ o l s₄ _ _ fun y uy W₅ fz₅ h₅ t₅ iy s₅ q₅ => ?_
        obtain ⟨G₅, hst₅⟩ := back _ _ _ s₅
        have zD := G₅.n _ (.tail _ (.tail _ (.head _)))
        have hul := hyu.length
        refine append_at (hsz := by show us.toArray.size ≤ sizeLine; rw [List.size_toArray, ← hul]; exact Nat.le_trans (Nat.le_trans hyl hi) (Nat.le_trans hsz (by decide))) zD.1 fun h₆ hs₆ hD₆ => ?_
        have k₆ : ∀ b o, b ≠ h.objs.size → h₅.get? b = some o → h₆.get? b = some o := fun b o hb e => hs₆.extBut b o hb e
        refine ⟨n + 1 - (i + 1), by omega, h₆, t₅, i + 1, ys ++ [y], us ++ [uy], m₃, W₅, fz₅, oI₂, oC₃, rfl, hlt, rfl, by rw [List.length_append, List.length_singleton]; exact Nat.succ_le_succ hyl, hyu.app (.cons iy .nil), Wk.frame _ _ _ hst₅ fun b hb o e => k₆ b o (fun q => hDf (q ▸ hb)) e, ?_, ho₃, q₅⟩
        refine G₅.chg (.tail _ (.tail _ (.head _))) k₆ (fun q hq => ?_) (fun q hq => ?_)
        · rcases List.mem_cons.mp hq with rfl | hq
          · have z := G₅.n _ (.head _)
            exact ⟨k₆ _ _ (Ne.symm hDC) z.1, z.2⟩
          · rcases List.mem_cons.mp hq with rfl | hq
            · have z := G₅.n _ (.tail _ (.head _))
              exact ⟨k₆ _ _ hDI z.1, z.2⟩
            · rw [List.mem_singleton.mp hq]
              exact ⟨hD₆.trans (congrArg some (lst_snoc us uy)), zD.2⟩
        · rcases List.mem_cons.mp hq with rfl | hq
          · exact ⟨_, .head _⟩
          · rcases List.mem_cons.mp hq with rfl | hq
            · exact ⟨_, .tail _ (.head _)⟩
            · rw [List.mem_singleton.mp hq]; exact ⟨_, .tail _ (.tail _ (.head _))⟩
    · obtain rfl : i = n := Nat.le_antisymm hi (Nat.not_lt.mp hlt)
      refine Wk.done _ _ _ hst' fun h₂ tk₂ hk₂ => ?_
      have kk₂ : ∀ b o, b ≠ I → h'.get? b = some o → h₂.get? b = some o := fun b o hb e => hk₂ b o (by simpa using hb) e
      refine hRR _ _ oC' m' h₂ tk₂ us ys W' fz' hyu hoC' (G'.chg (.tail _ (.head _)) kk₂ (fun q hq => ?_) (fun q hq => ?_)) (Ne.symm hDC) inv
      · rcases List.mem_cons.mp hq with rfl | hq
        · have z := G'.n _ (.tail _ (.tail _ (.head _)))
          exact ⟨kk₂ _ _ (Ne.symm hDI) z.1, z.2⟩
        · rw [List.mem_singleton.mp hq]
          have z := G'.n _ (.head _)
          exact ⟨kk₂ _ _ (Ne.symm hCI) z.1, z.2⟩
      · rcases List.mem_cons.mp hq with rfl | hq
        · exact ⟨_, .tail _ (.tail _ (.head _))⟩
        · rw [List.mem_singleton.mp hq]; exact ⟨_, .head _⟩
  exact codeAny_compStart_list (loop _ rfl) (Wk.self 0 _ _ _ hst₁ (loop _ rfl))
end Mine
end
section
open PySem PySem.W PyProof.Rows PySem.Calls PyProof.V
set_option maxRecDepth 100000
set_option Elab.async false
set_option linter.unusedVariables false
namespace Mine
open PyProof.Rows.LCg
section
variable {j : Jp} {S : Scope} {cl : List (Str × Addr)} {lc : Loc} {W fz : Led} {e e' : PySem.Expr} {v : Vl} {pos : Pos} {Q : Vl → Led → Led → Prop}
theorem Tg.name {x : Str} {px : Pos} (hx : S.names.lookup x = some .local) (hkind : S.kind = .function) : Tg j S cl (.Name x px) v [(x, v)] W fz := by
  intro c ok l C oC m₂ G h g dr t o x₀ hne hoC u iu QQ E K
  have zC := x₀.n _ (.head _)
  refine wpAny_assign_Name (wpAny_storeName_local (lookup_relabel_local hx) (hoC.ns zC.1) (fun h₃ hn₃ hs₃ => ?_) (by simp [compEnvC, relabel, hkind]))
  obtain ⟨oC', heC, hoC'⟩ := ns_obj hn₃
  have kk : ∀ b o, b ≠ C → h.get? b = some o → h₃.get? b = some o := fun b o hb e => hs₃.extBut b o hb e
  refine K h₃ _ oC' _ (x₀.chg (.head _) kk (fun q hq => ?_) (fun q hq => ?_)) hoC' ?_ kk
  · rcases List.mem_cons.mp hq with rfl | hq
    · exact ⟨heC, zC.2⟩
    · have z := x₀.n q (.tail _ hq)
      exact ⟨kk _ _ (hne q hq).symm z.1, z.2⟩
  · rcases List.mem_cons.mp hq with rfl | hq
    · exact ⟨_, .head _⟩
    · exact ⟨_, .tail _ hq⟩
  · intro y v' ev
    rw [List.lookup_cons] at ev
    cases hb : (y == x) with
    | true => rw [hb] at ev; cases ev; exact ⟨u, by rw [beq_iff_eq] at hb; simp [hb], iu⟩
    | false => rw [hb] at ev; cases ev
/- targets of several names -/
abbrev nameEs (ps : List (Str × Pos)) : List PySem.Expr := ps.map fun p => PySem.Expr.Name p.1 p.2
theorem eachLen (env : Env) (ps : List (Str × Pos)) : (assignEach (nameEs ps) env).length = ps.length := by
  induction ps with
  | nil => rfl
  | cons p ps ih => show (assignEach (nameEs ps) env).length + 1 = ps.length + 1; rw [ih]
theorem eachPlain (env : Env) (ps : List (Str × Pos)) : (assignEach (nameEs ps) env).findIdx? (·.1) = none := by
  induction ps with
  | nil => rfl
  | cons p ps ih =>
    show ((false, _) :: assignEach (nameEs ps) env).findIdx? (·.1) = none
    rw [List.findIdx?_cons]
    simp [ih]
/-- names with their values, the last one first -/
def bindL' : List (Str × Pos) → List Vl → Loc → Loc
  | p :: ps, v :: vs, l => bindL' ps vs ((p.1, v) :: l)
  | _, _, l => l
theorem namesIn {w : World} {A : Around} {E : Value → Shared → Prop} {env : Env} {C : Addr} (hC : env.locals = C) (hp : (env.scope.kind == .class || (env.scope.kind == .module && env.locals != env.globals)) = false) :
    ∀ (ps : List (Str × Pos)) (vs : List Vl) (us : List Value) (l : Loc) (s : Shared) (m : Str → Option Value) (Q : Unit → Shared → Prop), AllIs vs us → ps.length = vs.length → (∀ p ∈ ps, env.kindOf p.1 = some .local) → s.heap.Ns C m → LocIs l m →
      (∀ h' m' tk, h'.Ns C m' → (∀ b o, b ≠ C → s.heap.get? b = some o → h'.get? b = some o) → LocIs (bindL' ps vs l) m' → Q () { s with heap := h', toks := tk }) →
      wpAny (model pg w) A (assignInOrder ((assignEach (nameEs ps) env).map (·.2)) us) Q E s := by
  intro ps
  induction ps with
  | nil =>
    intro vs us l s m Q a hl _ hn hm hQ
    cases a with
    | cons _ _ => simp at hl
    | nil => exact assignInOrder_nil (hQ s.heap m s.toks hn (fun _ _ _ e => e) hm)
  | cons p ps ih =>
    intro vs us l s m Q a hl hk hn hm hQ
    cases a with
    | nil => simp at hl
    | @cons v u vs us iu a =>
    refine assignInOrder_cons (wpAny_assign_Name (wpAny_storeName_local (hk p (.head _)) (by rw [hC]; exact hn) (fun h₁ hn₁ hs₁ => ?_) hp))
    rw [hC] at hn₁ hs₁
    refine ih vs us ((p.1, v) :: l) _ _ Q a (by simpa using hl) (fun q hq => hk q (.tail _ hq)) hn₁ (hm.store iu) fun h' m' tk hn' hk' hb' => ?_
    exact hQ h' m' tk hn' (fun b o hb e => hk' b o hb (hs₁.extBut b o hb e)) hb'
theorem Tg.tup {ps : List (Str × Pos)} {elts : List PySem.Expr} {k : Nat} {tp : Pos} {a : Addr} {vs : List Vl} (he : elts = nameEs ps) (m : (a, dTup vs) ∈ W ++ (fz ++ j.tl)) (hl : ps.length = vs.length) (hx' : ps.all (fun p => S.names.lookup p.1 == some .local) = true) (hkind : S.kind = .function) :
    Tg j S cl (.Tuple elts k tp) (.ref a) (bindL' ps vs []) W fz := by
  subst he
  have hx : ∀ p ∈ ps, S.names.lookup p.1 = some .local := fun p hp => beq_iff_eq.mp (List.all_eq_true.mp hx' p hp)
  intro c ok l C oC m₂ G h g dr t o x₀ hne hoC u iu QQ E K
  cases iu
  obtain ⟨o', ⟨us, n, rfl, au⟩, n1⟩ := St.has (j := j) x₀.s m
  refine assign_Tuple_tuple ok.hd (News.isTup n1 (.head _)) (by rw [eachLen, hl, au.length]; simp) (eachPlain _ _) fun h₃ he₃ => ?_
  have k₃ : ∀ b o, h.get? b = some o → h₃.get? b = some o := fun b o e => he₃ b o (Nat.ne_of_lt (Heap.lt_size e)) e
  have x₃ := x₀.grow k₃
  have zC := x₃.n _ (.head _)
  rw [List.toList_toArray]
  refine namesIn (C := C) rfl (by simp [compEnvC, relabel, hkind]) ps vs us [] _ m₂ _ au hl (fun p hp => lookup_relabel_local (hx p hp)) (hoC.ns zC.1) (fun y v e => by cases e) fun h₄ m₄ tk₄ hn₄ hk₄ hb₄ => ?_
  obtain ⟨oC', heC, hoC'⟩ := ns_obj hn₄
  refine K h₄ _ oC' _ (x₃.chg (.head _) hk₄ (fun q hq => ?_) (fun q hq => ?_)) hoC' hb₄ (fun b o hb e => hk₄ b o hb (k₃ b o e))
  · rcases List.mem_cons.mp hq with rfl | hq
    · exact ⟨heC, zC.2⟩
    · have z := x₃.n q (.tail _ hq)
      exact ⟨hk₄ _ _ (hne q hq).symm z.1, z.2⟩
  · rcases List.mem_cons.mp hq with rfl | hq
    · exact ⟨_, .head _⟩
    · exact ⟨_, .tail _ hq⟩
/- expressions in a turn -/
theorem St.getX {c : Ctx} {tl : Led} {l : Loc} {h : Heap} {C : Addr} {oC : Obj} (s : St c tl l W fz h) (m : (C, (· = oC)) ∈ c.X) : h.get? C = some oC := by
  obtain ⟨o, ho, hx, _⟩ := s.N _ (List.mem_append_right W (List.mem_append_right fz (List.mem_append_right tl m)))
  have ho' : o = oC := ho
  exact ho' ▸ hx
theorem JEc.name {x : Str} (hv : lc.lookup x = some v) (hx : S.names.lookup x = some .local) (hkind : S.kind = .function) (hd : (x == ("__debug__" : Str)) = false) (q : Q v W fz) : JEc j S cl lc W fz (.Name x pos) Q := by
  intro c ok C oC m₂ hC hoC hl h g dr t o l s QQ E K
  obtain ⟨u, hu, iu⟩ := hl x v hv
  exact ldVarK (hoC.ns (s.getX hC)) hu (K v u W fz h t iu s q) (by simp [compEnvC, relabel, hkind]) (lookup_relabel_local hx) hd
theorem JEc.int {k : Nat} {i : Int} (q : Q (.int i) W fz) : JEc j S cl lc W fz (.Constant (.int i) k pos) Q := fun c ok C oC m₂ hC hoC hl h g dr t o l s QQ E K => wpAny_Constant_int (K (.int i) _ _ _ _ _ ⟨_, rfl⟩ s q)
theorem JEc.str {k : Nat} {x : Str} (q : Q (.str x) W fz) : JEc j S cl lc W fz (.Constant (.str x) k pos) Q := fun c ok C oC m₂ hC hoC hl h g dr t o l s QQ E K => Constant_str (K (.str x) _ _ _ _ _ ⟨_, rfl⟩ s q)
theorem JEc.bool {k : Nat} {b : Bool} (q : Q (.bool b) W fz) : JEc j S cl lc W fz (.Constant (.bool b) k pos) Q := fun c ok C oC m₂ hC hoC hl h g dr t o l s QQ E K => Constant_bool (K (.bool b) _ _ _ _ _ rfl s q)
theorem JEc.none {k : Nat} (q : Q .none W fz) : JEc j S cl lc W fz (.Constant .none k pos) Q := fun c ok C oC m₂ hC hoC hl h g dr t o l s QQ E K => wpAny_Constant_none (K .none _ _ _ _ _ rfl s q)
theorem JLc.nil {Q : List Vl → Led → Led → Prop} (q : Q [] W fz) : JLc j S cl lc W fz [] Q := fun c ok C oC m₂ hC hoC hl h g dr t o l s pos QQ E K => args_nil (K _ _ _ _ _ _ .nil s q)
theorem JLc.cons {es : List PySem.Expr} {Q : List Vl → Led → Led → Prop} (p : JEc j S cl lc W fz e (fun v W' fz' => JLc j S cl lc W' fz' es (fun vs => Q (v :: vs)))) (hs : notStar e = true) : JLc j S cl lc W fz (e :: es) Q := fun c ok C oC m₂ hC hoC hl h g dr t o l s pos QQ E K =>
  args_cons (p c ok C oC m₂ hC hoC hl h g dr t o l s _ E fun v u W' fz' h' t' iu s' q => q c ok C oC m₂ hC hoC hl h' g dr t' o l s' pos _ E fun vs us W'' fz'' h'' t'' ius s'' q' => K _ _ _ _ _ _ (.cons iu ius) s'' q') (star_of hs _ _)
theorem JEc.tup {es : List PySem.Expr} {k : Nat} (p : JLc j S cl lc W fz es (TupQ Q)) : JEc j S cl lc W fz (.Tuple es k pos) Q := fun c ok C oC m₂ hC hoC hl h g dr t o l s QQ E K =>
  Tuple_ (p c ok C oC m₂ hC hoC hl h g dr t o l s pos _ E fun vs us W' fz' h' t' a s' q => wpAny_newTuple (K (.ref _) _ _ _ _ _ rfl (s'.pushF (D := dTup vs) ⟨us, 0, rfl, a⟩ rfl) (q.2 _)) (a.length ▸ len_fits q.1))
theorem JEc.lst {es : List PySem.Expr} (p : JLc j S cl lc W fz es (LstQ Q)) : JEc j S cl lc W fz (.List es pos) Q := fun c ok C oC m₂ hC hoC hl h g dr t o l s QQ E K =>
  List_ (p c ok C oC m₂ hC hoC hl h g dr t o l s pos _ E fun vs us W' fz' h' t' a s' q => wpAny_newList (K (.ref _) _ _ _ _ _ rfl (s'.push (D := dLst vs) ⟨us, 0, rfl, a⟩ rfl) (q.2 _)) (a.length ▸ len_fits q.1))
theorem JEc.addI (p : JEc j S cl lc W fz e (fun v W' fz' => ∃ a, v = .int a ∧ JEc j S cl lc W' fz' e' (fun v' W₂ fz₂ => ∃ b, v' = .int b ∧ Q (.int (a + b)) W₂ fz₂))) : JEc j S cl lc W fz (.BinOp e .Add e' pos) Q := fun c ok C oC m₂ hC hoC hl h g dr t o l s QQ E K =>
  wpAny_BinOp (p c ok C oC m₂ hC hoC hl h g dr t o l s _ E fun v u W' fz' h' t' iu s' q => by
    obtain ⟨a, rfl, q⟩ := q
    obtain ⟨_, rfl⟩ := iu
    refine q c ok C oC m₂ hC hoC hl h' g dr t' o l s' _ E fun v' u' W₂ fz₂ h'' t'' iu' s'' q' => ?_
    obtain ⟨b, rfl, q'⟩ := q'
    obtain ⟨_, rfl⟩ := iu'
    exact add_int (K (.int (a + b)) _ _ _ _ _ ⟨_, rfl⟩ s'' q'))
theorem JEc.itemT (p : JEc j S cl lc W fz e (fun z W' fz' => ∃ a vs, z = .ref a ∧ (a, dTup vs) ∈ W' ++ (fz' ++ j.tl) ∧ JEc j S cl lc W' fz' e' (fun i W₂ fz₂ => W₂ = W' ∧ fz₂ = fz' ∧ ∃ k v, i = .int k ∧ IxV vs k v ∧ Q v W' fz'))) (hs : notSlice e' = true) : JEc j S cl lc W fz (.Subscript e e' pos) Q := by
  intro c ok C oC m₂ hC hoC hl h g dr t o l s QQ E K
  refine Subscript_ (p c ok C oC m₂ hC hoC hl h g dr t o l s _ E fun z u W' fz' h' t' iu s' q => ?_)
  obtain ⟨a, vs, rfl, m, q⟩ := q
  cases iu
  refine q c ok C oC m₂ hC hoC hl h' g dr t' o l s' _ E fun i u' W₂ fz₂ h'' t'' iu' s'' q' => ?_
  obtain ⟨rfl, rfl, k, v, rfl, hk, q'⟩ := q'
  obtain ⟨_, rfl⟩ := iu'
  obtain ⟨o', ⟨us, n, rfl, a'⟩, n1⟩ := St.has (j := j) s'' m
  obtain ⟨x, hx, ix⟩ := hk.at a'
  exact itup_own n1 (.head _) hx (K _ _ _ _ _ _ ix s'' q') (sub_of hs _ _)
theorem JTs.nil {Q : Bool → Led → Led → Prop} (q : Q true W fz) : JTs j S cl lc W fz [] Q := fun c ok C oC m₂ hC hoC hl h g dr t o l s QQ E K => wpAny_tests_nil (K _ _ _ _ _ s q)
theorem JTs.neS {Q : Bool → Led → Led → Prop} {x y : Str} (p : JEc j S cl lc W fz e (fun v W' fz' => v = .str x ∧ JEc j S cl lc W' fz' e' (fun v' W₂ fz₂ => v' = .str y ∧ Q (x != y) W₂ fz₂))) (hb : behindInMarks .NotEq e' = false) : JTs j S cl lc W fz [.Compare e [.NotEq] [e'] pos] Q :=
  fun c ok C oC m₂ hC hoC hl h g dr t o l s QQ E K => wpAny_tests_one (wpAny_isTrue_Compare1 (p c ok C oC m₂ hC hoC hl h g dr t o l s _ E fun v u W' fz' h' t' iu s' q => by
    obtain ⟨rfl, q⟩ := q
    obtain ⟨_, rfl⟩ := iu
    refine q c ok C oC m₂ hC hoC hl h' g dr t' o l s' _ E fun v' u' W₂ fz₂ h'' t'' iu' s'' q' => ?_
    obtain ⟨rfl, q'⟩ := q'
    obtain ⟨_, rfl⟩ := iu'
    exact ne_str (wpAny_truthy_bool (K _ _ _ _ _ s'' q'))) hb)
/-- a captured name -/
def dCell (v : Vl) : Dsc := fun o => ∃ u, o.data = .cell (some u) ∧ v.is u
theorem JEc.cell {x : Str} {a : Addr} (hc : cl.lookup x = some a) (m : (a, dCell v) ∈ j.tl) (hk : ∀ C L, (compEnvC S cl C (j.I.env L)).kindOf x = some .cell) (hkind : S.kind = .function) (hd : (x == ("__debug__" : Str)) = false) (q : Q v W fz) : JEc j S cl lc W fz (.Name x pos) Q := by
  intro c ok C oC m₂ hC hoC hl h g dr t o l s QQ E K
  obtain ⟨o', ⟨u, hd', iu⟩, n1⟩ := s.N.one (List.mem_append_right W (List.mem_append_right fz (List.mem_append_left c.X m)))
  exact wpAny_Name (wpAny_loadName_cell (by simp [compEnvC, relabel, hkind]) (hk C c.L) hc ⟨o', (n1 _ (.head _)).1, hd'⟩ (K v u W fz h t iu s q)) hd
theorem JEc.fn {x : Str} {f : Addr} {np : Pos} {args : List PySem.Expr} (hx : ∀ C L, (compEnvC S cl C (j.I.env L)).kindOf x = some .globalImplicit) (hkind : S.kind = .function) (hd : (x == ("__debug__" : Str)) = false) (hn : nsIn (Mine.hk.heap_1 j.w.params) mainGlobals x = some (some (.ref f))) (hk : keepIn (Mine.hk.heap_1 j.w.params) (.ref f) = true) (hs : (e :: args).all notStar = true)
    (p : JLc j S cl lc W fz (e :: args) (fun vs W' fz' => JC j.w j.d j.u j.tl W' fz' f vs Q)) : JEc j S cl lc W fz (.Call (.Name x np) (e :: args) [] pos) Q := by
  intro c ok C oC m₂ hC hoC hl h g dr t o l s QQ E K
  obtain ⟨m, F, hm⟩ := s.F
  rw [List.all_cons, Bool.and_eq_true] at hs
  refine Call_ (Name_function_global (by simp [compEnvC, relabel, hkind]) (hx C c.L) (loadGlobal_global (env := compEnvC S cl C (j.I.env c.L)) ((topRead_of ok.T).g.keeps F.keep) (mg_of ok.K (topRead_of ok.T).g hn) ?_) hd)
  refine callWith_K ok.K hk (p c ok C oC m₂ hC hoC hl h g dr t o l s pos _ E fun vs us W' fz' h' t' a s' q => ?_) (star_of hs.1 _ _) (stars_none hs.2 _ _)
  obtain ⟨m', F', _⟩ := s'.F
  exact ⟨ok.K.keeps F'.keep, q j.I l c ok h' g dr t' o s' us a QQ E K⟩
end
/- where a comprehension's list lies -/
theorem St.take {c : Ctx} {tl : Led} {l : Loc} {W fz : Led} {h : Heap} {a : Addr} {D : Dsc} (s : St c tl l ((a, D) :: W) fz h) : ∃ o, D o ∧ St (c.hide a o) tl l W fz h := by
  obtain ⟨o, d, n1⟩ := s.N.one (.head _)
  have sel : Sel ((a, D) :: W) [(a, D)] W := .cons 0 rfl .nil
  have Dd := Dis.iff.mp (s.D.perm sel.perm)
  have hoff : ∀ q ∈ W ++ (fz ++ (tl ++ c.X)), a ≠ q.1 := by
    intro q hq
    rcases List.mem_append.mp hq with hq | hq
    · exact (List.pairwise_cons.mp Dd.1).1 q hq
    · exact Dd.2 _ (.head _) q hq
  have u := s.forgetW
  exact ⟨o, d, St.hide u.F u.N u.D u.O n1 hoff⟩
theorem St.takeT {c : Ctx} {tl : Led} {l : Loc} {W fz : Led} {h : Heap} {a : Addr} {D : Dsc} (s : St c tl l W fz h) (hm : (a, D) ∈ tl) : ∃ o, D o ∧ St (c.hide a o) tl l W fz h := by
  obtain ⟨o, d, n1⟩ := s.N.one (List.mem_append_right W (List.mem_append_right fz (List.mem_append_left c.X hm)))
  refine ⟨o, d, St.hideT s.F s.N s.D s.O n1 fun q hq => ?_⟩
  rcases List.mem_append.mp hq with hq | hq
  · exact (s.D.2 q hq _ (List.mem_append_right _ (List.mem_append_left _ hm))).symm
  · exact (s.O q hq _ (List.mem_append_left _ hm)).symm
theorem Cs.unhide {c : Ctx} {tl : Led} {l : Loc} {W fz : Led} {h : Heap} {a : Addr} {o : Obj} {G : List (Addr × Obj)} (x : Cs (c.hide a o) tl l W fz h G) : Cs c tl l W fz h G := ⟨x.s.unhide, x.n, fun g hg q hq => x.o g hg q (hideMem.mpr (.inr hq))⟩
def tgOk (target : PySem.Expr) (vs : List Vl) : Prop := (∃ x p, target = .Name x p) ∨ (∃ elts k p, target = .Tuple elts k p ∧ ∀ v ∈ vs, ∃ a, v = .ref a)
section
variable {j : Jp} {l : Loc} {W fz : Led} {iter e target elt : PySem.Expr} {ifs : List PySem.Expr} {scope : Scope} {cl : List (Str × Addr)} {pos spos py : Pos}
/-- what a comprehension's iterable leads to; F: what is asked of the values at the end -/
def CompQ (j : Jp) (scope : Scope) (cl : List (Str × Addr)) (target elt : PySem.Expr) (ifs : List PySem.Expr) (F : List Vl → Led → Led → Prop) (v : Vl) (W fz : Led) : Prop :=
  ∃ (a : Addr) (vs : List Vl) (W₁ : Led) (Inv : List Vl → List Vl → Led → Led → Prop), v = .ref a ∧ (W = (a, dLst vs) :: W₁ ∨ ((a, dLst vs) ∈ j.tl ∧ W = W₁)) ∧ vs.length ≤ 1000000 ∧ tgOk target vs ∧ Inv vs [] W₁ fz ∧
    (∀ v r ys W' fz', Inv (v :: r) ys W' fz' → CTurn j scope cl target elt ifs v ys (Inv r) W' fz') ∧ ∀ ys W' fz', Inv [] ys W' fz' → F ys W' fz'
theorem comp_list {c : Ctx} (ok : c.Ok j) {h : Heap} {g : Array GenState} {dr : Drawn} {t : Nat} {o : OsState} {RR : Value → Addr → Result → Shared → Prop} {E : Value → Shared → Prop} {F : List Vl → Led → Led → Prop} {v : Vl} {u : Value}
    (hcell : ∀ y ∈ scope.names, y.2 ≠ .cell) (hkind : scope.kind = .function) (iu : v.is u) (s : St c j.tl l W fz h) (q : CompQ j scope cl target elt ifs F v W fz)
    (hRR : ∀ D C oC m' h' tk us ys W' fz', AllIs ys us → NsObj oC m' → Cs c j.tl l W' fz' h' [(D, lst us), (C, oC)] → C ≠ D → F ys W' fz' → RR (.ref D) C (.ok .next) ⟨h', g, dr, tk, o⟩) :
    wpAny (model pg j.w) c.A (pyIter u) (fun it s₂ => wpAny (model pg j.w) c.A (newList []) (fun acc s₃ => wpAny (model pg j.w) c.A (newFunctionEnv scope (j.I.env c.L).globals cl [] (j.I.env c.L).qual none .none (some (j.I.env c.L))) (fun cenv s₄ =>
      codeAny (model pg j.w) c.A (.compStart (.ListComp elt [⟨target, iter, ifs, 0⟩] scope pos) 0 it acc { cenv with scope := relabel scope (j.I.env c.L) }) (RR acc cenv.locals) s₄) E s₃) E s₂) E ⟨h, g, dr, t, o⟩ := by
  obtain ⟨a, vs, W₁, Inv, rfl, hW, hz, htg, h0, turn, done⟩ := q
  cases iu
  obtain ⟨oa, hd, s'⟩ : ∃ o, dLst vs o ∧ St (c.hide a o) j.tl l W₁ fz h := by
    rcases hW with rfl | ⟨hm, rfl⟩
    · exact s.take
    · exact s.takeT hm
  clear s hW
  obtain ⟨us, nn, rfl, au⟩ := hd
  have hx : (a, (· = listOf us.toArray nn)) ∈ (c.hide a (listOf us.toArray nn)).X := .head _
  have ha := s'.getX hx
  have hl : h.IsList a us.toArray := ⟨_, ha, rfl, nn, rfl⟩
  have hlt : a < h.objs.size := Heap.lt_size ha
  refine wpAny_pyIter_list hl ?_
  have up : ∀ b o, h.get? b = some o → (h.push { cls := .type "list_iterator", data := .fields #[.ref a, .int 0 0] }).get? b = some o := fun b o e => Heap.get?_push_of_some _ e
  have gI : (h.push { cls := .type "list_iterator", data := .fields #[.ref a, .int 0 0] }).get? h.objs.size = some { cls := .type "list_iterator", data := .fields #[.ref a, .int 0 0] } := Heap.get?_push_size _ rfl
  obtain ⟨m₀, F₀, hm₀⟩ := s'.F
  have s₁ : Cs (c.hide a (listOf us.toArray nn)) j.tl l W₁ fz (h.push { cls := .type "list_iterator", data := .fields #[.ref a, .int 0 0] }) [(h.objs.size, { cls := .type "list_iterator", data := .fields #[.ref a, .int 0 0] })] :=
    ⟨⟨⟨m₀, F₀.keeps up, hm₀⟩, fun p hp => by obtain ⟨o, h1, h2, h3⟩ := s'.N p hp; exact ⟨o, h1, up _ _ h2, h3⟩, s'.D, s'.O⟩, fun p hp => by
      rw [List.mem_singleton.mp hp]; exact ⟨gI, Ne.symm (Nat.ne_of_lt F₀.ns.lt), next_is_new F₀⟩, fun p hp q hq => by
      rw [List.mem_singleton.mp hp]; exact s'.newer q hq⟩
  have hul := au.length
  refine comp_core (c := c.hide a (listOf us.toArray nn)) (n := us.toArray.size) (ok.hide _ _) (p := fun i v => vs[i]? = some v) (Walks.list ok.hd h.objs.size a (Nat.ne_of_lt hlt) us.toArray) (fun i u hP => ?_) (by rw [List.size_toArray, ← hul]; exact hz) (fun i h st => by obtain ⟨o, e, _⟩ := st.1; exact ⟨o, e⟩)
    (fun i h h' o st e e' N => ?_) (fun i s v u Q E st hp iu hQ => ?_) hcell hkind s₁ ⟨⟨_, gI, rfl, rfl⟩, ⟨_, up _ _ ha, rfl, nn, rfl⟩⟩ (fun b hb => ?_) (fun i ys W' fz' => Inv (vs.drop i) ys W' fz') h0 (fun i v ys W' fz' hi hp inv => ?_) (fun D C oC m' h' tk us' ys W' fz' hy hC G hne inv => ?_)
  · have hP' : us[i]? = some u := by simpa using hP
    have hlt : i < vs.length := by rw [hul]; exact (List.getElem?_eq_some_iff.mp hP').1
    obtain ⟨u', e1, e2⟩ := au.get (List.getElem?_eq_getElem hlt)
    rw [hP'] at e1
    cases e1
    exact ⟨_, List.getElem?_eq_getElem hlt, e2⟩
  · refine ⟨by obtain ⟨o', q, r⟩ := st.1; rw [e] at q; cases q; exact ⟨o, e', r⟩, ?_⟩
    obtain ⟨o₂, ho₂, hg, _⟩ := N _ hx
    have ho' : o₂ = listOf us.toArray nn := ho₂
    exact ⟨_, ho' ▸ hg, rfl, nn, rfl⟩
  · rcases htg with ⟨x, p, rfl⟩ | ⟨elts, k, p, rfl, hr⟩
    · exact wpAny_of_eq rfl hQ
    · obtain ⟨b, rfl⟩ := hr v (List.mem_of_getElem? hp)
      cases iu
      exact wpAny_letOwnedTupleGo_listiter st.1 hQ
  · show b < (h.push _).objs.size
    rw [Heap.size_push]
    rcases List.mem_cons.mp hb with rfl | hb
    · exact Nat.lt_succ_self _
    · rw [List.mem_singleton.mp hb]; exact Nat.lt_succ_of_lt hlt
  · have e : vs.drop i = v :: vs.drop (i + 1) := by
      obtain ⟨h1, h2⟩ := List.getElem?_eq_some_iff.mp hp
      rw [List.drop_eq_getElem_cons h1, h2]
    rw [e] at inv
    exact turn v _ ys W' fz' inv
  · rw [List.size_toArray, ← hul, List.drop_length] at inv
    exact hRR D C oC m' h' tk us' ys W' fz' hy hC G.unhide hne (done _ _ _ inv)
/-- what a range's bound leads to -/
def CRngQ (j : Jp) (scope : Scope) (cl : List (Str × Addr)) (target elt : PySem.Expr) (ifs : List PySem.Expr) (F : List Vl → Led → Led → Prop) (v : Vl) (W fz : Led) : Prop :=
  ∃ (k : Nat) (Inv : Nat → List Vl → Led → Led → Prop), v = .int k ∧ k ≤ 1000000 ∧ Inv 0 [] W fz ∧ (∀ i ys W' fz', i < k → Inv i ys W' fz' → CTurn j scope cl target elt ifs (.int i) ys (Inv (i + 1)) W' fz') ∧ ∀ ys W' fz', Inv k ys W' fz' → F ys W' fz'
theorem comp_range {c : Ctx} (ok : c.Ok j) {h : Heap} {g : Array GenState} {dr : Drawn} {t : Nat} {o : OsState} {RR : Value → Addr → Result → Shared → Prop} {E : Value → Shared → Prop} {F : List Vl → Led → Led → Prop} {x : Str} {px : Pos} {r : Addr} {k : Nat} {t₁ u₁ v₁ : Tok} {Inv : Nat → List Vl → Led → Led → Prop}
    (hcell : ∀ y ∈ scope.names, y.2 ≠ .cell) (hkind : scope.kind = .function) (s : St c j.tl l W fz h) (R : IsRange h r 0 k 1 t₁ u₁ v₁) (hk : k ≤ 1000000) (h0 : Inv 0 [] W fz)
    (turn : ∀ i ys W' fz', i < k → Inv i ys W' fz' → CTurn j scope cl (.Name x px) elt ifs (.int i) ys (Inv (i + 1)) W' fz') (done : ∀ ys W' fz', Inv k ys W' fz' → F ys W' fz')
    (hRR : ∀ D C oC m' h' tk us ys W' fz', AllIs ys us → NsObj oC m' → Cs c j.tl l W' fz' h' [(D, lst us), (C, oC)] → C ≠ D → F ys W' fz' → RR (.ref D) C (.ok .next) ⟨h', g, dr, tk, o⟩) :
    wpAny (model pg j.w) c.A (pyIter (.ref r)) (fun it s₂ => wpAny (model pg j.w) c.A (newList []) (fun acc s₃ => wpAny (model pg j.w) c.A (newFunctionEnv scope (j.I.env c.L).globals cl [] (j.I.env c.L).qual none .none (some (j.I.env c.L))) (fun cenv s₄ =>
      codeAny (model pg j.w) c.A (.compStart (.ListComp elt [⟨.Name x px, iter, ifs, 0⟩] scope pos) 0 it acc { cenv with scope := relabel scope (j.I.env c.L) }) (RR acc cenv.locals) s₄) E s₃) E s₂) E ⟨h, g, dr, t, o⟩ := by
  refine wpAny_pyIter_range R (rangeSmall_nat (by omega)) ?_
  have hn : Builtin.Range.rangeSize 0 (k : Int) 1 = ((k : Nat) : Int) := rangeSize_nat _
  generalize hI : ({ cls := .type "range_iterator", data := .fields #[rawInt 0, rawInt (Builtin.Range.rangeSize 0 (k : Int) 1), rawInt 1] } : Obj) = oI
  have up : ∀ b o, h.get? b = some o → (h.push oI).get? b = some o := fun b o e => Heap.get?_push_of_some _ e
  have gI : (h.push oI).get? h.objs.size = some oI := Heap.get?_push_size _ (hI ▸ rfl)
  obtain ⟨m₀, F₀, hm₀⟩ := s.F
  have s₁ : Cs c j.tl l W fz (h.push oI) [(h.objs.size, oI)] :=
    ⟨⟨⟨m₀, F₀.keeps up, hm₀⟩, fun p hp => by obtain ⟨o, h1, h2, h3⟩ := s.N p hp; exact ⟨o, h1, up _ _ h2, h3⟩, s.D, s.O⟩, fun p hp => by
      rw [List.mem_singleton.mp hp]; exact ⟨gI, Ne.symm (Nat.ne_of_lt F₀.ns.lt), next_is_new F₀⟩, fun p hp q hq => by
      rw [List.mem_singleton.mp hp]; exact s.newer q hq⟩
  refine comp_core (n := k) ok (p := fun i v => v = .int i) (range_walks ok.hd 0 k) (fun i u hP => ?_) hk (fun i h st => ⟨_, st⟩)
    (fun i h h' o st e e' N => ?_) (fun i s v u Q E st hp iu hQ => wpAny_of_eq rfl hQ) hcell hkind s₁ ?_ (fun b hb => ?_) Inv h0 (fun i v ys W' fz' hi hp inv => ?_) (fun D C oC m' h' tk us' ys W' fz' hy hC G hne inv => ?_)
  · obtain ⟨t', rfl⟩ := hP
    exact ⟨_, rfl, t', by rw [Int.zero_add]⟩
  · have st' : h.get? _ = some _ := st
    show h'.get? _ = some _
    rw [e', ← e]; exact st'
  · show IsRangeIter _ _ _ _ _
    subst hI
    rw [hn]
    rw [hn] at gI
    simpa using gI
  · rw [List.mem_singleton.mp hb]
    show h.objs.size < (h.push _).objs.size
    rw [Heap.size_push]; exact Nat.lt_succ_self _
  · subst hp
    exact turn i ys W' fz' hi inv
  · exact hRR D C oC m' h' tk us' ys W' fz' hy hC G hne (done _ _ _ inv)
/-- the comprehension's names go -/
theorem Cs.done {c : Ctx} {tl : Led} {h h' : Heap} {D C : Addr} {oC : Obj} {us : List Value} {ys : List Vl} (G : Cs c tl l W fz h [(D, lst us), (C, oC)]) (hne : C ≠ D) (hy : AllIs ys us) (hs : Heap.SameBut C h h') : St c tl l ((D, dLst ys) :: W) fz h' := by
  have zD := G.n _ (.head _)
  refine (G.chg (G' := [(D, lst us)]) (.tail _ (.head _)) (fun b o hb e => hs.extBut b o hb e) (fun p hp => ?_) (fun p hp => ?_)).own ⟨us, _, rfl, hy⟩
  · rw [List.mem_singleton.mp hp]; exact ⟨hs.extBut _ _ (Ne.symm hne) zD.1, zD.2⟩
  · rw [List.mem_singleton.mp hp]; exact ⟨_, .head _⟩
theorem JE.comp {Q : Vl → Led → Led → Prop} (p : JE j l W fz iter (CompQ j scope cl target elt ifs (fun ys W' fz' => ∀ D, Q (.ref D) ((D, dLst ys) :: W') fz'))) (hclos : ∀ L, closureFor scope (j.I.env L) = Pure.pure cl) (hcell : ∀ y ∈ scope.names, y.2 ≠ .cell) (hkind : scope.kind = .function)
    (hnames : ∀ y ∈ scope.names, y.2 = .local → scope.names.lookup y.1 = some .local) (hs : notSet iter = true) : JE j l W fz (.ListComp elt [⟨target, iter, ifs, 0⟩] scope pos) Q := by
  intro c ok h g dr t o s QQ E K
  rw [eval_ListComp]
  refine wpAny_comprehension_free (use := none) rfl (notSet_of hs _) (hclos c.L) hkind hnames (p c ok h g dr t o s _ E fun v u W' fz' h' t' iu s' q => ?_)
  refine comp_list ok hcell hkind iu s' q fun D C oC m' h'' tk us ys W₂ fz₂ hy hC G hne q => ?_
  exact ⟨m', hC.ns (G.n _ (.tail _ (.head _))).1, fun h₃ hs₃ => K (.ref D) _ _ _ _ _ rfl (G.done hne hy hs₃) (q D)⟩
theorem JX.assignC {rest : List Stmt} {y : Str} {Q : Fl → Loc → Led → Led → Prop} (p : JE j l W fz iter (CompQ j scope cl target elt ifs (fun ys W' fz' => ∀ D, JX j ((y, .ref D) :: l) ((D, dLst ys) :: W') fz' rest Q))) (hy : nameOk j y = true)
    (hsw : ∀ L, swapsWith (.ListComp elt [⟨target, iter, ifs, 0⟩] scope pos) (some (.Name y py)) spos.line (j.I.env L) = Pure.pure true) (hclos : ∀ L, closureFor scope (j.I.env L) = Pure.pure cl) (hcell : ∀ y ∈ scope.names, y.2 ≠ .cell) (hkind : scope.kind = .function)
    (hnames : ∀ y ∈ scope.names, y.2 = .local → scope.names.lookup y.1 = some .local) (hs : notSet iter = true) : JX j l W fz (.Assign [.Name y py] (.ListComp elt [⟨target, iter, ifs, 0⟩] scope pos) spos :: rest) Q := by
  intro c ok h g dr t o s QQ E hE K
  refine wpAny_execs_cons ?_
  rw [exec_Assign_Name_used _ _ _ _ (hsw c.L)]
  refine wpAny_bind (wpAny_standAt (wpAny_bind ?_))
  show wpAny _ c.A (do let _ ← comprehension (.ListComp elt [⟨target, iter, ifs, 0⟩] scope pos) scope (j.I.env c.L) _ (newList []) false (eval iter (j.I.env c.L)) (some (PySem.assign (.Name y py) (j.I.env c.L)))) _ _ _
  refine wpAny_bind (wpAny_mono (wpAny_comprehension_free (use := some (PySem.assign (.Name y py) (j.I.env c.L))) (Q := fun _ s' => wpAny (model pg j.w) c.A (execs rest (j.I.env c.L)) QQ E s') rfl (notSet_of hs _) (hclos c.L) hkind hnames (p c ok h g dr t o s _ E fun v u W' fz' h' t' iu s' q => ?_)) (fun _ s' hq => wpAny_pure (wpAny_pure hq)) fun _ _ e => e)
  refine comp_list ok hcell hkind iu s' q fun D C oC m' h'' tk us ys W₂ fz₂ hy' hC G hne q => ?_
  show wpAny _ c.A (PySem.assign (.Name y py) (j.I.env c.L) (.ref D)) _ _ _
  obtain ⟨m, F, hm⟩ := G.s.F
  obtain ⟨N, P, n⟩ := G.s.N.pairs
  have n2 : News c.h₀ c.L h'' ([(D, lst us), (C, oC)] ++ N) := fun p hp => (List.mem_append.mp hp).elim (G.n p) (n p)
  refine wpAny_assign_Name (storeX_L F n2 (fun h₂ F₂ n₂ => ?_) ok.kd (nameOk.kind hy).1)
  have G₂ : Cs c j.tl ((y, .ref D) :: l) W₂ fz₂ h₂ [(D, lst us), (C, oC)] := ⟨⟨⟨_, F₂, hm.store (v := .ref D) rfl⟩, P.news fun p hp => n₂ p (List.mem_append_right _ hp), G.s.D, G.s.O⟩, fun p hp => n₂ p (List.mem_append_left _ hp), G.o⟩
  exact ⟨m', hC.ns (G₂.n _ (.tail _ (.head _))).1, fun h₃ hs₃ => q D c ok h₃ g dr _ o (G₂.done hne hy' hs₃) QQ E hE K⟩
theorem JX.assignCR {rest : List Stmt} {x y : Str} {px np rp : Pos} {Q : Fl → Loc → Led → Led → Prop} (p : JE j l W fz e (CRngQ j scope cl (.Name x px) elt ifs (fun ys W' fz' => ∀ D, JX j ((y, .ref D) :: l) ((D, dLst ys) :: W') fz' rest Q))) (hr : nameG j (PySem.Str.ofString "range") = true) (hs : notStar e = true) (hy : nameOk j y = true)
    (hsw : ∀ L, swapsWith (.ListComp elt [⟨.Name x px, .Call (.Name (PySem.Str.ofString "range") np) [e] [] rp, ifs, 0⟩] scope pos) (some (.Name y py)) spos.line (j.I.env L) = Pure.pure true) (hclos : ∀ L, closureFor scope (j.I.env L) = Pure.pure cl) (hcell : ∀ y ∈ scope.names, y.2 ≠ .cell) (hkind : scope.kind = .function)
    (hnames : ∀ y ∈ scope.names, y.2 = .local → scope.names.lookup y.1 = some .local) : JX j l W fz (.Assign [.Name y py] (.ListComp elt [⟨.Name x px, .Call (.Name (PySem.Str.ofString "range") np) [e] [] rp, ifs, 0⟩] scope pos) spos :: rest) Q := by
  intro c ok h g dr t o s QQ E hE K
  refine wpAny_execs_cons ?_
  rw [exec_Assign_Name_used _ _ _ _ (hsw c.L)]
  refine wpAny_bind (wpAny_standAt (wpAny_bind ?_))
  show wpAny _ c.A (do let _ ← comprehension (.ListComp elt [⟨.Name x px, .Call (.Name (PySem.Str.ofString "range") np) [e] [] rp, ifs, 0⟩] scope pos) scope (j.I.env c.L) _ (newList []) false (eval (.Call (.Name (PySem.Str.ofString "range") np) [e] [] rp) (j.I.env c.L)) (some (PySem.assign (.Name y py) (j.I.env c.L)))) _ _ _
  refine wpAny_bind (wpAny_mono (wpAny_comprehension_free (use := some (PySem.assign (.Name y py) (j.I.env c.L))) (Q := fun _ s' => wpAny (model pg j.w) c.A (execs rest (j.I.env c.L)) QQ E s') rfl (fun _ => rfl) (hclos c.L) hkind hnames ?_) (fun _ s' hq => wpAny_pure (wpAny_pure hq)) fun _ _ e => e)
  obtain ⟨m₀, F₀, _⟩ := s.F
  refine Call_ (nameX_B F₀ ok.K (topRead_of ok.T) (ns_range _) (v := .type "range") (by boot_by_name) (by decide) ?_ ok.kd (nameG.kind hr).1 (by decide))
  refine PySem.Pv.callWith_type1 (args_cons (p c ok h g dr t o s _ E fun v u W' fz' h' t' iu s' q => args_nil ?_) (star_of hs _ _)) (star_of hs _ _) rfl
  obtain ⟨k, Inv, rfl, hk, h0, turn, done⟩ := q
  obtain ⟨_, rfl⟩ := iu
  obtain ⟨m, F, hm⟩ := s'.F
  obtain ⟨N, P, nn⟩ := s'.N.pairs
  refine range1_rows F nn fun h₁ tk t₁ u₁ v₁ R F₁ N₁ _ => ?_
  have s₁ : St c j.tl l W' fz' h₁ := ⟨⟨m, F₁, hm⟩, P.news N₁, s'.D, s'.O⟩
  refine comp_range ok hcell hkind s₁ R hk h0 turn done fun D C oC m' h'' tk us ys W₂ fz₂ hy' hC G hne q => ?_
  show wpAny _ c.A (PySem.assign (.Name y py) (j.I.env c.L) (.ref D)) _ _ _
  obtain ⟨m, F, hm⟩ := G.s.F
  obtain ⟨N, P, n⟩ := G.s.N.pairs
  have n2 : News c.h₀ c.L h'' ([(D, lst us), (C, oC)] ++ N) := fun p hp => (List.mem_append.mp hp).elim (G.n p) (n p)
  refine wpAny_assign_Name (storeX_L F n2 (fun h₂ F₂ n₂ => ?_) ok.kd (nameOk.kind hy).1)
  have G₂ : Cs c j.tl ((y, .ref D) :: l) W₂ fz₂ h₂ [(D, lst us), (C, oC)] := ⟨⟨⟨_, F₂, hm.store (v := .ref D) rfl⟩, P.news fun p hp => n₂ p (List.mem_append_right _ hp), G.s.D, G.s.O⟩, fun p hp => n₂ p (List.mem_append_left _ hp), G.o⟩
  exact ⟨m', hC.ns (G₂.n _ (.tail _ (.head _))).1, fun h₃ hs₃ => q D c ok h₃ g dr _ o (G₂.done hne hy' hs₃) QQ E hE K⟩
end
section
variable {j : Jp} {W fz : Led} {target elt : PySem.Expr} {ifs : List PySem.Expr} {scope : Scope} {cl : List (Str × Addr)} {F : List Vl → Led → Led → Prop} {a : Addr} {vs : List Vl}
theorem CompQ.new (Inv : List Vl → List Vl → Led → Led → Prop) (hz : vs.length ≤ 1000000) (ht : tgOk target vs) (h0 : Inv vs [] W fz) (turn : ∀ v r ys W' fz', Inv (v :: r) ys W' fz' → CTurn j scope cl target elt ifs v ys (Inv r) W' fz') (done : ∀ ys W' fz', Inv [] ys W' fz' → F ys W' fz') :
    CompQ j scope cl target elt ifs F (.ref a) ((a, dLst vs) :: W) fz := ⟨a, vs, W, Inv, rfl, .inl rfl, hz, ht, h0, turn, done⟩
theorem CompQ.T (m : (a, dLst vs) ∈ j.tl) (Inv : List Vl → List Vl → Led → Led → Prop) (hz : vs.length ≤ 1000000) (ht : tgOk target vs) (h0 : Inv vs [] W fz) (turn : ∀ v r ys W' fz', Inv (v :: r) ys W' fz' → CTurn j scope cl target elt ifs v ys (Inv r) W' fz') (done : ∀ ys W' fz', Inv [] ys W' fz' → F ys W' fz') :
    CompQ j scope cl target elt ifs F (.ref a) W fz := ⟨a, vs, W, Inv, rfl, .inr ⟨m, rfl⟩, hz, ht, h0, turn, done⟩
end
end Mine
end
section
open PySem PySem.W PyProof.Rows PySem.Calls PyProof.V
set_option maxRecDepth 100000
set_option Elab.async false
set_option linter.unusedVariables false
namespace Mine
open PyProof.Rows.LCg
theorem Keep.nil {l' : Loc} : Keep [] l' := fun y v e => by cases e
theorem Keep.step {x : Str} {v : Vl} {l l' : Loc} (h : l'.lookup x = some v) (k : Keep l l') : Keep ((x, v) :: l) l' := fun y u e => by
  rw [List.lookup_cons] at e
  cases hb : (y == x) with
  | true => rw [hb] at e; cases e; rw [beq_iff_eq] at hb; subst hb; exact h
  | false => rw [hb] at e; exact k y u e
theorem St.grow {c : Ctx} {tl : Led} {l : Loc} {W fz : Led} {h h' : Heap} (s : St c tl l W fz h) (hk : ∀ b o, h.get? b = some o → h'.get? b = some o) : St c tl l W fz h' := by
  obtain ⟨m, F, hm⟩ := s.F
  exact ⟨⟨m, F.keeps hk, hm⟩, fun p hp => by obtain ⟨o, h1, h2, h3⟩ := s.N p hp; exact ⟨o, h1, hk _ _ h2, h3⟩, s.D, s.O⟩
section
variable {j : Jp} {l : Loc} {W fz : Led} {e e' e₁ e₂ b : PySem.Expr} {v : Vl} {pos np : Pos} {rest body : List Stmt}
/- names given at once, the last one first -/
def bindS : List Str → List Vl → Loc → Loc
  | n :: ns, v :: vs, l => bindS ns vs ((n, v) :: l)
  | _, _, l => l
theorem bindAll {c : Ctx} (ok : c.Ok j) {g : Array GenState} {dr : Drawn} {o : OsState} {Q : Unit → Shared → Prop} {E : Value → Shared → Prop} : ∀ (ns : List Str) (vs : List Vl) (us : List Value) (l : Loc) (h : Heap) (t : Nat), ns.length = vs.length → ns.all (nameOk j) = true → AllIs vs us → St c j.tl l W fz h →
    (∀ h' t', St c j.tl (bindS ns vs l) W fz h' → Q () ⟨h', g, dr, t', o⟩) → wpAny (model pg j.w) c.A (assignInOrder (ns.map fun n => bindName (j.I.env c.L) n) us) Q E ⟨h, g, dr, t, o⟩ := by
  intro ns
  induction ns with
  | nil =>
    intro vs us l h t hl _ a s K
    cases a with
    | cons _ _ => cases hl
    | nil => exact assignInOrder_nil (K h t s)
  | cons n ns ih =>
    intro vs us l h t hl hn a s K
    cases a with
    | nil => cases hl
    | @cons v u vs us iu a =>
    rw [List.all_cons, Bool.and_eq_true] at hn
    obtain ⟨m, F, hm⟩ := s.F
    obtain ⟨N, P, nn⟩ := s.N.pairs
    refine assignInOrder_cons (bindName_ (storeX_L F nn (fun h' F' n' => ?_) ok.kd (nameOk.kind hn.1).1))
    exact ih vs us ((n, v) :: l) h' _ (Nat.succ.inj hl) hn.2 a ⟨⟨_, F', hm.store iu⟩, P.news n', s.D, s.O⟩ K
def SwapQ (j : Jp) (l : Loc) (names : List Str) (rest : List Stmt) (Q : Fl → Loc → Led → Led → Prop) (v : Vl) (W fz : Led) : Prop := ∃ t vs, v = .ref t ∧ (t, dTup vs) ∈ W ++ (fz ++ j.tl) ∧ names.length = vs.length ∧ JX j (bindS names.reverse vs.reverse l) W fz rest Q
theorem JX.swap {ts : List PySem.Expr} {k : Nat} {tp : Pos} {names : List Str} {Q : Fl → Loc → Led → Led → Prop} (p : JE j l W fz e (SwapQ j l names rest Q)) (hw : ∀ L, swappedStores [.Tuple ts k tp] e (j.I.env L) = Pure.pure (some names)) (hn : names.reverse.all (nameOk j) = true) (hc : notComp e = true) : JX j l W fz (.Assign [.Tuple ts k tp] e pos :: rest) Q :=
  fun c ok h g dr t₀ o s QQ E hE K => wpAny_execs_cons (Assign_Tuple_swapped (names := names) (p c ok h g dr t₀ o s _ E fun v u W' fz' h' t' iu s' q => by
    obtain ⟨t, vs, rfl, m, hl, q⟩ := q
    cases iu
    obtain ⟨o', ⟨us, n, rfl, au⟩, n1⟩ := St.has (j := j) s' m
    obtain ⟨m₀, F, hm⟩ := s'.F
    obtain ⟨N, P, nn⟩ := s'.N.pairs
    have hl' : names.length = us.toArray.size := by rw [hl, au.length]; simp
    rw [hl']
    refine unpackItems_tuple ok.hd (News.isTup n1 (.head _)) fun h₂ he => ?_
    have up : ∀ b o, h'.get? b = some o → h₂.get? b = some o := fun b o e => he b o (Nat.ne_of_lt (Heap.lt_size e)) e
    have s₂ : St c j.tl l W' fz' h₂ := ⟨⟨m₀, F.keeps up, hm⟩, P.news (nn.grown up), s'.D, s'.O⟩
    rw [List.toList_toArray]
    exact bindAll ok names.reverse vs.reverse us.reverse l h₂ _ (by rw [List.length_reverse, List.length_reverse, hl]) hn au.rev s₂ fun h₃ t₃ s₃ => q c ok h₃ g dr t₃ o s₃ QQ E hE K) (swapsSole_of hc _ _ _) (hw c.L))
theorem JX.swap2 {x y : Str} {px py : Pos} {k : Nat} {tp : Pos} {Q : Fl → Loc → Led → Led → Prop} (p : JE j l W fz e (SwapQ j l [x, y] rest Q)) (hw : ∀ L, swappedStores [.Tuple [.Name x px, .Name y py] k tp] e (j.I.env L) = Pure.pure (some [x, y])) (hn : [y, x].all (nameOk j) = true) (hc : notComp e = true) : JX j l W fz (.Assign [.Tuple [.Name x px, .Name y py] k tp] e pos :: rest) Q := JX.swap p hw hn hc
theorem JX.swap3 {x y z : Str} {px py pz : Pos} {k : Nat} {tp : Pos} {Q : Fl → Loc → Led → Led → Prop} (p : JE j l W fz e (SwapQ j l [x, y, z] rest Q)) (hw : ∀ L, swappedStores [.Tuple [.Name x px, .Name y py, .Name z pz] k tp] e (j.I.env L) = Pure.pure (some [x, y, z])) (hn : [z, y, x].all (nameOk j) = true) (hc : notComp e = true) : JX j l W fz (.Assign [.Tuple [.Name x px, .Name y py, .Name z pz] k tp] e pos :: rest) Q := JX.swap p hw hn hc
theorem SwapQ.two {x y : Str} {a b : Vl} {t : Addr} {Q : Fl → Loc → Led → Led → Prop} (q : JX j ((x, a) :: (y, b) :: l) W ((t, dTup [a, b]) :: fz) rest Q) : SwapQ j l [x, y] rest Q (.ref t) W ((t, dTup [a, b]) :: fz) := ⟨t, [a, b], rfl, List.mem_append_right _ (.head _), rfl, q⟩
theorem SwapQ.three {x y z : Str} {a b c : Vl} {t : Addr} {Q : Fl → Loc → Led → Led → Prop} (q : JX j ((x, a) :: (y, b) :: (z, c) :: l) W ((t, dTup [a, b, c]) :: fz) rest Q) : SwapQ j l [x, y, z] rest Q (.ref t) W ((t, dTup [a, b, c]) :: fz) := ⟨t, [a, b, c], rfl, List.mem_append_right _ (.head _), rfl, q⟩
/- a range whose turns change the locals -/
def RngQL (j : Jp) (l : Loc) (x : Str) (body rest : List Stmt) (Q : Fl → Loc → Led → Led → Prop) (v : Vl) (W fz : Led) : Prop :=
  ∃ (k : Nat) (lf : Nat → Loc) (I : Nat → Led → Led → Prop), v = .int k ∧ k ≤ 1000000 ∧ Keep (lf 0) l ∧ I 0 W fz ∧ (∀ i W' fz', i < k → I i W' fz' → JX j ((x, .int i) :: lf i) W' fz' body (turnQ (lf (i + 1)) (I (i + 1)) Q)) ∧ ∀ W' fz', I k W' fz' → JX j (lf k) W' fz' rest Q
theorem RngQL.mk {x : Str} {k : Nat} {Q : Fl → Loc → Led → Led → Prop} (lf : Nat → Loc) (I : Nat → Led → Led → Prop) (hk : k ≤ 1000000) (hl : Keep (lf 0) l) (h0 : I 0 W fz) (turn : ∀ i W' fz', i < k → I i W' fz' → JX j ((x, .int i) :: lf i) W' fz' body (turnQ (lf (i + 1)) (I (i + 1)) Q)) (done : ∀ W' fz', I k W' fz' → JX j (lf k) W' fz' rest Q) :
    RngQL j l x body rest Q (.int k) W fz := ⟨k, lf, I, rfl, hk, hl, h0, turn, done⟩
theorem JX.forRL {x : Str} {xp rp : Pos} {Q : Fl → Loc → Led → Led → Prop} (p : JE j l W fz e (RngQL j l x body rest Q)) (hx : nameOk j x = true) (hr : nameG j (PySem.Str.ofString "range") = true) (hs : notStar e = true) :
    JX j l W fz (.For (.Name x xp) (.Call (.Name (PySem.Str.ofString "range") np) [e] [] rp) body [] pos :: rest) Q := by
  intro c ok h g dr t₀ o s QQ E hE K
  obtain ⟨m₀, F₀, _⟩ := s.F
  refine wpAny_execs_cons (For_invVF F₀ (nameOk.kind hx).1 (by show (j.I.cs.kind == .class || (j.I.cs.kind == .module && _)) = false; rw [ok.kd]; rfl) ?_ (fun _ => rfl) hE)
  refine Call_ (nameX_B F₀ ok.K (topRead_of ok.T) (ns_range _) (v := .type "range") (by boot_by_name) (by decide) ?_ ok.kd (nameG.kind hr).1 (by decide))
  refine PySem.Pv.callWith_type1 (args_cons (p c ok h g dr t₀ o s _ E fun v u W' fz' h' t' iu s' q => args_nil ?_) (star_of hs _ _)) (star_of hs _ _) rfl
  obtain ⟨k, lf, I, rfl, hk, hl, h0, turn, done⟩ := q
  obtain ⟨_, rfl⟩ := iu
  obtain ⟨m, N, F, nn, lj⟩ := LoopJ.of (j := j) (l := lf 0) (I := I 0) (s'.keep hl) h0
  refine range1_rows F nn fun h₁ tk t₁ u₁ v₁ R F₁ N₁ _ => ?_
  refine range_loop (fun i m N => LoopJ j (lf i) c (I i) m N) ok.hd R (rangeSmall_nat (by omega)) (rangeSize_nat _) F₁ N₁ lj ?_ ?_
  · rintro i t m N I' o' h₂ tk hi ⟨W₂, fz₂, i', hm', P, D, O⟩ hI F' N'
    have hIoff := P.off hI
    have sI : St (c.hide I' o') j.tl ((x, .int i) :: lf i) W₂ fz₂ h₂ := St.hide ⟨_, F', hm'.store (v := .int i) ⟨t, by rw [Int.zero_add]⟩⟩ (P.news fun p hp => N' p (.tail _ hp)) D O (fun p hp => by rw [List.mem_singleton.mp hp]; exact N' _ (.head _)) hIoff
    refine turn i W₂ fz₂ hi i' _ (ok.hide I' o') h₂ g dr tk o sI _ E hE fun f f' l' W₃ fz₃ h₃ t₃ hf s₃ q => ?_
    exact turn_end (QQ := fun f s' => match f with | Flow.next => wpAny (model pg j.w) c.A (execs rest (j.I.env c.L)) QQ E s' | f => QQ f s') (h := h₂) (g := g) (dr := dr) (t := tk) (t' := t₃) (os := o) (I := I (i + 1)) (l := lf (i + 1)) (Q := Q) hf s₃ q (fun x hx => (hIoff x (List.mem_append_right _ (List.mem_append_right _ hx))).symm)
      (fun v u l' W' fz' h' t' iu s₃ q => K (.ret v) _ _ _ _ _ _ ⟨u, rfl, iu⟩ s₃ q)
  · rintro m N h₂ tk ⟨W₂, fz₂, i', hm', P, D, O⟩ F' N'
    exact done W₂ fz₂ i' c ok h₂ g dr tk o ⟨⟨m, F', hm'⟩, P.news N', D, O⟩ QQ E hE K
variable {Q : Vl → Led → Led → Prop}
/- expressions with effects in a part -/
theorem JE.ifE (p : JT j l W fz e (CondQ (fun W' fz' => JE j l W' fz' e₁ Q) (fun W' fz' => JE j l W' fz' e₂ Q))) : JE j l W fz (.IfExp e e₁ e₂ pos) Q := fun c ok h g dr t o s QQ E K =>
  IfExp_ (p c ok h g dr t o s _ E fun b W' fz' h' t' s' q => by
    cases b with
    | true => rw [if_pos rfl]; exact q.1 rfl c ok h' g dr t' o s' QQ E K
    | false => rw [if_neg (by decide)]; exact q.2 rfl c ok h' g dr t' o s' QQ E K)
def AddIQ (a : Int) (Q : Vl → Led → Led → Prop) (v : Vl) (W fz : Led) : Prop := ∃ b, v = .int b ∧ Q (.int (a + b)) W fz
theorem AddIQ.mk {a b : Int} (q : Q (.int (a + b)) W fz) : AddIQ a Q (.int b) W fz := ⟨b, rfl, q⟩
theorem JE.addI {a : Int} (p : PV j l W fz e (.int a)) (q : JE j l W fz e' (AddIQ a Q)) : JE j l W fz (.BinOp e .Add e' pos) Q := fun c ok h g dr t o s QQ E K =>
  wpAny_BinOp (p c ok h g dr t o s _ E fun u h' t' iu s' => q c ok h' g dr t' o s' _ E fun v u' W' fz' h'' t'' iu' s'' q' => by
    obtain ⟨b, rfl, q'⟩ := q'
    obtain ⟨_, rfl⟩ := iu
    obtain ⟨_, rfl⟩ := iu'
    exact add_int (K (.int (a + b)) _ _ _ _ _ ⟨_, rfl⟩ s'' q'))
def EqIQ (j : Jp) (l : Loc) (e' : PySem.Expr) (Q : Vl → Led → Led → Prop) (v : Vl) (W fz : Led) : Prop := ∃ a b, v = .int a ∧ PV j l W fz e' (.int b) ∧ Q (.bool (a == b)) W fz
theorem EqIQ.mk {a b : Int} (p : PV j l W fz e' (.int b)) (q : Q (.bool (a == b)) W fz) : EqIQ j l e' Q (.int a) W fz := ⟨a, b, rfl, p, q⟩
theorem JE.eqI (p : JE j l W fz e (EqIQ j l e' Q)) (hb : behindInMarks .Eq e' = false) : JE j l W fz (.Compare e [.Eq] [e'] pos) Q := fun c ok h g dr t o s QQ E K =>
  wpAny_Compare1 (p c ok h g dr t o s _ E fun v u W' fz' h' t' iu s' q => by
    obtain ⟨a, b, rfl, q, q'⟩ := q
    obtain ⟨_, rfl⟩ := iu
    refine q c ok h' g dr t' o s' _ E fun u' h'' t'' iu' s'' => ?_
    obtain ⟨_, rfl⟩ := iu'
    exact eq_int (K (.bool (a == b)) _ _ _ _ _ rfl s'' q')) hb
theorem PV.max {a b : Int} (p : PL j l W fz [e, e'] [.int a, .int b]) (hx : nameG j (PySem.Str.ofString "max") = true) (hs : notStar e = true) (hs' : [e'].all notStar = true) : PV j l W fz (.Call (.Name (PySem.Str.ofString "max") np) [e, e'] [] pos) (.int (if b > a then b else a)) := by
  intro c ok h g dr t o s QQ E K
  obtain ⟨m₀, F, hm⟩ := s.F
  refine Call_ (nameX_B F ok.K (topRead_of ok.T) (ns_max _) (v := .builtin "max") (by boot_by_name) (by decide) ?_ ok.kd (nameG.kind hx).1 (by decide))
  refine callWith_builtin1 (p c ok h g dr t o s _ _ E fun us h' t' a s' => ?_) (star_of hs _ _) (stars_none hs' _ _)
  cases a with
  | cons ia a =>
  cases a with
  | cons ib a =>
  cases a
  obtain ⟨_, rfl⟩ := ia
  obtain ⟨_, rfl⟩ := ib
  refine max_two_ints ok.hd fun h₁ tk k₁ => ?_
  have s₁ := s'.grow k₁
  refine K _ _ _ ?_ s₁
  split
  · exact ⟨_, rfl⟩
  · exact ⟨_, rfl⟩
/- dicts made -/
def dEmp (w : World) : Dsc := fun o => o.IsDictOf (strKind pg w) [] ∧ o.IsDictOf (intKind pg w) []
theorem JE.dict0 (q : ∀ d, (d == sysModules) = false → Q (.ref d) ((d, dEmp j.w) :: W) fz) : JE j l W fz (.Dict [] [] pos) Q := by
  intro c ok h g dr t o s QQ E K
  obtain ⟨m, F, hm⟩ := s.F
  obtain ⟨N, P, n⟩ := s.N.pairs
  exact newDict_K F n ok.T.nolimit fun d h' o' F' N' l1 lo hs _ hi _ => K (.ref d) _ _ _ _ _ rfl (s.alloc P F' hm N' l1 ⟨hs, hi⟩) (q d lo)
inductive LitR : List (Option PySem.Expr) → List PySem.Expr → List SRow → Prop
  | nil : LitR [] [] []
  | cons {n : Int} {x : Str} {k k' : Nat} {p p' : Pos} {ks vs R} (a : Nat) (kd : Kd) : n = (a : Int) → x = kd.str → LitR ks vs R → LitR (some (.Constant (.int n) k p) :: ks) (.Constant (.str x) k' p' :: vs) ((a, kd) :: R)
theorem LitR.len {ks : List (Option PySem.Expr)} {vs : List PySem.Expr} {R : List SRow} (h : LitR ks vs R) : ks.length = vs.length ∧ ks.all (·.isSome) = true ∧ ks.length = R.length := by
  induction h with
  | nil => exact ⟨rfl, rfl, rfl⟩
  | cons _ _ _ _ _ ih => exact ⟨congrArg (· + 1) ih.1, ih.2.1, congrArg (· + 1) ih.2.2⟩
theorem LitR.eval {w : World} {A : Around} {env : Env} {E : Value → Shared → Prop} {ks : List (Option PySem.Expr)} {vs : List PySem.Expr} {R : List SRow} (h : LitR ks vs R) : ∀ (s : Shared) (pos : Pos) (Q : List (Value × Value) → Shared → Prop),
    (∀ ps tk, allIntKeys ps = true → KvR (intKeyPairs ps) R → (intKeyPairs ps).map (·.1) = R.map (fun r => (r.1 : Int)) → Q ps { s with toks := tk }) → wpAny (model pg w) A (evalPairs (pairTrees ks vs env pos)) Q E s := by
  induction h with
  | nil => intro s pos Q K; exact pairTrees_nil_walk (K [] s.toks rfl .nil rfl)
  | cons a kd hn hx _ ih =>
    subst hn hx
    intro s pos Q K
    refine pairTrees_cons_walk (wpAny_Constant_int (Constant_str ?_))
    refine ih _ _ _ fun ps tk h1 h2 h3 => K _ tk ?_ ?_ ?_
    · exact h1
    · exact KvR.cons h2
    · show (a : Int) :: (intKeyPairs ps).map (·.1) = _
      rw [h3]; rfl
theorem JE.dictK {ks : List (Option PySem.Expr)} {vs : List PySem.Expr} {R : List SRow} (hL : LitR ks vs R) (h0 : R ≠ []) (hn : (R.map (fun r => (r.1 : Int))).Nodup) (hz : R.length ≤ 15) (q : ∀ d, (d == sysModules) = false → Q (.ref d) ((d, dKd j.w R) :: W) fz) : JE j l W fz (.Dict ks vs pos) Q := by
  intro c ok h g dr t o s QQ E K
  obtain ⟨m, F, hm⟩ := s.F
  obtain ⟨N, P, n⟩ := s.N.pairs
  obtain ⟨l1, l2, l3⟩ := hL.len
  refine kdn_eval (knd := intKind pg j.w) F n ok.T.nolimit l2 l1 (fun e => h0 (by rw [e] at l3; exact List.length_eq_zero_iff.mp l3.symm)) (by omega) fun d h' o' F' N' lt lo hd => ?_
  refine hL.eval _ _ _ fun ps tk p1 p2 p3 => ?_
  refine kdn_made_int F' N' (.head fun q hq => Nat.ne_of_lt (lt q hq)) hd p1 (by rw [p3]; exact hn) fun h₂ o₂ F₂ N₂ hd₂ => ?_
  exact K (.ref d) _ _ _ _ _ rfl (s.alloc P F₂ hm N₂ lt ⟨_, hd₂, p2⟩) (q d lo)
/-- a name in an empty dict -/
theorem PC.inE {d : Addr} {x : Str} (p : PV j l W fz e (.str x)) (q : PV j l W fz e' (.ref d)) (m : (d, dEmp j.w) ∈ W ++ (fz ++ j.tl)) (lo : (d == sysModules) = false) : PC j l W fz .In e e' false := fun c ok h g dr t o s QQ E K =>
  p c ok h g dr t o s _ E fun u h' t' iu s' => q c ok h' g dr t' o s' _ E fun u' h'' t'' iu' s'' => by
    obtain ⟨_, rfl⟩ := iu
    cases iu'
    obtain ⟨o', ⟨h1, h2⟩, n1⟩ := St.has s'' m
    exact in_strTab (TabAt.ofNews n1 (.head _) lo h1 .nil) (K _ _ s'')
/- lists made of others -/
theorem ns_list (w : World) : nsIn (Mine.hk.heap_1 w.params) mainGlobals (PySem.Str.ofString "list") = some none := by rfl
theorem JE.copy {a : Addr} {vs : List Vl} (p : PV j l W fz e (.ref a)) (m : (a, dLst vs) ∈ W ++ (fz ++ j.tl)) (hz : vs.length ≤ 1000000) (hx : nameG j (PySem.Str.ofString "list") = true) (hs : notStar e = true) (q : ∀ D, Q (.ref D) ((D, dLst vs) :: W) fz) : JE j l W fz (.Call (.Name (PySem.Str.ofString "list") np) [e] [] pos) Q := by
  intro c ok h g dr t o s QQ E K
  obtain ⟨m₀, F, _⟩ := s.F
  refine Call_ (nameX_B F ok.K (topRead_of ok.T) (ns_list _) (v := .type "list") (by boot_by_name) (by decide) ?_ ok.kd (nameG.kind hx).1 (by decide))
  refine PySem.Pv.callWith_type1 (args_cons (p c ok h g dr t o s _ E fun u h' t' iu s' => args_nil ?_) (star_of hs _ _)) (star_of hs _ _) rfl
  cases iu
  obtain ⟨m', F', hm'⟩ := s'.F
  obtain ⟨N, P, n⟩ := s'.N.pairs
  obtain ⟨o₂, ⟨us, n₂, rfl, au⟩, n3⟩ := P.mem (memX m)
  exact copy_own F' n n3 (au.length ▸ hz) fun D cc h₃ F₃ N₃ new => K (.ref D) _ _ _ _ _ rfl (s'.alloc (d := dLst vs) P F₃ hm' N₃ new ⟨us, cc, rfl, au⟩) (q D)
/-- list(range(1, 1)) -/
theorem JE.range0 {rp np' : Pos} (p : PL j l W fz [e, e'] [.int 1, .int 1]) (hx : nameG j (PySem.Str.ofString "list") = true) (hr : nameG j (PySem.Str.ofString "range") = true) (hs : notStar e = true) (hs' : [e'].all notStar = true) (q : ∀ D, Q (.ref D) ((D, dLst []) :: W) fz) :
    JE j l W fz (.Call (.Name (PySem.Str.ofString "list") np) [.Call (.Name (PySem.Str.ofString "range") np') [e, e'] [] rp] [] pos) Q := by
  intro c ok h g dr t o s QQ E K
  obtain ⟨m₀, F, _⟩ := s.F
  refine Call_ (nameX_B F ok.K (topRead_of ok.T) (ns_list _) (v := .type "list") (by boot_by_name) (by decide) ?_ ok.kd (nameG.kind hx).1 (by decide))
  refine PySem.Pv.callWith_type1 (args_cons ?_ (star_of rfl _ _)) (star_of rfl _ _) rfl
  refine Call_ (nameX_B F ok.K (topRead_of ok.T) (ns_range _) (v := .type "range") (by boot_by_name) (by decide) ?_ ok.kd (nameG.kind hr).1 (by decide))
  refine PySem.Pv.callWith_type1 (p c ok h g dr t o s _ _ E fun us h' t' a s' => ?_) (star_of hs _ _) (stars_none hs' _ _)
  cases a with
  | cons ia a =>
  cases a with
  | cons ib a =>
  cases a
  obtain ⟨_, rfl⟩ := ia
  obtain ⟨_, rfl⟩ := ib
  obtain ⟨m', F', hm'⟩ := s'.F
  obtain ⟨N, P, n⟩ := s'.N.pairs
  refine range2_rows F' n fun h₁ tk t₁ u₁ v₁ R F₁ N₁ _ => args_nil ?_
  have s₁ : St c j.tl l W fz h₁ := ⟨⟨m', F₁, hm'⟩, P.news N₁, s'.D, s'.O⟩
  exact range0_own ok.hd F₁ N₁ R fun D cc h₃ tk F₃ N₃ new => K (.ref D) _ _ _ _ _ rfl (s₁.alloc (d := dLst []) P F₃ hm' N₃ new ⟨[], cc, rfl, .nil⟩) (q D)
/-- a name that a comprehension below captures -/
theorem PV.cell {x : Str} {a : Addr} (hc : ∀ L, (j.I.cl L).lookup x = some a) (m : (a, dCell v) ∈ W ++ (fz ++ j.tl)) (hk : (j.I.cs.names.lookup x == some .cell && !(x == ("__debug__" : Str))) = true) : PV j l W fz (.Name x pos) v := by
  intro c ok h g dr t o s QQ E K
  rw [Bool.and_eq_true] at hk
  obtain ⟨o', ⟨u, hd', iu⟩, n1⟩ := St.has s m
  exact nameX_C n1 (hc c.L) (.head _) hd' (K u h t iu s) ok.kd (beq_iff_eq.mp hk.1) (by simpa using hk.2)
end
theorem JC.enterC {w : World} {d u : Nat} {tl W fz : Led} {f : Addr} {vs : List Vl} {Q : Vl → Led → Led → Prop} {name qual : Str} {params : Arguments} {body : List Stmt} {scope : Scope} {dV kV doc pm cdv ct oc : Value} {an od : Option Addr} {osl : Array (Option Value)} {l0 : Loc} {nm : Str} {v0 : Vl}
    (ho : (Mine.hk.heap_1 w.params).lookup f = some ⟨oc, od, .func (fnOf name qual params body scope dV kV doc pm an cdv ct), osl⟩) (hcd : codeIn (Mine.hk.heap_1 w.params) cdv qual = true) (hd : Nat.blt d recursionLimit = true)
    (hb : ∀ us, AllIs vs us → ∃ bs u0, (∀ s : Shared, (Mine.hk.heap_1 w.params).In s.heap → BindsTo s (fnOf name qual params body scope dV kV doc pm an cdv ct) ⟨us, []⟩ bs) ∧ v0.is u0 ∧ LocIs l0 (bindL (fun x => scope.names.lookup x) bs fun _ => none) ∧ bindC (fun x => scope.names.lookup x) bs (fun _ => none) nm = some u0 ∧ (bs.all fun y => scope.names.lookup y.1 == some .local || scope.names.lookup y.1 == some .cell) = true)
    (hnd : ((cellsFrom 0 scope.names []).map (·.1)).Nodup) (hcl : ∀ n, cellsFrom n scope.names [] = [(nm, n)])
    (hco : scope.isCoroutine = false) (hgen : scope.isGenerator = false) (hk : scope.kind = .function)
    (H : ∀ x, JX ⟨w, d + 1, u + 3, ⟨qual, scope, f, cdv, fun _ => [(nm, x)]⟩, (x, dCell v0) :: tl⟩ l0 W fz body (retQ Q)) : JC w d u tl W fz f vs Q := by
  intro I l c ok h g dr t o s us a QQ E K
  obtain ⟨bs, u0, hB, iu0, hl, hc0, hall⟩ := hb us a
  obtain ⟨m, F, hm⟩ := s.F
  obtain ⟨N, P, n⟩ := s.N.pairs
  have hdp : c.A.depth < recursionLimit := Nat.lt_of_le_of_lt ok.dp (by simpa [Nat.blt_eq] using hd)
  refine wpAny_call (code_defC ok.B F ok.K n ok.T ok.fr rfl ok.kd ho hcd hdp (hB _ (ok.K.keeps F.keep)) hall hnd (fun G L' h₁ tk cells FG F' N' Y B' X' T' lt => ?_) hco hgen hk)
  have eE : envOfC qual scope L' f cdv = envX qual scope L' f cdv [(nm, L' + 1)] := by
    show envX qual scope L' f cdv (cellsFrom (L' + 1) scope.names []) = _
    rw [hcl]
  rw [hcl] at Y
  rw [eE]
  obtain ⟨oc', rfl, hcd'⟩ := Y.one
  have hcd2 : oc'.data = .cell (some u0) := hcd'.trans (congrArg _ hc0)
  have hoff : ∀ q ∈ W ++ (fz ++ (tl ++ c.X)), L' + 1 ≠ q.1 := P.off fun q hq => Nat.ne_of_lt (Nat.lt_succ_of_lt (lt q hq))
  have s₁ : St ⟨c.A.deeper (envX qual scope L' f cdv [(nm, L' + 1)]), c.A, c.base, G, I.env c.L :: c.outer, L', c.mg, c.mb, c.p, c.loose, c.mean, c.X⟩ ((L' + 1, dCell v0) :: tl) l0 W fz h₁ := by
    refine ⟨⟨_, F', hl⟩, fun p hp => ?_, ⟨s.D.1, fun p hp q hq => ?_⟩, fun p hp q hq => ?_⟩
    · have hp' : p = (L' + 1, dCell v0) ∨ p ∈ W ++ (fz ++ (tl ++ c.X)) := by
        rcases List.mem_append.mp hp with hp | hp
        · exact .inr (List.mem_append_left _ hp)
        · rcases List.mem_append.mp hp with hp | hp
          · exact .inr (List.mem_append_right _ (List.mem_append_left _ hp))
          · rcases List.mem_cons.mp hp with hp | hp
            · exact .inl hp
            · exact .inr (List.mem_append_right _ (List.mem_append_right _ hp))
      rcases hp' with rfl | hp
      · exact ⟨oc', ⟨u0, hcd2, iu0⟩, N' _ (.head _)⟩
      · exact P.news (fun q hq => N' q (.tail _ hq)) p hp
    · rcases List.mem_append.mp hq with hq | hq
      · exact s.D.2 p hp q (List.mem_append_left _ hq)
      · rcases List.mem_cons.mp hq with rfl | hq
        · exact (hoff p (List.mem_append_left _ hp)).symm
        · exact s.D.2 p hp q (List.mem_append_right _ hq)
    · rcases List.mem_cons.mp hq with rfl | hq
      · exact (hoff p (List.mem_append_right _ (List.mem_append_left _ hp))).symm
      · exact s.O p hp q hq
  refine H (L' + 1) ⟨c.A.deeper (envX qual scope L' f cdv [(nm, L' + 1)]), c.A, c.base, G, I.env c.L :: c.outer, L', c.mg, c.mb, c.p, c.loose, c.mean, c.X⟩ ⟨B', X', T', Around.frames_deeper ok.fr, ok.hd, hk, Nat.add_le_add_right ok.dp 1, Nat.add_le_add_right ok.un 3⟩ _ _ _ _ _ s₁ _ _ PassesOwn.leaving fun fl f' l' W' fz' h' t' hf s' q => ?_
  obtain ⟨m', F'', hm'⟩ := s'.F
  obtain ⟨N'', P', n'⟩ := s'.N.pairs
  refine leaveK_ F'' n' fun Fb Nb => ?_
  have back : St c tl l W' fz' h' := ⟨⟨m, Fb, hm⟩, (P'.news Nb).mono fun p hp => by
      rcases List.mem_append.mp hp with hp | hp
      · exact List.mem_append_left _ hp
      · rcases List.mem_append.mp hp with hp | hp
        · exact List.mem_append_right _ (List.mem_append_left _ hp)
        · exact List.mem_append_right _ (List.mem_append_right _ (.tail _ hp)), ⟨s'.D.1, fun p hp q hq => s'.D.2 p hp q (by
      rcases List.mem_append.mp hq with hq | hq
      · exact List.mem_append_left _ hq
      · exact List.mem_append_right _ (.tail _ hq))⟩, fun p hp q hq => s'.O p hp q (.tail _ hq)⟩
  cases fl with
  | ret v => obtain ⟨x, rfl, ix⟩ := hf; exact K v x W' fz' h' t' ix back q
  | next => cases hf; exact K .none _ W' fz' h' t' rfl back q
  | brk => cases hf; exact K .none _ W' fz' h' t' rfl back q
  | cont => cases hf; exact K .none _ W' fz' h' t' rfl back q
end Mine
end
section
open PySem PySem.W PyProof.Rows PySem.Calls PyProof.V
set_option maxRecDepth 100000
set_option Elab.async false
set_option linter.unusedVariables false
namespace Mine
/-- a state seen another way: in another order, less of it, more of it frozen -/
def Arr (W fz W' fz' : Led) : Prop := ∀ (c : Ctx) (tl : Led) (l : Loc) (h : Heap), St c tl l W fz h → St c tl l W' fz' h
section
variable {W fz W' fz' : Led} {p : Addr × Dsc}
theorem Arr.refl : Arr W fz W fz := fun _ _ _ _ s => s
theorem Arr.frz (i : Nat) (e : W[i]? = some p) (r : Arr (W.eraseIdx i) (p :: fz) W' fz') : Arr W fz W' fz' := fun c tl l h s => r c tl l h (St.freeze s e)
theorem Arr.sel {Wc Wr : Led} (sel : Sel W Wc Wr) (r : Arr (Wc ++ Wr) fz W' fz') : Arr W fz W' fz' := fun c tl l h s =>
  r c tl l h ⟨s.F, s.N.mono fun p hp => (List.mem_append.mp hp).elim (fun hp => List.mem_append_left _ (sel.perm.mem_iff.mpr hp)) fun hp => List.mem_append_right _ hp, s.D.perm sel.perm, s.O⟩
theorem Arr.drop {Wc Wr : Led} (sel : Sel W Wc Wr) (r : Arr Wc fz W' fz') : Arr W fz W' fz' := fun c tl l h s => by
  have D := Dis.iff.mp (s.D.perm sel.perm)
  have D1 := List.pairwise_append.mp D.1
  refine r c tl l h ⟨s.F, s.N.mono fun p hp => ?_, Dis.iff.mpr ⟨D1.1, fun p hp => D.2 p (List.mem_append_left _ hp)⟩, s.O⟩
  rcases List.mem_append.mp hp with hp | hp
  · exact List.mem_append_left _ (sel.perm.mem_iff.mpr (List.mem_append_left _ hp))
  · exact List.mem_append_right _ hp
theorem St.weak {c : Ctx} {tl : Led} {l : Loc} {h : Heap} (s : St c tl l W fz h) {i : Nat} {a : Addr} {D D' : Dsc} (e : W[i]? = some (a, D)) (hD : ∀ o, D o → D' o) : St c tl l (W.set i (a, D')) fz h :=
  ⟨s.F, fun p hp => by
    have hi : i < W.length := (List.getElem?_eq_some_iff.mp e).1
    rw [← List.set_append_left _ _ hi] at hp
    obtain ⟨k, hk⟩ := List.getElem?_of_mem hp
    by_cases hik : i = k
    · subst hik
      rw [List.getElem?_set_self (by rw [List.length_append]; omega)] at hk
      cases hk
      obtain ⟨o₁, h1, h2⟩ := s.N (a, D) (List.mem_append_left _ (List.mem_of_getElem? e))
      exact ⟨o₁, hD _ h1, h2⟩
    · rw [List.getElem?_set_ne hik] at hk
      exact s.N p (List.mem_of_getElem? hk), s.D.set e, s.O⟩
theorem Arr.weak (i : Nat) {a : Addr} {D D' : Dsc} (e : W[i]? = some (a, D)) (hD : ∀ o, D o → D' o) (r : Arr (W.set i (a, D')) fz W' fz') : Arr W fz W' fz' := fun c tl l h s => r c tl l h (s.weak e hD)
theorem JX.arr {j : Jp} {l : Loc} {ss : List Stmt} {Q : Fl → Loc → Led → Led → Prop} (a : Arr W fz W' fz') (q : JX j l W' fz' ss Q) : JX j l W fz ss Q := fun c ok h g dr t o s QQ E hE K => q c ok h g dr t o (a _ _ _ _ s) QQ E hE K
theorem JC.arr {w : World} {d u : Nat} {tl : Led} {f : Addr} {vs : List Vl} {Q : Vl → Led → Led → Prop} (H : JC w d u tl W fz f vs (fun v W₁ fz₁ => ∃ W₂ fz₂, Arr W₁ fz₁ W₂ fz₂ ∧ Q v W₂ fz₂)) : JC w d u tl W fz f vs Q :=
  fun I l c ok h g dr t o s us a QQ E K => H I l c ok h g dr t o s us a QQ E fun v u W' fz' h' t' iu s' q => by
    obtain ⟨W₂, fz₂, ar, q⟩ := q
    exact K v u _ _ h' t' iu (ar _ _ _ _ s') q
end
theorem dEmp.spot {w : World} {G : Led} : ∀ o, dEmp w o → dSpot w G 0 o := fun o h => by
  obtain ⟨es, ep, he, hd, _, hp, _⟩ := h.2
  refine ⟨he, es, ep, [], hd, ?_, List.nodup_nil, (fun _ h => nomatch h), Nat.le_refl _⟩
  cases e : es.toList with
  | nil => rfl
  | cons x r => rw [e] at hp; cases hp
theorem JE.range1 {j : Jp} {l : Loc} {W fz : Led} {e e' : PySem.Expr} {np np' rp pos : Pos} {a b : Int} {Q : Vl → Led → Led → Prop} (p : PL j l W fz [e, e'] [.int a, .int b]) (ha : a = 1) (hb : b = 1) (hx : nameG j (PySem.Str.ofString "list") = true) (hr : nameG j (PySem.Str.ofString "range") = true) (hs : notStar e = true) (hs' : [e'].all notStar = true) (q : ∀ D, Q (.ref D) ((D, dLst []) :: W) fz) :
    JE j l W fz (.Call (.Name (PySem.Str.ofString "list") np) [.Call (.Name (PySem.Str.ofString "range") np') [e, e'] [] rp] [] pos) Q := by
  subst ha hb
  exact JE.range0 p hx hr hs hs' q
/- names bound at a call, some to what is given else -/
theorem bind1d {w : World} {fd : FuncData} {names : List (Str × NameKind)} {x0 x1 : Str} {v0 : Vl} (e : ∀ u0 (s : Shared), (Mine.hk.heap_1 w.params).In s.heap → BindsTo s fd ⟨[u0], []⟩ [(x0, u0), (x1, .none)]) (k : [x0, x1].all (fun x => names.lookup x == some .local) = true) :
    ∀ us, AllIs [v0] us → ∃ bs, (∀ s : Shared, (Mine.hk.heap_1 w.params).In s.heap → BindsTo s fd ⟨us, []⟩ bs) ∧ LsIs [(x1, .none), (x0, v0)] bs.reverse ∧ ∀ y ∈ bs, names.lookup y.1 = some .local := by
  intro us a
  cases a with
  | cons a0 a =>
  cases a
  simp only [List.all_cons, List.all_nil, Bool.and_eq_true, beq_iff_eq, and_true] at k
  obtain ⟨k0, k1⟩ := k
  refine ⟨_, fun s X => e _ s X, .cons rfl (.cons a0 .nil), fun y hy => ?_⟩
  simp only [List.mem_cons, List.not_mem_nil, or_false] at hy
  rcases hy with rfl | rfl
  · exact k0
  · exact k1
theorem bind4d {w : World} {fd : FuncData} {names : List (Str × NameKind)} {x0 x1 x2 x3 x4 x5 : Str} {v0 v1 v2 v3 : Vl} (e : ∀ u0 u1 u2 u3 (s : Shared), (Mine.hk.heap_1 w.params).In s.heap → BindsTo s fd ⟨[u0, u1, u2, u3], []⟩ [(x0, u0), (x1, u1), (x2, u2), (x3, u3), (x4, .none), (x5, .none)]) (k : [x0, x1, x2, x3, x4, x5].all (fun x => names.lookup x == some .local) = true) :
    ∀ us, AllIs [v0, v1, v2, v3] us → ∃ bs, (∀ s : Shared, (Mine.hk.heap_1 w.params).In s.heap → BindsTo s fd ⟨us, []⟩ bs) ∧ LsIs [(x5, .none), (x4, .none), (x3, v3), (x2, v2), (x1, v1), (x0, v0)] bs.reverse ∧ ∀ y ∈ bs, names.lookup y.1 = some .local := by
  intro us a
  cases a with
  | cons a0 a =>
  cases a with
  | cons a1 a =>
  cases a with
  | cons a2 a =>
  cases a with
  | cons a3 a =>
  cases a
  simp only [List.all_cons, List.all_nil, Bool.and_eq_true, beq_iff_eq, and_true] at k
  obtain ⟨k0, k1, k2, k3, k4, k5⟩ := k
  refine ⟨_, fun s X => e _ _ _ _ s X, .cons rfl (.cons rfl (.cons a3 (.cons a2 (.cons a1 (.cons a0 .nil))))), fun y hy => ?_⟩
  simp only [List.mem_cons, List.not_mem_nil, or_false] at hy
  rcases hy with rfl | rfl | rfl | rfl | rfl | rfl
  · exact k0
  · exact k1
  · exact k2
  · exact k3
  · exact k4
  · exact k5
theorem bind6 {w : World} {fd : FuncData} {names : List (Str × NameKind)} {x0 x1 x2 x3 x4 x5 : Str} {v0 v1 v2 v3 v4 v5 : Vl} (e : ∀ u0 u1 u2 u3 u4 u5, bindArgs fd ⟨[u0, u1, u2, u3, u4, u5], []⟩ = pure [(x0, u0), (x1, u1), (x2, u2), (x3, u3), (x4, u4), (x5, u5)]) (k : [x0, x1, x2, x3, x4, x5].all (fun x => names.lookup x == some .local) = true) :
    ∀ us, AllIs [v0, v1, v2, v3, v4, v5] us → ∃ bs, (∀ s : Shared, (Mine.hk.heap_1 w.params).In s.heap → BindsTo s fd ⟨us, []⟩ bs) ∧ LsIs [(x5, v5), (x4, v4), (x3, v3), (x2, v2), (x1, v1), (x0, v0)] bs.reverse ∧ ∀ y ∈ bs, names.lookup y.1 = some .local := by
  intro us a
  cases a with
  | cons a0 a =>
  cases a with
  | cons a1 a =>
  cases a with
  | cons a2 a =>
  cases a with
  | cons a3 a =>
  cases a with
  | cons a4 a =>
  cases a with
  | cons a5 a =>
  cases a
  simp only [List.all_cons, List.all_nil, Bool.and_eq_true, beq_iff_eq, and_true] at k
  obtain ⟨k0, k1, k2, k3, k4, k5⟩ := k
  refine ⟨_, fun s _ => BindsTo.of_eq (e _ _ _ _ _ _), .cons a5 (.cons a4 (.cons a3 (.cons a2 (.cons a1 (.cons a0 .nil))))), fun y hy => ?_⟩
  simp only [List.mem_cons, List.not_mem_nil, or_false] at hy
  rcases hy with rfl | rfl | rfl | rfl | rfl | rfl
  · exact k0
  · exact k1
  · exact k2
  · exact k3
  · exact k4
  · exact k5
end Mine
end
open PySem PySem.W PyProof.Rows PySem.Calls
namespace Mine
theorem mCons {fz tl : Led} {x p : Addr × Dsc} (h : x ∈ fz ++ tl) : x ∈ (p :: fz) ++ tl := .tail _ h
theorem mApp {nz fz tl : Led} {x : Addr × Dsc} (h : x ∈ fz ++ tl) : x ∈ (nz ++ fz) ++ tl := by rw [List.append_assoc]; exact List.mem_append_right _ h
local macro_rules | `(tactic| kgr_look) => `(tactic| first | exact rfl | with_reducible assumption)
local macro_rules | `(tactic| kdl_here) => `(tactic| first | exact mAt 0 rfl | exact mAt 1 rfl | exact mAt 2 rfl | exact mAt 3 rfl | exact mAt 4 rfl | exact mAt 5 rfl | exact mAt 6 rfl | exact mAt 7 rfl | exact mAt 8 rfl | exact mAt 9 rfl | exact mAt 10 rfl | exact mAt 11 rfl | exact mAt 12 rfl | exact mAt 13 rfl | exact mAt 14 rfl | exact mAt 15 rfl | exact mAt 16 rfl | exact mAt 17 rfl | exact mAt 18 rfl | exact mAt 19 rfl | exact mTl (by with_reducible assumption) | exact mFz (by with_reducible assumption) | with_reducible assumption | exact mFz (by repeat (first | with_reducible assumption | with_reducible refine mCons ?_ | with_reducible refine mApp ?_)))
local macro_rules | `(tactic| keq_here) => `(tactic| first | with_reducible assumption | exact IxV.last | exact IxV.zero | exact IxV.one | exact IxV.two | exact IxV.three | exact IxV.mid rfl (by assumption))
local macro_rules | `(tactic| kmod_here) => `(tactic| first | exact Nat.le_of_ble_eq_true rfl | exact Nat.succ_ne_zero _ | with_reducible assumption | ((try simp only [List.length_append, List.length_cons, List.length_nil]); omega))
local macro_rules | `(tactic| kda_here) => `(tactic| (refine ?zmain; first
  | ((with_reducible refine' PT.cmp ?zp ?zk); (case zk => exact (Eq.refl false)); (case zp => kda_here))
  | ((with_reducible refine' PC.eqI ?zp ?zq); (case zp => kob_here); (case zq => kob_here))
  | ((with_reducible refine' PC.eqS ?zp ?zq); (case zp => kob_here); (case zq => kob_here))
  | ((with_reducible refine' PC.neI ?zp ?zq); (case zp => kob_here); (case zq => kob_here))
  | ((with_reducible refine' PC.neS ?zp ?zq); (case zp => kob_here); (case zq => kob_here))
  | ((with_reducible refine' PC.ltI ?zp ?zq); (case zp => kob_here); (case zq => kob_here))
  | ((with_reducible refine' PC.gtI ?zp ?zq); (case zp => kob_here); (case zq => kob_here))
  | ((with_reducible refine' PC.geI ?zp ?zq); (case zp => kob_here); (case zq => kob_here))
  | ((with_reducible refine' PC.neB ?zp ?zq); (case zp => kob_here); (case zq => kob_here))
  | ((with_reducible refine' PC.inS2 ?zp ?zq ?zr ?zk ?zl); (case zk => exact (Eq.refl true)); (case zl => exact (Eq.refl true)); (case zp => kob_here); (case zq => kob_here); (case zr => kob_here))
  | ((with_reducible refine' PC.eqN ?zp ?zm ?zb ?zk); (case zk => exact (Eq.refl true)); (case zp => kob_here); (case zm => kdl_here); (case zb => first | with_reducible assumption | exact rfl))
  | ((with_reducible refine' PC.neN ?zp ?zm ?zb ?zk); (case zk => exact (Eq.refl true)); (case zp => kob_here); (case zm => kdl_here); (case zb => first | with_reducible assumption | exact rfl))
  | ((with_reducible refine' PC.neD ?zp ?zq ?za ?zb ?zc ?zd ?ze ?zk); (case zk => exact (Eq.refl true)); (case zp => kob_here); (case zq => kob_here); (case za => kdl_here); (case zb => kdl_here); (case zc => with_reducible assumption); (case zd => with_reducible assumption); (case ze => with_reducible assumption))
  | ((with_reducible refine' PC.eqD ?zp ?zq ?za ?zb ?zc ?zd ?ze ?zk); (case zk => exact (Eq.refl true)); (case zp => kob_here); (case zq => kob_here); (case za => kdl_here); (case zb => kdl_here); (case zc => with_reducible assumption); (case zd => with_reducible assumption); (case ze => with_reducible assumption))
  | ((with_reducible refine' PC.inK ?zp ?zq ?zm ?zl); (case zq => kob_here); (case zm => kdl_here); (case zl => with_reducible assumption); (case zp => kob_here))
  | ((with_reducible refine' PC.inE ?zp ?zq ?zm ?zl); (case zp => kob_here); (case zq => kob_here); (case zm => kdl_here); (case zl => with_reducible assumption))
  | ((with_reducible refine' PC.isN ?zp ?zq); (case zp => kob_here); (case zq => kob_here))
  | ((with_reducible refine' PT.bop ?zp); (case zp => kda_here))
  | with_reducible exact PO.orN | with_reducible exact PO.andN
  | ((with_reducible refine' PO.or ?zp ?zq); (case zp => kda_here); (case zq => kda_here))
  | ((with_reducible refine' PO.and ?zp ?zq); (case zp => kda_here); (case zq => kda_here))))
local macro_rules | `(tactic| kob_here) => `(tactic| (refine ?zmain; first
  | ((with_reducible refine' PV.name ?zp ?zk); (case zk => exact (Eq.refl true)); (case zp => exact rfl))
  | with_reducible exact PV.int | with_reducible exact PV.str | with_reducible exact PV.bool | with_reducible exact PV.none
  | ((with_reducible refine' PV.attr ?zp ?za ?zb ?zc ?zd ?ze ?zf ?zg ?zk); (case zk => exact (Eq.refl true)); (case zp => kob_here); (case za => kdl_here); (case zb => kdl_here); (case zc => first | exact rfl | assumption); (case zd => k_is); (case ze => k_is); (case zf => k_is); (case zg => k_is))
  | ((with_reducible refine' PV.item ?zp ?zq ?zm ?zi ?zk); (case zk => exact (Eq.refl true)); (case zp => kob_here); (case zm => kdl_here); (case zq => kob_here); (case zi => keq_here))
  | ((with_reducible refine' PV.itemT ?zp ?zq ?zm ?zi ?zk); (case zk => exact (Eq.refl true)); (case zp => kob_here); (case zm => kdl_here); (case zq => kob_here); (case zi => keq_here))
  | ((with_reducible refine' PV.len ?zp ?zm ?zz ?zk ?zl); (case zk => exact (Eq.refl true)); (case zl => exact (Eq.refl true)); (case zp => kob_here); (case zm => kdl_here); (case zz => kmod_here))
  | ((with_reducible refine' PV.add ?zp ?zq); (case zp => kob_here); (case zq => kob_here))
  | ((with_reducible refine' PV.sub ?zp ?zq); (case zp => kob_here); (case zq => kob_here))
  | ((with_reducible refine' PV.neg ?zp); (case zp => kob_here))
  | ((with_reducible refine' PV.toInt ?zp ?zk ?zl); (case zk => exact (Eq.refl true)); (case zl => exact (Eq.refl true)); (case zp => kob_here))
  | ((with_reducible refine' PV.bitInt ?zp ?zk ?zl); (case zk => exact (Eq.refl true)); (case zl => exact (Eq.refl true)); (case zp => kob_here))
  | ((with_reducible refine' PV.mul ?zp ?zq ?zz); (case zp => kob_here); (case zq => kob_here); (case zz => assumption))
  | ((with_reducible refine' PV.mod ?zp ?zq ?zz); (case zp => kob_here); (case zq => kob_here); (case zz => assumption))
  | ((with_reducible refine' PV.fdiv ?zp ?zq ?zz ?zy); (case zp => kob_here); (case zq => kob_here); (case zz => assumption); (case zy => assumption))
  | ((with_reducible refine' PV.cmp ?zp ?zk); (case zk => exact (Eq.refl false)); (case zp => kda_here))
  | ((with_reducible refine' PV.getK ?zp ?zq ?zm ?zl ?zo); (case zo => exact (Eq.refl true)); (case zp => kob_here); (case zm => kdl_here); (case zq => kob_here); (case zl => with_reducible assumption))
  | ((with_reducible refine' PV.itemK ?zp ?zq ?zm ?zr ?zk ?zg); (case zk => exact (Eq.refl true)); (case zg => exact fun _ => rfl); (case zp => kob_here); (case zm => kdl_here); (case zq => kob_here); (case zr => with_reducible assumption))
  | ((with_reducible refine' PV.meth ?zp ?za ?zb ?zc ?zd ?ze ?zf ?zg ?zo ?zq ?zr); (case zo => exact (Eq.refl true)); (case zp => kob_here); (case za => kdl_here); (case zb => kdl_here); (case zc => kgr_look); (case zd => k_is); (case ze => k_is); (case zf => k_is); (case zg => k_is); (case zq => kob_here); (case zr => kob_here))
  | ((with_reducible refine' PV.and ?zp ?zq); (case zp => kob_here); (case zq => kob_here))
  | ((with_reducible refine' PV.or ?zp ?zq); (case zp => kob_here); (case zq => kob_here))
  | ((with_reducible refine' PV.notB ?zp); (case zp => kob_here))
  | ((with_reducible refine' PV.bop1 ?zp); (case zp => kob_here))
  | ((with_reducible refine' PV.max ?zp ?zk ?zl ?zm); (case zk => exact (Eq.refl true)); (case zl => exact (Eq.refl true)); (case zm => exact (Eq.refl true)); (case zp => kob_here))
  | ((with_reducible refine' PV.cell ?zp ?zm ?zk); (case zk => exact (Eq.refl true)); (case zp => exact fun _ => rfl); (case zm => kdl_here))
  | with_reducible assumption
  | with_reducible exact PL.nil
  | ((with_reducible refine' PL.cons ?zp ?zq ?zk); (case zk => exact (Eq.refl true)); (case zp => kob_here); (case zq => kob_here))))
local macro_rules | `(tactic| kgr_look) => `(tactic| first | exact rfl | with_reducible assumption)
local macro_rules | `(tactic| kll_here) => `(tactic| first
  | ((with_reducible refine' ExtQ.lst1 ?zm ?zw ?zz ?zq); (case zm => kdl_here); (case zw => kmod_here); (case zz => kmod_here))
  | ((with_reducible refine' ExtQ.lst2 ?zm ?zw ?zz ?zq); (case zm => kdl_here); (case zw => kmod_here); (case zz => kmod_here))
  | ((with_reducible refine' ExtQ.tup0 ?zm ?zw ?zz ?zq); (case zm => kdl_here); (case zw => kmod_here); (case zz => kmod_here))
  | ((with_reducible refine' AppQ.at0 ?zz ?zq); (case zz => kmod_here))
  | ((with_reducible refine' AppQ.at1 ?zz ?zq); (case zz => kmod_here))
  | ((with_reducible refine' AppQ.at2 ?zz ?zq); (case zz => kmod_here))
  | ((with_reducible refine' AppQ.at4 ?zz ?zq); (case zz => kmod_here))
  | ((with_reducible refine' AppQ.at5 ?zz ?zq); (case zz => kmod_here))
  | ((with_reducible refine' AppQ.at6 ?zz ?zq); (case zz => kmod_here))
  | ((with_reducible refine' AppQ.at7 ?zz ?zq); (case zz => kmod_here))
  | ((with_reducible refine' SetI.at0 ?zp ?zy ?za ?zb ?zc ?zq); (case zp => kob_here); (case zy => kob_here); (case za => kmod_here); (case zb => kmod_here); (case zc => kmod_here))
  | ((with_reducible refine' SetI.at1 ?zp ?zy ?za ?zb ?zc ?zq); (case zp => kob_here); (case zy => kob_here); (case za => kmod_here); (case zb => kmod_here); (case zc => kmod_here))
  | ((with_reducible refine' SetA.at0 ?zp ?za ?zb ?zc ?zd ?ze ?zf ?zq); (case zp => kob_here); (case za => kdl_here); (case zb => exact (Eq.refl true)); (case zc => k_is); (case zd => k_is); (case ze => k_is); (case zf => k_is))
  | ((with_reducible refine' SetA.at1 ?zp ?za ?zb ?zc ?zd ?ze ?zf ?zq); (case zp => kob_here); (case za => kdl_here); (case zb => exact (Eq.refl true)); (case zc => k_is); (case zd => k_is); (case ze => k_is); (case zf => k_is))
  | ((with_reducible refine' SetA.at2 ?zp ?za ?zb ?zc ?zd ?ze ?zf ?zq); (case zp => kob_here); (case za => kdl_here); (case zb => exact (Eq.refl true)); (case zc => k_is); (case zd => k_is); (case ze => k_is); (case zf => k_is))
  | ((with_reducible refine' SetA.at3 ?zp ?za ?zb ?zc ?zd ?ze ?zf ?zq); (case zp => kob_here); (case za => kdl_here); (case zb => exact (Eq.refl true)); (case zc => k_is); (case zd => k_is); (case ze => k_is); (case zf => k_is))
  | ((with_reducible refine' SetA.at4 ?zp ?za ?zb ?zc ?zd ?ze ?zf ?zq); (case zp => kob_here); (case za => kdl_here); (case zb => exact (Eq.refl true)); (case zc => k_is); (case zd => k_is); (case ze => k_is); (case zf => k_is))
  | ((with_reducible refine' SetA.at5 ?zp ?za ?zb ?zc ?zd ?ze ?zf ?zq); (case zp => kob_here); (case za => kdl_here); (case zb => exact (Eq.refl true)); (case zc => k_is); (case zd => k_is); (case ze => k_is); (case zf => k_is))
  | ((with_reducible refine' SetA.at6 ?zp ?za ?zb ?zc ?zd ?ze ?zf ?zq); (case zp => kob_here); (case za => kdl_here); (case zb => exact (Eq.refl true)); (case zc => k_is); (case zd => k_is); (case ze => k_is); (case zf => k_is))
  | ((with_reducible refine' SetA.at7 ?zp ?za ?zb ?zc ?zd ?ze ?zf ?zq); (case zp => kob_here); (case za => kdl_here); (case zb => exact (Eq.refl true)); (case zc => k_is); (case zd => k_is); (case ze => k_is); (case zf => k_is))
  | ((with_reducible refine' SetA.at8 ?zp ?za ?zb ?zc ?zd ?ze ?zf ?zq); (case zp => kob_here); (case za => kdl_here); (case zb => exact (Eq.refl true)); (case zc => k_is); (case zd => k_is); (case ze => k_is); (case zf => k_is))
  | ((with_reducible refine' JE.pop0 ?zp ?zz ?zo ?zq); (case zo => exact (Eq.refl true)); (case zp => kob_here); (case zz => kmod_here))
  | ((with_reducible refine' JE.pop5 ?zp ?zz ?zo ?zq); (case zo => exact (Eq.refl true)); (case zp => kob_here); (case zz => kmod_here))
  | ((with_reducible refine' JE.pop6 ?zp ?zz ?zo ?zq); (case zo => exact (Eq.refl true)); (case zp => kob_here); (case zz => kmod_here)))
local macro_rules | `(tactic| kdg_here) => `(tactic| (refine ?zmain; first
  | with_reducible refine JX.out ?_
  | with_reducible refine retQ.ret ?_
  | ((with_reducible refine' JX.assignP ?zp ?zq ?zk ?zl); (case zk => exact (Eq.refl true)); (case zl => exact (Eq.refl true)); (case zp => kob_here))
  | ((with_reducible refine' JX.assign ?zp ?zk ?zl); (case zk => exact (Eq.refl true)); (case zl => exact (Eq.refl true)))
  | ((with_reducible refine' JX.assignC ?yp ?yy ?yw ?yc ?yl ?yk ?yn ?ys); (case yc => exact fun _ => rfl); (case yy => exact (Eq.refl true)); (case yw => exact fun _ => rfl); (case yl => decide); (case yk => exact rfl); (case yn => decide); (case ys => exact (Eq.refl true)))
  | ((with_reducible refine' JX.expr ?zp ?zk); (case zk => exact (Eq.refl true)))
  | ((with_reducible refine' JX.ifT ?zp ?zh ?zq); (case zp => kda_here); (case zh => kgr_look))
  | ((with_reducible refine' JX.ifF ?zp ?zh ?zq); (case zp => kda_here); (case zh => kgr_look))
  | ((with_reducible refine' JX.ifB ?zp ?zq ?zr); (case zp => kda_here))
  | with_reducible refine JX.cond ?_
  | ((with_reducible refine' JX.retP ?zp ?zq); (case zp => kob_here))
  | with_reducible refine JX.ret ?_
  | ((with_reducible refine' JX.setA ?zp ?zk); (case zk => exact (Eq.refl true)))
  | ((with_reducible refine' JX.setSpot0 ?zp ?zq ?zr ?zw ?zg ?zz ?zu ?zc ?zk); (case zu => exact (Eq.refl true)); (case zc => exact (Eq.refl true)); (case zp => kob_here); (case zq => kob_here); (case zr => kob_here); (case zw => exact rfl); (case zg => assumption); (case zz => kmod_here))
  | ((with_reducible refine' JX.setI ?zp ?zk); (case zk => exact (Eq.refl true)))
  | ((with_reducible refine' JE.tupP ?zp ?zk ?zq); (case zp => kob_here); (case zk => exact (Eq.refl true)))
  | ((with_reducible refine' JE.lstP ?zp ?zk ?zq); (case zp => kob_here); (case zk => exact (Eq.refl true)))
  | with_reducible refine JE.tup ?_
  | with_reducible refine JE.lst ?_
  | ((with_reducible refine' JE.sortedK ?zp ?zm ?zl ?zr ?zz ?zn ?zx ?zs ?zq); (case zx => exact (Eq.refl true)); (case zs => exact (Eq.refl true)); (case zp => kob_here); (case zm => kdl_here); (case zl => with_reducible assumption); (case zr => with_reducible assumption); (case zz => with_reducible assumption); (case zn => with_reducible assumption))
  | ((with_reducible refine' JE.append ?zp ?zm ?zk ?zq); (case zk => exact (Eq.refl true)); (case zp => kob_here); (case zm => kdl_here))
  | ((with_reducible refine' JE.ext ?zp ?zm ?zk ?zq); (case zk => exact (Eq.refl true)); (case zp => kob_here); (case zm => kdl_here))
  | with_reducible refine AddQ1.mk ?_
  | ((with_reducible refine' AddQ.mk ?zm ?zn ?zz ?zq); (case zm => kdl_here); (case zn => kdl_here); (case zz => kmod_here))
  | ((with_reducible refine' JE.upTo ?zp ?zm ?zs ?zk ?zz ?zq); (case zp => kob_here); (case zm => kdl_here); (case zs => kob_here); (case zk => with_reducible assumption); (case zz => kmod_here))
  | ((with_reducible refine' JE.from ?zp ?zm ?zs ?zk ?zz ?zq); (case zp => kob_here); (case zm => kdl_here); (case zs => kob_here); (case zk => with_reducible assumption); (case zz => kmod_here))
  | ((with_reducible refine' JE.rev ?zp ?zm ?zs ?zz ?zq); (case zp => kob_here); (case zm => kdl_here); (case zs => kob_here); (case zz => kmod_here))
  | ((with_reducible refine' JE.fn ?zx ?zn ?zk ?zs ?zq); (case zx => exact (Eq.refl true)); (case zn => k_is); (case zk => k_is); (case zs => exact (Eq.refl true)))
  | ((with_reducible refine' JE.fn0 ?zx ?zn ?zk ?zq); (case zx => exact (Eq.refl true)); (case zn => k_is); (case zk => k_is))
  | ((with_reducible refine' JE.meth ?zp ?za ?zb ?zc ?zd ?ze ?zf ?zg ?zo ?zq); (case zo => exact (Eq.refl true)); (case zp => kob_here); (case za => kdl_here); (case zb => kdl_here); (case zc => kgr_look); (case zd => k_is); (case ze => k_is); (case zf => k_is); (case zg => k_is))
  | ((with_reducible refine' JE.meth0 ?zp ?za ?zb ?zc ?zd ?ze ?zf ?zg ?zo ?zq); (case zo => exact (Eq.refl true)); (case zp => kob_here); (case za => kdl_here); (case zb => kdl_here); (case zc => kgr_look); (case zd => k_is); (case ze => k_is); (case zf => k_is); (case zg => k_is))
  | ((with_reducible refine' JL.pure ?zp ?zq); (case zp => kob_here))
  | ((with_reducible refine' JL.consP ?zp ?zq ?zk); (case zp => kob_here); (case zk => exact (Eq.refl true)))
  | ((with_reducible refine' JL.cons ?zp ?zk); (case zk => exact (Eq.refl true)))
  | ((with_reducible refine' JE.pure ?zp ?zq); (case zp => kob_here))
  | with_reducible refine JE.ifE ?_
  | ((with_reducible refine' JE.comp ?yp ?yc ?yl ?yk ?yn ?ys); (case yc => exact fun _ => rfl); (case yl => decide); (case yk => exact rfl); (case yn => decide); (case ys => exact (Eq.refl true)))
  | ((with_reducible refine' JE.eqI ?zp ?zk); (case zk => exact (Eq.refl false)))
  | ((with_reducible refine' EqIQ.mk ?zp ?zq); (case zp => kob_here))
  | with_reducible refine JE.dict0 ?_
  | ((with_reducible refine' JE.copy ?zp ?zm ?zz ?zx ?zs ?zq); (case zx => exact (Eq.refl true)); (case zs => exact (Eq.refl true)); (case zp => kob_here); (case zm => kdl_here); (case zz => kmod_here))
  | ((with_reducible refine' JE.range1 ?zp ?za ?zb ?zx ?zr ?zs ?zt ?zq); (case zx => exact (Eq.refl true)); (case zr => exact (Eq.refl true)); (case zs => exact (Eq.refl true)); (case zt => exact (Eq.refl true)); (case zp => kob_here); (case za => exact rfl); (case zb => exact rfl))
  | ((with_reducible refine' JE.addI ?zp ?zq); (case zp => kob_here))
  | with_reducible refine AddIQ.mk ?_
  | with_reducible refine JE.addL ?_
  | ((with_reducible refine' JE.subQ ?zp ?zk); (case zk => exact (Eq.refl true)))
  | ((with_reducible refine' SubQ.lst ?zm ?zp ?zi ?zq); (case zm => kdl_here); (case zp => kob_here); (case zi => keq_here))
  | ((with_reducible refine' SubQ.tup ?zm ?zp ?zi ?zq); (case zm => kdl_here); (case zp => kob_here); (case zi => keq_here))
  | ((with_reducible refine' TupQ.mk ?zk ?zq); (case zk => exact (Eq.refl true)))
  | ((with_reducible refine' LstQ.mk ?zk ?zq); (case zk => exact (Eq.refl true)))
  | with_reducible refine BoolQ.mk ?_
  | ((with_reducible refine' CondQ.T ?zh ?zq); (case zh => kgr_look))
  | ((with_reducible refine' CondQ.F ?zh ?zq); (case zh => kgr_look))
  | kll_here
  | ((with_reducible refine' JE.and ?zp))
  | with_reducible refine AndQ.mk ?_
  | with_reducible refine JE.bop1 ?_
  | with_reducible refine JX.nilT ?_
  | with_reducible refine JX.nilR ?_
  | ((with_reducible refine' JX.forR ?zp ?zx ?zr ?zs); (case zx => exact (Eq.refl true)); (case zr => exact (Eq.refl true)); (case zs => exact (Eq.refl true)))
  | ((with_reducible refine' JX.forE ?zp ?zs); (case zs => exact (Eq.refl true)))
  | ((with_reducible refine' JX.swap2 ?zp ?yw ?zn ?zc); (case yw => (intro _; with_unfolding_all rfl)); (case zn => exact (Eq.refl true)); (case zc => exact (Eq.refl true)))
  | ((with_reducible refine' JX.swap3 ?zp ?yw ?zn ?zc); (case yw => (intro _; with_unfolding_all rfl)); (case zn => exact (Eq.refl true)); (case zc => exact (Eq.refl true)))
  | with_reducible refine SwapQ.two ?_
  | with_reducible refine SwapQ.three ?_
  | ((with_reducible refine' JX.unpack ?zp ?zc ?zt); (case zc => exact (Eq.refl true)); (case zt => exact (Eq.refl true)))
  | ((with_reducible refine' JB.pair ?zm ?zq ?zx ?zy); (case zx => exact (Eq.refl true)); (case zy => exact (Eq.refl true)); (case zm => kdl_here))
  | ((with_reducible refine' JB.name ?zq ?zx); (case zx => exact (Eq.refl true)))
  | ((with_reducible refine' JT.pure ?zp ?zq); (case zp => kda_here))
  | ((with_reducible refine' JT.val ?zp ?zk); (case zk => exact (Eq.refl true)))
  | with_reducible refine JT.not ?_ | with_reducible refine JT.bop ?_ | with_reducible refine JO.or ?_ | with_reducible refine JO.orN ?_ | with_reducible refine JO.and ?_ | with_reducible refine JO.andN ?_))
local macro_rules | `(tactic| x_run) => `(tactic| repeat' (first | kdg_here | (intro _; kdg_here) | (intro _ _; kdg_here)))
local macro_rules | `(tactic| gn_look) => `(tactic| ((first | refine' JC.enter ?zo ?zd ?zr ?zb ?za ?zc ?zk ?ze ?zH | refine' JCo.enter ?zo ?zd ?zr ?zb ?za ?zc ?zk ?ze ?zH); (case zo => k_is); (case zd => k_is); (case zr => first | assumption | exact (Eq.refl true)); (case zb => first | exact bind0 rfl (Eq.refl true) | exact bind1 (fun _ => rfl) (Eq.refl true) | exact bind2 (fun _ _ => rfl) (Eq.refl true) | exact bind3 (fun _ _ _ => rfl) (Eq.refl true) | exact bind4 (fun _ _ _ _ => rfl) (Eq.refl true) | exact bind5 (fun _ _ _ _ _ => rfl) (Eq.refl true) | exact bind6 (fun _ _ _ _ _ _ => rfl) (Eq.refl true) | (refine' bind1d ?ye ?yk; (case ye => (intro _ _ X9; refine' binds_K X9 ?y1 ?y2 ?y3 ?y4 ?y5; (case y1 => exact rfl); (case y2 => k_is); (case y3 => exact rfl); (case y4 => exact rfl); (case y5 => exact rfl))); (case yk => exact (Eq.refl true))) | (refine' bind4d ?ye ?yk; (case ye => (intro _ _ _ _ _ X9; refine' binds_K X9 ?y1 ?y2 ?y3 ?y4 ?y5; (case y1 => exact rfl); (case y2 => k_is); (case y3 => exact rfl); (case y4 => exact rfl); (case y5 => exact rfl))); (case yk => exact (Eq.refl true)))); (case za => exact (Eq.refl false)); (case zc => exact (Eq.refl false)); (case zk => exact rfl); (case ze => exact (Eq.refl true)); (try dsimp only)))
local macro_rules | `(tactic| gp_look) => `(tactic| repeat' (first | exact DtA.nil | refine DtA.cons ?_ ?_ | exact Dt.none | exact Dt.bool | exact Dt.int | exact Dt.str | refine Dt.tup (by kdp_here) ?_ | refine Dt.lst (by kdp_here) ?_))
local macro_rules | `(tactic| kdp_here) => `(tactic| first | exact mG 0 rfl | exact mG 1 rfl | exact mG 2 rfl | exact mG 3 rfl | exact mG 4 rfl | exact mG 5 rfl | exact mG 6 rfl | exact mG 7 rfl | exact mG 8 rfl | exact mG 9 rfl | exact mG 10 rfl | exact mG 11 rfl | exact mG 12 rfl | exact mG 13 rfl | exact mG 14 rfl | exact mG 15 rfl)
theorem anew_J11 : True ∧ True := by
  w_top off
  try walk1
  all_goals first | trivial | exact ⟨trivial, trivial⟩
section
open PySem PySem.W PyProof.Rows PySem.Calls
set_option maxRecDepth 100000
set_option Elab.async false
theorem fillK5 (w : World) (h : Heap) : (Mine.hk.heap_1 w.params).In h → PySem.Challenge.rw_xw0171_01.row.prog = PySem.Challenge.rw_xw0171_01.row.prog := by k_fill; intro _; rfl

set_option maxHeartbeats 2000000
/-- where a Scopes' parts lie -/
structure Cf where
  (S dS Bo dB W BD AG AL FR RM LC bl sp : Addr)
def scE (c : Cf) (here : Int) : List (Str × Vl) :=
  [(.ofString "world", .ref c.W), (.ofString "bounds", .ref c.BD), (.ofString "args", .ref c.AG), (.ofString "first_user", .int 1), (.ofString "body", .ref c.Bo), (.ofString "spot", .int 0), (.ofString "alias", .ref c.AL), (.ofString "frames", .ref c.FR), (.ofString "rooms", .ref c.RM), (.ofString "here", .int here)]
def boE (c : Cf) : List (Str × Vl) :=
  [(.ofString "name", .str (.ofString "f")), (.ofString "arg_count", .int 0), (.ofString "locals", .ref c.LC), (.ofString "blocks", .ref c.bl), (.ofString "spots", .ref c.sp)]
theorem statementsP {w : World} {d u : Nat} {tl W fz : Led} {Bo dB bl b : Addr} {es : List (Str × Vl)} {vs : List Vl} {k : Int} {st t : Vl} (hd : Nat.blt d recursionLimit = true)
    (m1 : (Bo, dInst 82 dB) ∈ W ++ (fz ++ tl)) (m2 : (dB, dDct w es) ∈ W ++ (fz ++ tl)) (e : es.lookup (PySem.Str.ofString "blocks") = some (.ref bl)) (m3 : (bl, dLst vs) ∈ W ++ (fz ++ tl)) (hk : IxV vs k (.ref b)) (m4 : (b, dLst [st, t]) ∈ W ++ (fz ++ tl)) :
    PureC w d u tl W fz 57 [.ref Bo, .int k] st := by
  intro Q K
  gn_look
  x_run
  exact K
end
local macro_rules | `(tactic| kob_here) => `(tactic| (refine ?zmain; ((with_reducible refine' statementsP ?zd ?za ?zb ?zc ?ze ?zi ?zf); (case zd => exact (Eq.refl true)); (case za => kdl_here); (case zb => kdl_here); (case zc => kgr_look); (case ze => kdl_here); (case zi => keq_here); (case zf => kdl_here))))
theorem anew_S5 : True ∧ True := by
  w_top off
  try walk1
  all_goals first | trivial | exact ⟨trivial, trivial⟩
section
open PySem PySem.W PyProof.Rows PySem.Calls
set_option maxRecDepth 100000
set_option Elab.async false
theorem fillK6 (w : World) (h : Heap) : (Mine.hk.heap_1 w.params).In h → PySem.Challenge.rw_xw0171_01.row.prog = PySem.Challenge.rw_xw0171_01.row.prog := by k_fill; intro _; rfl
set_option maxHeartbeats 2000000
/-- a Scopes' own names are among T -/
structure ScIn (w : World) (c : Cf) (here : Int) (T : Led) : Prop where
  S : (c.S, dInst 304 c.dS) ∈ T
  D : (c.dS, dDct w (scE c here)) ∈ T
  B : (c.Bo, dInst 82 c.dB) ∈ T
  E : (c.dB, dDct w (boE c)) ∈ T
variable {w : World} {tl : Led} {c : Cf} {here : Int} {G : Led} {n : Nat} {vs ts : List Vl} {b st : Addr} {t x : Vl} {Q : Vl → Led → Led → Prop}
theorem note_spec (hs : ScIn w c here tl) (m1 : (c.bl, dLst vs) ∈ tl) (hk : IxV vs here (.ref b)) (m2 : (b, dLst [.ref st, t]) ∈ tl) (m3 : (st, dLst ts) ∈ tl) (hts : ts.length ≤ 1000000) (hn : n ≤ 1000000) (hG : ∀ p ∈ G, p ∈ tl)
    (K : ∀ a, Q .none [(c.sp, dSpot w ((a, dTup [.int here, .int ts.length]) :: G) (n + 1))] [(a, dTup [.int here, .int ts.length])]) : JC w 800 8000 tl [(c.sp, dSpot w G n)] [] 203 [.ref c.S] Q := by
  obtain ⟨hS, hD, hB, hE⟩ := hs
  have hG' : ∀ p ∈ G, p ∈ [] ++ tl := hG
  gn_look
  x_run
  exact K _
/-- the keys of a dict of places grow by new ones -/
def Gr (G' nz G : Led) : Prop := ∀ p ∈ G', p ∈ nz ++ G
theorem put_spec (hs : ScIn w c here tl) (m1 : (c.bl, dLst vs) ∈ tl) (hk : IxV vs here (.ref b)) (m2 : (b, dLst [.ref st, t]) ∈ tl) (hts : ts.length ≤ 1000000) (hn : n ≤ 1000000) (hG : ∀ p ∈ G, p ∈ tl)
    (K : ∀ G' nz, Gr G' nz G → Q .none [(c.sp, dSpot w G' (n + 1)), (st, dLst (ts ++ [x]))] nz) : JC w 798 7900 tl [(c.sp, dSpot w G n), (st, dLst ts)] [] 210 [.ref c.S, x] Q := by
  obtain ⟨hS, hD, hB, hE⟩ := hs
  gn_look
  x_run
  · refine JC.frame (.cons 0 rfl .nil) (JC.more (note_spec ⟨mTl hS, mTl hD, mTl hB, mTl hE⟩ (mTl m1) hk (mTl m2) (.head _) hts hn (fun p hp => mTl (hG p hp)) ?_) (Eq.refl true) (Eq.refl true))
    intro a
    dsimp only [List.cons_append, List.nil_append, List.eraseIdx]
    x_run
    exact K _ [(a, _)] fun p hp => hp
/-- a block's end is put down -/
theorem close_spec (hs : ScIn w c here tl) (m1 : (c.bl, dLst vs) ∈ tl) (hk : IxV vs here (.ref b)) (m2 : (st, dLst ts) ∈ tl) (hts : ts.length ≤ 1000000) (hn : n ≤ 1000000) (hG : ∀ p ∈ G, p ∈ tl)
    (K : ∀ G' nz, Gr G' nz G → Q .none [(c.sp, dSpot w G' (n + 1)), (b, dLst [.ref st, x])] nz) : JC w 798 7900 tl [(c.sp, dSpot w G n), (b, dLst [.ref st, t])] [] 217 [.ref c.S, x] Q := by
  obtain ⟨hS, hD, hB, hE⟩ := hs
  gn_look
  x_run
  · refine JC.frame (.cons 0 rfl .nil) (JC.more (note_spec ⟨mTl hS, mTl hD, mTl hB, mTl hE⟩ (mTl m1) hk (.head _) (mTl m2) hts hn (fun p hp => mTl (hG p hp)) ?_) (Eq.refl true) (Eq.refl true))
    intro a
    dsimp only [List.cons_append, List.nil_append, List.eraseIdx]
    x_run
    exact K _ [(a, _)] fun p hp => hp
theorem len1 {vs : List Vl} {x : Vl} : ((vs ++ [x]).length : Int) - 1 = vs.length := by rw [List.length_append]; show ((vs.length + 1 : Nat) : Int) - 1 = _; omega
theorem new_block_spec (hs : ScIn w c here tl) (hv : vs.length ≤ 900000)
    (K : ∀ b st, Q (.int vs.length) [(b, dLst [.ref st, .none]), (st, dLst []), (c.bl, dLst (vs ++ [.ref b]))] []) : JC w 790 7600 tl [(c.bl, dLst vs)] [] 196 [.ref c.S] Q := by
  obtain ⟨hS, hD, hB, hE⟩ := hs
  have hv' : vs.length ≤ 1000000 := Nat.le_trans hv (by decide)
  gn_look
  x_run
  rw [len1]
  exact K _ _
theorem push_spec {rs : List Vl} (hS : (c.S, dInst 304 c.dS) ∈ tl) (hD : (c.dS, dDct w (scE c here)) ∈ tl) (hv : vs.length ≤ 900000) (hr : rs.length ≤ 900000)
    (K : ∀ f, Q (.int vs.length) [(f, dLst []), (c.FR, dLst (vs ++ [.ref f])), (c.RM, dLst (rs ++ [.int vs.length]))] []) : JC w 790 7600 tl [(c.FR, dLst vs), (c.RM, dLst rs)] [] 238 [.ref c.S] Q := by
  have hv' : vs.length ≤ 1000000 := Nat.le_trans hv (by decide)
  have hr' : rs.length ≤ 1000000 := Nat.le_trans hr (by decide)
  gn_look
  x_run
  rw [len1]
  exact K _
theorem push_inner_spec {rs : List Vl} (hS : (c.S, dInst 304 c.dS) ∈ tl) (hD : (c.dS, dDct w (scE c here)) ∈ tl) (hv : vs.length ≤ 900000) (hr : rs.length ≤ 900000)
    (K : ∀ f, Q .none [(f, dLst []), (c.FR, dLst (vs ++ [.ref f])), (c.RM, dLst (rs ++ [x] ++ [x]))] []) : JC w 790 7600 tl [(c.FR, dLst vs), (c.RM, dLst (rs ++ [x]))] [] 245 [.ref c.S] Q := by
  have hv' : vs.length ≤ 1000000 := Nat.le_trans hv (by decide)
  have hr' : rs.length ≤ 1000000 := Nat.le_trans hr (by decide)
  gn_look
  x_run
  exact K _
theorem own_spec {fr : Addr} {fs : List Vl} {k : Int} (hS : (c.S, dInst 304 c.dS) ∈ tl) (hD : (c.dS, dDct w (scE c here)) ∈ tl) (hF : (c.FR, dLst vs) ∈ tl) (hk : IxV vs k (.ref fr)) (hf : fs.length ≤ 900000)
    (K : ∀ y, Q .none [(fr, dLst (fs ++ [.ref y]))] [(y, dTup [x, .str (.ofString "drop")])]) : JC w 796 7800 tl [(fr, dLst fs)] [] 259 [.ref c.S, .int k, x] Q := by
  have hf' : fs.length ≤ 1000000 := Nat.le_trans hf (by decide)
  gn_look
  x_run
  exact K _
theorem hold_spec {fr : Addr} {fs : List Vl} (hS : (c.S, dInst 304 c.dS) ∈ tl) (hD : (c.dS, dDct w (scE c here)) ∈ tl) (hF : (c.FR, dLst (vs ++ [.ref fr])) ∈ tl) (hv : vs.length ≤ 900000) (hf : fs.length ≤ 900000)
    (K : ∀ y, Q .none [(fr, dLst (fs ++ [.ref y]))] [(y, dTup [x, .str (.ofString "drop")])]) : JC w 794 7700 tl [(fr, dLst fs)] [] 273 [.ref c.S, x] Q := by
  have hv' : vs.length ≤ 1000000 := Nat.le_trans hv (by decide)
  gn_look
  x_run
  refine JC.frame (.cons 0 rfl .nil) (JC.more (own_spec (mTl hS) (mTl hD) (mTl hF) (IxV.mid len1 (Nat.le_trans hv (by decide))) hf fun y => ?_) (Eq.refl true) (Eq.refl true))
  dsimp only [List.cons_append, List.nil_append, List.eraseIdx]
  x_run
  exact K _
theorem begin_spec {fr : Addr} {fs frs : List Vl} {k : Int} (hs : ScIn w c here tl) (m1 : (c.bl, dLst vs) ∈ tl) (hk : IxV vs here (.ref b)) (m2 : (b, dLst [.ref st, t]) ∈ tl) (hts : ts.length ≤ 1000000) (hn : n ≤ 1000000) (hG : ∀ p ∈ G, p ∈ tl)
    (hF : (c.FR, dLst frs) ∈ tl) (hi : IxV frs k (.ref fr)) (hf : fs.length ≤ 900000)
    (K : ∀ G' nz a y, Gr G' nz G → (a, dTup [.str (.ofString "live"), x]) ∈ nz → (y, dTup [x, .str (.ofString "dead")]) ∈ nz → Q .none [(c.sp, dSpot w G' (n + 1)), (st, dLst (ts ++ [.ref a])), (fr, dLst (fs ++ [.ref y]))] nz) :
    JC w 796 7800 tl [(c.sp, dSpot w G n), (st, dLst ts), (fr, dLst fs)] [] 252 [.ref c.S, .int k, x] Q := by
  obtain ⟨hS, hD, hB, hE⟩ := hs
  have hf' : fs.length ≤ 1000000 := Nat.le_trans hf (by decide)
  gn_look
  x_run
  rename_i a
  refine JC.frame (.cons 0 rfl (.cons 0 rfl .nil)) (JC.more (put_spec ⟨mTl hS, mTl hD, mTl hB, mTl hE⟩ (mTl m1) hk (mTl m2) hts hn (fun p hp => mTl (hG p hp)) fun G' nz hg => ?_) (Eq.refl true) (Eq.refl true))
  dsimp only [List.cons_append, List.nil_append, List.eraseIdx]
  x_run
  rename_i y
  exact K _ _ _ _ (fun p hp => (List.mem_append.mp (hg p hp)).elim (fun h => .tail _ (List.mem_append_left _ (List.mem_append_left _ h))) fun h => List.mem_append_right _ h) (.tail _ (List.mem_append_right _ (.head _))) (.head _)
theorem declare_spec {fr : Addr} {fs frs : List Vl} (hs : ScIn w c here tl) (m1 : (c.bl, dLst vs) ∈ tl) (hk : IxV vs here (.ref b)) (m2 : (b, dLst [.ref st, t]) ∈ tl) (hts : ts.length ≤ 1000000) (hn : n ≤ 1000000) (hG : ∀ p ∈ G, p ∈ tl)
    (hF : (c.FR, dLst (frs ++ [.ref fr])) ∈ tl) (hv : frs.length ≤ 900000) (hf : fs.length ≤ 800000)
    (K : ∀ G' nz a y z, Gr G' nz G → (a, dTup [.str (.ofString "live"), x]) ∈ nz → (y, dTup [x, .str (.ofString "dead")]) ∈ nz → (z, dTup [x, .str (.ofString "drop")]) ∈ nz → Q .none [(fr, dLst (fs ++ [.ref y] ++ [.ref z])), (c.sp, dSpot w G' (n + 1)), (st, dLst (ts ++ [.ref a]))] nz) :
    JC w 794 7700 tl [(c.sp, dSpot w G n), (st, dLst ts), (fr, dLst fs)] [] 266 [.ref c.S, x] Q := by
  have hv' : frs.length ≤ 1000000 := Nat.le_trans hv (by decide)
  obtain ⟨hS, hD, hB, hE⟩ := hs
  gn_look
  x_run
  refine JC.frame (.cons 0 rfl (.cons 0 rfl (.cons 0 rfl .nil))) (JC.more (begin_spec ⟨mTl hS, mTl hD, mTl hB, mTl hE⟩ (mTl m1) hk (mTl m2) hts hn (fun p hp => mTl (hG p hp)) (mTl hF) (IxV.mid len1 hv') (Nat.le_trans hf (by decide)) fun G' nz a y hg ha hy => ?_) (Eq.refl true) (Eq.refl true))
  dsimp only [List.cons_append, List.nil_append, List.eraseIdx]
  x_run
  refine JC.frame (.cons 2 rfl .nil) (JC.more (own_spec (mTl hS) (mTl hD) (mTl hF) (IxV.mid len1 hv') (by rw [List.length_append]; exact Nat.le_trans (Nat.add_le_add_right hf 1) (by decide)) fun z => ?_) (Eq.refl true) (Eq.refl true))
  dsimp only [List.cons_append, List.nil_append, List.eraseIdx]
  x_run
  rw [List.append_nil]
  exact K _ _ _ _ _ (fun p hp => .tail _ (hg p hp)) (.tail _ ha) (.tail _ hy) (.head _)
end
theorem anew_S1 : True ∧ True := by
  w_top off
  try walk1
  all_goals first | trivial | exact ⟨trivial, trivial⟩
section
open PySem PySem.W PyProof.Rows PySem.Calls
set_option maxRecDepth 100000
set_option Elab.async false
theorem fillK (w : World) (h : Heap) : (Mine.hk.heap_1 w.params).In h → PySem.Challenge.rw_xw0171_01.row.prog = PySem.Challenge.rw_xw0171_01.row.prog := by k_fill; intro _; rfl
set_option maxHeartbeats 2000000
theorem types_new {w : World} {tl W fz : Led} {Q : Vl → Led → Led → Prop} (K : ∀ ta vs nz, DtA nz vs tyRows → Q (.ref ta) ((ta, dLst vs) :: W) (nz ++ fz)) : JC w 700 7000 tl W fz 487 [] Q := by
  gn_look
  x_run
  intros
  refine K _ _ [_, _, _, _, _, _, _, _, _, _, _, _, _] ?_
  gp_look
theorem types_spec {w : World} {tl W fz : Led} {Q : Vl → Led → Led → Prop} (K : ∀ ta vs nz, (ta, dLst vs) ∈ nz → DtA nz vs tyRows → Q (.ref ta) W (nz ++ fz)) : JC w 700 7000 tl W fz 487 [] Q :=
  JC.frz 0 (types_new fun ta vs nz h => ⟨_, rfl, K ta vs (_ :: nz) (.head _) (h.mono fun p hp => .tail _ hp)⟩)
end
theorem anew_S4 : True ∧ True := by
  w_top off
  try walk1
  all_goals first | trivial | exact ⟨trivial, trivial⟩
section
open PySem PySem.W PyProof.Rows PySem.Calls
set_option maxRecDepth 100000
set_option Elab.async false
theorem fillK4 (w : World) (h : Heap) : (Mine.hk.heap_1 w.params).In h → PySem.Challenge.rw_xw0171_01.row.prog = PySem.Challenge.rw_xw0171_01.row.prog := by k_fill; intro _; rfl
/-- the types that the law tells, and what they are made of -/
inductive Ty | int | box | pair | rf | arB | arI
def Ty.dat : Ty → Dat
  | .int => tyInt
  | .box => tyBox
  | .pair => tyOf 2
  | .rf => tyOf 3
  | .arB => tyOf 4
  | .arI => tyOf 5
def Ty.needs : Ty → Bool
  | .box | .pair | .arB => true
  | _ => false
def Ty.size : Ty → Nat
  | .pair => 3
  | .arB | .arI => 2
  | _ => 1
def sizes : List Ty → Nat
  | [] => 0
  | t :: r => t.size + sizes r
theorem sizes_app : ∀ (a b : List Ty), sizes (a ++ b) = sizes a + sizes b
  | [], b => by rw [List.nil_append]; exact (Nat.zero_add _).symm
  | t :: a, b => by rw [List.cons_append, sizes, sizes, sizes_app a b]; omega
def tyAt : Nat → Ty
  | 0 => .int
  | 1 => .box
  | 2 => .pair
  | 3 => .rf
  | 4 => .arB
  | _ => .arI
theorem tyAt_dat (k : Nat) : (tyAt k).dat = tyOf k := by
  rcases k with _ | _ | _ | _ | _ | _ | k <;> rfl
theorem tyAt_needs (k : Nat) : (tyAt k).needs = tyNeeds k := by
  rcases k with _ | _ | _ | _ | _ | _ | k <;> rfl
/-- a told type's own tuple -/
theorem Dt.tyTup {own : Led} {v : Vl} {x : String} {ds : List Dat} (h : Dt own v (.tuple (dStr x :: ds))) : ∃ a vs, v = .ref a ∧ (a, dTup (.str (Str.ofString x) :: vs)) ∈ own ∧ DtA own vs ds := by
  obtain ⟨a, vs, rfl, m, h⟩ := Dt.tupI h
  obtain ⟨u, vs, rfl, h1, h⟩ := h.consI
  rw [h1.strI] at m
  exact ⟨a, vs, rfl, m, h⟩
theorem len_sizes : ∀ ts : List Ty, ts.length ≤ sizes ts
  | [] => Nat.le_refl _
  | t :: ts => by
    have := len_sizes ts
    have h : 1 ≤ t.size := by cases t <;> exact Nat.le_of_ble_eq_true rfl
    rw [List.length_cons, sizes]; omega
theorem emp_snoc {vs : List Vl} {v : Vl} : (vs ++ [v]).isEmpty = false := by cases vs <;> rfl
theorem nil_or_snoc {α : Type} (l : List α) : l = [] ∨ ∃ a x, l = a ++ [x] := by
  rcases List.eq_nil_or_concat l with h | ⟨a, x, h⟩
  · exact .inl h
  · exact .inr ⟨a, x, by rw [h, List.concat_eq_append]⟩
set_option maxHeartbeats 4000000
theorem needs_spec {w : World} {own tl : Led} {v wv : Vl} {Q : Vl → Led → Led → Prop} (ty : Ty) (hd : Dt own v ty.dat) (hT : ∀ p ∈ own, p ∈ tl) (K : ∀ nz, Q (.bool ty.needs) [] nz) : JC w 700 7000 tl [] [] 155 [v, wv] Q := by
  refine JC.drp ?_
  gn_look
  x_run
  intro lf
  rename_i sn
  refine JX.whl (fun n W' fz' => ∃ vs ts, W' = [(lf, dLst vs), (sn, dLst [])] ∧ DtA (fz' ++ tl) vs (ts.map Ty.dat) ∧ ts.any Ty.needs = ty.needs ∧ n = sizes ts ∧ sizes ts ≤ 10) _ ⟨[v], [ty], rfl, .one (hd.mono fun p hp => List.mem_append_right _ (hT p hp)), Bool.or_false _, rfl, by cases ty <;> exact Nat.le_of_ble_eq_true rfl⟩ ?_
  rintro n W' fz' ⟨vs, ts, rfl, hvs, hany, rfl, hn⟩
  rcases nil_or_snoc ts with rfl | ⟨ts, t, rfl⟩
  · obtain rfl := hvs.nilI
    x_run
    have e : ty.needs = false := hany.symm
    rw [e] at K
    exact ⟨_, _, .cons 0 rfl (.cons 0 rfl .nil), K _⟩
  · rw [List.map_append] at hvs
    obtain ⟨vs, v', rfl, hvs, hd'⟩ := hvs.snocI
    have he := emp_snoc (vs := vs) (v := v')
    rw [sizes_app] at hn ⊢
    have hlen := hvs.length
    have hls := len_sizes ts
    rw [List.length_map] at hlen
    have hz : vs.length ≤ 1000000 := by omega
    have hk : ∀ y : Vl, Keep [(Str.ofString "left", Vl.ref lf), (Str.ofString "seen", Vl.ref sn), (Str.ofString "world", wv), (Str.ofString "told", v)] ((Str.ofString "here", y) :: [(Str.ofString "left", Vl.ref lf), (Str.ofString "seen", Vl.ref sn), (Str.ofString "world", wv), (Str.ofString "told", v)]) := fun y => .cons .refl rfl
    rw [List.any_append] at hany
    have fin : ∀ {us : List Vl} {ss : List Ty} {nz : Led} {t : Ty}, DtA (nz ++ fz' ++ tl) us (ss.map Ty.dat) → ss.any Ty.needs = [t].any Ty.needs → sizes ss < sizes [t] → (ts.any Ty.needs || [t].any Ty.needs) = ty.needs → sizes ts + sizes [t] ≤ 10 →
        ∃ k, k < sizes ts + sizes [t] ∧ ∃ vs₁ ts₁, [(lf, dLst (vs ++ us)), (sn, dLst [])] = [(lf, dLst vs₁), (sn, dLst [])] ∧ DtA (nz ++ fz' ++ tl) vs₁ (ts₁.map Ty.dat) ∧ ts₁.any Ty.needs = ty.needs ∧ k = sizes ts₁ ∧ sizes ts₁ ≤ 10 := fun {us ss nz t} h1 h2 h3 h4 h5 =>
      ⟨sizes (ts ++ ss), by rw [sizes_app]; omega, vs ++ us, ts ++ ss, rfl, by rw [List.map_append]; exact (hvs.mono fun p hp => by rw [List.append_assoc]; exact List.mem_append_right _ hp).app h1, by rw [List.any_append, h2]; exact h4, rfl, by rw [sizes_app]; omega⟩
    cases t
    · obtain ⟨a, us, rfl, m, hp⟩ := Dt.tyTup hd'
      x_run
      have f := fin (us := []) (ss := []) (nz := []) .nil rfl (Nat.lt_succ_self _) hany hn
      rw [List.append_nil] at f
      exact JX.nil (turnQ.next (hk _) f)
    · obtain ⟨a, us, rfl, m, hp⟩ := Dt.tyTup hd'
      have e : ty.needs = true := hany.symm.trans (Bool.or_true _)
      rw [e] at K
      x_run
      exact ⟨_, _, .cons 0 rfl (.cons 0 rfl .nil), K _⟩
    · obtain ⟨a, us, rfl, m, hp⟩ := Dt.tyTup hd'
      obtain ⟨q, us, rfl, hq, hp⟩ := hp.consI
      obtain ⟨p, ps, rfl, m', hq⟩ := hq.tupI
      have hl : ps.length = 2 := hq.length
      x_run
      gn_look
      x_run
      exact JX.nil (turnQ.next (hk _) (fin (ss := [.int, .box]) (nz := []) hq rfl (Nat.lt_succ_self _) hany hn))
    · obtain ⟨a, us, rfl, m, hp⟩ := Dt.tyTup hd'
      x_run
      have f := fin (us := []) (ss := []) (nz := []) .nil rfl (Nat.lt_succ_self _) hany hn
      rw [List.append_nil] at f
      exact JX.nil (turnQ.next (hk _) f)
    · obtain ⟨a, us, rfl, m, hp⟩ := Dt.tyTup hd'
      obtain ⟨q, us, rfl, hq, hp⟩ := hp.consI
      x_run
      gn_look
      x_run
      exact JX.nil (turnQ.next (hk _) (fin (t := .arB) (ss := [.box]) (nz := [(_, dTup [q])]) (.one (hq.mono fun p hp => .tail _ hp)) rfl (Nat.lt_succ_self _) hany hn))
    · obtain ⟨a, us, rfl, m, hp⟩ := Dt.tyTup hd'
      obtain ⟨q, us, rfl, hq, hp⟩ := hp.consI
      x_run
      gn_look
      x_run
      exact JX.nil (turnQ.next (hk _) (fin (t := .arI) (ss := [.int]) (nz := [(_, dTup [q])]) (.one (hq.mono fun p hp => .tail _ hp)) rfl (Nat.lt_succ_self _) hany hn))
end
theorem anew_S3 : True ∧ True := by
  w_top off
  try walk1
  all_goals first | trivial | exact ⟨trivial, trivial⟩
section
open PySem PySem.W PyProof.Rows PySem.Calls
set_option maxRecDepth 100000
set_option Elab.async false
theorem fillK3 (w : World) (h : Heap) : (Mine.hk.heap_1 w.params).In h → PySem.Challenge.rw_xw0171_01.row.prog = PySem.Challenge.rw_xw0171_01.row.prog := by k_fill; intro _; rfl
/-- a row of a frame: the local, and whether its word is 'dead' -/
def rowD (r : Nat × Bool) : Dat := .tuple [.int r.1, .str (if r.2 then Str.ofString "dead" else Str.ofString "drop")]
def dLive (l : Nat) : Dat := .tuple [dStr "live", .int l]
def dDead (l : Nat) : Dat := .tuple [dStr "dead", .int l]
def dDrop (l k : Nat) : Dat := .tuple [dStr "drop", .tuple [.int l, .tuple []], .int k]
def stepB (s : List Dat × List Dat) (r : Nat × Bool) : List Dat × List Dat :=
  if r.2 then (s.1, s.2 ++ [dDead r.1]) else if tyNeeds (r.1 - 1) then (s.1 ++ [.list [.list s.2, dDrop r.1 (s.1.length + 1)]], []) else s
def endedB (rows : List (Nat × Bool)) (s : List Dat × List Dat) : List Dat × List Dat := rows.reverse.foldl stepB s
theorem Dt.rowI {own : Led} {v : Vl} {l : Nat} {wd : Bool} (h : Dt own v (rowD (l, wd))) : ∃ a, v = .ref a ∧ (a, dTup [.int l, .str (if wd then Str.ofString "dead" else Str.ofString "drop")]) ∈ own := by
  obtain ⟨a, vs, rfl, m, h⟩ := Dt.tupI h
  obtain ⟨v, vs, rfl, h1, h⟩ := h.consI
  obtain ⟨u, vs, rfl, h2, h⟩ := h.consI
  obtain rfl := h.nilI
  rw [h1.intI, h2.strI] at m
  exact ⟨a, rfl, m⟩
theorem Dt.tyI {own : Led} {v : Vl} {k : Nat} (h : Dt own v (tyRow k)) : ∃ a x, v = .ref a ∧ (a, dTup [x, .bool (tyNeeds k)]) ∈ own := by
  obtain ⟨a, vs, rfl, m, h⟩ := Dt.tupI h
  obtain ⟨v, vs, rfl, h1, h⟩ := h.consI
  obtain ⟨u, vs, rfl, h2, h⟩ := h.consI
  obtain rfl := h.nilI
  rw [h2.boolI] at m
  exact ⟨a, v, rfl, m⟩
theorem subL {nz fz own : Led} {p : Addr × Dsc} (h : p ∈ fz ++ own) : p ∈ (nz ++ fz) ++ own := by rw [List.append_assoc]; exact List.mem_append_right _ h
/-- the blocks of a body: those done, the one under way -/
structure BlkS (own : Led) (bs ts : List Vl) (C U : List Dat) : Prop where
  dC : DtA own bs C
  dU : DtA own ts U
theorem BlkS.more {own own' : Led} {bs ts : List Vl} {C U : List Dat} (h : BlkS own bs ts C U) (s : ∀ p ∈ own, p ∈ own') : BlkS own' bs ts C U := ⟨h.dC.mono s, h.dU.mono s⟩
abbrev blkW (bl b st : Addr) (bs ts : List Vl) : Led := [(bl, dLst (bs ++ [.ref b])), (b, dLst [.ref st, .none]), (st, dLst ts)]
set_option maxHeartbeats 4000000
theorem ended_spec {w : World} {own tl : Led} {bl b st fr : Addr} {bs ts vs : List Vl} {C U : List Dat} {rows : List (Nat × Bool)} {Q : Vl → Led → Led → Prop} (hB : BlkS own bs ts C U) (hT : ∀ p ∈ own, p ∈ tl)
    (hfr : (fr, dLst vs) ∈ tl) (hvs : DtA own vs (rows.map rowD)) (hr : ∀ r ∈ rows, 1 ≤ r.1 ∧ r.1 ≤ 6) (hz : vs.length ≤ 1000) (zC : C.length ≤ 10000) (zU : U.length ≤ 10000)
    (K : ∀ b' st' bs' ts' fz, BlkS (fz ++ own) bs' ts' (endedB rows (C, U)).1 (endedB rows (C, U)).2 → Q .none (blkW bl b' st' bs' ts') fz) : JC w 500 5000 tl (blkW bl b st bs ts) [] 499 [.ref bl, .ref fr] Q := by
  gn_look
  x_run
  refine RngQ.mk (fun i W' fz' => ∃ b' st' bs' ts' C' U', W' = blkW bl b' st' bs' ts' ∧ (C', U') = (rows.reverse.take i).foldl stepB (C, U) ∧ BlkS (fz' ++ own) bs' ts' C' U' ∧ C'.length ≤ C.length + i ∧ U'.length ≤ U.length + i) (by omega)
    ⟨b, st, bs, ts, C, U, rfl, rfl, hB, by omega, by omega⟩ ?_ ?_
  · rintro i W' fz' hi ⟨b', st', bs', ts', C', U', rfl, e, hB', hC', hU'⟩
    have hlen := hvs.length
    rw [List.length_map] at hlen
    have hk' : vs.length - 1 - i < rows.length := by omega
    obtain ⟨v, hv, hd⟩ := hvs.get (k := vs.length - 1 - i) (by rw [List.getElem?_map, List.getElem?_eq_getElem hk']; rfl)
    obtain ⟨hl1, hl2⟩ := hr _ (List.getElem_mem hk')
    have et : rows.reverse.take (i + 1) = rows.reverse.take i ++ [rows[vs.length - 1 - i]] := by
      rw [List.take_add_one, List.getElem?_reverse (by omega)]
      rw [List.getElem?_eq_getElem (by omega)]
      simp only [hlen, Option.toList]
    have ef : (rows.reverse.take (i + 1)).foldl stepB (C, U) = stepB (C', U') rows[vs.length - 1 - i] := by rw [et, List.foldl_append, ← e]; rfl
    generalize rows[vs.length - 1 - i] = r at hd hl1 hl2 ef
    obtain ⟨l, wd⟩ := r
    obtain ⟨ra, rfl, hm⟩ := hd.rowI
    have hix : IxV vs ((vs.length : Int) - 1 - i) (.ref ra) := (IxV.of hv (by omega)).to (by omega)
    have hm' := hT _ hm
    have z1 := hB'.dC.length
    have z2 := hB'.dU.length
    cases wd
    · x_run
      refine JC.more (types_spec fun ta ws nz hta hty => ?_) (Eq.refl true) (Eq.refl true)
      obtain ⟨v₂, hv₂, hd₂⟩ := hty.get (tyRows_get (k := l - 1) (by omega))
      obtain ⟨x₂, b₂, rfl, hm₂⟩ := Dt.tyI hd₂
      have hl₁ := hty.length
      have hix₁ : IxV ws ((l : Int) - 1) (.ref x₂) := (IxV.of hv₂ (by rw [hl₁]; decide)).to (by omega)
      have g1 : (ta, dLst ws) ∈ (nz ++ fz') ++ tl := List.mem_append_left _ (List.mem_append_left _ hta)
      have g2 : (x₂, dTup [b₂, .bool (tyNeeds (l - 1))]) ∈ (nz ++ fz') ++ tl := List.mem_append_left _ (List.mem_append_left _ hm₂)
      have hst : stepB (C', U') (l, false) = if tyNeeds (l - 1) = true then (C' ++ [Dat.list [.list U', dDrop l (C'.length + 1)]], []) else (C', U') := rfl
      revert g2 hst
      generalize tyNeeds (l - 1) = nd
      intro g2 hst
      cases nd
      · x_run
        refine JX.nil (turnQ.next (.cons (.cons (.cons .refl rfl) rfl) rfl) ⟨b', st', bs', ts', C', U', rfl, by rw [ef, hst]; rfl, hB'.more fun p hp => subL hp, by omega, by omega⟩)
      · x_run
        refine JX.freeze4 (JX.freeze3 (JX.sel (.cons 2 rfl .nil) (JX.nil (turnQ.next (.cons (.cons (.cons .refl rfl) rfl) rfl) ⟨_, _, _, _, _, _, rfl, by rw [ef, hst]; rfl, ⟨.app (hB'.dC.mono fun p hp => .tail _ (.tail _ (.tail _ (.tail _ (.tail _ (subL hp)))))) (.one (.lst (.head _) (.cons (.lst (.tail _ (.head _)) (hB'.dU.mono fun p hp => .tail _ (.tail _ (.tail _ (.tail _ (.tail _ (subL hp))))))) (.cons (.tup (.tail _ (.tail _ (.head _))) (.cons .str (.cons (.tup (.tail _ (.tail _ (.tail _ (.head _)))) (.cons .int (.cons (.tup (.tail _ (.tail _ (.tail _ (.tail _ (.head _))))) .nil) .nil))) (.cons ?_ .nil)))) .nil)))), .nil⟩, ?_, ?_⟩))))
        · have e9 : ((bs' ++ [Vl.ref b']).length : Int) = ((C'.length + 1 : Nat) : Int) := by rw [List.length_append, z1]; rfl
          rw [e9]; exact .int
        · simp only [List.length_append, List.length_singleton]; omega
        · simp only [List.length_nil]; omega
    · x_run
      refine JX.nil (turnQ.next (.cons (.cons (.cons .refl rfl) rfl) rfl) ⟨b', st', bs', ts' ++ [.ref _], C', U' ++ [dDead l], rfl, by rw [ef]; rfl, ⟨hB'.dC.mono fun p hp => .tail _ hp, (hB'.dU.mono fun p hp => .tail _ hp).app (.one (.tup (.head _) (.cons .str (.cons .int .nil))))⟩, by omega, by simp only [List.length_append, List.length_singleton]; omega⟩)
  · rintro W' fz' ⟨b', st', bs', ts', C', U', rfl, e, hB', -, -⟩
    have hlen := hvs.length
    rw [List.length_map] at hlen
    rw [List.take_of_length_le (by rw [List.length_reverse]; omega)] at e
    x_run
    refine K _ _ _ _ _ ?_
    have e' : endedB rows (C, U) = (C', U') := e.symm
    rw [e']; exact hB'
end
theorem anew_S6 : True ∧ True := by
  w_top off
  try walk1
  all_goals first | trivial | exact ⟨trivial, trivial⟩
section
open PySem PySem.W PyProof.Rows PySem.Calls
set_option maxRecDepth 100000
set_option Elab.async false
theorem fillK7 (w : World) (h : Heap) : (Mine.hk.heap_1 w.params).In h → PySem.Challenge.rw_xw0171_01.row.prog = PySem.Challenge.rw_xw0171_01.row.prog := by k_fill; intro _; rfl
set_option maxHeartbeats 2000000
/-- the types of the function's locals -/
def LcD (own : Led) (lv : List Vl) : Prop := ∀ l : Nat, 1 ≤ l → l ≤ 6 → ∃ r ty b n, IxV lv l (.ref r) ∧ (r, dTup [ty, b, n]) ∈ own ∧ Dt own ty (tyOf (l - 1))
variable {w : World} {tl own : Led} {c : Cf} {G : Led} {n : Nat} {b st fr : Addr} {bs ts fs lv : List Vl} {C U : List Dat} {rows : List (Nat × Bool)} {Q : Vl → Led → Led → Prop}
theorem sty_spec {W fz : Led} {here : Int} {k : Int} {r : Addr} {ty x n : Vl} (hs : ScIn w c here (W ++ (fz ++ tl))) (m3 : (c.LC, dLst lv) ∈ tl) (hk : IxV lv k (.ref r)) (m4 : (r, dTup [ty, x, n]) ∈ tl) (K : Q ty W fz) : JC w 750 7500 tl W fz 189 [.ref c.S, .int k] Q := by
  obtain ⟨hS, hD, hB, hE⟩ := hs
  gn_look
  x_run
  gn_look
  x_run
  exact K
theorem upT {W fz fz' own tl : Led} {p : Addr × Dsc} (hT : ∀ p ∈ own, p ∈ tl) (hs : ∀ p ∈ fz, p ∈ fz') (h : p ∈ fz ++ own) : p ∈ W ++ (fz' ++ tl) :=
  List.mem_append_right _ ((List.mem_append.mp h).elim (fun h => List.mem_append_left _ (hs _ h)) fun h => List.mem_append_right _ (hT _ h))
theorem IxV.mid2 {vs : List Vl} {v u : Vl} {k : Int} (hk : k = vs.length) (hz : vs.length ≤ 1000000) : IxV (vs ++ [v] ++ [u]) k v := by rw [List.append_assoc]; exact IxV.mid hk hz
theorem BlkS.done {F : Led} {t₁ t₂ t₃ : Addr} {l : Nat} (h : BlkS F bs ts C U) (ms : (st, dLst ts) ∈ F) (m : (b, dLst [.ref st, .ref t₃]) ∈ F) (g3 : (t₃, dTup [.str (.ofString "drop"), .ref t₂, .int ((C.length + 1 : Nat) : Int)]) ∈ F) (g2 : (t₂, dTup [.int l, .ref t₁]) ∈ F) (g1 : (t₁, dTup []) ∈ F) :
    BlkS F (bs ++ [.ref b]) [] (C ++ [.list [.list U, dDrop l (C.length + 1)]]) [] :=
  ⟨h.dC.app (.one (.lst m (.cons (.lst ms h.dU) (.cons (.tup g3 (.cons .str (.cons (.tup g2 (.cons .int (.cons (.tup g1 .nil) .nil))) (.cons .int .nil)))) .nil)))), .nil⟩
abbrev scW (w : World) (c : Cf) (G : Led) (n : Nat) (b st : Addr) (bs ts : List Vl) : Led := (c.dS, dDct w (scE c bs.length)) :: (c.sp, dSpot w G n) :: blkW c.bl b st bs ts
theorem finish_spec (hB : BlkS own bs ts C U) (hT : ∀ p ∈ own, p ∈ tl) (hG : ∀ p ∈ G, p ∈ own) (hS : (c.S, dInst 304 c.dS) ∈ tl) (hBo : (c.Bo, dInst 82 c.dB) ∈ tl) (hE : (c.dB, dDct w (boE c)) ∈ tl) (hL : (c.LC, dLst lv) ∈ tl) (hl : LcD own lv)
    (hfr : (fr, dLst fs) ∈ tl) (hfs : DtA own fs (rows.map rowD)) (hr : ∀ r ∈ rows, 1 ≤ r.1 ∧ r.1 ≤ 6) (hz : rows.length ≤ 1000) (zC : C.length ≤ 10000) (zU : U.length ≤ 10000) (zn : n ≤ 100000)
    (K : ∀ G' n' b' st' bs' ts' nz, BlkS (nz ++ own) bs' ts' (endedB rows (C, U)).1 (endedB rows (C, U)).2 → (∀ p ∈ G', p ∈ nz ++ own) → n' ≤ n + rows.length → Q .none (scW w c G' n' b' st' bs' ts') nz) :
    JC w 600 6000 tl (scW w c G n b st bs ts) [] 280 [.ref c.S, .ref fr] Q := by
  have lfs := hfs.length
  rw [List.length_map] at lfs
  have hfs' : fs.length ≤ 1000000 := by omega
  refine JC.drp ?_
  gn_look
  x_run
  intro D
  refine ForQ.mk (fun (r : List Vl) (W' fz' : Led) => ∃ (rs : List (Nat × Bool)) (C' U' : List Dat) (G' : Led) (n' : Nat) (b' st' : Addr) (bs' ts' : List Vl), DtA own r (rs.map rowD) ∧ (∀ x ∈ rs, 1 ≤ x.1 ∧ x.1 ≤ 6) ∧ rs.foldl stepB (C', U') = endedB rows (C, U) ∧ rs.length ≤ 1000 ∧ C'.length + rs.length ≤ 11000 ∧ U'.length + rs.length ≤ 11000 ∧ n' + rs.length ≤ n + rows.length ∧
      W' = scW w c G' n' b' st' bs' ts' ∧ BlkS (fz' ++ own) bs' ts' C' U' ∧ ∀ p ∈ G', p ∈ fz' ++ own) ?h0 ?turn ?done
  case h0 => exact ⟨rows.reverse, C, U, G, n, b, st, bs, ts, by rw [List.map_reverse]; exact hfs.rev, fun x hx => hr x (List.mem_reverse.mp hx), rfl, by rw [List.length_reverse]; exact hz, by rw [List.length_reverse]; omega, by rw [List.length_reverse]; omega, by rw [List.length_reverse]; exact Nat.le_refl _, rfl, hB, hG⟩
  case turn =>
    rintro v r W' fz' ⟨rs, C', U', G', n', b', st', bs', ts', hd, hrs, hf, hz', zC', zU', zn', rfl, hB', hG'⟩
    cases rs with
    | nil => cases hd
    | cons x rs =>
    obtain ⟨v', r', e, hv, hd₂⟩ := hd.consI
    cases e
    clear hd
    obtain ⟨l, wd⟩ := x
    obtain ⟨ra, rfl, hm⟩ := hv.rowI
    have hm' := hT _ hm
    obtain ⟨hl1, hl2⟩ := hrs _ (.head _)
    have hrs' : ∀ x ∈ rs, 1 ≤ x.1 ∧ x.1 ≤ 6 := fun x hx => hrs x (.tail _ hx)
    have z1 := hB'.dC.length
    have z2 := hB'.dU.length
    rw [List.length_cons] at hz' zC' zU' zn'
    cases wd
    · x_run
      obtain ⟨r, ty, x₁, x₂, hix, hmr, hty⟩ := hl l hl1 hl2
      refine JC.more (sty_spec ⟨mTl hS, .head _, mTl hBo, mTl hE⟩ hL hix (hT _ hmr) ?_) (Eq.refl true) (Eq.refl true)
      x_run
      refine JC.frame .nil (JC.more (needs_spec (own := own) (tyAt (l - 1)) (by rw [tyAt_dat]; exact hty) (fun p hp => mTl (hT p hp)) fun nz => ?_) (Eq.refl true) (Eq.refl true))
      rw [tyAt_needs]
      have hst : stepB (C', U') (l, false) = if tyNeeds (l - 1) = true then (C' ++ [Dat.list [.list U', dDrop l (C'.length + 1)]], []) else (C', U') := rfl
      rw [List.foldl_cons, hst] at hf
      revert hf
      clear hst
      generalize tyNeeds (l - 1) = nd
      intro hf
      dsimp only [List.cons_append, List.nil_append]
      cases nd
      · x_run
        have sb : ∀ p ∈ fz' ++ own, p ∈ (nz ++ fz') ++ own := fun p hp => (List.mem_append.mp hp).elim (fun h => List.mem_append_left _ (List.mem_append_right _ h)) fun h => List.mem_append_right _ h
        exact JX.nil (turnQ.next (.cons (.cons .refl rfl) rfl) ⟨rs, C', U', G', n', b', st', bs', ts', hd₂, hrs', hf, by omega, by omega, by omega, by omega, rfl, hB'.more sb, fun p hp => sb p (hG' p hp)⟩)
      · x_run
        refine JC.frame (.cons 2 rfl .nil) (JC.more (new_block_spec ⟨mTl hS, .head _, mTl hBo, mTl hE⟩ (by rw [List.length_append, List.length_singleton]; omega) fun b₂ st₂ => ?_) (Eq.refl true) (Eq.refl true))
        dsimp only [List.cons_append, List.nil_append, List.eraseIdx]
        x_run
        rename_i t₁ t₂ t₃
        refine JC.frame (.cons 4 rfl (.cons 4 rfl .nil)) (JC.more (close_spec ⟨mTl hS, .tail _ (.tail _ (.tail _ (.head _))), mTl hBo, mTl hE⟩ (.tail _ (.tail _ (.head _))) (IxV.mid2 rfl (by omega)) (.tail _ (.tail _ (.tail _ (.tail _ (.head _))))) (by omega) (by omega) (fun p hp => upT hT (fun p hp => .tail _ (.tail _ (.tail _ (List.mem_append_right _ hp)))) (hG' p hp)) fun G₂ nz₂ hg => ?_) (Eq.refl true) (Eq.refl true))
        dsimp only [List.cons_append, List.nil_append, List.eraseIdx]
        x_run
        have z3 : ((bs' ++ [Vl.ref b']).length : Int) = ((C'.length + 1 : Nat) : Int) := by rw [List.length_append, z1]; rfl
        rw [z3]
        have sb : ∀ p ∈ fz' ++ own, p ∈ ((st', dLst ts') :: (b', dLst [.ref st', .ref t₃]) :: (nz₂ ++ (t₃, dTup [.str (.ofString "drop"), .ref t₂, .int ((C'.length + 1 : Nat) : Int)]) :: (t₂, dTup [.int l, .ref t₁]) :: (t₁, dTup []) :: (nz ++ fz'))) ++ own := fun p hp =>
          .tail _ (.tail _ ((List.mem_append.mp hp).elim (fun h => List.mem_append_left _ (List.mem_append_right _ (.tail _ (.tail _ (.tail _ (List.mem_append_right _ h)))))) fun h => List.mem_append_right _ h))
        have g3 : (t₃, dTup [.str (.ofString "drop"), .ref t₂, .int ((C'.length + 1 : Nat) : Int)]) ∈ ((st', dLst ts') :: (b', dLst [.ref st', .ref t₃]) :: (nz₂ ++ (t₃, dTup [.str (.ofString "drop"), .ref t₂, .int ((C'.length + 1 : Nat) : Int)]) :: (t₂, dTup [.int l, .ref t₁]) :: (t₁, dTup []) :: (nz ++ fz'))) ++ own :=
          .tail _ (.tail _ (List.mem_append_left _ (List.mem_append_right _ (.head _))))
        have g2 : (t₂, dTup [.int l, .ref t₁]) ∈ ((st', dLst ts') :: (b', dLst [.ref st', .ref t₃]) :: (nz₂ ++ (t₃, dTup [.str (.ofString "drop"), .ref t₂, .int ((C'.length + 1 : Nat) : Int)]) :: (t₂, dTup [.int l, .ref t₁]) :: (t₁, dTup []) :: (nz ++ fz'))) ++ own :=
          .tail _ (.tail _ (List.mem_append_left _ (List.mem_append_right _ (.tail _ (.head _)))))
        have g1 : (t₁, dTup []) ∈ ((st', dLst ts') :: (b', dLst [.ref st', .ref t₃]) :: (nz₂ ++ (t₃, dTup [.str (.ofString "drop"), .ref t₂, .int ((C'.length + 1 : Nat) : Int)]) :: (t₂, dTup [.int l, .ref t₁]) :: (t₁, dTup []) :: (nz ++ fz'))) ++ own :=
          .tail _ (.tail _ (List.mem_append_left _ (List.mem_append_right _ (.tail _ (.tail _ (.head _))))))
        refine JX.freeze 1 rfl (JX.freeze 5 rfl (JX.sel (.cons 4 rfl (.cons 0 rfl (.cons 2 rfl (.cons 0 rfl .nil)))) (JX.nil (turnQ.next (.cons (.cons (.cons .refl rfl) rfl) rfl) ⟨rs, _, _, G₂, n' + 1, b₂, st₂, bs' ++ [.ref b'], [], hd₂, hrs', hf, ?_, ?_, ?_, ?_, ?_, (hB'.more sb).done (.head _) (.tail _ (.head _)) g3 g2 g1, ?_⟩))))
        · omega
        · rw [List.length_append, List.length_singleton]; omega
        · rw [List.length_nil]; omega
        · omega
        · rw [← z3]; rfl
        · exact fun p hp => (List.mem_append.mp (hg p hp)).elim (fun h => .tail _ (.tail _ (List.mem_append_left _ (List.mem_append_left _ h)))) fun h => sb p (hG' p h)
    · x_run
      rename_i a
      refine JC.frame (.cons 1 rfl (.cons 3 rfl .nil)) (JC.more (put_spec ⟨mTl hS, .head _, mTl hBo, mTl hE⟩ (.tail _ (.head _)) (IxV.mid rfl (by omega)) (.tail _ (.tail _ (.head _))) (by omega) (by omega) (fun p hp => upT hT (fun p hp => .tail _ hp) (hG' p hp)) fun G₂ nz hg => ?_) (Eq.refl true) (Eq.refl true))
      dsimp only [List.cons_append, List.nil_append, List.eraseIdx]
      x_run
      refine JX.sel (.cons 2 rfl (.cons 0 rfl (.cons 1 rfl (.cons 1 rfl .nil)))) (JX.nil (turnQ.next (.cons (.cons .refl rfl) rfl) ⟨rs, C', U' ++ [dDead l], G₂, n' + 1, b', st', bs', ts' ++ [.ref a], hd₂, hrs', hf, by omega, by omega, by rw [List.length_append, List.length_singleton]; omega, by omega, rfl, ?_, ?_⟩))
      · have sb : ∀ p ∈ fz' ++ own, p ∈ (nz ++ (a, dTup [.str (.ofString "dead"), .int l]) :: fz') ++ own := fun p hp => (List.mem_append.mp hp).elim (fun h => List.mem_append_left _ (List.mem_append_right _ (.tail _ h))) fun h => List.mem_append_right _ h
        exact ⟨hB'.dC.mono sb, (hB'.dU.mono sb).app (.one (.tup (List.mem_append_left _ (List.mem_append_right _ (.head _))) (.cons .str (.cons .int .nil))))⟩
      · exact fun p hp => (List.mem_append.mp (hg p hp)).elim (fun h => List.mem_append_left _ (List.mem_append_left _ h)) fun h => (List.mem_append.mp (hG' p h)).elim (fun h => List.mem_append_left _ (List.mem_append_right _ (.tail _ h))) fun h => List.mem_append_right _ h
  case done =>
    rintro W' fz' ⟨rs, C', U', G', n', b', st', bs', ts', hd, hrs, hf, hz', zC', zU', zn', rfl, hB', hG'⟩
    cases rs with
    | cons x rs => cases hd
    | nil =>
    x_run
    have hf' : endedB rows (C, U) = (C', U') := hf.symm
    refine ⟨_, _, .cons 0 rfl .nil, K _ _ _ _ _ _ _ (by rw [hf']; exact hB') hG' zn'⟩
theorem pop_spec {frs rms : List Vl} {x : Vl} (hB : BlkS own bs ts C U) (hT : ∀ p ∈ own, p ∈ tl) (hG : ∀ p ∈ G, p ∈ own) (hS : (c.S, dInst 304 c.dS) ∈ tl) (hBo : (c.Bo, dInst 82 c.dB) ∈ tl) (hE : (c.dB, dDct w (boE c)) ∈ tl) (hL : (c.LC, dLst lv) ∈ tl) (hl : LcD own lv)
    (hfr : (fr, dLst fs) ∈ tl) (hfs : DtA own fs (rows.map rowD)) (hr : ∀ r ∈ rows, 1 ≤ r.1 ∧ r.1 ≤ 6) (hz : rows.length ≤ 1000) (zC : C.length ≤ 10000) (zU : U.length ≤ 10000) (zn : n ≤ 100000) (zf : frs.length ≤ 1000000) (zr : rms.length ≤ 1000000)
    (K : ∀ G' n' b' st' bs' ts' nz, BlkS (nz ++ own) bs' ts' (endedB rows (C, U)).1 (endedB rows (C, U)).2 → (∀ p ∈ G', p ∈ nz ++ own) → n' ≤ n + rows.length → Q .none (scW w c G' n' b' st' bs' ts' ++ [(c.FR, dLst frs), (c.RM, dLst rms)]) nz) :
    JC w 590 5900 tl (scW w c G n b st bs ts ++ [(c.FR, dLst (frs ++ [.ref fr])), (c.RM, dLst (rms ++ [x]))]) [] 287 [.ref c.S] Q := by
  dsimp only [List.cons_append, List.nil_append] at K ⊢
  gn_look
  x_run
  refine JC.frame (.cons 0 rfl (.cons 0 rfl (.cons 0 rfl (.cons 0 rfl (.cons 0 rfl .nil))))) (JC.more (finish_spec hB (fun p hp => mTl (hT p hp)) hG (mTl hS) (mTl hBo) (mTl hE) (mTl hL) hl (mTl hfr) hfs hr hz zC zU zn fun G' n' b' st' bs' ts' nz h1 h2 h3 => ?_) (Eq.refl true) (Eq.refl true))
  dsimp only [List.cons_append, List.nil_append, List.eraseIdx]
  rw [List.append_nil]
  x_run
  exact K _ _ _ _ _ _ _ h1 h2 h3
end
theorem anew_S7 : True ∧ True := by
  w_top off
  try walk1
  all_goals first | trivial | exact ⟨trivial, trivial⟩
section
open PySem PySem.W PyProof.Rows PySem.Calls
set_option maxRecDepth 100000
set_option Elab.async false
theorem fillK8 (w : World) (h : Heap) : (Mine.hk.heap_1 w.params).In h → PySem.Challenge.rw_xw0171_01.row.prog = PySem.Challenge.rw_xw0171_01.row.prog := by k_fill; intro _; rfl
set_option maxHeartbeats 2000000
theorem fmodNat {m : Nat} (x : Int) (hm : 1 ≤ m) : ∃ d : Nat, (d : Int) = x.fmod m ∧ d < m := by
  have a := Int.fmod_nonneg_of_pos x (b := (m : Int)) (by omega)
  have b := Int.fmod_lt_of_pos x (b := (m : Int)) (by omega)
  exact ⟨(x.fmod m).toNat, by omega, by omega⟩
theorem mulOk {a b : Int} (h : a.natAbs < 2 ^ 64) : IntMulOk a b := IntMulOk.of_left (intBits_le_iff.mpr h)
theorem take_spec {w : World} {tl : Led} {src : Addr} {s0 s1 : Int} {top : Nat} {Q : Vl → Led → Led → Prop} (h0 : 0 ≤ s0) (h1 : 0 ≤ s1) (h2 : s1 < 2147483647) (hp : 1 ≤ top) (hp2 : top ≤ 1000)
    (K : ∀ (d : Nat) (s0' s1' : Int), d < top → 0 ≤ s0' → 0 ≤ s1' → s1' < 2147483647 → Q (.int d) [(src, dLst [.int s0', .int s1'])] []) : JC w 800 8000 tl [(src, dLst [.int s0, .int s1])] [] 473 [.ref src, .int top] Q := by
  have n1 : (top : Int) ≠ 0 := by omega
  have n2 : (2147483647 : Int) ≠ 0 := by decide
  have n3 : (2147483629 : Int) ≠ 0 := by decide
  have n4 : (32 : Int) ≠ 0 := by decide
  have y1 : Builtin.divisionGoesByPylong s0 top = false := PyProof.noPylong_small (by omega)
  have y2 : ∀ x, Builtin.divisionGoesByPylong x 32 = false := fun x => PyProof.noPylong_small (by decide)
  have y3 := fun x => y2 x
  have m1 : IntMulOk s1 39373 := mulOk (by omega)
  gn_look
  x_run
  · obtain ⟨d, e, hd⟩ := fmodNat s0 hp
    rw [← e]
    exact K d _ _ hd (Int.fdiv_nonneg h0 (by omega)) h1 h2
  · have a1 : 0 ≤ (s1 * 39373 + 7).fmod 2147483647 := Int.fmod_nonneg_of_pos _ (by decide)
    have a2 : (s1 * 39373 + 7).fmod 2147483647 < 2147483647 := Int.fmod_lt_of_pos _ (by decide)
    rw [show ∀ x, ([Vl.int s0, Vl.int s1] : List Vl).set (Int.toNat 1) x = [Vl.int s0, x] from fun _ => rfl]
    generalize (s1 * 39373 + 7).fmod 2147483647 = z at a1 a2 ⊢
    have m2 : IntMulOk z z := mulOk (by omega)
    have y4 := y2 ((z * z).fmod 2147483629)
    x_run
    obtain ⟨d, e, hd⟩ := fmodNat (((z * z).fmod 2147483629).fdiv 32) hp
    rw [← e]
    exact K d _ _ hd h0 a1 a2
theorem one_spec {w : World} {tl : Led} {src tA : Addr} {s0 s1 : Int} {vs : List Vl} {Q : Vl → Led → Led → Prop} (h0 : 0 ≤ s0) (h1 : 0 ≤ s1) (h2 : s1 < 2147483647) (hm : (tA, dLst vs) ∈ tl) (hp : 1 ≤ vs.length) (hp2 : vs.length ≤ 1000)
    (K : ∀ (d : Nat) (v : Vl) (s0' s1' : Int), vs[d]? = some v → 0 ≤ s0' → 0 ≤ s1' → s1' < 2147483647 → Q v [(src, dLst [.int s0', .int s1'])] []) : JC w 790 7900 tl [(src, dLst [.int s0, .int s1])] [] 480 [.ref src, .ref tA] Q := by
  have z : vs.length ≤ 1000000 := by omega
  gn_look
  refine JX.ret (JE.item (k := 0) (vs := []) (by kob_here) ?_ (Eq.refl true))
  x_run
  refine JC.more (take_spec h0 h1 h2 hp hp2 fun d s0' s1' hd a0 a1 a2 => ?_) (Eq.refl true) (Eq.refl true)
  have e := List.getElem?_eq_getElem hd
  exact ⟨_, vs, rfl, mTl hm, _, IxV.of e z, K d _ _ _ e a0 a1 a2⟩
end
theorem anew_S8 : True ∧ True := by
  w_top off
  try walk1
  all_goals first | trivial | exact ⟨trivial, trivial⟩
section
open PySem PySem.W PyProof.Rows PySem.Calls
set_option maxRecDepth 100000
set_option Elab.async false
theorem fillK9 (w : World) (h : Heap) : (Mine.hk.heap_1 w.params).In h → PySem.Challenge.rw_xw0171_01.row.prog = PySem.Challenge.rw_xw0171_01.row.prog := by k_fill; intro _; rfl
set_option maxHeartbeats 2000000
theorem stands_spec {w : World} {tl : Led} {c : Cf} {here : Int} {lb lf lr : Addr} {x1 x2 x3 x4 x5 x6 : List Vl} {D1 D2 D3 : List Dat} {Q : Vl → Led → Led → Prop} (hs : ScIn w c here tl)
    (q1 : (c.bl, dLst x1) ∈ tl) (q2 : (lb, dLst x2) ∈ tl) (d1 : DtA tl x1 D1) (d2 : DtA tl x2 D1) (e1 : ∀ d ∈ D1, kqdOk 8 d = true)
    (q3 : (c.FR, dLst x3) ∈ tl) (q4 : (lf, dLst x4) ∈ tl) (d3 : DtA tl x3 D2) (d4 : DtA tl x4 D2) (e2 : ∀ d ∈ D2, kqdOk 8 d = true)
    (q5 : (c.RM, dLst x5) ∈ tl) (q6 : (lr, dLst x6) ∈ tl) (d5 : DtA tl x5 D3) (d6 : DtA tl x6 D3) (e3 : ∀ d ∈ D3, kqdOk 8 d = true) (hh : here = (x2.length : Int) - 1) (zh : x2.length ≤ 1000000)
    (K : Q (.bool true) [] []) : JC w 500 5000 tl [] [] 506 [.ref c.S, .ref lb, .ref lf, .ref lr] Q := by
  obtain ⟨hS, hD, hB, hE⟩ := hs
  have d1' : DtA ([] ++ ([] ++ tl)) x1 D1 := d1
  have d2' : DtA ([] ++ ([] ++ tl)) x2 D1 := d2
  have d3' : DtA ([] ++ ([] ++ tl)) x3 D2 := d3
  have d4' : DtA ([] ++ ([] ++ tl)) x4 D2 := d4
  have d5' : DtA ([] ++ ([] ++ tl)) x5 D3 := d5
  have d6' : DtA ([] ++ ([] ++ tl)) x6 D3 := d6
  gn_look
  x_run
  · rename_i hb
    exfalso
    rw [hh] at hb
    simp at hb
  · exact K
end
section
open PySem PySem.W PyProof.Rows PySem.Calls
set_option maxRecDepth 100000
set_option Elab.async false
set_option linter.unusedVariables false
theorem Arr.perm {W W₁ fz W' fz' : Led} (p : W.Perm W₁) (r : Arr W₁ fz W' fz') : Arr W fz W' fz' := fun c tl l h s =>
  r c tl l h ⟨s.F, s.N.mono fun q hq => (List.mem_append.mp hq).elim (fun hq => List.mem_append_left _ (p.mem_iff.mpr hq)) fun hq => List.mem_append_right _ hq, s.D.perm p, s.O⟩
abbrev RowsJ := List (Nat × Bool)
/-- what the law keeps, what a Scopes keeps: the same -/
structure Ab where
  (C U : List Dat)
  (Φ : List RowsJ)
  (rm : List Nat)
def RowsOkJ (φ : RowsJ) : Prop := ∀ r ∈ φ, 1 ≤ r.1 ∧ r.1 ≤ 6
theorem okLive : PyData.strOk (Str.ofString "live") = true := by decide +kernel
theorem okDead : PyData.strOk (Str.ofString "dead") = true := by decide +kernel
theorem okDrop : PyData.strOk (Str.ofString "drop") = true := by decide +kernel
/-- the data are such as == compares -/
structure OkCU (C U : List Dat) : Prop where
  c : ∀ d ∈ C, kqdOk 8 d = true
  u : ∀ d ∈ U, kqdOk 6 d = true
theorem OkCU.live {C U : List Dat} {l : Nat} (h : OkCU C U) : OkCU C (U ++ [dLive l]) := ⟨h.c, fun d hd => by
  rcases List.mem_append.mp hd with hd | hd
  · exact h.u d hd
  · rw [List.mem_singleton.mp hd]; exact (show (PyData.strOk (Str.ofString "live") && (true && true)) = true by rw [okLive]; rfl)⟩
theorem OkCU.stepB {s : List Dat × List Dat} {r : Nat × Bool} (h : OkCU s.1 s.2) : OkCU (stepB s r).1 (stepB s r).2 := by
  unfold Mine.stepB
  split
  · refine ⟨h.c, fun d hd => ?_⟩
    rcases List.mem_append.mp hd with hd | hd
    · exact h.u d hd
    · rw [List.mem_singleton.mp hd]; exact (show (PyData.strOk (Str.ofString "dead") && (true && true)) = true by rw [okDead]; rfl)
  · split
    · refine ⟨fun d hd => ?_, fun _ h => nomatch h⟩
      rcases List.mem_append.mp hd with hd | hd
      · exact h.c d hd
      · rw [List.mem_singleton.mp hd]
        have e1 : kqdOk 7 (.list s.2) = true := List.all_eq_true.mpr h.u
        have e2 : kqdOk 7 (dDrop r.1 (s.1.length + 1)) = true := (show (PyData.strOk (Str.ofString "drop") && ((true && (true && true)) && (true && true))) = true by rw [okDrop]; rfl)
        show [Dat.list s.2, dDrop r.1 (s.1.length + 1)].all (kqdOk 7) = true
        rw [List.all_cons, List.all_cons, e1, e2]; rfl
    · exact h
theorem OkCU.fold : ∀ (rows : List (Nat × Bool)) {s : List Dat × List Dat}, OkCU s.1 s.2 → OkCU (rows.foldl Mine.stepB s).1 (rows.foldl Mine.stepB s).2
  | [], _, h => h
  | r :: rs, s, h => OkCU.fold rs (s := Mine.stepB s r) h.stepB
theorem OkCU.ended {C U : List Dat} (h : OkCU C U) (rows : List (Nat × Bool)) : OkCU (endedB rows (C, U)).1 (endedB rows (C, U)).2 := OkCU.fold rows.reverse (s := (C, U)) h
theorem stepB_len {s : List Dat × List Dat} {r : Nat × Bool} : (stepB s r).1.length ≤ s.1.length + 1 ∧ (stepB s r).2.length ≤ s.2.length + 1 := by
  unfold stepB
  split
  · exact ⟨Nat.le_succ _, by rw [List.length_append]; exact Nat.le_refl _⟩
  · split
    · exact ⟨by rw [List.length_append]; exact Nat.le_refl _, Nat.zero_le _⟩
    · exact ⟨Nat.le_succ _, Nat.le_succ _⟩
theorem foldB_len : ∀ (rows : List (Nat × Bool)) {s : List Dat × List Dat}, (rows.foldl stepB s).1.length ≤ s.1.length + rows.length ∧ (rows.foldl stepB s).2.length ≤ s.2.length + rows.length
  | [], _ => ⟨Nat.le_refl _, Nat.le_refl _⟩
  | r :: rs, s => by
    have h1 := foldB_len rs (s := stepB s r)
    have h2 := stepB_len (s := s) (r := r)
    rw [List.foldl_cons, List.length_cons]
    omega
theorem endedB_len {C U : List Dat} {rows : List (Nat × Bool)} : (endedB rows (C, U)).1.length ≤ C.length + rows.length ∧ (endedB rows (C, U)).2.length ≤ U.length + rows.length := by
  have h := foldB_len rows.reverse (s := (C, U))
  rw [List.length_reverse] at h
  exact h
/-- how much k deeds can have made -/
structure Bn (k : Nat) (A : Ab) (n : Nat) : Prop where
  Φ : A.Φ.length ≤ k
  rm : A.rm.length = A.Φ.length
  φ : ∀ φ ∈ A.Φ, φ.length ≤ 2 * k ∧ RowsOkJ φ
  C : A.C.length ≤ 100 * k
  U : A.U.length ≤ 100 * k
  n : n ≤ 100 * k
  ok : OkCU A.C A.U
theorem Bn.push {k n r : Nat} {A : Ab} (h : Bn k A n) : Bn (k + 1) ⟨A.C, A.U, A.Φ ++ [[]], A.rm ++ [r]⟩ n where
  Φ := by rw [List.length_append, List.length_singleton]; have := h.Φ; omega
  rm := by rw [List.length_append, List.length_append, List.length_singleton, List.length_singleton, h.rm]
  φ := fun φ hφ => by
    rcases List.mem_append.mp hφ with hφ | hφ
    · have := h.φ φ hφ; exact ⟨by omega, this.2⟩
    · rw [List.mem_singleton.mp hφ]; exact ⟨Nat.zero_le _, fun _ h => nomatch h⟩
  C := Nat.le_trans h.C (by omega)
  U := Nat.le_trans h.U (by omega)
  n := Nat.le_trans h.n (by omega)
  ok := h.ok
theorem Bn.row {k n n' : Nat} {A : Ab} {C' U' : List Dat} {P1 P2 : List RowsJ} {φ ψ : RowsJ} (h : Bn k A n) (e : A.Φ = P1 ++ φ :: P2) (hψ : ψ.length ≤ φ.length + 2) (hr : RowsOkJ ψ) (hC : C'.length ≤ A.C.length + 100) (hU : U'.length ≤ A.U.length + 100) (hn : n' ≤ n + 100) (hok : OkCU C' U') :
    Bn (k + 1) ⟨C', U', P1 ++ ψ :: P2, A.rm⟩ n' where
  Φ := by have := h.Φ; rw [e, List.length_append, List.length_cons] at this; rw [List.length_append, List.length_cons]; omega
  rm := by show A.rm.length = _; rw [h.rm, e, List.length_append, List.length_append, List.length_cons, List.length_cons]
  φ := fun χ hχ => by
    have h0 := h.φ
    rw [e] at h0
    rcases List.mem_append.mp hχ with hχ | hχ
    · have := h0 χ (List.mem_append_left _ hχ); exact ⟨by omega, this.2⟩
    · rcases List.mem_cons.mp hχ with rfl | hχ
      · have := h0 φ (List.mem_append_right _ (.head _)); exact ⟨by omega, hr⟩
      · have := h0 χ (List.mem_append_right _ (.tail _ hχ)); exact ⟨by omega, this.2⟩
  C := Nat.le_trans hC (by have := h.C; omega)
  U := Nat.le_trans hU (by have := h.U; omega)
  n := Nat.le_trans hn (by have := h.n; omega)
  ok := hok
theorem Bn.same {k n n' : Nat} {A : Ab} {C' U' : List Dat} (h : Bn k A n) (hC : C'.length ≤ A.C.length + 100) (hU : U'.length ≤ A.U.length + 100) (hn : n' ≤ n + 100) (hok : OkCU C' U') : Bn (k + 1) ⟨C', U', A.Φ, A.rm⟩ n' where
  Φ := Nat.le_trans h.Φ (by omega)
  rm := h.rm
  φ := fun χ hχ => ⟨by have := (h.φ χ hχ).1; omega, (h.φ χ hχ).2⟩
  C := Nat.le_trans hC (by have := h.C; omega)
  U := Nat.le_trans hU (by have := h.U; omega)
  n := Nat.le_trans hn (by have := h.n; omega)
  ok := hok
theorem Bn.pop {k n n' r : Nat} {A : Ab} {C' U' : List Dat} {P1 : List RowsJ} {φ : RowsJ} {rm1 : List Nat} (h : Bn k A n) (e : A.Φ = P1 ++ [φ]) (em : A.rm = rm1 ++ [r]) (hC : C'.length ≤ A.C.length + 100) (hU : U'.length ≤ A.U.length + 100) (hn : n' ≤ n + 100) (hok : OkCU C' U') :
    Bn (k + 1) ⟨C', U', P1, rm1⟩ n' where
  Φ := by have := h.Φ; rw [e, List.length_append] at this; show P1.length ≤ k + 1; omega
  rm := by
    have := h.rm
    rw [e, em, List.length_append, List.length_append, List.length_singleton, List.length_singleton] at this
    show rm1.length = P1.length
    omega
  φ := fun χ hχ => by have := h.φ χ (by rw [e]; exact List.mem_append_left _ hχ); exact ⟨by omega, this.2⟩
  C := Nat.le_trans hC (by have := h.C; omega)
  U := Nat.le_trans hU (by have := h.U; omega)
  n := Nat.le_trans hn (by have := h.n; omega)
  ok := hok
/-- frames: where each lies and what it holds -/
abbrev FrJ := List (Addr × List Vl)
abbrev refsJ (Fs : FrJ) : List Vl := Fs.map fun f => Vl.ref f.1
abbrev frW (Fs : FrJ) : Led := Fs.map fun f => (f.1, dLst f.2)
inductive FrD (own : Led) : FrJ → List RowsJ → Prop
  | nil : FrD own [] []
  | cons {f : Addr} {vs : List Vl} {φ : RowsJ} {Fs : FrJ} {Φ : List RowsJ} : DtA own vs (φ.map rowD) → FrD own Fs Φ → FrD own ((f, vs) :: Fs) (φ :: Φ)
theorem FrD.mono {own own' : Led} {Fs : FrJ} {Φ : List RowsJ} (h : FrD own Fs Φ) (s : ∀ p ∈ own, p ∈ own') : FrD own' Fs Φ := by
  induction h with
  | nil => exact .nil
  | cons a _ ih => exact .cons (a.mono s) ih
theorem FrD.length {own : Led} {Fs : FrJ} {Φ : List RowsJ} (h : FrD own Fs Φ) : Fs.length = Φ.length := by
  induction h with
  | nil => rfl
  | cons _ _ ih => rw [List.length_cons, List.length_cons, ih]
theorem FrD.app {own : Led} {Fs Fs' : FrJ} {Φ Φ' : List RowsJ} (h : FrD own Fs Φ) (h' : FrD own Fs' Φ') : FrD own (Fs ++ Fs') (Φ ++ Φ') := by
  induction h with
  | nil => exact h'
  | cons a _ ih => exact .cons a ih
/-- parted at a place of the rows' -/
theorem FrD.split {own : Led} {φ : RowsJ} {P2 : List RowsJ} : ∀ {P1 : List RowsJ} {Fs : FrJ}, FrD own Fs (P1 ++ φ :: P2) → ∃ F1 f vs F2, Fs = F1 ++ (f, vs) :: F2 ∧ F1.length = P1.length ∧ FrD own F1 P1 ∧ DtA own vs (φ.map rowD) ∧ FrD own F2 P2
  | [], Fs, h => by cases h with | cons a b => exact ⟨[], _, _, _, rfl, rfl, .nil, a, b⟩
  | ψ :: P1, Fs, h => by
    cases h with
    | cons a b =>
      obtain ⟨F1, f, vs, F2, rfl, e, h1, h2, h3⟩ := FrD.split b
      exact ⟨_ :: F1, f, vs, F2, rfl, congrArg (· + 1) e, .cons a h1, h2, h3⟩
theorem lastOf {α : Type} {l : List α} (h : l ≠ []) : ∃ l1 x, l = l1 ++ [x] := ⟨l.dropLast, l.getLast h, (List.dropLast_concat_getLast h).symm⟩
theorem splitAt {α : Type} {l : List α} {d : Nat} (h : d < l.length) : ∃ l1 x l2, l = l1 ++ x :: l2 ∧ l1.length = d := ⟨l.take d, l[d], l.drop (d + 1), by rw [List.getElem_cons_drop, List.take_append_drop], by rw [List.length_take]; omega⟩
structure Lv where
  (lb lst : Addr)
  (lbs lts : List Vl)
  (Gs : FrJ)
structure Sv where
  (b st : Addr)
  (bs ts : List Vl)
  (G : Led)
  (n : Nat)
  (Fs : FrJ)
structure Lc where
  (src lbl lf lr : Addr)
abbrev rmV (rm : List Nat) : List Vl := rm.map fun (r : Nat) => Vl.int (r : Int)
abbrev lawW (q : Lc) (s0 s1 : Int) (l : Lv) (rm : List Nat) : Led :=
  [(q.src, dLst [.int s0, .int s1]), (q.lbl, dLst (l.lbs ++ [.ref l.lb])), (l.lb, dLst [.ref l.lst, .none]), (l.lst, dLst l.lts), (q.lf, dLst (refsJ l.Gs)), (q.lr, dLst (rmV rm))]
abbrev scpW (w : World) (c : Cf) (s : Sv) (rm : List Nat) : Led := scW w c s.G s.n s.b s.st s.bs s.ts ++ [(c.FR, dLst (refsJ s.Fs)), (c.RM, dLst (rmV rm))]
abbrev allW (w : World) (c : Cf) (q : Lc) (s0 s1 : Int) (s : Sv) (l : Lv) (rm : List Nat) : Led := lawW q s0 s1 l rm ++ (scpW w c s rm ++ (frW s.Fs ++ frW l.Gs))
structure Dd (own : Led) (s : Sv) (l : Lv) (A : Ab) : Prop where
  bS : BlkS own s.bs s.ts A.C A.U
  bL : BlkS own l.lbs l.lts A.C A.U
  fS : FrD own s.Fs A.Φ
  fL : FrD own l.Gs A.Φ
  g : ∀ p ∈ s.G, p ∈ own
/- what _law_stands compares -/
def datB (C U : List Dat) : List Dat := C ++ [.list [.list U, .none]]
def datF (Φ : List RowsJ) : List Dat := Φ.map fun φ => .list (φ.map rowD)
def datR (rm : List Nat) : List Dat := rm.map fun (r : Nat) => Dat.int r
theorem okB {C U : List Dat} (h : OkCU C U) : ∀ d ∈ datB C U, kqdOk 8 d = true := fun d hd => by
  rcases List.mem_append.mp hd with hd | hd
  · exact h.c d hd
  · rw [List.mem_singleton.mp hd]
    have e1 : kqdOk 7 (.list U) = true := List.all_eq_true.mpr h.u
    show [Dat.list U, Dat.none].all (kqdOk 7) = true
    rw [List.all_cons, List.all_cons, e1]; rfl
theorem okF {Φ : List RowsJ} : ∀ d ∈ datF Φ, kqdOk 8 d = true := fun d hd => by
  obtain ⟨φ, _, rfl⟩ := List.mem_map.mp hd
  refine List.all_eq_true.mpr fun x hx => ?_
  obtain ⟨r, _, rfl⟩ := List.mem_map.mp hx
  unfold rowD
  cases r.2
  · exact (show (true && (PyData.strOk (Str.ofString "drop") && true)) = true by rw [okDrop]; rfl)
  · exact (show (true && (PyData.strOk (Str.ofString "dead") && true)) = true by rw [okDead]; rfl)
theorem okR {rm : List Nat} : ∀ d ∈ datR rm, kqdOk 8 d = true := fun d hd => by
  obtain ⟨r, _, rfl⟩ := List.mem_map.mp hd
  rfl
theorem BlkS.dat {own T : Led} {b st : Addr} {bs ts : List Vl} {C U : List Dat} (h : BlkS own bs ts C U) (hs : ∀ p ∈ own, p ∈ T) (h1 : (b, dLst [.ref st, .none]) ∈ T) (h2 : (st, dLst ts) ∈ T) : DtA T (bs ++ [.ref b]) (datB C U) :=
  (h.dC.mono hs).app (.one (.lst h1 (.cons (.lst h2 (h.dU.mono hs)) (.cons .none .nil))))
theorem FrD.dat {own T : Led} {Fs : FrJ} {Φ : List RowsJ} (h : FrD own Fs Φ) (hs : ∀ p ∈ own, p ∈ T) (hf : ∀ p ∈ frW Fs, p ∈ T) : DtA T (refsJ Fs) (datF Φ) := by
  induction h with
  | nil => exact .nil
  | cons a _ ih => exact .cons (.lst (hf _ (.head _)) (a.mono hs)) (ih fun p hp => hf p (.tail _ hp))
theorem rmDat {T : Led} : ∀ (rm : List Nat), DtA T (rmV rm) (datR rm)
  | [] => .nil
  | r :: rm => .cons .int (rmDat rm)
/-- the law and the Scopes stand alike -/
def ScFz' (w : World) (c : Cf) (own : Led) : Prop := (c.S, dInst 304 c.dS) ∈ own ∧ (c.Bo, dInst 82 c.dB) ∈ own ∧ (c.dB, dDct w (boE c)) ∈ own
theorem stands_all {w : World} {tl own : Led} {c : Cf} {q : Lc} {s0 s1 : Int} {s : Sv} {l : Lv} {A : Ab} {k : Nat} {Q : Vl → Led → Led → Prop} (h : Dd own s l A) (hF : ScFz' w c own) (B : Bn k A s.n) (hk : k ≤ 100) (hT : ∀ p ∈ allW w c q s0 s1 s l A.rm, p ∈ tl) (hO : ∀ p ∈ own, p ∈ tl)
    (K : Q (.bool true) [] []) : JC w 500 5000 tl [] [] 506 [.ref c.S, .ref q.lbl, .ref q.lf, .ref q.lr] Q := by
  have m : ∀ (i : Nat) (x : Addr × Dsc), (allW w c q s0 s1 s l A.rm)[i]? = some x → x ∈ tl := fun i x e => hT _ (List.mem_of_getElem? e)
  have hC := B.C
  have l1 := h.bS.dC.length
  have l2 := h.bL.dC.length
  exact stands_spec (here := s.bs.length) ⟨hO _ hF.1, m 6 _ rfl, hO _ hF.2.1, hO _ hF.2.2⟩ (m 8 _ rfl) (m 1 _ rfl) (h.bS.dat hO (m 9 _ rfl) (m 10 _ rfl)) (h.bL.dat hO (m 2 _ rfl) (m 3 _ rfl)) (okB B.ok)
    (m 11 _ rfl) (m 4 _ rfl) (h.fS.dat hO fun p hp => hT p (List.mem_append_right _ (List.mem_append_right _ (List.mem_append_left _ hp)))) (h.fL.dat hO fun p hp => hT p (List.mem_append_right _ (List.mem_append_right _ (List.mem_append_right _ hp)))) okF
    (m 12 _ rfl) (m 5 _ rfl) (rmDat _) (rmDat _) okR (by rw [List.length_append, List.length_singleton, l1, ← l2]; omega) (by rw [List.length_append, List.length_singleton]; omega) K
theorem permFG {α : Type} {x y : α} {A B A' B' : List α} : (x :: y :: ((A ++ A') ++ (B ++ B'))).Perm ((A ++ x :: A') ++ (B ++ y :: B')) := by
  have h1 : (B ++ y :: B').Perm (y :: (B ++ B')) := List.perm_middle
  have h2 : (A ++ x :: A').Perm (x :: (A ++ A')) := List.perm_middle
  refine List.Perm.symm ((h2.append h1).trans ?_)
  show (x :: ((A ++ A') ++ y :: (B ++ B'))).Perm _
  exact .cons x List.perm_middle
theorem permFG0 {α : Type} {x y : α} {A B : List α} : (x :: y :: (A ++ B)).Perm ((A ++ [x]) ++ (B ++ [y])) := by
  have := permFG (x := x) (y := y) (A := A) (B := B) (A' := []) (B' := [])
  rwa [List.append_nil, List.append_nil] at this
theorem rmV_app {rm : List Nat} {r : Nat} : rmV (rm ++ [r]) = rmV rm ++ [.int (r : Int)] := List.map_append
theorem refsJ_mid {F1 F2 : FrJ} {f : Addr} {v : List Vl} : refsJ (F1 ++ (f, v) :: F2) = refsJ F1 ++ .ref f :: refsJ F2 := List.map_append
theorem refsJ_app {F1 : FrJ} {f : Addr} {v : List Vl} : refsJ (F1 ++ [(f, v)]) = refsJ F1 ++ [.ref f] := List.map_append
theorem frW_mid {F1 F2 : FrJ} {f : Addr} {v : List Vl} : frW (F1 ++ (f, v) :: F2) = frW F1 ++ (f, dLst v) :: frW F2 := List.map_append
theorem frW_app {F1 : FrJ} {f : Addr} {v : List Vl} : frW (F1 ++ [(f, v)]) = frW F1 ++ [(f, dLst v)] := List.map_append
theorem JL.arr {j : Jp} {l : Loc} {W fz W' fz' : Led} {es : List PySem.Expr} {Q : List Vl → Led → Led → Prop} (a : Arr W fz W' fz') (q : JL j l W' fz' es Q) : JL j l W fz es Q := fun c ok h g dr t o s pos QQ E K => q c ok h g dr t o (a _ _ _ _ s) pos QQ E K
theorem FrD.last {own : Led} {φ : RowsJ} {P1 : List RowsJ} {Fs : FrJ} (h : FrD own Fs (P1 ++ [φ])) : ∃ F1 f vs, Fs = F1 ++ [(f, vs)] ∧ F1.length = P1.length ∧ FrD own F1 P1 ∧ DtA own vs (φ.map rowD) := by
  obtain ⟨F1, f, vs, F2, e, l, h1, h2, h3⟩ := h.split
  cases h3
  exact ⟨F1, f, vs, e, l, h1, h2⟩
theorem rowOne {own : Led} {fv : List Vl} {φ : RowsJ} {y : Addr} {lc : Nat} {wd : Bool} (h : DtA own fv (φ.map rowD)) (m : (y, dTup [.int (lc : Int), .str (if wd then Str.ofString "dead" else Str.ofString "drop")]) ∈ own) : DtA own (fv ++ [.ref y]) ((φ ++ [(lc, wd)]).map rowD) := by
  rw [List.map_append]
  exact h.app (.one (.tup m (.cons .int (.cons .str .nil))))
theorem liveOne {own : Led} {ts : List Vl} {U : List Dat} {y : Addr} {lc : Nat} (h : DtA own ts U) (m : (y, dTup [.str (Str.ofString "live"), .int (lc : Int)]) ∈ own) : DtA own (ts ++ [.ref y]) (U ++ [dLive lc]) := h.app (.one (.tup m (.cons .str (.cons .int .nil))))
theorem RowsOkJ.snoc {φ : RowsJ} {lc : Nat} {wd : Bool} (h : RowsOkJ φ) (h1 : 1 ≤ lc) (h2 : lc ≤ 6) : RowsOkJ (φ ++ [(lc, wd)]) := fun r hr => by
  rcases List.mem_append.mp hr with hr | hr
  · exact h r hr
  · rw [List.mem_singleton.mp hr]; exact ⟨h1, h2⟩
theorem Arr.lose {W fz W' fz' Wc Wr : Led} (sel : Sel W Wc Wr) (r : Arr Wr fz W' fz') : Arr W fz W' fz' := fun c tl l h s => by
  have D := Dis.iff.mp (s.D.perm sel.perm)
  have D1 := List.pairwise_append.mp D.1
  refine r c tl l h ⟨s.F, s.N.mono fun p hp => ?_, Dis.iff.mpr ⟨D1.2.1, fun p hp => D.2 p (List.mem_append_right _ hp)⟩, s.O⟩
  rcases List.mem_append.mp hp with hp | hp
  · exact List.mem_append_left _ (sel.perm.mem_iff.mpr (List.mem_append_right _ hp))
  · exact List.mem_append_right _ hp
theorem Gr.all {G' nz G own T : Led} (hg : Gr G' nz G) (h : ∀ p ∈ G, p ∈ own) (hs : ∀ p ∈ nz ++ own, p ∈ T) : ∀ p ∈ G', p ∈ T := fun p hp => (List.mem_append.mp (hg p hp)).elim (fun h => hs p (List.mem_append_left _ h)) fun q => hs p (List.mem_append_right _ (h p q))
theorem LcD.mono {own own' : Led} {lv : List Vl} (h : LcD own lv) (s : ∀ p ∈ own, p ∈ own') : LcD own' lv := fun l h1 h2 => by
  obtain ⟨r, ty, b, n, e, m, d⟩ := h l h1 h2
  exact ⟨r, ty, b, n, e, s _ m, d.mono s⟩
end
section
open PySem PySem.W PyProof.Rows PySem.Calls
set_option maxRecDepth 100000
set_option Elab.async false
set_option linter.unusedVariables false
theorem Sel.all : ∀ (W : Led), Sel W W []
  | [] => .nil
  | p :: W => .cons 0 rfl (Sel.all W)
section
variable {j : Jp} {l : Loc} {W fz : Led} {e : PySem.Expr} {pos : Pos} {rest body : List Stmt} {Q : Fl → Loc → Led → Led → Prop}
theorem JX.unpack4 {ts : List PySem.Expr} {k : Nat} {tp : Pos} (p : JE j l W fz e (fun v W' fz' => JB j l W' fz' (.Tuple ts k tp) v rest Q)) (hc : notComp e = true) (hw : ∀ L, swappedStores [.Tuple ts k tp] e (j.I.env L) = Pure.pure none) : JX j l W fz (.Assign [.Tuple ts k tp] e pos :: rest) Q := fun c ok h g dr t₀ o s QQ E hE K =>
  wpAny_execs_cons (Assign_Tuple (p c ok h g dr t₀ o s _ E fun v u W' fz' h' t' iu s' q => q c ok h' g dr t' o s' u iu QQ E hE K) (swapsSole_of hc _ _ _) (hw c.L))
theorem JB.four {x y z u : Str} {px py pz pu : Pos} {k : Nat} {t : Addr} {a b d f : Vl} (m : (t, dTup [a, b, d, f]) ∈ W ++ (fz ++ j.tl)) (q : JX j ((u, f) :: (z, d) :: (y, b) :: (x, a) :: l) W fz body Q) (hx : nameOk j x = true) (hy : nameOk j y = true) (hz : nameOk j z = true) (hu : nameOk j u = true) :
    JB j l W fz (.Tuple [.Name x px, .Name y py, .Name z pz, .Name u pu] k pos) (.ref t) body Q := fun c ok h g dr t' o s v iv QQ E hE K => by
  cases iv
  obtain ⟨m₀, F, hm⟩ := s.F
  obtain ⟨N, P, n⟩ := s.N.pairs
  obtain ⟨o', ⟨us, n', rfl, a'⟩, n1⟩ := St.has s m
  cases a' with
  | cons ia a' =>
  cases a' with
  | cons ib a' =>
  cases a' with
  | cons ic a' =>
  cases a' with
  | cons id a' =>
  cases a'
  refine unpackN_ F n (News.isTup n1 (.head _)) ok.hd rfl rfl fun h' F' n2 => ?_
  refine assignInOrder_cons (assign_Name (storeX_L F' n2 (fun h'' F'' n3 => ?_) ok.kd (nameOk.kind hx).1))
  refine assignInOrder_cons (assign_Name (storeX_L F'' n3 (fun h₃ F₃ n₄ => ?_) ok.kd (nameOk.kind hy).1))
  refine assignInOrder_cons (assign_Name (storeX_L F₃ n₄ (fun h₄ F₄ n₅ => ?_) ok.kd (nameOk.kind hz).1))
  refine assignInOrder_cons (assign_Name (storeX_L F₄ n₅ (fun h₅ F₅ n₆ => ?_) ok.kd (nameOk.kind hu).1))
  exact assignInOrder_nil (q c ok h₅ g dr _ o ⟨⟨_, F₅, (((hm.store ia).store ib).store ic).store id⟩, P.news n₆, s.D, s.O⟩ QQ E hE K)
end
theorem toldE : endedB [(3, true), (3, false), (1, false), (4, false), (4, true), (5, false)] ([], []) = ([.list [.list [], dDrop 5 1], .list [.list [dDead 4], dDrop 3 2]], [dDead 3]) := by
  have h5 : ∀ s : List Dat × List Dat, stepB s (5, false) = (s.1 ++ [.list [.list s.2, dDrop 5 (s.1.length + 1)]], []) := fun s => by unfold stepB; rw [if_neg (by decide), if_pos (by decide)]
  have h4t : ∀ s : List Dat × List Dat, stepB s (4, true) = (s.1, s.2 ++ [dDead 4]) := fun s => by unfold stepB; rw [if_pos rfl]
  have h4 : ∀ s : List Dat × List Dat, stepB s (4, false) = s := fun s => by unfold stepB; rw [if_neg (by decide), if_neg (by decide)]
  have h1 : ∀ s : List Dat × List Dat, stepB s (1, false) = s := fun s => by unfold stepB; rw [if_neg (by decide), if_neg (by decide)]
  have h3 : ∀ s : List Dat × List Dat, stepB s (3, false) = (s.1 ++ [.list [.list s.2, dDrop 3 (s.1.length + 1)]], []) := fun s => by unfold stepB; rw [if_neg (by decide), if_pos (by decide)]
  have h3t : ∀ s : List Dat × List Dat, stepB s (3, true) = (s.1, s.2 ++ [dDead 3]) := fun s => by unfold stepB; rw [if_pos rfl]
  show stepB (stepB (stepB (stepB (stepB (stepB ([], []) (5, false)) (4, true)) (4, false)) (1, false)) (3, false)) (3, true) = _
  rw [h5, h4t, h4, h1, h3, h3t]
  rfl
end
section
open PySem PySem.W PyProof.Rows PySem.Calls PyProof.V
set_option maxRecDepth 100000
set_option Elab.async false
set_option linter.unusedVariables false
/-- the script: a list that was there before, kept as it is -/
def Scr (tl : Led) (a : Addr) (vs : List Vl) : Prop := ∃ oA us n, (a, (· = oA)) ∈ tl ∧ oA.cls = .type "list" ∧ oA.data = .seq (List.toArray us) n ∧ AllIs vs us
theorem Scr.mono {tl tl' : Led} {a : Addr} {vs : List Vl} (h : Scr tl a vs) (s : ∀ p ∈ tl, p ∈ tl') : Scr tl' a vs := by
  obtain ⟨o, us, n, m, r⟩ := h
  exact ⟨o, us, n, s _ m, r⟩
section
variable {j : Jp} {l : Loc} {W fz : Led} {e e' : PySem.Expr} {v : Vl} {pos np : Pos}
theorem St.scr {c : Ctx} {h : Heap} {a : Addr} {vs : List Vl} (s : St c j.tl l W fz h) (m : Scr j.tl a vs) : ∃ us, h.IsList a (List.toArray us) ∧ AllIs vs us := by
  obtain ⟨oA, us, n, m, hc, hd, av⟩ := m
  obtain ⟨o, ho, hg, _⟩ := s.N _ (List.mem_append_right W (List.mem_append_right fz (List.mem_append_left c.X m)))
  have ho' : o = oA := ho
  subst ho'
  exact ⟨us, ⟨o, hg, hc, n, hd⟩, av⟩
theorem PV.lenS {a : Addr} {vs : List Vl} (p : PV j l W fz e (.ref a)) (m : Scr j.tl a vs) (hz : vs.length ≤ 1000000) (hx : nameG j (PySem.Str.ofString "len") = true) (hs : notStar e = true) : PV j l W fz (.Call (.Name (PySem.Str.ofString "len") np) [e] [] pos) (.int vs.length) := by
  intro c ok h g dr t o s QQ E K
  obtain ⟨m₀, F, hm⟩ := s.F
  refine Call_ (nameX_B F ok.K (topRead_of ok.T) (ns_len j.w) (v := .builtin "len") (by boot_by_name) (by decide) ?_ ok.kd (nameG.kind hx).1 (by decide))
  refine callWith_builtin1 (args_cons (p c ok h g dr t o s _ E fun u h' t' iu s' => args_nil ?_) (star_of hs _ _)) (star_of hs _ _) rfl
  cases iu
  obtain ⟨us, hl, av⟩ := St.scr (j := j) s' m
  refine call_len_list hl (by rw [List.size_toArray, ← av.length]; omega) (K _ _ _ ⟨_, by rw [List.size_toArray, av.length]⟩ s')
theorem PV.itemS {z : Addr} {ns : List Int} {k : Int} {n0 : Int} (p : PV j l W fz e (.ref z)) (q : PV j l W fz e' (.int k)) (m : Scr j.tl z (ns.map Vl.int)) (hk : k = 0) (h0 : ns[0]? = some n0) (hz : ns.length ≤ 1000000) (hs : notSlice e' = true) (hg : ∀ r, letTemporaryGo e (.ref z) r = Pure.pure ()) : PV j l W fz (.Subscript e e' pos) (.int n0) := by
  subst hk
  intro c ok h g dr t o s QQ E K
  refine Subscript_ (p c ok h g dr t o s _ E fun u h' t' iu s' => q c ok h' g dr t' o s' _ E fun u' h'' t'' iu' s'' => ?_)
  cases iu
  obtain ⟨_, rfl⟩ := iu'
  obtain ⟨us, hl, av⟩ := St.scr (j := j) s'' m
  obtain ⟨u, hu, iu⟩ := av.get (i := 0) (v := .int n0) (by rw [List.getElem?_map, h0]; rfl)
  obtain ⟨tk, rfl⟩ := iu
  have hlt : 0 < us.length := (List.getElem?_eq_some_iff.mp hu).1
  refine tail_any hl.typeIs slot_list_getitem.lookup ?_ (sub_of hs _ _)
  exact wpAny_getItem_list hl (by decide) (by decide) (by simpa using hu) (K _ _ _ ⟨_, rfl⟩ s'')
end
/- a heap without one list -/
section
variable {h : Heap} {a : Addr} {oA : Obj} {K : Frag}
theorem hide_ne {b : Addr} {o : Obj} (ha : h.get? a = some oA) (e : h.get? b = some o) (hne : o ≠ oA) : (hideAll h [a]).get? b = some o := hideAll_get _ e fun q => by
  rw [List.mem_singleton.mp q, ha] at e
  exact hne (Option.some.inj e).symm
def noLists (K : Frag) : Bool := K.all fun p => match p.2.cls with | .type x => !(x == "list") | _ => true
theorem hide_K (ha : h.get? a = some oA) (hc : oA.cls = .type "list") (X : K.In h) (hK : noLists K = true) : K.In (hideAll h [a]) := fun b o e => by
  refine hide_ne ha (X b o e) fun q => ?_
  have h2 := List.all_eq_true.mp hK (b, o) (mem_of_lookupK e)
  rw [q] at h2
  dsimp only at h2
  rw [hc] at h2
  exact absurd h2 (by decide)
theorem hide_ns {b : Addr} {mm : Str → Option Value} {us : Array Value} {n : Nat} (ha : h.get? a = some oA) (hd : oA.data = .seq us n) (x : h.Ns b mm) : (hideAll h [a]).Ns b mm :=
  let ⟨o, es, ep, e, hd', r⟩ := x; ⟨o, es, ep, hide_ne ha e (fun q => by rw [q, hd] at hd'; cases hd'), hd', r⟩
theorem hide_top {loose : List Str} {mean : ExcName → Option Value} {mg mb : Str → Option Value} {us : Array Value} {n : Nat} (ha : h.get? a = some oA) (hd : oA.data = .seq us n) (T : Top topProg loose mean mg mb h) : Top topProg loose mean mg mb (hideAll h [a]) where
  g := hide_ns ha hd T.g
  b := hide_ns ha hd T.b
  nolimit := let ⟨mc, x, r⟩ := T.nolimit; ⟨mc, hide_ns ha hd x, r⟩
  nodigits := let ⟨mc, x, r⟩ := T.nodigits; ⟨mc, hide_ns ha hd x, r⟩
  fn := fun d hd => absurd (show d ∈ ([] : List DefRec) from hd) List.not_mem_nil
  own := fun o ho => absurd (show o ∈ ([] : List OwnSpec) from ho) List.not_mem_nil
  const := fun x d e => by cases (show (none : Option PyData) = some d from e)
  free := T.free
  builtins := T.builtins
  tab := fun d hd => absurd (show d ∈ ([] : List DefRec) from hd) List.not_mem_nil
  bmain := let ⟨bm, ob, a1, a2, a3, a4, a5, a6⟩ := T.bmain; ⟨bm, ob, a1, a2, hide_ne ha a3 (fun q => by rw [q, hd] at a6; cases a6), a4, a5, a6⟩
  seer := fun e => absurd (show false = true from e) Bool.false_ne_true
end
end
theorem anew_S9 : True ∧ True := by
  w_top off
  try walk1
  all_goals first | trivial | exact ⟨trivial, trivial⟩
section
open PySem PySem.W PyProof.Rows PySem.Calls
set_option maxRecDepth 100000
set_option Elab.async false
theorem fillKa (w : World) (h : Heap) : (Mine.hk.heap_1 w.params).In h → PySem.Challenge.rw_xw0171_01.row.prog = PySem.Challenge.rw_xw0171_01.row.prog := by k_fill; intro _; rfl
set_option maxHeartbeats 2000000
theorem DtA.splitI {own : Led} : ∀ {D1 D2 : List Dat} {vs : List Vl}, DtA own vs (D1 ++ D2) → ∃ v1 v2, vs = v1 ++ v2 ∧ DtA own v1 D1 ∧ DtA own v2 D2
  | [], _, vs, h => ⟨[], vs, rfl, .nil, h⟩
  | d :: D1, D2, vs, h => by
    rw [List.cons_append] at h
    obtain ⟨v, vs', rfl, h1, h2⟩ := h.consI
    obtain ⟨v1, v2, rfl, a, b⟩ := DtA.splitI h2
    exact ⟨_ :: v1, v2, rfl, .cons h1 a, b⟩
theorem Dt.rowSI {own : Led} {v : Vl} {r : SRow} (h : Dt own v (rowS r)) : ∃ a, v = .ref a ∧ (a, dTup [.int r.1, .str r.2.str]) ∈ own := by
  obtain ⟨a, vs, rfl, m, h⟩ := Dt.tupI h
  obtain ⟨v, vs, rfl, h1, h⟩ := h.consI
  obtain ⟨u, vs, rfl, h2, h⟩ := h.consI
  obtain rfl := h.nilI
  rw [h1.intI, h2.strI] at m
  exact ⟨a, rfl, m⟩
/-- where a stack's parts lie -/
structure StIn (w : World) (S dS it : Addr) (T : Led) : Prop where
  S : (S, dInst 426 dS) ∈ T
  D : (dS, dDct w [(.ofString "items", .ref it)]) ∈ T
variable {w : World} {own tl : Led} {S dS it : Addr} {vs : List Vl} {R R1 R2 : List SRow} {tag : Nat} {kd : Kd} {Q : Vl → Led → Led → Prop}
theorem place_spec (hS : StIn w S dS it tl) (hi : (it, dLst vs) ∈ tl) (hd : DtA own vs ((R1 ++ (tag, kd) :: R2).map rowS)) (hT : ∀ p ∈ own, p ∈ tl) (hne : ∀ r ∈ R2, r.1 ≠ tag) (hz : vs.length ≤ 1000)
    (K : Q (.int R1.length) [] []) : JC w 500 5000 tl [] [] 390 [.ref S, .int tag] Q := by
  obtain ⟨h1, h2⟩ := hS
  have hz' : vs.length ≤ 1000000 := by omega
  have hlen := hd.length
  rw [List.length_map, List.length_append, List.length_cons] at hlen
  gn_look
  refine JX.forD (k := vs.length) (fun i W' fz' => W' = [] ∧ fz' = [] ∧ i ≤ R2.length) (by kob_here) hz' ⟨rfl, rfl, Nat.zero_le _⟩ ?_ ?_ (Eq.refl true) (Eq.refl true) (Eq.refl true) (Eq.refl true)
  · rintro i W' fz' hi' ⟨rfl, rfl, hi2⟩
    obtain ⟨v, hv, hd1⟩ := hd.get (k := vs.length - 1 - i) (d := rowS ((R1 ++ (tag, kd) :: R2)[vs.length - 1 - i]'(by rw [List.length_append, List.length_cons]; omega))) (by rw [List.getElem?_map, List.getElem?_eq_getElem]; rfl)
    have hix : IxV vs ((vs.length : Int) - 1 + (i : Int) * -1) v := (IxV.of hv hz').to (by omega)
    by_cases hl : i < R2.length
    · have hr : (R1 ++ (tag, kd) :: R2)[vs.length - 1 - i]'(by rw [List.length_append, List.length_cons]; omega) ∈ R2 := by
        rw [List.getElem_append_right (by omega), List.getElem_cons, dif_neg (by omega)]
        exact List.getElem_mem _
      have hrt := hne _ hr
      obtain ⟨ra, rfl, hm⟩ := hd1.rowSI
      generalize (R1 ++ (tag, kd) :: R2)[vs.length - 1 - i]'(by rw [List.length_append, List.length_cons]; omega) = r at hrt hm
      obtain ⟨t', k'⟩ := r
      have hm' := hT _ hm
      have hb : ((t' : Int) == (tag : Int)) = false := by simp only [beq_eq_false_iff_ne]; omega
      x_run
      exact JX.nil (turnQ.next (.cons .refl rfl) ⟨rfl, rfl, by omega⟩)
    · have hr : (R1 ++ (tag, kd) :: R2)[vs.length - 1 - i]'(by rw [List.length_append, List.length_cons]; omega) = (tag, kd) := by
        rw [List.getElem_append_right (by omega), List.getElem_cons, dif_pos (by omega)]
      rw [hr] at hd1
      obtain ⟨ra, rfl, hm⟩ := hd1.rowSI
      have hm' := hT _ hm
      have hb : ((tag : Int) == (tag : Int)) = true := beq_self_eq_true _
      have hie : (vs.length : Int) - 1 + (i : Int) * -1 = R1.length := by omega
      rw [hie] at hix ⊢
      x_run
      exact turnQ.ret K
  · rintro W' fz' ⟨-, -, h⟩
    omega
theorem kind_spec (hS : StIn w S dS it tl) (hi : (it, dLst vs) ∈ tl) (hd : DtA own vs ((R1 ++ (tag, kd) :: R2).map rowS)) (hT : ∀ p ∈ own, p ∈ tl) (hne : ∀ r ∈ R2, r.1 ≠ tag) (hz : vs.length ≤ 1000)
    (K : Q (.str kd.str) [] []) : JC w 490 4900 tl [] [] 404 [.ref S, .int tag] Q := by
  have hS' := hS
  obtain ⟨h1, h2⟩ := hS
  have hz' : vs.length ≤ 1000000 := by omega
  have hp : PureC w (490 + 1) (4900 + 3) tl [] [] 390 [.ref S, .int tag] (.int R1.length) := fun Q q => JC.more (place_spec hS' hi hd hT hne hz q) (Eq.refl true) (Eq.refl true)
  rw [List.map_append, List.map_cons] at hd
  obtain ⟨v1, v2, rfl, hd1, hd2⟩ := hd.splitI
  obtain ⟨v, v2, rfl, hv, hd2⟩ := hd2.consI
  obtain ⟨ra, rfl, hm⟩ := hv.rowSI
  have hm' := hT _ hm
  have hl := hd1.length
  rw [List.length_map] at hl
  rw [List.length_append] at hz'
  have hix : IxV (v1 ++ .ref ra :: v2) R1.length (.ref ra) := IxV.mid (by rw [hl]) (by omega)
  gn_look
  x_run
  exact K
/-- whether a tag may read, or write -/
def mayB (R : List SRow) (tag : Nat) (iw : Bool) : Bool := match R.find? (fun r => decide (r.1 = tag)) with | some r => (r.2.str != PySem.Str.ofString "shared") || !iw | none => false
theorem mayB_hit {tag : Nat} {k : Kd} {R : List SRow} {iw : Bool} : mayB ((tag, k) :: R) tag iw = ((k.str != PySem.Str.ofString "shared") || !iw) := by
  unfold mayB
  rw [List.find?_cons_of_pos (by simp)]
theorem mayB_miss {t tag : Nat} {k : Kd} {R : List SRow} {iw : Bool} (h : ¬ t = tag) : mayB ((t, k) :: R) tag iw = mayB R tag iw := by
  unfold mayB
  rw [List.find?_cons_of_neg (by simpa using h)]
theorem may_spec {iw : Bool} (hS : StIn w S dS it tl) (hi : (it, dLst vs) ∈ tl) (hd : DtA own vs (R.map rowS)) (hT : ∀ p ∈ own, p ∈ tl) (hz : vs.length ≤ 1000)
    (K : Q (.bool (mayB R tag iw)) [] []) : JC w 490 4900 tl [] [] 397 [.ref S, .int tag, .bool iw] Q := by
  obtain ⟨h1, h2⟩ := hS
  gn_look
  refine JX.forT (fun r W' fz' => W' = [] ∧ fz' = [] ∧ ∃ Rr, DtA own r (Rr.map rowS) ∧ mayB Rr tag iw = mayB R tag iw) (by kob_here) hi ⟨rfl, rfl, R, hd, rfl⟩ (Eq.refl true) ?_ ?_
  · rintro v r W' fz' ⟨rfl, rfl, Rr, hr, he⟩
    cases Rr with
    | nil => cases hr
    | cons x Rr =>
    rw [List.map_cons] at hr
    obtain ⟨v', r', e, hv, hr'⟩ := hr.consI
    cases e
    obtain ⟨ra, rfl, hm⟩ := hv.rowSI
    have hm' := hT _ hm
    obtain ⟨t', k'⟩ := x
    by_cases hl : t' = tag
    · subst hl
      have hb : ((t' : Int) == (t' : Int)) = true := beq_self_eq_true _
      rw [mayB_hit] at he
      x_run
      refine turnQ.ret ?_
      rw [← he] at K
      exact K
    · have hb : ((t' : Int) == (tag : Int)) = false := by simp only [beq_eq_false_iff_ne]; omega
      rw [mayB_miss hl] at he
      x_run
      exact JX.nil (turnQ.next (.cons (.cons .refl rfl) rfl) ⟨rfl, rfl, Rr, hr', he⟩)
  · rintro W' fz' ⟨rfl, rfl, Rr, hr, he⟩
    cases Rr with
    | cons x Rr => cases hr
    | nil =>
    x_run
    rw [← he] at K
    exact K
end
theorem anew_S10 : True ∧ True := by
  w_top off
  try walk1
  all_goals first | trivial | exact ⟨trivial, trivial⟩
section
open PySem PySem.W PyProof.Rows PySem.Calls
set_option maxRecDepth 100000
set_option Elab.async false
theorem fillKb (w : World) (h : Heap) : (Mine.hk.heap_1 w.params).In h → PySem.Challenge.rw_xw0171_01.row.prog = PySem.Challenge.rw_xw0171_01.row.prog := by k_fill; intro _; rfl
set_option maxHeartbeats 2000000
variable {w : World} {own tl : Led} {S dS it kA : Addr} {vs : List Vl} {R R1 R2 : List SRow} {tag many : Nat} {kd : Kd} {Q : Vl → Led → Led → Prop}
theorem mayB_false : mayB R tag false = (rowOf R tag).isSome := by
  unfold mayB rowOf
  cases R.find? fun r => decide (r.1 = tag) with
  | none => rfl
  | some r => exact Bool.or_true _
theorem mayB_true : mayB R tag true = (kindStr R tag (PySem.Str.ofString "shared") != PySem.Str.ofString "shared") := by
  unfold mayB kindStr rowOf
  cases R.find? fun r => decide (r.1 = tag) with
  | none => rfl
  | some r => exact Bool.or_false _
theorem mayr_spec (hS : StIn w S dS it tl) (hi : (it, dLst vs) ∈ tl) (hd : DtA own vs (R.map rowS)) (hT : ∀ p ∈ own, p ∈ tl) (hz : vs.length ≤ 1000) (hK : (kA, dKd w R) ∈ tl) (lo : (kA == sysModules) = false) (hm : many ≤ 1000)
    (K : Q (.bool true) [] []) : JC w 330 3300 tl [] [] 532 [.ref S, .ref kA, .int many] Q := by
  have hS' := hS
  obtain ⟨h1, h2⟩ := hS
  gn_look
  x_run
  refine RngQ.mk (k := many + 2) (fun i W' fz' => W' = [] ∧ fz' = []) (by omega) ⟨rfl, rfl⟩ ?_ ?_
  · rintro i W' fz' hi' ⟨rfl, rfl⟩
    have hp1 : PureC w (330 + 1) (3300 + 3) tl [] [] 397 [.ref S, .int i, .bool false] (.bool (mayB R i false)) := fun Q q => JC.more (may_spec hS' hi hd hT hz q) (Eq.refl true) (Eq.refl true)
    have hp2 : PureC w (330 + 1) (3300 + 3) tl [] [] 397 [.ref S, .int i, .bool true] (.bool (mayB R i true)) := fun Q q => JC.more (may_spec hS' hi hd hT hz q) (Eq.refl true) (Eq.refl true)
    rw [mayB_false] at hp1
    rw [mayB_true] at hp2
    x_run
    · rename_i hb
      exfalso
      simp at hb
    · exact JX.nil (turnQ.next (.cons .refl rfl) ⟨rfl, rfl⟩)
  · rintro W' fz' ⟨rfl, rfl⟩
    x_run
    exact K
/-- what a write of a tag leaves -/
theorem write_spec (hS : (S, dInst 426 dS) ∈ tl) (hi : (it, dLst vs) ∈ tl) (hd : DtA own vs ((R1 ++ (tag, kd) :: R2).map rowS)) (hT : ∀ p ∈ own, p ∈ tl) (hne : ∀ r ∈ R2, r.1 ≠ tag) (hz : vs.length ≤ 1000) (hk : (kd.str == PySem.Str.ofString "shared") = false)
    (K : ∀ it' vs' nz, DtA (nz ++ own) vs' ((R1 ++ [(tag, Kd.uni)]).map rowS) → Q .none [(it', dLst vs'), (dS, dDct w [(.ofString "items", .ref it')])] nz) : JC w 480 4800 tl [(dS, dDct w [(.ofString "items", .ref it)])] [] 416 [.ref S, .int tag] Q := by
  have hp : PureC w (480 + 1) (4800 + 3) tl [(dS, dDct w [(.ofString "items", .ref it)])] [] 390 [.ref S, .int tag] (.int R1.length) := fun Q q => JC.frame .nil (JC.more (place_spec ⟨mTl hS, .head _⟩ (mTl hi) hd (fun p hp => mTl (hT p hp)) hne hz q) (Eq.refl true) (Eq.refl true))
  have hd' := hd
  rw [List.map_append, List.map_cons] at hd
  obtain ⟨v1, v2, rfl, hd1, hd2⟩ := hd.splitI
  obtain ⟨v, v2, rfl, hv, hd2⟩ := hd2.consI
  obtain ⟨ra, rfl, hm⟩ := hv.rowSI
  have hm' := hT _ hm
  have hl := hd1.length
  rw [List.length_map] at hl
  have hz' := hz
  rw [List.length_append] at hz'
  have hix : IxV (v1 ++ .ref ra :: v2) R1.length (.ref ra) := IxV.mid (by rw [hl]) (by omega)
  have hk1 : (R1.length : Int) = v1.length := by rw [hl]
  have hz1 : v1.length ≤ 1000000 := by omega
  have hz2 : (v1 ++ Vl.ref ra :: v2).length ≤ 1000000 := by omega
  refine JC.drp ?_
  gn_look
  x_run
  refine ⟨_, _, .cons 1 rfl (.cons 1 rfl .nil), K _ _ [(_, _)] ?_⟩
  rw [List.map_append]
  exact (hd1.mono fun p hp => .tail _ hp).app (.one (.tup (.head _) (.cons .int (.cons .str .nil))))
end
theorem anew_S11 : True ∧ True := by
  w_top off
  try walk1
  all_goals first | trivial | exact ⟨trivial, trivial⟩
section
open PySem PySem.W PyProof.Rows PySem.Calls
set_option maxRecDepth 100000
set_option Elab.async false
theorem fillKc (w : World) (h : Heap) : (Mine.hk.heap_1 w.params).In h → PySem.Challenge.rw_xw0171_01.row.prog = PySem.Challenge.rw_xw0171_01.row.prog := by k_fill; intro _; rfl
set_option maxHeartbeats 2000000
variable {w : World} {own tl : Led} {Q : Vl → Led → Led → Prop}
theorem stack_new {n : Nat} (K : ∀ S dS it x, Q (.ref S) [(it, dLst [.ref x]), (dS, dDct w [(.ofString "items", .ref it)])] [(x, dTup [.int n, .str (.ofString "unique")]), (S, dInst 426 dS)]) : JC w 500 5000 tl [] [] 426 [.int n] Q := by
  refine JC.cls (fI := 383) (by k_is) (by k_is) (by k_is) fun S dS => ?_
  gn_look
  x_run
  exact ⟨rfl, K _ _ _ _⟩
end
theorem anew_S12 : True ∧ True := by
  w_top off
  try walk1
  all_goals first | trivial | exact ⟨trivial, trivial⟩
section
open PySem PySem.W PyProof.Rows PySem.Calls
set_option maxRecDepth 100000
set_option Elab.async false
theorem fillKd (w : World) (h : Heap) : (Mine.hk.heap_1 w.params).In h → PySem.Challenge.rw_xw0171_01.row.prog = PySem.Challenge.rw_xw0171_01.row.prog := by k_fill; intro _; rfl
set_option maxHeartbeats 2000000
variable {w : World} {own tl : Led} {S dS it kA : Addr} {vs : List Vl} {R R1 R2 : List SRow} {tag many : Nat} {kd : Kd} {Q : Vl → Led → Led → Prop}
theorem read_spec (hS : (S, dInst 426 dS) ∈ tl) (hi : (it, dLst vs) ∈ tl) (hd : DtA own vs ((R1 ++ (tag, kd) :: R2).map rowS)) (hT : ∀ p ∈ own, p ∈ tl) (hne : ∀ r ∈ R2, r.1 ≠ tag) (hz : vs.length ≤ 1000)
    (K : ∀ it' vs', DtA own vs' ((R1 ++ (tag, kd) :: R2.filter fun r => decide (r.2 ≠ .uni)).map rowS) → Q .none [(it', dLst vs'), (dS, dDct w [(.ofString "items", .ref it')])] []) : JC w 480 4800 tl [(dS, dDct w [(.ofString "items", .ref it)])] [] 409 [.ref S, .int tag] Q := by
  have hp : PureC w (480 + 1) (4800 + 3) tl [(dS, dDct w [(.ofString "items", .ref it)])] [] 390 [.ref S, .int tag] (.int R1.length) := fun Q q => JC.frame .nil (JC.more (place_spec ⟨mTl hS, .head _⟩ (mTl hi) hd (fun p hp => mTl (hT p hp)) hne hz q) (Eq.refl true) (Eq.refl true))
  rw [List.map_append, List.map_cons] at hd
  obtain ⟨v1, v2, rfl, hd1, hd2⟩ := hd.splitI
  obtain ⟨v, v2, rfl, hv, hd2⟩ := hd2.consI
  have hl := hd1.length
  rw [List.length_map] at hl
  have hz' := hz
  rw [List.length_append, List.length_cons] at hz'
  have hk1 : (R1.length : Int) + 1 = (v1 ++ [v]).length := by rw [List.length_append, List.length_singleton, ← hl]; rfl
  rw [List.append_cons v1 v v2] at hi
  have hz1 : (v1 ++ [v] ++ v2).length ≤ 1000000 := by rw [List.length_append, List.length_append, List.length_singleton]; omega
  refine JC.drp ?_
  gn_look
  x_run
  intro D
  refine CompQ.new (fun r ys W' fz' => W' = [(dS, dDct w [(.ofString "items", .ref it)])] ∧ fz' = [] ∧ ∃ Rr Ry, DtA own r (Rr.map rowS) ∧ DtA own ys (Ry.map rowS) ∧ Ry ++ Rr.filter (fun r => decide (r.2 ≠ .uni)) = R2.filter fun r => decide (r.2 ≠ .uni)) (by omega) (.inl ⟨_, _, rfl⟩) ⟨rfl, rfl, R2, [], hd2, .nil, rfl⟩ ?turn ?done
  case turn =>
    rintro v' r ys W' fz' ⟨rfl, rfl, Rr, Ry, hr, hy, he⟩
    cases Rr with
    | nil => cases hr
    | cons x Rr =>
    rw [List.map_cons] at hr
    obtain ⟨v'', r', e, hv', hr'⟩ := hr.consI
    cases e
    obtain ⟨ra, rfl, hm⟩ := hv'.rowSI
    obtain ⟨t', k'⟩ := x
    have hy' : DtA own (ys ++ [.ref ra]) ((Ry ++ [(t', k')]).map rowS) := by rw [List.map_append]; exact hy.app (.one hv')
    refine ⟨_, Tg.name rfl rfl, JTs.neS (JEc.itemT (JEc.name rfl rfl rfl rfl ⟨ra, _, rfl, mTl (hT _ hm), JEc.int ⟨rfl, rfl, 1, _, rfl, IxV.one, rfl, JEc.str ⟨rfl, ?_⟩⟩⟩) rfl) rfl⟩
    cases k'
    · exact ⟨rfl, rfl, Rr, Ry, hr', hy, he⟩
    · exact JEc.name rfl rfl rfl rfl ⟨rfl, rfl, Rr, _, hr', hy', by rw [← he, List.append_assoc]; rfl⟩
    · exact JEc.name rfl rfl rfl rfl ⟨rfl, rfl, Rr, _, hr', hy', by rw [← he, List.append_assoc]; rfl⟩
  case done =>
    rintro ys W' fz' ⟨rfl, rfl, Rr, Ry, hr, hy, he⟩ D2
    cases Rr with
    | cons x Rr => cases hr
    | nil =>
    rw [List.filter_nil, List.append_nil] at he
    have hyl : ys.length ≤ v2.length := by
      have e1 := hy.length
      have e2 := hd2.length
      rw [List.length_map] at e1 e2
      rw [e1, e2, he]
      exact List.length_filter_le _ _
    have hz3 : (v1 ++ [v]).length + ys.length ≤ 1000000 := by rw [List.length_append, List.length_singleton]; omega
    x_run
    refine ⟨_, _, .cons 1 rfl (.cons 1 rfl .nil), K _ _ ?_⟩
    rw [List.append_cons R1, List.map_append, List.map_append, ← he]
    exact (hd1.app (.one hv)).app hy
theorem push_stk {parent : Nat} {kp : Kd} (hS : (S, dInst 426 dS) ∈ tl) (hd : DtA own vs ((R1 ++ (parent, kp) :: R2).map rowS)) (hT : ∀ p ∈ own, p ∈ tl) (hne : ∀ r ∈ R2, r.1 ≠ parent) (hz : vs.length ≤ 1000) (hk : kd ≠ .sha → kp ≠ .sha)
    (K : ∀ it' vs' nz, DtA (nz ++ own) vs' ((pushR R1 (parent, kp) R2 tag kd).map rowS) → Q .none [(it', dLst vs'), (dS, dDct w [(.ofString "items", .ref it')])] nz) : JC w 470 4700 tl [(it, dLst vs), (dS, dDct w [(.ofString "items", .ref it)])] [] 423 [.ref S, .int parent, .int tag, .str kd.str] Q := by
  have hpk : PureC w (470 + 1) (4700 + 3) tl [(it, dLst vs), (dS, dDct w [(.ofString "items", .ref it)])] [] 404 [.ref S, .int parent] (.str kp.str) := fun Q q => JC.frame .nil (JC.more (kind_spec ⟨mTl hS, .tail _ (.head _)⟩ (.head _) hd (fun p hp => mTl (hT p hp)) hne hz q) (Eq.refl true) (Eq.refl true))
  refine JC.drp ?_
  cases kd
  · have hkp : (kp.str == PySem.Str.ofString "shared") = false := by
      cases kp
      · rfl
      · exact absurd rfl (hk (fun h => nomatch h))
      · rfl
    gn_look
    x_run
    refine JC.frame (.cons 1 rfl .nil) (JC.more (write_spec (mTl hS) (.head _) hd (fun p hp => mTl (hT p hp)) hne hz hkp fun it' vs' nz hd' => ?_) (Eq.refl true) (Eq.refl true))
    have hl' := hd'.length
    have hl0 := hd.length
    simp only [List.length_map, List.length_append, List.length_cons, List.length_nil] at hl' hl0
    dsimp only [List.cons_append, List.nil_append, List.eraseIdx]
    x_run
    rw [List.append_nil]
    exact ⟨_, _, .cons 2 rfl .nil, K _ _ (_ :: nz) (by
      unfold pushR
      rw [List.map_append, List.cons_append]
      exact (hd'.mono fun p hp => .tail _ hp).app (.one (.tup (.head _) (.cons .int (.cons .str .nil)))))⟩
  · gn_look
    x_run
    refine JC.frame (.cons 1 rfl .nil) (JC.more (read_spec (mTl hS) (.head _) hd (fun p hp => mTl (hT p hp)) hne hz fun it' vs' hd' => ?_) (Eq.refl true) (Eq.refl true))
    have hl' := hd'.length
    have hl0 := hd.length
    simp only [List.length_map, List.length_append, List.length_cons, List.length_nil] at hl' hl0
    have hl4 : vs'.length ≤ 1000000 := hl' ▸ Nat.le_trans (Nat.add_le_add_left (Nat.add_le_add_right (List.length_filter_le _ _) 1) _) (by omega)
    dsimp only [List.cons_append, List.nil_append, List.eraseIdx]
    x_run
    exact ⟨_, _, .cons 2 rfl .nil, K _ _ [_] (by
      unfold pushR
      rw [List.map_append, List.cons_append]
      exact (hd'.mono fun p hp => .tail _ hp).app (.one (.tup (.head _) (.cons .int (.cons .str .nil)))))⟩
  · cases kp
    case sha => exact absurd rfl (hk (fun h => nomatch h))
    all_goals
      gn_look
      x_run
      refine JC.frame (.cons 1 rfl .nil) (JC.more (read_spec (mTl hS) (.head _) hd (fun p hp => mTl (hT p hp)) hne hz fun it' vs' hd' => ?_) (Eq.refl true) (Eq.refl true))
      have hl' := hd'.length
      have hl0 := hd.length
      simp only [List.length_map, List.length_append, List.length_cons, List.length_nil] at hl' hl0
      have hl4 : vs'.length ≤ 1000000 := hl' ▸ Nat.le_trans (Nat.add_le_add_left (Nat.add_le_add_right (List.length_filter_le _ _) 1) _) (by omega)
      dsimp only [List.cons_append, List.nil_append, List.eraseIdx]
      x_run
      exact ⟨_, _, .cons 2 rfl .nil, K _ _ [_] (by
        unfold pushR
        rw [List.map_append, List.cons_append]
        exact (hd'.mono fun p hp => .tail _ hp).app (.one (.tup (.head _) (.cons .int (.cons .str .nil)))))⟩
end
theorem anew_S13 : True ∧ True := by
  w_top off
  try walk1
  all_goals first | trivial | exact ⟨trivial, trivial⟩
section
open PySem PySem.W PyProof.Rows PySem.Calls
set_option maxRecDepth 100000
set_option Elab.async false
theorem fillKe (w : World) (h : Heap) : (Mine.hk.heap_1 w.params).In h → PySem.Challenge.rw_xw0171_01.row.prog = PySem.Challenge.rw_xw0171_01.row.prog := by k_fill; intro _; rfl
local macro_rules | `(tactic| kdg_here) => `(tactic| ((with_reducible refine' JX.forRL ?zp ?zx ?zr ?zs); (case zx => exact (Eq.refl true)); (case zr => exact (Eq.refl true)); (case zs => exact (Eq.refl true))))
set_option maxHeartbeats 2000000
/-- where a stack and its kinds lie -/
structure Ck where
  (src kA S dS : Addr)
abbrev stW (w : World) (c : Ck) (s0 s1 : Int) (it : Addr) (vs : List Vl) (R : List SRow) : Led := [(c.src, dLst [.int s0, .int s1]), (c.kA, dKd w R), (it, dLst vs), (c.dS, dDct w [(.ofString "items", .ref it)])]
structure KSt (c : Ck) (s0 s1 : Int) (vs : List Vl) (R : List SRow) (many : Nat) (own : Led) : Prop where
  g0 : 0 ≤ s0
  g1 : 0 ≤ s1
  g2 : s1 < 2147483647
  dat : DtA own vs (R.map rowS)
  S : (c.S, dInst 426 c.dS) ∈ own
  rise : Rise R
  lt : ∀ r ∈ R, r.1 < many
  ne : R ≠ []
  len : R.length ≤ many
def skL (c : Ck) (i : Nat) : Loc := [(.ofString "cell", .ref c.S), (.ofString "kinds", .ref c.kA), (.ofString "many", .int ((1 + i : Nat) : Int)), (.ofString "source", .ref c.src)]
/-- which kinds may be drawn -/
def MenuV (kp : Kd) (us : List Vl) : Prop := 1 ≤ us.length ∧ us.length ≤ 3 ∧ ∀ (d : Nat) (v : Vl), us[d]? = some v → ∃ kd : Kd, v = .str kd.str ∧ (kd ≠ .sha → kp ≠ .sha)
theorem menuV3 {kp : Kd} (h : kp ≠ .sha) : MenuV kp [.str (.ofString "unique"), .str (.ofString "shared"), .str (.ofString "reserved")] := by
  refine ⟨by decide, by decide, fun d v e => ?_⟩
  rcases d with _ | _ | _ | d
  · cases e; exact ⟨.uni, rfl, fun _ => h⟩
  · cases e; exact ⟨.sha, rfl, fun _ => h⟩
  · cases e; exact ⟨.res, rfl, fun _ => h⟩
  · cases e
theorem menuV1 : MenuV .sha [.str (.ofString "shared")] := by
  refine ⟨by decide, by decide, fun d v e => ?_⟩
  rcases d with _ | d
  · cases e; exact ⟨.sha, rfl, fun h => absurd rfl h⟩
  · cases e
theorem JE.cut {j : Jp} {l : Loc} {W fz : Led} {e : PySem.Expr} {Q : Vl → Led → Led → Prop} (M : List Vl → Prop) (H : ∀ D us, M us → Q (.ref D) ((D, dLst us) :: W) fz) (p : ∀ Q : Vl → Led → Led → Prop, (∀ D us, M us → Q (.ref D) ((D, dLst us) :: W) fz) → JE j l W fz e Q) : JE j l W fz e Q := p Q H
theorem pickRow {R : List SRow} {d : Nat} {v : Vl} (h : (R.map fun r => Vl.int r.1)[d]? = some v) : ∃ (p : Nat) (kp : Kd) (R1 R2 : List SRow), v = .int (p : Int) ∧ R = R1 ++ (p, kp) :: R2 := by
  rw [List.getElem?_map] at h
  obtain ⟨⟨p, kp⟩, hr, e⟩ := Option.map_eq_some_iff.mp h
  obtain ⟨hlt, hr⟩ := List.getElem?_eq_some_iff.mp hr
  exact ⟨p, kp, R.take d, R.drop (d + 1), e.symm, by rw [← hr, List.getElem_cons_drop, List.take_append_drop]⟩
theorem setRow_len {R : List SRow} {a : Nat} {k : Kd} : (setRow R a k).length ≤ R.length + 1 := by
  unfold setRow
  split
  · rw [List.length_map]; omega
  · rw [List.length_append, List.length_singleton]; omega
theorem popRow {Rd Rr : List SRow} {tg : Nat} {kr : Kd} {f : SRow → Bool} (hq : f (tg, kr) = false) (hR : Rise (Rd ++ (tg, kr) :: Rr)) : (Rd.filter f ++ (tg, kr) :: Rr).filter (fun r => decide (r.1 ≠ tg)) = (Rd ++ [(tg, kr)]).filter f ++ Rr := by
  obtain ⟨a, b, -, -, -⟩ := hR.split
  rw [List.filter_append, List.filter_append, List.filter_cons_of_neg (by simp), List.filter_cons_of_neg (by rw [hq]; exact Bool.false_ne_true), List.filter_nil, List.append_nil]
  congr 1
  · exact List.filter_eq_self.mpr fun r hr => by simpa using Nat.ne_of_lt (a r (List.mem_filter.mp hr).1)
  · exact List.filter_eq_self.mpr fun r hr => by simpa using Nat.ne_of_gt (b r hr)
theorem keepRow {Rd Rr : List SRow} {q : SRow} {f : SRow → Bool} (hq : f q = true) : Rd.filter f ++ q :: Rr = (Rd ++ [q]).filter f ++ Rr := by
  rw [List.filter_append, List.filter_cons_of_pos hq, List.filter_nil, List.append_assoc]; rfl
theorem staysB {p t : Nat} {kd kt : Kd} : (decide ((p : Int) < (t : Int)) && (((kd.str == PySem.Str.ofString "unique") || ((kt.str == PySem.Str.ofString "unique") || false)) && true)) = !stays p kd (t, kt) := by
  have e : ∀ k : Kd, (k.str == PySem.Str.ofString "unique") = decide (k = .uni) := fun k => by cases k <;> rfl
  rw [e, e]
  unfold stays
  have : decide ((p : Int) < (t : Int)) = decide (p < t) := by simp
  rw [this, Bool.not_not, Bool.or_false, Bool.and_true]
theorem stackr_spec {w : World} {tl : Led} {src : Addr} {s0 s1 : Int} {Q : Vl → Led → Led → Prop} (g0 : 0 ≤ s0) (g1 : 0 ≤ s1) (g2 : s1 < 2147483647)
    (K : ∀ W' fz', Q (.bool true) W' fz') : JC w 310 3100 tl [(src, dLst [.int s0, .int s1])] [] 539 [.ref src] Q := by
  gn_look
  x_run
  refine JC.frame .nil (JC.more (stack_new (n := 0) fun S dS it x => ?_) (Eq.refl true) (Eq.refl true))
  dsimp only [List.cons_append, List.nil_append, List.eraseIdx]
  x_run
  refine JE.dictK (R := [(0, .uni)]) (.cons 0 .uni rfl rfl .nil) (by decide) (by decide) (by decide) fun kA lo => ?_
  x_run
  refine JC.frame (.cons 3 rfl .nil) (JC.more (take_spec (top := 8) g0 g1 g2 (by decide) (by decide) fun n s0' s1' hn a0 a1 a2 => ?_) (Eq.refl true) (Eq.refl true))
  dsimp only [List.cons_append, List.nil_append, List.eraseIdx]
  refine RngQL.mk (skL ⟨src, kA, S, dS⟩) (fun i W' fz' => ∃ s0 s1 it vs R, W' = stW w ⟨src, kA, S, dS⟩ s0 s1 it vs R ∧ KSt ⟨src, kA, S, dS⟩ s0 s1 vs R (1 + i) fz') (by omega) (.step rfl (.step rfl (.step rfl (.step rfl .nil)))) ?h0 ?turn ?done
  case h0 => exact ⟨s0', s1', it, _, [(0, .uni)], rfl, a0, a1, a2, .cons (.tup (.tail _ (.head _)) (.cons .int (.cons .str .nil))) .nil, .tail _ (.tail _ (.head _)), List.pairwise_singleton _ _, fun r hr => (by rw [List.mem_singleton.mp hr]; decide), (by simp), Nat.le_refl _⟩
  case turn =>
    rintro i W' fz' hi ⟨s0, s1, it, vs, R, rfl, h⟩
    have hR := h.rise
    have hne := h.ne
    have hz : R.length < 64 := by have := h.len; omega
    have hR1 : 1 ≤ R.length := List.length_pos_iff.mpr hne
    dsimp only [skL, stW]
    x_run
    rename_i D
    refine JC.frame (.cons 1 rfl .nil) (JC.more (one_spec h.g0 h.g1 h.g2 (.head _) (by rw [List.length_map]; exact hR1) (by rw [List.length_map]; omega) fun d v s0a s1a hdv a0 a1 a2 => ?_) (Eq.refl true) (Eq.refl true))
    dsimp only [List.cons_append, List.nil_append, List.eraseIdx]
    obtain ⟨p, kp, R1, R2, rfl, rfl⟩ := pickRow hdv
    clear hdv
    have hrow := rowOf_at hR
    iterate 4 kdg_here
    refine JE.cut (MenuV kp) (fun D2 us hM => ?_) (fun Q' hQ => ?_)
    case refine_2 =>
      cases kp
      · x_run
        exact fun a => hQ _ _ (menuV3 (by decide))
      · x_run
        exact fun a => hQ _ _ menuV1
      · x_run
        exact fun a => hQ _ _ (menuV3 (by decide))
    x_run
    refine JC.frame (.cons 1 rfl .nil) (JC.more (one_spec a0 a1 a2 (.head _) hM.1 (Nat.le_trans hM.2.1 (by decide)) fun d2 v s0b s1b hdv2 b0 b1 b2 => ?_) (Eq.refl true) (Eq.refl true))
    dsimp only [List.cons_append, List.nil_append, List.eraseIdx]
    obtain ⟨kd, rfl, hkk⟩ := hM.2.2 _ _ hdv2
    clear hdv2
    have hS : (S, dInst 426 dS) ∈ fz' ++ tl := List.mem_append_left _ h.S
    have hvl := h.dat.length
    have hlen := h.len
    rw [List.length_map] at hvl
    x_run
    refine JC.frame (.cons 4 rfl (.cons 4 rfl .nil)) (JC.more (push_stk (tag := 1 + i) (List.mem_append_right _ hS) h.dat (fun p hp => List.mem_append_right _ (List.mem_append_left _ hp)) (fun r hr => Nat.ne_of_gt (hR.split.2.1 r hr)) (by omega) hkk fun it' vs' nz hd' => ?_) (Eq.refl true) (Eq.refl true))
    dsimp only [List.cons_append, List.nil_append, List.eraseIdx]
    x_run
    intro D3
    refine ForQ.mk (fun r W' fz₂ => ∃ Rd Rr, R1 ++ (p, kp) :: R2 = Rd ++ Rr ∧ r = Rr.map (fun r => Vl.int r.1) ∧ W' = [(it', dLst vs'), (dS, dDct w [(.ofString "items", .ref it')]), (src, dLst [.int s0b, .int s1b]), (D2, dLst us), (D, dLst ((R1 ++ (p, kp) :: R2).map fun r => Vl.int r.1)), (kA, dKd w (Rd.filter (stays p kd) ++ Rr))] ∧ fz₂ = nz ++ fz') ⟨[], _, rfl, rfl, rfl, rfl⟩ ?turn2 ?done2
    case turn2 =>
      rintro v r W' fz₂ ⟨Rd, Rr, eR, er, rfl, rfl⟩
      cases Rr with
      | nil => cases er
      | cons x Rr =>
      obtain ⟨t, kt⟩ := x
      rw [List.map_cons] at er
      dsimp only at er
      obtain ⟨rfl, rfl⟩ := List.cons.inj er
      have hRd : Rise (Rd ++ (t, kt) :: Rr) := eR ▸ hR
      have hrow2 : rowOf (Rd.filter (stays p kd) ++ (t, kt) :: Rr) t = some (t, kt) := rowOf_at (rise_part hRd)
      have hle : (Rd.filter (stays p kd) ++ (t, kt) :: Rr).length ≤ 1000 := by
        have e1 := congrArg List.length eR
        have e2 := List.length_filter_le (stays p kd) Rd
        rw [e1] at hz
        rw [List.length_append] at hz ⊢
        omega
      iterate 2 kdg_here
      · intro hb
        rw [staysB] at hb
        have hs : stays p kd (t, kt) = false := by simpa using hb
        refine JX.expr (JE.popK 5 (by kob_here) (by kob_here) rfl hrow2 hle rfl ?_) rfl
        x_run
        exact JX.nil (turnQ.next (.cons .refl rfl) ⟨Rd ++ [(t, kt)], Rr, by rw [eR, List.append_assoc]; rfl, rfl, by rw [← popRow hs hRd]; rfl, rfl⟩)
      · intro hb
        rw [staysB] at hb
        have hs : stays p kd (t, kt) = true := by simpa using hb
        refine JX.nilT ?_
        exact JX.nil (turnQ.next (.cons .refl rfl) ⟨Rd ++ [(t, kt)], Rr, by rw [eR, List.append_assoc]; rfl, rfl, by rw [← keepRow hs], rfl⟩)
    case done2 =>
      rintro W' fz₂ ⟨Rd, Rr, eR, er, rfl, rfl⟩
      cases Rr with
      | cons x Rr => cases er
      | nil =>
      rw [List.append_nil] at eR
      subst eR
      have hK := kinds_push (kd := kd) hR h.lt
      have hPR := pushR_rise (kd := kd) hR h.lt
      have hPl := pushR_length (R1 := R1) (R2 := R2) (r := (p, kp)) (tag := 1 + i) (kd := kd)
      have hvl' := hd'.length
      rw [List.length_map] at hvl'
      have hle : ((R1 ++ (p, kp) :: R2).filter (stays p kd) ++ []).length ≤ 900 := by
        have e2 := List.length_filter_le (stays p kd) (R1 ++ (p, kp) :: R2)
        rw [List.append_nil]
        omega
      rw [List.append_nil] at hle ⊢
      have hku : ∀ k : Kd, (k.str == PySem.Str.ofString "unique") = decide (k = .uni) := fun k => by cases k <;> rfl
      have hSt : StIn w S dS it' ([(D3, dLst ((R1 ++ (p, kp) :: R2).map fun r => Vl.int r.1)), (it', dLst vs'), (dS, dDct w [(.ofString "items", .ref it')]), (src, dLst [.int s0b, .int s1b]), (D2, dLst us), (D, dLst ((R1 ++ (p, kp) :: R2).map fun r => Vl.int r.1)), (kA, dKd w (pushR R1 (p, kp) R2 (1 + i) kd))] ++ ((nz ++ fz') ++ tl)) := ⟨List.mem_append_right _ (List.mem_append_left _ (List.mem_append_right _ h.S)), mAt 2 rfl⟩
      kdg_here
      · intro hb
        rw [hku, decide_eq_true_eq] at hb
        rw [if_pos hb] at hK
        refine JX.setK (x := .ofString "unique") (kd := .uni) 6 (by kob_here) rfl (by kob_here) (by kob_here) rfl (by omega) rfl (JX.nilT ?_)
        refine JX.setK (kd := kd) 6 (by kob_here) rfl (by kob_here) (by kob_here) rfl (Nat.le_trans setRow_len (by omega)) rfl ?_
        dsimp only [List.set]
        rw [hK]
        x_run
        refine JC.frame .nil (JC.more (mayr_spec (many := 1 + i + 1) hSt (mAt 1 rfl) hd' (fun p hp => List.mem_append_right _ (List.mem_append_left _ hp)) (by omega) (mAt 6 rfl) lo (by omega) ?_) (Eq.refl true) (Eq.refl true))
        dsimp only [List.cons_append, List.nil_append]
        x_run
        refine JX.drop (.cons 0 rfl (.cons 3 rfl (.cons 3 rfl .nil))) (JX.sel (.cons 2 rfl (.cons 2 rfl .nil)) (JX.nil (turnQ.next (.step rfl (.step rfl (.step rfl (.step rfl .nil)))) ⟨s0b, s1b, it', vs', _, rfl, b0, b1, b2, hd', List.mem_append_right _ h.S, hPR.1, hPR.2, pushR_ne, by omega⟩)))
      · intro hb
        rw [hku, decide_eq_false_iff_not] at hb
        rw [if_neg hb] at hK
        refine JX.nilT ?_
        refine JX.setK (kd := kd) 6 (by kob_here) rfl (by kob_here) (by kob_here) rfl (by omega) rfl ?_
        dsimp only [List.set]
        rw [hK]
        x_run
        refine JC.frame .nil (JC.more (mayr_spec (many := 1 + i + 1) hSt (mAt 1 rfl) hd' (fun p hp => List.mem_append_right _ (List.mem_append_left _ hp)) (by omega) (mAt 6 rfl) lo (by omega) ?_) (Eq.refl true) (Eq.refl true))
        dsimp only [List.cons_append, List.nil_append]
        x_run
        refine JX.drop (.cons 0 rfl (.cons 3 rfl (.cons 3 rfl .nil))) (JX.sel (.cons 2 rfl (.cons 2 rfl .nil)) (JX.nil (turnQ.next (.step rfl (.step rfl (.step rfl (.step rfl .nil)))) ⟨s0b, s1b, it', vs', _, rfl, b0, b1, b2, hd', List.mem_append_right _ h.S, hPR.1, hPR.2, pushR_ne, by omega⟩)))
  case done =>
    rintro W' fz' ⟨s0, s1, it, vs, R, rfl, h⟩
    dsimp only [skL, stW]
    x_run
    exact K _ _
end
theorem anew_S14 : True ∧ True := by
  w_top off
  try walk1
  all_goals first | trivial | exact ⟨trivial, trivial⟩
section
open PySem PySem.W PyProof.Rows PySem.Calls
set_option maxRecDepth 100000
set_option Elab.async false
theorem fillKf (w : World) (h : Heap) : (Mine.hk.heap_1 w.params).In h → PySem.Challenge.rw_xw0171_01.row.prog = PySem.Challenge.rw_xw0171_01.row.prog := by k_fill; intro _; rfl
set_option maxHeartbeats 4000000
variable {w : World} {own tl : Led} {Q : Vl → Led → Led → Prop}
theorem world_new (K : ∀ S dS sg es, es.lookup (PySem.Str.ofString "sigs") = some (.ref sg) → (sg == sysModules) = false → Q (.ref S) [] [(sg, dEmp w), (dS, dDct w es), (S, dInst 455 dS)]) : JC w 500 5000 tl [] [] 455 [] Q := by
  refine JC.arr ?_
  refine' JC.cls ?a ?b ?c fun S dS => ?_
  case a => k_is
  case b => k_is
  case c => k_is
  gn_look
  x_run
  exact ⟨rfl, _, _, .frz 7 rfl (.frz 4 rfl (.drop .nil .refl)), K _ _ _ _ rfl (by with_reducible assumption)⟩
theorem typed_new {a b c d e : Vl} (K : ∀ S dS, Q (.ref S) [] [(dS, dDct w [(.ofString "path", a), (.ofString "locals", b), (.ofString "params", c), (.ofString "result", d), (.ofString "body", e)]), (S, dInst 325 dS)]) : JC w 500 5000 tl [] [] 325 [a, b, c, d, e] Q := by
  refine JC.arr ?_
  refine' JC.cls ?a ?b ?c fun S dS => ?_
  case a => k_is
  case b => k_is
  case c => k_is
  gn_look
  x_run
  exact ⟨rfl, _, _, .frz 0 rfl .refl, K _ _⟩
theorem body_new {lc : Addr} {lv : List Vl} (hl : (lc, dLst lv) ∈ tl) (hz : lv.length ≤ 1000) {a b : Vl} (K : ∀ S dS LC bl sp, Q (.ref S) [(sp, dSpot w [] 0), (bl, dLst [])] [(LC, dLst lv), (dS, dDct w [(.ofString "name", a), (.ofString "arg_count", b), (.ofString "locals", .ref LC), (.ofString "blocks", .ref bl), (.ofString "spots", .ref sp)]), (S, dInst 82 dS)]) : JC w 490 4900 tl [] [] 82 [a, b, .ref lc] Q := by
  have hz' : lv.length ≤ 1000000 := by omega
  refine JC.arr ?_
  refine' JC.cls ?a ?b ?c fun S dS => ?_
  case a => k_is
  case b => k_is
  case c => k_is
  gn_look
  x_run
  exact ⟨rfl, _, _, .weak 0 rfl dEmp.spot (.frz 3 rfl (.frz 2 rfl .refl)), K _ _ _ _ _⟩
/-- the row of a local, as _law_scopes makes it; as Scopes keeps it -/
def row3 (k : Nat) : Dat := .tuple [.none, tyOf k, .bool true]
def row4 (k : Nat) : Dat := .tuple [tyOf k, .bool true, .none]
def ks6 : List Nat := [0, 1, 2, 3, 4, 5]
theorem DtA.refs {own : Led} : ∀ {ks : List Nat} {vs : List Vl}, DtA own vs (ks.map row3) → ∀ v ∈ vs, ∃ a, v = .ref a
  | [], vs, h => by cases h; intro v hv; cases hv
  | k :: ks, vs, h => by
    rw [List.map_cons] at h
    obtain ⟨v, vs', rfl, h1, h2⟩ := DtA.consI h
    intro u hu
    rcases List.mem_cons.mp hu with rfl | hu
    · obtain ⟨a, _, rfl, _⟩ := Dt.tupI h1; exact ⟨a, rfl⟩
    · exact DtA.refs h2 u hu
theorem Dt.row3I {own : Led} {v : Vl} {k : Nat} (h : Dt own v (row3 k)) : ∃ a x, v = .ref a ∧ (a, dTup [.none, x, .bool true]) ∈ own ∧ Dt own x (tyOf k) := by
  obtain ⟨a, vs, rfl, m, h⟩ := Dt.tupI h
  obtain ⟨v, vs, rfl, h1, h⟩ := h.consI
  obtain ⟨u, vs, rfl, h2, h⟩ := h.consI
  obtain ⟨x, vs, rfl, h3, h⟩ := h.consI
  obtain rfl := h.nilI
  cases h1
  rw [h3.boolI] at m
  exact ⟨a, u, rfl, m, h2⟩
theorem Dt.row4I {own : Led} {v : Vl} {k : Nat} (h : Dt own v (row4 k)) : ∃ a x, v = .ref a ∧ (a, dTup [x, .bool true, .none]) ∈ own ∧ Dt own x (tyOf k) := by
  obtain ⟨a, vs, rfl, m, h⟩ := Dt.tupI h
  obtain ⟨v, vs, rfl, h1, h⟩ := h.consI
  obtain ⟨u, vs, rfl, h2, h⟩ := h.consI
  obtain ⟨x, vs, rfl, h3, h⟩ := h.consI
  obtain rfl := h.nilI
  cases h3
  rw [h2.boolI] at m
  exact ⟨a, v, rfl, m, h1⟩
theorem LcD.of {own : Led} {v : Vl} {ys : List Vl} (h : DtA own ys (ks6.map row4)) : LcD own (v :: ys) := by
  intro l h1 h2
  have e : (ks6.map row4)[l - 1]? = some (row4 (l - 1)) := by
    have : l = 1 ∨ l = 2 ∨ l = 3 ∨ l = 4 ∨ l = 5 ∨ l = 6 := by omega
    rcases this with rfl | rfl | rfl | rfl | rfl | rfl <;> rfl
  obtain ⟨u, hu, hd⟩ := h.get e
  obtain ⟨r, x, rfl, m, hx⟩ := hd.row4I
  have hl : (v :: ys).length ≤ 1000000 := by rw [List.length_cons, h.length]; decide
  have e2 : (v :: ys)[l]? = some (.ref r) := by
    obtain ⟨k, rfl⟩ : ∃ k, l = k + 1 := ⟨l - 1, by omega⟩
    exact hu
  exact ⟨r, x, _, _, IxV.of e2 hl, m, hx⟩
/-- what a Scopes keeps as it is -/
structure ScFz (w : World) (c : Cf) (lv : List Vl) (own : Led) : Prop where
  S : (c.S, dInst 304 c.dS) ∈ own
  B : (c.Bo, dInst 82 c.dB) ∈ own
  E : (c.dB, dDct w (boE c)) ∈ own
  L : (c.LC, dLst lv) ∈ own
  lc : LcD own lv
theorem ScFz.mono {c : Cf} {lv : List Vl} {own own' : Led} (h : ScFz w c lv own) (s : ∀ p ∈ own, p ∈ own') : ScFz w c lv own' := ⟨s _ h.S, s _ h.B, s _ h.E, s _ h.L, fun l h1 h2 => by
  obtain ⟨r, ty, b, n, e, m, d⟩ := h.lc l h1 h2
  exact ⟨r, ty, b, n, e, s _ m, d.mono s⟩⟩
abbrev newW (w : World) (c : Cf) (b st : Addr) : Led := scW w c [] 0 b st [] [] ++ [(c.FR, dLst []), (c.RM, dLst [])]
theorem scopes_init {T dT W0 dW sg D P : Addr} {es : List (Str × Vl)} {ys : List Vl} {y0 : Vl} (hT : (T, dInst 325 dT) ∈ tl) (hdT : (dT, dDct w [(.ofString "path", .str (.ofString "f")), (.ofString "locals", .ref D), (.ofString "params", .ref P), (.ofString "result", y0), (.ofString "body", .none)]) ∈ tl) (hD : (D, dLst ys) ∈ tl) (hP : (P, dLst []) ∈ tl)
    (hW : (W0, dInst 455 dW) ∈ tl) (hdW : (dW, dDct w es) ∈ tl) (hes : es.lookup (PySem.Str.ofString "sigs") = some (.ref sg)) (lo : (sg == sysModules) = false) (hsg : (sg, dEmp w) ∈ tl) (hys : DtA own ys (ks6.map row3)) (hown : ∀ p ∈ own, p ∈ tl)
    (K : ∀ c lv b st nz, ScFz w c lv (nz ++ own) → Q (.ref c.S) (newW w c b st) nz) : JC w 480 4800 tl [] [] 304 [.ref T, .ref W0] Q := by
  refine JC.arr ?_
  refine' JC.cls ?a ?b ?c fun S dS => ?_
  case a => k_is
  case b => k_is
  case c => k_is
  gn_look
  x_run
  rename_i d0 lo0 a1 a2
  refine CompQ.T hP (fun r ys' W' fz' => r = [] ∧ ys' = [] ∧ W' = _ ∧ fz' = _) (Nat.zero_le _) (.inl ⟨_, _, rfl⟩) ⟨rfl, rfl, rfl, rfl⟩ (by rintro _ _ _ _ _ ⟨h, -⟩; cases h) ?_
  rintro ys' W' fz' ⟨-, rfl, rfl, rfl⟩ D1
  x_run
  refine CompQ.T hD (fun r ys' W' fz' => W' = _ ∧ ∃ nz, fz' = nz ++ _ ∧ ∃ kr ky, DtA own r (kr.map row3) ∧ ky ++ kr = ks6 ∧ DtA (nz ++ own) ys' (ky.map row4)) (by rw [hys.length]; decide) (.inr ⟨_, _, _, rfl, hys.refs⟩) ⟨rfl, [], rfl, ks6, [], hys, rfl, .nil⟩ ?turn ?done
  case turn =>
    rintro v r ys' W' fz' ⟨rfl, nz, rfl, kr, ky, hr, hk, hy⟩
    cases kr with
    | nil => cases hr
    | cons k kr =>
    rw [List.map_cons] at hr
    obtain ⟨v', r', e, hv, hr'⟩ := hr.consI
    cases e
    obtain ⟨ra, x, rfl, hm, hx⟩ := hv.row3I
    refine ⟨_, Tg.tup (ps := [(.ofString "name", _), (.ofString "told", _), (.ofString "is_mut", _)]) rfl (mTl (hown _ hm)) rfl rfl rfl, JTs.nil ?_⟩
    rw [if_pos rfl]
    refine JEc.tup (JLc.cons (JEc.name rfl rfl rfl rfl (JLc.cons (JEc.name rfl rfl rfl rfl (JLc.cons (JEc.name rfl rfl rfl rfl (JLc.nil ⟨rfl, fun a => ⟨rfl, (a, _) :: nz, rfl, kr, ky ++ [k], hr', by rw [← hk, List.append_assoc]; rfl, ?_⟩⟩)) rfl)) rfl)) rfl)
    rw [List.map_append]
    exact (hy.mono fun p hp => .tail _ hp).app (.one (.tup (.head _) (.cons (hx.mono fun p hp => .tail _ (List.mem_append_right _ hp)) (.cons .bool (.cons .none .nil)))))
  case done =>
    rintro ys' W' fz' ⟨rfl, nz, rfl, kr, ky, hr, hk, hy⟩ D2
    cases kr with
    | cons k kr => cases hr
    | nil =>
    rw [List.append_nil] at hk
    subst hk
    have hyl := hy.length
    have hyl' : ys'.length = 6 := hyl
    have hne : ys'.length ≠ 0 := by omega
    have hS0 : (S, dInst 304 dS) ∈ (nz ++ [(a1, dTup [y0, .bool true, .none]), (S, dInst 304 dS)]) ++ tl := List.mem_append_left _ (List.mem_append_right _ (.tail _ (.head _)))
    x_run
    refine JC.frame .nil (JC.more (body_new (mAt 2 rfl) (by simp only [List.length_append, List.length_cons, List.length_nil]; omega) fun Bo dB LC bl sp => ?_) (Eq.refl true) (Eq.refl true))
    dsimp only [List.cons_append, List.nil_append]
    have hS1 : (S, dInst 304 dS) ∈ ((LC, dLst (Vl.ref a1 :: ys')) :: (dB, dDct w [(.ofString "name", .str (.ofString "f")), (.ofString "arg_count", .int ([] : List Vl).length), (.ofString "locals", .ref LC), (.ofString "blocks", .ref bl), (.ofString "spots", .ref sp)]) :: (Bo, dInst 82 dB) :: (nz ++ [(a1, dTup [y0, .bool true, .none]), (S, dInst 304 dS)])) ++ tl := .tail _ (.tail _ (.tail _ hS0))
    kdg_here
    refine JX.arr (.drop (.cons 8 rfl (.cons 0 rfl (.cons 0 rfl .nil))) .refl) ?_
    x_run
    gn_look
    x_run
    rename_i al lo1 fr rm st b
    exact ⟨rfl, _, _, .drop (.cons 5 rfl (.cons 5 rfl (.cons 5 rfl (.cons 0 rfl (.cons 0 rfl (.cons 1 rfl (.cons 0 rfl .nil))))))) .refl,
      K ⟨S, dS, Bo, dB, W0, d0, _, al, fr, rm, LC, bl, sp⟩ (.ref a1 :: ys') b st _ ⟨.tail _ (.tail _ (.tail _ (List.mem_append_left _ (List.mem_append_right _ (.tail _ (.head _)))))), .tail _ (.tail _ (.head _)), .tail _ (.head _), .head _,
        LcD.of (hy.mono fun p hp => .tail _ (.tail _ (.tail _ ((List.mem_append.mp hp).elim (fun h => List.mem_append_left _ (List.mem_append_left _ h)) fun h => List.mem_append_right _ h))))⟩⟩
theorem DtA.refs2 {own : Led} : ∀ {ks : List Nat} {vs : List Vl}, DtA own vs (ks.map tyRow) → ∀ v ∈ vs, ∃ a, v = .ref a
  | [], vs, h => by cases h; intro v hv; cases hv
  | k :: ks, vs, h => by
    rw [List.map_cons] at h
    obtain ⟨v, vs', rfl, h1, h2⟩ := DtA.consI h
    intro u hu
    rcases List.mem_cons.mp hu with rfl | hu
    · obtain ⟨a, _, rfl, _⟩ := Dt.tupI h1; exact ⟨a, rfl⟩
    · exact DtA.refs2 h2 u hu
theorem Dt.row2I {own : Led} {v : Vl} {k : Nat} (h : Dt own v (tyRow k)) : ∃ a x y, v = .ref a ∧ (a, dTup [x, y]) ∈ own ∧ Dt own x (tyOf k) := by
  obtain ⟨a, vs, rfl, m, h⟩ := Dt.tupI h
  obtain ⟨v, vs, rfl, h1, h⟩ := h.consI
  obtain ⟨u, vs, rfl, h2, h⟩ := h.consI
  obtain rfl := h.nilI
  exact ⟨a, v, u, rfl, m, h1⟩
theorem init_spec (K : ∀ c lv b st nz, ScFz w c lv nz → Q (.ref c.S) (newW w c b st) nz) : JC w 470 4700 tl [] [] 492 [] Q := by
  refine JC.arr ?_
  gn_look
  x_run
  refine JC.more (types_new fun ta vs nz hd => ?_) (Eq.refl true) (Eq.refl true)
  rw [List.append_nil]
  have hd' : DtA nz vs (ks6.map tyRow) := hd
  refine CompQ.new (fun r ys W' fz' => W' = [] ∧ ∃ mz, fz' = mz ++ nz ∧ ∃ kr ky, DtA nz r (kr.map tyRow) ∧ ky ++ kr = ks6 ∧ DtA (mz ++ nz) ys (ky.map row3)) (by rw [hd.length]; decide) (.inr ⟨_, _, _, rfl, hd'.refs2⟩) ⟨rfl, [], rfl, ks6, [], hd', rfl, .nil⟩ ?turn ?done
  case turn =>
    rintro v r ys W' fz' ⟨rfl, mz, rfl, kr, ky, hr, hk, hy⟩
    cases kr with
    | nil => cases hr
    | cons k kr =>
    rw [List.map_cons] at hr
    obtain ⟨v', r', e, hv, hr'⟩ := hr.consI
    cases e
    obtain ⟨ra, x, y, rfl, hm, hx⟩ := hv.row2I
    refine ⟨_, Tg.tup (ps := [(.ofString "told", _), (.ofString "holds_here", _)]) rfl (List.mem_append_right _ (List.mem_append_left _ (List.mem_append_right _ hm))) rfl rfl rfl, JTs.nil ?_⟩
    rw [if_pos rfl]
    refine JEc.tup (JLc.cons (JEc.none (JLc.cons (JEc.name rfl rfl rfl rfl (JLc.cons (JEc.bool (JLc.nil ⟨rfl, fun a => ⟨rfl, (a, _) :: mz, rfl, kr, ky ++ [k], hr', by rw [← hk, List.append_assoc]; rfl, ?_⟩⟩)) rfl)) rfl)) rfl)
    rw [List.map_append]
    exact (hy.mono fun p hp => .tail _ hp).app (.one (.tup (.head _) (.cons .none (.cons (hx.mono fun p hp => .tail _ (List.mem_append_right _ hp)) (.cons .bool .nil)))))
  case done =>
    rintro ys W' fz' ⟨rfl, mz, rfl, kr, ky, hr, hk, hy⟩ D
    cases kr with
    | cons k kr => cases hr
    | nil =>
    rw [List.append_nil] at hk
    subst hk
    x_run
    refine JC.frame .nil (JC.more (typed_new fun T dT => ?_) (Eq.refl true) (Eq.refl true))
    dsimp only [List.cons_append, List.nil_append]
    x_run
    refine JC.frame .nil (JC.more (world_new fun W0 dW sg es he lo => ?_) (Eq.refl true) (Eq.refl true))
    dsimp only [List.cons_append, List.nil_append]
    x_run
    refine JC.frame .nil (JC.more (scopes_init (own := mz ++ nz) (mAt 6 rfl) (mAt 5 rfl) (mAt 1 rfl) (mAt 0 rfl) (mAt 4 rfl) (mAt 3 rfl) he lo (mAt 2 rfl) hy (fun p hp => List.mem_append_right _ (List.mem_append_left _ (.tail _ (.tail _ (.tail _ (.tail _ (.tail _ (.tail _ hp)))))))) fun c lv b st nz' h => ?_) (Eq.refl true) (Eq.refl true))
    dsimp only [newW, scW, blkW, List.cons_append, List.nil_append]
    x_run
    exact ⟨_, _, .drop (.cons 0 rfl (.cons 0 rfl (.cons 0 rfl (.cons 0 rfl (.cons 0 rfl (.cons 0 rfl (.cons 0 rfl .nil))))))) .refl,
      K c lv b st _ (h.mono fun p hp => (List.mem_append.mp hp).elim (fun h => List.mem_append_left _ h) fun h => List.mem_append_right _ (.tail _ (.tail _ (.tail _ (.tail _ (.tail _ (.tail _ h)))))))⟩
end
theorem anew_S15 : True ∧ True := by
  w_top off
  try walk1
  all_goals first | trivial | exact ⟨trivial, trivial⟩
section
open PySem PySem.W PyProof.Rows PySem.Calls
set_option maxRecDepth 100000
set_option Elab.async false
theorem fillKg (w : World) (h : Heap) : (Mine.hk.heap_1 w.params).In h → PySem.Challenge.rw_xw0171_01.row.prog = PySem.Challenge.rw_xw0171_01.row.prog := by k_fill; intro _; rfl
local macro_rules | `(tactic| kdg_here) => `(tactic| ((with_reducible refine' JX.assignCR ?yp ?yr ?ys ?yy ?yw ?yc ?yl ?yk ?yn); (case yc => exact fun _ => rfl); (case yr => exact (Eq.refl true)); (case ys => exact (Eq.refl true)); (case yy => exact (Eq.refl true)); (case yw => exact fun _ => rfl); (case yl => decide); (case yk => exact rfl); (case yn => decide)))
set_option maxHeartbeats 4000000
theorem LocIs.nil0 : LocIs [] (fun _ => none) := fun y v e => by cases e
variable {w : World} {own tl : Led} {c : Cf} {q : Lc} {s : Sv} {l : Lv} {A : Ab} {s0 s1 : Int} {k : Nat} {lv : List Vl} {Q : Vl → Led → Led → Prop}
theorem deed_spec (h : Dd own s l A) (hO : ∀ p ∈ own, p ∈ tl) (hF : ScFz' w c own) (hL : (c.LC, dLst lv) ∈ own) (hlc : LcD own lv) (B : Bn k A s.n) (hk : k ≤ 8) (g0 : 0 ≤ s0) (g1 : 0 ≤ s1) (g2 : s1 < 2147483647)
    (K : ∀ s0' s1' s' l' A' nz, Dd (nz ++ own) s' l' A' → Bn (k + 1) A' s'.n → 0 ≤ s0' → 0 ≤ s1' → s1' < 2147483647 → Q (.bool true) (allW w c q s0' s1' s' l' A'.rm) nz) :
    JC w 330 3300 tl (allW w c q s0 s1 s l A.rm) [] 511 [.ref q.src, .ref c.S, .ref q.lbl, .ref q.lf, .ref q.lr] Q := by
  refine JC.arr ?_
  refine' JC.enterC (nm := .ofString "source") (v0 := .ref q.src) (l0 := [(.ofString "rooms", .ref q.lr), (.ofString "frames", .ref q.lf), (.ofString "blocks", .ref q.lbl), (.ofString "scopes", .ref c.S)]) ?zo ?zd ?zr ?zb ?zn ?zc ?za ?zg ?zk ?zH
  case zo => k_is
  case zd => k_is
  case zr => exact Eq.refl true
  case zb =>
    intro us a
    cases a with
    | cons i0 a =>
    cases a with
    | cons i1 a =>
    cases a with
    | cons i2 a =>
    cases a with
    | cons i3 a =>
    cases a with
    | cons i4 a =>
    cases a
    exact ⟨_, _, fun s _ => BindsTo.of_eq rfl, i0, (((LocIs.nil0.store i1).store i2).store i3).store i4, rfl, rfl⟩
  case zn => decide
  case zc => exact fun _ => rfl
  case za => exact Eq.refl false
  case zg => exact Eq.refl false
  case zk => exact rfl
  case zH =>
  intro x
  have hcell : (x, dCell (.ref q.src)) ∈ (x, dCell (.ref q.src)) :: tl := .head _
  dsimp only [allW, lawW, scpW, scW, blkW, List.cons_append, List.nil_append]
  x_run
  refine JC.frame (.cons 0 rfl .nil) (JC.more (take_spec (top := 7) g0 g1 g2 (by decide) (by decide) fun d1 s0a s1a hd1 a0 a1 a2 => ?_) (Eq.refl true) (Eq.refl true))
  dsimp only [List.cons_append, List.nil_append, List.eraseIdx]
  x_run
  refine JC.frame (.cons 0 rfl .nil) (JC.more (take_spec (top := 6) a0 a1 a2 (by decide) (by decide) fun d2 s0b s1b hd2 b0 b1 b2 => ?_) (Eq.refl true) (Eq.refl true))
  dsimp only [List.cons_append, List.nil_append, List.eraseIdx]
  refine AddIQ.mk ?_
  have e2 : (1 : Int) + (d2 : Int) = ((1 + d2 : Nat) : Int) := by omega
  have hl1 : 1 ≤ 1 + d2 := by omega
  have hl2 : 1 + d2 ≤ 6 := by omega
  rw [e2]
  clear e2 hd2
  generalize 1 + d2 = lc at hl1 hl2
  have nS := h.fS.length
  have nL := h.fL.length
  have nR := B.rm
  have nb := h.bS.dC.length
  have nb2 := h.bL.dC.length
  have nt := h.bS.dU.length
  have nt2 := h.bL.dU.length
  have nΦ := B.Φ
  have zC := B.C
  have zU := B.U
  have zn := B.n
  have zG : (refsJ l.Gs).length ≤ 1000 := by rw [List.length_map]; omega
  have zR : (rmV A.rm).length ≤ 1000 := by rw [List.length_map]; omega
  have zF : (refsJ s.Fs).length ≤ 1000 := by rw [List.length_map]; omega
  have hS : (c.S, dInst 304 c.dS) ∈ (x, dCell (.ref q.src)) :: tl := .tail _ (hO _ hF.1)
  have hBo : (c.Bo, dInst 82 c.dB) ∈ (x, dCell (.ref q.src)) :: tl := .tail _ (hO _ hF.2.1)
  have hE : (c.dB, dDct w (boE c)) ∈ (x, dCell (.ref q.src)) :: tl := .tail _ (hO _ hF.2.2)
  by_cases hb : ((refsJ l.Gs).isEmpty || (((d1 : Int) == 0) || false)) = true
  · have hm : (refsJ l.Gs).isEmpty = (refsJ l.Gs).isEmpty := rfl
    x_run
    rename_i t0 ga
    have eG : (refsJ l.Gs).length = A.Φ.length := by rw [List.length_map, nL]
    have eF : (refsJ s.Fs).length = A.Φ.length := by rw [List.length_map, nS]
    rw [len1, eG]
    refine JC.frame (.cons 12 rfl (.cons 12 rfl .nil)) (JC.more (push_spec (here := s.bs.length) (List.mem_append_right _ (List.mem_append_right _ hS)) (mAt 7 rfl) (by omega) (by omega) fun f => ?_) (Eq.refl true) (Eq.refl true))
    dsimp only [List.cons_append, List.nil_append, List.eraseIdx]
    rw [eF]
    x_run
    rw [len1, eG, beq_self_eq_true]
    have KK := K s0b s1b ⟨s.b, s.st, s.bs, s.ts, s.G, s.n, s.Fs ++ [(f, [])]⟩ ⟨l.lb, l.lst, l.lbs, l.lts, l.Gs ++ [(ga, [])]⟩ ⟨A.C, A.U, A.Φ ++ [[]], A.rm ++ [A.Φ.length]⟩ [(t0, dTup [.int d1, .int lc])]
      ⟨(h.bS.more fun p hp => .tail _ hp), (h.bL.more fun p hp => .tail _ hp), (h.fS.mono fun p hp => .tail _ hp).app (.cons .nil .nil), (h.fL.mono fun p hp => .tail _ hp).app (.cons .nil .nil), fun p hp => .tail _ (h.g p hp)⟩ B.push b0 b1 b2
    simp only [allW, lawW, scpW, scW, blkW, refsJ, frW, rmV, List.map_append, List.map_cons, List.map_nil, List.cons_append, List.nil_append] at KK
    refine ⟨_, _, ?_, KK⟩
    exact .sel (.cons 4 rfl (.cons 4 rfl (.cons 4 rfl (.cons 4 rfl (.cons 4 rfl (.cons 4 rfl (.cons 4 rfl (.cons 4 rfl (.cons 4 rfl (.cons 4 rfl (.cons 4 rfl (.cons 1 rfl (.cons 1 rfl (.cons 0 rfl (.cons 0 rfl .nil))))))))))))))) (.perm (List.Perm.append_left [_, _, _, _, _, _, _, _, _, _, _, _, _] (permFG0 (A := frW s.Fs) (B := frW l.Gs))) .refl)
  · have hb' := Bool.eq_false_iff.mpr hb
    have hbe : (refsJ l.Gs).isEmpty = false := by
      cases e : (refsJ l.Gs).isEmpty with
      | false => rfl
      | true => rw [e] at hb'; exact absurd hb' (by simp)
    have hd0 : d1 ≠ 0 := by
      rintro rfl
      rw [hbe] at hb'
      exact absurd hb' (by decide)
    have hΦ : A.Φ ≠ [] := by
      intro e
      rw [e] at nL
      rw [List.length_eq_zero_iff.mp nL] at hbe
      exact absurd hbe (by decide)
    have hrm : A.rm ≠ [] := by
      intro e
      rw [e] at nR
      exact hΦ (List.length_eq_zero_iff.mp nR.symm)
    obtain ⟨rm1, r, erm⟩ := lastOf hrm
    obtain ⟨P1, φ, eΦ⟩ := lastOf hΦ
    have hd1' : d1 = 1 ∨ d1 = 2 ∨ d1 = 3 ∨ d1 = 4 ∨ d1 = 5 ∨ d1 = 6 := by omega
    rcases hd1' with rfl | rfl | rfl | rfl | rfl | rfl
    · rw [erm, rmV_app]
      have hlr : (rmV rm1).length ≤ 1000 := by
        have := congrArg List.length erm
        rw [List.length_append] at this
        rw [List.length_map]; omega
      x_run
      rename_i t0 ga
      refine JC.frame (.cons 12 rfl (.cons 12 rfl .nil)) (JC.more (push_inner_spec (here := s.bs.length) (List.mem_append_right _ (List.mem_append_right _ hS)) (mAt 7 rfl) (by omega) (by omega) fun f => ?_) (Eq.refl true) (Eq.refl true))
      dsimp only [List.cons_append, List.nil_append, List.eraseIdx]
      x_run
      have B' : Bn (k + 1) ⟨A.C, A.U, A.Φ ++ [[]], rm1 ++ [r] ++ [r]⟩ s.n := erm ▸ B.push
      have KK := K s0b s1b ⟨s.b, s.st, s.bs, s.ts, s.G, s.n, s.Fs ++ [(f, [])]⟩ ⟨l.lb, l.lst, l.lbs, l.lts, l.Gs ++ [(ga, [])]⟩ ⟨A.C, A.U, A.Φ ++ [[]], rm1 ++ [r] ++ [r]⟩ [(t0, dTup [.int 1, .int lc])]
        ⟨(h.bS.more fun p hp => .tail _ hp), (h.bL.more fun p hp => .tail _ hp), (h.fS.mono fun p hp => .tail _ hp).app (.cons .nil .nil), (h.fL.mono fun p hp => .tail _ hp).app (.cons .nil .nil), fun p hp => .tail _ (h.g p hp)⟩ B' b0 b1 b2
      simp only [allW, lawW, scpW, scW, blkW, refsJ, frW, rmV, List.map_append, List.map_cons, List.map_nil, List.cons_append, List.nil_append] at KK
      refine ⟨_, _, ?_, KK⟩
      exact .sel (.cons 4 rfl (.cons 4 rfl (.cons 4 rfl (.cons 4 rfl (.cons 4 rfl (.cons 4 rfl (.cons 4 rfl (.cons 4 rfl (.cons 4 rfl (.cons 4 rfl (.cons 4 rfl (.cons 1 rfl (.cons 1 rfl (.cons 0 rfl (.cons 0 rfl .nil))))))))))))))) (.perm (List.Perm.append_left [_, _, _, _, _, _, _, _, _, _, _, _, _] (permFG0 (A := frW s.Fs) (B := frW l.Gs))) .refl)
    · have htop : 1 ≤ (refsJ l.Gs).length := by
        rw [List.length_map, nL]
        exact List.length_pos_iff.mpr hΦ
      x_run
      refine JC.frame (.cons 0 rfl .nil) (JC.more (take_spec (top := (refsJ l.Gs).length) b0 b1 b2 htop zG fun d3 s0c s1c hd3 c0 c1 c2 => ?_) (Eq.refl true) (Eq.refl true))
      rename_i t0
      dsimp only [List.cons_append, List.nil_append, List.eraseIdx]
      rw [List.length_map, nL] at hd3
      clear eΦ P1 φ
      obtain ⟨P1, φ, P2, eΦ, lP⟩ := splitAt hd3
      obtain ⟨F1, fa, fv, F2, eFs, lF, hF1, hfv, hF2⟩ := (eΦ ▸ h.fS).split
      obtain ⟨G1, ga, gv, G2, eGs, lG, hG1, hgv, hG2⟩ := (eΦ ▸ h.fL).split
      have hφ := B.φ φ (by rw [eΦ]; exact List.mem_append_right _ (.head _))
      have lfv := hfv.length
      have lgv := hgv.length
      rw [List.length_map] at lfv lgv
      rw [eFs, refsJ_mid] at zF ⊢
      rw [eGs, refsJ_mid] at zG ⊢
      rw [frW_mid, frW_mid]
      rw [List.length_append] at zF zG
      have hixG : IxV (refsJ G1 ++ .ref ga :: refsJ G2) (d3 : Int) (.ref ga) := IxV.mid (by rw [List.length_map, lG, lP]) (by omega)
      have hixF : IxV (refsJ F1 ++ .ref fa :: refsJ F2) (d3 : Int) (.ref fa) := IxV.mid (by rw [List.length_map, lF, lP]) (by omega)
      refine JX.arr (.perm (List.Perm.append_left [_, _, _, _, _, _, _, _, _, _, _, _, _] (permFG (A := frW F1) (B := frW G1) (A' := frW F2) (B' := frW G2)).symm) (.sel (.cons 14 rfl .nil) .refl)) ?_
      dsimp only [List.cons_append, List.nil_append, List.eraseIdx]
      x_run
      rename_i t1 y0
      refine JC.frame (.cons 8 rfl (.cons 10 rfl (.cons 12 rfl .nil))) (JC.more (begin_spec (here := s.bs.length) ⟨List.mem_append_right _ (List.mem_append_right _ hS), mAt 7 rfl, List.mem_append_right _ (List.mem_append_right _ hBo), List.mem_append_right _ (List.mem_append_right _ hE)⟩ (mAt 8 rfl) (IxV.mid rfl (by omega)) (mAt 9 rfl) (by omega) (by omega) (fun p hp => List.mem_append_right _ (List.mem_append_right _ (.tail _ (hO p (h.g p hp))))) (mAt 10 rfl) hixF (by omega) fun G' nzd a' y' hg ha hy => ?_) (Eq.refl true) (Eq.refl true))
      dsimp only [List.cons_append, List.nil_append, List.eraseIdx]
      x_run
      have up : ∀ p ∈ own, p ∈ (nzd ++ [(y0, dTup [.int (lc : Int), .str (.ofString "dead")]), (t1, dTup [.str (.ofString "live"), .int (lc : Int)]), (t0, dTup [.int ((2 : Nat) : Int), .int (lc : Int)])]) ++ own := fun p hp => List.mem_append_right _ hp
      have upd : ∀ p ∈ nzd, p ∈ (nzd ++ [(y0, dTup [.int (lc : Int), .str (.ofString "dead")]), (t1, dTup [.str (.ofString "live"), .int (lc : Int)]), (t0, dTup [.int ((2 : Nat) : Int), .int (lc : Int)])]) ++ own := fun p hp => List.mem_append_left _ (List.mem_append_left _ hp)
      have upr : ∀ p ∈ [(y0, dTup [.int (lc : Int), .str (.ofString "dead")]), (t1, dTup [.str (.ofString "live"), .int (lc : Int)]), (t0, dTup [.int ((2 : Nat) : Int), .int (lc : Int)])], p ∈ (nzd ++ [(y0, dTup [.int (lc : Int), .str (.ofString "dead")]), (t1, dTup [.str (.ofString "live"), .int (lc : Int)]), (t0, dTup [.int ((2 : Nat) : Int), .int (lc : Int)])]) ++ own := fun p hp => List.mem_append_left _ (List.mem_append_right _ hp)
      have KK := K s0c s1c ⟨s.b, s.st, s.bs, s.ts ++ [.ref a'], G', s.n + 1, F1 ++ (fa, fv ++ [.ref y']) :: F2⟩ ⟨l.lb, l.lst, l.lbs, l.lts ++ [.ref t1], G1 ++ (ga, gv ++ [.ref y0]) :: G2⟩ ⟨A.C, A.U ++ [dLive lc], P1 ++ (φ ++ [(lc, true)]) :: P2, A.rm⟩ _
        ⟨⟨h.bS.dC.mono up, liveOne (h.bS.dU.mono up) (upd _ ha)⟩, ⟨h.bL.dC.mono up, liveOne (h.bL.dU.mono up) (upr _ (.tail _ (.head _)))⟩, (hF1.mono up).app (.cons (rowOne (wd := true) (hfv.mono up) (upd _ hy)) (hF2.mono up)), (hG1.mono up).app (.cons (rowOne (wd := true) (hgv.mono up) (upr _ (.head _))) (hG2.mono up)), hg.all h.g fun p hp => (List.mem_append.mp hp).elim (upd p) (up p)⟩
        (B.row eΦ (by rw [List.length_append, List.length_singleton]; omega) (hφ.2.snoc hl1 hl2) (Nat.le_add_right _ _) (by rw [List.length_append, List.length_singleton]; omega) (Nat.add_le_add_left (by decide) _) B.ok.live) c0 c1 c2
      simp only [allW, lawW, scpW, scW, blkW, refsJ, frW, rmV, List.map_append, List.map_cons, List.map_nil, List.cons_append, List.nil_append] at KK
      refine ⟨_, _, ?_, KK⟩
      exact .sel (.cons 4 rfl (.cons 4 rfl (.cons 4 rfl (.cons 4 rfl (.cons 4 rfl (.cons 4 rfl (.cons 4 rfl (.cons 0 rfl (.cons 3 rfl (.cons 3 rfl (.cons 0 rfl (.cons 2 rfl (.cons 2 rfl (.cons 0 rfl (.cons 0 rfl .nil))))))))))))))) (.perm (List.Perm.append_left [_, _, _, _, _, _, _, _, _, _, _, _, _] (permFG (A := frW F1) (B := frW G1) (A' := frW F2) (B' := frW G2))) .refl)
    · obtain ⟨F1, fa, fv, eFs, lF, hF1, hfv⟩ := (eΦ ▸ h.fS).last
      obtain ⟨G1, ga, gv, eGs, lG, hG1, hgv⟩ := (eΦ ▸ h.fL).last
      have hφ := B.φ φ (by rw [eΦ]; exact List.mem_append_right _ (.head _))
      have lfv := hfv.length
      have lgv := hgv.length
      rw [List.length_map] at lfv lgv
      rw [eFs, refsJ_app] at zF ⊢
      rw [eGs, refsJ_app] at zG hb' ⊢
      rw [frW_app, frW_app]
      rw [List.length_append] at zF zG
      refine JL.arr (.perm (List.Perm.append_left [_, _, _, _, _, _, _, _, _, _, _, _, _] (permFG0 (A := frW F1) (B := frW G1)).symm) (.sel (.cons 14 rfl .nil) .refl)) ?_
      dsimp only [List.cons_append, List.nil_append, List.eraseIdx]
      x_run
      rename_i t0 y
      refine JC.frame (.cons 14 rfl .nil) (JC.more (hold_spec (here := s.bs.length) (List.mem_append_right _ (List.mem_append_right _ hS)) (mAt 7 rfl) (mAt 12 rfl) (by omega) (by omega) fun z => ?_) (Eq.refl true) (Eq.refl true))
      dsimp only [List.cons_append, List.nil_append, List.eraseIdx]
      x_run
      have up : ∀ p ∈ own, p ∈ [(z, dTup [.int (lc : Int), .str (.ofString "drop")]), (y, dTup [.int (lc : Int), .str (.ofString "drop")]), (t0, dTup [.int ((3 : Nat) : Int), .int (lc : Int)])] ++ own := fun p hp => List.mem_append_right _ hp
      have KK := K s0b s1b ⟨s.b, s.st, s.bs, s.ts, s.G, s.n, F1 ++ [(fa, fv ++ [.ref z])]⟩ ⟨l.lb, l.lst, l.lbs, l.lts, G1 ++ [(ga, gv ++ [.ref y])]⟩ ⟨A.C, A.U, P1 ++ [φ ++ [(lc, false)]], A.rm⟩ _
        ⟨h.bS.more up, h.bL.more up, (hF1.mono up).app (.cons (rowOne (hfv.mono up) (.head _)) .nil), (hG1.mono up).app (.cons (rowOne (hgv.mono up) (.tail _ (.head _))) .nil), fun p hp => up p (h.g p hp)⟩
        (B.row eΦ (by rw [List.length_append, List.length_singleton]; omega) (hφ.2.snoc hl1 hl2) (Nat.le_add_right _ _) (Nat.le_add_right _ _) (Nat.le_add_right _ _) B.ok) b0 b1 b2
      simp only [allW, lawW, scpW, scW, blkW, refsJ, frW, rmV, List.map_append, List.map_cons, List.map_nil, List.cons_append, List.nil_append] at KK
      refine ⟨_, _, ?_, KK⟩
      exact .sel (.cons 2 rfl (.cons 2 rfl (.cons 2 rfl (.cons 2 rfl (.cons 2 rfl (.cons 2 rfl (.cons 2 rfl (.cons 2 rfl (.cons 2 rfl (.cons 2 rfl (.cons 2 rfl (.cons 2 rfl (.cons 2 rfl (.cons 0 rfl (.cons 0 rfl .nil))))))))))))))) (.perm (List.Perm.append_left [_, _, _, _, _, _, _, _, _, _, _, _, _] (permFG0 (A := frW F1) (B := frW G1))) .refl)
    · x_run
      rename_i t0
      refine JC.frame (.cons 0 rfl .nil) (JC.more (take_spec (top := 4) b0 b1 b2 (by decide) (by decide) fun d3 s0c s1c hd3 c0 c1 c2 => ?_) (Eq.refl true) (Eq.refl true))
      dsimp only [List.cons_append, List.nil_append, List.eraseIdx]
      obtain ⟨R0, eR0⟩ : ∃ R0 : Led, R0 = (q.lbl, dLst (l.lbs ++ [.ref l.lb])) :: (l.lb, dLst [.ref l.lst, .none]) :: (l.lst, dLst l.lts) :: (q.lf, dLst (refsJ l.Gs)) :: (q.lr, dLst (rmV A.rm)) :: (c.dS, dDct w (scE c s.bs.length)) :: (c.sp, dSpot w s.G s.n) :: (c.bl, dLst (s.bs ++ [.ref s.b])) :: (s.b, dLst [.ref s.st, .none]) :: (s.st, dLst s.ts) :: (c.FR, dLst (refsJ s.Fs)) :: (c.RM, dLst (rmV A.rm)) :: (frW s.Fs ++ frW l.Gs) := ⟨_, rfl⟩
      rw [← eR0]
      refine ⟨d3, fun i ys W' fz' => ∃ s0 s1 nz rows, W' = (q.src, dLst [.int s0, .int s1]) :: R0 ∧ fz' = nz ++ [(t0, dTup [.int ((4 : Nat) : Int), .int (lc : Int)])] ∧ 0 ≤ s0 ∧ 0 ≤ s1 ∧ s1 < 2147483647 ∧ DtA nz ys (rows.map rowD) ∧ RowsOkJ rows ∧ rows.length = i, rfl, by omega, ⟨s0c, s1c, [], [], rfl, rfl, c0, c1, c2, .nil, (fun _ h => nomatch h), rfl⟩, ?turn, ?done⟩
      case turn =>
        rintro i ys W' fz' hi ⟨e0, e1, nz, rows, rfl, rfl, f0, f1, f2, hy, hr, hl⟩
        refine ⟨_, Tg.name rfl rfl, JTs.nil ?_⟩
        rw [if_pos rfl]
        refine JEc.tup (JLc.cons (JEc.addI (JEc.int ⟨_, rfl, ?_⟩)) rfl)
        refine' JEc.fn ?y1 ?y2 ?y3 ?y4 ?y5 ?y6 ?y7
        case y1 => exact fun _ _ => rfl
        case y2 => exact rfl
        case y3 => exact rfl
        case y4 => k_is
        case y5 => k_is
        case y6 => exact rfl
        refine JLc.cons (JEc.cell (v := .ref q.src) rfl hcell (fun _ _ => rfl) rfl rfl (JLc.cons (JEc.int (JLc.nil ?_)) rfl)) rfl
        refine JC.frame (.cons 0 rfl .nil) (JC.more (take_spec (top := 6) f0 f1 f2 (by decide) (by decide) fun d4 e0a e1a hd4 a0 a1 a2 => ?_) (Eq.refl true) (Eq.refl true))
        dsimp only [List.cons_append, List.nil_append, List.eraseIdx]
        refine ⟨_, rfl, ?_⟩
        have e2 : (1 : Int) + (d4 : Int) = ((1 + d4 : Nat) : Int) := by omega
        rw [e2]
        refine JLc.cons ?_ rfl
        refine' JEc.fn ?u1 ?u2 ?u3 ?u4 ?u5 ?u6 ?u7
        case u1 => exact fun _ _ => rfl
        case u2 => exact rfl
        case u3 => exact rfl
        case u4 => k_is
        case u5 => k_is
        case u6 => exact rfl
        refine JLc.cons (JEc.cell (v := .ref q.src) rfl hcell (fun _ _ => rfl) rfl rfl (JLc.cons (JEc.lst (JLc.cons (JEc.str (JLc.cons (JEc.str (JLc.nil ⟨rfl, fun D => JLc.nil ?_⟩)) rfl)) rfl)) rfl)) rfl
        refine JC.arr (JC.frame (.cons 1 rfl .nil) (JC.more (one_spec a0 a1 a2 (.head _) (by decide) (by decide) fun d5 v e0b e1b hdv g0 g1 g2 => ⟨_, _, .lose (.cons 1 rfl .nil) .refl, JLc.nil ?_⟩) (Eq.refl true) (Eq.refl true)))
        dsimp only [List.cons_append, List.nil_append, List.eraseIdx]
        obtain ⟨wd, rfl⟩ : ∃ wd : Bool, v = .str (if wd then Str.ofString "dead" else Str.ofString "drop") := by
          rcases d5 with _ | _ | d5
          · cases hdv; exact ⟨true, rfl⟩
          · cases hdv; exact ⟨false, rfl⟩
          · cases hdv
        exact ⟨rfl, fun a => ⟨e0b, e1b, (a, _) :: nz, rows ++ [(1 + d4, wd)], rfl, rfl, g0, g1, g2, rowOne (hy.mono fun p hp => .tail _ hp) (.head _), hr.snoc (by omega) (by omega), by rw [List.length_append, hl]; rfl⟩⟩
      case done =>
        rintro ys W' fz' ⟨e0, e1, nz, rows, rfl, rfl, f0, f1, f2, hy, hr, hl⟩ D
        subst eR0
        have lys := hy.length
        rw [List.length_map] at lys
        x_run
        have upO : ∀ p ∈ nz ++ own, p ∈ (nz ++ [(t0, dTup [.int ((4 : Nat) : Int), .int (lc : Int)])]) ++ ((x, dCell (.ref q.src)) :: tl) := fun p hp => (List.mem_append.mp hp).elim (fun h => List.mem_append_left _ (List.mem_append_left _ h)) fun h => List.mem_append_right _ (.tail _ (hO p h))
        have upN : ∀ p ∈ own, p ∈ nz ++ own := fun p hp => List.mem_append_right _ hp
        have hyN : DtA (nz ++ own) ys (rows.map rowD) := hy.mono fun p hp => List.mem_append_left _ hp
        refine JC.frame (.cons 2 rfl (.cons 2 rfl (.cons 2 rfl .nil))) (JC.more (ended_spec (own := nz ++ own) (h.bL.more upN) (fun p hp => List.mem_append_right _ (upO p hp)) (mAt 0 rfl) hyN hr (by omega) (by omega) (by omega) fun lb' lst' lbs' lts' nz1 hBL => ?_) (Eq.refl true) (Eq.refl true))
        dsimp only [blkW, List.cons_append, List.nil_append, List.eraseIdx]
        x_run
        refine JC.frame (.cons 7 rfl (.cons 7 rfl (.cons 7 rfl (.cons 7 rfl (.cons 7 rfl .nil))))) (JC.more (finish_spec (own := nz ++ own) (h.bS.more upN) (fun p hp => List.mem_append_right _ (List.mem_append.mpr ((List.mem_append.mp (upO p hp)).elim (fun h => .inl (List.mem_append_right _ h)) .inr))) (fun p hp => upN p (h.g p hp)) (List.mem_append_right _ (List.mem_append_right _ hS)) (List.mem_append_right _ (List.mem_append_right _ hBo)) (List.mem_append_right _ (List.mem_append_right _ hE)) (List.mem_append_right _ (List.mem_append_right _ (.tail _ (hO _ hL)))) (hlc.mono upN) (mAt 3 rfl) hyN hr (by omega) (by omega) (by omega) (by omega) fun G' n' b' st' bs' ts' nz2 hBS hG' hn' => ?_) (Eq.refl true) (Eq.refl true))
        dsimp only [scW, blkW, List.cons_append, List.nil_append, List.eraseIdx]
        x_run
        have zE := endedB_len (C := A.C) (U := A.U) (rows := rows)
        have up : ∀ p ∈ own, p ∈ (nz2 ++ (nz1 ++ (nz ++ [(t0, dTup [.int ((4 : Nat) : Int), .int (lc : Int)])]))) ++ own := fun p hp => List.mem_append_right _ hp
        have upz : ∀ p ∈ nz ++ own, p ∈ (nz2 ++ (nz1 ++ (nz ++ [(t0, dTup [.int ((4 : Nat) : Int), .int (lc : Int)])]))) ++ own := fun p hp => (List.mem_append.mp hp).elim (fun h => List.mem_append_left _ (List.mem_append_right _ (List.mem_append_right _ (List.mem_append_left _ h)))) (up p)
        have up1 : ∀ p ∈ nz1 ++ (nz ++ own), p ∈ (nz2 ++ (nz1 ++ (nz ++ [(t0, dTup [.int ((4 : Nat) : Int), .int (lc : Int)])]))) ++ own := fun p hp => (List.mem_append.mp hp).elim (fun h => List.mem_append_left _ (List.mem_append_right _ (List.mem_append_left _ h))) (upz p)
        have up2 : ∀ p ∈ nz2 ++ (nz ++ own), p ∈ (nz2 ++ (nz1 ++ (nz ++ [(t0, dTup [.int ((4 : Nat) : Int), .int (lc : Int)])]))) ++ own := fun p hp => (List.mem_append.mp hp).elim (fun h => List.mem_append_left _ (List.mem_append_left _ h)) (upz p)
        have KK := K e0 e1 ⟨b', st', bs', ts', G', n', s.Fs⟩ ⟨lb', lst', lbs', lts', l.Gs⟩ ⟨(endedB rows (A.C, A.U)).1, (endedB rows (A.C, A.U)).2, A.Φ, A.rm⟩ _
          ⟨hBS.more up2, hBL.more up1, h.fS.mono up, h.fL.mono up, fun p hp => up2 p (hG' p hp)⟩
          (B.same (by omega) (by omega) (by show n' ≤ s.n + 100; omega) (B.ok.ended rows)) f0 f1 f2
        refine ⟨_, _, ?_, KK⟩
        exact .lose (.cons 8 rfl .nil) (.sel (.cons 8 rfl (.cons 5 rfl (.cons 5 rfl (.cons 5 rfl (.cons 5 rfl (.cons 5 rfl .nil)))))) .refl)
    · obtain ⟨F1, fa, fv, eFs, lF, hF1, hfv⟩ := (eΦ ▸ h.fS).last
      obtain ⟨G1, ga, gv, eGs, lG, hG1, hgv⟩ := (eΦ ▸ h.fL).last
      have hφ := B.φ φ (by rw [eΦ]; exact List.mem_append_right _ (.head _))
      have lfv := hfv.length
      have lgv := hgv.length
      rw [List.length_map] at lfv lgv
      rw [eFs, refsJ_app] at zF ⊢
      rw [eGs, refsJ_app] at zG hb' ⊢
      rw [frW_app, frW_app]
      rw [List.length_append] at zF zG
      rw [erm, rmV_app]
      have hlr : (rmV rm1).length ≤ 1000 := by
        have := congrArg List.length erm
        rw [List.length_append] at this
        rw [List.length_map]; omega
      refine JL.arr (.perm (List.Perm.append_left [_, _, _, _, _, _, _, _, _, _, _, _, _] (permFG0 (A := frW F1) (B := frW G1)).symm) (.sel (.cons 14 rfl .nil) .refl)) ?_
      dsimp only [List.cons_append, List.nil_append, List.eraseIdx]
      x_run
      rename_i t0
      refine JC.frame (.cons 2 rfl (.cons 2 rfl (.cons 2 rfl .nil))) (JC.more (ended_spec (own := own) h.bL (fun p hp => List.mem_append_right _ (List.mem_append_right _ (.tail _ (hO p hp)))) (mAt 0 rfl) hgv hφ.2 (by omega) (by omega) (by omega) fun lb' lst' lbs' lts' nz1 hBL => ?_) (Eq.refl true) (Eq.refl true))
      dsimp only [blkW, List.cons_append, List.nil_append, List.eraseIdx]
      x_run
      refine JC.frame (.cons 7 rfl (.cons 7 rfl (.cons 7 rfl (.cons 7 rfl (.cons 7 rfl (.cons 7 rfl (.cons 7 rfl .nil))))))) (JC.more (pop_spec (own := own) h.bS (fun p hp => List.mem_append_right _ (List.mem_append_right _ (.tail _ (hO p hp)))) h.g (List.mem_append_right _ (List.mem_append_right _ hS)) (List.mem_append_right _ (List.mem_append_right _ hBo)) (List.mem_append_right _ (List.mem_append_right _ hE)) (List.mem_append_right _ (List.mem_append_right _ (.tail _ (hO _ hL)))) hlc (mAt 7 rfl) hfv hφ.2 (by omega) (by omega) (by omega) (by omega) (by omega) (by omega) fun G' n' b' st' bs' ts' nz2 hBS hG' hn' => ?_) (Eq.refl true) (Eq.refl true))
      dsimp only [scW, blkW, List.cons_append, List.nil_append, List.eraseIdx]
      x_run
      have zE := endedB_len (C := A.C) (U := A.U) (rows := φ)
      have up : ∀ p ∈ own, p ∈ (nz2 ++ (nz1 ++ [(t0, dTup [.int ((5 : Nat) : Int), .int (lc : Int)])])) ++ own := fun p hp => List.mem_append_right _ hp
      have up1 : ∀ p ∈ nz1 ++ own, p ∈ (nz2 ++ (nz1 ++ [(t0, dTup [.int ((5 : Nat) : Int), .int (lc : Int)])])) ++ own := fun p hp => (List.mem_append.mp hp).elim (fun h => List.mem_append_left _ (List.mem_append_right _ (List.mem_append_left _ h))) (up p)
      have up2 : ∀ p ∈ nz2 ++ own, p ∈ (nz2 ++ (nz1 ++ [(t0, dTup [.int ((5 : Nat) : Int), .int (lc : Int)])])) ++ own := fun p hp => (List.mem_append.mp hp).elim (fun h => List.mem_append_left _ (List.mem_append_left _ h)) (up p)
      have KK := K s0b s1b ⟨b', st', bs', ts', G', n', F1⟩ ⟨lb', lst', lbs', lts', G1⟩ ⟨(endedB φ (A.C, A.U)).1, (endedB φ (A.C, A.U)).2, P1, rm1⟩ _
        ⟨hBS.more up2, hBL.more up1, hF1.mono up, hG1.mono up, fun p hp => up2 p (hG' p hp)⟩
        (B.pop eΦ erm (by omega) (by omega) (by show n' ≤ s.n + 100; omega) (B.ok.ended φ)) b0 b1 b2
      refine ⟨_, _, ?_, KK⟩
      exact .lose (.cons 10 rfl (.cons 13 rfl .nil)) (.sel (.cons 10 rfl (.cons 7 rfl (.cons 7 rfl (.cons 7 rfl (.cons 7 rfl (.cons 7 rfl .nil)))))) .refl)
    · obtain ⟨F1, fa, fv, eFs, lF, hF1, hfv⟩ := (eΦ ▸ h.fS).last
      obtain ⟨G1, ga, gv, eGs, lG, hG1, hgv⟩ := (eΦ ▸ h.fL).last
      have hφ := B.φ φ (by rw [eΦ]; exact List.mem_append_right _ (.head _))
      have lfv := hfv.length
      have lgv := hgv.length
      rw [List.length_map] at lfv lgv
      rw [eFs, refsJ_app] at zF ⊢
      rw [eGs, refsJ_app] at zG hb' ⊢
      rw [frW_app, frW_app]
      rw [List.length_append] at zF zG
      refine JL.arr (.perm (List.Perm.append_left [_, _, _, _, _, _, _, _, _, _, _, _, _] (permFG0 (A := frW F1) (B := frW G1)).symm) (.sel (.cons 14 rfl .nil) .refl)) ?_
      dsimp only [List.cons_append, List.nil_append, List.eraseIdx]
      x_run
      rename_i t0 t1 y z L0
      refine JC.frame (.cons 9 rfl (.cons 11 rfl (.cons 13 rfl .nil))) (JC.more (declare_spec (here := s.bs.length) ⟨List.mem_append_right _ (List.mem_append_right _ hS), mAt 8 rfl, List.mem_append_right _ (List.mem_append_right _ hBo), List.mem_append_right _ (List.mem_append_right _ hE)⟩ (mAt 9 rfl) (IxV.mid rfl (by omega)) (mAt 10 rfl) (by omega) (by omega) (fun p hp => List.mem_append_right _ (List.mem_append_right _ (.tail _ (hO p (h.g p hp))))) (mAt 11 rfl) (by omega) (by omega) fun G' nzd a' y' z' hg ha hy hz' => ?_) (Eq.refl true) (Eq.refl true))
      dsimp only [List.cons_append, List.nil_append, List.eraseIdx]
      x_run
      have up : ∀ p ∈ own, p ∈ (nzd ++ [(z, dTup [.int (lc : Int), .str (.ofString "drop")]), (y, dTup [.int (lc : Int), .str (.ofString "dead")]), (t1, dTup [.str (.ofString "live"), .int (lc : Int)]), (t0, dTup [.int ((6 : Nat) : Int), .int (lc : Int)])]) ++ own := fun p hp => List.mem_append_right _ hp
      have upd : ∀ p ∈ nzd, p ∈ (nzd ++ [(z, dTup [.int (lc : Int), .str (.ofString "drop")]), (y, dTup [.int (lc : Int), .str (.ofString "dead")]), (t1, dTup [.str (.ofString "live"), .int (lc : Int)]), (t0, dTup [.int ((6 : Nat) : Int), .int (lc : Int)])]) ++ own := fun p hp => List.mem_append_left _ (List.mem_append_left _ hp)
      have upr : ∀ p ∈ [(z, dTup [.int (lc : Int), .str (.ofString "drop")]), (y, dTup [.int (lc : Int), .str (.ofString "dead")]), (t1, dTup [.str (.ofString "live"), .int (lc : Int)]), (t0, dTup [.int ((6 : Nat) : Int), .int (lc : Int)])], p ∈ (nzd ++ [(z, dTup [.int (lc : Int), .str (.ofString "drop")]), (y, dTup [.int (lc : Int), .str (.ofString "dead")]), (t1, dTup [.str (.ofString "live"), .int (lc : Int)]), (t0, dTup [.int ((6 : Nat) : Int), .int (lc : Int)])]) ++ own := fun p hp => List.mem_append_left _ (List.mem_append_right _ hp)
      have dG := rowOne (wd := false) (rowOne (wd := true) (hgv.mono up) (upr _ (.tail _ (.head _)))) (upr _ (.head _))
      rw [List.append_assoc gv] at dG
      have KK := K s0b s1b ⟨s.b, s.st, s.bs, s.ts ++ [.ref a'], G', s.n + 1, F1 ++ [(fa, fv ++ [.ref y'] ++ [.ref z'])]⟩ ⟨l.lb, l.lst, l.lbs, l.lts ++ [.ref t1], G1 ++ [(ga, gv ++ [.ref y, .ref z])]⟩ ⟨A.C, A.U ++ [dLive lc], P1 ++ [φ ++ [(lc, true)] ++ [(lc, false)]], A.rm⟩ _
        ⟨⟨h.bS.dC.mono up, liveOne (h.bS.dU.mono up) (upd _ ha)⟩, ⟨h.bL.dC.mono up, liveOne (h.bL.dU.mono up) (upr _ (.tail _ (.tail _ (.head _))))⟩, (hF1.mono up).app (.cons (rowOne (wd := false) (rowOne (wd := true) (hfv.mono up) (upd _ hy)) (upd _ hz')) .nil), (hG1.mono up).app (.cons dG .nil), hg.all h.g fun p hp => (List.mem_append.mp hp).elim (upd p) (up p)⟩
        (B.row eΦ (by rw [List.length_append, List.length_append, List.length_singleton, List.length_singleton]; omega) ((hφ.2.snoc hl1 hl2).snoc hl1 hl2) (Nat.le_add_right _ _) (by rw [List.length_append, List.length_singleton]; omega) (Nat.add_le_add_left (by decide) _) B.ok.live) b0 b1 b2
      simp only [allW, lawW, scpW, scW, blkW, refsJ, frW, rmV, List.map_append, List.map_cons, List.map_nil, List.cons_append, List.nil_append] at KK
      refine ⟨_, _, ?_, KK⟩
      exact .lose (.cons 3 rfl .nil) (.sel (.cons 4 rfl (.cons 4 rfl (.cons 4 rfl (.cons 4 rfl (.cons 4 rfl (.cons 4 rfl (.cons 4 rfl (.cons 1 rfl (.cons 3 rfl (.cons 3 rfl (.cons 1 rfl (.cons 2 rfl (.cons 2 rfl (.cons 0 rfl (.cons 0 rfl .nil))))))))))))))) (.perm (List.Perm.append_left [_, _, _, _, _, _, _, _, _, _, _, _, _] (permFG0 (A := frW F1) (B := frW G1))) .refl))
end
theorem anew_S16 : True ∧ True := by
  w_top off
  try walk1
  all_goals first | trivial | exact ⟨trivial, trivial⟩
section
open PySem PySem.W PyProof.Rows PySem.Calls
set_option maxRecDepth 100000
set_option Elab.async false
theorem fillKh (w : World) (h : Heap) : (Mine.hk.heap_1 w.params).In h → PySem.Challenge.rw_xw0171_01.row.prog = PySem.Challenge.rw_xw0171_01.row.prog := by k_fill; intro _; rfl
set_option maxHeartbeats 4000000
variable {w : World} {tl : Led} {src : Addr} {s0 s1 : Int} {Q : Vl → Led → Led → Prop}
theorem scr_spec (g0 : 0 ≤ s0) (g1 : 0 ≤ s1) (g2 : s1 < 2147483647)
    (K : ∀ s0' s1' fz', 0 ≤ s0' → 0 ≤ s1' → s1' < 2147483647 → Q (.bool true) [(src, dLst [.int s0', .int s1'])] fz') : JC w 310 3100 tl [(src, dLst [.int s0, .int s1])] [] 525 [.ref src] Q := by
  refine JC.arr ?_
  gn_look
  refine' JX.unpack4 ?zp ?zc ?zw
  case zc => exact rfl
  case zw => (intro _; with_unfolding_all rfl)
  x_run
  refine JC.frame .nil (JC.more (init_spec fun c lv b st nz hz => ?_) (Eq.refl true) (Eq.refl true))
  dsimp only [newW, scW, blkW, List.cons_append, List.nil_append]
  x_run
  rename_i lst lb lbl lf lr
  intro t0
  rw [List.append_nil]
  refine JB.four (List.mem_append_right _ (.head _)) ?_ rfl rfl rfl rfl
  refine JX.arr (.sel (.cons 12 rfl (.cons 2 rfl (.cons 2 rfl (.cons 2 rfl (.cons 1 rfl (.cons 0 rfl .nil)))))) .refl) ?_
  dsimp only [List.cons_append, List.nil_append, List.eraseIdx]
  x_run
  refine JC.frame (.cons 0 rfl .nil) (JC.more (take_spec (top := 8) g0 g1 g2 (by decide) (by decide) fun n s0' s1' hn a0 a1 a2 => ?_) (Eq.refl true) (Eq.refl true))
  dsimp only [List.cons_append, List.nil_append, List.eraseIdx]
  refine AddIQ.mk ?_
  rw [show (1 : Int) + (n : Int) = ((1 + n : Nat) : Int) from by omega]
  refine RngQ.mk (k := 1 + n) (fun i W' fz' => ∃ s0 s1 s l A, W' = allW w c ⟨src, lbl, lf, lr⟩ s0 s1 s l A.rm ∧ Dd fz' s l A ∧ Bn i A s.n ∧ ScFz w c lv fz' ∧ 0 ≤ s0 ∧ 0 ≤ s1 ∧ s1 < 2147483647) (by omega) ?h0 ?turn ?done
  case h0 =>
    exact ⟨s0', s1', ⟨b, st, [], [], [], 0, []⟩, ⟨lb, lst, [], [], []⟩, ⟨[], [], [], []⟩, rfl, ⟨⟨.nil, .nil⟩, ⟨.nil, .nil⟩, .nil, .nil, (fun _ h => nomatch h)⟩, ⟨Nat.le_refl _, rfl, (fun _ h => nomatch h), Nat.le_refl _, Nat.le_refl _, Nat.le_refl _, ⟨(fun _ h => nomatch h), (fun _ h => nomatch h)⟩⟩, hz.mono fun p hp => .tail _ hp, a0, a1, a2⟩
  case turn =>
    rintro i W' fz' hi ⟨e0, e1, s, l, A, rfl, hD, hB, hF, f0, f1, f2⟩
    have hFS : (c.S, dInst 304 c.dS) ∈ fz' ++ tl := List.mem_append_left _ hF.S
    x_run
    refine JC.frame (Sel.all _) (JC.more (deed_spec (own := fz') hD (fun p hp => List.mem_append_right _ (List.mem_append_left _ hp)) ⟨hF.S, hF.B, hF.E⟩ hF.L hF.lc hB (by omega) f0 f1 f2 fun e0' e1' s' l' A' nz' hD' hB' h0 h1 h2 => ?_) (Eq.refl true) (Eq.refl true))
    rw [List.append_nil]
    x_run
    refine JC.frame .nil (JC.more (stands_all hD' ⟨List.mem_append_right _ hF.S, List.mem_append_right _ hF.B, List.mem_append_right _ hF.E⟩ hB' (by omega) (fun p hp => List.mem_append_left _ hp) (fun p hp => List.mem_append_right _ (List.mem_append_left _ hp)) ?_) (Eq.refl true) (Eq.refl true))
    rw [List.nil_append, List.nil_append]
    x_run
    exact JX.nil (turnQ.next (.cons .refl rfl) ⟨e0', e1', s', l', A', rfl, hD', hB', hF.mono fun p hp => List.mem_append_right _ hp, h0, h1, h2⟩)
  case done =>
    rintro W' fz' ⟨e0, e1, s, l, A, rfl, hD, hB, hF, f0, f1, f2⟩
    x_run
    exact ⟨_, _, .drop (.cons 0 rfl .nil) .refl, K _ _ _ f0 f1 f2⟩
end
theorem anew_S17 : True ∧ True := by
  w_top off
  try walk1
  all_goals first | trivial | exact ⟨trivial, trivial⟩
section
open PySem PySem.W PyProof.Rows PySem.Calls
set_option maxRecDepth 100000
set_option Elab.async false
theorem fillKi (w : World) (h : Heap) : (Mine.hk.heap_1 w.params).In h → PySem.Challenge.rw_xw0171_01.row.prog = PySem.Challenge.rw_xw0171_01.row.prog := by k_fill; intro _; rfl
local macro_rules | `(tactic| kdp_here) => `(tactic| first | exact mG 0 rfl | exact mG 1 rfl | exact mG 2 rfl | exact mG 3 rfl | exact mG 4 rfl | exact mG 5 rfl | exact mG 6 rfl | exact mG 7 rfl | exact mG 8 rfl | exact mG 9 rfl | exact mG 10 rfl | exact mG 11 rfl | exact mG 12 rfl | exact mG 13 rfl | exact mG 14 rfl | exact mG 15 rfl | exact mG 16 rfl | exact mG 17 rfl | exact mG 18 rfl | exact mG 19 rfl | exact mG 20 rfl | exact mG 21 rfl | exact mG 22 rfl | exact mG 23 rfl | exact mG 24 rfl | exact mG 25 rfl | exact mG 26 rfl | exact mG 27 rfl | exact mG 28 rfl | exact mG 29 rfl | exact mG 30 rfl | exact mG 31 rfl | exact mG 32 rfl | exact mG 33 rfl | exact mG 34 rfl | exact mG 35 rfl | exact mG 36 rfl | exact mG 37 rfl | exact mG 38 rfl | exact mG 39 rfl | exact mG 40 rfl | exact mG 41 rfl | exact mG 42 rfl | exact mG 43 rfl | exact mG 44 rfl | exact mG 45 rfl | exact mFz (mApp (mApp (mG 0 rfl))) | exact mFz (mApp (mApp (mG 1 rfl))) | exact mFz (mApp (mApp (mG 2 rfl))) | exact mFz (mApp (mApp (mG 3 rfl))) | exact mFz (mApp (mApp (mG 4 rfl))) | exact mFz (mApp (mApp (mG 5 rfl))) | exact mFz (mApp (mApp (mG 6 rfl))) | exact mFz (mApp (mApp (mG 7 rfl))) | exact mFz (mApp (mApp (mG 8 rfl))) | exact mFz (mApp (mApp (mApp (mG 0 rfl)))) | exact mFz (mApp (mApp (mApp (mG 1 rfl)))) | exact mFz (mApp (mApp (mApp (mG 2 rfl)))) | exact mFz (mApp (mApp (mApp (mG 3 rfl)))) | exact mFz (mApp (mApp (mApp (mG 4 rfl)))) | exact mFz (mApp (mApp (mApp (mG 5 rfl)))) | exact mFz (mApp (mApp (mApp (mG 6 rfl)))) | exact mFz (mApp (mApp (mApp (mG 7 rfl)))) | exact mFz (mApp (mApp (mApp (mG 8 rfl)))))
local macro_rules | `(tactic| kdl_here) => `(tactic| first | exact mAt 0 rfl | exact mAt 1 rfl | exact mAt 2 rfl | exact mAt 3 rfl | exact mAt 4 rfl | exact mAt 5 rfl | exact mAt 6 rfl | exact mAt 7 rfl | exact mAt 8 rfl | exact mAt 9 rfl | exact mAt 10 rfl | exact mAt 11 rfl | exact mAt 12 rfl | exact mAt 13 rfl | exact mAt 14 rfl | exact mAt 15 rfl | exact mAt 16 rfl | exact mAt 17 rfl | exact mAt 18 rfl | exact mAt 19 rfl | exact mAt 20 rfl | exact mAt 21 rfl | exact mAt 22 rfl | exact mAt 23 rfl | exact mAt 24 rfl | exact mAt 25 rfl | exact mAt 26 rfl | exact mAt 27 rfl | exact mAt 28 rfl | exact mAt 29 rfl | exact mAt 30 rfl | exact mAt 31 rfl | exact mAt 32 rfl | exact mAt 33 rfl | exact mAt 34 rfl | exact mAt 35 rfl | exact mAt 36 rfl | exact mAt 37 rfl | exact mAt 38 rfl | exact mAt 39 rfl | exact mAt 40 rfl | exact mAt 41 rfl | exact mAt 42 rfl | exact mAt 43 rfl | exact mFz (by repeat (first | with_reducible assumption | with_reducible refine mCons ?_ | with_reducible refine mApp ?_)))
set_option maxHeartbeats 4000000
variable {w : World} {tl : Led} {Q : Vl → Led → Led → Prop}
theorem told_spec (K : ∀ fz', Q (.bool true) [] fz') : JC w 310 3100 tl [] [] 518 [] Q := by
  refine JC.arr ?_
  gn_look
  x_run
  refine JC.frame .nil (JC.more (init_spec fun c lv b st nz hz => ?_) (Eq.refl true) (Eq.refl true))
  dsimp only [newW, scW, blkW, List.cons_append, List.nil_append]
  rw [List.append_nil]
  have hS : (c.S, dInst 304 c.dS) ∈ nz ++ tl := List.mem_append_left _ hz.S
  have hBo : (c.Bo, dInst 82 c.dB) ∈ nz ++ tl := List.mem_append_left _ hz.B
  have hEo : (c.dB, dDct w (boE c)) ∈ nz ++ tl := List.mem_append_left _ hz.E
  have hLo : (c.LC, dLst lv) ∈ nz ++ tl := List.mem_append_left _ hz.L
  x_run
  refine JC.frame (.cons 8 rfl (.cons 8 rfl .nil)) (JC.more (push_spec (here := 0) (List.mem_append_right _ (mCons hS)) (mAt 3 rfl) (Nat.le_of_ble_eq_true rfl) (Nat.le_of_ble_eq_true rfl) fun f1 => ?_) (Eq.refl true) (Eq.refl true))
  dsimp only [List.cons_append, List.nil_append, List.eraseIdx]
  x_run
  refine JC.frame (.cons 1 rfl (.cons 1 rfl .nil)) (JC.more (push_spec (here := 0) (List.mem_append_right _ (mCons hS)) (mAt 4 rfl) (Nat.le_of_ble_eq_true rfl) (Nat.le_of_ble_eq_true rfl) fun f2 => ?_) (Eq.refl true) (Eq.refl true))
  dsimp only [List.cons_append, List.nil_append, List.eraseIdx]
  x_run
  refine JC.frame (.cons 1 rfl (.cons 1 rfl .nil)) (JC.more (push_inner_spec (rs := [.int 0]) (x := .int 1) (here := 0) (List.mem_append_right _ (mCons hS)) (mAt 5 rfl) (Nat.le_of_ble_eq_true rfl) (Nat.le_of_ble_eq_true rfl) fun f3 => ?_) (Eq.refl true) (Eq.refl true))
  dsimp only [List.cons_append, List.nil_append, List.eraseIdx]
  x_run
  refine JC.frame (.cons 1 rfl (.cons 1 rfl .nil)) (JC.more (push_inner_spec (rs := [.int 0, .int 1]) (x := .int 1) (here := 0) (List.mem_append_right _ (mCons hS)) (mAt 6 rfl) (Nat.le_of_ble_eq_true rfl) (Nat.le_of_ble_eq_true rfl) fun f4 => ?_) (Eq.refl true) (Eq.refl true))
  dsimp only [List.cons_append, List.nil_append, List.eraseIdx]
  x_run
  refine JC.frame .nil (JC.more (stands_spec (here := 0) (x1 := [.ref b]) (x3 := [.ref f1, .ref f2, .ref f3, .ref f4]) (x5 := [.int 0, .int 1, .int 1, .int 1]) (D1 := datB [] []) (D2 := [.list [], .list [], .list [], .list []]) (D3 := [.int 0, .int 1, .int 1, .int 1]) ⟨List.mem_append_right _ (mCons hS), mAt 15 rfl, List.mem_append_right _ (mCons (List.mem_append_left _ hz.B)), List.mem_append_right _ (mCons (List.mem_append_left _ hz.E))⟩
    (mAt 17 rfl) (mAt 12 rfl) (by gp_look) (by gp_look) (by decide) (mAt 7 rfl) (mAt 1 rfl) (by gp_look) (by gp_look) (by decide) (mAt 8 rfl) (mAt 0 rfl) (by gp_look) (by gp_look) (by decide) rfl (Nat.le_of_ble_eq_true rfl) ?_) (Eq.refl true) (Eq.refl true))
  dsimp only [List.cons_append, List.nil_append]
  x_run
  refine JC.frame (.cons 16 rfl (.cons 16 rfl (.cons 16 rfl (.cons 16 rfl (.cons 16 rfl .nil))))) (JC.more (finish_spec (rows := [(3, true), (3, false), (1, false), (4, false), (4, true), (5, false)]) (C := []) (U := []) (bs := []) (ts := []) ⟨.nil, .nil⟩ (fun p hp => List.mem_append_right _ (List.mem_append_left _ hp)) (fun _ h => nomatch h) (List.mem_append_right _ (mCons (mCons (mCons (mCons (mCons (mCons (mCons hS)))))))) (List.mem_append_right _ (mCons (mCons (mCons (mCons (mCons (mCons (mCons (List.mem_append_left _ hz.B))))))))) (List.mem_append_right _ (mCons (mCons (mCons (mCons (mCons (mCons (mCons (List.mem_append_left _ hz.E)))))))))
    (List.mem_append_right _ (mCons (mCons (mCons (mCons (mCons (mCons (mCons (List.mem_append_left _ hz.L))))))))) (hz.lc.mono fun p hp => .tail _ (.tail _ (.tail _ (.tail _ (.tail _ (.tail _ (.tail _ hp))))))) (mAt 0 rfl) (by gp_look) (by decide) (by decide) (by decide) (by decide) (by decide) fun G1 n1 b1 st1 bs1 ts1 nz1 hB1 hG1 hn1 => ?_) (Eq.refl true) (Eq.refl true))
  dsimp only [scW, blkW, List.cons_append, List.nil_append, List.eraseIdx]
  rw [toldE] at hB1
  dsimp only at hB1
  have hl1 : bs1.length = 2 := hB1.dC.length
  x_run
  have hok : OkCU [.list [.list [], dDrop 5 1], .list [.list [dDead 4], dDrop 3 2]] [dDead 3] := by
    have h0 := OkCU.ended (C := []) (U := []) ⟨(fun _ h => nomatch h), (fun _ h => nomatch h)⟩ [(3, true), (3, false), (1, false), (4, false), (4, true), (5, false)]
    rw [toldE] at h0
    exact h0
  refine JC.frame .nil (JC.more (stands_spec (here := bs1.length) (x1 := bs1 ++ [.ref b1]) (x3 := [.ref f1, .ref f2, .ref f3, .ref f4]) (x5 := [.int 0, .int 1, .int 1, .int 1]) (D1 := datB [.list [.list [], dDrop 5 1], .list [.list [dDead 4], dDrop 3 2]] [dDead 3]) (D2 := [.list [], .list [], .list [], .list []]) (D3 := [.int 0, .int 1, .int 1, .int 1]) ⟨(List.mem_append_right _ (by repeat (first | with_reducible assumption | with_reducible refine mCons ?_ | with_reducible refine mApp ?_))), mAt 13 rfl, (List.mem_append_right _ (by repeat (first | with_reducible assumption | with_reducible refine mCons ?_ | with_reducible refine mApp ?_))), (List.mem_append_right _ (by repeat (first | with_reducible assumption | with_reducible refine mCons ?_ | with_reducible refine mApp ?_)))⟩
    (mAt 15 rfl) (mAt 6 rfl) (hB1.dat (fun p hp => List.mem_append_right _ (List.mem_append_left _ (.tail _ (.tail _ (.tail _ (.tail _ (.tail _ (.tail _ (.tail _ (.tail _ hp)))))))))) (mAt 16 rfl) (mAt 17 rfl)) (by gp_look) (okB hok) (mAt 26 rfl) (mAt 1 rfl) (by gp_look) (by gp_look) (by decide) (mAt 27 rfl) (mAt 0 rfl) (by gp_look) (by gp_look) (by decide) (by rw [hl1]; rfl) (Nat.le_of_ble_eq_true rfl) ?_) (Eq.refl true) (Eq.refl true))
  dsimp only [List.cons_append, List.nil_append]
  x_run
  refine JC.frame (.cons 14 rfl (.cons 14 rfl (.cons 14 rfl (.cons 14 rfl (.cons 14 rfl .nil))))) (JC.more (finish_spec (rows := []) (C := [.list [.list [], dDrop 5 1], .list [.list [dDead 4], dDrop 3 2]]) (U := [dDead 3]) (hB1.more fun p hp => (.tail _ (.tail _ (.tail _ (.tail _ (.tail _ (.tail _ (.tail _ (.tail _ hp))))))))) (fun p hp => List.mem_append_right _ (List.mem_append_left _ hp)) (fun p hp => by have hp := hG1 p hp; exact (.tail _ (.tail _ (.tail _ (.tail _ (.tail _ (.tail _ (.tail _ (.tail _ hp))))))))) (List.mem_append_right _ (by repeat (first | with_reducible assumption | with_reducible refine mCons ?_ | with_reducible refine mApp ?_))) (List.mem_append_right _ (by repeat (first | with_reducible assumption | with_reducible refine mCons ?_ | with_reducible refine mApp ?_))) (List.mem_append_right _ (by repeat (first | with_reducible assumption | with_reducible refine mCons ?_ | with_reducible refine mApp ?_))) (List.mem_append_right _ (by repeat (first | with_reducible assumption | with_reducible refine mCons ?_ | with_reducible refine mApp ?_))) (hz.lc.mono fun p hp => (.tail _ (.tail _ (.tail _ (.tail _ (.tail _ (.tail _ (.tail _ (.tail _ (List.mem_append_right _ (.tail _ (.tail _ (.tail _ (.tail _ (.tail _ (.tail _ (.tail _ hp))))))))) )))))))) (mAt 0 rfl) .nil (fun _ h => nomatch h) (by decide) (by decide) (by decide) (Nat.le_trans hn1 (by decide)) fun G2 n2 b2 st2 bs2 ts2 nz2 hB2 hG2 hn2 => ?_) (Eq.refl true) (Eq.refl true))
  dsimp only [scW, blkW, List.cons_append, List.nil_append, List.eraseIdx]
  replace hB2 : BlkS _ bs2 ts2 [.list [.list [], dDrop 5 1], .list [.list [dDead 4], dDrop 3 2]] [dDead 3] := hB2
  have hl2 : bs2.length = 2 := hB2.dC.length
  x_run
  refine JC.frame (.cons 0 rfl (.cons 0 rfl (.cons 0 rfl (.cons 0 rfl (.cons 0 rfl (.cons 22 rfl (.cons 22 rfl .nil))))))) (JC.more (pop_spec (fr := f4) (frs := [.ref f1, .ref f2, .ref f3]) (rms := [.int 0, .int 1, .int 1]) (x := .int 1) (rows := []) (C := [.list [.list [], dDrop 5 1], .list [.list [dDead 4], dDrop 3 2]]) (U := [dDead 3]) (hB2.more fun p hp => hp) (fun p hp => List.mem_append_right _ (List.mem_append_left _ hp)) hG2 (List.mem_append_right _ (by repeat (first | with_reducible assumption | with_reducible refine mCons ?_ | with_reducible refine mApp ?_))) (List.mem_append_right _ (by repeat (first | with_reducible assumption | with_reducible refine mCons ?_ | with_reducible refine mApp ?_))) (List.mem_append_right _ (by repeat (first | with_reducible assumption | with_reducible refine mCons ?_ | with_reducible refine mApp ?_))) (List.mem_append_right _ (by repeat (first | with_reducible assumption | with_reducible refine mCons ?_ | with_reducible refine mApp ?_))) (hz.lc.mono fun p hp => List.mem_append_right _ (.tail _ (.tail _ (.tail _ (.tail _ (.tail _ (.tail _ (.tail _ (.tail _ (List.mem_append_right _ (.tail _ (.tail _ (.tail _ (.tail _ (.tail _ (.tail _ (.tail _ hp))))))))))))))))) (mAt 21 rfl) .nil (fun _ h => nomatch h) (by decide) (by decide) (by decide) (Nat.le_trans hn2 (Nat.le_trans hn1 (by decide))) (Nat.le_of_ble_eq_true rfl) (Nat.le_of_ble_eq_true rfl) fun G3 n3 b3 st3 bs3 ts3 nz3 hB3 hG3 hn3 => ?_) (Eq.refl true) (Eq.refl true))
  dsimp only [scW, blkW, List.cons_append, List.nil_append, List.eraseIdx]
  replace hB3 : BlkS _ bs3 ts3 [.list [.list [], dDrop 5 1], .list [.list [dDead 4], dDrop 3 2]] [dDead 3] := hB3
  have hl3 : bs3.length = 2 := hB3.dC.length
  x_run
  refine JC.frame (.cons 5 rfl (.cons 5 rfl .nil)) (JC.more (push_spec (here := bs3.length) (List.mem_append_right _ (by repeat (first | with_reducible assumption | with_reducible refine mCons ?_ | with_reducible refine mApp ?_))) (mAt 0 rfl) (Nat.le_of_ble_eq_true rfl) (Nat.le_of_ble_eq_true rfl) fun f5 => ?_) (Eq.refl true) (Eq.refl true))
  dsimp only [List.cons_append, List.nil_append, List.eraseIdx]
  x_run
  refine JC.frame .nil (JC.more (stands_spec (here := bs3.length) (x1 := bs3 ++ [.ref b3]) (x3 := [.ref f1, .ref f2, .ref f3, .ref f5]) (x5 := [.int 0, .int 1, .int 1, .int 3]) (D1 := datB [.list [.list [], dDrop 5 1], .list [.list [dDead 4], dDrop 3 2]] [dDead 3]) (D2 := [.list [], .list [], .list [], .list []]) (D3 := [.int 0, .int 1, .int 1, .int 3]) ⟨(List.mem_append_right _ (by repeat (first | with_reducible assumption | with_reducible refine mCons ?_ | with_reducible refine mApp ?_))), mAt 9 rfl, (List.mem_append_right _ (by repeat (first | with_reducible assumption | with_reducible refine mCons ?_ | with_reducible refine mApp ?_))), (List.mem_append_right _ (by repeat (first | with_reducible assumption | with_reducible refine mCons ?_ | with_reducible refine mApp ?_)))⟩
    (mAt 11 rfl) (mAt 21 rfl) (hB3.dat (fun p hp => List.mem_append_right _ (List.mem_append_left _ hp)) (mAt 12 rfl) (mAt 13 rfl)) (by gp_look) (okB hok) (mAt 7 rfl) (mAt 1 rfl) (by gp_look) (by gp_look) (by decide) (mAt 8 rfl) (mAt 0 rfl) (by gp_look) (by gp_look) (by decide) (by rw [hl3]; rfl) (Nat.le_of_ble_eq_true rfl) ?_) (Eq.refl true) (Eq.refl true))
  dsimp only [List.cons_append, List.nil_append]
  x_run
  exact ⟨_, _, .drop .nil .refl, K _⟩
end
theorem anew_S18 : True ∧ True := by
  w_top off
  try walk1
  all_goals first | trivial | exact ⟨trivial, trivial⟩
section
open PySem PySem.W PyProof.Rows PySem.Calls
set_option maxRecDepth 100000
set_option Elab.async false
theorem fillKj (w : World) (h : Heap) : (Mine.hk.heap_1 w.params).In h → PySem.Challenge.rw_xw0171_01.row.prog = PySem.Challenge.rw_xw0171_01.row.prog := by k_fill; intro _; rfl
local macro_rules | `(tactic| kob_here) => `(tactic| (refine ?zmain; first
  | ((with_reducible refine' PV.pow ?zp ?zq ?zx ?zy ?zw); (case zp => kob_here); (case zq => kob_here); (case zx => decide); (case zy => decide); (case zw => decide))
  | ((with_reducible refine' PV.lenS ?zp ?zm ?zz ?zx ?zs); (case zx => exact (Eq.refl true)); (case zs => exact (Eq.refl true)); (case zp => kob_here); (case zm => with_reducible assumption); (case zz => with_reducible assumption))
  | ((with_reducible refine' PV.itemS ?zp ?zq ?zm ?zk ?zh ?zz ?zs ?zg); (case zs => exact (Eq.refl true)); (case zg => exact fun _ => rfl); (case zp => kob_here); (case zm => with_reducible assumption); (case zq => kob_here); (case zk => exact rfl); (case zh => exact rfl); (case zz => with_reducible assumption))))
set_option maxHeartbeats 4000000
variable {w : World} {tl : Led} {a : Addr} {ns : List Int} {Q : Vl → Led → Led → Prop}
theorem big0 (c : Int) : 0 ≤ if -1 - c > c then -1 - c else c := by split <;> omega
theorem pool_spec (hs : Scr tl a (ns.map Vl.int)) (hz : ns.length ≤ 63) (K : ∀ D s0 s1, 0 ≤ s0 → 0 ≤ s1 → s1 < 2147483647 → Q (.ref D) [(D, dLst [.int s0, .int s1])] []) : JC w 460 4600 tl [] [] 466 [.ref a, .int 0] Q := by
  have hz1 : (ns.map Vl.int).length ≤ 1000000 := by rw [List.length_map]; omega
  have hz2 : ns.length ≤ 1000000 := by omega
  have n1 : (2147483629 : Int) ≠ 0 := by decide
  have n2 : (2147483647 : Int) ≠ 0 := by decide
  have m1 : IntMulOk 7919 0 := mulOk (by decide)
  have m2 : IntMulOk (7919 * 0) 0 := mulOk (by decide)
  have m3 : IntMulOk 31 0 := mulOk (by decide)
  have fin : ∀ M : Int, 0 ≤ M → IntMulOk (M.fmod 2147483629 + 7919 * 0 * 0 + 31 * 0 + 17) 48271 ∧ (∀ b : Bool, IntMulOk M (if b = true then 1 else 0)) ∧ ∀ b : Bool, 0 ≤ M * (if b = true then 1 else 0) := fun M hM => by
    have a1 := Int.fmod_nonneg_of_pos M (b := 2147483629) (by decide)
    have a2 := Int.fmod_lt_of_pos M (b := 2147483629) (by decide)
    refine ⟨mulOk (by omega), fun b => IntMulOk.of_right (by cases b <;> decide), fun b => ?_⟩
    cases b
    · rw [if_neg (by decide), Int.mul_zero]; exact Int.le_refl _
    · rw [if_pos rfl, Int.mul_one]; exact hM
  cases ns with
  | nil =>
    gn_look
    iterate 4 kdg_here
    generalize hM : (if (-1 : Int) - 0 > 0 then (-1 : Int) - 0 else 0) = M
    have hM0 : 0 ≤ M := by rw [← hM]; decide
    clear hM
    obtain ⟨m4, m5, m6⟩ := fin M hM0
    have m7 := m5 (decide ((10 : Int) ^ (18 : Int).toNat ≤ M))
    have f1 : ∀ x : Int, 0 ≤ x.fmod 2147483647 := fun x => Int.fmod_nonneg_of_pos _ (by decide)
    have f2 : ∀ x : Int, x.fmod 2147483647 < 2147483647 := fun x => Int.fmod_lt_of_pos _ (by decide)
    x_run
    exact K _ _ _ (m6 _) (f1 _) (f2 _)
  | cons n0 ns =>
    have hb : decide ((0 : Int) < (((n0 :: ns).map Vl.int).length : Int)) = true := by
      rw [List.length_map, List.length_cons, decide_eq_true_eq]; omega
    gn_look
    iterate 5 kdg_here
    generalize hM : (if (-1 : Int) - n0 > n0 then (-1 : Int) - n0 else n0) = M
    have hM0 : 0 ≤ M := by rw [← hM]; exact big0 n0
    clear hM
    obtain ⟨m4, m5, m6⟩ := fin M hM0
    have m7 := m5 (decide ((10 : Int) ^ (18 : Int).toNat ≤ M))
    have f1 : ∀ x : Int, 0 ≤ x.fmod 2147483647 := fun x => Int.fmod_nonneg_of_pos _ (by decide)
    have f2 : ∀ x : Int, x.fmod 2147483647 < 2147483647 := fun x => Int.fmod_lt_of_pos _ (by decide)
    x_run
    exact K _ _ _ (m6 _) (f1 _) (f2 _)
theorem allIntsI : ∀ {us : List Value} {ns : List Int}, IntsAre us ns → AllIs (ns.map Vl.int) us
  | _, _, .nil => .nil
  | _, _, .cons _ _ h => .cons ⟨_, rfl⟩ (allIntsI h)
theorem noLists_ok (P : Params) : noLists (Mine.hk.heap_1 P) = true := by kernel_rfl
theorem lawEnter {g h₁ : Heap} {L fa a : Addr} {name : Str} {scope : Scope} {cd : Value} {body : List Stmt} {us : List Value} {ns : List Int} {p' : List Str} {mean : ExcName → Option Value} {mg mb : Str → Option Value} {gs : Array GenState} {dr : Drawn} {t : Nat} {o : OsState} {QQ : Flow → Shared → Prop} {E : Value → Shared → Prop}
    (X : (Mine.hk.heap_1 w.params).In g) (T : Top topProg p' mean mg mb g) (F : Fr g L h₁ (fun x => List.lookup x [(PySem.Str.ofString "script", Value.ref a)].reverse)) (hl : g.IsList a us.toArray) (N : News g L h₁ [(140, tabObj #[])]) (hI : IntsAre us ns) (hk : scope.kind = .function)
    (H : ∀ tl, Scr tl a (ns.map Vl.int) → JX ⟨w, 310, 3100, ⟨name, scope, fa, cd, fun _ => []⟩, tl⟩ [(.ofString "script", .ref a)] [] [] body (retQ fun v _ _ => v = .bool true)) (hE : PassesOwn (model pg w) (callerA.deeper (envOf name scope L fa cd)) (envOf name scope L fa cd) E)
    (fin : ∀ f' h' t' m', retQ (fun v _ _ => v = .bool true) f' [] [] [] → Fr g L h' m' → News g L h' [(140, tabObj #[])] → ∀ f'', f'.is f'' → QQ f'' ⟨h', gs, dr, t', o⟩) :
    wpAny (model pg w) (callerA.deeper (envOf name scope L fa cd)) (execs body (envOf name scope L fa cd)) QQ E ⟨h₁, gs, dr, t, o⟩ := by
  obtain ⟨oA, ha, hc, n, hd⟩ := hl
  have haL : a < L := Nat.lt_of_lt_of_le (Heap.lt_size ha) F.above
  have N140 := N _ (.head _)
  have hne : a ≠ 140 := fun q => by rw [q, N140.2.2] at ha; cases ha
  have up : ∀ b o, (hideAll g [a]).get? b = some o → g.get? b = some o := fun b o e => of_hideAll _ e
  have F₀ : Fr (hideAll g [a]) L h₁ (fun x => List.lookup x [(PySem.Str.ofString "script", Value.ref a)].reverse) := ⟨F.ns, fun b o e => F.keep b o (up b o e), by rw [hideAll_size]; exact F.above⟩
  refine H [(140, (· = tabObj #[])), (a, (· = oA))] ⟨oA, us, n, .tail _ (.head _), hc, hd, allIntsI hI⟩ ⟨callerA.deeper (envOf name scope L fa cd), callerA, hideAll g [a], hideAll g [a], [], L, mg, mb, topProg, p', mean, []⟩
    ⟨below_caller _, hide_K ha hc X (noLists_ok _), hide_top ha hd T, rfl, rfl, hk, Nat.le_of_ble_eq_true rfl, Nat.le_of_ble_eq_true rfl⟩ h₁ gs dr t o ⟨⟨_, F₀, LsIs.loc (.cons rfl .nil)⟩, fun p hp => ?_, ⟨fun i k p q hp => (by cases i <;> cases hp), fun p hp => nomatch hp⟩, fun p hp => nomatch hp⟩ QQ E hE fun f f' l' W' fz' h' t' hf s' q => ?_
  · have hp' : p = (140, (· = tabObj #[])) ∨ p = (a, (· = oA)) := by
      rcases List.mem_cons.mp (show p ∈ [(140, (· = tabObj #[])), (a, (· = oA))] from hp) with h | h
      · exact .inl h
      · exact .inr (List.mem_singleton.mp h)
    rcases hp' with rfl | rfl
    · refine ⟨_, rfl, N140.1, N140.2.1, ?_⟩
      cases e : (hideAll g [a]).get? 140 with
      | none => rfl
      | some o' => rw [up _ _ e] at N140; cases N140.2.2
    · exact ⟨_, rfl, F.keep _ _ ha, Nat.ne_of_lt haL, hideAll_none _ (.head _)⟩
  · obtain ⟨m', F', _⟩ := s'.F
    have e140 : h'.get? 140 = some (tabObj #[]) := by
      obtain ⟨o₁, ho, hg, _⟩ := s'.N (140, (· = tabObj #[])) (List.mem_append_right _ (List.mem_append_right _ (.head _)))
      have ho' : o₁ = tabObj #[] := ho
      exact ho' ▸ hg
    have eA : h'.get? a = some oA := by
      obtain ⟨o₁, ho, hg, _⟩ := s'.N (a, (· = oA)) (List.mem_append_right _ (List.mem_append_right _ (.tail _ (.head _))))
      have ho' : o₁ = oA := ho
      exact ho' ▸ hg
    refine fin f h' t' m' ?_ ⟨F'.ns, fun b o e => ?_, F.above⟩ (fun p hp => ?_) f' hf
    · cases f <;> exact q
    · by_cases hb : b = a
      · rw [hb] at e ⊢
        rw [ha] at e
        cases e
        exact eA
      · exact F'.keep b o (hideAll_get _ e (fun q => hb (List.mem_singleton.mp q)))
    · rw [List.mem_singleton.mp hp]
      exact ⟨e140, N140.2⟩
theorem law_holds : PySem.Challenge.rw_xw0171_01.Holds := hd (by
  (k_go0; (all_goals try k_fold))
  rename (Mine.hk.heap_1 _).In _ => X9
  rename Top _ _ _ _ _ _ => T9
  rename Fr _ _ _ _ => F9
  rename News _ _ _ _ => N9
  rename IntsAre _ _ => I9
  rename ¬ _ => c9
  refine lawEnter X9 T9 F9 lifted N9 I9 rfl (fun tl hs => ?_) PassesOwn.leaving (fun f' h' t' m' hq F' N' f'' hf => ?_)
  · have hz := Int.not_lt.mp c9
    dsimp only
    x_run
    refine JC.frame .nil (JC.more (stack_new (n := 0) fun S dS it x => ?_) (Eq.refl true) (Eq.refl true))
    dsimp only [List.cons_append, List.nil_append]
    have d0 : DtA [(x, dTup [.int (0 : Nat), .str (.ofString "unique")]), (S, dInst 426 dS)] [.ref x] (([] ++ (0, Kd.uni) :: ([] : List SRow)).map rowS) := .cons (.tup (.head _) (.cons .int (.cons .str .nil))) .nil
    have hS0 : (S, dInst 426 dS) ∈ [(x, dTup [.int (0 : Nat), .str (.ofString "unique")]), (S, dInst 426 dS)] ++ tl := .tail _ (.head _)
    x_run
    refine JC.frame (.cons 0 rfl (.cons 0 rfl .nil)) (JC.more (push_stk (R1 := []) (R2 := []) (parent := 0) (kp := .uni) (tag := 1) (kd := .sha) (List.mem_append_right _ hS0) d0 (fun p hp => List.mem_append_right _ (List.mem_append_left _ hp)) (fun _ h => nomatch h) (Nat.le_of_ble_eq_true rfl) (fun h => absurd rfl h) fun it1 vs1 nz1 d1 => ?_) (Eq.refl true) (Eq.refl true))
    dsimp only [List.cons_append, List.nil_append, List.eraseIdx]
    replace d1 : DtA _ vs1 (([] ++ (0, Kd.uni) :: [(1, Kd.sha)]).map rowS) := d1
    have hS1 := mApp (nz := nz1) hS0
    have z1 := d1.length
    x_run
    refine JC.frame (.cons 0 rfl (.cons 0 rfl .nil)) (JC.more (push_stk (R1 := []) (R2 := [(1, .sha)]) (parent := 0) (kp := .uni) (tag := 2) (kd := .res) (List.mem_append_right _ hS1) d1 (fun p hp => List.mem_append_right _ (List.mem_append_left _ hp)) (fun r h => (by rw [List.mem_singleton.mp h]; decide)) (by rw [z1]; exact Nat.le_of_ble_eq_true rfl) (fun _ => by decide) fun it2 vs2 nz2 d2 => ?_) (Eq.refl true) (Eq.refl true))
    dsimp only [List.cons_append, List.nil_append, List.eraseIdx]
    replace d2 : DtA _ vs2 (([] ++ (0, Kd.uni) :: [(1, Kd.sha), (2, Kd.res)]).map rowS) := d2
    have hS2 := mApp (nz := nz2) hS1
    have z2 := d2.length
    x_run
    refine JC.frame .nil (JC.more (told_spec fun fzT => ?_) (Eq.refl true) (Eq.refl true))
    dsimp only [List.cons_append, List.nil_append, List.eraseIdx]
    x_run
    refine JE.dictK (R := [(0, .uni), (1, .sha), (2, .res)]) (.cons 0 .uni rfl rfl (.cons 1 .sha rfl rfl (.cons 2 .res rfl rfl .nil))) (by decide) (by decide) (by decide) fun kA lo => ?_
    have hS3 := mApp (nz := fzT) hS2
    x_run
    refine JC.frame .nil (JC.more (mayr_spec (many := 3) ⟨List.mem_append_right _ hS3, mAt 2 rfl⟩ (mAt 1 rfl) d2 (fun p hp => List.mem_append_right _ (List.mem_append_left _ (List.mem_append_right _ hp))) (by rw [z2]; exact Nat.le_of_ble_eq_true rfl) (mAt 0 rfl) lo (by decide) ?_) (Eq.refl true) (Eq.refl true))
    dsimp only [List.cons_append, List.nil_append]
    x_run
    refine JC.frame (.cons 1 rfl (.cons 1 rfl .nil)) (JC.more (push_stk (R1 := []) (R2 := [(1, .sha), (2, .res)]) (parent := 0) (kp := .uni) (tag := 3) (kd := .uni) (List.mem_append_right _ hS3) d2 (fun p hp => List.mem_append_right _ (List.mem_append_left _ (List.mem_append_right _ hp))) (fun r h => (by
      rcases List.mem_cons.mp h with rfl | h
      · decide
      · rw [List.mem_singleton.mp h]; decide)) (by rw [z2]; exact Nat.le_of_ble_eq_true rfl) (fun _ => by decide) fun it3 vs3 nz3 d3 => ?_) (Eq.refl true) (Eq.refl true))
    dsimp only [List.cons_append, List.nil_append, List.eraseIdx]
    replace d3 : DtA _ vs3 ([(0, Kd.uni), (3, Kd.uni)].map rowS) := d3
    have hS4 := mApp (nz := nz3) hS3
    have z3 := d3.length
    x_run
    refine JE.dictK (R := [(0, .uni), (3, .uni)]) (.cons 0 .uni rfl rfl (.cons 3 .uni rfl rfl .nil)) (by decide) (by decide) (by decide) fun kB lo2 => ?_
    x_run
    refine JC.frame .nil (JC.more (mayr_spec (many := 4) ⟨List.mem_append_right _ hS4, mAt 2 rfl⟩ (mAt 1 rfl) d3 (fun p hp => List.mem_append_right _ (List.mem_append_left _ ((List.mem_append.mp hp).elim (fun h => List.mem_append_left _ h) (fun h => List.mem_append_right _ (List.mem_append_right _ h))))) (by rw [z3]; exact Nat.le_of_ble_eq_true rfl) (mAt 0 rfl) lo2 (by decide) ?_) (Eq.refl true) (Eq.refl true))
    dsimp only [List.cons_append, List.nil_append]
    x_run
    refine JC.frame .nil (JC.more (pool_spec (hs.mono fun p hp => mTl hp) (by omega) fun D s0 s1 g0 g1 g2 => ?_) (Eq.refl true) (Eq.refl true))
    dsimp only [List.cons_append, List.nil_append, List.eraseIdx]
    x_run
    refine JC.frame (.cons 0 rfl .nil) (JC.more (scr_spec g0 g1 g2 fun s0' s1' fzS a0 a1 a2 => ?_) (Eq.refl true) (Eq.refl true))
    dsimp only [List.cons_append, List.nil_append, List.eraseIdx]
    refine AndQ.mk ?_
    x_run
    refine JC.frame (.cons 0 rfl .nil) (JC.more (stackr_spec a0 a1 a2 fun Wz fzZ => ?_) (Eq.refl true) (Eq.refl true))
    exact (show Vl.bool true = Vl.bool true from rfl)
  · cases f' with
    | ret v =>
      obtain ⟨u, rfl, iu⟩ := hf
      obtain rfl : v = .bool true := hq
      obtain rfl : u = .bool true := iu
      clear F9 N9
      dsimp only
      k_steps
      all_goals (try dsimp only)
      all_goals kc_close
    | next => cases (show Vl.none = Vl.bool true from hq)
    | brk => cases (show Vl.none = Vl.bool true from hq)
    | cont => cases (show Vl.none = Vl.bool true from hq))
end
end Mine
set_option maxHeartbeats 8000000 in
theorem PySem.Challenge.cw_xw0171_01_holds : PySem.Challenge.rw_xw0171_01.Holds := by
  exact Mine.law_holds
