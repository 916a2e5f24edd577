import PyProof.Rows.All
import Wide.All
import OpenK.AllK
import Wide.FinOn
import Lean
import PySem.Challenge.RW_pp0010_01
set_option maxHeartbeats 8000000
set_option Elab.async false
set_option maxRecDepth 100000
set_option genSizeOf false
set_option genInjectivity false
set_option bootstrap.genMatcherCode false
set_option linter.unusedVariables false
open PySem PySem.W PyProof.Rows PySem.Calls PySem.Spec
namespace Mine
abbrev row : OpenRow := OpenLaw.row PySem.Challenge.rw_pp0010_01
abbrev PP : Program := (OpenRow.toRowW row).1
local macro_rules | `(tactic| o_head $_) => `(tactic| assumption)
theorem mkK (h : row.Holds) : row.Holds := by k_head
end Mine
namespace Mine
noncomputable def o11 : Obj := ⟨.type "tuple", none, .seq #[] 0, #[]⟩
noncomputable def o12 : Obj := ⟨.none, none, .fields #[], #[]⟩
noncomputable def o13 : Obj := ⟨.type "code", none, .fields #[.str (Str.ofString "<module>") 182, .str (Str.ofString "<module>") 183, .str (Str.ofString "/claim/cut.py") 184, .int 1 0, .int 0 0, .int 0 0, .int 0 0, .int 0 0, .ref 11, .bool false,
  .int 181 0, .ref 12, .none, .none, .none, .none, .int 185 0, .int 1 0, .str (Str.ofString "/claim/cut.py") 186], #[]⟩
noncomputable def o14 : Obj := ⟨.type "frame", none, .plain, #[some (.ref 13), some (.ref 3), some (.ref 3), none, some (.str (Str.ofString "__main__") 164), none, some (.ref 0)]⟩
noncomputable def T15 (P : Params) : BT := BT.node (boot_o_0 P)
    (BT.node (boot_o_1 P)
      (BT.node (boot_o_3 P) (BT.node (boot_o_7 P) BT.nil BT.nil) (BT.node o11 BT.nil BT.nil))
      (BT.node (boot_o_5 P) (BT.node (boot_o_9 P) BT.nil BT.nil) (BT.node o13 BT.nil BT.nil)))
    (BT.node (boot_o_2 P)
      (BT.node (boot_o_4 P) (BT.node (boot_o_8 P) BT.nil BT.nil) (BT.node o12 BT.nil BT.nil))
      (BT.node (boot_o_6 P) (BT.node (boot_o_10 P) BT.nil BT.nil) (BT.node o14 BT.nil BT.nil)))
noncomputable def env41 : Env := { scope := PP.main.scope, locals := mainNs, globals := mainNs, cells := [], code := .ref 13, frame := some 14 }
noncomputable def p0 : Pos := ⟨0, 0, 0, 0⟩
noncomputable def pZ : Pos := ⟨335, 0, 352, 24⟩
noncomputable def cE : Code := .body (behindTheImports PP) env41
noncomputable def st15 (w : World) (os : OsState) : SharedT := ⟨T15 w.params, 15, {}, #[], {}, 187, os⟩
noncomputable def boot0 (w : World) (os : OsState) : Shared := ⟨boot_heap w.params, #[], boot_drawn, boot_toks, os⟩
theorem pre : ∀ w : World, (fun os => PySem.W.Fast.tw15667345088766844465 PySem.W.Fast.tw14364793385576792824 PP w 11 (some (.ref 6)) 12 (boot0 w os) (topStub PP)) =
    fun os => some ((st15 w os).abs, ⟨PySem.W.Fast.tw11892475500146522536 PySem.W.Fast.tw14364793385576792824 cE, cE, p0, [topFrame p0]⟩) := by intro w; kernel_rfl
theorem block : ∀ w : World, (fun os => PySem.W.Fast.tw14374325043358763698 PySem.W.Fast.tw14364793385576792824 PP w 11 (some (.ref 6)) 1 1 (st15 w os).abs (blockOf (behindTheImports PP) env41 cE p0 [topFrame p0])) =
    fun os => some (.next, (st15 w os).abs, cE, p0) := by intro w; kernel_rfl
noncomputable def view0 : Program := view PP [1, 2, 3, 5, 6, 8, 10, 11, 12, 14, 15, 16, 17, 18, 20, 22, 24, 25, 27, 29, 30, 31, 32, 33, 34, 35, 36, 37, 38, 39, 41, 42, 43, 44, 45, 46, 48, 49, 50, 51, 52, 53, 54, 55, 56, 57]
@[reducible] noncomputable def lo : List Str := [Str.ofString "Limits"]
noncomputable def as : List Addr := [2, 3, 15, 17, 18, 20, 21, 22, 24, 25, 27, 28, 29, 36, 38, 39, 41, 42, 43, 44, 45, 46, 49, 56, 58, 59, 61, 62,
          63, 64, 65, 68, 70, 71, 73, 74, 75, 77, 78, 80, 81, 82, 85, 86, 87, 89, 90, 92, 93, 94, 96, 97, 99, 100, 101,
          104, 105, 106, 109, 110, 111, 113, 114, 116, 117, 118, 120, 121, 123, 124, 132, 134, 135, 137, 138, 139, 140,
          141, 142, 143, 153, 155, 156, 158, 159, 160, 161, 162, 163, 164, 174, 176, 177, 179, 180, 181, 182, 183, 184,
          185, 188, 190, 191, 193, 194, 202, 203, 205, 206, 208, 209, 210, 211, 212, 213, 214, 217, 225, 227, 228, 230,
          231, 232, 233, 234, 235, 236, 239, 241, 242, 244, 245, 246, 248, 249, 251, 252, 253, 255, 256, 258, 259, 260,
          262, 263, 265, 266, 267, 270, 271, 272, 274, 275, 277, 278, 279, 281, 282, 284, 285, 286, 288, 289, 291, 292,
          293, 295, 296, 298, 299, 307, 309, 310, 312, 313, 314, 315, 316, 317, 318, 328, 330, 331, 333, 334, 335, 336,
          337, 338, 339, 342, 344, 345, 347, 348, 349, 351, 352, 354, 355, 356, 358, 359, 361, 362, 363, 365, 366, 368,
          369, 370, 371, 372, 374, 375, 377, 378, 379, 381, 382, 384, 385, 386, 388, 389, 391, 392, 393, 395, 396, 398,
          399, 400, 403, 404, 405, 407, 408, 410, 411, 412, 415, 416, 417, 420, 421]
theorem as_eq : ∀ P, as = (mkK.heap_1 P).map (·.1) := by intro P; kernel_rfl
@[reducible] noncomputable def Hk : Hook := kHook mkK.heap_1 as as_eq
noncomputable def run (w : World) (os : OsState) : Option (Flow × SharedT × Code × Pos) :=
  PySem.W.Fast.tw10110043849684766642 PySem.W.Fast.tw14364793385576792824 PP w 11 (some (.ref 6)) 1 4000 (st15 w os) (piecesOf (behindTheImports PP) env41 cE p0 [topFrame p0])
@[reducible] noncomputable def Xt0 : Shared → Bool := fun s => xlAt view0 [] s && recOk (RowW.records (OpenRow.toRowW row)) s
noncomputable def mods : List Str := importedModules PP.main.body
noncomputable def lk1 (w : World) (s : Shared) : Bool := staticsOk (PySem.W.Fast.tw5923862056798008813 PP.main.body) (boot_heap w.params) s.heap && namesBound PP s.heap && gensDone s && laidKept (boot_heap w.params) s.heap
noncomputable def seeAll (w : World) (s : Shared) := (lk1 w s, (Hk.obs s : List (Option Obj)), PySem.W.Fast.tw4187177175401517315 view0 lo (PySem.W.Fast.tw5923862056798008813 PP.main.body) Xt0 true s)
theorem tall : ∀ w : World, (fun os => (run w os).map fun r => (r.1, r.2.2, seeAll w r.2.1.abs)) = fun _ => some (Flow.next, (cE, pZ), true, (Hk.val w : List (Option Obj)), openGood view0 lo) := by intro w; kernel_rfl
theorem run_ok (w : World) (os : OsState) : ∃ s : SharedT, segRunT treeTable PP w 11 (some (.ref 6)) 1 4000 (st15 w os) (piecesOf (behindTheImports PP) env41 cE p0 [topFrame p0]) = some (.next, s, cE, pZ) ∧
    lk1 w s.abs = true ∧ Hk.obs s.abs = Hk.val w ∧ openSeen view0 lo (importedModules PP.main.body) Xt0 true s.abs = openGood view0 lo := by
  have h := congrFun (tall w) os
  obtain ⟨⟨f, s, c, p⟩, e, q⟩ := Option.map_eq_some_iff.mp h
  have q0 : (f, (c, p), seeAll w s.abs) = (Flow.next, (cE, pZ), true, (Hk.val w : List (Option Obj)), openGood view0 lo) := q
  rw [Prod.mk.injEq, Prod.mk.injEq, Prod.mk.injEq] at q0
  obtain ⟨rfl, ⟨rfl, rfl⟩, q1⟩ := q0
  refine ⟨s, ?_, congrArg Prod.fst q1, congrArg (fun x => x.2.1) q1, ?_⟩
  · rw [PySem.W.Fast.te10110043849684766642, PySem.W.Fast.te14364793385576792824]; exact e
  · rw [PySem.W.Fast.te4187177175401517315, PySem.W.Fast.te5923862056798008813]; exact congrArg (fun x => x.2.2) q1
theorem top_fin (w : World) (s : SharedT) : topRun treeTable PP w 11 (some (.ref 6)) 2 s.abs ⟨doneF .next, cE, pZ, [topFrame p0]⟩ = some s.abs := by rfl
theorem top_ok (w : World) (os : OsState) : ∃ s : Shared, topRun treeTable PP w 11 (some (.ref 6)) (12 + (1 + (4000 + 2))) ⟨boot_heap w.params, #[], boot_drawn, boot_toks, os⟩ (topStub PP) = some s ∧
    lk1 w s = true ∧ Hk.obs s = Hk.val w ∧ openSeen view0 lo (importedModules PP.main.body) Xt0 true s = openGood view0 lo := by
  obtain ⟨s, e, l⟩ := run_ok w os
  refine ⟨s.abs, ?_, l⟩
  have e1 := segRun_of e
  have h1 := congrFun (pre w) os
  have h2 := congrFun (block w) os
  rw [← PySem.W.Fast.te15667345088766844465, ← PySem.W.Fast.te14364793385576792824, ← PySem.W.Fast.te11892475500146522536] at h1
  rw [← PySem.W.Fast.te14374325043358763698, ← PySem.W.Fast.te14364793385576792824] at h2
  have h3 := piece_app (rest := []) (q := p0) e1 (piece_nil (top_fin w s))
  rw [List.append_nil] at h3
  have h4 := piece_block (q := p0) h2 h3
  exact go_top h1 h4
theorem size0 : ∀ w : World, ((boot_heap w.params).isNs mainGlobals && (#[] : Array GenState).size == 0, (boot_heap w.params).objs.size, (boot_heap w.params).nsMap mainGlobals "__annotations__") = (true, 11, some (Value.ref 6)) := by intro w; kernel_rfl
theorem open0 (w : World) : (fencedOpening treeTable PP w 6786).map (fun s => (s.heap, s.gens, s.drawn, s.toks)) = some (boot_heap w.params, #[], boot_drawn, boot_toks) :=
  boot_open (p := PP) (by kernel_rfl) (by decide) (fun s => by kernel_rfl) w
theorem left_of {p q : Program} {loose : List Str} {Xt : Shared → Bool} {α : Type} {Yf : Shared → α} {Ya : World → α} {N : Nat} {g0 : Bool} {H₀ : Params → Heap} {gs₀ : Array GenState} {d₀ : Drawn} {k₀ : Nat} {m₀ : Nat} {ann : Option Value} {M : Nat}
    (open_ : ∀ w : World, (fencedOpening treeTable p w N).map (fun s => (s.heap, s.gens, s.drawn, s.toks)) = some (H₀ w.params, gs₀, d₀, k₀))
    (size : ∀ w : World, ((H₀ w.params).isNs mainGlobals && gs₀.size == 0, (H₀ w.params).objs.size, (H₀ w.params).nsMap mainGlobals "__annotations__") = (true, m₀, ann))
    (le : Nat.ble M N = true)
    (go : ∀ (w : World) (os : OsState), ∃ s₁ : Shared, topRun treeTable p w m₀ ann M ⟨H₀ w.params, gs₀, d₀, k₀, os⟩ (topStub p) = some s₁ ∧
      (staticsOk (importedModules p.main.body) (H₀ w.params) s₁.heap && namesBound p s₁.heap && gensDone s₁ && laidKept (H₀ w.params) s₁.heap) = true ∧ Yf s₁ = Ya w ∧ openSeen q loose (importedModules p.main.body) Xt g0 s₁ = openGood q loose) : LeftO p q loose Xt Yf Ya N g0 := fun w => by
  obtain ⟨⟨h, gs, d, k, os⟩, e, e'⟩ := Option.map_eq_some_iff.mp (open_ w)
  obtain ⟨rfl, rfl, rfl, rfl⟩ : h = H₀ w.params ∧ gs = gs₀ ∧ d = d₀ ∧ k = k₀ := by simpa using e'
  obtain ⟨z1, z2, z3⟩ : _ ∧ _ ∧ _ := by simpa only [Prod.mk.injEq] using size w
  obtain ⟨s₁, r, l1, l2, l3⟩ := go w os
  have r := topRun_mono (N - M) _ _ _ _ r
  rw [show M + (N - M) = N by have := Nat.le_of_ble_eq_true le; omega] at r
  have t : topFrom treeTable p w N ⟨H₀ w.params, gs, d, k, os⟩ = some s₁ := by
    unfold topFrom
    dsimp only
    rw [z1, z2, z3, r]
    show (match staticsOk (importedModules p.main.body) (H₀ w.params) s₁.heap && namesBound p s₁.heap && gensDone s₁ && laidKept (H₀ w.params) s₁.heap with | true => some s₁ | false => none) = _
    rw [l1]
  unfold openEnds
  rw [e]
  show (topFrom treeTable p w N _).map _ = _
  rw [t]
  exact congrArg some (Prod.ext l3 l2)
theorem left : LeftO PP view0 lo Xt0 Hk.obs Hk.val 6786 := left_of (M := 12 + (1 + (4000 + 2))) open0 size0 (by decide) fun w os => by
  obtain ⟨s, r, l1, l2, l3⟩ := top_ok w os
  exact ⟨s, r, (by have q := l1; unfold lk1 at q; rw [← PySem.W.Fast.te5923862056798008813] at q; exact q), l2, l3⟩
end Mine
namespace Mine
noncomputable def oE {α : Type} (o : Option α) (A : α → Prop) (B : Prop) : Prop := @Option.rec α (fun _ => Prop) B A o
noncomputable def oB {α : Type} (o : Option α) (A : α → Prop) : Prop := @Option.rec α (fun _ => Prop) False A o
noncomputable def bE (b : Bool) (A B : Prop) : Prop := @Bool.rec (fun _ => Prop) B A b
noncomputable def bB (b : Bool) (A : Prop) : Prop := @Bool.rec (fun _ => Prop) False A b
noncomputable def oO {α β : Type} (o : Option α) (A : α → Option β) : Option β := @Option.rec α (fun _ => Option β) none A o
noncomputable def oA {α β : Type} (o : Option α) (A : α → Option β) (B : Option β) : Option β := @Option.rec α (fun _ => Option β) B A o
noncomputable def bO {β : Type} (b : Bool) (A : Option β) : Option β := @Bool.rec (fun _ => Option β) none A b
noncomputable def oT {α : Type} (o : Option α) (A : α → Bool) : Bool := @Option.rec α (fun _ => Bool) false A o
theorem atom {P : Prop} (h : ∀ G : Prop, (P → G) → G) : P := h P id
theorem nS {α : Type} {x : α} {G : Prop} (h : none = some x) : G := nomatch h
section
variable {α β : Type} {o : Option α} {b : Bool} {A : α → Prop} {B C G : Prop} {D : α → Option β} {y : β} {F : Option β} {H : α → Bool}
theorem oE_el (h : oE o A B) (k : ∀ x, o = some x → A x → G) (j : B → G) : G := by
  cases o with
  | none => exact j h
  | some x => exact k x rfl h
theorem oE_el0 (h : oE o A B) (k : ∀ x, o = some x → A x → G) (j : o = none → B → G) : G := by
  cases o with
  | none => exact j rfl h
  | some x => exact k x rfl h
theorem oB_el (h : oB o A) (k : ∀ x, o = some x → A x → G) : G := by
  cases o with
  | none => exact h.elim
  | some x => exact k x rfl h
theorem bE_el (h : bE b C B) (k : b = true → C → G) (j : b = false → B → G) : G := by
  cases b with
  | true => exact k rfl h
  | false => exact j rfl h
theorem bB_el (h : bB b C) (k : b = true → C → G) : G := by
  cases b with
  | true => exact k rfl h
  | false => exact h.elim
theorem bB_le {m n : Nat} (h : bB (Nat.ble m n) C) (k : m ≤ n → C → G) : G := bB_el h fun e => k (Nat.le_of_ble_eq_true e)
theorem oO_el (h : oO o D = some y) (k : ∀ x, o = some x → D x = some y → G) : G := by
  cases o with
  | none => exact nS h
  | some x => exact k x rfl h
theorem oA_el (h : oA o D F = some y) (k : ∀ x, o = some x → D x = some y → G) (j : F = some y → G) : G := by
  cases o with
  | none => exact j h
  | some x => exact k x rfl h
theorem bO_el (h : bO b F = some y) (k : b = true → F = some y → G) : G := by
  cases b with
  | true => exact k rfl h
  | false => exact nS h
theorem oT_el (h : oT o H = true) (k : ∀ x, o = some x → H x = true → G) : G := by
  cases o with
  | none => exact Bool.noConfusion h
  | some x => exact k x rfl h
theorem and_el {a b : Bool} (h : (a && b) = true) (k : a = true → b = true → G) : G := by
  cases a with
  | true => exact k rfl h
  | false => exact Bool.noConfusion h
theorem not_el (h : (!b) = true) (k : b = false → G) : G := by
  cases b with
  | true => exact Bool.noConfusion h
  | false => exact k rfl
end
inductive V where
  | none | bool (b : Bool) | sb (b : Bool) | int (i : Int) | si (i : Int) | str (s : Str) | ss (s : Str) | ref (a : Nat) | k (v : Value) | either (b : Bool) (x y : Nat)
inductive O where
  | inst (c : Addr) (d : Nat)
  | dict (kvs : List (Str × V))
  | odict (kvs : List (Str × Str))
  | idict (kvs : List (Int × V))
  | list (xs : List V)
  | tup (xs : List V)
  | cell (v : Option V)
  | ints (ns : List Int)
  | pdict (kvs : List (Str × V)) (abs : List Str) (b : Nat)
  | pidict (kvs : List (Int × V))
  | cdict (B n : Nat)
  | tlist (ss : List Str)
  | olist (xs : List V)
  | exc (d : Nat)
abbrev Rho := Nat → Option Addr
noncomputable def Rho.le (ρ ρ' : Rho) : Prop := ∀ a ad, ρ a = some ad → ρ' a = some ad
theorem Rho.le_refl (ρ : Rho) : ρ.le ρ := fun _ _ h => h
theorem Rho.le.trans' {ρ ρ' ρ'' : Rho} (h : ρ.le ρ') (h' : ρ'.le ρ'') : ρ.le ρ'' := fun a ad e => h' a ad (h a ad e)
theorem Rho.le_trans {ρ ρ' ρ'' : Rho} (h : ρ.le ρ') (h' : ρ'.le ρ'') : ρ.le ρ'' := fun a ad e => h' a ad (h a ad e)
noncomputable def Den (ρ : Rho) : V → Value → Prop
  | .none, v => v = .none
  | .bool b, v => v = .bool b
  | .sb b, v => v = .bool b
  | .int i, v => ∃ t, v = .int i t
  | .si i, v => ∃ t, v = .int i t
  | .str s, v => ∃ t, v = .str s t
  | .ss s, v => ∃ t, v = .str s t
  | .ref a, v => ∃ ad, ρ a = some ad ∧ v = .ref ad
  | .k u, v => v = u
  | .either b x y, v => ∃ ad, ρ (cond b x y) = some ad ∧ v = .ref ad
theorem Den.mono {ρ ρ' : Rho} (h : ρ.le ρ') {x : V} {v : Value} (d : Den ρ x v) : Den ρ' x v := by
  cases x with
  | ref a => exact d.elim fun ad q => ⟨ad, h _ _ q.1, q.2⟩
  | either b x y => exact d.elim fun ad q => ⟨ad, h _ _ q.1, q.2⟩
  | _ => exact d
inductive All2 {α β : Type} (R : α → β → Prop) : List α → List β → Prop
  | nil : All2 R [] []
  | cons {a b as bs} : R a b → All2 R as bs → All2 R (a :: as) (b :: bs)
theorem All2.mono {α β : Type} {R R' : α → β → Prop} (h : ∀ a b, R a b → R' a b) {as : List α} {bs : List β} (x : All2 R as bs) : All2 R' as bs := by
  induction x with
  | nil => exact .nil
  | cons x _ ih => exact .cons (h _ _ x) ih
theorem All2.length {α β : Type} {R : α → β → Prop} {as : List α} {bs : List β} (h : All2 R as bs) : as.length = bs.length := by
  induction h with
  | nil => rfl
  | cons _ _ ih => simp [ih]
theorem All2.append {α β : Type} {R : α → β → Prop} {as as' : List α} {bs bs' : List β} (h : All2 R as bs) (h' : All2 R as' bs') : All2 R (as ++ as') (bs ++ bs') := by
  induction h with
  | nil => exact h'
  | cons x _ ih => exact .cons x ih
noncomputable def Ent (P : Params) (ρ : Rho) (p : Str × V) (e : DictEntry) : Prop := (∃ t, e.key = .str p.1 t) ∧ e.hash = PyData.keyHash P p.1 ∧ Den ρ p.2 e.val
noncomputable def IEnt (ρ : Rho) (p : Int × V) (e : DictEntry) : Prop := (∃ t, e.key = .int p.1 t) ∧ e.hash = hashInt p.1 ∧ Den ρ p.2 e.val
theorem rec_b {α : Type} (x y : α) (b : Bool) : @Bool.rec (fun _ => α) x y b = match b with | true => y | false => x := by cases b <;> rfl
noncomputable def lkB {β α : Type} (t : β → Bool) (l : List (β × α)) : Option α := @List.rec (β × α) (fun _ => Option α) none (fun p _ ih => @Bool.rec (fun _ => Option α) ih (some p.2) (t p.1)) l
noncomputable def lkS {α : Type} (l : List (Str × α)) (x : Str) : Option α := lkB (fun y => Fast.sEq y x) l
noncomputable def lkI {α : Type} (l : List (Int × α)) (x : Int) : Option α := lkB (fun y => decide (y = x)) l
theorem lkS_cons {α : Type} (p : Str × α) (r : List (Str × α)) (x : Str) : lkS (p :: r) x = match Fast.sEq p.1 x with | true => some p.2 | false => lkS r x := rec_b _ _ _
theorem lkI_cons {α : Type} (p : Int × α) (r : List (Int × α)) (x : Int) : lkI (p :: r) x = match decide (p.1 = x) with | true => some p.2 | false => lkI r x := rec_b _ _ _
section
variable {β α γ : Type} {t : β → Bool} {p : β × α} {r l : List (β × α)} {v : α} {x : β} {G : Prop}
theorem lkB_t (h : t p.1 = true) : lkB t (p :: r) = some p.2 := congrArg (@Bool.rec (fun _ => Option α) (lkB t r) (some p.2)) h
theorem lkB_f (h : t p.1 = false) : lkB t (p :: r) = lkB t r := congrArg (@Bool.rec (fun _ => Option α) (lkB t r) (some p.2)) h
theorem bool_el {b : Bool} (k : b = true → G) (j : b = false → G) : G := by
  cases b with
  | true => exact k rfl
  | false => exact j rfl
theorem lkB_hd (h : lkB t (p :: r) = some v) (k : t p.1 = true → p.2 = v → G) (j : t p.1 = false → lkB t r = some v → G) : G :=
  bool_el (fun e => k e (Option.some.inj ((lkB_t e).symm.trans h))) fun e => j e ((lkB_f e).symm.trans h)
theorem lkB_hdn (h : lkB t (p :: r) = none) (k : t p.1 = false → lkB t r = none → G) : G :=
  bool_el (fun e => nS (h.symm.trans (lkB_t e))) fun e => k e ((lkB_f e).symm.trans h)
noncomputable def EqT (t : β → Bool) (x : β) : Prop := ∀ y, t y = true ↔ y = x
theorem lkB_mem (e : EqT t x) (h : lkB t l = some v) : (x, v) ∈ l := by
  induction l with
  | nil => exact nS h
  | cons p r ih => exact lkB_hd h (fun a b => (show p = (x, v) from Prod.ext ((e _).mp a) b) ▸ .head _) fun _ b => .tail _ (ih b)
theorem lkB_none (e : EqT t x) (h : lkB t l = none) : x ∉ l.map (·.1) := by
  induction l with
  | nil => exact List.not_mem_nil
  | cons p r ih => exact lkB_hdn h fun a b hm => (List.mem_cons.mp hm).elim (fun q => Bool.noConfusion (a.symm.trans ((e _).mpr q.symm))) (ih b)
theorem lkB_map {f : α → γ} : lkB t (l.map fun p => (p.1, f p.2)) = (lkB t l).map f := by
  induction l with
  | nil => rfl
  | cons p r ih =>
    show lkB t ((p.1, f p.2) :: r.map fun p => (p.1, f p.2)) = _
    refine bool_el (b := t p.1) (fun e => ?_) fun e => ?_
    · rw [lkB_t (p := (p.1, f p.2)) e, lkB_t e]; rfl
    · rw [lkB_f (p := (p.1, f p.2)) e, lkB_f e]; exact ih
noncomputable def ptB (t : β → Bool) (l : List (β × α)) (x : β) (v : α) : List (β × α) := @List.rec (β × α) (fun _ => List (β × α)) [(x, v)] (fun p r ih => @Bool.rec (fun _ => List (β × α)) (p :: ih) ((p.1, v) :: r) (t p.1)) l
theorem ptB_t (h : t p.1 = true) : ptB t (p :: r) x v = (p.1, v) :: r := congrArg (@Bool.rec (fun _ => List (β × α)) (p :: ptB t r x v) ((p.1, v) :: r)) h
theorem ptB_f (h : t p.1 = false) : ptB t (p :: r) x v = p :: ptB t r x v := congrArg (@Bool.rec (fun _ => List (β × α)) (p :: ptB t r x v) ((p.1, v) :: r)) h
theorem ptB_map {f : α → γ} : ptB t (l.map fun p => (p.1, f p.2)) x (f v) = (ptB t l x v).map fun p => (p.1, f p.2) := by
  induction l with
  | nil => rfl
  | cons p r ih =>
    show ptB t ((p.1, f p.2) :: r.map fun p => (p.1, f p.2)) x (f v) = _
    refine bool_el (b := t p.1) (fun e => ?_) fun e => ?_
    · rw [ptB_t (p := (p.1, f p.2)) e, ptB_t e]; rfl
    · rw [ptB_f (p := (p.1, f p.2)) e, ptB_f e, ih]; rfl
theorem lkB_pt (e : EqT t x) : lkB t (ptB t l x v) = some v := by
  induction l with
  | nil => exact lkB_t ((e x).mpr rfl)
  | cons p r ih => exact bool_el (b := t p.1) (fun q => (congrArg (lkB t) (ptB_t q)).trans (lkB_t q)) fun q => (congrArg (lkB t) (ptB_f q)).trans ((lkB_f q).trans ih)
theorem lkB_pt_ne {t' : β → Bool} {x' : β} (e : EqT t x) (e' : EqT t' x') (ne : x ≠ x') : lkB t' (ptB t l x v) = lkB t' l := by
  have off : ∀ y, t y = true → t' y = false := fun y h => bool_el (fun q => (ne (((e _).mp h).symm.trans ((e' _).mp q))).elim) id
  induction l with
  | nil => exact lkB_f (p := (x, v)) (off x ((e x).mpr rfl))
  | cons p r ih =>
    refine bool_el (b := t p.1) (fun q => ?_) fun q => ?_
    · rw [ptB_t q, lkB_f (p := (p.1, v)) (off _ q), lkB_f (off _ q)]
    · rw [ptB_f q]
      exact bool_el (b := t' p.1) (fun z => (lkB_t z).trans (lkB_t z).symm) fun z => (lkB_f z).trans (ih.trans (lkB_f z).symm)
theorem ptB_len : (ptB t l x v).length = if (lkB t l).isSome = true then l.length else l.length + 1 := by
  induction l with
  | nil => rfl
  | cons p r ih =>
    refine bool_el (b := t p.1) (fun q => ?_) fun q => ?_
    · rw [ptB_t q, lkB_t q]; rfl
    · rw [ptB_f q, lkB_f q]
      show (ptB t r x v).length + 1 = if (lkB t r).isSome = true then r.length + 1 else r.length + 1 + 1
      rw [ih]
      cases lkB t r <;> rfl
theorem ptB_mem {y : β} : y ∈ (ptB t l x v).map (·.1) → y = x ∨ y ∈ l.map (·.1) := by
  induction l with
  | nil => exact fun h => .inl (List.mem_singleton.mp h)
  | cons p r ih =>
    refine bool_el (b := t p.1) (fun q => ?_) fun q => ?_
    · rw [ptB_t q]; exact .inr
    · rw [ptB_f q]; exact fun h => (List.mem_cons.mp h).elim (fun h => .inr (h ▸ .head _)) fun h => (ih h).imp id (.tail _)
theorem ptB_nd (e : EqT t x) (hn : (l.map (·.1)).Nodup) : ((ptB t l x v).map (·.1)).Nodup := by
  induction l with
  | nil => exact List.nodup_cons.mpr ⟨List.not_mem_nil, List.nodup_nil⟩
  | cons p r ih =>
    refine bool_el (b := t p.1) (fun q => ?_) fun q => ?_
    · rw [ptB_t q]; exact hn
    · rw [ptB_f q]
      have hn := List.nodup_cons.mp hn
      exact List.nodup_cons.mpr ⟨fun hm => (ptB_mem hm).elim (fun z => Bool.noConfusion (q.symm.trans ((e _).mpr z))) hn.1, ih hn.2⟩
end
theorem strT (x : Str) : EqT (fun y => Fast.sEq y x) x := fun _ => Fast.sEq_iff
theorem intT (x : Int) : EqT (fun y => decide (y = x)) x := fun _ => decide_eq_true_iff
theorem natT (x : Nat) : EqT (fun y => Nat.beq y x) x := fun _ => ⟨Nat.eq_of_beq_eq_true, fun h => h ▸ Nat.beq_refl _⟩
noncomputable def memS (l : List Str) (x : Str) : Bool := @List.rec Str (fun _ => Bool) false (fun p _ ih => @Bool.rec (fun _ => Bool) ih true (Fast.sEq p x)) l
theorem memS_cons (p : Str) (r : List Str) (x : Str) : memS (p :: r) x = match Fast.sEq p x with | true => true | false => memS r x := rec_b _ _ _
noncomputable def tkv (kvs : List (Str × Str)) : List (Str × V) := kvs.map fun p => (p.1, .ss p.2)
noncomputable def kkv {α : Type} (ws : List (α × Value)) : List (α × V) := ws.map fun p => (p.1, .k p.2)
inductive DictIs (P : Params) (ρ : Rho) (kvs : List (Str × V)) (o : Obj) : Prop
  | mk (es : List DictEntry) (n : Nat) (e : o = dictOf es n) (al : All2 (Ent P ρ) kvs es) (nd : (kvs.map (·.1)).Nodup) (le : kvs.length ≤ 60)
inductive IDictIs (ρ : Rho) (kvs : List (Int × V)) (o : Obj) : Prop
  | mk (es : List DictEntry) (n : Nat) (e : o = dictOf es n) (al : All2 (IEnt ρ) kvs es) (nd : (kvs.map (·.1)).Nodup) (le : kvs.length ≤ 60)
inductive ListIs (ρ : Rho) (xs : List V) (o : Obj) : Prop
  | mk (vs : Array Value) (n : Nat) (e : o = W.listOf vs n) (al : All2 (Den ρ) xs vs.toList)
inductive TupIs (ρ : Rho) (xs : List V) (o : Obj) : Prop
  | mk (vs : Array Value) (n : Nat) (e : o = ⟨.type "tuple", none, .seq vs n, #[]⟩) (al : All2 (Den ρ) xs vs.toList)
inductive PDictIs (P : Params) (ρ : Rho) (kvs : List (Str × V)) (abs : List Str) (b : Nat) (o : Obj) : Prop
  | mk (ws : List (Str × Value)) (d : DictIs P ρ (kkv ws) o) (kn : ∀ f v, lkS kvs f = some v → ∃ u, lkS ws f = some u ∧ Den ρ v u) (ab : ∀ f, memS abs f = true → lkS kvs f = none → lkS ws f = none) (le : ws.length ≤ b)
inductive PIDictIs (ρ : Rho) (kvs : List (Int × V)) (o : Obj) : Prop
  | mk (ws : List (Int × Value)) (d : IDictIs ρ (kkv ws) o) (kn : ∀ f v, lkI kvs f = some v → ∃ u, lkI ws f = some u ∧ Den ρ v u)
inductive CDictIs (P : Params) (ρ : Rho) (B n : Nat) (o : Obj) : Prop
  | mk (ws : List (Str × Value)) (d : DictIs P ρ (kkv ws) o) (kn : ∀ f u, lkS ws f = some u → ∃ (i : Int) (t : Tok), u = .int i t ∧ 0 ≤ i ∧ i ≤ B) (le : ws.length ≤ n)
inductive ExcIs (ρ : Rho) (d : Nat) (o : Obj) : Prop
  | mk (dx : Addr) (e : ρ d = some dx) (c : o.cls = .ref 65) (n : notCls o = true) (q : o.dict = some dx)
noncomputable def CelV (ρ : Rho) (v : Option V) (c : Option Value) : Prop := @Option.rec V (fun _ => Prop) True (fun x => ∃ u, c = some u ∧ Den ρ x u) v
noncomputable def ObjIs (P : Params) (ρ : Rho) (x : O) (o : Obj) : Prop := @O.rec (fun _ => Prop) (fun c d => ∃ dx, ρ d = some dx ∧ o = instObj c dx) (fun kvs => DictIs P ρ kvs o) (fun kvs => DictIs P ρ (tkv kvs) o) (fun kvs => IDictIs ρ kvs o)
  (fun xs => ListIs ρ xs o) (fun xs => TupIs ρ xs o) (fun v => ∃ c, o.data = .cell c ∧ CelV ρ v c) (fun ns => ∃ vs, o = W.listOf vs.toArray 0 ∧ IntsAre vs ns) (fun kvs abs b => PDictIs P ρ kvs abs b o) (fun kvs => PIDictIs ρ kvs o)
  (fun B n => CDictIs P ρ B n o) (fun ss => ∃ vs n, o = W.listOf vs n ∧ StrsAre vs.toList ss) (fun xs => ListIs ρ xs o) (fun d => ExcIs ρ d o) x
theorem Ent.mono {P : Params} {ρ ρ' : Rho} (h : ρ.le ρ') {p : Str × V} {e : DictEntry} (x : Ent P ρ p e) : Ent P ρ' p e := ⟨x.1, x.2.1, x.2.2.mono h⟩
theorem IEnt.mono {ρ ρ' : Rho} (h : ρ.le ρ') {p : Int × V} {e : DictEntry} (x : IEnt ρ p e) : IEnt ρ' p e := ⟨x.1, x.2.1, x.2.2.mono h⟩
section
variable {P : Params} {ρ ρ' : Rho} {o : Obj}
theorem DictIs.mono (h : ρ.le ρ') {kvs : List (Str × V)} (x : DictIs P ρ kvs o) : DictIs P ρ' kvs o := x.rec fun es n q a b c => ⟨es, n, q, a.mono fun _ _ x => x.mono h, b, c⟩
theorem IDictIs.mono (h : ρ.le ρ') {kvs : List (Int × V)} (x : IDictIs ρ kvs o) : IDictIs ρ' kvs o := x.rec fun es n q a b c => ⟨es, n, q, a.mono fun _ _ x => x.mono h, b, c⟩
theorem ListIs.mono (h : ρ.le ρ') {xs : List V} (x : ListIs ρ xs o) : ListIs ρ' xs o := x.rec fun vs n q a => ⟨vs, n, q, a.mono fun _ _ x => x.mono h⟩
theorem kn_mono {β : Type} {t : β → Bool} {kvs : List (β × V)} {ws : List (β × Value)} (h : ρ.le ρ') (k : ∀ v, lkB t kvs = some v → ∃ u, lkB t ws = some u ∧ Den ρ v u) : ∀ v, lkB t kvs = some v → ∃ u, lkB t ws = some u ∧ Den ρ' v u := fun v e => (k v e).elim fun u q => ⟨u, q.1, q.2.mono h⟩
theorem ObjIs.mono (h : ρ.le ρ') {x : O} : ObjIs P ρ x o → ObjIs P ρ' x o := by
  cases x with
  | inst c d => exact fun e => e.elim fun dx q => ⟨dx, h _ _ q.1, q.2⟩
  | dict kvs => exact DictIs.mono h
  | odict kvs => exact DictIs.mono h
  | idict kvs => exact IDictIs.mono h
  | list xs => exact ListIs.mono h
  | tup xs => exact fun x => x.rec fun vs n q a => ⟨vs, n, q, a.mono fun _ _ x => x.mono h⟩
  | cell v => cases v with
    | none => exact id
    | some v => exact fun e => e.elim fun c q => ⟨c, q.1, q.2.elim fun u z => ⟨u, z.1, z.2.mono h⟩⟩
  | «ints» ns => exact id
  | pdict kvs abs b => exact fun x => x.rec fun ws d k a l => ⟨ws, d.mono h, fun f => kn_mono h (k f), a, l⟩
  | pidict kvs => exact fun x => x.rec fun ws d k => ⟨ws, d.mono h, fun f => kn_mono h (k f)⟩
  | cdict B n => exact fun x => x.rec fun ws d k l => ⟨ws, d.mono h, k, l⟩
  | tlist ss => exact id
  | olist xs => exact ListIs.mono h
  | exc d => exact fun x => x.rec fun dx e a b c => ⟨dx, h _ _ e, a, b, c⟩
end
abbrev Hp := List (Nat × O)
noncomputable def get (H : Hp) (a : Nat) : Option O := lkB (fun b => Nat.beq b a) H
noncomputable def rpB {β α : Type} (t : β → Bool) (l : List (β × α)) (v : α) : List (β × α) := @List.rec (β × α) (fun _ => List (β × α)) [] (fun p r ih => @Bool.rec (fun _ => List (β × α)) (p :: ih) ((p.1, v) :: r) (t p.1)) l
noncomputable def put (H : Hp) (a : Nat) (o : O) : Hp := rpB (fun b => Nat.beq b a) H o
noncomputable def drop (H : Hp) (a : Nat) : Hp := @List.rec (Nat × O) (fun _ => Hp) [] (fun p r ih => @Bool.rec (fun _ => Hp) (p :: ih) r (Nat.beq p.1 a)) H
section
variable {β α : Type} {t : β → Bool} {p q : β × α} {r l X : List (β × α)} {v : α} {x : β}
theorem rpB_t (h : t p.1 = true) : rpB t (p :: r) v = (p.1, v) :: r := congrArg (@Bool.rec (fun _ => List (β × α)) (p :: rpB t r v) ((p.1, v) :: r)) h
theorem rpB_f (h : t p.1 = false) : rpB t (p :: r) v = p :: rpB t r v := congrArg (@Bool.rec (fun _ => List (β × α)) (p :: rpB t r v) ((p.1, v) :: r)) h
theorem rpB_keys : (rpB t l v).map (·.1) = l.map (·.1) := by
  induction l with
  | nil => rfl
  | cons p r ih => exact bool_el (b := t p.1) (fun e => (congrArg (List.map fun x : β × α => x.1) (rpB_t e)).trans rfl) fun e => (congrArg (List.map fun x : β × α => x.1) (rpB_f e)).trans (congrArg (p.1 :: ·) ih)
theorem rpB_mem (e : EqT t x) : q ∈ rpB t l v → q = (x, v) ∨ q ∈ l := by
  induction l with
  | nil => exact .inr
  | cons p r ih =>
    refine bool_el (b := t p.1) (fun z => ?_) fun z => ?_
    · rw [rpB_t z]; exact fun h => (List.mem_cons.mp h).imp (fun h => (e _).mp z ▸ h) (.tail _)
    · rw [rpB_f z]; exact fun h => (List.mem_cons.mp h).elim (fun h => .inr (h ▸ .head _)) fun h => (ih h).imp id (.tail _)
theorem rpB_app (h : ∀ q ∈ X, t q.1 = false) : rpB t (X ++ l) v = X ++ rpB t l v := by
  induction X with
  | nil => rfl
  | cons p X ih => exact (rpB_f (h p (.head _))).trans (congrArg (p :: ·) (ih fun q hq => h q (.tail _ hq)))
end
theorem get_cons (p : Nat × O) (r : Hp) (a : Nat) : get (p :: r) a = match Nat.beq p.1 a with | true => some p.2 | false => get r a := rec_b _ _ _
theorem put_cons (p : Nat × O) (r : Hp) (a : Nat) (o : O) : put (p :: r) a o = match Nat.beq p.1 a with | true => (p.1, o) :: r | false => p :: put r a o := rec_b _ _ _
theorem drop_cons (p : Nat × O) (r : Hp) (a : Nat) : drop (p :: r) a = match Nat.beq p.1 a with | true => r | false => p :: drop r a := rec_b _ _ _
structure St where
  loc : List (Str × V)
  cel : List (Str × Nat)
  H : Hp
  nx : Nat
noncomputable def St.new (σ : St) (o : O) : St := { σ with H := (σ.nx, o) :: σ.H, nx := σ.nx + 1 }
noncomputable def St.put (σ : St) (a : Nat) (o : O) : St := { σ with H := Mine.put σ.H a o }
noncomputable def LedIs (P : Params) (ρ : Rho) (H : Hp) (news : List (Addr × Obj)) : Prop := All2 (fun p q => ρ p.1 = some q.1 ∧ ObjIs P ρ p.2 q.2) H news
theorem LedIs.mono {P : Params} {ρ ρ' : Rho} (h : ρ.le ρ') {H : Hp} {news : List (Addr × Obj)} (x : LedIs P ρ H news) : LedIs P ρ' H news := All2.mono (fun _ _ y => ⟨h _ _ y.1, y.2.mono h⟩) x
theorem LedIs.get {P : Params} {ρ : Rho} {H : Hp} {news : List (Addr × Obj)} {a : Nat} {o : O} (l : LedIs P ρ H news) : Mine.get H a = some o → ∃ ad ob, ρ a = some ad ∧ (ad, ob) ∈ news ∧ ObjIs P ρ o ob := by
  unfold LedIs at l
  induction l with
  | nil => exact nS
  | @cons p q r _ x y ih => exact fun e => lkB_hd e (fun h e => ⟨q.1, q.2, Nat.eq_of_beq_eq_true h ▸ x.1, .head _, e ▸ x.2⟩) fun _ e => (ih e).elim fun ad h => h.elim fun ob h => ⟨ad, ob, h.1, .tail _ h.2.1, h.2.2⟩
noncomputable def putA (l : List (Addr × Obj)) (a : Addr) (o : Obj) : List (Addr × Obj) := rpB (fun b => Nat.beq b a) l o
theorem beq_ne {a b : Nat} (h : a ≠ b) : Nat.beq a b = false := bool_el (fun e => (h (Nat.eq_of_beq_eq_true e)).elim) id
theorem off_hd {p : Addr × Obj} {r : List (Addr × Obj)} (hn : ((p :: r).map (·.1)).Nodup) : ∀ q ∈ r, q.1 ≠ p.1 := fun q hq e => (List.nodup_cons.mp hn).1 (List.mem_map.mpr ⟨q, hq, e⟩)
section
variable {a : Addr} {o o' : Obj} {l X : List (Addr × Obj)}
theorem putA_mem {q : Addr × Obj} : q ∈ putA l a o → q = (a, o) ∨ q ∈ l := rpB_mem (natT a)
theorem putA_append (h : ∀ q ∈ X, q.1 ≠ a) : putA (X ++ l) a o = X ++ putA l a o := rpB_app fun q hq => beq_ne (h q hq)
theorem updF_putA (hn : (l.map (·.1)).Nodup) (hm : (a, o) ∈ l) : UpdF a o l (putA l a) := by
  induction l with
  | nil => cases hm
  | cons p r ih =>
    cases hm with
    | head => exact (show putA ((a, o) :: r) a = fun o' => (a, o') :: r from funext fun o' => rpB_t (p := (a, o)) (Nat.beq_refl a)) ▸ .head (off_hd hn)
    | tail _ hm =>
      have ne : p.1 ≠ a := (off_hd hn _ hm).symm
      exact (show putA (p :: r) a = fun o' => p :: putA r a o' from funext fun o' => rpB_f (beq_ne ne)) ▸ .tail ne (ih (List.nodup_cons.mp hn).2 hm)
theorem upd_of (hn : (l.map (·.1)).Nodup) (hm : (a, o) ∈ l) : Upd a o o' l (putA l a o') := by
  induction l with
  | nil => cases hm
  | cons p r ih =>
    cases hm with
    | head => exact (show putA ((a, o) :: r) a o' = (a, o') :: r from rpB_t (p := (a, o)) (Nat.beq_refl a)) ▸ .head (off_hd hn)
    | tail _ hm =>
      have ne : p.1 ≠ a := (off_hd hn _ hm).symm
      exact (show putA (p :: r) a o' = p :: putA r a o' from rpB_f (beq_ne ne)) ▸ .tail ne (ih (List.nodup_cons.mp hn).2 hm)
end
theorem LedIs.put {P : Params} {ρ : Rho} {a : Nat} {ad : Addr} {o : O} {ob : Obj} (ha : ρ a = some ad) (inj : ∀ b, ρ b = some ad → b = a) (ho : ObjIs P ρ o ob) {H : Hp} {news : List (Addr × Obj)} (l : LedIs P ρ H news) : LedIs P ρ (Mine.put H a o) (putA news ad ob) := by
  unfold LedIs at l
  induction l with
  | nil => exact .nil
  | @cons p q r qs x y ih =>
    show All2 _ (rpB _ (p :: r) o) (rpB _ (q :: qs) ob)
    refine bool_el (b := Nat.beq p.1 a) (fun h => ?_) fun h => ?_
    · have e := Nat.eq_of_beq_eq_true h
      have e2 : some q.1 = some ad := x.1.symm.trans ((congrArg ρ e).trans ha)
      rw [rpB_t h, rpB_t (t := fun b => Nat.beq b ad) ((natT ad _).mpr (Option.some.inj e2))]
      exact .cons ⟨x.1, ho⟩ y
    · rw [rpB_f h, rpB_f (t := fun b => Nat.beq b ad) (beq_ne fun e2 => Nat.ne_of_beq_eq_false h (inj p.1 (e2 ▸ x.1)))]
      exact .cons x ih
structure Cd where
  w : World
  mean : ExcName → Option Value
  mg : Str → Option Value
  mb : Str → Option Value
  A : Around
  A₀ : Around
  base : Heap
  h₀ : Heap
  outer : List Env
  fenv : Env
  env : Env
  L : Addr
  m : Str → Option Value
  ml : Str → Option Value
  X : List (Addr × Obj)
  Y : List Addr
  s₀ : Shared
structure Xs (c : Cd) : Prop where
  ne : ∃ o, c.h₀.get? sysModules = some o
  ys : ∀ y ∈ c.Y, y ∈ c.X.map (·.1)
@[reducible] noncomputable def KK (w : World) : Frag := mkK.heap_1 w.params
@[reducible] noncomputable def MM (w : World) : Model := model PySem.Challenge.rw_pp0010_01.row.prog w
structure Ck (q : Bool) (c : Cd) (n : Nat) : Prop where
  B : Below c.A₀ c.base c.outer c.h₀
  X : (KK c.w).In c.h₀
  T : Top view0 (looseW view0 lo) c.mean c.mg c.mb c.h₀
  hA : c.A.frames = some (c.fenv :: c.outer)
  hf : c.fenv.frame = some c.L
  hke : c.fenv.scope.kind = .function
  hh : q = false → c.A.handled = none
  hg : c.env.globals = mainGlobals
  hb : c.env.builtins = builtinsNs
  hk : c.env.scope.kind = .function
  hns : ∀ h, Fr c.h₀ c.L h c.m → News c.h₀ c.L h c.X → h.Ns c.env.locals c.ml
  dp : c.A.depth + 5 * n < recursionLimit
  un : c.A.units + 30 * n + 100 < cLine
  xs : Xs c
noncomputable def LocIs (ρ : Rho) (loc : List (Str × V)) (m : Str → Option Value) : Prop := ∀ x v, lkS loc x = some v → ∃ u, m x = some u ∧ Den ρ v u
noncomputable def CelIs (ρ : Rho) (cel : List (Str × Nat)) (cl : List (Str × Addr)) : Prop := ∀ x a, lkS cel x = some a → ∃ ad, cl.lookup x = some ad ∧ ρ a = some ad
noncomputable def IsD (o : Obj) : Prop := ∃ es n, o.data = .dict es n
structure NmA (P : Params) (X : List (Addr × Obj)) (Y : List Addr) (ρ : Rho) (H : Hp) (nx : Nat) (news : List (Addr × Obj)) : Prop where
  nd : ((X ++ news).map (·.1)).Nodup
  led : LedIs P ρ H news
  rng : ∀ a ad, ρ a = some ad → ad ∈ (X ++ news).map (·.1)
  inj : ∀ a b ad, ρ a = some ad → ρ b = some ad → a = b
  fresh : ∀ a, nx ≤ a → ρ a = none
  sm : ∀ p ∈ news, IsD p.2 → p.1 ≠ sysModules
  off : ∀ a ad, ρ a = some ad → ad ∉ Y
structure RelA (c : Cd) (ρ : Rho) (σ : St) (news : List (Addr × Obj)) (s : Shared) : Prop where
  F : Fr c.h₀ c.L s.heap c.m
  N : News c.h₀ c.L s.heap (c.X ++ news)
  nm : NmA c.w.params c.X c.Y ρ σ.H σ.nx news
  loc : LocIs ρ σ.loc c.ml
  cel : CelIs ρ σ.cel c.env.cells
  sh : s = { c.s₀ with heap := s.heap, toks := s.toks }
section
variable {c : Cd} {ρ : Rho} {σ : St} {news : List (Addr × Obj)} {s : Shared} (R : RelA c ρ σ news s)
include R
theorem RelA.nd : ((c.X ++ news).map (·.1)).Nodup := R.nm.nd
theorem RelA.led : LedIs c.w.params ρ σ.H news := R.nm.led
theorem RelA.rng : ∀ a ad, ρ a = some ad → ad ∈ (c.X ++ news).map (·.1) := R.nm.rng
theorem RelA.inj : ∀ a b ad, ρ a = some ad → ρ b = some ad → a = b := R.nm.inj
theorem RelA.fresh : ∀ a, σ.nx ≤ a → ρ a = none := R.nm.fresh
theorem RelA.sm : ∀ p ∈ news, IsD p.2 → p.1 ≠ sysModules := R.nm.sm
theorem RelA.off : ∀ a ad, ρ a = some ad → ad ∉ c.Y := R.nm.off
end
noncomputable def Rel (c : Cd) (ρ : Rho) (σ : St) (s : Shared) : Prop := ∃ news, RelA c ρ σ news s
theorem LocIs.mono {ρ ρ' : Rho} (h : ρ.le ρ') {loc : List (Str × V)} {m : Str → Option Value} (x : LocIs ρ loc m) : LocIs ρ' loc m := fun y v e => let ⟨u, a, b⟩ := x y v e; ⟨u, a, b.mono h⟩
theorem CelIs.mono {ρ ρ' : Rho} (h : ρ.le ρ') {cel : List (Str × Nat)} {cl : List (Str × Addr)} (x : CelIs ρ cel cl) : CelIs ρ' cel cl := fun y a e => let ⟨u, p, q⟩ := x y a e; ⟨u, p, h _ _ q⟩
theorem Shared.re {s s₀ : Shared} (h : s = { s₀ with heap := s.heap, toks := s.toks }) (h' : Heap) (t : Nat) : ({ s with heap := h', toks := t } : Shared) = { s₀ with heap := h', toks := t } := by rw [h]
noncomputable def Rho.upd (ρ : Rho) (n : Nat) (l : Addr) : Rho := fun a => @Bool.rec (fun _ => Option Addr) (ρ a) (some l) (Nat.beq a n)
section
variable {ρ : Rho} {n a : Nat} {l ad : Addr} {G : Prop}
theorem Rho.upd_t : ρ.upd n l n = some l := congrArg (@Bool.rec (fun _ => Option Addr) (ρ n) (some l)) (Nat.beq_refl n)
theorem Rho.upd_f (h : a ≠ n) : ρ.upd n l a = ρ a := congrArg (@Bool.rec (fun _ => Option Addr) (ρ a) (some l)) (beq_ne h)
theorem Rho.upd_el (h : ρ.upd n l a = some ad) (k : a = n → l = ad → G) (j : ρ a = some ad → G) : G := Or.elim (Nat.decEq a n).em (fun e => k e (Option.some.inj (Rho.upd_t.symm.trans (e ▸ h)))) fun ne => j ((Rho.upd_f ne).symm.trans h)
theorem Rho.upd_le (h : ρ n = none) : ρ.le (ρ.upd n l) := fun _ _ e => (Rho.upd_f fun q => nS (h.symm.trans (q ▸ e))).trans e
end
theorem NmA.new {P : Params} {X : List (Addr × Obj)} {Y : List Addr} {ρ : Rho} {H : Hp} {nx : Nat} {news : List (Addr × Obj)} (R : NmA P X Y ρ H nx news) {l : Addr} {o : O} {ob : Obj} (hl : ∀ p ∈ X ++ news, p.1 ≠ l) (hs : IsD ob → l ≠ sysModules) (ys : ∀ y ∈ Y, y ∈ X.map (·.1)) (ho : ObjIs P ρ o ob) :
    NmA P X Y (ρ.upd nx l) ((nx, o) :: H) (nx + 1) ((l, ob) :: news) := by
  have le : ρ.le (ρ.upd nx l) := Rho.upd_le (R.fresh _ (Nat.le_refl _))
  have key : l ∉ (X ++ news).map (·.1) := fun hm => (List.mem_map.mp hm).elim fun p (q : p ∈ X ++ news ∧ p.1 = l) => hl p q.1 q.2
  have pm : ((X ++ (l, ob) :: news).map (·.1)).Perm (l :: (X ++ news).map (·.1)) := List.Perm.map (fun x : Addr × Obj => x.1) List.perm_middle
  exact ⟨pm.nodup_iff.mpr (List.nodup_cons.mpr ⟨key, R.nd⟩), .cons ⟨Rho.upd_t, ho.mono le⟩ (R.led.mono le),
    fun a ad e => pm.mem_iff.mpr (Rho.upd_el e (fun _ q => q ▸ .head _) fun e => .tail _ (R.rng a ad e)),
    fun a b ad ea eb => Rho.upd_el ea (fun p q => Rho.upd_el eb (fun p' _ => p.trans p'.symm) fun eb => (key (q ▸ R.rng b ad eb)).elim) fun ea => Rho.upd_el eb (fun _ q' => (key (q' ▸ R.rng a ad ea)).elim) fun eb => R.inj a b ad ea eb,
    fun a ha => (Rho.upd_f (Nat.ne_of_gt ha)).trans (R.fresh a (Nat.le_of_succ_le ha)),
    fun p hp => (List.mem_cons.mp hp).elim (fun e => e ▸ hs) (R.sm p),
    fun a ad e hy => Rho.upd_el e (fun _ q => key (q ▸ (by rw [List.map_append]; exact List.mem_append_left _ (ys _ hy)))) fun e => R.off a ad e hy⟩
section
variable {c : Cd} {ρ : Rho} {σ : St} {news : List (Addr × Obj)} {s : Shared} (R : RelA c ρ σ news s) {h' : Heap} {t : Nat}
include R
theorem RelA.toks (t : Nat) : RelA c ρ σ news { s with toks := t } := ⟨R.F, R.N, R.nm, R.loc, R.cel, Shared.re R.sh s.heap t⟩
theorem RelA.re (F' : Fr c.h₀ c.L h' c.m) (N' : News c.h₀ c.L h' (c.X ++ news)) : RelA c ρ σ news { s with heap := h', toks := t } := ⟨F', N', R.nm, R.loc, R.cel, Shared.re R.sh h' t⟩
theorem RelA.new {l : Addr} {o : O} {ob : Obj} (F' : Fr c.h₀ c.L h' c.m) (N' : News c.h₀ c.L h' ((l, ob) :: (c.X ++ news))) (hl : ∀ p ∈ c.X ++ news, p.1 ≠ l) (hs : IsD ob → l ≠ sysModules) (hx : Xs c) (ho : ObjIs c.w.params ρ o ob) :
    RelA c (ρ.upd σ.nx l) (σ.new o) ((l, ob) :: news) { s with heap := h', toks := t } :=
  have le : ρ.le (ρ.upd σ.nx l) := Rho.upd_le (R.fresh _ (Nat.le_refl _))
  ⟨F', fun q hq => N' q (List.perm_middle.mem_iff.mp hq), R.nm.new hl hs hx.ys ho, R.loc.mono le, R.cel.mono le, Shared.re R.sh h' t⟩
theorem RelA.upd {a : Nat} {ad : Addr} {ob₀ ob : Obj} {o : O} (ha : ρ a = some ad) (hm : (ad, ob₀) ∈ news) (hd : IsD ob → IsD ob₀)
    (F' : Fr c.h₀ c.L h' c.m) (N' : News c.h₀ c.L h' (putA (c.X ++ news) ad ob)) (ho : ObjIs c.w.params ρ o ob) : RelA c ρ (σ.put a o) (putA news ad ob) { s with heap := h', toks := t } := by
  have off : ∀ q ∈ c.X, q.1 ≠ ad := fun q hq e => by
    have := R.nd
    rw [List.map_append] at this
    exact (List.nodup_append.mp this).2.2 q.1 (List.mem_map_of_mem hq) ad (List.mem_map_of_mem (f := (·.1)) hm) e
  have e : putA (c.X ++ news) ad ob = c.X ++ putA news ad ob := putA_append off
  have ek : (c.X ++ putA news ad ob).map (·.1) = (c.X ++ news).map (·.1) := (congrArg (List.map (·.1)) e.symm).trans rpB_keys
  exact ⟨F', e ▸ N', ⟨ek ▸ R.nd, R.led.put ha (fun b hb => R.inj b a ad hb ha) ho, ek ▸ R.rng, R.inj, R.fresh, fun p hp d => (putA_mem hp).elim (fun e => by subst e; exact R.sm (ad, ob₀) hm (hd d)) fun hp => R.sm p hp d, R.off⟩, R.loc, R.cel, Shared.re R.sh h' t⟩
end
end Mine
namespace Mine
abbrev KV := V → St → Prop
abbrev KX := Int → St → Prop
abbrev Spec := List V → St → KV → KX → Prop
abbrev Names := List (Str × NameKind)
noncomputable def putS {α : Type} (l : List (Str × α)) (x : Str) (v : α) : List (Str × α) := ptB (fun y => Fast.sEq y x) l x v
noncomputable def putI {α : Type} (l : List (Int × α)) (x : Int) (v : α) : List (Int × α) := ptB (fun y => decide (y = x)) l x v
theorem putS_cons {α : Type} (p : Str × α) (r : List (Str × α)) (x : Str) (v : α) : putS (p :: r) x v = match Fast.sEq p.1 x with | true => (p.1, v) :: r | false => p :: putS r x v := rec_b _ _ _
noncomputable def isSome' {α : Type} (o : Option α) : Bool := oT o fun _ => true
noncomputable def dbg : Str := Str.ofString "__debug__"
noncomputable def refO (v : V) : Option Nat := @V.rec (fun _ => Option Nat) none (fun a => none) (fun a => none) (fun a => none) (fun a => none) (fun a => none) (fun a => none) some (fun a => none) (fun a b c => none) v
noncomputable def kO (v : V) : Option Value := @V.rec (fun _ => Option Value) none (fun a => none) (fun a => none) (fun a => none) (fun a => none) (fun a => none) (fun a => none) (fun a => none) some (fun a b c => none) v
noncomputable def strK (v : V) : Option Str := @V.rec (fun _ => Option Str) none (fun a => none) (fun a => none) (fun a => none) (fun a => none) some (fun a => none) (fun a => none) (fun a => none) (fun a b c => none) v
noncomputable def intK (v : V) : Option Int := @V.rec (fun _ => Option Int) none (fun a => none) (fun a => none) some (fun a => none) (fun a => none) (fun a => none) (fun a => none) (fun a => none) (fun a b c => none) v
noncomputable def siO (v : V) : Option Int := @V.rec (fun _ => Option Int) none (fun a => none) (fun a => none) (fun a => none) some (fun a => none) (fun a => none) (fun a => none) (fun a => none) (fun a b c => none) v
noncomputable def intOf (v : V) : Option (Bool × Int) := @V.rec (fun _ => Option (Bool × Int)) none (fun a => none) (fun a => none) (fun i => some (true, i)) (fun i => some (false, i)) (fun a => none) (fun a => none) (fun a => none) (fun a => none) (fun a b c => none) v
noncomputable def strOf (v : V) : Option (Bool × Str) := @V.rec (fun _ => Option (Bool × Str)) none (fun a => none) (fun a => none) (fun a => none) (fun a => none) (fun i => some (true, i)) (fun i => some (false, i)) (fun a => none) (fun a => none) (fun a b c => none) v
noncomputable def isNone (v : V) : Option Bool := @V.rec (fun _ => Option Bool) (some true) (fun a => none) (fun a => none) (fun a => none) (fun a => none) (fun a => none) (fun a => none) (fun _ => some false) (fun a => none) (fun a b c => none) v
noncomputable def noneV (v : V) : Bool := @V.rec (fun _ => Bool) true (fun a => false) (fun a => false) (fun a => false) (fun a => false) (fun a => false) (fun a => false) (fun a => false) (fun a => false) (fun a b c => false) v
noncomputable def natOf (i : Int) : Option Nat := @Int.rec (fun _ => Option Nat) some (fun a => none) i
noncomputable def natK (v : V) : Option Nat := oO (intK v) natOf
noncomputable def vRef : Value → Option Nat
  | .ref p => some p
  | _ => none
noncomputable def kRef (v : V) : Option Nat := oO (kO v) vRef
theorem view_el {E Q : Type} {f : E → Option Q} {g : Q → E} {e : E} {q : Q} (hv : @Option.rec Q (fun _ => E) e g (f e) = e) (h : f e = some q) : e = g q := hv.symm.trans (congrArg (@Option.rec Q (fun _ => E) e g) h)
theorem ref_el {v : V} {q : Nat} (h : refO v = some q) : v = .ref q := view_el (g := fun q => .ref q) (@V.casesOn (fun v => @Option.rec Nat (fun _ => V) v (fun q => .ref q) (refO v) = v) v (@rfl V .none) (fun a => @rfl V (.bool a)) (fun a => @rfl V (.sb a)) (fun a => @rfl V (.int a)) (fun a => @rfl V (.si a)) (fun a => @rfl V (.str a)) (fun a => @rfl V (.ss a)) (fun a => @rfl V (.ref a)) (fun a => @rfl V (.k a)) (fun a b c => @rfl V (.either a b c))) h
theorem kO_el {v : V} {q : Value} (h : kO v = some q) : v = .k q := view_el (g := fun q => .k q) (@V.casesOn (fun v => @Option.rec Value (fun _ => V) v (fun q => .k q) (kO v) = v) v (@rfl V .none) (fun a => @rfl V (.bool a)) (fun a => @rfl V (.sb a)) (fun a => @rfl V (.int a)) (fun a => @rfl V (.si a)) (fun a => @rfl V (.str a)) (fun a => @rfl V (.ss a)) (fun a => @rfl V (.ref a)) (fun a => @rfl V (.k a)) (fun a b c => @rfl V (.either a b c))) h
theorem strK_el {v : V} {q : Str} (h : strK v = some q) : v = .str q := view_el (g := fun q => .str q) (@V.casesOn (fun v => @Option.rec Str (fun _ => V) v (fun q => .str q) (strK v) = v) v (@rfl V .none) (fun a => @rfl V (.bool a)) (fun a => @rfl V (.sb a)) (fun a => @rfl V (.int a)) (fun a => @rfl V (.si a)) (fun a => @rfl V (.str a)) (fun a => @rfl V (.ss a)) (fun a => @rfl V (.ref a)) (fun a => @rfl V (.k a)) (fun a b c => @rfl V (.either a b c))) h
theorem intK_el {v : V} {q : Int} (h : intK v = some q) : v = .int q := view_el (g := fun q => .int q) (@V.casesOn (fun v => @Option.rec Int (fun _ => V) v (fun q => .int q) (intK v) = v) v (@rfl V .none) (fun a => @rfl V (.bool a)) (fun a => @rfl V (.sb a)) (fun a => @rfl V (.int a)) (fun a => @rfl V (.si a)) (fun a => @rfl V (.str a)) (fun a => @rfl V (.ss a)) (fun a => @rfl V (.ref a)) (fun a => @rfl V (.k a)) (fun a b c => @rfl V (.either a b c))) h
theorem siO_el {v : V} {q : Int} (h : siO v = some q) : v = .si q := view_el (g := fun q => .si q) (@V.casesOn (fun v => @Option.rec Int (fun _ => V) v (fun q => .si q) (siO v) = v) v (@rfl V .none) (fun a => @rfl V (.bool a)) (fun a => @rfl V (.sb a)) (fun a => @rfl V (.int a)) (fun a => @rfl V (.si a)) (fun a => @rfl V (.str a)) (fun a => @rfl V (.ss a)) (fun a => @rfl V (.ref a)) (fun a => @rfl V (.k a)) (fun a b c => @rfl V (.either a b c))) h
theorem natOf_el {i : Int} {k : Nat} (h : natOf i = some k) : i = .ofNat k := by cases i <;> first | exact nS h | exact congrArg _ (Option.some.inj h)
theorem vRef_el {v : Value} {p : Nat} (h : vRef v = some p) : v = .ref p := by cases v <;> first | exact nS h | exact congrArg _ (Option.some.inj h)
section
variable {v : V} {u : Value} {ρ : Rho} {C : Value → Prop} {G : Prop}
@[elab_as_elim] theorem ref_d {p : Nat} (h : refO v = some p) (d : Den ρ v u) (k : ∀ ad, ρ p = some ad → C (.ref ad)) : C u := by
  rw [ref_el h] at d
  exact d.elim fun ad q => q.2 ▸ k ad q.1
theorem k_d {x : Value} (h : kO v = some x) (d : Den ρ v u) : u = x := by rw [kO_el h] at d; exact d
theorem kref_d {p : Nat} (h : kRef v = some p) (d : Den ρ v u) : u = .ref p := oO_el h fun _ a b => (k_d a d).trans (vRef_el b)
@[elab_as_elim] theorem strK_d {x : Str} (h : strK v = some x) (d : Den ρ v u) (k : ∀ t, C (.str x t)) : C u := by
  rw [strK_el h] at d
  exact d.elim fun t e => e ▸ k t
@[elab_as_elim] theorem intK_d {x : Int} (h : intK v = some x) (d : Den ρ v u) (k : ∀ t, C (.int x t)) : C u := by
  rw [intK_el h] at d
  exact d.elim fun t e => e ▸ k t
@[elab_as_elim] theorem siO_d {x : Int} (h : siO v = some x) (d : Den ρ v u) (k : ∀ t, C (.int x t)) : C u := by
  rw [siO_el h] at d
  exact d.elim fun t e => e ▸ k t
@[elab_as_elim] theorem natK_d {x : Nat} (h : natK v = some x) (d : Den ρ v u) (k : ∀ t, C (.int (.ofNat x) t)) : C u := oO_el h fun i a b => intK_d a d fun t => natOf_el b ▸ k t
@[elab_as_elim] theorem intOf_d {q : Bool × Int} (h : intOf v = some q) (d : Den ρ v u) (k : ∀ t, C (.int q.2 t)) : C u := by
  cases v <;> first | exact nS h | (cases h; exact d.elim fun t e => e ▸ k t)
@[elab_as_elim] theorem strOf_d {q : Bool × Str} (h : strOf v = some q) (d : Den ρ v u) (k : ∀ t, C (.str q.2 t)) : C u := by
  cases v <;> first | exact nS h | (cases h; exact d.elim fun t e => e ▸ k t)
end
noncomputable def ofK : Value → V
  | .str s _ => .str s
  | .int i _ => .int i
  | v => .k v
noncomputable def isK (v : V) : Bool := oT (kO v) fun _ => true
noncomputable def gOb {α : Type} (f : O → Option α) (H : Hp) (p : Nat) : Option α := oO (get H p) f
noncomputable def instO (o : O) : Option (Addr × Nat) := @O.rec (fun _ => Option (Addr × Nat)) (fun c d => some (c, d)) (fun a => none) (fun a => none) (fun a => none) (fun a => none) (fun a => none) (fun a => none) (fun a => none) (fun a b c => none) (fun a => none) (fun a b => none) (fun a => none) (fun a => none) (fun a => none) o
noncomputable def dictO (o : O) : Option (List (Str × V)) := @O.rec (fun _ => Option (List (Str × V))) (fun a b => none) some (fun a => none) (fun a => none) (fun a => none) (fun a => none) (fun a => none) (fun a => none) (fun a b c => none) (fun a => none) (fun a b => none) (fun a => none) (fun a => none) (fun a => none) o
noncomputable def odictO (o : O) : Option (List (Str × Str)) := @O.rec (fun _ => Option (List (Str × Str))) (fun a b => none) (fun a => none) some (fun a => none) (fun a => none) (fun a => none) (fun a => none) (fun a => none) (fun a b c => none) (fun a => none) (fun a b => none) (fun a => none) (fun a => none) (fun a => none) o
noncomputable def idictO (o : O) : Option (List (Int × V)) := @O.rec (fun _ => Option (List (Int × V))) (fun a b => none) (fun a => none) (fun a => none) some (fun a => none) (fun a => none) (fun a => none) (fun a => none) (fun a b c => none) (fun a => none) (fun a b => none) (fun a => none) (fun a => none) (fun a => none) o
noncomputable def listO (o : O) : Option (List V) := @O.rec (fun _ => Option (List V)) (fun a b => none) (fun a => none) (fun a => none) (fun a => none) some (fun a => none) (fun a => none) (fun a => none) (fun a b c => none) (fun a => none) (fun a b => none) (fun a => none) (fun a => none) (fun a => none) o
noncomputable def tupO (o : O) : Option (List V) := @O.rec (fun _ => Option (List V)) (fun a b => none) (fun a => none) (fun a => none) (fun a => none) (fun a => none) some (fun a => none) (fun a => none) (fun a b c => none) (fun a => none) (fun a b => none) (fun a => none) (fun a => none) (fun a => none) o
noncomputable def cellO (o : O) : Option (Option V) := @O.rec (fun _ => Option (Option V)) (fun a b => none) (fun a => none) (fun a => none) (fun a => none) (fun a => none) (fun a => none) some (fun a => none) (fun a b c => none) (fun a => none) (fun a b => none) (fun a => none) (fun a => none) (fun a => none) o
noncomputable def intsO (o : O) : Option (List Int) := @O.rec (fun _ => Option (List Int)) (fun a b => none) (fun a => none) (fun a => none) (fun a => none) (fun a => none) (fun a => none) (fun a => none) some (fun a b c => none) (fun a => none) (fun a b => none) (fun a => none) (fun a => none) (fun a => none) o
inductive PD where
  | mk (kvs : List (Str × V)) (abs : List Str) (b : Nat)
noncomputable def pdictO (o : O) : Option PD := @O.rec (fun _ => Option PD) (fun a b => none) (fun a => none) (fun a => none) (fun a => none) (fun a => none) (fun a => none) (fun a => none) (fun a => none) (fun x y z => some ⟨x, y, z⟩) (fun a => none) (fun a b => none) (fun a => none) (fun a => none) (fun a => none) o
noncomputable def pidictO (o : O) : Option (List (Int × V)) := @O.rec (fun _ => Option (List (Int × V))) (fun a b => none) (fun a => none) (fun a => none) (fun a => none) (fun a => none) (fun a => none) (fun a => none) (fun a => none) (fun a b c => none) some (fun a b => none) (fun a => none) (fun a => none) (fun a => none) o
noncomputable def cdictO (o : O) : Option (Nat × Nat) := @O.rec (fun _ => Option (Nat × Nat)) (fun a b => none) (fun a => none) (fun a => none) (fun a => none) (fun a => none) (fun a => none) (fun a => none) (fun a => none) (fun a b c => none) (fun a => none) (fun x y => some (x, y)) (fun a => none) (fun a => none) (fun a => none) o
noncomputable def tlistO (o : O) : Option (List Str) := @O.rec (fun _ => Option (List Str)) (fun a b => none) (fun a => none) (fun a => none) (fun a => none) (fun a => none) (fun a => none) (fun a => none) (fun a => none) (fun a b c => none) (fun a => none) (fun a b => none) some (fun a => none) (fun a => none) o
noncomputable def olistO (o : O) : Option (List V) := @O.rec (fun _ => Option (List V)) (fun a b => none) (fun a => none) (fun a => none) (fun a => none) (fun a => none) (fun a => none) (fun a => none) (fun a => none) (fun a b c => none) (fun a => none) (fun a b => none) (fun a => none) some (fun a => none) o
noncomputable def excO (o : O) : Option Nat := @O.rec (fun _ => Option Nat) (fun a b => none) (fun a => none) (fun a => none) (fun a => none) (fun a => none) (fun a => none) (fun a => none) (fun a => none) (fun a b c => none) (fun a => none) (fun a b => none) (fun a => none) (fun a => none) some o
section
variable {H : Hp} {p : Nat}
theorem gOb_el {α : Type} {f : O → Option α} {g : α → O} {x : α} (h : gOb f H p = some x) (hv : ∀ o, @Option.rec α (fun _ => O) o g (f o) = o) : get H p = some (g x) := oO_el h fun o a b => a.trans (congrArg some (view_el (hv o) b))
theorem inst_el {q : Addr × Nat} (h : gOb instO H p = some q) : get H p = some (.inst q.1 q.2) := gOb_el (g := fun q => .inst q.1 q.2) h fun o => @O.casesOn (fun o => @Option.rec (Addr × Nat) (fun _ => O) o (fun q => .inst q.1 q.2) (instO o) = o) o (fun a b => @rfl O (.inst a b)) (fun a => @rfl O (.dict a)) (fun a => @rfl O (.odict a)) (fun a => @rfl O (.idict a)) (fun a => @rfl O (.list a)) (fun a => @rfl O (.tup a)) (fun a => @rfl O (.cell a)) (fun a => @rfl O (.«ints» a)) (fun a b c => @rfl O (.pdict a b c)) (fun a => @rfl O (.pidict a)) (fun a b => @rfl O (.cdict a b)) (fun a => @rfl O (.tlist a)) (fun a => @rfl O (.olist a)) (fun a => @rfl O (.exc a))
theorem dict_el {q : List (Str × V)} (h : gOb dictO H p = some q) : get H p = some (.dict q) := gOb_el (g := fun q => .dict q) h fun o => @O.casesOn (fun o => @Option.rec (List (Str × V)) (fun _ => O) o (fun q => .dict q) (dictO o) = o) o (fun a b => @rfl O (.inst a b)) (fun a => @rfl O (.dict a)) (fun a => @rfl O (.odict a)) (fun a => @rfl O (.idict a)) (fun a => @rfl O (.list a)) (fun a => @rfl O (.tup a)) (fun a => @rfl O (.cell a)) (fun a => @rfl O (.«ints» a)) (fun a b c => @rfl O (.pdict a b c)) (fun a => @rfl O (.pidict a)) (fun a b => @rfl O (.cdict a b)) (fun a => @rfl O (.tlist a)) (fun a => @rfl O (.olist a)) (fun a => @rfl O (.exc a))
theorem odict_el {q : List (Str × Str)} (h : gOb odictO H p = some q) : get H p = some (.odict q) := gOb_el (g := fun q => .odict q) h fun o => @O.casesOn (fun o => @Option.rec (List (Str × Str)) (fun _ => O) o (fun q => .odict q) (odictO o) = o) o (fun a b => @rfl O (.inst a b)) (fun a => @rfl O (.dict a)) (fun a => @rfl O (.odict a)) (fun a => @rfl O (.idict a)) (fun a => @rfl O (.list a)) (fun a => @rfl O (.tup a)) (fun a => @rfl O (.cell a)) (fun a => @rfl O (.«ints» a)) (fun a b c => @rfl O (.pdict a b c)) (fun a => @rfl O (.pidict a)) (fun a b => @rfl O (.cdict a b)) (fun a => @rfl O (.tlist a)) (fun a => @rfl O (.olist a)) (fun a => @rfl O (.exc a))
theorem idict_el {q : List (Int × V)} (h : gOb idictO H p = some q) : get H p = some (.idict q) := gOb_el (g := fun q => .idict q) h fun o => @O.casesOn (fun o => @Option.rec (List (Int × V)) (fun _ => O) o (fun q => .idict q) (idictO o) = o) o (fun a b => @rfl O (.inst a b)) (fun a => @rfl O (.dict a)) (fun a => @rfl O (.odict a)) (fun a => @rfl O (.idict a)) (fun a => @rfl O (.list a)) (fun a => @rfl O (.tup a)) (fun a => @rfl O (.cell a)) (fun a => @rfl O (.«ints» a)) (fun a b c => @rfl O (.pdict a b c)) (fun a => @rfl O (.pidict a)) (fun a b => @rfl O (.cdict a b)) (fun a => @rfl O (.tlist a)) (fun a => @rfl O (.olist a)) (fun a => @rfl O (.exc a))
theorem list_el {q : List V} (h : gOb listO H p = some q) : get H p = some (.list q) := gOb_el (g := fun q => .list q) h fun o => @O.casesOn (fun o => @Option.rec (List V) (fun _ => O) o (fun q => .list q) (listO o) = o) o (fun a b => @rfl O (.inst a b)) (fun a => @rfl O (.dict a)) (fun a => @rfl O (.odict a)) (fun a => @rfl O (.idict a)) (fun a => @rfl O (.list a)) (fun a => @rfl O (.tup a)) (fun a => @rfl O (.cell a)) (fun a => @rfl O (.«ints» a)) (fun a b c => @rfl O (.pdict a b c)) (fun a => @rfl O (.pidict a)) (fun a b => @rfl O (.cdict a b)) (fun a => @rfl O (.tlist a)) (fun a => @rfl O (.olist a)) (fun a => @rfl O (.exc a))
theorem tup_el {q : List V} (h : gOb tupO H p = some q) : get H p = some (.tup q) := gOb_el (g := fun q => .tup q) h fun o => @O.casesOn (fun o => @Option.rec (List V) (fun _ => O) o (fun q => .tup q) (tupO o) = o) o (fun a b => @rfl O (.inst a b)) (fun a => @rfl O (.dict a)) (fun a => @rfl O (.odict a)) (fun a => @rfl O (.idict a)) (fun a => @rfl O (.list a)) (fun a => @rfl O (.tup a)) (fun a => @rfl O (.cell a)) (fun a => @rfl O (.«ints» a)) (fun a b c => @rfl O (.pdict a b c)) (fun a => @rfl O (.pidict a)) (fun a b => @rfl O (.cdict a b)) (fun a => @rfl O (.tlist a)) (fun a => @rfl O (.olist a)) (fun a => @rfl O (.exc a))
theorem cell_el {q : Option V} (h : gOb cellO H p = some q) : get H p = some (.cell q) := gOb_el (g := fun q => .cell q) h fun o => @O.casesOn (fun o => @Option.rec (Option V) (fun _ => O) o (fun q => .cell q) (cellO o) = o) o (fun a b => @rfl O (.inst a b)) (fun a => @rfl O (.dict a)) (fun a => @rfl O (.odict a)) (fun a => @rfl O (.idict a)) (fun a => @rfl O (.list a)) (fun a => @rfl O (.tup a)) (fun a => @rfl O (.cell a)) (fun a => @rfl O (.«ints» a)) (fun a b c => @rfl O (.pdict a b c)) (fun a => @rfl O (.pidict a)) (fun a b => @rfl O (.cdict a b)) (fun a => @rfl O (.tlist a)) (fun a => @rfl O (.olist a)) (fun a => @rfl O (.exc a))
theorem ints_el {q : List Int} (h : gOb intsO H p = some q) : get H p = some (.«ints» q) := gOb_el (g := fun q => .«ints» q) h fun o => @O.casesOn (fun o => @Option.rec (List Int) (fun _ => O) o (fun q => .«ints» q) (intsO o) = o) o (fun a b => @rfl O (.inst a b)) (fun a => @rfl O (.dict a)) (fun a => @rfl O (.odict a)) (fun a => @rfl O (.idict a)) (fun a => @rfl O (.list a)) (fun a => @rfl O (.tup a)) (fun a => @rfl O (.cell a)) (fun a => @rfl O (.«ints» a)) (fun a b c => @rfl O (.pdict a b c)) (fun a => @rfl O (.pidict a)) (fun a b => @rfl O (.cdict a b)) (fun a => @rfl O (.tlist a)) (fun a => @rfl O (.olist a)) (fun a => @rfl O (.exc a))
theorem pdict_el {q : PD} (h : gOb pdictO H p = some q) : get H p = some (@PD.rec (fun _ => O) (fun x y z => .pdict x y z) q) := gOb_el (g := fun q => @PD.rec (fun _ => O) (fun x y z => .pdict x y z) q) h fun o => @O.casesOn (fun o => @Option.rec (PD) (fun _ => O) o (fun q => @PD.rec (fun _ => O) (fun x y z => .pdict x y z) q) (pdictO o) = o) o (fun a b => @rfl O (.inst a b)) (fun a => @rfl O (.dict a)) (fun a => @rfl O (.odict a)) (fun a => @rfl O (.idict a)) (fun a => @rfl O (.list a)) (fun a => @rfl O (.tup a)) (fun a => @rfl O (.cell a)) (fun a => @rfl O (.«ints» a)) (fun a b c => @rfl O (.pdict a b c)) (fun a => @rfl O (.pidict a)) (fun a b => @rfl O (.cdict a b)) (fun a => @rfl O (.tlist a)) (fun a => @rfl O (.olist a)) (fun a => @rfl O (.exc a))
theorem pidict_el {q : List (Int × V)} (h : gOb pidictO H p = some q) : get H p = some (.pidict q) := gOb_el (g := fun q => .pidict q) h fun o => @O.casesOn (fun o => @Option.rec (List (Int × V)) (fun _ => O) o (fun q => .pidict q) (pidictO o) = o) o (fun a b => @rfl O (.inst a b)) (fun a => @rfl O (.dict a)) (fun a => @rfl O (.odict a)) (fun a => @rfl O (.idict a)) (fun a => @rfl O (.list a)) (fun a => @rfl O (.tup a)) (fun a => @rfl O (.cell a)) (fun a => @rfl O (.«ints» a)) (fun a b c => @rfl O (.pdict a b c)) (fun a => @rfl O (.pidict a)) (fun a b => @rfl O (.cdict a b)) (fun a => @rfl O (.tlist a)) (fun a => @rfl O (.olist a)) (fun a => @rfl O (.exc a))
theorem cdict_el {q : Nat × Nat} (h : gOb cdictO H p = some q) : get H p = some (.cdict q.1 q.2) := gOb_el (g := fun q => .cdict q.1 q.2) h fun o => @O.casesOn (fun o => @Option.rec (Nat × Nat) (fun _ => O) o (fun q => .cdict q.1 q.2) (cdictO o) = o) o (fun a b => @rfl O (.inst a b)) (fun a => @rfl O (.dict a)) (fun a => @rfl O (.odict a)) (fun a => @rfl O (.idict a)) (fun a => @rfl O (.list a)) (fun a => @rfl O (.tup a)) (fun a => @rfl O (.cell a)) (fun a => @rfl O (.«ints» a)) (fun a b c => @rfl O (.pdict a b c)) (fun a => @rfl O (.pidict a)) (fun a b => @rfl O (.cdict a b)) (fun a => @rfl O (.tlist a)) (fun a => @rfl O (.olist a)) (fun a => @rfl O (.exc a))
theorem tlist_el {q : List Str} (h : gOb tlistO H p = some q) : get H p = some (.tlist q) := gOb_el (g := fun q => .tlist q) h fun o => @O.casesOn (fun o => @Option.rec (List Str) (fun _ => O) o (fun q => .tlist q) (tlistO o) = o) o (fun a b => @rfl O (.inst a b)) (fun a => @rfl O (.dict a)) (fun a => @rfl O (.odict a)) (fun a => @rfl O (.idict a)) (fun a => @rfl O (.list a)) (fun a => @rfl O (.tup a)) (fun a => @rfl O (.cell a)) (fun a => @rfl O (.«ints» a)) (fun a b c => @rfl O (.pdict a b c)) (fun a => @rfl O (.pidict a)) (fun a b => @rfl O (.cdict a b)) (fun a => @rfl O (.tlist a)) (fun a => @rfl O (.olist a)) (fun a => @rfl O (.exc a))
theorem olist_el {q : List V} (h : gOb olistO H p = some q) : get H p = some (.olist q) := gOb_el (g := fun q => .olist q) h fun o => @O.casesOn (fun o => @Option.rec (List V) (fun _ => O) o (fun q => .olist q) (olistO o) = o) o (fun a b => @rfl O (.inst a b)) (fun a => @rfl O (.dict a)) (fun a => @rfl O (.odict a)) (fun a => @rfl O (.idict a)) (fun a => @rfl O (.list a)) (fun a => @rfl O (.tup a)) (fun a => @rfl O (.cell a)) (fun a => @rfl O (.«ints» a)) (fun a b c => @rfl O (.pdict a b c)) (fun a => @rfl O (.pidict a)) (fun a b => @rfl O (.cdict a b)) (fun a => @rfl O (.tlist a)) (fun a => @rfl O (.olist a)) (fun a => @rfl O (.exc a))
theorem exc_el {q : Nat} (h : gOb excO H p = some q) : get H p = some (.exc q) := gOb_el (g := fun q => .exc q) h fun o => @O.casesOn (fun o => @Option.rec (Nat) (fun _ => O) o (fun q => .exc q) (excO o) = o) o (fun a b => @rfl O (.inst a b)) (fun a => @rfl O (.dict a)) (fun a => @rfl O (.odict a)) (fun a => @rfl O (.idict a)) (fun a => @rfl O (.list a)) (fun a => @rfl O (.tup a)) (fun a => @rfl O (.cell a)) (fun a => @rfl O (.«ints» a)) (fun a b c => @rfl O (.pdict a b c)) (fun a => @rfl O (.pidict a)) (fun a b => @rfl O (.cdict a b)) (fun a => @rfl O (.tlist a)) (fun a => @rfl O (.olist a)) (fun a => @rfl O (.exc a))
end
noncomputable def oneL {α : Type} (l : List α) : Option α := @List.rec α (fun _ => Option α) none (fun a r _ => @List.rec α (fun _ => Option α) (some a) (fun a b c => none) r) l
noncomputable def twoL {α : Type} (l : List α) : Option (α × α) := @List.rec α (fun _ => Option (α × α)) none (fun a r _ => oO (oneL r) fun b => some (a, b)) l
noncomputable def nilL {α : Type} (l : List α) : Bool := @List.rec α (fun _ => Bool) true (fun a b c => false) l
theorem oneL_el {α : Type} {l : List α} {a : α} (h : oneL l = some a) : l = [a] := by
  cases l with
  | nil => exact nS h
  | cons b r => cases r with
    | nil => exact congrArg (fun x => [x]) (Option.some.inj h)
    | cons _ _ => exact nS h
theorem twoL_el {α : Type} {l : List α} {q : α × α} (h : twoL l = some q) : l = [q.1, q.2] := by
  cases l with
  | nil => exact nS h
  | cons b r => exact oO_el h fun x e z => Option.some.inj z ▸ oneL_el e ▸ rfl
theorem nilL_el {α : Type} {l : List α} (h : nilL l = true) : l = [] := by
  cases l with
  | nil => rfl
  | cons _ _ => exact Bool.noConfusion h
structure FnI where
  qual : Str
  pars : List Str
  body : List Stmt
  sc : Scope
structure Tab where
  glob : List (Str × Value)
  blt : List (Str × Nat)
  fns : Nat → Option FnI
  inits : List (Nat × Nat)
  flds : List (Nat × List Str)
  spec : Nat → Option (Nat × Spec)
  tups : List (Nat × List Str)
  itups : List (Nat × List Int)
  q : Bool := false
noncomputable def guardQ (T : Tab) (k : Prop) : Prop := bE T.q False k
theorem guardQ_ok {T : Tab} {k G : Prop} (h : guardQ T k) (j : T.q = false → k → G) : G := bE_el h (fun _ h => h.elim) j
noncomputable def lkN {α : Type} (l : List (Nat × α)) (x : Nat) : Option α := lkB (fun y => Nat.beq y x) l
theorem lkN_cons {α : Type} (p : Nat × α) (r : List (Nat × α)) (x : Nat) : lkN (p :: r) x = match Nat.beq p.1 x with | true => some p.2 | false => lkN r x := rec_b _ _ _
noncomputable def okF (T : Tab) (c : Nat) (f : Str) : Bool := oT (lkN T.flds c) fun l => memS l f
noncomputable def lineS : Str := Str.ofString "line"
noncomputable def pdK (q : PD) : List (Str × V) := @PD.rec (fun _ => List (Str × V)) (fun kvs _ _ => kvs) q
noncomputable def fldO (H : Hp) (d : Nat) (f : Str) : Option V := oA (gOb dictO H d) (fun kvs => lkS kvs f) (oO (gOb pdictO H d) fun q => lkS (pdK q) f)
noncomputable def getR (T : Tab) (a : Nat) (f : Str) (σ : St) (K : KV) : Prop := oE (gOb instO σ.H a) (fun q => oB (fldO σ.H q.2 f) fun x => bB (okF T q.1 f && !isK x) (K x σ))
  (oB (gOb excO σ.H a) fun d => bB (Fast.sEq f lineS) (oB (fldO σ.H d f) fun x => bB (!isK x) (K x σ)))
noncomputable def getA (T : Tab) (v : V) (f : Str) (σ : St) (K : KV) : Prop := @V.rec (fun _ => Prop) False (fun a => False) (fun a => False) (fun a => False) (fun a => False) (fun a => False) (fun a => False) (fun a => getR T a f σ K) (fun a => False) (fun b x y => (b = true → getR T x f σ K) ∧ (b = false → getR T y f σ K)) v
noncomputable def setP (d : Nat) (f : Str) (x : V) (σ : St) (K : St → Prop) (q : PD) : Prop := @PD.rec (fun _ => Prop) (fun kvs abs b => bE (isSome' (lkS kvs f)) (K (σ.put d (.pdict (putS kvs f x) abs b))) (bB (Nat.ble (b + 1) 60) (K (σ.put d (.pdict (putS kvs f x) abs (b + 1)))))) q
noncomputable def setD (d : Nat) (f : Str) (x : V) (σ : St) (K : St → Prop) : Prop := oE (gOb dictO σ.H d) (fun kvs => bB (Nat.ble (putS kvs f x).length 60) (K (σ.put d (.dict (putS kvs f x))))) (oB (gOb pdictO σ.H d) (setP d f x σ K))
noncomputable def setA (T : Tab) (v : V) (f : Str) (x : V) (σ : St) (K : St → Prop) : Prop := oB (refO v) fun a => oB (gOb instO σ.H a) fun q => bB (okF T q.1 f && !isK x) (setD q.2 f x σ K)
noncomputable def eqInt (a b : Int) : Bool := decide (a = b)
noncomputable def ltInt (a b : Int) : Bool := decide (a < b)
noncomputable def opN (op : Operator) : Nat := op.ctorIdx
theorem opN_el {op : Operator} {n : Nat} (h : Nat.beq (opN op) n = true) : op = Operator.ofNat n := (Operator.ofNat_ctorIdx op).symm.trans (congrArg Operator.ofNat (Nat.eq_of_beq_eq_true h))
noncomputable def vi (known : Bool) (i : Int) : V := cond known (.int i) (.si i)
noncomputable def binI (op : Operator) (known : Bool) (a b : Int) (σ : St) (K : KV) : Prop := bE (Nat.beq (opN op) 0) (K (vi known (a + b)) σ) <| bE (Nat.beq (opN op) 1) (K (vi known (a - b)) σ) <| bB (Nat.beq (opN op) 5) (b ≠ 0 ∧ K (vi known (Int.fmod a b)) σ)
noncomputable def isLoc (k : NameKind) : Bool := Nat.beq k.ctorIdx 0
noncomputable def isCel (k : NameKind) : Bool := Nat.beq k.ctorIdx 1
noncomputable def isFree (k : NameKind) : Bool := Nat.beq k.ctorIdx 2
noncomputable def isGlo (k : NameKind) : Bool := Nat.beq k.ctorIdx 4
theorem kd_el {k : NameKind} {n : Nat} (h : Nat.beq k.ctorIdx n = true) : k = NameKind.ofNat n := (NameKind.ofNat_ctorIdx k).symm.trans (congrArg NameKind.ofNat (Nat.eq_of_beq_eq_true h))
theorem isLoc_el {k : NameKind} (h : isLoc k = true) : k = .local := kd_el h
theorem isCel_el {k : NameKind} (h : isCel k = true) : k = .cell := kd_el h
theorem isFree_el {k : NameKind} (h : isFree k = true) : k = .free := kd_el h
theorem isGlo_el {k : NameKind} (h : isGlo k = true) : k = .globalImplicit := kd_el h
noncomputable def stC1 (x : Str) (v : V) (σ : St) (K : St → Prop) : Prop := oB (lkS σ.cel x) fun a => oB (gOb cellO σ.H a) fun _ => K (σ.put a (.cell (some v)))
noncomputable def stN (sc : Names) (x : Str) (v : V) (σ : St) (K : St → Prop) : Prop := oB (lkS sc x) fun k => bE (isLoc k) (K { σ with loc := putS σ.loc x v }) (bB (isCel k) (stC1 x v σ K))
noncomputable def vb (known b : Bool) : V := cond known (.bool b) (.sb b)
noncomputable def binS (p q : Bool × Str) (σ : St) (K : KV) : Prop := bE (p.1 && q.1) (bB (Nat.ble (p.2.length + q.2.length) 16777216) (K (.str (p.2 ++ q.2)) σ)) (p.2.length + q.2.length ≤ 16777216 ∧ K (.ss (p.2 ++ q.2)) σ)
noncomputable def binV (op : Operator) (a b : V) (σ : St) (K : KV) : Prop := oE (intOf a) (fun p => oB (intOf b) fun q => binI op (p.1 && q.1) p.2 q.2 σ K) (oB (strOf a) fun p => oB (strOf b) fun q => bB (Nat.beq (opN op) 0) (binS p q σ K))
noncomputable def augV (op : Operator) (a b : V) (σ : St) (K : KV) : Prop := bB (Nat.beq (opN op) 0) (binV op a b σ K)
noncomputable def cmpN (op : CmpOp) : Nat := op.ctorIdx
theorem cmpN_el {op : CmpOp} {n : Nat} (h : Nat.beq (cmpN op) n = true) : op = CmpOp.ofNat n := (CmpOp.ofNat_ctorIdx op).symm.trans (congrArg CmpOp.ofNat (Nat.eq_of_beq_eq_true h))
noncomputable def xr (neg b : Bool) : Bool := @Bool.rec (fun _ => Bool) b (!b) neg
noncomputable def cmpIs (neg : Bool) (a b : V) (σ : St) (K : KV) : Prop := bB (noneV b) (oB (isNone a) fun r => K (.bool (xr neg r)) σ)
noncomputable def cmpII (neg : Bool) (p q : Bool × Int) (σ : St) (K : KV) : Prop := K (vb (p.1 && q.1) (xr neg (eqInt p.2 q.2))) σ
noncomputable def cmpSS (neg : Bool) (p q : Bool × Str) (σ : St) (K : KV) : Prop := K (vb (p.1 && q.1) (xr neg (Fast.sEq p.2 q.2))) σ
noncomputable def cmpEq (neg : Bool) (a b : V) (σ : St) (K : KV) : Prop := oE (intOf a) (fun p => oB (intOf b) fun q => cmpII neg p q σ K) (oB (strOf a) fun p => oB (strOf b) fun q => cmpSS neg p q σ K)
noncomputable def cmpLt (sw : Bool) (a b : V) (σ : St) (K : KV) : Prop := oB (intOf a) fun p => oB (intOf b) fun q => K (vb (p.1 && q.1) (cond sw (ltInt q.2 p.2) (ltInt p.2 q.2))) σ
noncomputable def cmpV (op : CmpOp) (a b : V) (σ : St) (K : KV) : Prop := bE (Nat.beq (cmpN op) 6) (cmpIs false a b σ K) <| bE (Nat.beq (cmpN op) 7) (cmpIs true a b σ K) <| bE (Nat.beq (cmpN op) 0) (cmpEq false a b σ K) <|
  bE (Nat.beq (cmpN op) 1) (cmpEq true a b σ K) <| bE (Nat.beq (cmpN op) 4) (cmpLt true a b σ K) <| bB (Nat.beq (cmpN op) 2) (cmpLt false a b σ K)
noncomputable def nthV {α : Type} (l : List α) (n : Nat) : Option α := @List.rec α (fun _ => Nat → Option α) (fun _ => none) (fun x _ ih n => @Nat.rec (fun _ => Option α) (some x) (fun m _ => ih m) n) l n
noncomputable def altV (l : List V) (n : Nat) (j : Int) (k : V → Prop) : Prop := @List.rec V (fun _ => Nat → Prop) (fun _ => True) (fun x _ ih n => (j = (n : Int) → k x) ∧ ih (n + 1)) l n
noncomputable def subL (xs : List V) (i : V) (σ : St) (K : KV) : Prop := oE (natK i) (fun j => bB (Nat.ble j 1000) (oB (nthV xs j) fun v => K v σ)) (oB (siO i) fun j => bB (Nat.ble xs.length 1000) ((0 ≤ j ∧ j < (xs.length : Int)) ∧ altV xs 0 j fun v => K v σ))
noncomputable def subD (i : V) (σ : St) (K : KV) (kvs : List (Str × V)) : Prop := oB (strK i) fun f => oB (lkS kvs f) fun v => K v σ
noncomputable def subI (i : V) (σ : St) (K : KV) (kvs : List (Int × V)) : Prop := oB (intK i) fun j => oB (lkI kvs j) fun v => K v σ
noncomputable def subO (i : V) (σ : St) (K : KV) (kvs : List (Str × Str)) : Prop := oB (strOf i) fun q => oB (lkS kvs q.2) fun v => K (.ss v) σ
noncomputable def subN (i : V) (σ : St) (K : KV) (ns : List Int) : Prop := oB (siO i) fun j => (ns.length ≤ 1000 ∧ 0 ≤ j ∧ j < (ns.length : Int)) ∧ K (.si (ns.getD j.toNat 0)) σ
noncomputable def subR (p : Nat) (i : V) (σ : St) (K : KV) : Prop := oE (gOb listO σ.H p) (fun xs => subL xs i σ K) <| oE (gOb tupO σ.H p) (fun xs => subL xs i σ K) <| oE (gOb dictO σ.H p) (subD i σ K) <| oE (gOb idictO σ.H p) (subI i σ K) <|
  oE (gOb pidictO σ.H p) (subI i σ K) <| oE (gOb odictO σ.H p) (subO i σ K) <| oB (gOb intsO σ.H p) (subN i σ K)
noncomputable def subV (a i : V) (σ : St) (K : KV) : Prop := oE (refO a) (fun p => subR p i σ K) (oB (strK a) fun s => oB (natK i) fun j => bB (Nat.ble j 1000) (oB (nthV s.cps.toList j) fun c => K (.str ⟨#[c]⟩) σ))
noncomputable def subT (T : Tab) (a i : V) (σ : St) (K : KV) : Prop := oE (kRef a) (fun p => oB (lkN T.itups p) (subN i σ K)) (subV a i σ K)
noncomputable def stD (p : Nat) (i v : V) (σ : St) (K : St → Prop) (kvs : List (Str × V)) : Prop := oB (strK i) fun f => bB (Nat.ble (putS kvs f v).length 60) (K (σ.put p (.dict (putS kvs f v))))
noncomputable def stO (p : Nat) (i v : V) (σ : St) (K : St → Prop) (kvs : List (Str × Str)) : Prop := oB (strOf i) fun f => oB (strOf v) fun u => (putS kvs f.2 u.2).length ≤ 60 ∧ K (σ.put p (.odict (putS kvs f.2 u.2)))
noncomputable def stCd (p : Nat) (i v : V) (σ : St) (K : St → Prop) (q : Nat × Nat) : Prop := oB (strK i) fun _ => oB (intOf v) fun j => (0 ≤ j.2 ∧ j.2 ≤ ((q.1 + 1 : Nat) : Int) ∧ q.2 + 1 ≤ 60) ∧ K (σ.put p (.cdict (q.1 + 1) (q.2 + 1)))
noncomputable def stI (o i v : V) (σ : St) (K : St → Prop) : Prop := oB (refO o) fun p => oE (gOb dictO σ.H p) (stD p i v σ K) <| oE (gOb odictO σ.H p) (stO p i v σ K) <| oE (gOb cdictO σ.H p) (stCd p i v σ K) <| oB (gOb pdictO σ.H p) fun q => oB (strK i) fun f => setP p f v σ K q
noncomputable def allOf {α : Type} (f : V → Option (Bool × α)) (l : List V) : Option (Bool × List α) := @List.rec V (fun _ => Option (Bool × List α)) (some (true, [])) (fun x _ ih => oO (f x) fun p => oO ih fun q => some (p.1 && q.1, p.2 :: q.2)) l
noncomputable def allInt (l : List V) : Option (Bool × List Int) := allOf intOf l
noncomputable def allStr (l : List V) : Option (Bool × List Str) := allOf strOf l
noncomputable def anyI (i : Int) : List Int → Bool
  | [] => false
  | j :: r => eqInt j i || anyI i r
noncomputable def subStr (s t : Str) : Bool := !(Builtin.Str.occurrences s t 0 s.length 1).isEmpty
noncomputable def inI (neg : Bool) (a : V) (σ : St) (K : KV) (xs : List V) : Prop := oB (intOf a) fun p => oB (allInt xs) fun q => K (vb (p.1 && q.1) (xr neg (anyI p.2 q.2))) σ
noncomputable def inT (neg : Bool) (a : V) (σ : St) (K : KV) (ss : List Str) : Prop := oB (strOf a) fun f => K (.sb (xr neg (memS ss f.2))) σ
noncomputable def inD (neg : Bool) (a : V) (σ : St) (K : KV) (kvs : List (Str × V)) : Prop := oB (strK a) fun f => K (.bool (xr neg (isSome' (lkS kvs f)))) σ
noncomputable def inO (neg : Bool) (a : V) (σ : St) (K : KV) (kvs : List (Str × Str)) : Prop := oB (strOf a) fun f => K (.sb (xr neg (isSome' (lkS kvs f.2)))) σ
noncomputable def inK (neg : Bool) (a : V) (σ : St) (K : KV) (ss : List Str) : Prop := oB (strOf a) fun f => K (vb f.1 (xr neg (memS ss f.2))) σ
noncomputable def inR (neg : Bool) (p : Nat) (a : V) (σ : St) (K : KV) : Prop := oE (gOb listO σ.H p) (inI neg a σ K) <| oE (gOb tupO σ.H p) (inI neg a σ K) <| oE (gOb tlistO σ.H p) (inT neg a σ K) <| oE (gOb dictO σ.H p) (inD neg a σ K) <| oB (gOb odictO σ.H p) (inO neg a σ K)
noncomputable def inV (T : Tab) (neg : Bool) (a b : V) (σ : St) (K : KV) : Prop := oE (refO b) (fun p => inR neg p a σ K) <| oE (kRef b) (fun p => oB (lkN T.tups p) (inK neg a σ K)) <| oB (strK b) fun s => oB (strK a) fun t => K (.bool (xr neg (subStr s t))) σ
noncomputable def binL (p q : Nat) (σ : St) (K : KV) : Prop := oB (gOb listO σ.H p) fun xs => oB (gOb listO σ.H q) fun ys => bB (Nat.ble (xs.length + ys.length) 1000) (K (.ref σ.nx) (σ.new (.list (xs ++ ys))))
noncomputable def binT (op : Operator) (a b : V) (σ : St) (K : KV) : Prop := oE (refO a) (fun p => oB (refO b) fun q => bB (Nat.beq (opN op) 0) (binL p q σ K)) (binV op a b σ K)
noncomputable def unL {α : Type} (l : List α) : Option (α × List α) := @List.rec α (fun _ => Option (α × List α)) none (fun x r _ => some (x, r)) l
theorem unL_el {α : Type} {l : List α} {q : α × List α} (h : unL l = some q) : l = q.1 :: q.2 := by
  cases l with
  | nil => exact nS h
  | cons x r => exact Option.some.inj h ▸ rfl
noncomputable def eqL (f : V → V → Option (Bool × Bool)) (xs ys : List V) : Option (Bool × List Bool) := @List.rec V (fun _ => List V → Option (Bool × List Bool)) (fun ys => bO (nilL ys) (some (true, [])))
  (fun x _ ih ys => oO (unL ys) fun y => oO (f x y.1) fun p => oO (ih y.2) fun q => some (p.1 && q.1, p.2 :: q.2)) xs ys
noncomputable def andL (l : List Bool) : Bool := @List.rec Bool (fun _ => Bool) true (fun b _ ih => b && ih) l
noncomputable def bA {α : Type} (b : Bool) (x y : α) : α := @Bool.rec (fun _ => α) y x b
theorem bA_el {β : Type} {b : Bool} {x z : Option β} {y : β} {G : Prop} (h : bA b x z = some y) (k : b = true → x = some y → G) (j : b = false → z = some y → G) : G := by
  cases b with
  | true => exact k rfl h
  | false => exact j rfl h
noncomputable def eqX (f : V → V → Option (Bool × Bool)) (d : Option (Bool × Bool)) (xs ys : List V) : Option (Bool × Bool) := bA (Nat.beq xs.length ys.length) (oO (eqL f xs ys) fun q => some (q.1, andL q.2)) d
noncomputable def eqR (f : V → V → Option (Bool × Bool)) (H : Hp) (p q : Nat) : Option (Bool × Bool) := bA (Nat.beq p q) none (oA (gOb listO H p) (fun xs => oO (gOb listO H q) (eqX f (some (true, false)) xs)) (oO (gOb tupO H p) fun xs => oO (gOb tupO H q) (eqX f none xs)))
noncomputable def eqS (f : V → V → Option (Bool × Bool)) (H : Hp) (a b : V) : Option (Bool × Bool) := oA (intOf a) (fun p => oO (intOf b) fun q => some (p.1 && q.1, eqInt p.2 q.2)) <| oA (strOf a) (fun p => oO (strOf b) fun q => some (p.1 && q.1, Fast.sEq p.2 q.2)) <|
  bA (noneV a) (bO (noneV b) (some (true, true))) <| oO (refO a) fun p => oO (refO b) (eqR f H p)
noncomputable def eqD (n : Nat) (H : Hp) : V → V → Option (Bool × Bool) := @Nat.rec (fun _ => V → V → Option (Bool × Bool)) (fun _ _ => none) (fun _ f => eqS f H) n
noncomputable def twoT (H : Hp) (v : V) : Option (List (Str × Str) × List (Str × Str)) := oO (refO v) fun p => oO (gOb listO H p) fun l => oO (twoL l) fun q => oO (refO q.1) fun x => oO (refO q.2) fun y => oO (gOb odictO H x) fun kx => oO (gOb odictO H y) fun ky => some (kx, ky)
noncomputable def eqRef (a b : V) (σ : St) (K : KV) : Prop := oE (twoT σ.H a) (fun k => oB (twoT σ.H b) fun k' => (k.1 = k'.1 ∧ k.2 = k'.2) ∧ K (.bool true) σ) (oB (eqD 6 σ.H a b) fun r => K (vb r.1 r.2) σ)
noncomputable def neRef (a b : V) (p q : Nat) (σ : St) (K : KV) : Prop := oE (gOb listO σ.H p) (fun xs => oB (gOb listO σ.H q) fun ys => oB (eqD 6 σ.H a b) fun r => K (vb r.1 (!r.2)) σ) (oB (gOb tlistO σ.H p) fun ss => oB (gOb listO σ.H q) fun ys => bB (nilL ys) (K (.sb (!nilL ss)) σ))
noncomputable def cmpT (T : Tab) (op : CmpOp) (a b : V) (σ : St) (K : KV) : Prop := bE (Nat.beq (cmpN op) 8) (inV T false a b σ K) <| bE (Nat.beq (cmpN op) 9) (inV T true a b σ K) <| oE (refO a) (fun p => oE (refO b) (fun q => bE (Nat.beq (cmpN op) 0) (eqRef a b σ K) (bB (Nat.beq (cmpN op) 1) (neRef a b p q σ K))) (cmpV op a b σ K)) (cmpV op a b σ K)
noncomputable def negV (v : V) (σ : St) (K : KV) : Prop := oB (intK v) fun i => K (.int (-i)) σ
noncomputable def bltVal : Nat → Value
  | 0 => .builtin "len"
  | 1 => .type "str"
  | 2 => .type "list"
  | 3 => .type "dict"
  | 5 => .builtin "sorted"
  | _ => .type "range"
noncomputable def lenK (σ : St) (K : KV) (n : Nat) : Prop := bB (Nat.ble n 1000) (K (.int (Int.ofNat n)) σ)
noncomputable def vcLen (T : Tab) (v : V) (σ : St) (K : KV) : Prop := oE (refO v) (fun p => oE (gOb listO σ.H p) (fun xs => lenK σ K xs.length) <| oE (gOb tupO σ.H p) (fun xs => lenK σ K xs.length) <| oB (gOb intsO σ.H p) fun ns => ns.length ≤ 1000 ∧ K (.si (Int.ofNat ns.length)) σ)
  (oB (kRef v) fun p => oB (lkN T.itups p) fun ns => lenK σ K ns.length)
noncomputable def vcStr (v : V) (σ : St) (K : KV) : Prop := oB (intOf v) fun q => bE q.1 (bB (Nat.ble q.2.natAbs 1000000) (K (.str (Str.ofString (toString q.2))) σ)) (q.2.natAbs ≤ 1000000 ∧ K (.ss (Str.ofString (toString q.2))) σ)
noncomputable def vcLst (v : V) (σ : St) (K : KV) : Prop := oB (refO v) fun p => oB (gOb listO σ.H p) fun xs => bB (Nat.ble xs.length 1000) (K (.ref σ.nx) (σ.new (.list xs)))
noncomputable def vcDct (v : V) (σ : St) (K : KV) : Prop := oB (refO v) fun p => oB (gOb odictO σ.H p) fun kvs => K (.ref σ.nx) (σ.new (.odict kvs))
noncomputable def vcSrt (T : Tab) (v : V) (σ : St) (K : KV) : Prop := guardQ T (oB (refO v) fun p => oB (gOb odictO σ.H p) fun kvs => ∀ ks : List Str, (∀ k, memS ks k = isSome' (lkS kvs k)) → ks.length ≤ 60 → K (.ref σ.nx) (σ.new (.tlist ks)))
noncomputable def vcBi (T : Tab) (code : Nat) (vs : List V) (σ : St) (K : KV) : Prop := oB (oneL vs) fun v => bE (Nat.beq code 0) (vcLen T v σ K) <| bE (Nat.beq code 1) (vcStr v σ K) <| bE (Nat.beq code 2) (vcLst v σ K) <| bE (Nat.beq code 3) (vcDct v σ K) <| bB (Nat.beq code 5) (vcSrt T v σ K)
noncomputable def methS : List (Str × Nat) := [(Str.ofString "append", 0), (Str.ofString "get", 1), (Str.ofString "setdefault", 2), (Str.ofString "join", 3)]
noncomputable def methB (code : Nat) (o : O) : Bool := @O.rec (fun _ => Bool) (fun _ _ => false) (fun _ => Nat.beq code 1 || Nat.beq code 2) (fun _ => false) (fun _ => Nat.beq code 1 || Nat.beq code 2) (fun _ => Nat.beq code 0) (fun _ => false) (fun _ => false) (fun _ => false) (fun _ _ _ => Nat.beq code 1 || Nat.beq code 2) (fun _ => Nat.beq code 1) (fun _ _ => Nat.beq code 1) (fun _ => false) (fun _ => Nat.beq code 0) (fun _ => false) o
noncomputable def methOk (code : Nat) (v : V) (σ : St) : Bool := @Option.rec Nat (fun _ => Bool) (oT (strK v) fun _ => Nat.beq code 3) (fun p => oT (get σ.H p) (methB code)) (refO v)
noncomputable def sumLen (l : List Str) : Nat := @List.rec Str (fun _ => Nat) 0 (fun s _ ih => s.length + ih) l
noncomputable def mApp (p : Nat) (v : V) (σ : St) (K : KV) : Prop := oE (gOb listO σ.H p) (fun xs => bB (Nat.ble xs.length 1000) (K .none (σ.put p (.list (xs ++ [v]))))) (oB (gOb olistO σ.H p) fun xs => xs.length ≤ 1000 ∧ K .none (σ.put p (.olist (xs ++ [v]))))
noncomputable def mGet1 (p : Nat) (k : V) (σ : St) (K : KV) : Prop := oE (gOb dictO σ.H p) (fun kvs => oE (strK k) (fun f => oE (lkS kvs f) (fun v => K v σ) (K .none σ)) (bB (nilL kvs) (oB (intK k) fun _ => K .none σ))) <|
  oE (gOb idictO σ.H p) (fun kvs => oB (intK k) fun f => oE (lkI kvs f) (fun v => K v σ) (K .none σ)) <| oB (gOb pidictO σ.H p) (subI k σ K)
noncomputable def mGetP (f : Str) (d : V) (σ : St) (K : KV) (q : PD) : Prop := @PD.rec (fun _ => Prop) (fun kvs abs _ => oE (lkS kvs f) (fun v => K v σ) (bB (memS abs f) (K d σ))) q
noncomputable def mGet2 (p : Nat) (k d : V) (σ : St) (K : KV) : Prop := oB (strK k) fun f => oE (gOb dictO σ.H p) (fun kvs => oE (lkS kvs f) (fun v => K v σ) (K d σ)) <| oE (gOb pdictO σ.H p) (mGetP f d σ K) <|
  oB (gOb cdictO σ.H p) fun q => oB (intK d) fun z => bB (eqInt z 0) (∀ j : Int, 0 ≤ j → j ≤ (q.1 : Int) → K (.si j) σ)
noncomputable def mSetP (p : Nat) (f : Str) (d : V) (σ : St) (K : KV) (q : PD) : Prop := @PD.rec (fun _ => Prop) (fun kvs abs b => oE (lkS kvs f) (fun v => K v σ) (bB (memS abs f && Nat.ble (b + 1) 60) (K d (σ.put p (.pdict (putS kvs f d) abs (b + 1)))))) q
noncomputable def mSetS (p : Nat) (d : V) (σ : St) (K : KV) (kvs : List (Str × V)) (f : Str) : Prop := oE (lkS kvs f) (fun v => K v σ) (bB (Nat.ble (putS kvs f d).length 60) (K d (σ.put p (.dict (putS kvs f d)))))
noncomputable def mSetI (p : Nat) (d : V) (σ : St) (K : KV) (kvs : List (Int × V)) (f : Int) : Prop := oE (lkI kvs f) (fun v => K v σ) (bB (Nat.ble (putI kvs f d).length 60) (K d (σ.put p (.idict (putI kvs f d)))))
noncomputable def mSet (p : Nat) (k d : V) (σ : St) (K : KV) : Prop := oE (gOb dictO σ.H p) (fun kvs => oE (strK k) (mSetS p d σ K kvs) (bB (nilL kvs) (oB (intK k) fun f => K d (σ.put p (.idict [(f, d)]))))) <|
  oE (gOb idictO σ.H p) (fun kvs => oB (intK k) (mSetI p d σ K kvs)) <| oB (gOb pdictO σ.H p) fun q => oB (strK k) fun f => mSetP p f d σ K q
noncomputable def mJoin (x : Str) (v : V) (σ : St) (K : KV) : Prop := oB (refO v) fun p => oB (gOb listO σ.H p) fun xs => oB (allStr xs) fun q => bB (Nat.ble x.length 64) (bE q.1 (bB (Nat.ble (sumLen q.2 + q.2.length * 64) 16777216) (K (.str (Txt.join x q.2)) σ)) (sumLen q.2 + q.2.length * 64 ≤ 16777216 ∧ K (.ss (Txt.join x q.2)) σ))
noncomputable def mRef (code p : Nat) (vs : List V) (σ : St) (K : KV) : Prop := bE (Nat.beq code 0) (oB (oneL vs) fun v => mApp p v σ K) <| bE (Nat.beq code 1) (oE (oneL vs) (fun k => mGet1 p k σ K) (oB (twoL vs) fun q => mGet2 p q.1 q.2 σ K)) <| bB (Nat.beq code 2) (oB (twoL vs) fun q => mSet p q.1 q.2 σ K)
noncomputable def vcMeth (code : Nat) (o : V) (vs : List V) (σ : St) (K : KV) : Prop := oE (refO o) (fun p => mRef code p vs σ K) (oB (strK o) fun x => bB (Nat.beq code 3) (oB (oneL vs) fun v => mJoin x v σ K))
noncomputable def testV (v : V) (K : Bool → Prop) : Prop := @V.rec (fun _ => Prop) False K (fun b => (b = true → K true) ∧ (b = false → K false)) (fun a => False) (fun a => False) (fun a => False) (fun a => False) (fun a => False) (fun a => False) (fun _ _ _ => False) v
noncomputable def zipL (xs : List Str) (vs : List V) : List (Str × V) := @List.rec Str (fun _ => List V → List (Str × V)) (fun _ => []) (fun x _ ih vs => @List.rec V (fun _ => List (Str × V)) [] (fun v r _ => (x, v) :: ih r) vs) xs vs
noncomputable def notSlice (e : Expr) : Bool := !Nat.beq e.ctorIdx 26
noncomputable def noSetC (e : Expr) : Bool := !Nat.beq e.ctorIdx 9 && !Nat.beq e.ctorIdx 10
noncomputable def okVal (e : Expr) : Bool := noSetC e
noncomputable def noComp (e : Expr) : Bool := !Nat.beq e.ctorIdx 8 && noSetC e
noncomputable def plainArg (e : Expr) : Bool := !Nat.beq e.ctorIdx 22
noncomputable def plainIter (e : Expr) : Bool := !Nat.beq e.ctorIdx 7
noncomputable def isName (e : Expr) : Bool := Nat.beq e.ctorIdx 23
noncomputable def isCall (e : Expr) : Bool := Nat.beq e.ctorIdx 16
noncomputable def nameO (e : Expr) : Option (Str × Pos) := @Expr.casesOn (fun _ => Option (Str × Pos)) e (fun a b c => none) (fun a b c => none) (fun a b c d => none) (fun a b c => none) (fun a b c d => none) (fun a b c d => none) (fun a b c => none) (fun a b c => none) (fun a b c d => none) (fun a b c d => none) (fun a b c d e => none) (fun a b c d => none) (fun a b => none) (fun a b => none) (fun a b => none) (fun a b c d => none) (fun a b c d => none) (fun a b c d => none) (fun a b => none) (fun a b c => none) (fun a b c => none) (fun a b c => none) (fun a b => none) (fun a b => some ((a, b))) (fun a b => none) (fun a b c => none) (fun a b c d => none)
theorem name_el {e : Expr} {q : Str × Pos} (h : nameO e = some q) : e = .Name q.1 q.2 := view_el (g := fun q => .Name q.1 q.2) (@Expr.casesOn (fun e => @Option.rec (Str × Pos) (fun _ => Expr) e (fun q => .Name q.1 q.2) (nameO e) = e) e (fun a b c => @rfl Expr (.BoolOp a b c)) (fun a b c => @rfl Expr (.NamedExpr a b c)) (fun a b c d => @rfl Expr (.BinOp a b c d)) (fun a b c => @rfl Expr (.UnaryOp a b c)) (fun a b c d => @rfl Expr (.Lambda a b c d)) (fun a b c d => @rfl Expr (.IfExp a b c d)) (fun a b c => @rfl Expr (.Dict a b c)) (fun a b c => @rfl Expr (.Set a b c)) (fun a b c d => @rfl Expr (.ListComp a b c d)) (fun a b c d => @rfl Expr (.SetComp a b c d)) (fun a b c d e => @rfl Expr (.DictComp a b c d e)) (fun a b c d => @rfl Expr (.GeneratorExp a b c d)) (fun a b => @rfl Expr (.Await a b)) (fun a b => @rfl Expr (.Yield a b)) (fun a b => @rfl Expr (.YieldFrom a b)) (fun a b c d => @rfl Expr (.Compare a b c d)) (fun a b c d => @rfl Expr (.Call a b c d)) (fun a b c d => @rfl Expr (.FormattedValue a b c d)) (fun a b => @rfl Expr (.JoinedStr a b)) (fun a b c => @rfl Expr (.Constant a b c)) (fun a b c => @rfl Expr (.Attribute a b c)) (fun a b c => @rfl Expr (.Subscript a b c)) (fun a b => @rfl Expr (.Starred a b)) (fun a b => @rfl Expr (.Name a b)) (fun a b => @rfl Expr (.List a b)) (fun a b c => @rfl Expr (.Tuple a b c)) (fun a b c d => @rfl Expr (.Slice a b c d))) h
noncomputable def attrO (e : Expr) : Option (Expr × Str × Pos) := @Expr.casesOn (fun _ => Option (Expr × Str × Pos)) e (fun a b c => none) (fun a b c => none) (fun a b c d => none) (fun a b c => none) (fun a b c d => none) (fun a b c d => none) (fun a b c => none) (fun a b c => none) (fun a b c d => none) (fun a b c d => none) (fun a b c d e => none) (fun a b c d => none) (fun a b => none) (fun a b => none) (fun a b => none) (fun a b c d => none) (fun a b c d => none) (fun a b c d => none) (fun a b => none) (fun a b c => none) (fun a b c => some ((a, b, c))) (fun a b c => none) (fun a b => none) (fun a b => none) (fun a b => none) (fun a b c => none) (fun a b c d => none)
theorem attr_el {e : Expr} {q : Expr × Str × Pos} (h : attrO e = some q) : e = .Attribute q.1 q.2.1 q.2.2 := view_el (g := fun q => .Attribute q.1 q.2.1 q.2.2) (@Expr.casesOn (fun e => @Option.rec (Expr × Str × Pos) (fun _ => Expr) e (fun q => .Attribute q.1 q.2.1 q.2.2) (attrO e) = e) e (fun a b c => @rfl Expr (.BoolOp a b c)) (fun a b c => @rfl Expr (.NamedExpr a b c)) (fun a b c d => @rfl Expr (.BinOp a b c d)) (fun a b c => @rfl Expr (.UnaryOp a b c)) (fun a b c d => @rfl Expr (.Lambda a b c d)) (fun a b c d => @rfl Expr (.IfExp a b c d)) (fun a b c => @rfl Expr (.Dict a b c)) (fun a b c => @rfl Expr (.Set a b c)) (fun a b c d => @rfl Expr (.ListComp a b c d)) (fun a b c d => @rfl Expr (.SetComp a b c d)) (fun a b c d e => @rfl Expr (.DictComp a b c d e)) (fun a b c d => @rfl Expr (.GeneratorExp a b c d)) (fun a b => @rfl Expr (.Await a b)) (fun a b => @rfl Expr (.Yield a b)) (fun a b => @rfl Expr (.YieldFrom a b)) (fun a b c d => @rfl Expr (.Compare a b c d)) (fun a b c d => @rfl Expr (.Call a b c d)) (fun a b c d => @rfl Expr (.FormattedValue a b c d)) (fun a b => @rfl Expr (.JoinedStr a b)) (fun a b c => @rfl Expr (.Constant a b c)) (fun a b c => @rfl Expr (.Attribute a b c)) (fun a b c => @rfl Expr (.Subscript a b c)) (fun a b => @rfl Expr (.Starred a b)) (fun a b => @rfl Expr (.Name a b)) (fun a b => @rfl Expr (.List a b)) (fun a b c => @rfl Expr (.Tuple a b c)) (fun a b c d => @rfl Expr (.Slice a b c d))) h
noncomputable def callO (e : Expr) : Option (Expr × List Expr × List Keyword × Pos) := @Expr.casesOn (fun _ => Option (Expr × List Expr × List Keyword × Pos)) e (fun a b c => none) (fun a b c => none) (fun a b c d => none) (fun a b c => none) (fun a b c d => none) (fun a b c d => none) (fun a b c => none) (fun a b c => none) (fun a b c d => none) (fun a b c d => none) (fun a b c d e => none) (fun a b c d => none) (fun a b => none) (fun a b => none) (fun a b => none) (fun a b c d => none) (fun a b c d => some ((a, b, c, d))) (fun a b c d => none) (fun a b => none) (fun a b c => none) (fun a b c => none) (fun a b c => none) (fun a b => none) (fun a b => none) (fun a b => none) (fun a b c => none) (fun a b c d => none)
theorem call_el {e : Expr} {q : Expr × List Expr × List Keyword × Pos} (h : callO e = some q) : e = .Call q.1 q.2.1 q.2.2.1 q.2.2.2 := view_el (g := fun q => .Call q.1 q.2.1 q.2.2.1 q.2.2.2) (@Expr.casesOn (fun e => @Option.rec (Expr × List Expr × List Keyword × Pos) (fun _ => Expr) e (fun q => .Call q.1 q.2.1 q.2.2.1 q.2.2.2) (callO e) = e) e (fun a b c => @rfl Expr (.BoolOp a b c)) (fun a b c => @rfl Expr (.NamedExpr a b c)) (fun a b c d => @rfl Expr (.BinOp a b c d)) (fun a b c => @rfl Expr (.UnaryOp a b c)) (fun a b c d => @rfl Expr (.Lambda a b c d)) (fun a b c d => @rfl Expr (.IfExp a b c d)) (fun a b c => @rfl Expr (.Dict a b c)) (fun a b c => @rfl Expr (.Set a b c)) (fun a b c d => @rfl Expr (.ListComp a b c d)) (fun a b c d => @rfl Expr (.SetComp a b c d)) (fun a b c d e => @rfl Expr (.DictComp a b c d e)) (fun a b c d => @rfl Expr (.GeneratorExp a b c d)) (fun a b => @rfl Expr (.Await a b)) (fun a b => @rfl Expr (.Yield a b)) (fun a b => @rfl Expr (.YieldFrom a b)) (fun a b c d => @rfl Expr (.Compare a b c d)) (fun a b c d => @rfl Expr (.Call a b c d)) (fun a b c d => @rfl Expr (.FormattedValue a b c d)) (fun a b => @rfl Expr (.JoinedStr a b)) (fun a b c => @rfl Expr (.Constant a b c)) (fun a b c => @rfl Expr (.Attribute a b c)) (fun a b c => @rfl Expr (.Subscript a b c)) (fun a b => @rfl Expr (.Starred a b)) (fun a b => @rfl Expr (.Name a b)) (fun a b => @rfl Expr (.List a b)) (fun a b c => @rfl Expr (.Tuple a b c)) (fun a b c d => @rfl Expr (.Slice a b c d))) h
noncomputable def tupEO (e : Expr) : Option (List Expr × Nat × Pos) := @Expr.casesOn (fun _ => Option (List Expr × Nat × Pos)) e (fun a b c => none) (fun a b c => none) (fun a b c d => none) (fun a b c => none) (fun a b c d => none) (fun a b c d => none) (fun a b c => none) (fun a b c => none) (fun a b c d => none) (fun a b c d => none) (fun a b c d e => none) (fun a b c d => none) (fun a b => none) (fun a b => none) (fun a b => none) (fun a b c d => none) (fun a b c d => none) (fun a b c d => none) (fun a b => none) (fun a b c => none) (fun a b c => none) (fun a b c => none) (fun a b => none) (fun a b => none) (fun a b => none) (fun a b c => some ((a, b, c))) (fun a b c d => none)
theorem tupE_el {e : Expr} {q : List Expr × Nat × Pos} (h : tupEO e = some q) : e = .Tuple q.1 q.2.1 q.2.2 := view_el (g := fun q => .Tuple q.1 q.2.1 q.2.2) (@Expr.casesOn (fun e => @Option.rec (List Expr × Nat × Pos) (fun _ => Expr) e (fun q => .Tuple q.1 q.2.1 q.2.2) (tupEO e) = e) e (fun a b c => @rfl Expr (.BoolOp a b c)) (fun a b c => @rfl Expr (.NamedExpr a b c)) (fun a b c d => @rfl Expr (.BinOp a b c d)) (fun a b c => @rfl Expr (.UnaryOp a b c)) (fun a b c d => @rfl Expr (.Lambda a b c d)) (fun a b c d => @rfl Expr (.IfExp a b c d)) (fun a b c => @rfl Expr (.Dict a b c)) (fun a b c => @rfl Expr (.Set a b c)) (fun a b c d => @rfl Expr (.ListComp a b c d)) (fun a b c d => @rfl Expr (.SetComp a b c d)) (fun a b c d e => @rfl Expr (.DictComp a b c d e)) (fun a b c d => @rfl Expr (.GeneratorExp a b c d)) (fun a b => @rfl Expr (.Await a b)) (fun a b => @rfl Expr (.Yield a b)) (fun a b => @rfl Expr (.YieldFrom a b)) (fun a b c d => @rfl Expr (.Compare a b c d)) (fun a b c d => @rfl Expr (.Call a b c d)) (fun a b c d => @rfl Expr (.FormattedValue a b c d)) (fun a b => @rfl Expr (.JoinedStr a b)) (fun a b c => @rfl Expr (.Constant a b c)) (fun a b c => @rfl Expr (.Attribute a b c)) (fun a b c => @rfl Expr (.Subscript a b c)) (fun a b => @rfl Expr (.Starred a b)) (fun a b => @rfl Expr (.Name a b)) (fun a b => @rfl Expr (.List a b)) (fun a b c => @rfl Expr (.Tuple a b c)) (fun a b c d => @rfl Expr (.Slice a b c d))) h
noncomputable def subEO (e : Expr) : Option (Expr × Expr × Pos) := @Expr.casesOn (fun _ => Option (Expr × Expr × Pos)) e (fun a b c => none) (fun a b c => none) (fun a b c d => none) (fun a b c => none) (fun a b c d => none) (fun a b c d => none) (fun a b c => none) (fun a b c => none) (fun a b c d => none) (fun a b c d => none) (fun a b c d e => none) (fun a b c d => none) (fun a b => none) (fun a b => none) (fun a b => none) (fun a b c d => none) (fun a b c d => none) (fun a b c d => none) (fun a b => none) (fun a b c => none) (fun a b c => none) (fun a b c => some ((a, b, c))) (fun a b => none) (fun a b => none) (fun a b => none) (fun a b c => none) (fun a b c d => none)
theorem subE_el {e : Expr} {q : Expr × Expr × Pos} (h : subEO e = some q) : e = .Subscript q.1 q.2.1 q.2.2 := view_el (g := fun q => .Subscript q.1 q.2.1 q.2.2) (@Expr.casesOn (fun e => @Option.rec (Expr × Expr × Pos) (fun _ => Expr) e (fun q => .Subscript q.1 q.2.1 q.2.2) (subEO e) = e) e (fun a b c => @rfl Expr (.BoolOp a b c)) (fun a b c => @rfl Expr (.NamedExpr a b c)) (fun a b c d => @rfl Expr (.BinOp a b c d)) (fun a b c => @rfl Expr (.UnaryOp a b c)) (fun a b c d => @rfl Expr (.Lambda a b c d)) (fun a b c d => @rfl Expr (.IfExp a b c d)) (fun a b c => @rfl Expr (.Dict a b c)) (fun a b c => @rfl Expr (.Set a b c)) (fun a b c d => @rfl Expr (.ListComp a b c d)) (fun a b c d => @rfl Expr (.SetComp a b c d)) (fun a b c d e => @rfl Expr (.DictComp a b c d e)) (fun a b c d => @rfl Expr (.GeneratorExp a b c d)) (fun a b => @rfl Expr (.Await a b)) (fun a b => @rfl Expr (.Yield a b)) (fun a b => @rfl Expr (.YieldFrom a b)) (fun a b c d => @rfl Expr (.Compare a b c d)) (fun a b c d => @rfl Expr (.Call a b c d)) (fun a b c d => @rfl Expr (.FormattedValue a b c d)) (fun a b => @rfl Expr (.JoinedStr a b)) (fun a b c => @rfl Expr (.Constant a b c)) (fun a b c => @rfl Expr (.Attribute a b c)) (fun a b c => @rfl Expr (.Subscript a b c)) (fun a b => @rfl Expr (.Starred a b)) (fun a b => @rfl Expr (.Name a b)) (fun a b => @rfl Expr (.List a b)) (fun a b c => @rfl Expr (.Tuple a b c)) (fun a b c d => @rfl Expr (.Slice a b c d))) h
noncomputable def sliceO (e : Expr) : Option (Option Expr × Option Expr × Option Expr × Pos) := @Expr.casesOn (fun _ => Option (Option Expr × Option Expr × Option Expr × Pos)) e (fun a b c => none) (fun a b c => none) (fun a b c d => none) (fun a b c => none) (fun a b c d => none) (fun a b c d => none) (fun a b c => none) (fun a b c => none) (fun a b c d => none) (fun a b c d => none) (fun a b c d e => none) (fun a b c d => none) (fun a b => none) (fun a b => none) (fun a b => none) (fun a b c d => none) (fun a b c d => none) (fun a b c d => none) (fun a b => none) (fun a b c => none) (fun a b c => none) (fun a b c => none) (fun a b => none) (fun a b => none) (fun a b => none) (fun a b c => none) (fun a b c d => some ((a, b, c, d)))
theorem slice_el {e : Expr} {q : Option Expr × Option Expr × Option Expr × Pos} (h : sliceO e = some q) : e = .Slice q.1 q.2.1 q.2.2.1 q.2.2.2 := view_el (g := fun q => .Slice q.1 q.2.1 q.2.2.1 q.2.2.2) (@Expr.casesOn (fun e => @Option.rec (Option Expr × Option Expr × Option Expr × Pos) (fun _ => Expr) e (fun q => .Slice q.1 q.2.1 q.2.2.1 q.2.2.2) (sliceO e) = e) e (fun a b c => @rfl Expr (.BoolOp a b c)) (fun a b c => @rfl Expr (.NamedExpr a b c)) (fun a b c d => @rfl Expr (.BinOp a b c d)) (fun a b c => @rfl Expr (.UnaryOp a b c)) (fun a b c d => @rfl Expr (.Lambda a b c d)) (fun a b c d => @rfl Expr (.IfExp a b c d)) (fun a b c => @rfl Expr (.Dict a b c)) (fun a b c => @rfl Expr (.Set a b c)) (fun a b c d => @rfl Expr (.ListComp a b c d)) (fun a b c d => @rfl Expr (.SetComp a b c d)) (fun a b c d e => @rfl Expr (.DictComp a b c d e)) (fun a b c d => @rfl Expr (.GeneratorExp a b c d)) (fun a b => @rfl Expr (.Await a b)) (fun a b => @rfl Expr (.Yield a b)) (fun a b => @rfl Expr (.YieldFrom a b)) (fun a b c d => @rfl Expr (.Compare a b c d)) (fun a b c d => @rfl Expr (.Call a b c d)) (fun a b c d => @rfl Expr (.FormattedValue a b c d)) (fun a b => @rfl Expr (.JoinedStr a b)) (fun a b c => @rfl Expr (.Constant a b c)) (fun a b c => @rfl Expr (.Attribute a b c)) (fun a b c => @rfl Expr (.Subscript a b c)) (fun a b => @rfl Expr (.Starred a b)) (fun a b => @rfl Expr (.Name a b)) (fun a b => @rfl Expr (.List a b)) (fun a b c => @rfl Expr (.Tuple a b c)) (fun a b c d => @rfl Expr (.Slice a b c d))) h
noncomputable def raiseO (e : Stmt) : Option (Option Expr × Option Expr × Pos) := @Stmt.casesOn (fun _ => Option (Option Expr × Option Expr × Pos)) e (fun a b c d e f g h i j => none) (fun a b c d e f g h i j => none) (fun a b c d e f g h i j k => none) (fun a b => none) (fun a b => none) (fun a b c => none) (fun a b c d e f g => none) (fun a b c d => none) (fun a b c d e => none) (fun a b c d e => none) (fun a b c d e => none) (fun a b c d => none) (fun a b c d => none) (fun a b c => none) (fun a b c => none) (fun a b c => none) (fun a b c => some ((a, b, c))) (fun a b c d e => none) (fun a b c d e => none) (fun a b c => none) (fun a b => none) (fun a b c d => none) (fun a b => none) (fun a b => none) (fun a b => none) (fun a => none) (fun a => none) (fun a => none)
theorem raise_el {e : Stmt} {q : Option Expr × Option Expr × Pos} (h : raiseO e = some q) : e = .Raise q.1 q.2.1 q.2.2 := view_el (g := fun q => .Raise q.1 q.2.1 q.2.2) (@Stmt.casesOn (fun e => @Option.rec (Option Expr × Option Expr × Pos) (fun _ => Stmt) e (fun q => .Raise q.1 q.2.1 q.2.2) (raiseO e) = e) e (fun a b c d e f g h i j => @rfl Stmt (.FunctionDef a b c d e f g h i j)) (fun a b c d e f g h i j => @rfl Stmt (.AsyncFunctionDef a b c d e f g h i j)) (fun a b c d e f g h i j k => @rfl Stmt (.ClassDef a b c d e f g h i j k)) (fun a b => @rfl Stmt (.Return a b)) (fun a b => @rfl Stmt (.Delete a b)) (fun a b c => @rfl Stmt (.Assign a b c)) (fun a b c d e f g => @rfl Stmt (.TypeAlias a b c d e f g)) (fun a b c d => @rfl Stmt (.AugAssign a b c d)) (fun a b c d e => @rfl Stmt (.AnnAssign a b c d e)) (fun a b c d e => @rfl Stmt (.For a b c d e)) (fun a b c d e => @rfl Stmt (.AsyncFor a b c d e)) (fun a b c d => @rfl Stmt (.While a b c d)) (fun a b c d => @rfl Stmt (.If a b c d)) (fun a b c => @rfl Stmt (.With a b c)) (fun a b c => @rfl Stmt (.AsyncWith a b c)) (fun a b c => @rfl Stmt (.Match a b c)) (fun a b c => @rfl Stmt (.Raise a b c)) (fun a b c d e => @rfl Stmt (.Try a b c d e)) (fun a b c d e => @rfl Stmt (.TryStar a b c d e)) (fun a b c => @rfl Stmt (.Assert a b c)) (fun a b => @rfl Stmt (.Import a b)) (fun a b c d => @rfl Stmt (.ImportFrom a b c d)) (fun a b => @rfl Stmt (.Global a b)) (fun a b => @rfl Stmt (.Nonlocal a b)) (fun a b => @rfl Stmt (.Expr a b)) (fun a => @rfl Stmt (.Pass a)) (fun a => @rfl Stmt (.Break a)) (fun a => @rfl Stmt (.Continue a))) h
noncomputable def ifO (e : Stmt) : Option (Expr × List Stmt × List Stmt × Pos) := @Stmt.casesOn (fun _ => Option (Expr × List Stmt × List Stmt × Pos)) e (fun a b c d e f g h i j => none) (fun a b c d e f g h i j => none) (fun a b c d e f g h i j k => none) (fun a b => none) (fun a b => none) (fun a b c => none) (fun a b c d e f g => none) (fun a b c d => none) (fun a b c d e => none) (fun a b c d e => none) (fun a b c d e => none) (fun a b c d => none) (fun a b c d => some ((a, b, c, d))) (fun a b c => none) (fun a b c => none) (fun a b c => none) (fun a b c => none) (fun a b c d e => none) (fun a b c d e => none) (fun a b c => none) (fun a b => none) (fun a b c d => none) (fun a b => none) (fun a b => none) (fun a b => none) (fun a => none) (fun a => none) (fun a => none)
theorem if_el {e : Stmt} {q : Expr × List Stmt × List Stmt × Pos} (h : ifO e = some q) : e = .If q.1 q.2.1 q.2.2.1 q.2.2.2 := view_el (g := fun q => .If q.1 q.2.1 q.2.2.1 q.2.2.2) (@Stmt.casesOn (fun e => @Option.rec (Expr × List Stmt × List Stmt × Pos) (fun _ => Stmt) e (fun q => .If q.1 q.2.1 q.2.2.1 q.2.2.2) (ifO e) = e) e (fun a b c d e f g h i j => @rfl Stmt (.FunctionDef a b c d e f g h i j)) (fun a b c d e f g h i j => @rfl Stmt (.AsyncFunctionDef a b c d e f g h i j)) (fun a b c d e f g h i j k => @rfl Stmt (.ClassDef a b c d e f g h i j k)) (fun a b => @rfl Stmt (.Return a b)) (fun a b => @rfl Stmt (.Delete a b)) (fun a b c => @rfl Stmt (.Assign a b c)) (fun a b c d e f g => @rfl Stmt (.TypeAlias a b c d e f g)) (fun a b c d => @rfl Stmt (.AugAssign a b c d)) (fun a b c d e => @rfl Stmt (.AnnAssign a b c d e)) (fun a b c d e => @rfl Stmt (.For a b c d e)) (fun a b c d e => @rfl Stmt (.AsyncFor a b c d e)) (fun a b c d => @rfl Stmt (.While a b c d)) (fun a b c d => @rfl Stmt (.If a b c d)) (fun a b c => @rfl Stmt (.With a b c)) (fun a b c => @rfl Stmt (.AsyncWith a b c)) (fun a b c => @rfl Stmt (.Match a b c)) (fun a b c => @rfl Stmt (.Raise a b c)) (fun a b c d e => @rfl Stmt (.Try a b c d e)) (fun a b c d e => @rfl Stmt (.TryStar a b c d e)) (fun a b c => @rfl Stmt (.Assert a b c)) (fun a b => @rfl Stmt (.Import a b)) (fun a b c d => @rfl Stmt (.ImportFrom a b c d)) (fun a b => @rfl Stmt (.Global a b)) (fun a b => @rfl Stmt (.Nonlocal a b)) (fun a b => @rfl Stmt (.Expr a b)) (fun a => @rfl Stmt (.Pass a)) (fun a => @rfl Stmt (.Break a)) (fun a => @rfl Stmt (.Continue a))) h
inductive Fl where
  | next | cont | brk | ret (v : V)
abbrev KS := Fl → St → Prop
noncomputable def vcList (ev : Expr → St → KV → Prop) (es : List Expr) (acc : List V) (σ : St) (K : List V → St → Prop) : Prop := @List.rec Expr (fun _ => List V → St → Prop) (fun acc σ => K acc.reverse σ) (fun e _ ih acc σ => ev e σ fun v σ' => ih (v :: acc) σ') es acc σ
noncomputable def kdIs (t : NameKind → Bool) (ns : Names) (x : Str) : Bool := oT (lkS ns x) t
noncomputable def cellNames (ns : Names) (acc : List Str) : List Str := @List.rec (Str × NameKind) (fun _ => List Str → List Str) (fun acc => acc) (fun p _ ih acc => bA (isCel p.2) (ih (p.1 :: acc)) (ih acc)) ns acc
noncomputable def mkC (l : List Str) (f : Str → Option V) (σ : St) : St × List (Str × Nat) := @List.rec Str (fun _ => St × List (Str × Nat)) (σ, []) (fun x _ ih => (ih.1.new (.cell (f x)), (x, ih.1.nx) :: ih.2)) l
noncomputable def locOf (ns : Names) (l : List (Str × V)) : List (Str × V) := @List.rec (Str × V) (fun _ => List (Str × V)) [] (fun p _ ih => bA (kdIs isLoc ns p.1) (p :: ih) ih) l
noncomputable def parOk (ns : Names) (l : List Str) : Bool := @List.rec Str (fun _ => Bool) true (fun x _ ih => (kdIs (fun k => isLoc k || isCel k) ns x) && ih) l
noncomputable def celFirst (ns : Names) (l : Names) : Bool := @List.rec (Str × NameKind) (fun _ => Bool) true (fun p _ ih => bA (isCel p.2) (kdIs isCel ns p.1) true && ih) l
noncomputable def enterS (ns : Names) (pars : List Str) (vs : List V) (σ : St) : St :=
  { (mkC (cellNames ns []) (lkS (zipL pars vs)) σ).1 with loc := locOf ns (zipL pars vs), cel := (mkC (cellNames ns []) (lkS (zipL pars vs)) σ).2 }
noncomputable def noCells (l : Names) : Bool := @List.rec (Str × NameKind) (fun _ => Bool) true (fun p _ ih => !isCel p.2 && ih) l
noncomputable def allLoc (ns : Names) (l : List Str) : Bool := @List.rec Str (fun _ => Bool) true (fun x _ ih => kdIs isLoc ns x && ih) l
noncomputable def isCal (T : Tab) (f : Nat) : Bool := isSome' (T.spec f) || (isSome' (T.fns f) || isSome' (lkN T.inits f))
noncomputable def rangeOf (T : Tab) (sc : Names) (e : Expr) : Option Expr := oO (callO e) fun q => oO (nameO q.1) fun f => oO (oneL q.2.1) fun a => bO (nilL q.2.2.1 && oT (lkS T.blt f.1) (Nat.beq 4) && kdIs isGlo sc f.1 && plainArg a && !Fast.sEq f.1 dbg) (some a)
noncomputable def numsFrom (i k : Nat) : List V := @Nat.rec (fun _ => Nat → List V) (fun _ => []) (fun _ ih i => .int (Int.ofNat i) :: ih (i + 1)) k i
noncomputable def flK (K : KS) (fin : St → St) (nx : St → Prop) (fl : Fl) (σ : St) : Prop := @Fl.rec (fun _ => Prop) (nx σ) (nx σ) (K .next (fin σ)) (fun v => K (.ret v) (fin σ)) fl
noncomputable def vcFor (stT : V → St → (St → Prop) → Prop) (body : St → KS → KX → Prop) (fin : St → St) (xs : List V) (σ : St) (K : KS) (X : KX) : Prop := @List.rec V (fun _ => St → Prop) (fun σ => K .next (fin σ)) (fun x _ ih σ => stT x σ fun σ1 => body σ1 (flK K fin ih) (fun l σ2 => X l (fin σ2))) xs σ
noncomputable def relN (sc : Names) (l : Names) : Names := @List.rec (Str × NameKind) (fun _ => Names) [] (fun p _ ih => bA (isFree p.2 && kdIs isCel sc p.1) (p.1, .cell) p :: ih) l
noncomputable def freesIn (sc : Names) (cel : List (Str × Nat)) (l : Names) : Bool := @List.rec (Str × NameKind) (fun _ => Bool) true (fun p _ ih => bA (isFree p.2) (kdIs isCel sc p.1 && isSome' (lkS cel p.1)) true && ih) l
noncomputable def locFirst (ns : Names) (l : Names) : Bool := @List.rec (Str × NameKind) (fun _ => Bool) true (fun p _ ih => bA (isLoc p.2) (kdIs isLoc ns p.1) true && ih) l
noncomputable def isFun (s : Scope) : Bool := Nat.beq s.kind.ctorIdx 1
noncomputable def compOk (sc : Names) (cel : List (Str × Nat)) (x : Str) (s : Scope) : Bool := isFun s && (noCells s.names && freesIn sc cel s.names && locFirst s.names s.names && kdIs isLoc s.names x)
noncomputable def celOf (cel : List (Str × Nat)) (l : Names) : List (Str × Nat) := @List.rec (Str × NameKind) (fun _ => List (Str × Nat)) [] (fun p _ ih => bA (isFree p.2) (@Option.rec Nat (fun _ => List (Str × Nat)) ih (fun a => (p.1, a) :: ih) (lkS cel p.1)) ih) l
noncomputable def vcLC (test : St → (Bool → St → Prop) → Prop) (elt : St → KV → Prop) (x : Str) (cel' : List (Str × Nat)) (loc0 : List (Str × V)) (cel0 : List (Str × Nat)) (vs acc : List V) (σ : St) (K : List V → St → Prop) : Prop := @List.rec V (fun _ => List V → St → Prop) (fun acc σ => K acc.reverse σ)
  (fun v _ ih acc σ => test { σ with loc := [(x, v)], cel := cel' } fun b σ1 => bE b (elt σ1 fun y σ2 => ih (y :: acc) { σ2 with loc := loc0, cel := cel0 }) (ih acc { σ1 with loc := loc0, cel := cel0 })) vs acc σ
noncomputable def runLC (ev : Names → Expr → St → KV → KX → Prop) (tv : Names → Expr → St → (Bool → St → Prop) → KX → Prop) (sc : Names) (elt : Expr) (ifs : List Expr) (s : Scope) (x : Str) (xs : List V) (σ : St) (K : List V → St → Prop) : Prop :=
  bE (nilL ifs) (vcLC (fun σ K => K true σ) (fun σ K => ev (relN sc s.names) elt σ K fun _ _ => False) x (celOf σ.cel s.names) σ.loc σ.cel xs [] σ K) <|
  oB (oneL ifs) fun ct => vcLC (fun σ K => tv (relN sc s.names) ct σ K fun _ _ => False) (fun σ K => ev (relN sc s.names) elt σ K fun _ _ => False) x (celOf σ.cel s.names) σ.loc σ.cel xs [] σ K
noncomputable def aside (σ : St) (a : Nat) : St := { σ with H := drop σ.H a }
noncomputable def back (a : Nat) (o : O) (σ : St) : St := { σ with H := (a, o) :: σ.H }
noncomputable def vcCompH (run : List V → St → (List V → St → Prop) → Prop) (a : Nat) (σ1 : St) (K : KV) (o : O) (xs : List V) : Prop := run xs (aside σ1 a) fun ys σ2 => K (.ref σ2.nx) (St.new (back a o σ2) (.list ys))
noncomputable def vcCompS (run : List V → St → (List V → St → Prop) → Prop) (v : V) (σ1 : St) (K : KV) : Prop := oB (refO v) fun a => oE (gOb listO σ1.H a) (fun xs => bB (Nat.ble xs.length 1000) (vcCompH run a σ1 K (.list xs) xs)) <|
  oE (gOb olistO σ1.H a) (fun xs => bB (Nat.ble xs.length 1000) (vcCompH run a σ1 K (.olist xs) xs)) <| oB (gOb tlistO σ1.H a) fun ss => ss.length ≤ 1000 ∧ vcCompH run a σ1 K (.tlist ss) (ss.map .ss)
noncomputable def vcCompR (run : List V → St → (List V → St → Prop) → Prop) (v : V) (σ1 : St) (K : KV) : Prop := oB (natK v) fun k => bB (Nat.ble k 1000) (run (numsFrom 0 k) σ1 fun ys σ2 => K (.ref σ2.nx) (σ2.new (.list ys)))
noncomputable def vcComp (T : Tab) (ev : Names → Expr → St → KV → KX → Prop) (tv : Names → Expr → St → (Bool → St → Prop) → KX → Prop) (sc : Names) (elt : Expr) (x : Str) (it : Expr) (ifs : List Expr) (s : Scope) (σ : St) (K : KV) (X : KX) : Prop :=
  guardQ T (bB (compOk sc σ.cel x s && plainIter it && Nat.ble ifs.length 1) (oE (rangeOf T sc it) (fun e => ev sc e σ (fun v σ1 => vcCompR (runLC ev tv sc elt ifs s x) v σ1 K) X) (ev sc it σ (fun v σ1 => vcCompS (runLC ev tv sc elt ifs s x) v σ1 K) X)))
noncomputable def vcW (test : St → (Bool → St → Prop) → KX → Prop) (body : St → KS → KX → Prop) (k : Nat) (σ : St) (K : KS) (X : KX) : Prop := @Nat.rec (fun _ => St → Prop) (fun a => False) (fun _ ih σ => test σ (fun c σ1 => bE c (body σ1 (flK K id ih) X) (K .next σ1)) X) k σ
noncomputable def tup2 (elts : List Expr) (e : Expr) : Option ((Expr × Str × Pos) × (Expr × Str × Pos)) := oO (twoL elts) fun q => oO (attrO q.1) fun a => oO (attrO q.2) fun b => oO (tupEO e) fun es => oO (twoL es.1) fun _ => some (a, b)
noncomputable def bareCall (e : Expr) : Bool := oT (callO e) fun c => isName c.1 && nilL c.2.1 && nilL c.2.2.1
structure Eng where
  e : Names → Expr → St → KV → KX → Prop
  t : Names → Expr → St → (Bool → St → Prop) → KX → Prop
  b : Names → BoolOp → List Expr → St → (Bool → St → Prop) → KX → Prop
  c : Nat → List V → St → KV → KX → Prop
  f : FnI → List V → St → KV → KX → Prop
  ss : Names → List Stmt → St → KS → KX → Prop
  s : Names → Stmt → St → KS → KX → Prop
noncomputable def eConst (c : Const) (σ : St) (K : KV) : Prop := match c with
  | .none => K .none σ
  | .bool b => K (.bool b) σ
  | .int i => K (.int i) σ
  | .str s => K (.str s) σ
  | _ => False
noncomputable def eCell (x : Str) (σ : St) (K : KV) : Prop := oB (lkS σ.cel x) fun a => oB (gOb cellO σ.H a) fun o => oB o fun v => K v σ
noncomputable def eName (T : Tab) (sc : Names) (x : Str) (σ : St) (K : KV) : Prop := bB (!Fast.sEq x dbg) (oB (lkS sc x) fun k => bE (isLoc k) (oB (lkS σ.loc x) fun v => K v σ) <| bE (isGlo k) (oB (lkS T.glob x) fun v => K (ofK v) σ) <| bB (isCel k) (eCell x σ K))
noncomputable def eAttr (T : Tab) (g : Eng) (sc : Names) (o : Expr) (f : Str) (σ : St) (K : KV) (X : KX) : Prop := bB (!bareCall o) (g.e sc o σ (fun v σ' => getA T v f σ' K) X)
noncomputable def eCmp (T : Tab) (g : Eng) (sc : Names) (l : Expr) (op : CmpOp) (r : Expr) (σ : St) (K : KV) (X : KX) : Prop := bB (!behindInMarks op r) (g.e sc l σ (fun a σ' => g.e sc r σ' (fun b σ'' => cmpT T op a b σ'' K) X) X)
noncomputable def eCompare (T : Tab) (g : Eng) (sc : Names) (l : Expr) (ops : List CmpOp) (rs : List Expr) (σ : St) (K : KV) (X : KX) : Prop := oB (oneL ops) fun op => oB (oneL rs) fun r => eCmp T g sc l op r σ K X
noncomputable def sliceUp (e : Expr) : Option Expr := oO (sliceO e) fun q => bO (!isSome' q.1 && !isSome' q.2.2.1) q.2.1
noncomputable def sliceV (a b : V) (σ : St) (K : KV) : Prop := oB (refO a) fun p => oB (gOb listO σ.H p) fun xs => oB (natK b) fun k => bB (Nat.ble xs.length 1000) (K (.ref σ.nx) (σ.new (.list (xs.take k))))
noncomputable def eSlice (g : Eng) (sc : Names) (o i : Expr) (σ : St) (K : KV) (X : KX) : Prop := bB (isName o) (oB (sliceUp i) fun u => g.e sc o σ (fun a σ1 => g.e sc u σ1 (fun b σ2 => sliceV a b σ2 K) X) X)
noncomputable def eSub (T : Tab) (g : Eng) (sc : Names) (o i : Expr) (σ : St) (K : KV) (X : KX) : Prop := bE (notSlice i) (g.e sc o σ (fun a σ' => g.e sc i σ' (fun b σ'' => subT T a b σ'' K) X) X) (eSlice g sc o i σ K X)
noncomputable def isAnd (op : BoolOp) : Bool := Nat.beq op.ctorIdx 0
noncomputable def eBool2 (g : Eng) (sc : Names) (op : BoolOp) (e e' : Expr) (σ : St) (K : KV) (X : KX) : Prop := g.e sc e σ (fun v σ' => testV v fun b => bE (xor (isAnd op) b) (K v σ') (g.e sc e' σ' K X)) X
noncomputable def eBool (g : Eng) (sc : Names) (op : BoolOp) (es : List Expr) (pos : Pos) (σ : St) (K : KV) (X : KX) : Prop := oB (unL es) fun q => oE (oneL q.2) (fun e' => eBool2 g sc op q.1 e' σ K X) (bB (!nilL q.2) (eBool2 g sc op q.1 (.BoolOp op q.2 pos) σ K X))
noncomputable def eList (g : Eng) (sc : Names) (mk : List V → O) (es : List Expr) (σ : St) (K : KV) (X : KX) : Prop := bB (es.all plainArg) (vcList (fun e σ K => g.e sc e σ K X) es [] σ fun vs σ' => bB (Nat.ble vs.length 1000) (K (.ref σ'.nx) (σ'.new (mk vs))))
noncomputable def eComp (T : Tab) (g : Eng) (sc : Names) (elt : Expr) (gens : List Comprehension) (s : Scope) (σ : St) (K : KV) (X : KX) : Prop := oB (oneL gens) fun q => oB (nameO q.target) fun x => bB (eqInt q.is_async 0) (vcComp T g.e g.t sc elt x.1 q.iter q.ifs s σ K X)
noncomputable def eDict (ks : List (Option Expr)) (vs : List Expr) (σ : St) (K : KV) : Prop := bB (nilL ks && nilL vs) (K (.ref σ.nx) (σ.new (.dict [])))
noncomputable def eMeth (g : Eng) (sc : Names) (o : Expr) (m : Str) (ap : Pos) (es : List Expr) (pos : Pos) (σ : St) (K : KV) (X : KX) : Prop := bB (!bareCall o && es.all plainArg && !es.isEmpty && Nat.ble es.length 20 && (ap.endLine == pos.line))
  (oB (lkS methS m) fun code => g.e sc o σ (fun ov σ1 => bB (methOk code ov σ1) (vcList (fun e σ K => g.e sc e σ K X) es [] σ1 fun vs σ2 => vcMeth code ov vs σ2 K)) X)
noncomputable def valuesS : Str := Str.ofString "values"
noncomputable def valsOf (e : Expr) : Option Expr := oO (callO e) fun c => oO (attrO c.1) fun a => bO (nilL c.2.1 && nilL c.2.2.1 && (Fast.sEq a.2.1 valuesS && !bareCall a.1 && (a.2.2.endLine == c.2.2.2.line))) (some a.1)
noncomputable def valsArg (code : Nat) (es : List Expr) : Option Expr := bO (Nat.beq code 2) (oO (oneL es) valsOf)
noncomputable def valsV (v : V) (σ : St) (K : KV) : Prop := oB (refO v) fun p => oB (gOb odictO σ.H p) fun kvs => K (.ref σ.nx) (σ.new (.tlist (kvs.map (·.2))))
noncomputable def eBi (T : Tab) (g : Eng) (sc : Names) (code : Nat) (f : Str) (es : List Expr) (σ : St) (K : KV) (X : KX) : Prop := bB (kdIs isGlo sc f && !Fast.sEq f dbg && !es.isEmpty)
  (oE (valsArg code es) (fun o => guardQ T (g.e sc o σ (fun v σ1 => valsV v σ1 K) X)) (vcList (fun e σ K => g.e sc e σ K X) es [] σ fun vs σ' => vcBi T code vs σ' K))
noncomputable def eFn (T : Tab) (g : Eng) (sc : Names) (es : List Expr) (X : KX) (K : KV) (v : V) (σ' : St) : Prop := oB (kRef v) fun a => bB (isCal T a) (vcList (fun e σ K => g.e sc e σ K X) es [] σ' fun vs σ'' => g.c a vs σ'' K X)
noncomputable def eCallN (T : Tab) (g : Eng) (sc : Names) (f : Str) (fp : Pos) (es : List Expr) (σ : St) (K : KV) (X : KX) : Prop := bB (es.all plainArg) (oE (lkS T.blt f) (fun code => eBi T g sc code f es σ K X) (g.e sc (.Name f fp) σ (eFn T g sc es X K) X))
noncomputable def eCall (T : Tab) (g : Eng) (sc : Names) (f : Expr) (es : List Expr) (kws : List Keyword) (pos : Pos) (σ : St) (K : KV) (X : KX) : Prop := bB (nilL kws) (oE (attrO f) (fun a => eMeth g sc a.1 a.2.1 a.2.2 es pos σ K X) (oB (nameO f) fun x => eCallN T g sc x.1 x.2 es σ K X))
noncomputable def isUSub (op : UnaryOp) : Bool := Nat.beq op.ctorIdx 3
noncomputable def isNot (op : UnaryOp) : Bool := Nat.beq op.ctorIdx 1
noncomputable def stE (T : Tab) (g : Eng) (sc : Names) (e : Expr) (σ : St) (K : KV) (X : KX) : Prop := @Expr.casesOn (fun _ => Prop) e (fun a b c => eBool g sc a b c σ K X) (fun a b c => False) (fun a b c d => g.e sc a σ (fun x σ' => g.e sc c σ' (fun y σ'' => binT b x y σ'' K) X) X) (fun a b c => bB (isUSub a) (g.e sc b σ (fun v σ' => negV v σ' K) X)) (fun a b c d => False) (fun a b c d => g.t sc a σ (fun x σ' => bE x (g.e sc b σ' K X) (g.e sc c σ' K X)) X) (fun a b c => eDict a b σ K) (fun a b c => False) (fun a b c d => eComp T g sc a b c σ K X) (fun a b c d => False) (fun a b c d e => False) (fun a b c d => False) (fun a b => False) (fun a b => False) (fun a b => False) (fun a b c d => eCompare T g sc a b c σ K X) (fun a b c d => eCall T g sc a b c d σ K X) (fun a b c d => False) (fun a b => False) (fun a b c => eConst a σ K) (fun a b c => eAttr T g sc a b σ K X) (fun a b c => eSub T g sc a b σ K X) (fun a b => False) (fun a b => eName T sc a σ K) (fun a b => eList g sc .list a σ K X) (fun a b c => eList g sc .tup a σ K X) (fun a b c d => False)
noncomputable def tCmp (T : Tab) (g : Eng) (sc : Names) (l : Expr) (op : CmpOp) (r : Expr) (σ : St) (K : Bool → St → Prop) (X : KX) : Prop := bB (!behindInMarks op r) (g.e sc l σ (fun a σ' => g.e sc r σ' (fun b σ'' => cmpT T op a b σ'' fun v σ₃ => testV v fun c => K c σ₃) X) X)
noncomputable def tCompare (T : Tab) (g : Eng) (sc : Names) (l : Expr) (ops : List CmpOp) (rs : List Expr) (σ : St) (K : Bool → St → Prop) (X : KX) : Prop := oB (oneL ops) fun op => oB (oneL rs) fun r => tCmp T g sc l op r σ K X
noncomputable def tAny (g : Eng) (sc : Names) (e : Expr) (σ : St) (K : Bool → St → Prop) (X : KX) : Prop := g.e sc e σ (fun v σ' => testV v fun b => K b σ') X
noncomputable def stT (T : Tab) (g : Eng) (sc : Names) (z : Expr) (σ : St) (K : Bool → St → Prop) (X : KX) : Prop := @Expr.casesOn (fun _ => Prop) z (fun a b c => g.b sc a b σ K X) (fun a b c => tAny g sc z σ K X) (fun a b c d => tAny g sc z σ K X) (fun a b c => bE (isNot a) (g.t sc b σ (fun b σ' => K (!b) σ') X) (tAny g sc z σ K X)) (fun a b c d => tAny g sc z σ K X) (fun a b c d => False) (fun a b c => tAny g sc z σ K X) (fun a b c => tAny g sc z σ K X) (fun a b c d => tAny g sc z σ K X) (fun a b c d => tAny g sc z σ K X) (fun a b c d e => tAny g sc z σ K X) (fun a b c d => tAny g sc z σ K X) (fun a b => tAny g sc z σ K X) (fun a b => tAny g sc z σ K X) (fun a b => tAny g sc z σ K X) (fun a b c d => tCompare T g sc a b c σ K X) (fun a b c d => tAny g sc z σ K X) (fun a b c d => tAny g sc z σ K X) (fun a b => tAny g sc z σ K X) (fun a b c => tAny g sc z σ K X) (fun a b c => tAny g sc z σ K X) (fun a b c => tAny g sc z σ K X) (fun a b => tAny g sc z σ K X) (fun a b => tAny g sc z σ K X) (fun a b => tAny g sc z σ K X) (fun a b c => tAny g sc z σ K X) (fun a b c d => tAny g sc z σ K X)
noncomputable def stB (g : Eng) (sc : Names) (op : BoolOp) (es : List Expr) (σ : St) (K : Bool → St → Prop) (X : KX) : Prop := oE (unL es) (fun q => g.t sc q.1 σ (fun b σ' => bE (xor (isAnd op) b) (K b σ') (g.b sc op q.2 σ' K X)) X) (K (isAnd op) σ)
noncomputable def cSpec (n : Nat) (m : Nat) (S : Spec) (vs : List V) (σ : St) (K : KV) (X : KX) : Prop := bB (Nat.ble m n) (S vs σ K X)
noncomputable def Kback (σ : St) (K : KV) : KV := fun v σ' => K v { σ' with loc := σ.loc, cel := σ.cel }
noncomputable def Xback (σ : St) (X : KX) : KX := fun l σ' => X l { σ' with loc := σ.loc, cel := σ.cel }
noncomputable def cNew (T : Tab) (g : Eng) (f fi : Nat) (vs : List V) (σ : St) (K : KV) (X : KX) : Prop := oB (T.fns fi) fun i => g.f i (.ref (σ.nx + 1) :: vs) ((σ.new (.dict [])).new (.inst f σ.nx)) (fun v σ' => bB (noneV v) (K (.ref (σ.nx + 1)) { σ' with loc := σ.loc, cel := σ.cel })) (Xback σ X)
noncomputable def stC (T : Tab) (n : Nat) (g : Eng) (f : Nat) (vs : List V) (σ : St) (K : KV) (X : KX) : Prop := guardQ T (oE (T.spec f) (fun q => cSpec n q.1 q.2 vs σ K X) (oE (T.fns f) (fun i => g.f i vs σ (Kback σ K) (Xback σ X)) (oB (lkN T.inits f) fun fi => cNew T g f fi vs σ K X)))
noncomputable def raiseOf (st : Stmt) : Option (Str × Expr × Expr) := oO (raiseO st) fun q => bO (!isSome' q.2.1) (oO q.1 fun e => oO (callO e) fun c => bO (nilL c.2.2.1) (oO (twoL c.2.1) fun p => oO (nameO c.1) fun x => some (x.1, p)))
noncomputable def fRaise (T : Tab) (g : Eng) (sc : Names) (q : Str × Expr × Expr) (σ : St) (X : KX) : Prop := oB (lkS T.glob q.1) fun v => oB (vRef v) fun a => bB (Nat.beq a 65 && !Fast.sEq q.1 dbg && plainArg q.2.1 && plainArg q.2.2 && kdIs isGlo sc q.1)
  (g.e sc q.2.1 σ (fun v σ1 => oB (intOf v) fun l => g.e sc q.2.2 σ1 (fun _ σ2 => X l.2 σ2) X) X)
noncomputable def ifRaise (body : List Stmt) : Option (Option Expr × Str × Expr × Expr) := oO (oneL body) fun st => oA (ifO st) (fun q => bO (nilL q.2.2.1) (oO (oneL q.2.1) fun r => oO (raiseOf r) fun x => some (some q.1, x))) (oO (raiseOf st) fun x => some (none, x))
noncomputable def Kfl (K : KV) : KS := fun fl σ' => @Fl.rec (fun _ => Prop) (K .none σ') (K .none σ') (K .none σ') (fun v => K v σ') fl
noncomputable def fBody (T : Tab) (n : Nat) (g : Eng) (sc : Names) (body : List Stmt) (σ : St) (K : KV) (X : KX) : Prop := oE (ifRaise body) (fun q => bB (Nat.ble 2 n) (oE q.1 (fun t => g.t sc t σ (fun c σ' => bE c (fRaise T g sc q.2 σ' X) (K .none σ')) X) (fRaise T g sc q.2 σ X))) (g.ss sc body σ (Kfl K) X)
noncomputable def stF (T : Tab) (n : Nat) (g : Eng) (i : FnI) (vs : List V) (σ : St) (K : KV) (X : KX) : Prop := bB (Nat.beq vs.length i.pars.length && parOk i.sc.names i.pars && celFirst i.sc.names i.sc.names) (fBody T n g i.sc.names i.body (enterS i.sc.names i.pars vs σ) K X)
noncomputable def ssK (g : Eng) (sc : Names) (r : List Stmt) (K : KS) (X : KX) (fl : Fl) (σ' : St) : Prop := @Fl.rec (fun _ => Prop) (g.ss sc r σ' K X) (K .cont σ') (K .brk σ') (fun v => K (.ret v) σ') fl
noncomputable def stSs (g : Eng) (sc : Names) (ss : List Stmt) (σ : St) (K : KS) (X : KX) : Prop := oE (unL ss) (fun q => g.s sc q.1 σ (ssK g sc q.2 K X) X) (K .next σ)
noncomputable def sAsgN (g : Eng) (sc : Names) (x : Str) (e : Expr) (σ : St) (K : KS) (X : KX) : Prop := bB (okVal e) (g.e sc e σ (fun v σ' => stN sc x v σ' (K .next)) X)
noncomputable def sAsgA (T : Tab) (g : Eng) (sc : Names) (o : Expr) (f : Str) (e : Expr) (σ : St) (K : KS) (X : KX) : Prop := bB (okVal e) (g.e sc e σ (fun v σ' => g.e sc o σ' (fun ov σ'' => setA T ov f v σ'' (K .next)) X) X)
noncomputable def sAsgI (g : Eng) (sc : Names) (o i : Expr) (e : Expr) (σ : St) (K : KS) (X : KX) : Prop := bB (noComp e) (g.e sc e σ (fun v σ1 => g.e sc o σ1 (fun ov σ2 => g.e sc i σ2 (fun iv σ3 => stI ov iv v σ3 (K .next)) X) X) X)
noncomputable def tupN (elts : List Expr) (e : Expr) : Option ((Str × Pos) × (Str × Pos)) := oO (twoL elts) fun q => oO (nameO q.1) fun x => oO (nameO q.2) fun y => bO (isCall e) (some (x, y))
noncomputable def pairV (v : V) (σ : St) (K : V → V → Prop) : Prop := oB (refO v) fun p => oB (gOb tupO σ.H p) fun xs => oB (twoL xs) fun q => K q.1 q.2
noncomputable def sAsgT (T : Tab) (g : Eng) (sc : Names) (elts : List Expr) (e : Expr) (σ : St) (K : KS) (X : KX) : Prop := guardQ T (oE (tup2 elts e) (fun q => g.e sc e σ (fun v σ1 => pairV v σ1 fun v1 v2 => g.e sc q.1.1 σ1 (fun ov1 σ2 => setA T ov1 q.1.2.1 v1 σ2 fun σ3 => g.e sc q.2.1 σ3 (fun ov2 σ4 => setA T ov2 q.2.2.1 v2 σ4 (K .next)) X) X) X)
  (oB (tupN elts e) fun q => g.e sc e σ (fun v σ1 => pairV v σ1 fun v1 v2 => stN sc q.1.1 v1 σ1 fun σ2 => stN sc q.2.1 v2 σ2 (K .next)) X))
noncomputable def sAsg (T : Tab) (g : Eng) (sc : Names) (ts : List Expr) (e : Expr) (σ : St) (K : KS) (X : KX) : Prop := oB (oneL ts) fun t => oE (nameO t) (fun x => sAsgN g sc x.1 e σ K X) <| oE (attrO t) (fun a => sAsgA T g sc a.1 a.2.1 e σ K X) <| oE (subEO t) (fun q => sAsgI g sc q.1 q.2.1 e σ K X) <| oB (tupEO t) fun q => sAsgT T g sc q.1 e σ K X
noncomputable def sAugN (g : Eng) (sc : Names) (x : Str) (op : Operator) (e : Expr) (σ : St) (K : KS) (X : KX) : Prop := bB (kdIs isLoc sc x) (oB (lkS σ.loc x) fun v => g.e sc e σ (fun b σ' => augV op v b σ' fun r σ'' => stN sc x r σ'' (K .next)) X)
noncomputable def sAugI (g : Eng) (sc : Names) (o i : Expr) (op : Operator) (e : Expr) (σ : St) (K : KS) (X : KX) : Prop := bB (notSlice i) (g.e sc o σ (fun ov σ1 => g.e sc i σ1 (fun iv σ2 => subV ov iv σ2 fun old σ3 => g.e sc e σ3 (fun b σ4 => augV op old b σ4 fun r σ5 => stI ov iv r σ5 (K .next)) X) X) X)
noncomputable def sAugA (T : Tab) (g : Eng) (sc : Names) (o : Expr) (f : Str) (op : Operator) (e : Expr) (σ : St) (K : KS) (X : KX) : Prop := g.e sc o σ (fun ov σ1 => getA T ov f σ1 fun old σ2 => g.e sc e σ2 (fun b σ3 => augV op old b σ3 fun r σ4 => setA T ov f r σ4 (K .next)) X) X
noncomputable def sAug (T : Tab) (g : Eng) (sc : Names) (t : Expr) (op : Operator) (e : Expr) (σ : St) (K : KS) (X : KX) : Prop := oE (nameO t) (fun x => sAugN g sc x.1 op e σ K X) <| oE (subEO t) (fun q => sAugI g sc q.1 q.2.1 op e σ K X) <| oB (attrO t) fun a => sAugA T g sc a.1 a.2.1 op e σ K X
noncomputable def sForR (g : Eng) (sc : Names) (x : Str) (body : List Stmt) (K : KS) (X : KX) (v : V) (σ1 : St) : Prop := oE (natK v) (fun k => bB (Nat.ble k 1000) (vcFor (stN sc x) (g.ss sc body) id (numsFrom 0 k) σ1 K X)) (oB (siO v) fun j => (0 ≤ j ∧ j ≤ 1000) ∧ vcFor (stN sc x) (g.ss sc body) id (numsFrom 0 j.toNat) σ1 K X)
noncomputable def forH (g : Eng) (sc : Names) (x : Str) (body : List Stmt) (K : KS) (X : KX) (σ1 : St) (a : Nat) (o : O) (xs : List V) : Prop := vcFor (stN sc x) (g.ss sc body) (back a o) xs (aside σ1 a) K X
noncomputable def sForS (T : Tab) (g : Eng) (sc : Names) (x : Str) (body : List Stmt) (K : KS) (X : KX) (v : V) (σ1 : St) : Prop := oE (refO v) (fun a => oE (gOb listO σ1.H a) (fun xs => forH g sc x body K X σ1 a (.list xs) xs) <| oE (gOb olistO σ1.H a) (fun xs => forH g sc x body K X σ1 a (.olist xs) xs) <| oB (gOb tupO σ1.H a) fun xs => forH g sc x body K X σ1 a (.tup xs) xs)
  (oB (kRef v) fun p => oB (lkN T.tups p) fun ss => bB (Nat.ble ss.length 24) (vcFor (stN sc x) (g.ss sc body) id (ss.map .str) σ1 K X))
noncomputable def sForN (T : Tab) (g : Eng) (sc : Names) (x : Str) (it : Expr) (body : List Stmt) (σ : St) (K : KS) (X : KX) : Prop := guardQ T (bB (plainIter it) (oE (rangeOf T sc it) (fun e => bB (kdIs isLoc sc x) (g.e sc e σ (sForR g sc x body K X) X)) (g.e sc it σ (sForS T g sc x body K X) X)))
noncomputable def sFor (T : Tab) (g : Eng) (sc : Names) (t it : Expr) (body els : List Stmt) (σ : St) (K : KS) (X : KX) : Prop := bB (nilL els) (oB (nameO t) fun x => sForN T g sc x.1 it body σ K X)
noncomputable def sRet (g : Eng) (sc : Names) (e : Option Expr) (σ : St) (K : KS) (X : KX) : Prop := oE e (fun e => g.e sc e σ (fun v σ' => K (.ret v) σ') X) (K (.ret .none) σ)
noncomputable def sWhile (g : Eng) (sc : Names) (t : Expr) (b els : List Stmt) (σ : St) (K : KS) (X : KX) : Prop := bB (nilL els) (vcW (g.t sc t) (g.ss sc b) 8 σ K X)
noncomputable def stS (T : Tab) (g : Eng) (sc : Names) (st : Stmt) (σ : St) (K : KS) (X : KX) : Prop := @Stmt.casesOn (fun _ => Prop) st (fun a b c d e f g h i j => False) (fun a b c d e f g h i j => False) (fun a b c d e f g h i j k => False) (fun a b => sRet g sc a σ K X) (fun a b => False) (fun a b c => sAsg T g sc a b σ K X) (fun a b c d e f g => False) (fun a b c d => sAug T g sc a b c σ K X) (fun a b c d e => False) (fun a b c d e => sFor T g sc a b c d σ K X) (fun a b c d e => False) (fun a b c d => sWhile g sc a b c σ K X) (fun a b c d => g.t sc a σ (fun x σ' => bE x (g.ss sc b σ' K X) (g.ss sc c σ' K X)) X) (fun a b c => False) (fun a b c => False) (fun a b c => False) (fun a b c => False) (fun a b c d e => False) (fun a b c d e => False) (fun a b c => False) (fun a b => False) (fun a b c d => False) (fun a b => False) (fun a b => False) (fun a b => bB (noComp a) (g.e sc a σ (fun _ σ' => K .next σ') X)) (fun a => K .next σ) (fun a => False) (fun a => K .cont σ)
noncomputable def eng0 : Eng := ⟨fun _ _ _ _ _ => False, fun _ _ _ _ _ => False, fun _ _ _ _ _ _ => False, fun _ _ _ _ _ => False, fun _ _ _ _ _ => False, fun _ _ _ _ _ => False, fun _ _ _ _ _ => False⟩
noncomputable def engS (T : Tab) (n : Nat) (g : Eng) : Eng := ⟨stE T g, stT T g, stB g, stC T n g, stF T n g, stSs g, stS T g⟩
noncomputable def eng (T : Tab) (n : Nat) : Eng := @Nat.rec (fun _ => Eng) eng0 (fun n g => engS T n g) n
@[reducible] def vcE (T : Tab) (n : Nat) := (eng T n).e
@[reducible] def vcT (T : Tab) (n : Nat) := (eng T n).t
@[reducible] def vcB (T : Tab) (n : Nat) := (eng T n).b
@[reducible] def vcC (T : Tab) (n : Nat) := (eng T n).c
@[reducible] def vcF (T : Tab) (n : Nat) := (eng T n).f
@[reducible] def vcSs (T : Tab) (n : Nat) := (eng T n).ss
@[reducible] def vcS (T : Tab) (n : Nat) := (eng T n).s
end Mine
namespace Mine
noncomputable def DictStays (h h' : Heap) : Prop := ∀ b o, h.get? b = some o → ∃ o', h'.get? b = some o' ∧ o'.dict = o.dict
theorem DictStays.refl (h : Heap) : DictStays h h := fun _ o e => ⟨o, e, rfl⟩
theorem DictStays.trans {h₁ h₂ h₃ : Heap} (x : DictStays h₁ h₂) (y : DictStays h₂ h₃) : DictStays h₁ h₃ := fun b o e =>
  (x b o e).elim fun _ q => (y b _ q.1).elim fun o2 q2 => ⟨o2, q2.1, q2.2.trans q.2⟩
noncomputable def KeepsD (f : Obj → Obj) : Prop := ∀ o : Obj, (f o).dict = o.dict ∧ (f o).isFreed = o.isFreed
theorem dictStays_update {h : Heap} {a : Addr} {f : Obj → Obj} (hf : KeepsD f) : DictStays h (h.update a f) := fun b o e => by
  by_cases q : a = b
  · subst q
    exact ⟨_, Heap.get?_update_self f e ((hf o).2.trans (Heap.get?_some_iff.mp e).2), (hf o).1⟩
  · exact ⟨o, (Heap.get?_update_other _ _ q).trans e, rfl⟩
inductive KD {α : Type} : Sem α → Prop
  | pure (a : α) : KD (.pure a)
  | uns (w : String) : KD (.unsupported w)
  | load {a : Addr} {p : Option Value} {k : Obj → Sem α} (h : ∀ o, KD (k o)) : KD (.load a p k)
  | update {a : Addr} {p : Option Value} {f : Obj → Obj} {k : Unit → Sem α} (hf : KeepsD f) (h : KD (k ())) : KD (.update a p f k)
  | alloc {o : Obj} {k : Addr → Sem α} (h : ∀ a, KD (k a)) : KD (.alloc o k)
  | stack {k : List (Code × Pos) → Sem α} (h : ∀ a, KD (k a)) : KD (.stack k)
theorem KD.bind {α β : Type} {x : Sem α} {f : α → Sem β} (h : KD x) (hf : ∀ a, KD (f a)) : KD (x >>= f) := by
  show KD (x.bind f)
  induction h with
  | pure a => exact hf a
  | uns w => exact .uns w
  | load h ih => exact .load ih
  | update q h ih => exact .update q ih
  | alloc h ih => exact .alloc ih
  | stack h ih => exact .stack ih
noncomputable def DQ {β : Type} (Q : β → Pos → Shared → Prop) (h₀ : Heap) : β → Pos → Shared → Prop := fun a p s => Q a p s ∧ DictStays h₀ s.heap
theorem wp_dict {M : Model} {Γ : PySem.Ctx} {α : Type} {x : Sem α} {Q : α → Pos → Shared → Prop} {E : Value → Pos → Shared → Prop} {h₀ : Heap} (kd : KD x) : ∀ {p : Pos} {s : Shared}, Sem.wp M Γ x Q E p s → DictStays h₀ s.heap → Sem.wp M Γ x (DQ Q h₀) (DQ E h₀) p s := by
  induction kd with
  | pure a => exact fun h d => ⟨h, d⟩
  | uns w => exact fun h d => h
  | load h ih => exact fun h d => h.elim fun o q => ⟨o, q.1, ih o q.2 d⟩
  | update hf h ih => exact fun h d => ⟨h.1, ih h.2 (d.trans (dictStays_update hf))⟩
  | alloc h ih => exact fun h d => ih _ h (d.trans fun b o e => ⟨o, Heap.get?_push_of_some _ e, rfl⟩)
  | stack h ih => exact fun h d => ih _ h d
theorem wpAny_dict {M : Model} {A : Around} {α : Type} {x : Sem α} {Q : α → Shared → Prop} {E : Value → Shared → Prop} {s : Shared} (kd : KD x) (h : wpAny M A x Q E s) :
    wpAny M A x (fun a s' => Q a s' ∧ DictStays s.heap s'.heap) (fun e s' => E e s' ∧ DictStays s.heap s'.heap) s := fun Γ p hΓ => wp_dict kd (h Γ p hΓ) (DictStays.refl _)
theorem kd_ite {α : Type} {c : Prop} [Decidable c] {x y : Sem α} (h : KD x) (h' : KD y) : KD (if c then x else y) := by
  by_cases q : c
  · rw [if_pos q]; exact h
  · rw [if_neg q]; exact h'
theorem kd_opt {α β : Type} {f : Option β → Sem α} (h : ∀ b, KD (f (some b))) (h' : KD (f none)) : ∀ o, KD (f o)
  | none => h'
  | some b => h b
theorem kd_fieldsOf (v : Value) : KD (fieldsOf v) := by
  cases v <;> first | exact .uns _ | exact .load fun o => (show ∀ d : Data, KD (match d with | .fields vs => (pure vs : Sem _) | _ => unsupported "internal:no-fields") from fun d => by cases d <;> first | exact .uns _ | exact .pure _) o.data
theorem kd_field (v : Value) (i : Nat) : KD (field v i) := KD.bind (kd_fieldsOf v) fun a => kd_opt (f := fun o => match o with | some x => (pure x : Sem _) | none => unsupported "internal:no-such-field") (fun b => .pure b) (.uns _) a[i]?
theorem keepsD_fields (g : Array Value → Array Value) : KeepsD (Obj.mapFields g) := fun o => by
  obtain ⟨c, d, dt, sl⟩ := o
  cases dt <;> exact ⟨rfl, rfl⟩
theorem kd_updateField (a : Addr) (i : Nat) (x : Value) : KD (updateField a i x) := .load fun o => (show ∀ d : Data, KD (match d with | .fields vs => if i < vs.size then PySem.update a (Obj.mapFields (·.setIfInBounds i x)) else unsupported "internal:no-such-field" | _ => unsupported "internal:write-to-non-record") from fun d => by
  cases d <;> first | exact .uns _ | exact kd_ite (.update (keepsD_fields _) (.pure _)) (.uns _)) o.data
theorem kd_setField (v : Value) (i : Nat) (x : Value) : KD (setField v i x) := by
  cases v <;> first | exact .uns _ | exact kd_updateField _ _ _
theorem kd_setFlight (e : Value) (f : Option Addr) : KD (setFlight e f) := KD.bind (kd_field _ _) fun tb => kd_ite (kd_setField _ _ _) (.pure _)
theorem kd_readyFrames (l : List Env) : KD (readyFrames l) := by
  induction l with
  | nil => exact .pure _
  | cons env outer ih =>
    unfold readyFrames
    generalize env.frame = f
    cases f with
    | none => exact .uns _
    | some f =>
      refine .load fun o => ?_
      refine kd_ite (.pure _) (KD.bind ?_ fun i => KD.bind ?_ fun b => .update (fun o => ?_) ih)
      · exact kd_ite (.pure _) (kd_ite (.pure _) (KD.bind (kd_field _ _) fun _ => .pure _))
      · cases outer with
        | nil => exact kd_ite (.pure _) (.stack fun _ => .pure _)
        | cons => exact .pure _
      · obtain ⟨c, d, dt, sl⟩ := o
        cases dt <;> exact ⟨rfl, rfl⟩
theorem kd_frameOf (env : Env) : KD (PySem.frameOf env) := by
  refine .stack fun l => ?_
  show KD (PySem.frameObject _ >>= _)
  refine KD.bind ?_ fun r => ?_
  · generalize List.dropWhile _ _ = l
    cases l with
    | nil => exact .pure _
    | cons e l => exact KD.bind (kd_readyFrames _) fun _ => .pure _
  · cases r with
    | none => exact .uns _
    | some r => exact .pure _
theorem kd_entryPlaceOf (f : Addr) (b : Bool) : KD (entryPlaceOf f b) := by
  refine .stack fun l => ?_
  show KD (match List.find? _ l with | some (_, pos) => _ | none => _)
  generalize List.find? _ l = q
  cases q <;> exact .pure _
theorem kd_newEntry (a b c d e : Value) (pl : List Value) : KD (EntryCells.newEntry a b c d e pl) := by
  unfold EntryCells.newEntry newFields newObj newObjAsIs
  dsimp only
  repeat' first | refine kd_ite ?_ ?_ | exact KD.bind (.uns _) fun _ => KD.bind (.alloc fun _ => .pure _) fun _ => .pure _ | exact KD.bind (.alloc fun _ => .pure _) fun _ => .pure _
theorem kd_noteFrame (e : Value) (env : Env) : KD (noteFrame e env) := by
  unfold noteFrame
  generalize env.frame = f
  cases f with
  | none => exact .uns _
  | some f =>
    refine KD.bind (kd_field _ _) fun hd => ?_
    have tail : KD (do setField e 1 (← EntryCells.newEntry hd (← PySem.frameOf env) .none (rawInt f) .none (← entryPlaceOf f (hd != .none)))) := KD.bind (kd_frameOf _) fun a => KD.bind (kd_entryPlaceOf _ _) fun pl => KD.bind (kd_newEntry _ _ _ _ _ _) fun b => kd_setField _ _ _
    exact kd_ite (KD.bind (kd_field _ _) fun h3 => kd_ite (.pure _) (KD.bind (kd_setField _ _ _) fun _ => tail)) tail
theorem kd_leaving (env : Env) (e : Value) : KD (leaving env e) := KD.bind (kd_noteFrame _ _) fun _ => kd_setFlight _ _
noncomputable def LineIs (P : Params) (es : List DictEntry) (ln : Int) (t : Tok) : Prop := ∃ ws : List (Str × Value), All2 (Ent P (fun _ => none)) (kkv ws) es ∧ ((kkv ws).map (·.1)).Nodup ∧ (kkv ws).length ≤ 60 ∧ lkS ws (Str.ofString "line") = some (.int ln t)
inductive Fault (P : Params) (base G : Heap) (l : List Env) (e : Addr) (ln : Int) (news : List (Addr × Obj)) (h : Heap) : Prop
  | mk (de : Addr) (es : List DictEntry) (n : Nat) (t : Tok) (R : RaisedSN base G l e (.ref 65) ((de, dictOf es n) :: news) h) (oe : Obj) (he : h.get? e = some oe) (hd : oe.dict = some de) (hl : LineIs P es ln t) (hn : ∀ q ∈ news, q.1 ≠ de)
theorem frames_mem {env : Env} {outer : List Env} {L b : Addr} (hf : env.frame = some L) (hm : b ∈ (env :: outer).filterMap (·.frame)) : b = L ∨ b ∈ outer.filterMap (·.frame) := by
  obtain ⟨en, he, hb⟩ := List.mem_filterMap.mp hm
  rcases List.mem_cons.mp he with rfl | he
  · exact .inl (Option.some.inj (hb.symm.trans hf))
  · exact .inr (List.mem_filterMap.mpr ⟨en, he, hb⟩)
section
variable {P : Params} {M : Model} {A : Around} {E : Value → Shared → Prop} {s' : Shared} {base g g₂ : Heap} {outer : List Env} {L e de : Addr} {m : Str → Option Value} {env : Env} {Q : Unit → Shared → Prop} {news : List (Addr × Obj)}
theorem leave_fault1 {oe : Obj} {es : List DictEntry} {n : Nat} {vs : Array Value} {a0 : Value} {ln : Int} {t : Tok} (hf : env.frame = some L) (hk : env.scope.kind = .function) (K : Below A base outer g) (F : Fr g L s'.heap m)
    (N : News g L s'.heap ((e, oe) :: (de, dictOf es n) :: news)) (hne : ∀ q ∈ (de, dictOf es n) :: news, q.1 ≠ e) (hde : ∀ q ∈ news, q.1 ≠ de) (hc : oe.cls = .ref 65) (hdd : oe.dict = some de) (hd : oe.data = .fields vs) (h0 : vs[0]? = some a0) (h1 : vs[1]? = some .none)
    (hl : LineIs P es ln t)
    (hQ : ∀ h', Fault P base g outer e ln news h' → g.UpToSlots h' → Q () { s' with heap := h' }) : wpAny M (A.deeper env) (leaving env (.ref e)) Q E s' := by
  have K' := pushX K F hf hk
  have hin : ∀ en ∈ env :: outer, ∀ b, en.frame = some b → b ∈ e :: (env :: outer).filterMap (·.frame) := fun en he b hb => .tail _ (List.mem_filterMap.mpr ⟨en, he, hb⟩)
  have Ne := N _ (.head _)
  have hbe : ∀ h : Heap, h.StaysIn g → h.get? e = none := fun h k => fresh_of_stays k Ne.2.2
  have st : base.StaysIn (hideAll s'.heap (e :: (env :: outer).filterMap (·.frame))) := fun b o q => hideAll_get _ (K'.stays b o q) fun hm => by
    rcases List.mem_cons.mp hm with rfl | hm
    · rw [hbe base K.stays] at q; cases q
    · rw [(K'.frames.mem hm).1] at q; cases q
  have sg : ∀ b o, g.get? b = some o → b ∉ outer.filterMap (·.frame) → (hideAll s'.heap (e :: (env :: outer).filterMap (·.frame))).get? b = some o := fun b o q nm => hideAll_get _ (F.keep b o q) fun hm => by
    rcases List.mem_cons.mp hm with rfl | hm
    · rw [Ne.2.2] at q; cases q
    · rcases frames_mem hf hm with z | z
      · rw [z, kts_self F] at q; cases q
      · exact nm z
  have hln : ∀ q ∈ (de, dictOf es n) :: news, (hideAll s'.heap (e :: (env :: outer).filterMap (·.frame))).get? q.1 = some q.2 ∧ g.get? q.1 = none ∧ base.get? q.1 = none := fun q hq => by
    have Nq := N q (.tail _ hq)
    refine ⟨hideAll_get _ Nq.1 fun hm => ?_, Nq.2.2, fresh_of_stays K.stays Nq.2.2⟩
    rcases List.mem_cons.mp hm with z | hm
    · exact hne q hq z
    · obtain ⟨en, he, hb⟩ := List.mem_filterMap.mp hm
      rcases List.mem_cons.mp he with rfl | he
      · exact Nq.2.1 (Option.some.inj (hb.symm.trans hf))
      · obtain ⟨o, ho, _⟩ := (K.frames.mem (List.mem_filterMap.mpr ⟨en, he, hb⟩)).2
        rw [Nq.2.2] at ho; cases ho
  have hen : (hideAll s'.heap (e :: (env :: outer).filterMap (·.frame))).get? e = none := hideAll_none _ (.head _)
  refine wpAny_mono (wpAny_dict (Q := fun _ s'' => ∃ h', s'' = { s' with heap := h' } ∧ RaisedSN base g outer e (.ref 65) ((de, dictOf es n) :: news) h' ∧ g.UpToSlots h') (E := fun _ _ => False) (kd_leaving env (.ref e)) ?_) (fun u s'' hs => ?_) fun _ _ hs => hs.1.elim
  · refine wpAny_leaving_firstW (a0 := a0) K'.stack (funFrames_hide K'.frames hin) hf Ne.1 (fun b o hb => of_hideAll _ hb) hen hd h1 h0 fun h' hL => ?_
    obtain ⟨k1, ⟨_, _, k2⟩, k3, k4⟩ := hL
    exact ⟨h', rfl, ⟨_, a0, st, sg, hln, k1, hen, k2, by rw [← hc]; exact k3⟩, (Heap.UpToSlots.of_keeps F.keep).trans k4⟩
  · obtain ⟨⟨h', rfl, R, U⟩, D⟩ := hs
    obtain ⟨oe', he', hd'⟩ := D _ _ Ne.1
    exact hQ h' ⟨de, es, n, t, R, oe', he', hd'.trans hdd, hl, hde⟩ U
theorem leave_fault2 {ln : Int} (hf : env.frame = some L) (K : Below A base outer g) (F : Fr g L g₂ m) (R : Fault P base g₂ (env :: outer) e ln news s'.heap) (hsm : g₂.UpToSlots s'.heap)
    (hQ : ∀ h', Fault P base g outer e ln news h' → g.UpToSlots h' → Q () { s' with heap := h' }) : wpAny M (A.deeper env) (leaving env (.ref e)) Q E s' := by
  refine atom fun G fin => ?_
  obtain ⟨de, es, n, t, ⟨B, a0, hB, hBG, hl, hfl⟩, oe, he, hd, hln, hde⟩ := R
  refine fin ?_
  refine wpAny_mono (wpAny_dict (Q := fun _ s'' => ∃ h', s'' = { s' with heap := h' } ∧ RaisedSN base g outer e (.ref 65) ((de, dictOf es n) :: news) h' ∧ g.UpToSlots h') (E := fun _ _ => False) (kd_leaving env (.ref e)) ?_) (fun u s'' hs => ?_) fun _ _ hs => hs.1.elim
  · exact wpAny_leaves_onW (Around.frames_deeper K.stack) hf hfl fun h' x1 x2 => ⟨h', rfl, ⟨B, a0, hB, fun b o q nm => hBG b o (F.keep b o q) (fun hm => by
      rcases frames_mem hf hm with z | z
      · rw [z, kts_self F] at q; cases q
      · exact nm z), fun q hq => ⟨(hl q hq).1, kts_none F.keep (hl q hq).2.1, (hl q hq).2.2⟩, x1⟩, (Heap.UpToSlots.of_keeps F.keep).trans (hsm.trans x2)⟩
  · obtain ⟨⟨h', rfl, R, U⟩, D⟩ := hs
    obtain ⟨oe', he', hd'⟩ := D _ _ he
    exact hQ h' ⟨de, es, n, t, R, oe', he', hd'.trans hd, hln, hde⟩ U
end
section
variable {prog : Program} {w : World} {A₀ : Around} {E : Value → Shared → Prop} {s' : Shared} {base g g₀ G : Heap} {outer : List Env} {L a e : Addr} {m : Str → Option Value} {cn : Str} {cs : Scope} {ccd : Value} {cl : List (Str × Addr)} {hs : List ExceptHandler}
  {n : Str} {b₀ : Stmt} {suite : List Stmt} {pos np : Pos} {rest : List ExceptHandler} {Q : Flow → Shared → Prop} {news : List (Addr × Obj)} {ln : Int} {P : Params} {KF : Frag} {p : Program} {loose : List Str} {mean : ExcName → Option Value} {mg mb : Str → Option Value}
theorem look_fault {env : Env} (hf : env.frame = some L) (R : Fault P base G (env :: outer) e ln news s'.heap) (K : Below A₀ base outer g) (hsm : G.UpToSlots s'.heap)
    (k : ∀ h', Fault P base G (env :: outer) e ln news h' → G.UpToSlots h' → wpAny (model prog w) (A₀.deeper env) (handleBy (.ref e) env hs) Q E { s' with heap := h' }) :
    wpAny (model prog w) (A₀.deeper env) (noteFrame (.ref e) env)
      (fun _ s₂ => wpAny (model prog w) (A₀.deeper env) (setFlight (.ref e) none) (fun _ s₃ => wpAny (model prog w) (A₀.deeper env) (handleBy (.ref e) env hs) Q E s₃) E s₂) E s' := by
  refine atom fun G fin => ?_
  obtain ⟨de, es, n, t, ⟨B, a0, hB, hBG, hl, hfl⟩, oe, he, hd, hln, hde⟩ := R
  refine fin ?_
  refine wpAny_mono (wpAny_dict (Q := fun _ s'' => ∃ h', s'' = { s' with heap := h' } ∧ Heap.HeldW B (env :: outer) e (.ref 65) a0 L h' ∧ s'.heap.UpToSlots h') (E := fun _ _ => False) (kd_noteFrame (.ref e) env) ?_) (fun u s₂ hs => ?_) fun _ _ hs => hs.1.elim
  · exact wpAny_looks_onW (Around.frames_deeper K.stack) hf hfl fun h' x1 x2 => ⟨h', rfl, x1, x2⟩
  · obtain ⟨⟨h₂, rfl, H₂, U₂⟩, D₂⟩ := hs
    refine (D₂ _ _ he).elim fun oe₂ q => ?_
    have he₂ := q.1
    have hd₂ := q.2
    refine wpAny_mono (wpAny_dict (Q := fun _ s'' => ∃ h', s'' = { s' with heap := h' } ∧ Heap.FlyingW B (env :: outer) e (.ref 65) a0 h' ∧ h₂.UpToSlots h') (E := fun _ _ => False) (kd_setFlight (.ref e) none) ?_) (fun u s₃ hs => ?_) fun _ _ hs => hs.1.elim
    · exact wpAny_landsW H₂ fun h' x1 x2 => ⟨h', rfl, x1, x2⟩
    · obtain ⟨⟨h₃, rfl, H₃, U₃⟩, D₃⟩ := hs
      obtain ⟨oe₃, he₃, hd₃⟩ := D₃ _ _ he₂
      exact k h₃ ⟨de, es, n, t, ⟨B, a0, hB, hBG, hl, H₃⟩, oe₃, he₃, hd₃.trans (hd₂.trans hd), hln, hde⟩ (hsm.trans (U₂.trans U₃))
theorem hit_fault {nm q' : Str} {N : Addr} {bs bm : List Value} {hdct : Bool} {sn : List Str} {sub : List Value} {ab : Bool} {col : Option Bool} {dd : Option Addr} {k0 k1 k2 k3 k5 : Option Value} {newId : String} {kept : List (Addr × Obj)}
    (hkept : ∀ q ∈ kept, G.get? q.1 = some q.2) (hkept' : ∀ q ∈ kept, q.1 ≠ L ∧ g.get? q.1 = none) (R : Fault P base G (envX cn cs L a ccd cl :: outer) e ln news s'.heap) (F : Fr g L G m) (K : Below A₀ base outer g) (hsm : G.UpToSlots s'.heap) (XB : KF.In base) (TB : Top p loose mean mg mb base)
    (T0 : KtsTurn (outer.filterMap (·.frame)) g₀ g) (hC : KF.lookup 65 = some (excClassObj nm q' 65 N bs bm hdct sn sub ab col dd k0 k1 k2 k3 k5 newId)) (hbm : bm.contains (.type "BaseException") = true) (hnm : nsIn KF mainGlobals (Str.ofString "CheckFault") = some (some (.ref 65)))
    (k : ∀ h' g' tk oe de es n' t, KtsTurn (outer.filterMap (·.frame)) g₀ g' → Fr g' L h' (fun y => if y = n then some (.ref e) else m y) → oe.cls = .ref 65 → notCls oe = true → oe.dict = some de → LineIs P es ln t → (∀ q ∈ (de, dictOf es n') :: news, q.1 ≠ e) → (∀ q ∈ news, q.1 ≠ de) →
      News g' L h' ((e, oe) :: (de, dictOf es n') :: (news ++ kept)) → Below A₀ base outer g' → KF.In g' → Top p loose mean mg mb g' →
      wpAny (model prog w) ((A₀.deeper (envX cn cs L a ccd cl)).mark (some (.ref e))) (execs (b₀ :: suite) (envX cn cs L a ccd cl))
        (fun f s₄ => wpAny (model prog w) (A₀.deeper (envX cn cs L a ccd cl)) (do bindName (envX cn cs L a ccd cl) n .none; unbindBehindTheSuite (envX cn cs L a ccd cl) n pos) (fun _ s₅ => Q f s₅) E s₄)
        (AsSuiteRaised (model prog w) ((A₀.deeper (envX cn cs L a ccd cl)).mark (some (.ref e))) (envX cn cs L a ccd cl) n pos (notedBy (model prog w) ((A₀.deeper (envX cn cs L a ccd cl)).mark (some (.ref e))) (envX cn cs L a ccd cl) (cameBackBy (model prog w) (A₀.deeper (envX cn cs L a ccd cl)) (envX cn cs L a ccd cl) E)))
        { s' with heap := h', toks := tk })
    (hk : cs.kind = .function) (hlo : (envX cn cs L a ccd cl).kindOf n = some .local) (hg : (envX cn cs L a ccd cl).kindOf (Str.ofString "CheckFault") = some .globalImplicit) :
    wpAny (model prog w) (A₀.deeper (envX cn cs L a ccd cl)) (handleBy (.ref e) (envX cn cs L a ccd cl) (.ExceptHandler (some (.Name (Str.ofString "CheckFault") np)) (some n) (b₀ :: suite) pos :: rest)) Q E s' := by
  refine atom fun Z fin => ?_
  obtain ⟨de, es, n', t, ⟨B, a0, hB, hBG, hl, hfl⟩, oe, he, hd, hln, hde⟩ := R
  obtain ⟨g₅, T₅, F₅, K₅⟩ := kts_ground (name := cn) (scope := cs) (a := a) (cd := ccd) K F hBG hfl.1 hsm
  have hL : B.get? L = none := by
    obtain ⟨_, ⟨L', _, hf, hn', _⟩, _⟩ := hfl.2.2.1
    obtain rfl : L = L' := Option.some.inj hf
    exact hn'
  obtain ⟨ob, hob, hobc⟩ := hfl.there
  refine fin ?_
  refine wpAny_handleBy_cons (codeAny_handlers_test (nameX_K F₅ (XB.keeps K₅.stays) (topRead_of (TB.keeps K₅.stays)) hnm ?_ hk hg)) (by intro q; cases q)
  refine wpAny_excMatches_sub_self (F₅.keep _ _ (XB.keeps K₅.stays _ _ hC)) hob hobc hbm ?_
  refine codeAny_handlers_suite_as ?_
  refine wpAny_mono (wpAny_dict (Q := fun _ s'' => ∃ h', s'' = { s' with heap := h' } ∧ Heap.FlyingW B (envX cn cs L a ccd cl :: outer) e (.ref 65) a0 h' ∧ s'.heap.UpToSlots h') (E := fun _ _ => False) (kd_setFlight (.ref e) none) ?_) (fun u s₃ hs => ?_) fun _ _ hs => hs.1.elim
  · exact lands_againW hfl fun h' x1 x2 => ⟨h', rfl, x1, x2⟩
  obtain ⟨⟨h₆, rfl, hfl₆, U₆⟩, D₆⟩ := hs
  refine atom fun Z fin => ?_
  obtain ⟨oe₆, he₆, hd₆⟩ := D₆ _ _ he
  obtain ⟨g₆, T₆, F₆, K₆⟩ := kts_ground (name := cn) (scope := cs) (a := a) (cd := ccd) K F hBG hfl₆.1 (hsm.trans U₆)
  obtain ⟨oe', ws, hoe, hoec, hoed, hoe0⟩ := hfl₆.first
  obtain rfl : oe₆ = oe' := Option.some.inj (he₆.symm.trans hoe)
  have ne₆ : g₆.get? e = none := T₆.none_ _ (kts_fresh (name := cn) (scope := cs) (a := a) (cd := ccd) F hBG hfl₆.2.1 fun o ho m => by
    obtain ⟨_, o', ho', hd⟩ := K.frames.mem m
    rw [ho] at ho'
    cases ho'
    obtain ⟨sl, hs⟩ := (hsm.trans U₆) _ _ (F.keep _ _ ho) hd
    rw [hoe] at hs
    cases hs
    exact hd _ hoed)
  have Nl : News g₆ L h₆ ((de, dictOf es n') :: (news ++ kept)) := fun q hq => by
    rcases List.mem_append.mp (show q ∈ ((de, dictOf es n') :: news) ++ kept from hq) with hq | hq
    · exact ⟨hfl₆.1 _ _ (hl q hq).1, (fun z => by have := (hl q hq).1; rw [z, hL] at this; cases this), T₆.none_ _ (kts_none F.keep (hl q hq).2.1)⟩
    · refine ⟨hfl₆.1 _ _ (hBG _ _ (hkept q hq) fun hm => ?_), (hkept' q hq).1, T₆.none_ _ (hkept' q hq).2⟩
      rcases frames_mem (env := envX cn cs L a ccd cl) rfl hm with z | z
      · exact (hkept' q hq).1 z
      · obtain ⟨_, o, ho, _⟩ := K.frames.mem z
        rw [(hkept' q hq).2] at ho; cases ho
  refine fin ?_
  refine storeX_L F₆ (News.more F₆ Nl hoe (fun es n q => by rw [hoed] at q; cases q) ne₆) (fun h₇ F₇ N₇ => ?_) hk hlo
  exact k h₇ g₆ _ oe₆ de es n' t (T0.trans T₆) F₇ hoec (by unfold notCls; rw [hoed]) (hd₆.trans hd) hln (fun q hq z => by have := (hl q hq).1; rw [z, hfl.2.1] at this; cases this) hde N₇ K₆ (XB.keeps K₆.stays) (TB.keeps K₆.stays)
end
end Mine
namespace Mine
theorem sEq_f {a b : Str} (h : Fast.sEq a b = false) : a ≠ b := fun e => Bool.noConfusion (h.symm.trans (Fast.sEq_iff.mpr e))
theorem sEq_ne {a b : Str} (h : a ≠ b) : Fast.sEq a b = false := bool_el (fun e => (h (Fast.sEq_iff.mp e)).elim) id
theorem beq_sEq (a b : Str) : (a == b) = Fast.sEq a b := bool_el (b := Fast.sEq a b) (fun q => by rw [q, Fast.sEq_iff.mp q]; exact beq_self_eq_true _) fun q => by rw [q]; exact beq_eq_false_iff_ne.mpr (sEq_f q)
theorem lkS_lookup {x : Str} {k : NameKind} {ns : Names} (e : lkS ns x = some k) : ns.lookup x = some k := by
  induction ns with
  | nil => exact nS e
  | cons p r ih =>
    rw [List.lookup_cons]
    exact lkB_hd e (fun q z => by rw [beq_sEq, Fast.sEq_iff.mpr (Fast.sEq_iff.mp q).symm]; exact congrArg some z) fun q z => by rw [beq_sEq, sEq_ne (sEq_f q).symm]; exact ih z
theorem not_dbg {x : Str} (h : Fast.sEq x dbg = false) : (x == ("__debug__" : Str)) = false := beq_eq_false_iff_ne.mpr (sEq_f h)
theorem isStr_sEq (a b : Str) (t : Tok) : (Value.str a t).isStr b = Fast.sEq a b := beq_sEq a b
section
variable {P : Params} {ρ : Rho}
theorem ent_is {p : Str × V} {e : DictEntry} (x : Ent P ρ p e) (f : Str) : e.key.isStr f = Fast.sEq p.1 f := x.1.elim fun t hk => (congrArg (·.isStr f) hk).trans (isStr_sEq _ _ _)
theorem ent_ref {kvs : List (Str × V)} {es : List DictEntry} (h : All2 (Ent P ρ) kvs es) : es.any (·.refKey) = false := by
  induction h with
  | nil => rfl
  | @cons p e _ _ x _ ih =>
    rw [List.any_cons, ih, Bool.or_false]
    exact x.1.elim fun t hk => (congrArg (fun k => DictEntry.refKey ⟨e.hash, k, e.val⟩) hk : _ = DictEntry.refKey ⟨e.hash, .str p.1 t, e.val⟩)
theorem ent_get {f : Str} {x : V} {kvs : List (Str × V)} {es : List DictEntry} (h : All2 (Ent P ρ) kvs es) (q : lkS kvs f = some x) : ∃ u, getL f es = some (some u) ∧ Den ρ x u := by
  have : ∃ e, es.find? (·.key.isStr f) = some e ∧ Den ρ x e.val := by
    induction h with
    | nil => exact nS q
    | @cons p e _ _ h r ih =>
      rw [List.find?_cons, ent_is h]
      refine lkB_hd q (fun z y => ?_) fun z y => ?_
      · rw [z]; exact ⟨e, rfl, y ▸ h.2.2⟩
      · rw [z]; exact ih y
  exact this.elim fun e q => ⟨e.val, by unfold getL; rw [q.1], q.2⟩
theorem ent_put {f : Str} {x : V} {u : Value} {t : Tok} (hd : Den ρ x u) {kvs : List (Str × V)} {es : List DictEntry} (h : All2 (Ent P ρ) kvs es) : All2 (Ent P ρ) (putS kvs f x) (putL f (PyData.keyHash P f) (.str f t) u es) := by
  induction h with
  | nil => exact .cons ⟨⟨t, rfl⟩, rfl, hd⟩ .nil
  | @cons p e kvs es h r ih =>
    show All2 _ (ptB _ (p :: kvs) f x) (if e.key.isStr f = true then ⟨e.hash, e.key, u⟩ :: es else e :: putL f (PyData.keyHash P f) (.str f t) u es)
    rw [ent_is h]
    refine bool_el (b := Fast.sEq p.1 f) (fun z => ?_) fun z => ?_
    · rw [ptB_t z, if_pos z]; exact .cons ⟨h.1, h.2.1, hd⟩ r
    · rw [ptB_f z, if_neg (by rw [z]; exact Bool.false_ne_true)]; exact .cons h ih
theorem den_handed {x : V} {u : Value} (h : Den ρ x u) (hx : isK x = false) : handedIn u = true := by
  cases x with
  | none => exact congrArg handedIn h
  | bool b => exact congrArg handedIn h
  | sb b => exact congrArg handedIn h
  | ref a => exact h.elim fun ad q => congrArg handedIn q.2
  | either b x y => exact h.elim fun ad q => congrArg handedIn q.2
  | k v => exact Bool.noConfusion hx
  | _ => exact h.elim fun t q => congrArg handedIn q
end
theorem lkS_none {α : Type} {x : Str} {l : List (Str × α)} (h : lkS l x = none) : x ∉ l.map (·.1) := lkB_none (strT x) h
theorem lkS_mem {α : Type} {x : Str} {v : α} {l : List (Str × α)} (h : lkS l x = some v) : (x, v) ∈ l := lkB_mem (strT x) h
theorem lkN_mem {α : Type} {x : Nat} {v : α} {l : List (Nat × α)} (h : lkN l x = some v) : (x, v) ∈ l := lkB_mem (natT x) h
theorem memS_of {x : Str} {l : List Str} (h : memS l x = true) : x ∈ l := by
  induction l with
  | nil => exact Bool.noConfusion h
  | cons p r ih => exact bool_el (b := Fast.sEq p x) (fun q => Fast.sEq_iff.mp q ▸ .head _) fun q => .tail _ (ih ((congrArg (@Bool.rec (fun _ => Bool) (memS r x) true) q).symm.trans h))
theorem memS_in {x : Str} {l : List Str} (h : x ∈ l) : memS l x = true := by
  induction h with
  | head => exact congrArg (@Bool.rec (fun _ => Bool) (memS _ x) true) (Fast.sEq_iff.mpr rfl)
  | @tail p r _ ih =>
    show @Bool.rec (fun _ => Bool) (memS r x) true (Fast.sEq p x) = true
    rw [ih]; cases Fast.sEq p x <;> rfl
theorem lkS_kkv {f : Str} {ws : List (Str × Value)} : lkS (kkv ws) f = (lkS ws f).map V.k := lkB_map
theorem lkS_tkv {f : Str} {ws : List (Str × Str)} : lkS (tkv ws) f = (lkS ws f).map V.ss := lkB_map
theorem putS_kkv {f : Str} {u : Value} {ws : List (Str × Value)} : putS (kkv ws) f (.k u) = kkv (putS ws f u) := ptB_map
theorem putS_tkv {f u : Str} {ws : List (Str × Str)} : putS (tkv ws) f (.ss u) = tkv (putS ws f u) := ptB_map
theorem lkS_put_t {α : Type} {x : Str} {v : α} {l : List (Str × α)} : lkS (putS l x v) x = some v := lkB_pt (strT x)
theorem lkS_put_f {α : Type} {x y : Str} {v : α} {l : List (Str × α)} (h : x ≠ y) : lkS (putS l x v) y = lkS l y := lkB_pt_ne (strT x) (strT y) h
theorem lkS_put {α : Type} {x y : Str} {v : α} {l : List (Str × α)} : lkS (putS l x v) y = if x = y then some v else lkS l y := by
  by_cases h : x = y
  · rw [if_pos h]; exact h ▸ lkS_put_t
  · rw [if_neg h]; exact lkS_put_f h
theorem putS_len {α : Type} {x : Str} {v : α} {l : List (Str × α)} : (putS l x v).length = if (lkS l x).isSome = true then l.length else l.length + 1 := ptB_len
theorem putS_le {α : Type} {x : Str} {v : α} {l : List (Str × α)} : (putS l x v).length ≤ l.length + 1 := by
  rw [putS_len]
  by_cases h : (lkS l x).isSome = true
  · rw [if_pos h]; exact Nat.le_succ _
  · rw [if_neg h]; exact Nat.le_refl _
theorem kkv_keys {α : Type} {ws : List (α × Value)} : (kkv ws).map (·.1) = ws.map (·.1) := by simp [kkv]
theorem tkv_keys {ws : List (Str × Str)} : (tkv ws).map (·.1) = ws.map (·.1) := by simp [tkv]
theorem kkv_len {α : Type} {ws : List (α × Value)} : (kkv ws).length = ws.length := by unfold kkv; rw [List.length_map]
theorem tkv_len {ws : List (Str × Str)} : (tkv ws).length = ws.length := by unfold tkv; rw [List.length_map]
structure ExcA (c : Cd) (ρ : Rho) (σ : St) (l : Int) (e : Addr) (G : Heap) (news : List (Addr × Obj)) (s : Shared) : Prop where
  F : Fr c.h₀ c.L G c.m
  fl : Fault c.w.params c.base G (c.fenv :: c.outer) e l (c.X ++ news) s.heap
  up : G.UpToSlots s.heap
  nm : NmA c.w.params c.X c.Y ρ σ.H σ.nx news
  loc : LocIs ρ σ.loc c.ml
  cel : CelIs ρ σ.cel c.env.cells
  sh : s = { c.s₀ with heap := s.heap, toks := s.toks }
noncomputable def ExcRel (c : Cd) (ρ : Rho) (σ : St) (l : Int) (u : Value) (s : Shared) : Prop := ∃ e G news, u = .ref e ∧ ExcA c ρ σ l e G news s
structure FnOk (K : Frag) (f : Nat) (i : FnI) : Prop where
  ex : ∃ (oc : Value) (od : Option Addr) (osl : Array (Option Value)) (name : Str) (params : Arguments) (kV doc pm : Value) (an : Option Addr) (cdv ct : Value),
    K.lookup f = some ⟨oc, od, .func (fnOf name i.qual params i.body i.sc .none kV doc pm an cdv ct), osl⟩ ∧ codeIn K cdv i.qual = true ∧
    params = { posonlyargs := [], args := params.args, vararg := none, kwonlyargs := [], kw_defaults := [], kwarg := none, defaults := [] } ∧ params.args.map (·.arg) = i.pars
  nd : i.pars.Nodup
  cnd : ((cellsFrom 0 i.sc.names []).map (·.1)).Nodup
  co : i.sc.isCoroutine = false
  gen : i.sc.isGenerator = false
  kd : i.sc.kind = .function
structure FldOk (K : Frag) (C : Addr) (f : Str) : Prop where
  pg : plainGet K C f = true
  hd : hasDictIn K C = true
  fi : findIn K (.ref C) f = some none
  sa : findIn K (.ref C) "__setattr__" = some (some (.builtin "object.__setattr__"))
  po : plainOver K C = true
  tk : takerIn K C f = some none
structure IniOk (K : Frag) (C : Addr) (f : Nat) : Prop where
  mks : makesIn K C = true
  fi : findIn K (.ref C) "__init__" = some (some (.ref f))
  fn : isFn K (.ref f) = true
noncomputable def SpecOk (f : Nat) (S : Spec) (n : Nat) : Prop := ∀ (c : Cd) σ vs us K X ρ s Q E, Ck false c n → Rel c ρ σ s → All2 (Den ρ) vs us → S vs σ K X →
  (∀ ρ' σ' v u s', ρ.le ρ' → Rel c ρ' σ' s' → Den ρ' v u → K v σ' → Q u s') → (∀ ρ' σ' l u s', ρ.le ρ' → ExcRel c ρ' σ' l u s' → X l σ' → E u s') →
  wpAny (MM c.w) c.A (call (.ref f) us) Q E s
structure ExcOk (K : Frag) : Prop where
  ga : findIn K (.ref 65) "__getattribute__" = some (some (.builtin "BaseException.__getattribute__"))
  gh : findIn K (.ref 65) "__getattr__" = some none
  m : mroIn K 65 (.type "BaseException") = some true
  fi : findIn K (.ref 65) lineS = some none
  hd : hasDictIn K 65 = true
inductive ExcC (K : Frag) (C : Addr) : Prop
  | mk (nm qn : Str) (N : Addr) (bs bm : List Value) (hdct : Bool) (sn : List Str) (sub : List Value) (ab : Bool) (col : Option Bool) (dd : Option Addr) (k0 k1 k2 k3 k5 : Option Value)
    (h : K.lookup C = some (excClassObj nm qn C N bs bm hdct sn sub ab col dd k0 k1 k2 k3 k5 "Exception.__new__")) (h1 : bm.contains (.type "BaseException") = true) (h2 : bm.contains (.type "Exception") = true) (h3 : bm.contains (.type "AttributeError") = false) (h4 : bm.contains (.type "NameError") = false)
noncomputable def MakesFault (w : World) : Prop := ∀ (c : Cd) (n : Nat), c.w = w → Ck false c (n + 2) → ∀ (s : Shared) (rest : List (Addr × Obj)) (ln : Int) (t1 : Tok) (v2 : Value) (Q E : Value → Shared → Prop), Fr c.h₀ c.L s.heap c.m → News c.h₀ c.L s.heap rest →
  (∀ e de es nn vs t' h' tk', LineIs w.params es ln t1 → Fr c.h₀ c.L h' c.m →
    News c.h₀ c.L h' ((e, { cls := .ref 65, dict := some de, data := .fields #[.ref t', .none, .none, .none, .bool false, .none], slots := vs }) :: (de, dictOf es nn) :: rest) → (∀ q ∈ (de, dictOf es nn) :: rest, q.1 ≠ e) ∧ (∀ q ∈ rest, q.1 ≠ de) → Q (.ref e) { s with heap := h', toks := tk' }) →
  wpAny (MM c.w) c.A (call (.ref 65) [.int ln t1, v2]) Q E s
structure TabOk (T : Tab) (w : World) : Prop where
  glob : ∀ x v, lkS T.glob x = some v → nsIn (KK w) mainGlobals x = some (some v)
  fld : ∀ c f, okF T c f = true → FldOk (KK w) c f
  fns : ∀ f i, T.fns f = some i → FnOk (KK w) f i ∧ keepIn (KK w) (.ref f) = true
  ini : ∀ C f, lkN T.inits C = some f → IniOk (KK w) C f ∧ keepIn (KK w) (.ref C) = true
  blt : ∀ x code, lkS T.blt x = some code → nsIn (KK w) mainGlobals x = some none ∧ bootBuiltins x = some (bltVal code) ∧ x ≠ "__name__"
  tups : ∀ p ss, lkN T.tups p = some ss → ∃ dd items n sl, (KK w).lookup p = some ⟨.type "tuple", dd, .seq items n, sl⟩ ∧ StrsAre items.toList ss
  itups : ∀ p ns, lkN T.itups p = some ns → ∃ dd items n sl, (KK w).lookup p = some ⟨.type "tuple", dd, .seq items n, sl⟩ ∧ IntsAre items.toList ns
  spec : ∀ f m S, T.spec f = some (m, S) → SpecOk f S m ∧ keepIn (KK w) (.ref f) = true
  exc : ExcOk (KK w)
  mkf : MakesFault w
  cls : ExcC (KK w) 65
  kf : keepIn (KK w) (.ref 65) = true
end Mine
namespace Mine
theorem zip_lookup {ps : List Str} {vs : List Value} (hl : vs.length = ps.length) : ∀ n ∈ ps, ((ps.zip vs).lookup n).isNone = false := by
  induction ps generalizing vs with
  | nil => exact fun _ h => nomatch h
  | cons p r ih =>
    cases vs with
    | nil => exact nomatch hl
    | cons v vs =>
      intro n hn
      rw [List.zip_cons_cons, List.lookup_cons]
      cases q : n == p with
      | true => rfl
      | false => exact (List.mem_cons.mp hn).elim (fun e => absurd e (beq_eq_false_iff_ne.mp q)) (ih (Nat.succ.inj hl) n)
theorem fm_congr {α β : Type} {f g : α → Option β} {l : List α} (h : ∀ a ∈ l, f a = g a) : l.filterMap f = l.filterMap g := by
  induction l with
  | nil => rfl
  | cons a l ih => rw [List.filterMap_cons, List.filterMap_cons, h a (.head _), ih fun b hb => h b (.tail _ hb)]
theorem zip_self {ps : List Str} {vs : List Value} (hn : ps.Nodup) (hl : vs.length = ps.length) : ps.filterMap (fun n => ((ps.zip vs).lookup n).map (n, ·)) = ps.zip vs := by
  induction ps generalizing vs with
  | nil => rfl
  | cons p r ih =>
    cases vs with
    | nil => exact nomatch hl
    | cons v vs =>
      have hn := List.nodup_cons.mp hn
      rw [List.zip_cons_cons, List.filterMap_cons, List.lookup_cons, beq_self_eq_true]
      refine congrArg ((p, v) :: ·) ((fm_congr fun n h => ?_).trans (ih hn.2 (Nat.succ.inj hl)))
      rw [List.lookup_cons, beq_eq_false_iff_ne.mpr fun (e : n = p) => hn.1 (e ▸ h)]
theorem ite_skip {α : Type} {c : Prop} [Decidable c] {a b r : α} (h : ¬ c) (k : b = r) : (if c then a else b) = r := (if_neg h).trans k
theorem miss_nil {qs : List Str} {f : Str → Bool} {n : Nat} (h : ∀ q ∈ qs, f q = false) : ¬ (!((qs.take n).filter f).isEmpty) = true := by
  rw [List.filter_eq_nil_iff.mpr fun a m => by rw [h a (List.mem_of_mem_take m)]; exact Bool.false_ne_true]
  exact Bool.false_ne_true
theorem zip_none {α β : Type} {l : List α} {k : Nat} : l.zip (List.drop k ([] : List β)) = [] := by rw [List.drop_nil, List.zip_nil_right]
theorem bind_plain {fd : FuncData} {vs : List Value} {ps : List Arg} (hp : fd.params = { posonlyargs := [], args := ps, vararg := none, kwonlyargs := [], kw_defaults := [], kwarg := none, defaults := [] }) (hd : fd.defaults = .none)
    (hn : (ps.map (·.arg)).Nodup) (hl : vs.length = ps.length) : bindArgs fd ⟨vs, []⟩ = pure ((ps.map (·.arg)).zip vs) := by
  have hl' : vs.length = (ps.map (·.arg)).length := by rw [List.length_map]; exact hl
  cases fd
  cases hp
  cases hd
  refine ite_skip (fun q => ?_) (ite_skip (miss_nil (zip_lookup hl')) ?_)
  · exact Nat.lt_irrefl _ (Nat.lt_of_lt_of_eq (of_decide_eq_true ((Bool.and_eq_true _ _).mp q).1) hl')
  · generalize hD : List.zip (List.drop _ _) (List.drop _ (Option.getD (none : Option (Array Value)) #[]).toList) = D
    obtain rfl : D = [] := hD.symm.trans zip_none
    show (pure (List.filterMap _ (ps.map (·.arg) ++ [])) : Sem _) = _
    rw [List.append_nil]
    exact congrArg pure (zip_self hn hl')
end Mine
namespace Mine
section
variable {prog : Program} {w : World} {A : Around} {E : Value → Shared → Prop} {s : Shared} {K : Frag} {x C : Addr} {ox : Obj} {od : Option Obj} {name : Str} {expr : Bool} {Q : Value → Shared → Prop} {v : Value}
theorem exc_get_call {tk : Tok} {R : Result → Shared → Prop} (X : K.In s.heap) (I : InstAt s.heap x ox C od) (hm : mroIn K C (.type "BaseException") = some true)
    (hf : findObj K C od name = some (.value v)) (h : R (.ok (.ret v)) s) : codeAny (model prog w) A (.call (.builtin "BaseException.__getattribute__") ⟨[.ref x, .str name tk], []⟩) R s := by
  have hk : builtinKind "BaseException.__getattribute__" = some .slot := by decide +kernel
  have hsplit : splitId "BaseException.__getattribute__" = some ("BaseException", "__getattribute__") := by decide +kernel
  have sub : Looks (model prog w) s.heap (isInstance (.ref x) (.type "BaseException")) true := I.type.andThen (looks_mroIn X hm)
  refine codeAny_call_builtin PySem.F.attr_Exception.ga.plain PySem.F.entry_bexc_ga (@check_slot (model prog w) _ _ s "BaseException.__getattribute__" "BaseException" "__getattribute__" (.ref x) [.str name tk] [] _ hk hsplit sub (PySem.F.args_bexc_ga (.ref x) (.str name tk)) ?_)
  have L0 := I.type (M := model prog w)
  have L3 := looks_find (M := model prog w) X I hf
  obtain ⟨hp, g, d, t, os⟩ := s
  unfold Builtin.«object.__getattribute__»
  refine wpAny_bind (wpAny_pure (wpAny_bind (wpAny_pure (wpAny_bind (L0.at (wpAny_bind (L3.at ?_)))))))
  exact wpAny_pure h
theorem exc_get (X : K.In s.heap) (I : InstAt s.heap x ox C od) (hga : findIn K (.ref C) "__getattribute__" = some (some (.builtin "BaseException.__getattribute__"))) (hgh : findIn K (.ref C) "__getattr__" = some none) (hm : mroIn K C (.type "BaseException") = some true)
    (hf : findObj K C od name = some (.value v)) (hh : handedIn v = true) (h : Q v { s with toks := s.toks + 1 }) : wpAny (model prog w) A (getAttr (.ref x) name expr) Q E s := by
  have L0 := I.type (M := model prog w)
  have L1 := looks_findIn (M := model prog w) X hga
  have L2 := looks_findIn (M := model prog w) X hgh
  have f3 := PySem.F.attr_Exception.ga.bind (.ref x)
  have hx0 : (expr && onTheHeap (Value.builtin "BaseException.__getattribute__")) = false := by cases expr <;> rfl
  have hx2 : (Value.builtin "BaseException.__getattribute__" == Value.builtin "object.__getattribute__") = false := by decide +kernel
  have hx1 : (onTheHeap (Value.ref C) && Value.builtin "BaseException.__getattribute__" == Value.builtin "object.__getattribute__") = false := by rw [hx2]; rfl
  obtain ⟨hp, g, d, t, os⟩ := s
  unfold getAttr getAttrBy
  refine wpAny_bind (wpAny_mkText (wpAny_holding (wpAny_bind (L0.at (wpAny_bind (L1.at ?_))))))
  dsimp only
  rw [if_neg (by rw [hx1]; exact Bool.false_ne_true)]
  unfold getAttrByItsOwn hookBefore
  rw [if_pos (show onTheHeap (Value.ref C) = true from rfl)]
  refine wpAny_bind (L2.at ?_)
  refine wpAny_bind (wpAny_attempt (wpAny_holding ?_))
  unfold callGetattribute
  rw [if_neg (by rw [hx0]; exact Bool.false_ne_true)]
  unfold boundAndCalled
  refine wpAny_bind ?_
  rw [f3]
  refine wpAny_pure ?_
  refine wpAny_call (exc_get_call X I hm hf ?_)
  dsimp only
  rw [handedOut_of hh]
  exact wpAny_pure h
end
section
variable {M : Model} {A : Around} {E : Value → Shared → Prop} {s : Shared} {env : Env} {K : Frag}
variable {nm q : Str} {C N : Addr} {bs bm : List Value} {hdct : Bool} {sn : List Str} {sub : List Value} {ab : Bool} {col : Option Bool} {dd : Option Addr} {k0 k1 k2 k3 k5 : Option Value} {newId : String}
inductive MadeX (K : Frag) (C : Addr) (E : Value → Shared → Prop) (v : Value) (s : Shared) : Prop
  | mk (e : Addr) (de : Option Addr) (a0 a2 a3 a4 a5 : Value) (sl : Array (Option Value)) (hv : v = .ref e) (hX : K.In s.heap) (he : s.heap.get? e = some { cls := .ref C, dict := de, data := .fields #[a0, .none, a2, a3, a4, a5], slots := sl }) (hE : E (.ref e) s)
theorem raiseStmt_own {x : Sem Value} {Q : Flow → Shared → Prop} (hK : K.lookup C = some (excClassObj nm q C N bs bm hdct sn sub ab col dd k0 k1 k2 k3 k5 newId)) (hbase : bm.contains (.type "BaseException") = true) (hh : A.handled = none)
    (h : wpAny M A x (MadeX K C E) E s) :
    wpAny M A (raiseStmt env (some x) none) Q E s := by
  have hcB : (Value.ref C :: bm).contains (.type "BaseException") = true := by rw [List.contains_cons, hbase, Bool.or_true]
  unfold raiseStmt
  refine wpAny_bind (wpAny_mono h (fun v s₁ h₁ => ?_) fun _ _ x => x)
  obtain ⟨e, de, a0, a2, a3, a4, a5, sl, rfl, hX, he, hE⟩ := h₁
  have hC := hX _ _ hK
  obtain ⟨hp, g, d, tk, os⟩ := s₁
  repeat (first | with_reducible refine wpAny_loadPart_at he ?_ | with_reducible refine wpAny_loadPart_at hC ?_ | (with_reducible refine wpAny_isSubtype_exc hC ?_; rw [hcB]) | wp_step)
  exact wpAny_raiseNew_none hh hE
theorem raise_own {e₀ : Expr} {pos : Pos} {Q : Flow → Shared → Prop} (hK : K.lookup C = some (excClassObj nm q C N bs bm hdct sn sub ab col dd k0 k1 k2 k3 k5 newId)) (hbase : bm.contains (.type "BaseException") = true) (hh : A.handled = none)
    (h : wpAny M A (eval e₀ env) (MadeX K C E) E s) :
    wpAny M A (exec (.Raise (some e₀) none pos) env) Q E s := by
  rw [arm_exec_Raise]
  refine wpAny_bind (wpAny_standAt ?_)
  exact raiseStmt_own hK hbase hh (wpAny_bind (wpAny_mono h (fun v s₃ h₃ => wpAny_bind (wpAny_standAt (wpAny_pure h₃))) fun _ _ x => x))
end
theorem putL_len (f : Str) (h : Int) (k v : Value) (es : List DictEntry) : (putL f h k v es).length ≤ es.length + 1 := by
  induction es with
  | nil => exact Nat.le_refl _
  | cons x r ih =>
    show (if x.key.isStr f = true then (⟨x.hash, x.key, v⟩ :: r : List DictEntry) else x :: putL f h k v r).length ≤ _
    by_cases q : x.key.isStr f = true
    · rw [if_pos q]; exact Nat.le_succ _
    · rw [if_neg q]; exact Nat.succ_le_succ ih
theorem getL_some {f : Str} {es : List DictEntry} (h : es.any (·.refKey) = false) : (getL f es).isSome = true := by
  unfold getL
  rw [h]
  cases es.find? (·.key.isStr f) <;> rfl
section
variable {T : Tab} {c : Cd} {n : Nat} {ρ : Rho} {σ : St} {s : Shared} {E : Value → Shared → Prop} {news : List (Addr × Obj)} {G : Prop}
theorem RelA.ld (R : RelA c ρ σ news s) {a : Nat} {o : O} (h : get σ.H a = some o) : ∃ ad ob, ρ a = some ad ∧ (ad, ob) ∈ news ∧ s.heap.get? ad = some ob ∧ ObjIs c.w.params ρ o ob :=
  (R.led.get h).elim fun ad q => q.elim fun ob q => ⟨ad, ob, q.1, q.2.1, (R.N _ (List.mem_append_right _ q.2.1)).1, q.2.2⟩
theorem RelA.lda (R : RelA c ρ σ news s) {a : Nat} {ad : Addr} {o : O} (ea : ρ a = some ad) (h : get σ.H a = some o) (k : ∀ ob, (ad, ob) ∈ news → s.heap.get? ad = some ob → ObjIs c.w.params ρ o ob → G) : G :=
  (R.led.get h).elim fun ad' q => q.elim fun ob q => by
    obtain rfl : ad' = ad := Option.some.inj (q.1.symm.trans ea)
    exact k ob q.2.1 (R.N _ (List.mem_append_right _ q.2.1)).1 q.2.2
theorem RelA.ldl (R : RelA c ρ σ news s) {a : Nat} {ad : Addr} {xs : List V} (ea : ρ a = some ad) (h : gOb listO σ.H a = some xs) (k : ∀ vs nn, (ad, W.listOf vs nn) ∈ news → s.heap.get? ad = some (W.listOf vs nn) → All2 (Den ρ) xs vs.toList → G) : G :=
  R.lda ea (list_el h) fun ob m g o => o.rec fun vs nn e al => k vs nn (e ▸ m) (e ▸ g) al
theorem RelA.ldt (R : RelA c ρ σ news s) {a : Nat} {ad : Addr} {xs : List V} (ea : ρ a = some ad) (h : gOb tupO σ.H a = some xs) (k : ∀ vs nn, (ad, (⟨.type "tuple", none, .seq vs nn, #[]⟩ : Obj)) ∈ news → s.heap.get? ad = some ⟨.type "tuple", none, .seq vs nn, #[]⟩ → All2 (Den ρ) xs vs.toList → G) : G :=
  R.lda ea (tup_el h) fun ob m g o => o.rec fun vs nn e al => k vs nn (e ▸ m) (e ▸ g) al
theorem fld_k (R : RelA c ρ σ news s) {d : Nat} {f : Str} {x : V} (h : fldO σ.H d f = some x) (k : ∀ dx es nn y, ρ d = some dx → s.heap.get? dx = some (dictOf es nn) → getL f es = some (some y) → Den ρ x y → G) : G := by
  have main : ∀ {kvs x dx ob}, DictIs c.w.params ρ kvs ob → lkS kvs f = some x → s.heap.get? dx = some ob → (∀ es nn y, s.heap.get? dx = some (dictOf es nn) → getL f es = some (some y) → Den ρ x y → G) → G := fun o e g k => o.rec fun es nn q al _ _ => (ent_get al e).elim fun y z => k es nn y (q ▸ g) z.1 z.2
  refine oA_el h (fun kvs hd e => ?_) fun h => oO_el h fun q hd e => ?_
  · exact (R.ld (dict_el hd)).elim fun dx q => q.elim fun ob q => main q.2.2.2 e q.2.2.1 fun es nn y => k dx es nn y q.1
  · obtain ⟨kvs, abs, b⟩ := q
    exact (R.ld (pdict_el hd)).elim fun dx q => q.elim fun ob q => q.2.2.2.rec fun ws d kn _ _ => (kn _ _ e).elim fun u z =>
      main d (lkS_kkv.trans (congrArg (Option.map V.k) z.1)) q.2.2.1 fun es nn y g l (dy : y = u) => k dx es nn y q.1 g l (dy ▸ z.2)
theorem getR_ok (TT : TabOk T c.w) {q : Bool} (C : Ck q c n) (R : Rel c ρ σ s) {a : Nat} {u : Value} {f : Str} {K : KV} {expr : Bool} {Q : Value → Shared → Prop} (D : Den ρ (.ref a) u) (h : getR T a f σ K)
    (k : ∀ x y s', Rel c ρ σ s' → Den ρ x y → K x σ → Q y s') : wpAny (MM c.w) c.A (getAttr u f expr) Q E s := by
  refine D.elim fun ad ea => ?_
  rw [ea.2]
  refine R.elim fun news R => oE_el h (fun q hg h => ?_) fun h => ?_
  · refine oB_el h fun x hx h => bB_el h fun ok h => and_el ok fun ok nk => ?_
    refine R.lda ea.1 (inst_el hg) fun ob m g o => o.elim fun dx o => fld_k R hx fun dx' es nn y e2 g2 gl dy => ?_
    have FO := TT.fld _ _ ok
    exact get_own (ox := instObj q.1 dx) R.F C.X ⟨o.2 ▸ g, rfl, rfl, Option.some.inj (e2.symm.trans o.1) ▸ g2⟩ FO.pg FO.hd FO.fi rfl gl (den_handed dy (not_el nk id)) (k x y _ ⟨news, R.toks _⟩ dy h)
  · refine oB_el h fun d hg h => bB_el h fun hf h => oB_el h fun x hx h => bB_el h fun nk h => ?_
    rw [Fast.sEq_iff.mp hf] at hx ⊢
    refine R.lda ea.1 (exc_el hg) fun ob m g o => o.rec fun dx ed h1 h2 h3 => fld_k R hx fun dx' es nn y e2 g2 gl dy => ?_
    have EO := TT.exc
    exact exc_get (v := y) (C.X.keeps R.F.keep) (od := some (dictOf es nn)) ⟨g, h1, h2, by rw [h3]; exact Option.some.inj (e2.symm.trans ed) ▸ g2⟩ EO.ga EO.gh EO.m (findObj_own EO.hd EO.fi rfl gl) (den_handed dy (not_el nk id)) (k x y _ ⟨news, R.toks _⟩ dy h)
theorem getA_ok (TT : TabOk T c.w) {q : Bool} (C : Ck q c n) (R : Rel c ρ σ s) {v : V} {u : Value} {f : Str} {K : KV} {expr : Bool} {Q : Value → Shared → Prop} (D : Den ρ v u) (h : getA T v f σ K)
    (k : ∀ x y s', Rel c ρ σ s' → Den ρ x y → K x σ → Q y s') : wpAny (MM c.w) c.A (getAttr u f expr) Q E s := by
  cases v with
  | ref a => exact getR_ok TT C R D h k
  | either b x y => exact bool_el (b := b) (fun e => getR_ok TT C R (a := x) (by rw [e] at D; exact D) (h.1 e) k) fun e => getR_ok TT C R (a := y) (by rw [e] at D; exact D) (h.2 e) k
  | _ => exact h.elim
inductive SetAt (P : Params) (ρ : Rho) (f : Str) (x : V) (o' : O) (ob : Obj) : Prop
  | mk (es : List DictEntry) (nn : Nat) (e : ob = dictOf es nn) (rk : es.any (·.refKey) = false) (le : es.length ≤ 60) (go : ∀ (y : Value) (t : Tok) (n' : Nat), Den ρ x y → ObjIs P ρ o' (dictOf (putL f (PyData.keyHash P f) (.str f t) y es) n'))
theorem setAt_dict {P : Params} {kvs : List (Str × V)} {f : Str} {x : V} {ob : Obj} (l : (putS kvs f x).length ≤ 60) (o : DictIs P ρ kvs ob) : SetAt P ρ f x (.dict (putS kvs f x)) ob :=
  o.rec fun es nn e al nd le => ⟨es, nn, e, ent_ref al, al.length ▸ le, fun y t n' D => ⟨_, _, rfl, ent_put D al, ptB_nd (strT f) nd, l⟩⟩
theorem pk_kn {kvs : List (Str × V)} {ws : List (Str × Value)} {f : Str} {x : V} {y : Value} (D : Den ρ x y) (kn : ∀ f v, lkS kvs f = some v → ∃ u, lkS ws f = some u ∧ Den ρ v u) (g : Str) (v : V) (hv : lkS (putS kvs f x) g = some v) : ∃ u, lkS (putS ws f y) g = some u ∧ Den ρ v u := by
  by_cases q : f = g
  · subst q
    exact ⟨y, lkS_put_t, Option.some.inj (lkS_put_t.symm.trans hv) ▸ D⟩
  · rw [lkS_put_f q] at hv ⊢; exact kn g v hv
theorem pk_ab {kvs : List (Str × V)} {ws : List (Str × Value)} {abs : List Str} {f : Str} {x : V} {y : Value} (ab : ∀ f, memS abs f = true → lkS kvs f = none → lkS ws f = none) (g : Str) (hg : memS abs g = true) (hn : lkS (putS kvs f x) g = none) : lkS (putS ws f y) g = none := by
  by_cases q : f = g
  · subst q
    exact nS (hn.symm.trans lkS_put_t)
  · rw [lkS_put_f q] at hn ⊢; exact ab g hg hn
theorem setAt_pdict {P : Params} {kvs : List (Str × V)} {abs : List Str} {b b' : Nat} {f : Str} {x : V} {ob : Obj} (o : PDictIs P ρ kvs abs b ob) (l : ∀ ws : List (Str × Value), (lkS kvs f = none ∨ ∃ u, lkS ws f = some u) → ws.length ≤ b → ws.length ≤ 60 → ∀ u, (putS ws f u).length ≤ b' ∧ (putS ws f u).length ≤ 60) :
    SetAt P ρ f x (.pdict (putS kvs f x) abs b') ob := by
  refine o.rec fun ws d kn ab lb => d.rec fun es nn e al nd le => ?_
  have lw : (lkS kvs f = none ∨ ∃ u, lkS ws f = some u) := by
    cases q : lkS kvs f with
    | none => exact .inl rfl
    | some v => exact .inr ((kn f v q).imp fun u z => z.1)
  have lw := l ws lw lb (kkv_len (ws := ws) ▸ le)
  exact ⟨es, nn, e, ent_ref al, al.length ▸ le, fun y t n' D => ⟨putS ws f y, ⟨_, _, rfl, putS_kkv (ws := ws) ▸ ent_put (ρ := ρ) (f := f) (x := .k y) (u := y) (t := t) rfl al, putS_kkv (ws := ws) ▸ ptB_nd (v := V.k y) (strT f) nd, by rw [kkv_len]; exact (lw y).2⟩, pk_kn D kn, pk_ab ab, (lw y).1⟩⟩
theorem setP_el {P : Params} {d : Nat} {x : V} {f : Str} {K : St → Prop} {kvs : List (Str × V)} {abs : List Str} {b : Nat} (h : setP d f x σ K ⟨kvs, abs, b⟩) (k : ∀ b', (∀ ob, PDictIs P ρ kvs abs b ob → SetAt P ρ f x (.pdict (putS kvs f x) abs b') ob) → K (σ.put d (.pdict (putS kvs f x) abs b')) → G) : G := by
  refine bE_el h (fun e h => k b (fun ob o => setAt_pdict o fun ws q lb l6 u => ?_) h) fun e h => bB_le h fun hb h => k (b + 1) (fun ob o => setAt_pdict o fun ws q lb l6 u => ?_) h
  · have ls : (lkS ws f).isSome = true := oT_el e fun v z _ => q.elim (fun q => nS (q.symm.trans z)) fun q => q.elim fun u q => by rw [q]; rfl
    rw [putS_len, if_pos ls]; exact ⟨lb, l6⟩
  · have l1 := Nat.le_trans (putS_le (x := f) (v := u) (l := ws)) (Nat.succ_le_succ lb)
    exact ⟨l1, Nat.le_trans l1 hb⟩
theorem setD_el {P : Params} {d : Nat} {x : V} {f : Str} {K : St → Prop} (h : setD d f x σ K) (k : ∀ o o', get σ.H d = some o → (∀ ob, ObjIs P ρ o ob → SetAt P ρ f x o' ob) → K (σ.put d o') → G) : G := by
  refine oE_el h (fun kvs hd h => bB_le h fun hb h => k _ _ (dict_el hd) (fun ob => setAt_dict hb) h) fun h => oB_el h fun q hd h => ?_
  obtain ⟨kvs, abs, b⟩ := q
  exact setP_el h fun b' hs h => k _ _ (pdict_el hd) hs h
theorem setA_ok (TT : TabOk T c.w) {q : Bool} (C : Ck q c n) (R : Rel c ρ σ s) {v x : V} {u y : Value} {f : Str} {K : St → Prop} {Q : Unit → Shared → Prop} (D : Den ρ v u) (Dx : Den ρ x y) (h : setA T v f x σ K)
    (k : ∀ σ' s', Rel c ρ σ' s' → K σ' → Q () s') : wpAny (MM c.w) c.A (setAttr u f y) Q E s := by
  refine oB_el h fun a ha h => oB_el h fun q hg h => bB_el h fun ok h => and_el ok fun ok nk => ?_
  refine ref_d ha D fun ad ea => ?_
  refine R.elim fun news R => R.lda ea (inst_el hg) fun ob m g o => o.elim fun dx o =>
    setD_el h fun o1 o2 hd hs h => R.lda o.1 hd fun ob2 m2 g2 q2 => (hs ob2 q2).rec fun es nn e rk le go => ?_
  subst e
  have FO := TT.fld _ _ ok
  refine set_dict (ox := instObj q.1 dx) R.F C.X R.N ⟨o.2 ▸ g, rfl, rfl, g2⟩ rfl FO.sa FO.po FO.tk FO.hd (getL_some rk) rfl (upd_of R.nd (List.mem_append_right _ m2)) (Nat.le_trans (putL_len _ _ _ _ _) (by omega)) fun h' F' N' => ?_
  exact k _ _ ⟨_, R.upd o.1 m2 (fun _ => ⟨_, _, rfl⟩) F' N' (go y _ _ Dx)⟩ h
theorem above_mods {c : Cd} {l : Addr} (hx : Xs c) (hn : c.h₀.get? l = none) : l ≠ sysModules := fun e => hx.ne.elim fun o h => nS (hn.symm.trans (e ▸ h))
theorem new_k (hx : Xs c) (R : RelA c ρ σ news s) {h' : Heap} {t : Nat} {l : Addr} {o : O} {ob : Obj} (F' : Fr c.h₀ c.L h' c.m) (N' : News c.h₀ c.L h' ((l, ob) :: (c.X ++ news))) (hl : ∀ p ∈ c.X ++ news, p.1 < l) (ho : ObjIs c.w.params ρ o ob)
    (k : ∀ ρ', ρ.le ρ' → Rel c ρ' (σ.new o) { s with heap := h', toks := t } → Den ρ' (.ref σ.nx) (.ref l) → G) : G :=
  k (ρ.upd σ.nx l) (Rho.upd_le (R.fresh _ (Nat.le_refl _))) ⟨_, R.new F' N' (fun p hp => Nat.ne_of_lt (hl p hp)) (fun _ => above_mods hx (N' _ (.head _)).2.2) hx ho⟩ ⟨l, Rho.upd_t, rfl⟩
theorem newList_ok (hx : Xs c) (R : Rel c ρ σ s) {xs : List V} {vs : List Value} {Q : Value → Shared → Prop} (D : All2 (Den ρ) xs vs) (hz : vs.length ≤ sizeLine)
    (k : ∀ ρ' s' u, ρ.le ρ' → Rel c ρ' (σ.new (.list xs)) s' → Den ρ' (.ref σ.nx) u → Q u s') : wpAny (MM c.w) c.A (newList vs) Q E s :=
  R.elim fun news R => newList_K R.F R.N (fun l h' F' N' hl => new_k hx R (t := s.toks) F' N' hl (o := .list xs) ⟨_, _, rfl, D⟩ fun ρ' => k ρ' _ _) hz
theorem newTuple_ok (hx : Xs c) (R : Rel c ρ σ s) {xs : List V} {vs : List Value} {Q : Value → Shared → Prop} (D : All2 (Den ρ) xs vs) (hz : vs.length ≤ sizeLine)
    (k : ∀ ρ' s' u, ρ.le ρ' → Rel c ρ' (σ.new (.tup xs)) s' → Den ρ' (.ref σ.nx) u → Q u s') : wpAny (MM c.w) c.A (newTuple vs) Q E s :=
  R.elim fun news R => kup_newTuple R.F R.N (fun l h' F' N' hl => new_k hx R (t := s.toks) F' N' hl (o := .tup xs) ⟨_, _, rfl, D⟩ fun ρ' => k ρ' _ _) hz
theorem dict_nil {o : Obj} (h : o.IsDictOf (PySem.strKind PySem.Challenge.rw_pp0010_01.row.prog c.w) []) : ∃ k, o = dictOf [] k := by
  obtain ⟨es, ep, ⟨h1, h2, h3⟩, hd, _, hp, _⟩ := h
  obtain ⟨cl, d, dt, sl⟩ := o
  cases h1; cases h2; cases h3; cases hd
  obtain ⟨l⟩ := es
  cases l with
  | nil => exact ⟨ep, rfl⟩
  | cons e r => cases hp
theorem newDict_ok {q : Bool} (C : Ck q c n) (R : Rel c ρ σ s) {pos : Pos} {Q : Value → Shared → Prop}
    (k : ∀ ρ' s' u, ρ.le ρ' → Rel c ρ' (σ.new (.dict [])) s' → Den ρ' (.ref σ.nx) u → Q u s') : wpAny (MM c.w) c.A (eval (.Dict [] [] pos) c.env) Q E s :=
  R.elim fun news R => newDict_K R.F R.N (TopRead.nolimit (topRead_of C.T)) (fun l h' o F' N' hl _ hs _ _ _ => (dict_nil hs).elim fun kk e => new_k C.xs R (t := s.toks) F' N' hl (o := .dict []) ⟨[], kk, e, .nil, List.nodup_nil, by decide⟩ fun ρ' => k ρ' _ _)
theorem intOf_den {v : V} {u : Value} {k : Bool} {i : Int} (h : intOf v = some (k, i)) (D : Den ρ v u) : ∃ t, u = .int i t := intOf_d (C := fun u => ∃ t, u = .int i t) h D fun t => ⟨t, rfl⟩
theorem strOf_den {v : V} {u : Value} {k : Bool} {x : Str} (h : strOf v = some (k, x)) (D : Den ρ v u) : ∃ t, u = .str x t := strOf_d (C := fun u => ∃ t, u = .str x t) h D fun t => ⟨t, rfl⟩
theorem den_int (k : Bool) (i : Int) (t : Tok) : Den ρ (vi k i) (.int i t) := by cases k <;> exact ⟨t, rfl⟩
theorem den_vb (k b : Bool) : Den ρ (vb k b) (.bool b) := by cases k <;> rfl
section
variable {a b : V} {x y : Value} {K : KV} {Q : Value → Shared → Prop}
theorem binV_ok {op : Operator} (R : Rel c ρ σ s) (Da : Den ρ a x) (Db : Den ρ b y) (h : binV op a b σ K) (k : ∀ v u s', Rel c ρ σ s' → Den ρ v u → K v σ → Q u s') : wpAny (MM c.w) c.A (binaryOp op x y) Q E s := by
  refine R.elim fun news R => oE_el h (fun p hp h => oB_el h fun q hq h => ?_) fun h => oB_el h fun p hp h => oB_el h fun q hq h => bB_el h fun ho h => ?_
  · refine intOf_d hp Da fun t => ?_
    refine intOf_d hq Db fun t' => ?_
    refine bE_el h (fun ho h => ?_) fun _ h => bE_el h (fun ho h => ?_) fun _ h => bB_el h fun ho h => ?_
    · rw [opN_el ho]; exact add_int (k _ _ _ ⟨news, R.toks _⟩ (den_int _ _ _) h)
    · rw [opN_el ho]; exact sub_int (k _ _ _ ⟨news, R.toks _⟩ (den_int _ _ _) h)
    · rw [opN_el ho]; exact mod_int h.1 (k _ _ _ ⟨news, R.toks _⟩ (den_int _ _ _) h.2)
  · rw [opN_el ho]
    refine strOf_d hp Da fun t => ?_
    refine strOf_d hq Db fun t' => ?_
    refine bE_el h (fun _ h => bB_le h fun hb h => ?_) fun _ h => ?_
    · exact KXadd.add (Nat.le_refl _) (Nat.le_refl _) hb fun t' kk _ => k (.str _) _ _ ⟨news, R.toks _⟩ ⟨_, rfl⟩ h
    · exact KXadd.add (Nat.le_refl _) (Nat.le_refl _) h.1 fun t' kk _ => k (.ss _) _ _ ⟨news, R.toks _⟩ ⟨_, rfl⟩ h.2
theorem none_d {v : V} {u : Value} (h : noneV v = true) (d : Den ρ v u) : u = .none := by
  cases v with
  | none => exact d
  | _ => exact Bool.noConfusion h
@[elab_as_elim] theorem isNone_d {v : V} {u : Value} {r : Bool} {C : Value → Prop} (h : isNone v = some r) (d : Den ρ v u) (k : r = true → C .none) (j : ∀ ad, r = false → C (.ref ad)) : C u := by
  cases v with
  | none => exact d ▸ k (Option.some.inj h).symm
  | ref a => exact d.elim fun ad q => q.2 ▸ j ad (Option.some.inj h).symm
  | _ => exact nS h
theorem cmpIs_ok {neg : Bool} {op : CmpOp} (ho : op = cond neg .IsNot .Is) (R : Rel c ρ σ s) (Da : Den ρ a x) (Db : Den ρ b y) (h : cmpIs neg a b σ K) (k : ∀ v u s', Rel c ρ σ s' → Den ρ v u → K v σ → Q u s') : wpAny (MM c.w) c.A (compareOp op x y) Q E s := by
  refine bB_el h fun hb h => oB_el h fun r hr h => ?_
  rw [none_d hb Db, ho]
  have h : ∀ z, r = z → K (.bool (xr neg z)) σ := fun z e => e ▸ h
  cases neg with
  | true => exact isNone_d hr Da (fun e => isnot_none_none (k (.bool false) _ _ R rfl (h _ e))) fun ad e => isnot_ref_none (k (.bool true) _ _ R rfl (h _ e))
  | false => exact isNone_d hr Da (fun e => is_none_none (k (.bool true) _ _ R rfl (h _ e))) fun ad e => is_ref_none (k (.bool false) _ _ R rfl (h _ e))
theorem cmpEq_ok {neg : Bool} {op : CmpOp} (ho : op = cond neg .NotEq .Eq) (R : Rel c ρ σ s) (Da : Den ρ a x) (Db : Den ρ b y) (h : cmpEq neg a b σ K) (k : ∀ v u s', Rel c ρ σ s' → Den ρ v u → K v σ → Q u s') : wpAny (MM c.w) c.A (compareOp op x y) Q E s := by
  rw [ho]
  refine oE_el h (fun p hp h => oB_el h fun q hq h => ?_) fun h => oB_el h fun p hp h => oB_el h fun q hq h => ?_
  · refine intOf_d hp Da fun t => ?_
    refine intOf_d hq Db fun t' => ?_
    cases neg with
    | true => exact ne_int (k (vb _ (!eqInt p.2 q.2)) _ _ R (den_vb _ _) h)
    | false => exact eq_int (k (vb _ (eqInt p.2 q.2)) _ _ R (den_vb _ _) h)
  · refine strOf_d hp Da fun t => ?_
    refine strOf_d hq Db fun t' => ?_
    have h : K (vb (p.1 && q.1) (xr neg (p.2 == q.2))) σ := by rw [beq_sEq]; exact h
    cases neg with
    | true => exact ne_str (k (vb _ (!(p.2 == q.2))) _ _ R (den_vb _ _) h)
    | false => exact eq_str (k (vb _ (p.2 == q.2)) _ _ R (den_vb _ _) h)
theorem cmpLt_ok {sw : Bool} {op : CmpOp} (ho : op = cond sw .Gt .Lt) (R : Rel c ρ σ s) (Da : Den ρ a x) (Db : Den ρ b y) (h : cmpLt sw a b σ K) (k : ∀ v u s', Rel c ρ σ s' → Den ρ v u → K v σ → Q u s') : wpAny (MM c.w) c.A (compareOp op x y) Q E s := by
  rw [ho]
  refine oB_el h fun p hp h => oB_el h fun q hq h => ?_
  refine intOf_d hp Da fun t => ?_
  refine intOf_d hq Db fun t' => ?_
  cases sw with
  | true => exact gt_int (k _ _ _ R (den_vb _ _) h)
  | false => exact lt_int (k _ _ _ R (den_vb _ _) h)
theorem cmpV_ok {op : CmpOp} (R : Rel c ρ σ s) (Da : Den ρ a x) (Db : Den ρ b y) (h : cmpV op a b σ K) (k : ∀ v u s', Rel c ρ σ s' → Den ρ v u → K v σ → Q u s') : wpAny (MM c.w) c.A (compareOp op x y) Q E s :=
  bE_el h (fun ho h => cmpIs_ok (neg := false) (cmpN_el ho) R Da Db h k) fun _ h => bE_el h (fun ho h => cmpIs_ok (neg := true) (cmpN_el ho) R Da Db h k) fun _ h => bE_el h (fun ho h => cmpEq_ok (neg := false) (cmpN_el ho) R Da Db h k) fun _ h =>
  bE_el h (fun ho h => cmpEq_ok (neg := true) (cmpN_el ho) R Da Db h k) fun _ h => bE_el h (fun ho h => cmpLt_ok (sw := true) (cmpN_el ho) R Da Db h k) fun _ h => bB_el h fun ho h => cmpLt_ok (sw := false) (cmpN_el ho) R Da Db h k
end
theorem testV_ok {v : V} {u : Value} {K : Bool → Prop} {Q : Bool → Shared → Prop} {A : Around} {M : Model} (D : Den ρ v u) (h : testV v K) (k : ∀ b, K b → Q b s) : wpAny M A (truthy u) Q E s := by
  cases v with
  | bool b => exact (show u = .bool b from D) ▸ wpAny_truthy_bool (k _ h)
  | sb b => exact (show u = .bool b from D) ▸ wpAny_truthy_bool (bool_el (b := b) (fun e => by rw [e]; exact k _ (h.1 e)) fun e => by rw [e]; exact k _ (h.2 e))
  | _ => exact h.elim
end
theorem Rel.tick {c : Cd} {ρ : Rho} {σ : St} {s : Shared} (R : Rel c ρ σ s) (t : Nat) : Rel c ρ σ { s with toks := t } := R.elim fun news R => ⟨news, R.toks t⟩
end Mine
namespace Mine
abbrev PR : Program := PySem.Challenge.rw_pp0010_01.row.prog
abbrev SK (w : World) := PySem.strKind PR w
abbrev IK (w : World) := PySem.intKind PR w
noncomputable def KW {α : Type} (ρ : Rho) : List (α × V) → List (α × Value) → Prop := All2 fun p q => p.1 = q.1 ∧ Den ρ p.2 q.2
theorem all2_mem {α β : Type} {R : α → β → Prop} {as : List α} {bs : List β} (h : All2 R as bs) : ∀ b ∈ bs, ∃ a ∈ as, R a b := by
  induction h with
  | nil => exact fun _ h => nomatch h
  | cons x _ ih => exact fun b hb => (List.mem_cons.mp hb).elim (fun e => ⟨_, .head _, e ▸ x⟩) fun hb => (ih b hb).imp fun a q => ⟨.tail _ q.1, q.2⟩
section
variable {w : World} {ρ : Rho} {G : Prop}
section
variable {K : Type} {kvs : List (K × V)} {ws : List (K × Value)} {t : K → Bool} {x : K} {v : V} {u : Value}
theorem KW.keys (h : KW ρ kvs ws) : kvs.map (·.1) = ws.map (·.1) := by
  unfold KW at h
  induction h with
  | nil => rfl
  | cons x _ ih => rw [List.map_cons, List.map_cons, x.1, ih]
theorem kw_some (h : KW ρ kvs ws) (q : lkB t kvs = some v) : ∃ u, lkB t ws = some u ∧ Den ρ v u := by
  unfold KW at h
  induction h with
  | nil => exact nS q
  | @cons p q' _ _ y _ ih => exact lkB_hd q (fun a b => ⟨q'.2, lkB_t (y.1 ▸ a), b ▸ y.2⟩) fun a b => (ih b).imp fun u z => ⟨(lkB_f (y.1 ▸ a)).trans z.1, z.2⟩
theorem kw_none (h : KW ρ kvs ws) (q : lkB t kvs = none) : lkB t ws = none := by
  unfold KW at h
  induction h with
  | nil => rfl
  | @cons p q' _ _ y _ ih => exact lkB_hdn q fun a b => (lkB_f (y.1 ▸ a)).trans (ih b)
theorem kw_put (d : Den ρ v u) (h : KW ρ kvs ws) : KW ρ (ptB t kvs x v) (ptB t ws x u) := by
  unfold KW at h
  induction h with
  | nil => exact .cons ⟨rfl, d⟩ .nil
  | @cons p q _ _ y r ih =>
    refine bool_el (b := t p.1) (fun a => ?_) fun a => ?_
    · rw [ptB_t a, ptB_t (p := q) (y.1 ▸ a)]; exact .cons ⟨y.1, d⟩ r
    · rw [ptB_f a, ptB_f (p := q) (y.1 ▸ a)]; exact .cons y ih
theorem kw_kkv {ws' : List (K × Value)} (h : KW ρ (kkv ws) ws') : ws = ws' := by
  induction ws generalizing ws' with
  | nil => cases h; rfl
  | cons p r ih =>
    cases h with
    | @cons _ q _ _ x y => exact (congrArg (· :: r) (Prod.ext x.1 x.2.symm)).trans (congrArg (q :: ·) (ih y))
theorem kkv_kw : KW ρ (kkv ws) ws := by
  induction ws with
  | nil => exact .nil
  | cons p r ih => exact .cons ⟨rfl, rfl⟩ ih
variable [DecidableEq K]
theorem valueAt_lkB (e : EqT t x) : valueAt ws x = lkB t ws := by
  induction ws with
  | nil => rfl
  | cons p r ih =>
    unfold valueAt at ih ⊢
    rw [List.find?_cons]
    refine bool_el (b := t p.1) (fun a => ?_) fun a => ?_
    · rw [lkB_t a, decide_eq_true ((e _).mp a)]; rfl
    · rw [lkB_f a, decide_eq_false fun q => Bool.noConfusion (a.symm.trans ((e _).mpr q))]; exact ih
theorem stored_ptB (e : EqT t x) (hn : (ws.map (·.1)).Nodup) : stored ws x u = ptB t ws x u := by
  induction ws with
  | nil => rfl
  | cons p r ih =>
    have hn := List.nodup_cons.mp hn
    have ih := ih hn.2
    unfold stored at ih ⊢
    rw [List.any_cons, List.map_cons]
    refine bool_el (b := t p.1) (fun a => ?_) fun a => ?_
    · have a' := (e _).mp a
      rw [ptB_t a, decide_eq_true a', Bool.true_or, if_pos rfl, if_pos a', map_store_of_not_mem r x u (a' ▸ hn.1)]
    · have a' : ¬ p.1 = x := fun q => Bool.noConfusion (a.symm.trans ((e _).mpr q))
      rw [ptB_f a, ← ih, decide_eq_false a', Bool.false_or, if_neg a']
      cases r.any fun kv => decide (kv.1 = x) <;> rfl
noncomputable def EntK (knd : KeyKind PR w K) (ρ : Rho) (p : K × V) (e : DictEntry) : Prop := knd.is p.1 e.key = true ∧ e.hash = knd.hash p.1 ∧ Den ρ p.2 e.val
variable {knd : KeyKind PR w K} {es : List DictEntry} {n : Nat} {o : Obj}
theorem dk_to (al : All2 (EntK knd ρ) kvs es) (nd : (kvs.map (·.1)).Nodup) (k : ∀ ws, (dictOf es n).IsDictOf knd ws → KW ρ kvs ws → G) : G := by
  have main : ∃ ws, Pairs knd es ws ∧ KW ρ kvs ws := by
    clear nd k
    induction al with
    | nil => exact ⟨[], .nil, .nil⟩
    | @cons p e _ _ x _ ih => exact ih.elim fun ws q => ⟨(p.1, e.val) :: ws, .cons x.1 rfl q.1, .cons ⟨rfl, x.2.2⟩ q.2⟩
  exact main.elim fun ws q => k ws ⟨es.toArray, n, ⟨rfl, rfl, rfl⟩, rfl, fun e he => (all2_mem al e (List.mem_toArray.mp he)).elim fun p z => ⟨p.1, z.2.1, z.2.2.1⟩, q.1, q.2.keys ▸ nd⟩ q.2
theorem pairs_entk (hp : Pairs knd es ws) (ko : ∀ e ∈ es, ∃ k, knd.is k e.key = true ∧ e.hash = knd.hash k) : ∀ {kvs}, KW ρ kvs ws → All2 (EntK knd ρ) kvs es := by
  induction hp with
  | nil => intro kvs hk; cases hk; exact .nil
  | cons h1 h2 _ ih =>
    intro kvs hk
    cases hk with
    | cons x r => exact .cons ((ko _ (.head _)).elim fun k q => ⟨x.1 ▸ h1, by rw [q.2, x.1]; exact congrArg knd.hash (knd.inj _ _ _ q.1 h1), h2 ▸ x.2⟩) (ih (fun e he => ko e (.tail _ he)) r)
theorem exact_dict {es : Array DictEntry} : o.ExactDict → o.data = .dict es n → o = dictOf es.toList n := by
  obtain ⟨cl, d, dt, sl⟩ := o
  rintro ⟨h1, h2, h3⟩ h4
  cases h1; cases h2; cases h3; cases h4; rfl
theorem dk_from (h : o.IsDictOf knd ws) (hk : KW ρ kvs ws) : ∃ es n, o = dictOf es n ∧ All2 (EntK knd ρ) kvs es ∧ (kvs.map (·.1)).Nodup :=
  h.elim fun es q => q.elim fun ep q => ⟨es.toList, ep, exact_dict q.1 q.2.1, pairs_entk q.2.2.2.1 (fun e he => q.2.2.1 e (Array.mem_toList_iff.mp he)) hk, hk.keys ▸ q.2.2.2.2⟩
theorem isD_of (h : o.IsDictOf knd ws) : IsD o := h.elim fun es q => q.elim fun ep q => ⟨es, ep, q.2.1⟩
end
theorem ent_k {p : Str × V} {e : DictEntry} : Ent w.params ρ p e ↔ EntK (SK w) ρ p e := ⟨fun x => ⟨x.1.elim fun t q => q ▸ strKind_is _ _ _ _, x.2⟩, fun x => ⟨Value.isStrOf_shape x.1, x.2⟩⟩
theorem ient_k {p : Int × V} {e : DictEntry} : IEnt ρ p e ↔ EntK (IK w) ρ p e := ⟨fun x => ⟨x.1.elim fun t q => q ▸ intKind_is _ _ _ _, x.2⟩, fun x => ⟨Value.isInt_shape x.1, x.2⟩⟩
section
variable {o : Obj}
theorem dict_to {kvs : List (Str × V)} (h : DictIs w.params ρ kvs o) (k : ∀ ws, o.IsDictOf (SK w) ws → KW ρ kvs ws → kvs.length ≤ 60 → G) : G :=
  h.rec fun es n e al nd le => dk_to (n := n) (al.mono fun _ _ => ent_k.mp) nd fun ws d z => k ws (e ▸ d) z le
theorem idict_to {kvs : List (Int × V)} (h : IDictIs ρ kvs o) (k : ∀ ws, o.IsDictOf (IK w) ws → KW ρ kvs ws → kvs.length ≤ 60 → G) : G :=
  h.rec fun es n e al nd le => dk_to (n := n) (al.mono fun _ _ => ient_k.mp) nd fun ws d z => k ws (e ▸ d) z le
theorem dict_from {kvs : List (Str × V)} {ws : List (Str × Value)} (h : o.IsDictOf (SK w) ws) (hk : KW ρ kvs ws) (hl : kvs.length ≤ 60) : DictIs w.params ρ kvs o :=
  (dk_from h hk).elim fun es q => q.elim fun n q => ⟨es, n, q.1, q.2.1.mono fun _ _ => ent_k.mpr, q.2.2, hl⟩
theorem idict_from {kvs : List (Int × V)} {ws : List (Int × Value)} (h : o.IsDictOf (IK w) ws) (hk : KW ρ kvs ws) (hl : kvs.length ≤ 60) : IDictIs ρ kvs o :=
  (dk_from h hk).elim fun es q => q.elim fun n q => ⟨es, n, q.1, q.2.1.mono fun _ _ => ient_k.mpr, q.2.2, hl⟩
theorem kvS_some {kvs : List (Str × V)} {ws : List (Str × Value)} {f : Str} {v : V} (h : KW ρ kvs ws) (q : lkS kvs f = some v) : ∃ u, valueAt ws f = some u ∧ Den ρ v u := (kw_some h q).imp fun u z => ⟨(valueAt_lkB (strT f)).trans z.1, z.2⟩
theorem kvS_none {kvs : List (Str × V)} {ws : List (Str × Value)} {f : Str} (h : KW ρ kvs ws) (q : lkS kvs f = none) : valueAt ws f = none := (valueAt_lkB (strT f)).trans (kw_none h q)
theorem kvI_some {kvs : List (Int × V)} {ws : List (Int × Value)} {f : Int} {v : V} (h : KW ρ kvs ws) (q : lkI kvs f = some v) : ∃ u, valueAt ws f = some u ∧ Den ρ v u := (kw_some h q).imp fun u z => ⟨(valueAt_lkB (intT f)).trans z.1, z.2⟩
theorem kvI_none {kvs : List (Int × V)} {ws : List (Int × Value)} {f : Int} (h : KW ρ kvs ws) (q : lkI kvs f = none) : valueAt ws f = none := (valueAt_lkB (intT f)).trans (kw_none h q)
theorem kv_putS {x : Str} {v : V} {u : Value} (d : Den ρ v u) {kvs : List (Str × V)} {ws : List (Str × Value)} (h : KW ρ kvs ws) (nd : (ws.map (·.1)).Nodup) : KW ρ (putS kvs x v) (stored ws x u) := stored_ptB (strT x) nd ▸ kw_put d h
theorem kv_putI {x : Int} {v : V} {u : Value} (d : Den ρ v u) {kvs : List (Int × V)} {ws : List (Int × Value)} (h : KW ρ kvs ws) (nd : (ws.map (·.1)).Nodup) : KW ρ (putI kvs x v) (stored ws x u) := stored_ptB (intT x) nd ▸ kw_put d h
theorem kdict_to {ws : List (Str × Value)} (h : DictIs w.params ρ (kkv ws) o) (k : o.IsDictOf (SK w) ws → ws.length ≤ 60 → G) : G := dict_to h fun ws' d z le => k (kw_kkv z ▸ d) (kkv_len (ws := ws) ▸ le)
theorem pdict_to {kvs : List (Str × V)} {abs : List Str} {b : Nat} (h : PDictIs w.params ρ kvs abs b o) (k : ∀ ws, o.IsDictOf (SK w) ws → (∀ f v, lkS kvs f = some v → ∃ u, lkS ws f = some u ∧ Den ρ v u) → (∀ f, memS abs f = true → lkS kvs f = none → lkS ws f = none) → ws.length ≤ b → ws.length ≤ 60 → G) : G :=
  h.rec fun ws d kn ab lb => kdict_to d fun d le => k ws d kn ab lb le
theorem pdict_put {kvs : List (Str × V)} {abs : List Str} {b' : Nat} {ws : List (Str × Value)} {f : Str} {v : V} {u : Value} (hd : o.IsDictOf (SK w) (stored ws f u)) (nd : (ws.map (·.1)).Nodup) (kn : ∀ f v, lkS kvs f = some v → ∃ u, lkS ws f = some u ∧ Den ρ v u) (ab : ∀ f, memS abs f = true → lkS kvs f = none → lkS ws f = none)
    (d : Den ρ v u) (h1 : (putS ws f u).length ≤ b') (h2 : (putS ws f u).length ≤ 60) : PDictIs w.params ρ (putS kvs f v) abs b' o := by
  rw [stored_ptB (strT f) nd] at hd
  exact ⟨putS ws f u, dict_from hd kkv_kw (by rw [kkv_len]; exact h2), pk_kn d kn, pk_ab ab, h1⟩
theorem pidict_to {kvs : List (Int × V)} (h : PIDictIs ρ kvs o) (k : ∀ ws, o.IsDictOf (IK w) ws → (∀ f v, lkI kvs f = some v → ∃ u, lkI ws f = some u ∧ Den ρ v u) → G) : G := h.rec fun ws d kn => idict_to d fun ws' d z _ => k ws (kw_kkv z ▸ d) kn
theorem cdict_to {B n : Nat} (h : CDictIs w.params ρ B n o) (k : ∀ ws, o.IsDictOf (SK w) ws → (∀ f u, lkS ws f = some u → ∃ (i : Int) (t : Tok), u = .int i t ∧ 0 ≤ i ∧ i ≤ B) → ws.length ≤ n → ws.length ≤ 60 → G) : G := h.rec fun ws d kn lb => kdict_to d fun d le => k ws d kn lb le
theorem cdict_put {B n : Nat} {ws : List (Str × Value)} {f : Str} {j : Int} {t : Tok} (hd : o.IsDictOf (SK w) (stored ws f (.int j t))) (nd : (ws.map (·.1)).Nodup) (kn : ∀ f u, lkS ws f = some u → ∃ (i : Int) (t : Tok), u = .int i t ∧ 0 ≤ i ∧ i ≤ B)
    (h0 : 0 ≤ j) (h1 : j ≤ ((B + 1 : Nat) : Int)) (hl : ws.length ≤ n) (h60 : n + 1 ≤ 60) : CDictIs w.params ρ (B + 1) (n + 1) o := by
  rw [stored_ptB (strT f) nd] at hd
  have le : (putS ws f (Value.int j t)).length ≤ n + 1 := Nat.le_trans putS_le (Nat.succ_le_succ hl)
  refine ⟨putS ws f (.int j t), dict_from hd kkv_kw (by rw [kkv_len]; exact Nat.le_trans le h60), fun g u e => ?_, le⟩
  by_cases q : f = g
  · subst q
    exact ⟨j, t, (Option.some.inj (lkS_put_t.symm.trans e)).symm, h0, h1⟩
  · exact (kn g u ((lkS_put_f q).symm.trans e)).imp fun i z => z.imp fun t z => ⟨z.1, z.2.1, Int.le_trans z.2.2 (Int.ofNat_le.mpr (Nat.le_succ B))⟩
theorem odict_to {kvs : List (Str × Str)} (h : DictIs w.params ρ (tkv kvs) o) (k : ∀ ws, o.IsDictOf (SK w) ws → KW ρ (tkv kvs) ws → (ws.map (·.1)).Nodup → kvs.length ≤ 60 → G) : G := dict_to h fun ws d z le => k ws d z (h.rec fun _ _ _ _ nd _ => z.keys ▸ nd) (tkv_len (ws := kvs) ▸ le)
end
end
section
variable {α β : Type} {R : α → β → Prop} {a a' : α} {as : List α} {bs : List β}
theorem All2.nil_d {C : List β → Prop} (h : All2 R [] bs) (k : C []) : C bs := by cases h; exact k
@[elab_as_elim] theorem All2.cons_d {C : List β → Prop} (h : All2 R (a :: as) bs) (k : ∀ b r, R a b → All2 R as r → C (b :: r)) : C bs := by cases h with | cons x r => exact k _ _ x r
@[elab_as_elim] theorem All2.one_d {C : List β → Prop} (h : All2 R [a] bs) (k : ∀ b, R a b → C [b]) : C bs := h.cons_d fun b r x y => by cases y; exact k b x
@[elab_as_elim] theorem All2.two_d {C : List β → Prop} (h : All2 R [a, a'] bs) (k : ∀ b b', R a b → R a' b' → C [b, b']) : C bs := h.cons_d fun b r x y => All2.one_d y fun b' => k b b' x
theorem All2.get1 (h : All2 R [a] bs) : ∃ b, bs = [b] ∧ R a b := All2.one_d (C := fun bs => ∃ b, bs = [b] ∧ R a b) h fun b x => ⟨b, rfl, x⟩
theorem All2.get2 (h : All2 R [a, a'] bs) : ∃ b b', bs = [b, b'] ∧ R a b ∧ R a' b' := All2.two_d (C := fun bs => ∃ b b', bs = [b, b'] ∧ R a b ∧ R a' b') h fun b b' x y => ⟨b, b', rfl, x, y⟩
end
theorem sub_plain {slice : Expr} {o i : Value} (h : notSlice slice = true) : subscripted slice false o i = operate [o, i] (getItem o i) := by
  cases slice <;> first | rfl | exact Bool.noConfusion h
end Mine
open PySem PySem.W PyProof.Rows PySem.Calls PySem.Spec PySem.SeqAt
namespace Mine
section
variable {prog : Program} {w : World} {A : Around} {E : Value → Shared → Prop}
theorem valueAt_memN {K : Type} [DecidableEq K] {kvs : List (K × Value)} {k : K} {v : Value} (hn : (kvs.map (·.1)).Nodup) (hm : (k, v) ∈ kvs) : valueAt kvs k = some v := by
  refine (valueAt_lkB (t := fun y => decide (y = k)) fun y => decide_eq_true_iff).trans ?_
  induction kvs with
  | nil => cases hm
  | cons q r ih =>
    have hn := List.nodup_cons.mp hn
    cases hm with
    | head => exact lkB_t (decide_eq_true rfl)
    | tail _ e => exact (lkB_f (t := fun y => decide (y = k)) (decide_eq_false fun z => hn.1 (List.mem_map.mpr ⟨_, e, Eq.symm z⟩))).trans (ih hn.2 e)
theorem hits_all {s : Shared} {kb ka : List (Str × Value)} (h : ∀ q ∈ ka, ∃ y, valueAt kb q.1 = some y ∧ SeqAt.EqAt A s q.2 y true) : KeqHits A s kb ka true := by
  induction ka with
  | nil => exact .nil
  | cons q r ih => exact (h q (.head _)).elim fun y z => .hit (e := true) (b := true) z.1 z.2 (ih fun q hq => h q (.tail _ hq))
noncomputable def SameTxt (ka kb : List (Str × Value)) : Prop := ka.length = kb.length ∧ ∀ q ∈ ka, ∃ u t t', q.2 = .str u t ∧ (q.1, Value.str u t') ∈ kb
theorem nd_of {K : Type} [DecidableEq K] {knd : KeyKind prog w K} {o : Obj} {ws : List (K × Value)} (h : o.IsDictOf knd ws) : (ws.map (·.1)).Nodup := h.elim fun _ q => q.elim fun _ q => q.2.2.2.2
theorem eqb_dicts {s : Shared} {a b : Addr} {ka kb : List (Str × Value)} {Q : Bool → Shared → Prop} (ha : (a == sysModules) = false) (hb : (b == sysModules) = false) (da : s.heap.DictOf (PySem.strKind prog w) a ka) (db : s.heap.DictOf (PySem.strKind prog w) b kb)
    (hs : SameTxt ka kb) (hu : A.units < cLine) (h : Q true s) : wpAny (model prog w) A (eqBool (.ref a) (.ref b)) Q E s := by
  have hn : (kb.map (·.1)).Nodup := (Heap.dictOf_iff.mp db).elim fun o q => nd_of q.2
  have hlen : (ka.length == kb.length && true) = true := by rw [hs.1, beq_self_eq_true]; rfl
  unfold eqBool
  refine wpAny_holding (wpAny_ite_split (fun _ => wpAny_bind (wpAny_rule (wpAny_pure h))) fun _ => wpAny_bind (keq_eq (r := true) ha hb da db hu (fun _ => hits_all fun q hq => ?_) (wpAny_truthy_bool (by rw [hlen]; exact h))))
  refine (hs.2 q hq).elim fun u z => z.elim fun t z => z.elim fun t' z => ⟨_, valueAt_memN hn z.2, ?_⟩
  rw [z.1]
  exact (beq_self_eq_true u ▸ SeqAt.EqAt.str_str (A := A.in1) (s := s) u t u t' : SeqAt.EqAt A.in1 s (.str u t) (.str u t') true)
theorem eq_loop {s : Shared} {l b : Addr} {xs ys : Array Value} {n n2 : Nat} {dd dd2 : Option Addr} {sl sl2 : Array (Option Value)} (ho : s.heap.get? l = some ⟨.type "list", dd, .seq xs n, sl⟩) (ho2 : s.heap.get? b = some ⟨.type "list", dd2, .seq ys n2, sl2⟩) (hsz : xs.size = ys.size)
    (he : ∀ j (h1 : j < xs.size) (h2 : j < ys.size) (Q : Bool → Shared → Prop) (E : Value → Shared → Prop), Q true s → wpAny (model prog w) A.in1 (eqBool xs[j] ys[j]) Q E s) (k : Nat) :
    ∀ i : Nat, xs.size - i = k → MeetsIn prog w (Builtin.«list.__eq__.loop» ⟨[.ref l, .ref b, rawInt i, rawInt 2], []⟩) (fun A' R s' => A' = A ∧ s' = s ∧ R (.ok (.ret (.bool true))) s') := by
  have f3 := AutoSeq1.sub_list_list
  induction k with
  | zero =>
    rintro i hk A' R s' ⟨rfl, rfl, hr⟩
    obtain ⟨hp, g, d, tk, os⟩ := s'
    have e1 : xs[((i : Nat) : Int).toNat]? = none := Array.getElem?_eq_none (Nat.le_of_sub_eq_zero hk)
    have e2 : ys[((i : Nat) : Int).toNat]? = none := Array.getElem?_eq_none (hsz ▸ Nat.le_of_sub_eq_zero hk)
    wp_walk using AutoSeq1.wpAny_loadPart' ho, AutoSeq1.wpAny_loadPart' ho2
    rw [e1, e2]
    wp_walk using AutoSeq1.wpAny_loadPart' ho, AutoSeq1.wpAny_loadPart' ho2
    exact (hsz ▸ beq_self_eq_true xs.size : (xs.size == ys.size) = true) ▸ hr
  | succ k ih =>
    rintro i hk A' R s' ⟨rfl, rfl, hr⟩
    obtain ⟨hp, g, d, tk, os⟩ := s'
    have h1 : i < xs.size := Nat.lt_of_sub_eq_succ hk
    have h2 : i < ys.size := hsz ▸ h1
    have e1 : xs[((i : Nat) : Int).toNat]? = some xs[i] := Array.getElem?_eq_getElem h1
    have e2 : ys[((i : Nat) : Int).toNat]? = some ys[i] := Array.getElem?_eq_getElem h2
    wp_walk using AutoSeq1.wpAny_loadPart' ho, AutoSeq1.wpAny_loadPart' ho2
    rw [e1, e2]
    refine wpAny_bind (he i h1 h2 _ _ ?_)
    wp_walk using AutoSeq1.wpAny_loadPart' ho, AutoSeq1.wpAny_loadPart' ho2
    exact ⟨plainId_quiet MeetsSeq3.plain_eq_loop _, codeAny_builtin MeetsSeq3.entry_eq_loop (by
      rw [Around.under_plainId MeetsSeq3.plain_eq_loop _]
      exact ih (i + 1) (by rw [Nat.sub_succ, hk]; rfl) _ _ _ ⟨rfl, rfl, hr⟩)⟩
theorem eq_arr {s : Shared} {l b : Addr} {xs ys : Array Value} {Q : Value → Shared → Prop} (hl : s.heap.IsList l xs) (hb : s.heap.IsList b ys) (hsz : xs.size = ys.size) (hu : A.units < cLine)
    (he : ∀ j (h1 : j < xs.size) (h2 : j < ys.size) (Q : Bool → Shared → Prop) (E : Value → Shared → Prop), Q true s → wpAny (model prog w) A.in1 (eqBool xs[j] ys[j]) Q E s) (h : Q (.bool true) s) : wpAny (model prog w) A (compareOp .Eq (.ref l) (.ref b)) Q E s := by
  have f3 := AutoSeq1.sub_list_list
  have hne : ¬ (xs.size != ys.size) = true := by rw [hsz, bne_self_eq_false]; exact Bool.false_ne_true
  obtain ⟨⟨cls, dd, data, sl⟩, ho, hc, n, hd⟩ := hl
  obtain ⟨⟨cls2, dd2, data2, sl2⟩, ho2, hc2, n2, hd2⟩ := hb
  cases hc; cases hd; cases hc2; cases hd2
  refine wpAny_richCompare_same_room (op := .Eq) ⟨_, ho, rfl⟩ ⟨_, ho2, rfl⟩ PySem.F.slot_list_eq (call_meetsIn (S := fun A' R s' => A' = A ∧ s' = s ∧ R (.ok (.ret (.bool true))) s') PySem.F.slot_list_eq ⟨_, ho, rfl⟩ PySem.F.entry_list_eq (PySem.F.args_list_eq_2 _ _) ?_ ⟨rfl, rfl, ⟨(fun x => nomatch x), h⟩⟩) hu
  rintro A' R s' ⟨rfl, rfl, hr⟩
  obtain ⟨hp, g, d, tk, os⟩ := s'
  wp_walk using AutoSeq1.wpAny_loadPart' ho, AutoSeq1.wpAny_loadPart' ho2
  exact ⟨plainId_quiet MeetsSeq3.plain_eq_loop _, codeAny_builtin MeetsSeq3.entry_eq_loop (by
    rw [Around.under_plainId MeetsSeq3.plain_eq_loop _]
    exact eq_loop ho ho2 hsz he _ 0 rfl _ _ _ ⟨rfl, rfl, hr⟩)⟩
theorem eq_two {s : Shared} {l b : Addr} {x0 x1 y0 y1 : Value} {Q : Value → Shared → Prop} (hl : s.heap.IsList l #[x0, x1]) (hb : s.heap.IsList b #[y0, y1]) (hu : A.units < cLine)
    (h0 : ∀ (Q : Bool → Shared → Prop) (E : Value → Shared → Prop), Q true s → wpAny (model prog w) A.in1 (eqBool x0 y0) Q E s)
    (h1 : ∀ (Q : Bool → Shared → Prop) (E : Value → Shared → Prop), Q true s → wpAny (model prog w) A.in1 (eqBool x1 y1) Q E s)
    (h : Q (.bool true) s) : wpAny (model prog w) A (compareOp .Eq (.ref l) (.ref b)) Q E s := by
  refine eq_arr hl hb rfl hu (fun j a b => ?_) h
  cases j with
  | zero => exact h0
  | succ j => cases j with
    | zero => exact h1
    | succ j => exact absurd a (Nat.not_lt.mpr (Nat.le_add_left 2 j))
end
theorem same_tkv {ρ : Rho} {kx : List (Str × Str)} {ka kb : List (Str × Value)} (h : KW ρ (tkv kx) ka) (h' : KW ρ (tkv kx) kb) : SameTxt ka kb := by
  induction kx generalizing ka kb with
  | nil => cases h; cases h'; exact ⟨rfl, fun _ h => nomatch h⟩
  | cons p r ih =>
    cases h with
    | @cons _ q1 _ _ x y => cases h' with
      | @cons _ q2 _ _ x' y' =>
        have ih := ih y y'
        exact ⟨congrArg Nat.succ ih.1, fun q hq => (List.mem_cons.mp hq).elim (fun e => x.2.elim fun t z => x'.2.elim fun t' z' => ⟨p.2, t, t', e ▸ z, (show (q.1, Value.str p.2 t') = q2 from Prod.ext (e ▸ x.1.symm.trans x'.1) z'.symm) ▸ .head _⟩)
          fun hq => (ih.2 q hq).imp fun u z => z.imp fun t z => z.imp fun t' z => ⟨z.1, .tail _ z.2⟩⟩
section
variable {prog : Program} {w : World} {A : Around} {E : Value → Shared → Prop} {s : Shared}
theorem sub_tail {value slice : Expr} {o i : Value} {T id : String} {Q : Value → Shared → Prop} (hT : s.TypeIs o T)
    (hl : typeLookup (.type T) "__getitem__" = pure (some (.builtin id))) (ns : notSlice slice = true) (h : wpAny (model prog w) A (getItem o i) Q E s) : wpAny (model prog w) A (subscriptTail value slice o i) Q E s := by
  unfold subscriptTail
  refine wpAny_bind ?_
  rw [getitemInPython_of_ne hT.not_modules]
  refine wpAny_bind (wpAny_specialOf hT hl ?_)
  have fin : wpAny (model prog w) A (subscripted slice false o i) (fun r s₃ => wpAny (model prog w) A (letTemporaryGo value o r >>= fun _ => pure r) Q E s₃) E s := by
    rw [sub_plain ns]
    exact wpAny_operating (wpAny_mono h (fun r s₃ h₃ => wpAny_bind (wpAny_letTemporaryGo (wpAny_pure h₃))) fun _ _ x => x)
  first
    | exact wpAny_pure (wpAny_bind fin)
    | exact wpAny_bind (wpAny_pure (wpAny_bind fin))
    | exact wpAny_bind fin
end
theorem nthV_get {ρ : Rho} {xs : List V} {vs : List Value} {j : Nat} {x : V} (D : All2 (Den ρ) xs vs) (h : nthV xs j = some x) : ∃ v, vs[j]? = some v ∧ Den ρ x v := by
  induction D generalizing j with
  | nil => exact nS h
  | @cons a b _ _ d _ ih =>
    cases j with
    | zero => exact ⟨b, rfl, Option.some.inj h ▸ d⟩
    | succ j => exact ih h
theorem nthV_at {α : Type} {xs : List α} {j : Nat} {x : α} (h : nthV xs j = some x) : xs[j]? = some x := by
  induction xs generalizing j with
  | nil => exact nS h
  | cons a r ih =>
    cases j with
    | zero => exact h
    | succ j => exact ih h
theorem altV_get {ρ : Rho} {k : V → Prop} {xs : List V} {vs : List Value} {n m : Nat} (D : All2 (Den ρ) xs vs) (h : altV xs n ((n + m : Nat) : Int) k) (h2 : m < xs.length) : ∃ x v, vs[m]? = some v ∧ Den ρ x v ∧ k x := by
  induction D generalizing n m with
  | nil => exact absurd h2 (Nat.not_lt_zero _)
  | @cons x v _ _ d r ih =>
    cases m with
    | zero => exact ⟨x, v, rfl, d, h.1 rfl⟩
    | succ m => exact ih (n := n + 1) (m := m) ((show n + (m + 1) = n + 1 + m from (Nat.succ_add_eq_add_succ n m).symm) ▸ h.2) (Nat.lt_of_succ_lt_succ h2)
@[elab_as_elim] theorem subL_el {ρ : Rho} {xs : List V} {vs : List Value} {i : V} {u : Value} {σ : St} {K : KV} {C : Value → Prop} (D : All2 (Den ρ) xs vs) (Di : Den ρ i u) (h : subL xs i σ K) (k : ∀ (j : Nat) t x v, j ≤ 1000 → vs[j]? = some v → Den ρ x v → K x σ → C (.int (Int.ofNat j) t)) : C u := by
  refine oE_el h (fun j hj h => bB_le h fun hb h => oB_el h fun x hx h => ?_) fun h => oB_el h fun j hj h => bB_le h fun hb h => ?_
  · exact natK_d hj Di fun t => (nthV_get D hx).elim fun v q => k j t x v hb q.1 q.2 h
  · refine siO_d hj Di fun t => ?_
    obtain ⟨m, rfl⟩ := Int.eq_ofNat_of_zero_le h.1.1
    have lt := Int.ofNat_lt.mp h.1.2
    exact (altV_get (n := 0) (m := m) D (by rw [Nat.zero_add]; exact h.2) lt).elim fun x q => q.elim fun v q => k m t x v (Nat.le_trans (Nat.le_of_lt lt) hb) q.1 q.2.1 q.2.2
theorem seq_ix {j n : Nat} (h1 : j < n) : seqIndex? (Int.ofNat j) n = some j := by
  unfold seqIndex?
  simp only [if_neg (show ¬ Int.ofNat j < 0 from Int.not_lt.mpr (Int.natCast_nonneg j))]
  rw [if_pos (by simp [h1])]; rfl
theorem get_lt {α : Type} {vs : List α} {j : Nat} {v : α} (h : vs[j]? = some v) : j < vs.length := (List.getElem?_eq_some_iff.mp h).1
theorem small_ix {j : Nat} (h : j ≤ 1000) : Int.ofNat j < 2 ^ 63 := Int.lt_of_le_of_lt (Int.ofNat_le.mpr h) (by decide)
theorem neg_ix {j : Nat} : -2 ^ 63 ≤ Int.ofNat j := Int.le_trans (by decide) (Int.natCast_nonneg j)
theorem arr_ix {vs : Array Value} {j : Nat} {v : Value} (h : vs.toList[j]? = some v) : vs[j]? = some v := Array.getElem?_toList ▸ h
theorem arr_lt {vs : Array Value} {j : Nat} {v : Value} (h : vs.toList[j]? = some v) : j < vs.size := (Array.length_toList (xs := vs)) ▸ get_lt h
theorem le60 {n : Nat} (h : n ≤ 60) : n ≤ sizeLine := Nat.le_trans h (by decide)
theorem le1000 {n : Nat} (h : n ≤ 1000) : n ≤ sizeLine := Nat.le_trans h (by decide)
section
variable {T : Tab} {c : Cd} {n : Nat} {ρ : Rho} {σ : St} {s : Shared} {E : Value → Shared → Prop} {news : List (Addr × Obj)} {x y z : Value} {a b i v o : V} {K : KV} {Q : Value → Shared → Prop}
theorem ints_get {vs : List Value} {ns : List Int} {j : Nat} (h : IntsAre vs ns) : j < ns.length → ∃ t, vs[j]? = some (.int (ns.getD j 0) t) := by
  induction h generalizing j with
  | nil => exact fun h => absurd h (Nat.not_lt_zero _)
  | cons n t _ ih =>
    intro hj
    cases j with
    | zero => exact ⟨t, rfl⟩
    | succ j => exact ih (Nat.lt_of_succ_lt_succ hj)
theorem not_mods {d : Addr} (h : d ≠ sysModules) : (d == sysModules) = false := beq_eq_false_iff_ne.mpr h
noncomputable def SubAt (c : Cd) (s : Shared) (x y : Value) (Q E : Value → Shared → Prop) : Prop := (∃ Tn id, s.TypeIs x Tn ∧ typeLookup (.type Tn) "__getitem__" = pure (some (.builtin id))) ∧ wpAny (MM c.w) c.A (getItem x y) Q E s
theorem sub_dict {K : Type} [DecidableEq K] {knd : KeyKind PR c.w K} {ob : Obj} {ws : List (K × Value)} {ad : Addr} {f : K} {u : Value} (R : RelA c ρ σ news s) (m : (ad, ob) ∈ news) (hd : ob.IsDictOf knd ws) (hk : knd.is f y = true) (hu : valueAt ws f = some u) (k : ∀ s', Rel c ρ σ s' → Q u s') : SubAt c s (.ref ad) y Q E :=
  have hD := kda_dict R.N (List.mem_append_right _ m) hd
  ⟨⟨_, _, hD.typeIs, slot_dict_getitem.lookup⟩, wpAny_getItem_of hk hD.mapOf hu (k _ ⟨news, R.toks _⟩)⟩
theorem subR_ok (R : RelA c ρ σ news s) {p : Nat} {ad : Addr} (ea : ρ p = some ad) (Di : Den ρ i y) (h : subR p i σ K) (k : ∀ v u s', Rel c ρ σ s' → Den ρ v u → K v σ → Q u s') : SubAt c s (.ref ad) y Q E := by
  refine oE_el h (fun xs hg h => ?_) fun h => oE_el h (fun xs hg h => ?_) fun h => oE_el h (fun kvs hg h => ?_) fun h => oE_el h (fun kvs hg h => ?_) fun h => oE_el h (fun kvs hg h => ?_) fun h => oE_el h (fun kvs hg h => ?_) fun h => oB_el h fun ns hg h => ?_
  · refine R.ldl ea hg fun vs nn m g al => subL_el al Di h fun j t x v hb hv dv h => ?_
    have hl : s.heap.IsList ad vs := ⟨_, g, rfl, nn, rfl⟩
    exact ⟨⟨_, _, hl.typeIs, slot_list_getitem.lookup⟩, wpAny_getItem_list hl (Int.natCast_nonneg j) (small_ix hb) (arr_ix hv) (k x v s ⟨news, R⟩ dv h)⟩
  · refine R.ldt ea hg fun vs nn m g al => subL_el al Di h fun j t x v hb hv dv h => ?_
    have hl : IsTup s.heap ad vs := ⟨_, g, rfl, nn, rfl⟩
    exact ⟨⟨_, _, hl.typeIs, slot_tuple_getitem.lookup⟩, getItem_tuple hl neg_ix (small_ix hb) (seq_ix (arr_lt hv)) (arr_ix hv) (k x v s ⟨news, R⟩ dv h)⟩
  · refine oB_el h fun f hf h => oB_el h fun v hv h => ?_
    exact strK_d hf Di fun t => R.lda ea (dict_el hg) fun ob m g o => dict_to o fun ws hd hw _ => (kvS_some hw hv).elim fun u q => sub_dict R m hd (strKind_is _ _ _ _) q.1 fun s' R' => k v u s' R' q.2 h
  · refine oB_el h fun f hf h => oB_el h fun v hv h => ?_
    exact intK_d hf Di fun t => R.lda ea (idict_el hg) fun ob m g o => idict_to o fun ws hd hw _ => (kvI_some hw hv).elim fun u q => sub_dict R m hd (intKind_is _ _ _ _) q.1 fun s' R' => k v u s' R' q.2 h
  · refine oB_el h fun f hf h => oB_el h fun v hv h => ?_
    exact intK_d hf Di fun t => R.lda ea (pidict_el hg) fun ob m g o => pidict_to o fun ws hd kn => (kn f v hv).elim fun u q => sub_dict R m hd (intKind_is _ _ _ _) ((valueAt_lkB (intT f)).trans q.1) fun s' R' => k v u s' R' q.2 h
  · refine oB_el h fun f hf h => oB_el h fun v hv h => ?_
    exact strOf_d hf Di fun t => R.lda ea (odict_el hg) fun ob m g o => odict_to o fun ws hd hw _ _ => (kvS_some hw (lkS_tkv.trans (congrArg (Option.map V.ss) hv))).elim fun u q => sub_dict R m hd (strKind_is _ _ _ _) q.1 fun s' R' => k (.ss v) u s' R' q.2 h
  · refine oB_el h fun j hj h => ?_
    refine siO_d hj Di fun t => R.lda ea (ints_el hg) fun ob m g o => o.elim fun vs o => ?_
    have hl : s.heap.IsList ad vs.toArray := ⟨_, o.1 ▸ g, rfl, 0, rfl⟩
    obtain ⟨j, rfl⟩ := Int.eq_ofNat_of_zero_le h.1.2.1
    have lt := Int.ofNat_lt.mp h.1.2.2
    exact (ints_get o.2 lt).elim fun t' hv => ⟨⟨_, _, hl.typeIs, slot_list_getitem.lookup⟩, wpAny_getItem_list hl (Int.natCast_nonneg j) (small_ix (Nat.le_trans (Nat.le_of_lt lt) h.1.1)) ((List.getElem?_toArray ..).trans hv) (k (.si _) _ s ⟨news, R⟩ ⟨t', rfl⟩ h.2)⟩
theorem subV_get (R : Rel c ρ σ s) (Da : Den ρ a x) (Di : Den ρ i y) (h : subV a i σ K) (k : ∀ v u s', Rel c ρ σ s' → Den ρ v u → K v σ → Q u s') : SubAt c s x y Q E := by
  refine oE_el h (fun p hp h => ?_) fun h => oB_el h fun f hf h => oB_el h fun j hj h => bB_le h fun hb h => oB_el h fun cc hx h => ?_
  · exact ref_d hp Da fun ad ea => R.elim fun news R => subR_ok R ea Di h k
  · refine strK_d hf Da fun t => natK_d hj Di fun t' => ⟨⟨_, _, typeIs_str _ _ _, slot_str_getitem.lookup⟩, getItem_str (c := cc) ?_ ?_ (k (.str _) _ _ (R.tick _) ⟨_, rfl⟩ h)⟩
    · rw [decide_eq_false (Int.not_lt.mpr neg_ix), decide_eq_false (Int.not_le.mpr (small_ix hb))]; rfl
    · have hx : f.cps[j]? = some cc := Array.getElem?_toList ▸ nthV_at hx
      rw [seq_ix (n := f.length) (Array.getElem?_eq_some_iff.mp hx).1]
      exact hx
theorem subV_ok (R : Rel c ρ σ s) {value slice : Expr} (ns : notSlice slice = true) (Da : Den ρ a x) (Di : Den ρ i y) (h : subV a i σ K) (k : ∀ v u s', Rel c ρ σ s' → Den ρ v u → K v σ → Q u s') : wpAny (MM c.w) c.A (subscriptTail value slice x y) Q E s :=
  have z := subV_get (E := E) R Da Di h k
  z.1.elim fun _ q => q.elim fun _ q => sub_tail q.1 q.2 ns z.2
theorem subT_ok (TT : TabOk T c.w) {q : Bool} (C : Ck q c n) (R : Rel c ρ σ s) {value slice : Expr} (ns : notSlice slice = true) (Da : Den ρ a x) (Di : Den ρ i y) (h : subT T a i σ K) (k : ∀ v u s', Rel c ρ σ s' → Den ρ v u → K v σ → Q u s') : wpAny (MM c.w) c.A (subscriptTail value slice x y) Q E s := by
  refine oE_el h (fun p hp h => oB_el h fun nz hz h => oB_el h fun j hj h => ?_) fun h => subV_ok R ns Da Di h k
  rw [kref_d hp Da]
  refine siO_d hj Di fun t => R.elim fun news R => (TT.itups _ _ hz).elim fun dd q => q.elim fun items q => q.elim fun nn q => q.elim fun sl q => ?_
  have ht : IsTup s.heap p items := ⟨_, R.F.keep _ _ (C.X _ _ q.1), rfl, _, rfl⟩
  obtain ⟨j, rfl⟩ := Int.eq_ofNat_of_zero_le h.1.2.1
  have lt := Int.ofNat_lt.mp h.1.2.2
  exact (ints_get q.2 lt).elim fun t' hv => sub_tail ht.typeIs slot_tuple_getitem.lookup ns (getItem_tuple ht neg_ix (small_ix (Nat.le_trans (Nat.le_of_lt lt) h.1.1)) (seq_ix (arr_lt hv)) (arr_ix hv) (k (.si _) _ s ⟨news, R⟩ ⟨t', rfl⟩ h.2))
theorem negV_ok (R : Rel c ρ σ s) (D : Den ρ v x) (h : negV v σ K) (k : ∀ v u s', Rel c ρ σ s' → Den ρ v u → K v σ → Q u s') : wpAny (MM c.w) c.A (unaryOp .USub x) Q E s :=
  oB_el h fun i hi h => intK_d hi D fun t => PyProof.Rows.neg_int (k (.int _) _ _ (R.tick _) ⟨_, rfl⟩ h)
theorem set_any {K : Type} [DecidableEq K] {knd : KeyKind PR c.w K} {ob : Obj} {ws : List (K × Value)} {p : Nat} {ad : Addr} {f : K} {o : O} {Q : Unit → Shared → Prop} (R : RelA c ρ σ news s) (ea : ρ p = some ad) (m : (ad, ob) ∈ news) (hd : ob.IsDictOf knd ws) (hk : knd.is f y = true) (l : ws.length ≤ 60)
    (go : ∀ o', o'.IsDictOf knd (stored ws f z) → ObjIs c.w.params ρ o o') (k : ∀ s', Rel c ρ (σ.put p o) s' → Q () s') : wpAny (MM c.w) c.A (setItem (.ref ad) y z) Q E s :=
  kda_set R.F R.N (updF_putA R.nd (List.mem_append_right _ m)) hd hk (le60 l) fun h' o' F' N' hd' => k _ ⟨_, R.upd ea m (fun _ => isD_of hd) F' N' (go o' hd')⟩
theorem setP_put {d : Nat} {f : Str} {K : St → Prop} {kvs : List (Str × V)} {abs : List Str} {b : Nat} {ws : List (Str × Value)} {G : Prop} (h : setP d f v σ K ⟨kvs, abs, b⟩) (kn : ∀ f v, lkS kvs f = some v → ∃ u, lkS ws f = some u ∧ Den ρ v u) (lb : ws.length ≤ b) (l6 : ws.length ≤ 60)
    (k : ∀ b', (∀ u, (putS ws f u).length ≤ b') → (∀ u, (putS ws f u).length ≤ 60) → K (σ.put d (.pdict (putS kvs f v) abs b')) → G) : G := by
  refine bE_el h (fun e h => ?_) fun e h => bB_le h fun hb h => ?_
  · have ls : (lkS ws f).isSome = true := oT_el e fun v z _ => (kn f v z).elim fun u q => by rw [q.1]; rfl
    exact k b (fun u => by rw [putS_len, if_pos ls]; exact lb) (fun u => by rw [putS_len, if_pos ls]; exact l6) h
  · exact k (b + 1) (fun u => Nat.le_trans putS_le (Nat.succ_le_succ lb)) (fun u => Nat.le_trans (Nat.le_trans putS_le (Nat.succ_le_succ lb)) hb) h
theorem stI_ok (R : Rel c ρ σ s) {K : St → Prop} {Q : Unit → Shared → Prop} (Do : Den ρ o x) (Di : Den ρ i y) (Dv : Den ρ v z) (h : stI o i v σ K) (k : ∀ σ' s', Rel c ρ σ' s' → K σ' → Q () s') : wpAny (MM c.w) c.A (setItem x y z) Q E s := by
  refine oB_el h fun p hp h => ref_d hp Do fun ad ea => R.elim fun news R => ?_
  refine oE_el h (fun kvs hg h => oB_el h fun f hf h => bB_le h fun hb h => ?_) fun h => oE_el h (fun kvs hg h => oB_el h fun f hf h => oB_el h fun u hu h => ?_) fun h => oE_el h (fun q hg h => oB_el h fun f hf h => oB_el h fun j hj h => ?_) fun h => oB_el h fun q hg h => oB_el h fun f hf h => ?_
  · exact strK_d hf Di fun t => R.lda ea (dict_el hg) fun ob m g o => dict_to o fun ws hd hw le => set_any (o := .dict _) R ea m hd (strKind_is _ _ _ _) (hw.length ▸ le) (fun o' hd' => dict_from hd' (kv_putS Dv hw (nd_of hd)) hb) fun s' R' => k _ s' R' h
  · refine strOf_d hf Di fun t => strOf_d hu Dv fun t' => R.lda ea (odict_el hg) fun ob m g o => odict_to o fun ws hd hw nd le => set_any (o := .odict _) R ea m hd (strKind_is _ _ _ _) (hw.length ▸ (tkv_len (ws := kvs)).symm ▸ le) (fun o' hd' => ?_) fun s' R' => k _ s' R' h.2
    exact dict_from hd' (putS_tkv (ws := kvs) ▸ kv_putS (v := .ss u.2) ⟨t', rfl⟩ hw nd) (by rw [tkv_len]; exact h.1)
  · exact strK_d hf Di fun t => intOf_d hj Dv fun t' => R.lda ea (cdict_el hg) fun ob m g o => cdict_to o fun ws hd kn ln l6 => set_any (o := .cdict _ _) R ea m hd (strKind_is _ _ _ _) l6 (fun o' hd' => cdict_put hd' (nd_of hd) kn h.1.1 h.1.2.1 ln h.1.2.2) fun s' R' => k _ s' R' h.2
  · obtain ⟨kvs, abs, b⟩ := q
    exact strK_d hf Di fun t => R.lda ea (pdict_el hg) fun ob m g o => pdict_to o fun ws hd kn ab lb l6 => setP_put h kn lb l6 fun b' h1 h2 h => set_any (o := .pdict _ _ _) R ea m hd (strKind_is _ _ _ _) l6 (fun o' hd' => pdict_put hd' (nd_of hd) kn ab Dv (h1 _) (h2 _)) fun s' R' => k _ s' R' h
theorem allOf_el {α : Type} {f : V → Option (Bool × α)} {P : List Value → List α → Prop} (h0 : P [] []) (h1 : ∀ x u p vs is, f x = some p → Den ρ x u → P vs is → P (u :: vs) (p.2 :: is)) {xs : List V} {vs : List Value} (d : All2 (Den ρ) xs vs) : ∀ {q}, allOf f xs = some q → P vs q.2 := by
  induction d with
  | nil => exact fun h => Option.some.inj h ▸ h0
  | cons dx dr ih => exact fun h => oO_el h fun p hp h => oO_el h fun r hr h => Option.some.inj h ▸ h1 _ _ p _ _ hp dx (ih hr)
theorem allInt_are {xs : List V} {vs : List Value} {q : Bool × List Int} (h : allInt xs = some q) (d : All2 (Den ρ) xs vs) : IntsAre vs q.2 := allOf_el .nil (fun x u p vs is hp dx r => intOf_d (C := fun u => IntsAre (u :: vs) (p.2 :: is)) hp dx fun t => .cons _ _ r) d h
theorem allStr_are {xs : List V} {vs : List Value} {q : Bool × List Str} (h : allStr xs = some q) (d : All2 (Den ρ) xs vs) : StrsAre vs q.2 := allOf_el .nil (fun x u p vs is hp dx r => strOf_d (C := fun u => StrsAre (u :: vs) (p.2 :: is)) hp dx fun t => .cons _ _ r) d h
theorem anyI_eq {i : Int} {is : List Int} : is.any (· == i) = anyI i is := by
  induction is with
  | nil => rfl
  | cons j r ih => rw [List.any_cons, ih]; rfl
theorem memS_eq {f : Str} {ss : List Str} : ss.any (· == f) = memS ss f := by
  induction ss with
  | nil => rfl
  | cons j r ih => rw [List.any_cons, ih, beq_sEq]; exact bool_el (b := Fast.sEq j f) (fun e => by rw [e]; exact (congrArg (@Bool.rec (fun _ => Bool) (memS r f) true) e).symm) fun e => by rw [e]; exact (congrArg (@Bool.rec (fun _ => Bool) (memS r f) true) e).symm
theorem cmp_in {neg b : Bool} {s' : Shared} {M : Model} {A : Around} (hi : ∀ Q' : Value → Shared → Prop, Q' (.bool b) s' → wpAny M A (compareOp .In x y) Q' E s) (hn : ∀ Q' : Value → Shared → Prop, Q' (.bool (!b)) s' → wpAny M A (compareOp .NotIn x y) Q' E s)
    (h : Q (.bool (xr neg b)) s') : wpAny M A (compareOp (cond neg .NotIn .In) x y) Q E s := by
  cases neg with
  | false => exact hi _ h
  | true => exact hn _ h
theorem in_dict {neg : Bool} {ob : Obj} {ws : List (Str × Value)} {ad : Addr} {f : Str} {b kk : Bool} (R : RelA c ρ σ news s) (m : (ad, ob) ∈ news) (hd : ob.IsDictOf (SK c.w) ws) (hk : (SK c.w).is f y = true) (hs : (valueAt ws f).isSome = b) (h : K (vb kk (xr neg b)) σ)
    (k : ∀ v u s', Rel c ρ σ s' → Den ρ v u → K v σ → Q u s') : wpAny (MM c.w) c.A (compareOp (cond neg .NotIn .In) y (.ref ad)) Q E s :=
  have lo := not_mods (R.sm _ m (isD_of hd))
  cmp_in (fun Q' q => kda_in R.N (List.mem_append_right _ m) hd lo hk _ hs q) (fun Q' q => kdg_notin R.N (List.mem_append_right _ m) hd lo hk _ hs q) (k _ _ _ ⟨news, R.toks _⟩ (den_vb _ _) h)
theorem kw_isSome {kvs : List (Str × V)} {ws : List (Str × Value)} {f : Str} (hw : KW ρ kvs ws) : (valueAt ws f).isSome = (lkS kvs f).isSome := by
  cases q : lkS kvs f with
  | none => rw [kvS_none hw q]; rfl
  | some v => exact (kvS_some hw q).elim fun u z => by rw [z.1]; rfl
theorem isSome_eq {α : Type} {o : Option α} : o.isSome = isSome' o := by cases o <;> rfl
theorem inR_ok {neg : Bool} (R : RelA c ρ σ news s) {p : Nat} {ad : Addr} (ea : ρ p = some ad) (Da : Den ρ a x) (h : inR neg p a σ K) (k : ∀ v u s', Rel c ρ σ s' → Den ρ v u → K v σ → Q u s') : wpAny (MM c.w) c.A (compareOp (cond neg .NotIn .In) x (.ref ad)) Q E s := by
  refine oE_el h (fun xs hg h => oB_el h fun p hp h => oB_el h fun q hq h => ?_) fun h => oE_el h (fun xs hg h => oB_el h fun p hp h => oB_el h fun q hq h => ?_) fun h => oE_el h (fun ss hg h => oB_el h fun f hf h => ?_) fun h => oE_el h (fun kvs hg h => oB_el h fun f hf h => ?_) fun h => oB_el h fun kvs hg h => oB_el h fun f hf h => ?_
  · refine intOf_d hp Da fun t => R.ldl ea hg fun vs nn m g al => ?_
    have hi := allInt_are hq al
    have hl : s.heap.IsList ad vs.toList.toArray := ⟨_, g, rfl, nn, rfl⟩
    exact cmp_in (fun Q' q => in_list_ints hl hi q) (fun Q' q => notin_list_ints hl hi q) (by rw [anyI_eq]; exact k _ _ _ ⟨news, R⟩ (den_vb _ _) h)
  · refine intOf_d hp Da fun t => R.ldt ea hg fun vs nn m g al => ?_
    have hi := allInt_are hq al
    have hl : IsTup s.heap ad vs := ⟨_, g, rfl, nn, rfl⟩
    exact cmp_in (fun Q' q => in_tuple_ints hl hi q) (fun Q' q => notin_tuple_ints hl hi q) (by rw [anyI_eq]; exact k _ _ _ ⟨news, R⟩ (den_vb _ _) h)
  · refine strOf_d hf Da fun t => R.lda ea (tlist_el hg) fun ob m g o => o.elim fun vs o => o.elim fun nn o => ?_
    have hl : s.heap.IsList ad vs.toList.toArray := ⟨_, o.1 ▸ g, rfl, nn, rfl⟩
    exact cmp_in (fun Q' q => in_list_strs hl o.2 q) (fun Q' q => notin_list_strs hl o.2 q) (by rw [memS_eq]; exact k (.sb _) _ _ ⟨news, R⟩ rfl h)
  · exact strK_d hf Da fun t => R.lda ea (dict_el hg) fun ob m g o => dict_to o fun ws hd hw _ => in_dict (kk := true) R m hd (strKind_is _ _ _ _) ((kw_isSome hw).trans isSome_eq) h k
  · exact strOf_d hf Da fun t => R.lda ea (odict_el hg) fun ob m g o => odict_to o fun ws hd hw _ _ => in_dict (kk := false) R m hd (strKind_is _ _ _ _) ((kw_isSome hw).trans (by rw [lkS_tkv, Option.isSome_map]; exact isSome_eq)) h k
theorem inV_ok {neg : Bool} (TT : TabOk T c.w) {q : Bool} (C : Ck q c n) (R : Rel c ρ σ s) (Da : Den ρ a x) (Db : Den ρ b y) (h : inV T neg a b σ K)
    (k : ∀ v u s', Rel c ρ σ s' → Den ρ v u → K v σ → Q u s') : wpAny (MM c.w) c.A (compareOp (cond neg .NotIn .In) x y) Q E s := by
  refine oE_el h (fun p hp h => ?_) fun h => oE_el h (fun p hp h => oB_el h fun ss hs h => oB_el h fun f hf h => ?_) fun h => oB_el h fun f hf h => oB_el h fun g hg h => ?_
  · exact ref_d hp Db fun ad ea => R.elim fun news R => inR_ok R ea Da h k
  · rw [kref_d hp Db]
    refine strOf_d hf Da fun t => R.elim fun news R => (TT.tups _ _ hs).elim fun dd q => q.elim fun items q => q.elim fun nn q => q.elim fun sl q => ?_
    have ht : IsTup s.heap p items := ⟨_, R.F.keep _ _ (C.X _ _ q.1), rfl, _, rfl⟩
    exact cmp_in (fun Q' z => in_tuple_strs ht q.2 z) (fun Q' z => notin_tuple_strs ht q.2 z) (by rw [memS_eq]; exact k _ _ _ ⟨news, R⟩ (den_vb _ _) h)
  · exact strK_d hf Db fun t => strK_d hg Da fun t' => cmp_in (fun Q' q => PyProof.Rows.in_str q) (fun Q' q => PyProof.Rows.notIn_str q) (k (.bool _) _ _ R rfl h)
theorem binT_ok (hx : Xs c) (R : Rel c ρ σ s) {op : Operator} (Da : Den ρ a x) (Db : Den ρ b y) (h : binT op a b σ K)
    (k : ∀ ρ' v σ' u s', ρ.le ρ' → Rel c ρ' σ' s' → Den ρ' v u → K v σ' → Q u s') : wpAny (MM c.w) c.A (binaryOp op x y) Q E s := by
  refine oE_el h (fun p hp h => oB_el h fun q hq h => bB_el h fun ho h => oB_el h fun xs hg h => oB_el h fun ys hg' h => bB_le h fun hz h => ?_) fun h => binV_ok R Da Db h fun v u s' R' D' => k ρ v σ u s' ρ.le_refl R' D'
  rw [opN_el ho]
  refine ref_d hp Da fun ap ep => ref_d hq Db fun aq eq => R.elim fun news R => R.ldl ep hg fun vs1 n1 m1 l1 al1 => R.ldl eq hg' fun vs2 n2 m2 l2 al2 => ?_
  exact add_lists R.F R.N (vs := vs1.toList) (ws := vs2.toList) ⟨_, l1, rfl, n1, rfl⟩ ⟨_, l2, rfl, n2, rfl⟩ (fun h' F' N' => new_k hx R (t := s.toks) F' N' (fun p hp => Heap.lt_size (R.N p hp).1) (o := .list (xs ++ ys)) ⟨_, _, rfl, al1.append al2⟩ fun ρ' le R' D' => k ρ' (.ref σ.nx) _ _ _ le R' D' h) (by rw [← al1.length, ← al2.length]; exact le1000 hz)
theorem andL_range (bs : List Bool) : (List.range bs.length).all (fun j => bs.getD j true) = andL bs := by
  induction bs with
  | nil => rfl
  | cons b r ih =>
    rw [List.length_cons, List.range_succ_eq_map, List.all_cons, List.all_map]
    exact congrArg (b && ·) ih
theorem eqL_at {A : Around} {f : V → V → Option (Bool × Bool)} (hf : ∀ a b x y q, f a b = some q → Den ρ a x → Den ρ b y → EqAt A s x y q.2) {xs : List V} {us : List Value} (d : All2 (Den ρ) xs us) : ∀ {ys : List V} {vs : List Value} {q : Bool × List Bool}, All2 (Den ρ) ys vs → eqL f xs ys = some q →
    q.2.length = us.length ∧ vs.length = us.length ∧ ∀ j (h1 : j < us.length) (h2 : j < vs.length), EqAt A s us[j] vs[j] (q.2.getD j true) := by
  induction d with
  | nil => exact fun d' h => bO_el h fun hn h => by cases nilL_el hn; cases d'; exact Option.some.inj h ▸ ⟨rfl, rfl, fun j h1 => absurd h1 (Nat.not_lt_zero _)⟩
  | cons d r ih =>
    refine fun d' h => oO_el h fun y hy h1 => oO_el h1 fun p hp h2 => oO_el h2 fun q hq h3 => ?_
    cases unL_el hy
    cases d' with
    | cons e r' =>
      have z := ih r' hq
      refine Option.some.inj h3 ▸ ⟨congrArg Nat.succ z.1, congrArg Nat.succ z.2.1, fun j h1 h2 => ?_⟩
      cases j with
      | zero => exact hf _ _ _ _ _ hp d e
      | succ j => exact z.2.2 j (Nat.lt_of_succ_lt_succ h1) (Nat.lt_of_succ_lt_succ h2)
theorem eqX_at {A : Around} {f : V → V → Option (Bool × Bool)} (hf : ∀ a b x y q, f a b = some q → Den ρ a x → Den ρ b y → EqAt A s x y q.2) {d : Option (Bool × Bool)} {xs ys : List V} {us vs : Array Value} {q : Bool × Bool} {G : Prop} (h : eqX f d xs ys = some q) (al : All2 (Den ρ) xs us.toList) (al' : All2 (Den ρ) ys vs.toList)
    (k : ∀ e : Nat → Bool, us.size = vs.size → (∀ j (h1 : j < us.size) (h2 : j < vs.size), EqAt A s us[j] vs[j] (e j)) → (List.range us.size).all e = q.2 → G) (j : us.size ≠ vs.size → d = some q → G) : G := by
  have z1 : xs.length = us.size := al.length
  have z2 : ys.length = vs.size := al'.length
  refine bA_el h (fun hl h => oO_el h fun r hr h => ?_) fun hl h => j (z1 ▸ z2 ▸ Nat.ne_of_beq_eq_false hl) h
  have z := eqL_at hf al al' hr
  exact k (fun j => r.2.getD j true) (z1.symm.trans ((Nat.eq_of_beq_eq_true hl).trans z2)) (fun j h1 h2 => z.2.2 j h1 h2) ((congrArg (fun n => (List.range n).all fun j => r.2.getD j true) z.1.symm).trans ((andL_range r.2).trans (congrArg Prod.snd (Option.some.inj h))))
theorem eqR_rc (R : RelA c ρ σ news s) {A : Around} (hu1 : A.units < cLine) {f : V → V → Option (Bool × Bool)} (hf : ∀ a b x y q, f a b = some q → Den ρ a x → Den ρ b y → EqAt A.in1 s x y q.2) {p q : Nat} {ap aq : Addr} {r : Bool × Bool} (ep : ρ p = some ap) (eq : ρ q = some aq)
    (h : eqR f σ.H p q = some r) : ap ≠ aq ∧ RcAt A s (.ref ap) (.ref aq) r.2 ∧ (∀ xs, gOb listO σ.H p = some xs → RcNeAt A s (.ref ap) (.ref aq) (!r.2)) := by
  refine bA_el h (fun _ h => nS h) fun hpq h => ⟨fun e => Nat.ne_of_beq_eq_false hpq (R.inj p q ap ep (e ▸ eq)), ?_⟩
  refine oA_el h (fun xs g1 h => oO_el h fun ys g2 h => ?_) fun h => oO_el h fun xs g1 h => oO_el h fun ys g2 h => ?_
  · refine R.ldl ep g1 fun vs1 n1 m1 l1 al1 => R.ldl eq g2 fun vs2 n2 m2 l2 al2 => ?_
    have L1 : s.heap.IsList ap vs1 := ⟨_, l1, rfl, n1, rfl⟩
    have L2 : s.heap.IsList aq vs2 := ⟨_, l2, rfl, n2, rfl⟩
    refine eqX_at hf h al1 al2 (fun e sz ee hr => hr ▸ ⟨RcAt.lists L1 L2 sz hu1 ee, fun _ _ => RcNeAt.lists L1 L2 sz hu1 ee⟩) fun ne h => ?_
    have ne : (vs1.size != vs2.size) = true := bne_iff_ne.mpr ne
    exact Option.some.inj h ▸ ⟨RcAt.lists_lengths L1 L2 ne hu1, fun _ _ => RcNeAt.lists_lengths L1 L2 ne hu1⟩
  · refine R.ldt ep g1 fun vs1 n1 m1 l1 al1 => R.ldt eq g2 fun vs2 n2 m2 l2 al2 => ?_
    have L1 : s.heap.IsTuple ap vs1 := ⟨_, l1, rfl, n1, rfl⟩
    have L2 : s.heap.IsTuple aq vs2 := ⟨_, l2, rfl, n2, rfl⟩
    refine eqX_at hf h al1 al2 (fun e sz ee hr => ⟨?_, fun xs z => nomatch (list_el z).symm.trans (tup_el g1)⟩) fun ne h => nS h
    have := RcAt.tuples L1 L2 hu1 ee
    rw [← sz, Nat.min_self, beq_self_eq_true, Bool.and_true, hr] at this
    exact this
theorem eqD_at (R : RelA c ρ σ news s) (n : Nat) : ∀ (A : Around), A.units + 10 * n < cLine → ∀ a b x y q, eqD n σ.H a b = some q → Den ρ a x → Den ρ b y → EqAt A s x y q.2 := by
  induction n with
  | zero => exact fun _ _ _ _ _ _ _ h => nS h
  | succ n ih =>
    intro A hu a b x y q h Da Db
    have hf := ih A.in1 (by rw [Around.in1_units]; omega)
    refine oA_el h (fun p hp h => oO_el h fun r hr h => ?_) fun h => oA_el h (fun p hp h => oO_el h fun r hr h => ?_) fun h => bA_el h (fun ha h => bO_el h fun hb h => ?_) fun _ h => oO_el h fun p hp h => oO_el h fun r hr h => ?_
    · exact intOf_d hp Da fun t => intOf_d hr Db fun t' => Option.some.inj h ▸ (MeetsSeq.EqGives.int _ _ t t').at A s
    · refine strOf_d hp Da fun t => strOf_d hr Db fun t' => Option.some.inj h ▸ ?_
      have e : (p.2.cps.toList == r.2.cps.toList) = Fast.sEq p.2 r.2 := bool_el (b := Fast.sEq p.2 r.2) (fun q => by rw [q, Fast.sEq_iff.mp q]; exact beq_self_eq_true _) fun q => by
        rw [q]; exact beq_eq_false_iff_ne.mpr fun z => sEq_f q (congrArg Str.mk (Array.toList_inj.mp z) : (⟨p.2.cps⟩ : Str) = ⟨r.2.cps⟩)
      exact e ▸ (SeqRoads2.EqGives.str p.2 r.2 t t').at A s
    · rw [none_d ha Da, none_d hb Db]
      exact Option.some.inj h ▸ EqAt.same _
    · refine ref_d hp Da fun ap ep => ref_d hr Db fun aq eq => ?_
      have z := eqR_rc R (A := A) (by omega) hf ep eq h
      exact EqAt.of_refs z.1 z.2.1
inductive TwoAt (c : Cd) (ρ : Rho) (s : Shared) (news : List (Addr × Obj)) (u : Value) (kx ky : List (Str × Str)) : Prop
  | mk (l x y : Addr) (wx wy : List (Str × Value)) (e : u = .ref l) (hl : s.heap.IsList l #[.ref x, .ref y]) (nx : (x == sysModules) = false) (dx : s.heap.DictOf (SK c.w) x wx) (kx : KW ρ (tkv kx) wx) (ny : (y == sysModules) = false) (dy : s.heap.DictOf (SK c.w) y wy) (ky : KW ρ (tkv ky) wy)
theorem tab_at (R : RelA c ρ σ news s) {p : Nat} {ad : Addr} {kx : List (Str × Str)} {G : Prop} (ea : ρ p = some ad) (h : gOb odictO σ.H p = some kx) (k : ∀ ws, (ad == sysModules) = false → s.heap.DictOf (SK c.w) ad ws → KW ρ (tkv kx) ws → G) : G :=
  R.lda ea (odict_el h) fun ob m g o => odict_to o fun ws hd hw _ _ => k ws (not_mods (R.sm _ m (isD_of hd))) (Heap.dictOf_iff.mpr ⟨ob, g, hd⟩) hw
theorem twoT_at (R : RelA c ρ σ news s) {u : Value} {q : List (Str × Str) × List (Str × Str)} (D : Den ρ v u) (h : twoT σ.H v = some q) : TwoAt c ρ s news u q.1 q.2 := by
  refine oO_el h fun p hp h => oO_el h fun l hg h => oO_el h fun r hr h => oO_el h fun x hx h => oO_el h fun y hy h => oO_el h fun kx gx h => oO_el h fun ky gy h => ?_
  refine ref_d hp D fun ap ep => R.ldl ep hg fun vs nn m g al => ?_
  rw [twoL_el hr] at al
  refine Option.some.inj h ▸ al.get2.elim fun u1 z => z.elim fun u2 z => ?_
  refine ref_d (C := fun u1 => vs.toList = [u1, u2] → TwoAt c ρ s news (.ref ap) kx ky) hx z.2.1 (fun ax ex => ref_d (C := fun u2 => vs.toList = [.ref ax, u2] → TwoAt c ρ s news (.ref ap) kx ky) hy z.2.2 fun ay ey hv => ?_) z.1
  exact tab_at R ex gx fun wx n1 d1 k1 => tab_at R ey gy fun wy n2 d2 k2 => ⟨ap, ax, ay, wx, wy, rfl, ⟨_, g, rfl, nn, congrArg (Data.seq · nn) (congrArg List.toArray hv)⟩, n1, d1, k1, n2, d2, k2⟩
theorem eqRef_ok {q : Bool} (C : Ck q c n) (R : Rel c ρ σ s) {p r : Nat} (hp : refO a = some p) (hr : refO b = some r) (Da : Den ρ a x) (Db : Den ρ b y) (h : eqRef a b σ K) (k : ∀ v u s', Rel c ρ σ s' → Den ρ v u → K v σ → Q u s') : wpAny (MM c.w) c.A (compareOp .Eq x y) Q E s := by
  have un := C.un
  refine R.elim fun news R => oE_el h (fun q1 h1 h => oB_el h fun q2 h2 h => ?_) fun h => oB_el h fun z he h => ?_
  · obtain ⟨l, x0, y0, wx, wy, rfl, hl, nx, dx, kx, ny, dy, ky⟩ := twoT_at R Da h1
    obtain ⟨l', x1, y1, wx', wy', rfl, hl', nx', dx', kx', ny', dy', ky'⟩ := twoT_at R Db h2
    have hu : c.A.in1.units < cLine := by rw [Around.in1_units]; omega
    exact eq_two hl hl' (by omega) (fun Q E q => eqb_dicts nx nx' dx dx' (same_tkv kx (h.1.1 ▸ kx')) hu q) (fun Q E q => eqb_dicts ny ny' dy dy' (same_tkv ky (h.1.2 ▸ ky')) hu q) (k (.bool true) _ _ ⟨news, R⟩ rfl h.2)
  · refine ref_d hp Da fun ap ep => ref_d hr Db fun aq eq => ?_
    have e : eqD 6 σ.H a b = eqR (eqD 5 σ.H) σ.H p r := by rw [ref_el hp, ref_el hr]; rfl
    exact (eqR_rc R (A := c.A) (by omega) (eqD_at R 5 c.A.in1 (by rw [Around.in1_units]; omega)) ep eq (e ▸ he)).2.1 PR c.w E Q (k _ _ _ ⟨news, R⟩ (den_vb _ _) h)
theorem neRef_ok {q : Bool} (C : Ck q c n) (R : Rel c ρ σ s) {p r : Nat} (hp : refO a = some p) (hr : refO b = some r) (Da : Den ρ a x) (Db : Den ρ b y) (h : neRef a b p r σ K) (k : ∀ v u s', Rel c ρ σ s' → Den ρ v u → K v σ → Q u s') : wpAny (MM c.w) c.A (compareOp .NotEq x y) Q E s := by
  have un := C.un
  refine R.elim fun news R => ref_d hp Da fun ap ep => ref_d hr Db fun aq eq => oE_el h (fun xs g1 h => oB_el h fun ys g2 h => oB_el h fun z he h => ?_) fun h => oB_el h fun ss g1 h => oB_el h fun ys g2 h => bB_el h fun hn h => ?_
  · have e : eqD 6 σ.H a b = eqR (eqD 5 σ.H) σ.H p r := by rw [ref_el hp, ref_el hr]; rfl
    exact (eqR_rc R (A := c.A) (by omega) (eqD_at R 5 c.A.in1 (by rw [Around.in1_units]; omega)) ep eq (e ▸ he)).2.2 xs g1 PR c.w E Q (k _ _ _ ⟨news, R⟩ (den_vb _ _) h)
  · refine R.lda ep (tlist_el g1) fun ob m g o => o.elim fun vs1 o => o.elim fun n1 o => R.ldl eq g2 fun vs2 n2 m2 l2 al2 => ?_
    have L1 : s.heap.IsList ap vs1 := ⟨_, o.1 ▸ g, rfl, n1, rfl⟩
    have L2 : s.heap.IsList aq vs2 := ⟨_, l2, rfl, n2, rfl⟩
    have z2 : vs2.size = 0 := (al2.length.symm.trans (congrArg List.length (nilL_el hn)) : vs2.toList.length = 0)
    have z1 : vs1.size = ss.length := o.2.length
    have hu1 : c.A.units < cLine := by omega
    cases ss with
    | nil => exact (RcNeAt.lists (s := s) (A := c.A) (e := fun _ => true) L1 L2 (z1.trans z2.symm) hu1 fun j h1 => absurd (z1 ▸ h1) (Nat.not_lt_zero _)) PR c.w E Q (by rw [z1]; exact k (.sb _) _ _ ⟨news, R⟩ rfl h)
    | cons x r => exact RcNeAt.lists_lengths L1 L2 (by rw [z1, z2]; rfl) hu1 PR c.w E Q (k (.sb _) _ _ ⟨news, R⟩ rfl h)
theorem cmpT_ok (TT : TabOk T c.w) {q : Bool} (C : Ck q c n) (R : Rel c ρ σ s) {op : CmpOp} (Da : Den ρ a x) (Db : Den ρ b y) (h : cmpT T op a b σ K) (k : ∀ v u s', Rel c ρ σ s' → Den ρ v u → K v σ → Q u s') : wpAny (MM c.w) c.A (compareOp op x y) Q E s := by
  refine bE_el h (fun ho h => ?_) fun _ h => bE_el h (fun ho h => ?_) fun _ h => oE_el h (fun p hp h => oE_el h (fun r hr h => bE_el h (fun ho h => ?_) fun _ h => bB_el h fun ho h => ?_) fun h => cmpV_ok R Da Db h k) fun h => cmpV_ok R Da Db h k
  · rw [cmpN_el ho]; exact inV_ok (neg := false) TT C R Da Db h k
  · rw [cmpN_el ho]; exact inV_ok (neg := true) TT C R Da Db h k
  · rw [cmpN_el ho]; exact eqRef_ok C R hp hr Da Db h k
  · rw [cmpN_el ho]; exact neRef_ok C R hp hr Da Db h k
end
end Mine
namespace Mine
theorem strs_of {vs : List Value} {kvs : List (Str × Value)} (hl : vs.length = kvs.length) (h : ∀ (j : Nat) (v : Value), vs[j]? = some v → ∃ k x, kvs[j]? = some (k, x) ∧ Value.isStrOf k v = true) : StrsAre vs (kvs.map (·.1)) := by
  induction vs generalizing kvs with
  | nil => rw [List.length_eq_zero_iff.mp hl.symm]; exact .nil
  | cons v vs ih =>
    cases kvs with
    | nil => exact nomatch hl
    | cons q r =>
      obtain ⟨k, x, e, hv⟩ := h 0 v rfl
      cases e
      obtain ⟨t, rfl⟩ := Value.isStrOf_shape hv
      exact .cons k t (ih (Nat.succ.inj hl) fun j u hu => h (j + 1) u hu)
section
variable {prog : Program} {w : World} {A : Around} {E : Value → Shared → Prop} {s : Shared} {h₀ : Heap} {L : Addr} {m : Str → Option Value} {news : List (Addr × Obj)} {Q : Value → Shared → Prop}
theorem sorted_dictP {d : Addr} {o : Obj} {kvs : List (Str × Value)} (hh : A.handled = none) (F : Fr h₀ L s.heap m) (N : News h₀ L s.heap news) (hp : (d, o) ∈ news) (hd : o.IsDictOf (PySem.strKind prog w) kvs) (lo : (d == sysModules) = false) (h64 : kvs.length < 64)
    (h : ∀ B n vs ks h' tk, Fr h₀ L h' m → News h₀ L h' ((B, W.listOf vs.toArray n) :: news) → (∀ q ∈ news, q.1 < B) → StrsAre vs ks → ks.Perm (kvs.map (·.1)) → Q (.ref B) { s with heap := h', toks := tk }) :
    wpAny (model prog w) A (call (.builtin "sorted") [.ref d]) Q E s := by
  obtain ⟨ep, hat⟩ := (kda_dict N hp hd).dictAt
  refine kdu_sorted (kdl_dict (knd := PySem.strKind prog w) (kvs := kvs) (ep := ep) lo) hh F N hat (by rw [sizeLine_eq]; omega) fun B h' tk vs F' N' l1 hl hv => ?_
  have hS : StrsAre vs (kvs.map (·.1)) := strs_of hl hv
  have z := N' (B, W.listOf vs.toArray 0) (.head _)
  have hB : ∀ p ∈ news, p.1 ≠ B := fun p hp => Nat.ne_of_lt (l1 p hp)
  refine wpAny_call_entry PyProof.Rows.slot_list_sort ⟨_, z.1, rfl⟩ PyProof.Rows.entry_list_sort (list_sort_treeK strKind_oneLt (n := 0) (vs := vs) z.1 hS.keysOf (fun v₁ v₂ r e => keyKind_strs (by rw [← e]; exact hS)) (by omega) fun st' hp' hs' => ⟨.none, rfl, ?_⟩) (PyProof.Rows.args_list_sort _)
  obtain ⟨ks, k1, k2, -⟩ := sorted_out_str hS hp' hs'
  have b0 : ∀ p ∈ ([] : List (Addr × Obj)), p.1 ≠ B := fun p h => nomatch h
  have N1 := ki_turn (pre := []) (post := news) (fun _ => (#[] : Array Value)) (its' := #[]) N' b0 hB rfl rfl
  have N2 := News.grown N1 fun _ _ e => Heap.get?_push_of_some (seqObj "tuple" vs.toArray 0) e
  have N3 := News.grown N2 fun _ _ e => Heap.get?_push_of_some (seqObj "list" #[] 0) e
  have N4 := ki_turn (pre := []) (post := news) (fun _ => (arrOf st').map (·.2)) (its' := (arrOf st').map (·.2)) N3 b0 hB rfl rfl
  have F1 : Fr h₀ L (h'.update B (Obj.mapSeq fun _ => (#[] : Array Value))) m := F'.change (Heap.SameBut.update ..) z.2.1 z.2.2
  have F4 := ((F1.push (seqObj "tuple" vs.toArray 0)).push (seqObj "list" #[] 0)).change (h' := ((((h'.update B (Obj.mapSeq fun _ => (#[] : Array Value))).push (seqObj "tuple" vs.toArray 0)).push (seqObj "list" #[] 0)).update B (Obj.mapSeq fun _ => (arrOf st').map (·.2)))) (Heap.SameBut.update ..) z.2.1 z.2.2
  exact h B _ ((arrOf st').map (·.2)).toList ks _ _ F4 (by rw [Array.toArray_toList]; exact N4) l1 k1 k2
end
theorem log_small {i : Nat} (h : i ≤ 1000000) : i.log2 < 1920 := by
  by_cases z : i = 0
  · subst z; decide
  · exact (Nat.log2_lt z).mpr (Nat.lt_of_le_of_lt h (by decide +kernel))
theorem ints_len {vs : List Value} {ns : List Int} (h : IntsAre vs ns) : vs.length = ns.length := by
  induction h with
  | nil => rfl
  | cons _ _ _ ih => exact congrArg Nat.succ ih
theorem sum_len {l : List Str} : (l.map (·.length)).sum = sumLen l := by
  induction l with
  | nil => rfl
  | cons s r ih => rw [List.map_cons, List.sum_cons, ih]; rfl
theorem notD_list {vs : Array Value} {n : Nat} : ¬ IsD (W.listOf vs n) := fun ⟨_, _, e⟩ => nomatch e
noncomputable def methT : Nat → String × String
  | 0 => ("list", "list.append")
  | 1 => ("dict", "dict.get")
  | 2 => ("dict", "dict.setdefault")
  | _ => ("str", "str.join")
theorem dict_none {w : World} {ρ : Rho} {o : Obj} (h : DictIs w.params ρ [] o) : IDictIs ρ [] o := h.rec fun es n e al _ _ => ⟨es, n, e, by cases al; exact .nil, List.nodup_nil, by decide⟩
theorem lt62 {n : Nat} (h : n ≤ 1000) : n < 2 ^ 62 := Nat.lt_of_le_of_lt h (by decide)
theorem lt63 {n : Nat} (h : n ≤ 1000) : (n : Int) < 2 ^ 63 := Int.lt_of_le_of_lt (Int.ofNat_le.mpr h) (by decide)
section
variable {T : Tab} {c : Cd} {n : Nat} {ρ : Rho} {σ : St} {s : Shared} {E : Value → Shared → Prop} {news : List (Addr × Obj)} {x y z u u' : Value} {a b i v o : V} {K : KV} {Q : Value → Shared → Prop} {p : Nat} {ad : Addr}
section
variable (k : ∀ ρ' v σ' u s', ρ.le ρ' → Rel c ρ' σ' s' → Den ρ' v u → K v σ' → Q u s')
include k
theorem lenT {vs : Array Value} {m : Nat} (R : RelA c ρ σ news s) (ht : IsTup s.heap ad vs) (hl : vs.size = m) (h : lenK σ K m) : wpAny (MM c.w) c.A (call (.builtin "len") [.ref ad]) Q E s :=
  bB_le h fun hb h => len_tuple ht (lt63 (hl ▸ hb)) (by rw [hl]; exact k ρ (.int _) σ _ _ ρ.le_refl ⟨news, R.toks _⟩ ⟨_, rfl⟩ h)
theorem vcLen_ok (TT : TabOk T c.w) {q : Bool} (C : Ck q c n) (R : RelA c ρ σ news s) (D : Den ρ v u) (h : vcLen T v σ K) : wpAny (MM c.w) c.A (call (.builtin "len") [u]) Q E s := by
  refine oE_el h (fun p hp h => ?_) fun h => oB_el h fun p hp h => oB_el h fun nz hz h => ?_
  · refine ref_d hp D fun ad ea => ?_
    refine oE_el h (fun xs hg h => R.ldl ea hg fun vs nn m g al => bB_le h fun hb h => ?_) fun h => oE_el h (fun xs hg h => R.ldt ea hg fun vs nn m g al => ?_) fun h => oB_el h fun nz hg h => R.lda ea (ints_el hg) fun ob m g o => o.elim fun vs o => ?_
    · exact KM.len_K R.N (List.mem_append_right _ m) al.length.symm (lt62 hb) (k ρ (.int _) σ _ _ ρ.le_refl ⟨news, R.toks _⟩ ⟨_, rfl⟩ h)
    · exact lenT k R ⟨_, g, rfl, nn, rfl⟩ al.length.symm h
    · exact KM.len_K R.N (List.mem_append_right _ (o.1 ▸ m)) (ints_len o.2) (lt62 h.1) (k ρ (.si _) σ _ _ ρ.le_refl ⟨news, R.toks _⟩ ⟨_, rfl⟩ h.2)
  · rw [kref_d hp D]
    exact (TT.itups _ _ hz).elim fun dd q => q.elim fun items q => q.elim fun nn q => q.elim fun sl q => lenT k R ⟨_, R.F.keep _ _ (C.X _ _ q.1), rfl, _, rfl⟩ (ints_len q.2) h
theorem vcStr_ok (R : RelA c ρ σ news s) (D : Den ρ v u) (h : vcStr v σ K) : wpAny (MM c.w) c.A (call (.type "str") [u]) Q E s := by
  refine oB_el h fun q hq h => intOf_d hq D fun t => bE_el h (fun _ h => bB_le h fun hb h => ?_) fun _ h => ?_
  · exact P.str_of_int (log_small hb) (k ρ (.str _) σ _ _ ρ.le_refl ⟨news, R.toks _⟩ ⟨_, rfl⟩ h)
  · exact P.str_of_int (log_small h.1) (k ρ (.ss _) σ _ _ ρ.le_refl ⟨news, R.toks _⟩ ⟨_, rfl⟩ h.2)
theorem vcLst_ok (hx : Xs c) (R : RelA c ρ σ news s) (D : Den ρ v u) (h : vcLst v σ K) : wpAny (MM c.w) c.A (call (.type "list") [u]) Q E s :=
  oB_el h fun p hp h => ref_d hp D fun ad ea => oB_el h fun xs hg h => bB_le h fun hb h => R.ldl ea hg fun vs nn m g al =>
    kup_listOf R.F R.N (List.mem_append_right _ m) rfl (fun D cc h' F' N' l1 => new_k hx R (t := s.toks) F' N' l1 (o := .list xs) ⟨vs.toList.toArray, cc, rfl, al⟩ fun ρ' le R' D' => k ρ' (.ref σ.nx) _ _ _ le R' D' h) (by rw [← al.length]; exact le1000 hb)
theorem vcDct_ok (hx : Xs c) (R : RelA c ρ σ news s) (D : Den ρ v u) (h : vcDct v σ K) : wpAny (MM c.w) c.A (call (.type "dict") [u]) Q E s := by
  refine oB_el h fun p hp h => ref_d hp D fun ad ea => oB_el h fun kvs hg h => R.lda ea (odict_el hg) fun ob m g o => odict_to o fun ws hd hw _ hle => ?_
  refine kt_call_dict (not_mods (R.sm _ m (isD_of hd))) (kda_dict R.N (List.mem_append_right _ m) hd) (by rw [← All2.length hw, tkv_len]; exact le60 hle) fun h' hm hs => ?_
  refine (Heap.dictOf_iff.mp hm).elim fun o' q => ?_
  have N1 := News.push R.F R.N { cls := .type "dict", data := .dict #[] }
  exact new_k hx R (t := s.toks) ((R.F.push _).change hs (N1 _ (.head _)).2.1 (N1.fresh (.head _))) (N1.setHead R.N.apart hs q.1) (fun p hp => Heap.lt_size (R.N p hp).1) (o := .odict kvs) (dict_from q.2 hw (by rw [tkv_len]; exact hle)) fun ρ' le R' D' => k ρ' (.ref σ.nx) _ _ _ le R' D' h
theorem vcSrt_ok (C : Ck T.q c n) (R : RelA c ρ σ news s) (D : Den ρ v u) (h : vcSrt T v σ K) : wpAny (MM c.w) c.A (call (.builtin "sorted") [u]) Q E s := by
  refine guardQ_ok h fun hq h => oB_el h fun p hp h => ref_d hp D fun ad ea => oB_el h fun kvs hg h => R.lda ea (odict_el hg) fun ob m g o => odict_to o fun ws hd hw _ hle => ?_
  have wl : ws.length ≤ 60 := by rw [← All2.length hw, tkv_len]; exact hle
  refine sorted_dictP (C.hh hq) R.F R.N (List.mem_append_right _ m) hd (not_mods (R.sm _ m (isD_of hd))) (Nat.lt_of_le_of_lt wl (by decide)) fun B nn vs ks h' tk F' N' l1 hS hp => new_k C.xs R (t := tk) F' N' l1 (o := .tlist ks) ⟨vs.toArray, nn, rfl, hS⟩ fun ρ' le R' D' => ?_
  refine k ρ' (.ref σ.nx) _ _ _ le R' D' (h ks (fun x => ?_) (by rw [hp.length_eq, List.length_map]; exact wl))
  have hm : x ∈ ks ↔ x ∈ kvs.map (·.1) := by rw [hp.mem_iff, ← hw.keys, tkv_keys]
  cases q : lkS kvs x with
  | none => exact bool_el (b := memS ks x) (fun e => absurd (hm.mp (memS_of e)) (lkS_none q)) id
  | some v => exact memS_in (hm.mpr (List.mem_map_of_mem (f := (·.1)) (lkS_mem q)))
theorem vcBi_ok (TT : TabOk T c.w) (C : Ck T.q c n) (R : Rel c ρ σ s) {code : Nat} {vs : List V} {us : List Value} (D : All2 (Den ρ) vs us) (h : vcBi T code vs σ K) : wpAny (MM c.w) c.A (call (bltVal code) us) Q E s := by
  refine oB_el h fun v hv h => R.elim fun news R => ?_
  rw [oneL_el hv] at D
  refine D.one_d fun u D => ?_
  refine bE_el h (fun e h => ?_) fun _ h => bE_el h (fun e h => ?_) fun _ h => bE_el h (fun e h => ?_) fun _ h => bE_el h (fun e h => ?_) fun _ h => bB_el h fun e h => ?_
  · rw [Nat.eq_of_beq_eq_true e]; exact vcLen_ok k TT C R D h
  · rw [Nat.eq_of_beq_eq_true e]; exact vcStr_ok k R D h
  · rw [Nat.eq_of_beq_eq_true e]; exact vcLst_ok k C.xs R D h
  · rw [Nat.eq_of_beq_eq_true e]; exact vcDct_ok k C.xs R D h
  · rw [Nat.eq_of_beq_eq_true e]; exact vcSrt_ok k C R D h
end
section
variable (k : ∀ v σ' u s', Rel c ρ σ' s' → Den ρ v u → K v σ' → Q u s')
include k
theorem app_any {vs : Array Value} {nn : Nat} {o : O} (R : RelA c ρ σ news s) (ea : ρ p = some ad) (m : (ad, W.listOf vs nn) ∈ news) (lb : vs.size ≤ 1000) (ho : ObjIs c.w.params ρ o (W.listOf (vs.push u) (nn + 1))) (h : K .none (σ.put p o)) : wpAny (MM c.w) c.A (call (.builtin "list.append") [.ref ad, u]) Q E s :=
  append_K R.F R.N (upd_of R.nd (List.mem_append_right _ m)) (fun h' F' N' => k .none _ _ _ ⟨_, R.upd (t := s.toks) ea m (fun q => (notD_list q).elim) F' N' ho⟩ rfl h) (le1000 lb)
theorem mApp_ok (R : RelA c ρ σ news s) (ea : ρ p = some ad) (Dv : Den ρ v u) (h : mApp p v σ K) : wpAny (MM c.w) c.A (call (.builtin "list.append") [.ref ad, u]) Q E s := by
  have al1 : ∀ {xs : List V} {vs : Array Value}, All2 (Den ρ) xs vs.toList → All2 (Den ρ) (xs ++ [v]) (vs.push u).toList := fun al => by rw [Array.toList_push]; exact al.append (.cons Dv .nil)
  refine oE_el h (fun xs hg h => bB_le h fun hb h => R.ldl ea hg fun vs nn m g al => ?_) fun h => oB_el h fun xs hg h => R.lda ea (olist_el hg) fun ob m g o => o.rec fun vs nn e al => ?_
  · exact app_any k R ea m (Nat.le_trans (Nat.le_of_eq al.length.symm) hb) (o := .list (xs ++ [v])) ⟨_, _, rfl, al1 al⟩ h
  · exact app_any k R ea (e ▸ m) (Nat.le_trans (Nat.le_of_eq al.length.symm) h.1) (o := .olist (xs ++ [v])) ⟨_, _, rfl, al1 al⟩ h.2
theorem mGet1_ok (R : RelA c ρ σ news s) (ea : ρ p = some ad) (Dk : Den ρ i y) (h : mGet1 p i σ K) : wpAny (MM c.w) c.A (call (.builtin "dict.get") [.ref ad, y]) Q E s := by
  refine oE_el h (fun kvs hg h => R.lda ea (dict_el hg) fun ob m g o => ?_) fun h => oE_el h (fun kvs hg h => oB_el h fun f hf h => ?_) fun h => oB_el h fun kvs hg h => oB_el h fun f hf h => oB_el h fun v hv h => ?_
  · refine oE_el h (fun f hf h => ?_) fun h => bB_el h fun hn h => oB_el h fun f hf h => ?_
    · refine strK_d hf Dk fun t => dict_to o fun ws hd hw _ => ?_
      exact oE_el0 h (fun v hv h => (kvS_some hw hv).elim fun u q => kdg_get1 R.N (List.mem_append_right _ m) hd (not_mods (R.sm _ m (isD_of hd))) (strKind_is _ _ _ _) (some u) q.1 (k v σ u _ ⟨news, R.toks _⟩ q.2 h)) fun hv h => kdg_get1 R.N (List.mem_append_right _ m) hd (not_mods (R.sm _ m (isD_of hd))) (strKind_is _ _ _ _) none (kvS_none hw hv) (k .none σ .none _ ⟨news, R.toks _⟩ rfl h)
    · refine intK_d hf Dk fun t => ?_
      rw [nilL_el hn] at o
      exact idict_to (w := c.w) (dict_none o) fun ws hd hw _ => kdg_get1 R.N (List.mem_append_right _ m) hd (not_mods (R.sm _ m (isD_of hd))) (intKind_is _ _ _ _) none (kvI_none (f := f) hw rfl) (k .none σ .none _ ⟨news, R.toks _⟩ rfl h)
  · refine intK_d hf Dk fun t => R.lda ea (idict_el hg) fun ob m g o => idict_to (w := c.w) o fun ws hd hw _ => ?_
    exact oE_el0 h (fun v hv h => (kvI_some hw hv).elim fun u q => kdg_get1 R.N (List.mem_append_right _ m) hd (not_mods (R.sm _ m (isD_of hd))) (intKind_is _ _ _ _) (some u) q.1 (k v σ u _ ⟨news, R.toks _⟩ q.2 h)) fun hv h => kdg_get1 R.N (List.mem_append_right _ m) hd (not_mods (R.sm _ m (isD_of hd))) (intKind_is _ _ _ _) none (kvI_none hw hv) (k .none σ .none _ ⟨news, R.toks _⟩ rfl h)
  · exact intK_d hf Dk fun t => R.lda ea (pidict_el hg) fun ob m g o => pidict_to (w := c.w) o fun ws hd kn => (kn f v hv).elim fun u q => kdg_get1 R.N (List.mem_append_right _ m) hd (not_mods (R.sm _ m (isD_of hd))) (intKind_is _ _ _ _) (some u) ((valueAt_lkB (intT f)).trans q.1) (k v σ u _ ⟨news, R.toks _⟩ q.2 h)
theorem mGet2_ok (R : RelA c ρ σ news s) (ea : ρ p = some ad) (Dk : Den ρ i y) (Dd : Den ρ v u) (h : mGet2 p i v σ K) : wpAny (MM c.w) c.A (call (.builtin "dict.get") [.ref ad, y, u]) Q E s := by
  refine oB_el h fun f hf h => strK_d hf Dk fun t => ?_
  have go : ∀ {ob : Obj} {ws : List (Str × Value)}, (ad, ob) ∈ news → ob.IsDictOf (SK c.w) ws → ∀ x, lkS ws f = x → Q (x.getD u) { s with toks := s.toks + 1 } → wpAny (MM c.w) c.A (call (.builtin "dict.get") [.ref ad, .str f t, u]) Q E s := fun m hd x hx q => kdg_get2 R.N (List.mem_append_right _ m) hd (not_mods (R.sm _ m (isD_of hd))) (strKind_is _ _ _ _) x ((valueAt_lkB (strT f)).trans hx) q
  refine oE_el h (fun kvs hg h => R.lda ea (dict_el hg) fun ob m g o => dict_to o fun ws hd hw _ => ?_) fun h => oE_el h (fun q hg h => ?_) fun h => oB_el h fun q hg h => oB_el h fun z hz h => bB_el h fun e h => R.lda ea (cdict_el hg) fun ob m g o => cdict_to o fun ws hd kn _ _ => ?_
  · exact oE_el0 h (fun v hv h => (kw_some hw hv).elim fun u q => go m hd (some u) q.1 (k v σ u _ ⟨news, R.toks _⟩ q.2 h)) fun hv h => go m hd none (kw_none hw hv) (k v σ u _ ⟨news, R.toks _⟩ Dd h)
  · obtain ⟨kvs, abs, b⟩ := q
    exact R.lda ea (pdict_el hg) fun ob m g o => pdict_to o fun ws hd kn ab _ _ => oE_el0 h (fun v hv h => (kn f v hv).elim fun u q => go m hd (some u) q.1 (k v σ u _ ⟨news, R.toks _⟩ q.2 h)) fun hv h => bB_el h fun ha h => go m hd none (ab f ha hv) (k v σ u _ ⟨news, R.toks _⟩ Dd h)
  · refine go m hd _ rfl ?_
    cases q : lkS ws f with
    | none => exact intK_d (C := fun u => Q u _) hz Dd fun t0 => (show z = 0 from of_decide_eq_true e) ▸ k (.si 0) σ _ _ ⟨news, R.toks _⟩ ⟨_, rfl⟩ (h 0 (Int.le_refl 0) (Int.natCast_nonneg _))
    | some u => exact (kn f u q).elim fun i z => z.elim fun ti z => z.1 ▸ k (.si i) σ _ _ ⟨news, R.toks _⟩ ⟨_, rfl⟩ (h i z.2.1 z.2.2)
theorem sdef_any {K' : Type} [DecidableEq K'] {knd : KeyKind PR c.w K'} {ob : Obj} {ws : List (K' × Value)} {f : K'} {o : O} (R : RelA c ρ σ news s) (ea : ρ p = some ad) (Dd : Den ρ v u) (m : (ad, ob) ∈ news) (hd : ob.IsDictOf knd ws) (hk : knd.is f y = true) (l : ws.length ≤ 60) (hn : valueAt ws f = none)
    (go : ∀ o', o'.IsDictOf knd (stored ws f u) → ObjIs c.w.params ρ o o') (h : K v (σ.put p o)) : wpAny (MM c.w) c.A (call (.builtin "dict.setdefault") [.ref ad, y, u]) Q E s :=
  kob_setdef_new R.F R.N (updF_putA R.nd (List.mem_append_right _ m)) hd (not_mods (R.sm _ m (isD_of hd))) hk (PySem.F.args_dict_setdefault_3 _ _ _) hn (le60 l) fun h' o' F' N' hd' => k v _ u _ ⟨_, R.upd ea m (fun _ => isD_of hd) F' N' (go o' hd')⟩ Dd h
theorem sthere_any {K' : Type} [DecidableEq K'] {knd : KeyKind PR c.w K'} {ob : Obj} {ws : List (K' × Value)} {f : K'} (R : RelA c ρ σ news s) (Dv : Den ρ v z) (m : (ad, ob) ∈ news) (hd : ob.IsDictOf knd ws) (hk : knd.is f y = true) (l : ws.length ≤ 60) (hu : valueAt ws f = some z) (h : K v σ) : wpAny (MM c.w) c.A (call (.builtin "dict.setdefault") [.ref ad, y, u]) Q E s :=
  kob_setdef_there R.N (List.mem_append_right _ m) hd (not_mods (R.sm _ m (isD_of hd))) hk (PySem.F.args_dict_setdefault_3 _ _ _) hu (le60 l) (k v σ z _ ⟨news, R.toks _⟩ Dv h)
theorem mSet_ok (R : RelA c ρ σ news s) (ea : ρ p = some ad) (Dk : Den ρ i y) (Dd : Den ρ v u) (h : mSet p i v σ K) : wpAny (MM c.w) c.A (call (.builtin "dict.setdefault") [.ref ad, y, u]) Q E s := by
  refine oE_el h (fun kvs hg h => R.lda ea (dict_el hg) fun ob m g o => ?_) fun h => oE_el h (fun kvs hg h => oB_el h fun f hf h => ?_) fun h => oB_el h fun q hg h => oB_el h fun f hf h => ?_
  · refine oE_el h (fun f hf h => ?_) fun h => bB_el h fun hn h => oB_el h fun f hf h => ?_
    · refine strK_d hf Dk fun t => dict_to o fun ws hd hw le => ?_
      exact oE_el0 h (fun v hv h => (kvS_some hw hv).elim fun z q => sthere_any k R q.2 m hd (strKind_is _ _ _ _) (hw.length ▸ le) q.1 h) fun hv h => bB_le h fun hb h => sdef_any k (o := .dict _) R ea Dd m hd (strKind_is _ _ _ _) (hw.length ▸ le) (kvS_none hw hv) (fun o' hd' => dict_from hd' (kv_putS Dd hw (nd_of hd)) hb) h
    · refine intK_d hf Dk fun t => ?_
      rw [nilL_el hn] at o
      exact idict_to (w := c.w) (dict_none o) fun ws hd hw le => sdef_any k (o := .idict _) R ea Dd m hd (intKind_is _ _ _ _) (hw.length ▸ le) (kvI_none (f := f) hw rfl) (fun o' hd' => idict_from hd' (kv_putI (x := f) Dd hw (nd_of hd)) (show 1 ≤ 60 by decide)) h
  · refine intK_d hf Dk fun t => R.lda ea (idict_el hg) fun ob m g o => idict_to (w := c.w) o fun ws hd hw le => ?_
    exact oE_el0 h (fun v hv h => (kvI_some hw hv).elim fun z q => sthere_any k R q.2 m hd (intKind_is _ _ _ _) (hw.length ▸ le) q.1 h) fun hv h => bB_le h fun hb h => sdef_any k (o := .idict _) R ea Dd m hd (intKind_is _ _ _ _) (hw.length ▸ le) (kvI_none hw hv) (fun o' hd' => idict_from hd' (kv_putI Dd hw (nd_of hd)) hb) h
  · obtain ⟨kvs, abs, b⟩ := q
    refine strK_d hf Dk fun t => R.lda ea (pdict_el hg) fun ob m g o => pdict_to o fun ws hd kn ab lb l6 => oE_el0 h (fun v hv h => (kn f v hv).elim fun z q => sthere_any k R q.2 m hd (strKind_is _ _ _ _) l6 ((valueAt_lkB (strT f)).trans q.1) h) fun hv h => bB_el h fun ha h => and_el ha fun ha hb => ?_
    exact sdef_any k (o := .pdict _ _ _) R ea Dd m hd (strKind_is _ _ _ _) l6 ((valueAt_lkB (strT f)).trans (ab f ha hv)) (fun o' hd' => pdict_put hd' (nd_of hd) kn ab Dd (Nat.le_trans putS_le (Nat.succ_le_succ lb)) (Nat.le_trans (Nat.le_trans putS_le (Nat.succ_le_succ lb)) (Nat.le_of_ble_eq_true hb))) h
theorem mJoin_ok {f : Str} {t : Tok} (R : RelA c ρ σ news s) (D : Den ρ v u) (h : mJoin f v σ K) : wpAny (MM c.w) c.A (call (.builtin "str.join") [.str f t, u]) Q E s := by
  refine oB_el h fun p hp h => ref_d hp D fun ad ea => oB_el h fun xs hg h => R.ldl ea hg fun vs nn m g al => oB_el h fun q hq h => bB_le h fun hl h => ?_
  refine bE_el h (fun _ h => bB_le h fun hb h => ?_) fun _ h => ?_
  · exact join_listC ⟨_, g, rfl, nn, rfl⟩ (allStr_are hq al) hl (by rw [sum_len]; exact hb) fun t' kk => k (.str _) σ _ _ ⟨news, R.toks _⟩ ⟨_, rfl⟩ h
  · exact join_listC ⟨_, g, rfl, nn, rfl⟩ (allStr_are hq al) hl (by rw [sum_len]; exact h.1) fun t' kk => k (.ss _) σ _ _ ⟨news, R.toks _⟩ ⟨_, rfl⟩ h.2
theorem vcMeth_ok (R : Rel c ρ σ s) {code : Nat} {vs : List V} {us : List Value} (Do : Den ρ o x) (D : All2 (Den ρ) vs us) (h : vcMeth code o vs σ K) : wpAny (MM c.w) c.A (call (.builtin (methT code).2) (x :: us)) Q E s := by
  refine R.elim fun news R => oE_el h (fun p hp h => ?_) fun h => oB_el h fun f hf h => bB_el h fun e h => oB_el h fun v hv h => ?_
  · refine ref_d hp Do fun ad ea => ?_
    refine bE_el h (fun e h => oB_el h fun v hv h => ?_) fun _ h => bE_el h (fun e h => oE_el h (fun v hv h => ?_) fun h => oB_el h fun q hq h => ?_) fun _ h => bB_el h fun e h => oB_el h fun q hq h => ?_
    · rw [Nat.eq_of_beq_eq_true e]; rw [oneL_el hv] at D; exact D.one_d fun u Dv => mApp_ok k R ea Dv h
    · rw [Nat.eq_of_beq_eq_true e]; rw [oneL_el hv] at D; exact D.one_d fun u Dv => mGet1_ok k R ea Dv h
    · rw [Nat.eq_of_beq_eq_true e]; rw [twoL_el hq] at D; exact D.two_d fun u u' Dv Dd => mGet2_ok k R ea Dv Dd h
    · rw [Nat.eq_of_beq_eq_true e]; rw [twoL_el hq] at D; exact D.two_d fun u u' Dv Dd => mSet_ok k R ea Dv Dd h
  · rw [Nat.eq_of_beq_eq_true e]; rw [oneL_el hv] at D; exact strK_d hf Do fun t => D.one_d fun u Dv => mJoin_ok k R Dv h
end
end
end Mine
namespace Mine
theorem Ck.le {q : Bool} {c : Cd} {n m : Nat} (C : Ck q c n) (h : m ≤ n) : Ck q c m := { C with dp := Nat.lt_of_le_of_lt (Nat.add_le_add_left (Nat.mul_le_mul_left 5 h) _) C.dp, un := Nat.lt_of_le_of_lt (Nat.add_le_add_right (Nat.add_le_add_left (Nat.mul_le_mul_left 30 h) _) 100) C.un }
noncomputable def ScOk (c : Cd) (sc : Names) : Prop := c.env.scope.names = sc
noncomputable def KOk {α β : Type} (c : Cd) (ρ : Rho) (P : Rho → α → β → Prop) (K : α → St → Prop) (Q : β → Shared → Prop) : Prop := ∀ ρ' σ' v u s', ρ.le ρ' → Rel c ρ' σ' s' → P ρ' v u → K v σ' → Q u s'
noncomputable def XOk (c : Cd) (ρ : Rho) (X : KX) (E : Value → Shared → Prop) : Prop := ∀ ρ' σ' l u s', ρ.le ρ' → ExcRel c ρ' σ' l u s' → X l σ' → E u s'
theorem KOk.le {α β : Type} {c : Cd} {ρ ρ₁ : Rho} {P : Rho → α → β → Prop} {K : α → St → Prop} {Q : β → Shared → Prop} (k : KOk c ρ P K Q) (h : ρ.le ρ₁) : KOk c ρ₁ P K Q := fun ρ' σ' v u s' le => k ρ' σ' v u s' (h.trans' le)
theorem XOk.le {c : Cd} {ρ ρ₁ : Rho} {X : KX} {E : Value → Shared → Prop} (k : XOk c ρ X E) (h : ρ.le ρ₁) : XOk c ρ₁ X E := fun ρ' σ' l u s' le => k ρ' σ' l u s' (h.trans' le)
noncomputable def SndE (c : Cd) (ev : St → KV → KX → Prop) (t : Sem Value) : Prop := ∀ ρ σ s K X (Q E : Value → Shared → Prop), Rel c ρ σ s → ev σ K X →
  (∀ ρ' σ' v u s', ρ.le ρ' → Rel c ρ' σ' s' → Den ρ' v u → K v σ' → Q u s') → (∀ ρ' σ' l u s', ρ.le ρ' → ExcRel c ρ' σ' l u s' → X l σ' → E u s') → wpAny (MM c.w) c.A t Q E s
noncomputable def SndT (c : Cd) (ev : St → (Bool → St → Prop) → KX → Prop) (t : Sem Bool) : Prop := ∀ ρ σ s K X (Q : Bool → Shared → Prop) (E : Value → Shared → Prop), Rel c ρ σ s → ev σ K X →
  (∀ ρ' σ' b s', ρ.le ρ' → Rel c ρ' σ' s' → K b σ' → Q b s') → (∀ ρ' σ' l u s', ρ.le ρ' → ExcRel c ρ' σ' l u s' → X l σ' → E u s') → wpAny (MM c.w) c.A t Q E s
theorem star_plain {e : Expr} {rest : List Expr} {env : Env} : plainArg e = true → starEach (e :: rest) env = (false, eval e env) :: starEach rest env := by
  cases e <;> first | exact fun _ => rfl | exact fun h => Bool.noConfusion h
theorem star_none {env : Env} {pos : Pos} {es : List Expr} (h : es.all plainArg = true) : (backTo pos (starEach es env)).any (·.1) = false := by
  induction es with
  | nil => rfl
  | cons e r ih =>
    have h := (Bool.and_eq_true _ _).mp ((List.all_cons ..).symm.trans h)
    rw [star_plain h.1]
    exact ih h.2
theorem vcList_ok {c : Cd} {pos : Pos} {X : KX} {ev : Expr → St → KV → KX → Prop} {es : List Expr} (H : ∀ e ∈ es, SndE c (ev e) (eval e c.env)) (pa : es.all plainArg = true) :
    ∀ ρ σ s acc uacc K (Q : List Value → Shared → Prop) (E : Value → Shared → Prop), Rel c ρ σ s → All2 (Den ρ) acc.reverse uacc → vcList (fun e σ K => ev e σ K X) es acc σ K →
    (∀ ρ' σ' xs us s', ρ.le ρ' → Rel c ρ' σ' s' → All2 (Den ρ') xs us → K xs σ' → Q us s') → (∀ ρ' σ' l u s', ρ.le ρ' → ExcRel c ρ' σ' l u s' → X l σ' → E u s') →
    wpAny (MM c.w) c.A (spliced (backTo pos (starEach es c.env))) (fun vs s' => Q (uacc ++ vs) s') E s := by
  induction es with
  | nil =>
    intro ρ σ s acc uacc K Q E R D h k _
    refine spliced_none ?_
    rw [List.append_nil]
    exact k ρ σ _ _ _ ρ.le_refl R D h
  | cons e es ih =>
    intro ρ σ s acc uacc K Q E R D h k kx
    have pa := (Bool.and_eq_true _ _).mp ((List.all_cons ..).symm.trans pa)
    refine spliced_more (H e (.head _) ρ σ s _ _ _ _ R h (fun ρ' σ' v u s' le R' D' h' => ?_) kx) (star_plain pa.1)
    refine wpAny_mono (ih (fun e he => H e (.tail _ he)) pa.2 ρ' σ' s' (v :: acc) (uacc ++ [u]) K Q E R' ?_ h' (fun ρ2 σ2 xs us s2 le2 => k ρ2 σ2 xs us s2 (Rho.le_trans le le2)) fun ρ2 σ2 l w s2 le2 => kx ρ2 σ2 l w s2 (Rho.le_trans le le2)) (fun vs s2 q => ?_) fun _ _ q => q
    · rw [List.reverse_cons]
      exact (D.mono fun _ _ x => x.mono le).append (.cons D' .nil)
    · rw [List.append_assoc] at q
      exact q
theorem den_list_length {ρ : Rho} {xs : List V} {us : List Value} (h : All2 (Den ρ) xs us) : us.length = xs.length := h.length.symm
theorem zip_den {ρ : Rho} {x : Str} {v : V} {ps : List Str} {xs : List V} {us : List Value} (D : All2 (Den ρ) xs us) (h : lkS (zipL ps xs) x = some v) : ∃ u, (x, u) ∈ ps.zip us ∧ Den ρ v u := by
  induction ps generalizing xs us with
  | nil => exact nS h
  | cons p ps ih =>
    cases D with
    | nil => exact nS h
    | @cons a b _ _ d r => exact lkB_hd (p := (p, a)) h (fun q e => ⟨b, Fast.sEq_iff.mp q ▸ .head _, e ▸ d⟩) fun q e => (ih r e).imp fun u z => ⟨.tail _ z.1, z.2⟩
theorem lookup_sEq {α : Type} {x : Str} {p : Str × α} {r : List (Str × α)} : (p :: r).lookup x = @Bool.rec (fun _ => Option α) (r.lookup x) (some p.2) (Fast.sEq p.1 x) := by
  rw [List.lookup_cons, beq_sEq]
  exact bool_el (b := Fast.sEq p.1 x) (fun q => by rw [q, Fast.sEq_iff.mpr (Fast.sEq_iff.mp q).symm]) fun q => by rw [q, sEq_ne (sEq_f q).symm]
theorem lkS_eq {α : Type} {x : Str} {ns : List (Str × α)} : lkS ns x = ns.lookup x := by
  induction ns with
  | nil => rfl
  | cons p r ih => rw [lookup_sEq, ← ih]; rfl
theorem mem_lookup {x : Str} {u : Value} {l : List (Str × Value)} (hn : (l.map (·.1)).Nodup) (hm : (x, u) ∈ l) : l.lookup x = some u := by
  rw [← lkS_eq]
  induction l with
  | nil => cases hm
  | cons p r ih =>
    have hn := List.nodup_cons.mp hn
    cases hm with
    | head => exact lkB_t (p := (x, u)) (t := fun y => Fast.sEq y x) (Fast.sEq_iff.mpr rfl)
    | tail _ hm => exact (lkB_f (t := fun y => Fast.sEq y x) (sEq_ne fun e => hn.1 (List.mem_map.mpr ⟨_, hm, Eq.symm e⟩))).trans (ih hn.2 hm)
theorem zip_keys {ps : List Str} {us : List Value} (h : us.length = ps.length) : (ps.zip us).map (·.1) = ps := by
  rw [← List.unzip_fst, List.unzip_zip h.symm]
theorem loc_zip {ρ : Rho} {ps : List Str} {xs : List V} {us : List Value} (nd : ps.Nodup) (hl : us.length = ps.length) (h : All2 (Den ρ) xs us) : LocIs ρ (zipL ps xs) fun y => (ps.zip us).reverse.lookup y := fun x v e => (zip_den h e).imp fun u z =>
  ⟨mem_lookup (by rw [List.map_reverse, zip_keys hl]; exact (List.reverse_perm _).nodup_iff.mpr nd) (List.mem_reverse.mpr z.1), z.2⟩
theorem kd_is {t : NameKind → Bool} {ns : Names} {x : Str} (h : kdIs t ns x = true) : ∃ k, lkS ns x = some k ∧ t k = true := oT_el h fun k a b => ⟨k, a, b⟩
theorem kd_loc {ns : Names} {x : Str} (h : kdIs isLoc ns x = true) : lkS ns x = some .local := oT_el h fun k a b => isLoc_el b ▸ a
theorem kd_cel {ns : Names} {x : Str} (h : kdIs isCel ns x = true) : lkS ns x = some .cell := oT_el h fun k a b => isCel_el b ▸ a
theorem kd_glo {ns : Names} {x : Str} (h : kdIs isGlo ns x = true) : lkS ns x = some .globalImplicit := oT_el h fun k a b => isGlo_el b ▸ a
theorem allLoc_mem {ns : Names} {ps : List Str} (h : allLoc ns ps = true) : ∀ x ∈ ps, ns.lookup x = some .local := by
  induction ps with
  | nil => exact fun _ h => nomatch h
  | cons p r ih => exact and_el h fun a b x hx => (List.mem_cons.mp hx).elim (fun e => e ▸ lkS_lookup (kd_loc a)) (ih b x)
theorem noCells_mem {ns : Names} (h : noCells ns = true) : ∀ x ∈ ns, x.2 ≠ .cell := by
  induction ns with
  | nil => exact fun _ h => nomatch h
  | cons p r ih => exact and_el h fun a b x hx => (List.mem_cons.mp hx).elim (fun e z => Bool.noConfusion ((not_el a id).symm.trans ((congrArg isCel (e ▸ z) : isCel p.2 = isCel .cell)))) (ih b x)
inductive FlIs (ρ : Rho) : Fl → Flow → Prop
  | next : FlIs ρ .next .next
  | cont : FlIs ρ .cont .cont
  | brk : FlIs ρ .brk .brk
  | ret {v u} : Den ρ v u → FlIs ρ (.ret v) (.ret u)
noncomputable def Cd.at (c : Cd) (m : Str → Option Value) : Cd := { c with m := m, ml := m }
structure Fk (c : Cd) : Prop where
  env : c.env = c.fenv
  loc : c.env.locals = c.L
theorem Ck.at {q : Bool} {c : Cd} {n : Nat} (C : Ck q c n) (f : Fk c) (m : Str → Option Value) : Ck q (c.at m) n :=
  { C with hns := fun h F _ => by show h.Ns c.env.locals m; rw [f.loc]; exact F.ns, xs := ⟨C.xs.ne, C.xs.ys⟩ }
noncomputable def SndS (c : Cd) (ev : St → KS → KX → Prop) (t : Sem Flow) : Prop := ∀ m ρ σ s K X (Q : Flow → Shared → Prop) (E : Value → Shared → Prop), PassesOwn (MM c.w) c.A c.env E → Rel (c.at m) ρ σ s → ev σ K X →
  (∀ m' ρ' σ' fl w s', ρ.le ρ' → Rel (c.at m') ρ' σ' s' → FlIs ρ' fl w → K fl σ' → Q w s') → (∀ m' ρ' σ' l u s', ρ.le ρ' → ExcRel (c.at m') ρ' σ' l u s' → X l σ' → E u s') → wpAny (MM c.w) c.A t Q E s
theorem cells_names (ns : Names) : ∀ (k : Nat) (acc : List (Str × Addr)), (cellsFrom k ns acc).map (·.1) = cellNames ns (acc.map (·.1)) := by
  induction ns with
  | nil => exact fun _ _ => rfl
  | cons p r ih =>
    obtain ⟨x, kd⟩ := p
    intro k acc
    cases kd with
    | cell => exact ih (k + 1) ((x, k) :: acc)
    | _ => exact ih k acc
theorem cells_addr (ns : Names) : ∀ (k : Nat) (acc : List (Str × Addr)), (∀ q ∈ acc, @LT.lt Nat _ q.2 k) → (acc.map (·.2)).Nodup → ((cellsFrom k ns acc).map (·.2)).Nodup ∧ ∀ q ∈ cellsFrom k ns acc, q ∈ acc ∨ @LE.le Nat _ k q.2 := by
  induction ns with
  | nil => exact fun _ _ _ h => ⟨h, fun q hq => .inl hq⟩
  | cons p r ih =>
    obtain ⟨x, kd⟩ := p
    intro k acc hl h
    cases kd with
    | cell =>
      have z := ih (k + 1) ((x, k) :: acc) (fun q hq => (List.mem_cons.mp hq).elim (fun e => e ▸ Nat.lt_succ_self k) fun hq => Nat.lt_succ_of_lt (hl q hq)) (List.nodup_cons.mpr ⟨fun hm => (List.mem_map.mp hm).elim fun q (z : q ∈ acc ∧ q.2 = k) => Nat.ne_of_lt (hl q z.1) z.2, h⟩)
      exact ⟨z.1, fun q hq => (z.2 q hq).elim (fun hq => (List.mem_cons.mp hq).elim (fun e => .inr (e ▸ Nat.le_refl k)) .inl) fun hq => .inr (Nat.le_of_succ_le hq)⟩
    | _ => exact ih k acc hl h
theorem mem3 {α : Type} {q : α} {X Y Z : List α} (h : q ∈ X ++ (Y ++ Z)) : q ∈ Y ++ (X ++ Z) := (List.mem_append.mp h).elim (fun h => List.mem_append_right _ (List.mem_append_left _ h)) fun h => (List.mem_append.mp h).elim (List.mem_append_left _) fun h => List.mem_append_right _ (List.mem_append_right _ h)
theorem cells_keys {cm : Str → Option Value} {cs : List (Str × Addr)} {cells : List (Addr × Obj)} (h : CellsAre cm cs cells) : cells.map (·.1) = cs.map (·.2) := by
  induction h with
  | nil => rfl
  | @cons n a o cs cells _ _ ih => exact congrArg (a :: ·) ih
theorem cells_nm {P : Params} {X : List (Addr × Obj)} {Y : List Addr} {f : Str → Option V} {cm : Str → Option Value} (hx : ∀ y ∈ Y, y ∈ X.map (·.1)) {ρ : Rho} {σ : St} {news : List (Addr × Obj)} {cs : List (Str × Addr)} {cells : List (Addr × Obj)} (CA : CellsAre cm cs cells) (hf : ∀ x ∈ cs.map (·.1), ∀ v, f x = some v → ∃ u, cm x = some u ∧ Den ρ v u)
    (R : NmA P X Y ρ σ.H σ.nx news) (nd : ((cells ++ (X ++ news)).map (·.1)).Nodup) : ∃ ρ', ρ.le ρ' ∧ NmA P X Y ρ' (mkC (cs.map (·.1)) f σ).1.H (mkC (cs.map (·.1)) f σ).1.nx (cells ++ news) ∧ CelIs ρ' (mkC (cs.map (·.1)) f σ).2 cs := by
  induction CA with
  | nil => exact ⟨_, Rho.le_refl _, R, fun _ _ e => nS e⟩
  | @cons n a o cs' cells' hd _ ih =>
    have nd := List.nodup_cons.mp nd
    refine (ih (fun x hx' => hf x (.tail _ hx')) nd.2).elim fun ρ1 z => ?_
    have oc : CelV ρ1 (f n) (cm n) := by
      cases e : f n with
      | none => trivial
      | some v => exact (hf n (.head _) v e).imp fun u q => ⟨q.1, q.2.mono z.1⟩
    have off : ∀ p ∈ X ++ (cells' ++ news), p.1 ≠ a := fun p hp e => nd.1 (List.mem_map.mpr ⟨p, mem3 hp, e⟩)
    refine ⟨ρ1.upd _ a, Rho.le_trans z.1 (Rho.upd_le (z.2.1.fresh _ (Nat.le_refl _))), z.2.1.new (o := .cell (f n)) (ob := o) off (fun q => q.elim fun _ q => q.elim fun _ q => nomatch hd.symm.trans q) hx ⟨_, hd, oc⟩, fun x b e => ?_⟩
    refine lkB_hd (p := (n, (mkC (cs'.map fun z : Str × Addr => z.1) f σ).1.nx)) (r := (mkC (cs'.map fun z : Str × Addr => z.1) f σ).2) (t := fun y => Fast.sEq y x) e (fun q e => ⟨a, ?_, e ▸ Rho.upd_t⟩) fun q e => (z.2.2 x b e).imp fun ad w => ⟨?_, Rho.upd_le (z.2.1.fresh _ (Nat.le_refl _)) _ _ w.2⟩
    · rw [lookup_sEq]; exact congrArg (@Bool.rec (fun _ => Option Addr) _ (some a)) q
    · rw [lookup_sEq]; exact (congrArg (@Bool.rec (fun _ => Option Addr) (cs'.lookup x) (some a)) q).trans w.1
theorem bindL_other {kd : Str → Option NameKind} {x : Str} {l : List (Str × Value)} : ∀ {m : Str → Option Value}, x ∉ l.map (·.1) → bindL kd l m x = m x := by
  induction l with
  | nil => exact fun _ => rfl
  | cons p r ih =>
    intro m h
    have h := not_or.mp (fun q => h (List.mem_cons.mpr q))
    refine (ih h.2).trans ?_
    by_cases q : kd p.1 = some .local
    · rw [if_pos q]; exact if_neg h.1
    · rw [if_neg q]
theorem bindL_mem {kd : Str → Option NameKind} {x : Str} {u : Value} (hk : kd x = some .local) {l : List (Str × Value)} : ∀ {m : Str → Option Value}, (l.map (·.1)).Nodup → (x, u) ∈ l → bindL kd l m x = some u := by
  induction l with
  | nil => exact fun _ h => nomatch h
  | cons p r ih =>
    intro m nd h
    have nd := List.nodup_cons.mp nd
    cases h with
    | head => exact (bindL_other nd.1).trans (by rw [if_pos hk]; exact if_pos rfl)
    | tail _ h => exact ih nd.2 h
theorem bindC_other {kd : Str → Option NameKind} {x : Str} {l : List (Str × Value)} : ∀ {m : Str → Option Value}, x ∉ l.map (·.1) → bindC kd l m x = m x := by
  induction l with
  | nil => exact fun _ => rfl
  | cons p r ih =>
    intro m h
    have h := not_or.mp (fun q => h (List.mem_cons.mpr q))
    refine (ih h.2).trans ?_
    by_cases q : kd p.1 = some .local
    · rw [if_pos q]
    · rw [if_neg q]; exact if_neg h.1
theorem bindC_mem {kd : Str → Option NameKind} {x : Str} {u : Value} (hk : kd x ≠ some .local) {l : List (Str × Value)} : ∀ {m : Str → Option Value}, (l.map (·.1)).Nodup → (x, u) ∈ l → bindC kd l m x = some u := by
  induction l with
  | nil => exact fun _ h => nomatch h
  | cons p r ih =>
    intro m nd h
    have nd := List.nodup_cons.mp nd
    cases h with
    | head => exact (bindC_other nd.1).trans (by rw [if_neg hk]; exact if_pos rfl)
    | tail _ h => exact ih nd.2 h
theorem bA_t {α : Type} {b : Bool} {x y : α} (h : b = true) : bA b x y = x := congrArg (@Bool.rec (fun _ => α) y x) h
theorem bA_f {α : Type} {b : Bool} {x y : α} (h : b = false) : bA b x y = y := congrArg (@Bool.rec (fun _ => α) y x) h
theorem locOf_look {ns : Names} {x : Str} {v : V} {l : List (Str × V)} (h : lkS (locOf ns l) x = some v) : lkS ns x = some .local ∧ lkS l x = some v := by
  induction l with
  | nil => exact nS h
  | cons p r ih =>
    have tl : (Fast.sEq p.1 x = false ∨ kdIs isLoc ns p.1 = false) → lkS (locOf ns r) x = some v → lkS ns x = some .local ∧ lkS (p :: r) x = some v := fun o h =>
      have z := ih h
      ⟨z.1, bool_el (b := Fast.sEq p.1 x) (fun q => o.elim (fun f => Bool.noConfusion (q.symm.trans f)) fun f => Bool.noConfusion (f.symm.trans ((congrArg (oT · isLoc) (Fast.sEq_iff.mp q ▸ z.1) : kdIs isLoc ns p.1 = oT (some .local) isLoc)))) fun q => (lkB_f (t := fun y => Fast.sEq y x) q).trans z.2⟩
    have e : locOf ns (p :: r) = bA (kdIs isLoc ns p.1) (p :: locOf ns r) (locOf ns r) := rfl
    refine bool_el (b := kdIs isLoc ns p.1) (fun a => ?_) fun a => tl (.inr a) (by rw [e, bA_f a] at h; exact h)
    rw [e, bA_t a] at h
    exact lkB_hd h (fun q e => ⟨Fast.sEq_iff.mp q ▸ kd_loc a, (lkB_t (t := fun y => Fast.sEq y x) q).trans (congrArg some e)⟩) fun q e => tl (.inl q) e
theorem parOk_mem {ns : Names} {ps : List Str} (h : parOk ns ps = true) : ∀ x ∈ ps, lkS ns x = some .local ∨ lkS ns x = some .cell := by
  induction ps with
  | nil => exact fun _ h => nomatch h
  | cons y r ih => exact and_el h fun a b x hx => (List.mem_cons.mp hx).elim (fun e => oT_el a fun k z q => (Bool.or_eq_true_iff.mp q).elim (fun q => .inl (e ▸ isLoc_el q ▸ z)) fun q => .inr (e ▸ isCel_el q ▸ z)) (ih b x)
theorem celFirst_mem {ns : Names} {l : Names} : ∀ {acc : List Str}, celFirst ns l = true → ∀ x ∈ cellNames l acc, x ∈ acc ∨ lkS ns x = some .cell := by
  induction l with
  | nil => exact fun _ x hx => .inl hx
  | cons p r ih =>
    intro acc h x
    refine and_el h fun a b => ?_
    have e : cellNames (p :: r) acc = bA (isCel p.2) (cellNames r (p.1 :: acc)) (cellNames r acc) := rfl
    rw [e]
    refine bool_el (b := isCel p.2) (fun q => ?_) fun q => ?_
    · rw [bA_t q] at a ⊢
      exact fun hx => (ih b x hx).elim (fun hx => (List.mem_cons.mp hx).elim (fun e => .inr (e ▸ kd_cel a)) .inl) .inr
    · rw [bA_f q]; exact ih b x
theorem raiseOf_some {st : Stmt} {q : Str × Expr × Expr} (h : raiseOf st = some q) : ∃ fp p pos, st = .Raise (some (.Call (.Name q.1 fp) [q.2.1, q.2.2] [] p)) none pos := by
  refine oO_el h fun r hr h => bO_el h fun hc h => oO_el h fun e he h => oO_el h fun c hcl h => bO_el h fun hk h => oO_el h fun p hp h => oO_el h fun x hx h => ?_
  refine Option.some.inj h ▸ ⟨x.2, c.2.2.2, r.2.2, ?_⟩
  have c0 : r.2.1 = none := not_el hc fun z => by
    generalize r.2.1 = o at z
    cases o with
    | none => rfl
    | some _ => exact Bool.noConfusion z
  rw [raise_el hr, he, c0, call_el hcl, name_el hx, twoL_el hp, nilL_el hk]
theorem raise_ok {T : Tab} {c : Cd} {n m : Nat} (TT : TabOk T c.w) (hq : T.q = false) (C : Ck T.q c (n + 2)) {sc : Names} (hs : c.env.scope.names = sc) (he : ∀ e, SndE c (vcE T m sc e) (eval e c.env)) {st : Stmt} {r : Str × Expr × Expr} (hst : raiseOf st = some r) {ρ : Rho} {σ : St} {s : Shared} {X : KX} {Q : Flow → Shared → Prop} {E : Value → Shared → Prop}
    (R : Rel c ρ σ s) (h : fRaise T (eng T m) sc r σ X) (kx : ∀ ρ' σ' l u s', ρ.le ρ' → ExcRel c ρ' σ' l u s' → X l σ' → E u s')
    (kr : ∀ ρ' σ' l e de es nn vs t' t1 news s', ρ.le ρ' → RelA c ρ' σ' news s' → News c.h₀ c.L s'.heap ((e, { cls := .ref 65, dict := some de, data := .fields #[.ref t', .none, .none, .none, .bool false, .none], slots := vs }) :: (de, dictOf es nn) :: (c.X ++ news)) →
      ((∀ q ∈ (de, dictOf es nn) :: (c.X ++ news), q.1 ≠ e) ∧ ∀ q ∈ c.X ++ news, q.1 ≠ de) → LineIs c.w.params es l t1 → X l σ' → E (.ref e) s') : wpAny (MM c.w) c.A (exec st c.env) Q E s := by
  refine oB_el h fun v hv h => oB_el h fun a ha h => bB_el h fun ok h => and_el ok fun ok hk => and_el ok fun ok h4 => and_el ok fun ok h3 => and_el ok fun h1 h2 => ?_
  have hv : lkS T.glob r.1 = some (.ref 65) := hv.trans (congrArg some ((vRef_el ha).trans (congrArg Value.ref (Nat.eq_of_beq_eq_true h1))))
  refine (raiseOf_some hst).elim fun fp q => q.elim fun p q => q.elim fun pos q => R.elim fun news0 R0 => TT.cls.rec fun nm qn NN bs bm hdct sn sub ab col ddd k0 k1 k2 k3 k5 hK hcE _ _ _ => ?_
  rw [q]
  refine raise_own (K := KK c.w) (C := 65) hK hcE (C.hh hq) ?_
  refine Call_ (nameG_K R0.F C.X (topRead_of C.T) (TT.glob _ _ hv) ?_ C.hg C.hk (by unfold Env.kindOf; rw [hs]; exact lkS_lookup (kd_glo hk)) (not_dbg (not_el h2 id))) (by rfl)
  refine callWith_K (h₀ := c.h₀) C.X TT.kf ?_ (star_plain h3) (star_none (by rw [List.all_cons, h4]; rfl))
  refine spliced_more ?_ (star_plain h3)
  refine he r.2.1 ρ σ s _ X _ _ ⟨news0, R0⟩ h (fun ρ1 σ1 v1 u1 s1 le1 R1 D1 hh1 => oB_el hh1 fun l hl hh1 => ?_) kx
  refine intOf_d hl D1 fun t1 => ?_
  refine spliced_more ?_ (star_plain h4)
  refine he r.2.2 ρ1 σ1 s1 _ X _ _ R1 hh1 (fun ρ2 σ2 v2 u2 s2 le2 R2 D2 hh2 => ?_) (fun ρ2 σ2 l u s2 le2 => kx ρ2 σ2 l u s2 (Rho.le_trans le1 le2))
  refine spliced_none (R2.elim fun news2 R2 => ⟨C.X.keeps R2.F.keep, ?_⟩)
  exact TT.mkf c n rfl (hq ▸ C) s2 (c.X ++ news2) l.2 t1 u2 _ _ R2.F R2.N fun e de es nn vs t' h' tk' gl F' N' ne =>
    ⟨e, some de, _, _, _, _, _, vs, rfl, C.X.keeps F'.keep, (N' _ (.head _)).1, kr ρ2 σ2 l.2 e de es nn vs t' t1 news2 _ (Rho.le_trans le1 le2) (R2.re F' fun q hq => N' q (.tail _ (.tail _ hq))) N' ne gl hh2⟩
structure BodyOk (T : Tab) (n : Nat) (c : Cd) (sc : Names) (body : List Stmt) : Prop where
  ss : SndS c (vcSs T n sc body) (execs body c.env)
  e : ∀ e, SndE c (vcE T n sc e) (eval e c.env)
  t : ∀ e, SndT c (vcT T n sc e) (PySem.isTrue e c.env (eval e c.env))
theorem ifRaise_some {body : List Stmt} {q : Option Expr × Str × Expr × Expr} {G : Prop} (h : ifRaise body = some q) (k : ∀ r, body = [r] → q.1 = none → raiseOf r = some q.2 → G) (j : ∀ t r p, body = [.If t [r] [] p] → q.1 = some t → raiseOf r = some q.2 → G) : G := by
  refine oO_el h fun st hst h => oA_el h (fun z hz h => bO_el h fun hn h => oO_el h fun r hr h => oO_el h fun x hx h => ?_) fun h => oO_el h fun x hx h => ?_
  · rw [if_el hz, oneL_el hr, nilL_el hn] at hst
    exact j z.1 r z.2.2.2 (oneL_el hst) (congrArg Prod.fst (Option.some.inj h)).symm (hx.trans (congrArg (fun z => some z.2) (Option.some.inj h)))
  · exact k st (oneL_el hst) (congrArg Prod.fst (Option.some.inj h)).symm (hx.trans (congrArg (fun z => some z.2) (Option.some.inj h)))
noncomputable def frC (c : Cd) (A' : Around) (outer : List Env) (qual : Str) (sc : Scope) (L' : Addr) (f : Addr) (cdv : Value) (g : Heap) (bs : List (Str × Value)) : Cd :=
  { c with A := A'.deeper (envOfC qual sc L' f cdv), A₀ := A', h₀ := g, outer := outer, fenv := envOfC qual sc L' f cdv, env := envOfC qual sc L' f cdv, L := L', m := bindL (envOfC qual sc L' f cdv).kindOf bs fun _ => none, ml := bindL (envOfC qual sc L' f cdv).kindOf bs fun _ => none }
section
variable {c : Cd} {A' : Around} {outer : List Env} {qual : Str} {sc : Scope} {L' f : Addr} {cdv : Value} {g : Heap} {q : Bool} {n : Nat} {pars : List Str} {vs : List V} {us : List Value} {ρ : Rho} {σ : St} {s : Shared} {news cells : List (Addr × Obj)}
theorem kindOfC (x : Str) : (envOfC qual sc L' f cdv).kindOf x = lkS sc.names x := by unfold Env.kindOf; rw [lkS_eq]; rfl
theorem enter_ck {bs : List (Str × Value)} {m : Str → Option Value} (B' : Below A' c.base outer g) (X' : (KK c.w).In g) (T' : Top view0 (looseW view0 lo) c.mean c.mg c.mb g) (hA : A'.frames = some outer) (hh : A'.handled = none) (kd : sc.kind = .function) (hd : A'.depth + 1 + 5 * n < recursionLimit) (hu : A'.units + 3 + 30 * n + 100 < cLine) (Fg : Fr c.h₀ c.L g m) (hx : Xs c) :
    Ck q (frC c A' outer qual sc L' f cdv g bs) n := ⟨B', X', T', by show (A'.frames.map _) = _; rw [hA]; rfl, rfl, kd, fun _ => hh, rfl, rfl, kd, fun h F _ => F.ns, hd, hu, ⟨hx.ne.imp fun o e => Fg.keep _ _ e, hx.ys⟩⟩
theorem par_kinds (ok : parOk sc.names pars = true) : ((pars.zip us).all fun y => sc.names.lookup y.1 == some .local || sc.names.lookup y.1 == some .cell) = true := List.all_eq_true.mpr fun y hy => by
  rw [← lkS_eq]
  exact (parOk_mem ok y.1 (List.of_mem_zip hy).1).elim (fun e => by rw [e]; rfl) fun e => by rw [e]; rfl
theorem enter_rel {h₁ : Heap} {tk : Nat} (hx : Xs c) (RA : RelA c ρ σ news s) (D : All2 (Den ρ) vs us) (zk : ((pars.zip us).map (·.1)).Nodup) (ok : celFirst sc.names sc.names = true) (F' : Fr g L' h₁ (bindL (envOfC qual sc L' f cdv).kindOf (pars.zip us) fun _ => none)) (N' : News g L' h₁ (cells ++ (c.X ++ news)))
    (Y : CellsAre (bindC (envOfC qual sc L' f cdv).kindOf (pars.zip us) fun _ => none) (cellsFrom (L' + 1) sc.names []) cells) (hlt : ∀ p ∈ c.X ++ news, p.1 < L') : ∃ ρc, ρ.le ρc ∧ Rel (frC c A' outer qual sc L' f cdv g (pars.zip us)) ρc (enterS sc.names pars vs σ) { s with heap := h₁, toks := tk } := by
  have ad := cells_addr sc.names (L' + 1) [] (fun q hq => nomatch hq) List.nodup_nil
  have cn : (cellsFrom (L' + 1) sc.names []).map (·.1) = cellNames sc.names [] := cells_names _ _ _
  have key := cells_nm (f := lkS (zipL pars vs)) (σ := σ) hx.ys Y (fun x hx v hv => (zip_den D hv).imp fun u z => ⟨bindC_mem (by
    rw [kindOfC]
    exact (celFirst_mem ok x (cn ▸ hx)).elim (fun h => absurd h List.not_mem_nil) fun e z => nomatch e.symm.trans z) zk z.1, z.2⟩) RA.nm (by
    rw [List.map_append, cells_keys Y]
    exact List.nodup_append.mpr ⟨ad.1, RA.nd, fun a ha b hb e => (List.mem_map.mp ha).elim fun q w => (List.mem_map.mp hb).elim fun p z => Nat.ne_of_gt (Nat.lt_trans (hlt p z.1) ((ad.2 q w.1).resolve_left List.not_mem_nil)) (w.2.trans (e.trans z.2.symm))⟩)
  rw [cn] at key
  exact key.imp fun ρc z => ⟨z.1, cells ++ news, F', fun q hq => N' q (mem3 hq), z.2.1, fun x v e =>
    have lo := locOf_look e
    (zip_den D lo.2).imp fun u w => ⟨bindL_mem ((kindOfC x).trans lo.1) zk w.1, w.2.mono z.1⟩, z.2.2, Shared.re RA.sh h₁ tk⟩
end
theorem callF_okB {T : Tab} {c : Cd} {n : Nat} {f : Nat} {i : FnI} {A' : Around} {oc : Value} {od : Option Addr} {osl : Array (Option Value)} {name : Str} {params : Arguments} {dV kV doc pm : Value} {an : Option Addr} {cdv ct : Value} {args : Args} (hqT : T.q = false) (C : Ck T.q c n)
    (hK : (KK c.w).lookup f = some ⟨oc, od, .func (fnOf name i.qual params i.body i.sc dV kV doc pm an cdv ct), osl⟩) (hcd : codeIn (KK c.w) cdv i.qual = true) (nd : i.pars.Nodup) (cnd : ((cellsFrom 0 i.sc.names []).map (·.1)).Nodup) (co : i.sc.isCoroutine = false) (gen : i.sc.isGenerator = false) (kd : i.sc.kind = .function) (hA : A'.frames = some (c.fenv :: c.outer)) (hh : A'.handled = none) (hd : A'.depth ≤ c.A.depth + 1) (hu : A'.units ≤ c.A.units + 10) (h1 : 1 ≤ n)
    (TT : TabOk T c.w) (snd : ∀ c', Ck T.q c' (n - 1) → Fk c' → c'.w = c.w → c'.env.scope.names = i.sc.names → BodyOk T (n - 1) c' i.sc.names i.body)
    {ρ : Rho} {σ : St} {s : Shared} {vs : List V} {us : List Value} {K : KV} {X : KX} {R : Result → Shared → Prop} (hb : BindsTo s (fnOf name i.qual params i.body i.sc dV kV doc pm an cdv ct) args (i.pars.zip us)) (RR : Rel c ρ σ s) (D : All2 (Den ρ) vs us) (h : vcF T n i vs σ (Kback σ K) (Xback σ X))
    (k : ∀ ρ' σ' v u s', ρ.le ρ' → Rel c ρ' σ' s' → Den ρ' v u → K v σ' → R (.ok (.ret u)) s') (kx : ∀ ρ' σ' l u s', ρ.le ρ' → ExcRel c ρ' σ' l u s' → X l σ' → R (.error u) s') :
    codeAny (MM c.w) A' (.call (.ref f) args) R s := by
  cases n with
  | zero => exact absurd h1 (Nat.not_succ_le_zero 0)
  | succ n =>
  refine bB_el h fun ok h => and_el ok fun ok ok3 => and_el ok fun ok1 ok2 => RR.elim fun news RA => ?_
  have hl : us.length = i.pars.length := (den_list_length D).trans (Nat.eq_of_beq_eq_true ok1)
  have zk : ((i.pars.zip us).map (·.1)).Nodup := by rw [zip_keys hl]; exact nd
  have hdp := C.dp
  have hun := C.un
  refine code_defC C.B RA.F C.X RA.N C.T hA C.hf C.hke hK hcd (by omega) hb (par_kinds ok2) cnd (fun g L' h₁ tk cells Fg F' N' Y B' X' T' hlt => ?_) co gen kd
  let c' : Cd := frC c A' (c.fenv :: c.outer) i.qual i.sc L' f cdv g (i.pars.zip us)
  have C' : Ck T.q c' n := enter_ck B' X' T' hA hh kd (by omega) (by omega) Fg C.xs
  refine Exists.elim (p := fun ρc => ρ.le ρc ∧ Rel c' ρc (enterS i.sc.names i.pars vs σ) { s with heap := h₁, toks := tk }) (enter_rel C.xs RA D zk ok3 F' N' Y hlt) fun ρc z => ?_
  have lec := z.1
  have R' := z.2
  have B := snd c' C' ⟨rfl, rfl⟩ rfl rfl
  have fin : ∀ m' ρ' σ' fl w s', ρc.le ρ' → Rel (c'.at m') ρ' σ' s' → FlIs ρ' fl w → Kfl (Kback σ K) fl σ' → LeaveK c.h₀ c.L c.m g R (match w with | .ret v => v | _ => .none) s' := fun m' ρ' σ' fl w s' le' R2 fi h2 => R2.elim fun news2 R2 => leaveK_ R2.F R2.N fun F3 N3 => by
    have le := Rho.le_trans lec le'
    have R3 : Rel c ρ' { σ' with loc := σ.loc, cel := σ.cel } s' := ⟨news2, F3, N3, R2.nm, RA.loc.mono le, RA.cel.mono le, R2.sh⟩
    cases fi with
    | ret d => exact k ρ' _ _ _ s' le R3 d h2
    | _ => exact k ρ' _ .none _ s' le R3 rfl h2
  have fx : ∀ m' ρ' σ' l u s', ρc.le ρ' → ExcRel (c'.at m') ρ' σ' l u s' → Xback σ X l σ' → wpAny (MM c.w) c'.A (leaving c'.env u) (fun _ s'' => R (.error u) s'') (fun e' s'' => R (.error e') s'') s' := fun m' ρ' σ' l u s' le' R2 hx => by
    have le := Rho.le_trans lec le'
    refine R2.elim fun e q => q.elim fun G q => q.elim fun news2 q => ?_
    rw [q.1]
    exact leave_fault2 (K := B') rfl q.2.F q.2.fl q.2.up fun h' fl' up' => kx ρ' { σ' with loc := σ.loc, cel := σ.cel } l _ _ le ⟨e, g, news2, rfl, Fg, fl', up', q.2.nm, RA.loc.mono le, RA.cel.mono le, Shared.re q.2.sh h' s'.toks⟩ hx
  refine oE_el h (fun q hr h => bB_le h fun hn2 h => ?_) fun h => B.ss _ ρc _ _ _ _ _ _ PassesOwn.leaving R' h (fun m' ρ' σ' fl w s' le' R2 fi h2 => fin m' ρ' σ' fl w s' le' R2 fi h2) fx
  have go : ∀ (ρ1 : Rho) σ1 s1 r, ρc.le ρ1 → Rel c' ρ1 σ1 s1 → raiseOf r = some q.2 → fRaise T (eng T n) i.sc.names q.2 σ1 (Xback σ X) → ∀ Q, wpAny (MM c.w) c'.A (exec r c'.env) Q (fun e s' => wpAny (MM c.w) c'.A (leaving c'.env e) (fun _ s'' => R (.error e) s'') (fun e' s'' => R (.error e') s'') s') s1 := fun ρ1 σ1 s1 r le1 R1 hr1 h1 Q =>
    raise_ok (c := c') (n := n - 2) (m := n) TT hqT (C'.le (Nat.le_of_eq (Nat.sub_add_cancel hn2))) rfl B.e hr1 R1 h1 (fun ρ' σ' l u s' le' R2 hx => fx _ ρ' σ' l u s' (Rho.le_trans le1 le') R2 hx) fun ρ' σ' l e de es nn vs t' t1 news2 s' le' R2 N2 ne gl hx =>
      leave_fault1 (L := L') rfl kd B' R2.F N2 ne.1 ne.2 rfl rfl rfl rfl rfl gl fun h' fl' up' => kx ρ' { σ' with loc := σ.loc, cel := σ.cel } l _ _ (Rho.le_trans lec (Rho.le_trans le1 le')) ⟨e, g, news2, rfl, Fg, fl', up', R2.nm, RA.loc.mono (Rho.le_trans lec (Rho.le_trans le1 le')), RA.cel.mono (Rho.le_trans lec (Rho.le_trans le1 le')), Shared.re R2.sh h' s'.toks⟩ hx
  refine ifRaise_some hr (fun r hb e hr1 => ?_) fun t r p hb e hr1 => ?_
  · rw [hb]
    rw [e] at h
    exact wpAny_execs_cons (go ρc _ _ r ρc.le_refl R' hr1 h _)
  · rw [hb]
    rw [e] at h
    refine wpAny_execs_cons (wpAny_If (B.t t ρc _ _ _ _ _ _ R' h (fun ρ1 σ1 q s1 le1 R1 h1 => ?_) fun ρ1 σ1 l u s1 le1 R1 hx => fx _ ρ1 σ1 l u s1 le1 R1 hx))
    cases q with
    | true => rw [if_pos rfl]; exact wpAny_execs_cons (go ρ1 σ1 s1 r le1 R1 hr1 h1 _)
    | false => rw [if_neg Bool.false_ne_true]; exact wpAny_execs_nil (wpAny_execs_nil (fin _ ρ1 σ1 .next .next s1 le1 R1 .next h1))
theorem callF_ok {T : Tab} {c : Cd} {n : Nat} {f : Nat} {i : FnI} {A' : Around} (hqT : T.q = false) (C : Ck T.q c n) (FO : FnOk (KK c.w) f i) (hA : A'.frames = some (c.fenv :: c.outer)) (hh : A'.handled = none) (hd : A'.depth ≤ c.A.depth + 1) (hu : A'.units ≤ c.A.units + 10) (h1 : 1 ≤ n)
    (TT : TabOk T c.w) (snd : ∀ c', Ck T.q c' (n - 1) → Fk c' → c'.w = c.w → c'.env.scope.names = i.sc.names → BodyOk T (n - 1) c' i.sc.names i.body)
    {ρ : Rho} {σ : St} {s : Shared} {vs : List V} {us : List Value} {K : KV} {X : KX} {R : Result → Shared → Prop} (RR : Rel c ρ σ s) (D : All2 (Den ρ) vs us) (h : vcF T n i vs σ (Kback σ K) (Xback σ X))
    (k : ∀ ρ' σ' v u s', ρ.le ρ' → Rel c ρ' σ' s' → Den ρ' v u → K v σ' → R (.ok (.ret u)) s') (kx : ∀ ρ' σ' l u s', ρ.le ρ' → ExcRel c ρ' σ' l u s' → X l σ' → R (.error u) s') :
    codeAny (MM c.w) A' (.call (.ref f) ⟨us, []⟩) R s := by
  refine FO.ex.elim fun oc q => q.elim fun od q => q.elim fun osl q => q.elim fun name q => q.elim fun params q => q.elim fun kV q => q.elim fun doc q => q.elim fun pm q => q.elim fun an q => q.elim fun cdv q => q.elim fun ct q => ?_
  have hl : us.length = i.pars.length := by
    cases n with
    | zero => exact absurd h1 (Nat.not_succ_le_zero 0)
    | succ n => exact bB_el h fun ok _ => and_el ok fun ok _ => and_el ok fun ok1 _ => (den_list_length D).trans (Nat.eq_of_beq_eq_true ok1)
  refine callF_okB hqT C q.1 q.2.1 FO.nd FO.cnd FO.co FO.gen FO.kd hA hh hd hu h1 TT snd (BindsTo.of_eq ?_) RR D h k kx
  rw [← q.2.2.2]
  exact bind_plain (fd := fnOf name i.qual params i.body i.sc .none kV doc pm an cdv ct) q.2.2.1 rfl (q.2.2.2 ▸ FO.nd) (by rw [hl, ← q.2.2.2, List.length_map])
end Mine
namespace Mine
noncomputable def Cd.fz (c : Cd) (p : Addr × Obj) : Cd := { c with X := p :: c.X }
noncomputable def Cd.it (c : Cd) (p : Addr × Obj) : Cd := { c with X := p :: c.X, Y := p.1 :: c.Y }
theorem Ck.fz {q : Bool} {c : Cd} {n : Nat} (C : Ck q c n) (p : Addr × Obj) : Ck q (c.fz p) n := { C with hns := fun h F N => C.hns h F fun q hq => N q (.tail _ hq), xs := ⟨C.xs.ne, fun y hy => .tail _ (C.xs.ys y hy)⟩ }
theorem Ck.it {q : Bool} {c : Cd} {n : Nat} (C : Ck q c n) (p : Addr × Obj) : Ck q (c.it p) n := { C with hns := fun h F N => C.hns h F fun q hq => N q (.tail _ hq), xs := ⟨C.xs.ne, fun y hy => (List.mem_cons.mp hy).elim (fun e => e ▸ .head _) fun hy => .tail _ (C.xs.ys y hy)⟩ }
section
variable {P : Params} {ρ : Rho} {H H' : Hp} {X X' news news' : List (Addr × Obj)} {Y : List Addr} {a nx : Nat} {o : O} {p : Nat × O} {r : Hp}
theorem drop_t (h : Nat.beq p.1 a = true) : Mine.drop (p :: r) a = r := congrArg (@Bool.rec (fun _ => Hp) (p :: Mine.drop r a) r) h
theorem drop_f (h : Nat.beq p.1 a = false) : Mine.drop (p :: r) a = p :: Mine.drop r a := congrArg (@Bool.rec (fun _ => Hp) (p :: Mine.drop r a) r) h
theorem LedIs.drop (l : LedIs P ρ H news) : Mine.get H a = some o → ∃ ad ob nr, ρ a = some ad ∧ ObjIs P ρ o ob ∧ LedIs P ρ (Mine.drop H a) nr ∧ news.Perm ((ad, ob) :: nr) := by
  unfold LedIs at l ⊢
  induction l with
  | nil => exact nS
  | @cons p q r qs x y ih =>
    refine fun e => lkB_hd e (fun h e => ?_) fun h e => ?_
    · rw [drop_t h]; exact ⟨q.1, q.2, qs, Nat.eq_of_beq_eq_true h ▸ x.1, e ▸ x.2, y, .refl _⟩
    · rw [drop_f h]; exact (ih e).imp fun ad z => z.imp fun ob z => z.elim fun nr z => ⟨q :: nr, z.1, z.2.1, .cons x z.2.2.1, (z.2.2.2.cons q).trans (.swap _ _ _)⟩
theorem NmA.pm (R : NmA P X Y ρ H nx news) (pm : (X ++ news).Perm (X' ++ news')) (led : LedIs P ρ H' news') (sm : ∀ p ∈ news', IsD p.2 → p.1 ≠ sysModules) : NmA P X' Y ρ H' nx news' :=
  have pk := pm.map (fun x : Addr × Obj => x.1)
  ⟨pk.nodup_iff.mp R.nd, led, fun a ad e => pk.mem_iff.mp (R.rng a ad e), R.inj, R.fresh, sm, R.off⟩
theorem NmA.thaw {ad : Addr} {ob : Obj} (R : NmA P ((ad, ob) :: X) Y ρ H nx news) (ha : ρ a = some ad) (ho : ObjIs P ρ o ob) (hs : IsD ob → ad ≠ sysModules) : NmA P X Y ρ ((a, o) :: H) nx ((ad, ob) :: news) :=
  R.pm List.perm_middle.symm (.cons ⟨ha, ho⟩ R.led) fun q hq => (List.mem_cons.mp hq).elim (fun e => e ▸ hs) (R.sm q)
theorem NmA.un {p : Addr × Obj} (R : NmA P (p :: X) (p.1 :: Y) ρ H nx news) : NmA P X Y ρ H nx news :=
  ⟨(List.nodup_cons.mp R.nd).2, R.led, fun a ad e => (List.mem_cons.mp (R.rng a ad e)).elim (fun q => absurd (q ▸ .head _) (R.off a ad e)) id, R.inj, R.fresh, R.sm, fun a ad e hy => R.off a ad e (.tail _ hy)⟩
theorem NmA.on {p : Addr × Obj} (R : NmA P X Y ρ H nx news) (key : p.1 ∉ (X ++ news).map (·.1)) : NmA P (p :: X) (p.1 :: Y) ρ H nx news :=
  ⟨List.nodup_cons.mpr ⟨key, R.nd⟩, R.led, fun a ad e => .tail _ (R.rng a ad e), R.inj, R.fresh, R.sm, fun a ad e hy => (List.mem_cons.mp hy).elim (fun q => key (q ▸ R.rng a ad e)) (R.off a ad e)⟩
theorem fault_sub {base G h : Heap} {L : List Env} {e : Addr} {ln : Int} (x : Fault P base G L e ln news h) (hs : ∀ q ∈ news', q ∈ news) : Fault P base G L e ln news' h :=
  x.rec fun de es n t R oe he hd hl hn => R.elim fun B q => q.elim fun a0 q => ⟨de, es, n, t, ⟨B, a0, q.1, q.2.1, fun z hz => q.2.2.1 z ((List.mem_cons.mp hz).elim (fun e => e ▸ .head _) fun hz => .tail _ (hs z hz)), q.2.2.2⟩, oe, he, hd, hl, fun q hq => hn q (hs q hq)⟩
end
section
variable {c : Cd} {ρ : Rho} {σ : St} {s : Shared} {news : List (Addr × Obj)} {ad : Addr} {ob : Obj} {a : Nat} {o : O} {p : Addr × Obj} {l : Int} {e : Addr} {G : Heap}
theorem RelA.freeze (R : RelA c ρ σ news s) (h : get σ.H a = some o) : ∃ ad ob nr, ρ a = some ad ∧ ObjIs c.w.params ρ o ob ∧ (IsD ob → ad ≠ sysModules) ∧ RelA (c.fz (ad, ob)) ρ { σ with H := drop σ.H a } nr s :=
  (R.led.drop h).imp fun ad z => z.imp fun ob z => z.imp fun nr z =>
    have pm : (c.X ++ news).Perm ((ad, ob) :: c.X ++ nr) := (z.2.2.2.append_left c.X).trans List.perm_middle
    ⟨z.1, z.2.1, R.sm (ad, ob) (z.2.2.2.mem_iff.mpr (.head _)), R.F, fun q hq => R.N q (pm.mem_iff.mpr hq), R.nm.pm pm z.2.2.1 fun q hq => R.sm q (z.2.2.2.mem_iff.mpr (.tail _ hq)), R.loc, R.cel, R.sh⟩
theorem RelA.thaw (R : RelA (c.fz (ad, ob)) ρ σ news s) (ha : ρ a = some ad) (ho : ObjIs c.w.params ρ o ob) (hs : IsD ob → ad ≠ sysModules) : RelA c ρ { σ with H := (a, o) :: σ.H } ((ad, ob) :: news) s :=
  ⟨R.F, fun q hq => R.N q (List.perm_middle.mem_iff.mp hq), NmA.thaw R.nm ha ho hs, R.loc, R.cel, R.sh⟩
theorem RelA.on (R : RelA c ρ σ news s) (hp : s.heap.get? p.1 = some p.2 ∧ p.1 ≠ c.L ∧ c.h₀.get? p.1 = none) (hn : ∀ q ∈ c.X ++ news, q.1 ≠ p.1) : RelA (c.it p) ρ σ news s :=
  ⟨R.F, fun q hq => (List.mem_cons.mp hq).elim (fun e => e ▸ hp) (R.N q), R.nm.on fun hm => (List.mem_map.mp hm).elim fun q z => hn q z.1 z.2, R.loc, R.cel, R.sh⟩
theorem RelA.un (R : RelA (c.it p) ρ σ news s) : RelA c ρ σ news s := ⟨R.F, fun q hq => R.N q (.tail _ hq), NmA.un R.nm, R.loc, R.cel, R.sh⟩
theorem RelA.apart (R : RelA (c.it p) ρ σ news s) : ∀ q ∈ c.X ++ news, q.1 ≠ p.1 := fun q hq e => (List.nodup_cons.mp R.nm.nd).1 (List.mem_map.mpr ⟨q, hq, e⟩)
theorem ExcA.thaw (R : ExcA (c.fz (ad, ob)) ρ σ l e G news s) (ha : ρ a = some ad) (ho : ObjIs c.w.params ρ o ob) (hs : IsD ob → ad ≠ sysModules) : ExcA c ρ { σ with H := (a, o) :: σ.H } l e G ((ad, ob) :: news) s :=
  ⟨R.F, fault_sub R.fl fun q hq => List.perm_middle.mem_iff.mp hq, R.up, NmA.thaw R.nm ha ho hs, R.loc, R.cel, R.sh⟩
theorem ExcA.un (R : ExcA (c.it p) ρ σ l e G news s) : ExcA c ρ σ l e G news s := ⟨R.F, fault_sub R.fl fun q hq => .tail _ hq, R.up, NmA.un R.nm, R.loc, R.cel, R.sh⟩
end
end Mine
namespace Mine
structure Snd (T : Tab) (n : Nat) : Prop where
  e : ∀ c sc e, TabOk T c.w → Ck T.q c n → c.env.scope.names = sc → SndE c (vcE T n sc e) (eval e c.env)
  t : ∀ c sc e, TabOk T c.w → Ck T.q c n → c.env.scope.names = sc → SndT c (vcT T n sc e) (PySem.isTrue e c.env (eval e c.env))
  b : ∀ c sc op es pos whole, TabOk T c.w → Ck T.q c n → c.env.scope.names = sc → SndT c (vcB T n sc op es) (PySem.isTrue (.BoolOp op es pos) c.env whole)
  c : ∀ c f vs us, TabOk T c.w → Ck T.q c n → ∀ ρ σ s K X (Q E : Value → Shared → Prop), Rel c ρ σ s → All2 (Den ρ) vs us → vcC T n f vs σ K X →
    (∀ ρ' σ' v u s', ρ.le ρ' → Rel c ρ' σ' s' → Den ρ' v u → K v σ' → Q u s') → (∀ ρ' σ' l u s', ρ.le ρ' → ExcRel c ρ' σ' l u s' → X l σ' → E u s') → wpAny (MM c.w) c.A (call (.ref f) us) Q E s
  ss : ∀ c sc ss, TabOk T c.w → Ck T.q c n → Fk c → c.env.scope.names = sc → SndS c (vcSs T n sc ss) (execs ss c.env)
  st : ∀ c sc st, TabOk T c.w → Ck T.q c n → Fk c → c.env.scope.names = sc → SndS c (vcS T n sc st) (exec st c.env)
theorem snd_zero (T : Tab) : Snd T 0 where
  e := fun _ _ _ _ _ _ _ _ _ _ _ _ _ _ h => False.elim h
  t := fun _ _ _ _ _ _ _ _ _ _ _ _ _ _ h => False.elim h
  b := fun _ _ _ _ _ _ _ _ _ _ _ _ _ _ _ _ _ h => False.elim h
  c := fun _ _ _ _ _ _ _ _ _ _ _ _ _ _ _ h => False.elim h
  ss := fun _ _ _ _ _ _ _ _ _ _ _ _ _ _ _ _ _ h => False.elim h
  st := fun _ _ _ _ _ _ _ _ _ _ _ _ _ _ _ _ _ h => False.elim h
theorem kind_at {c : Cd} {sc : Names} {x : Str} {k : NameKind} (hs : c.env.scope.names = sc) (h : lkS sc x = some k) : c.env.kindOf x = some k := by unfold Env.kindOf; rw [hs]; exact lkS_lookup h
section
variable {T : Tab} {n : Nat}
theorem or_el {a b : Bool} {G : Prop} (h : (a || b) = true) (k : a = true → G) (j : b = true → G) : G := (Bool.or_eq_true_iff.mp h).elim k j
theorem keep_cal {w : World} (TT : TabOk T w) {f : Nat} (h : isCal T f = true) : keepIn (KK w) (.ref f) = true :=
  or_el h (fun h => oT_el h fun q e _ => (TT.spec _ _ _ e).2) fun h => or_el h (fun h => oT_el h fun q e _ => (TT.fns _ _ e).2) fun h => oT_el h fun q e _ => (TT.ini _ _ e).2
theorem den_ofK {ρ : Rho} (v : Value) : Den ρ (ofK v) v := by
  cases v <;> first | exact (rfl : _ = _) | exact ⟨_, rfl⟩
theorem name_ok (I : Snd T n) (c : Cd) (sc : Names) (x : Str) (pos : Pos) (TT : TabOk T c.w) (C : Ck T.q c (n + 1)) (hs : c.env.scope.names = sc) : SndE c (vcE T (n + 1) sc (.Name x pos)) (eval (.Name x pos) c.env) := by
  intro ρ σ s K X Q E R h k kx
  have h : eName T sc x σ K := h
  refine bB_el h fun hd h => R.elim fun news R => oB_el h fun kd hk h => bE_el h (fun e h => ?_) fun _ h => bE_el h (fun e h => ?_) fun _ h => bB_el h fun e h => ?_
  · rw [isLoc_el e] at hk
    exact oB_el h fun v hv h => (R.loc x v hv).elim fun u q => wpAny_Name (wpAny_loadName_local C.hk (kind_at hs hk) (C.hns _ R.F fun p hp => R.N p (List.mem_append_left _ hp)) q.1 (k ρ σ v u s ρ.le_refl ⟨news, R⟩ q.2 h)) (not_dbg (not_el hd id))
  · rw [isGlo_el e] at hk
    exact oB_el h fun v hv h => nameG_K R.F C.X (topRead_of C.T) (TT.glob _ _ hv) (k ρ σ (ofK v) _ s ρ.le_refl ⟨news, R⟩ (den_ofK v) h) C.hg C.hk (kind_at hs hk) (not_dbg (not_el hd id))
  · rw [isCel_el e] at hk
    refine oB_el h fun a ha h => oB_el h fun o ho h => oB_el h fun v hv h => (R.cel x a ha).elim fun ad q => ?_
    rw [hv] at ho
    exact R.lda q.2 (cell_el ho) fun ob m g o => o.elim fun cc z => z.2.elim fun u z2 => wpAny_Name (wpAny_loadName_cell C.hk (kind_at hs hk) q.1 ⟨ob, g, z.1.trans (congrArg Data.cell z2.1)⟩ (k ρ σ v u s ρ.le_refl ⟨news, R⟩ z2.2 h)) (not_dbg (not_el hd id))
theorem base_plain {o : Expr} {a : Str} {env : Env} {whole : Sem Value} : bareCall o = false → attributeBase o a env whole = whole := by
  cases o with
  | Call f as ks p =>
    cases f with
    | Name x q =>
      cases as with
      | cons _ _ => exact fun _ => rfl
      | nil =>
        cases ks with
        | cons _ _ => exact fun _ => rfl
        | nil => exact fun h => Bool.noConfusion h
    | _ => exact fun _ => rfl
  | _ => exact fun _ => rfl
theorem attr_eq {o : Expr} {f : Str} {pos : Pos} {env : Env} (h : bareCall o = false) : eval (.Attribute o f pos) env = (do
    let o_1 ← eval o env
    standAt pos.atName
    let r ← holding [o_1] (getAttr o_1 f true)
    letTemporaryGo o o_1 r
    pure r) := congrArg (fun z => (do
    let o_1 ← z
    standAt pos.atName
    let r ← holding [o_1] (getAttr o_1 f true)
    letTemporaryGo o o_1 r
    pure r : Sem Value)) (base_plain (a := f) (env := env) (whole := eval o env) h)
theorem size_small {vs : List Value} {xs : List V} {ρ : Rho} (D : All2 (Den ρ) xs vs) (h : xs.length ≤ 1000) : vs.length ≤ sizeLine := by rw [den_list_length D]; exact le1000 h
theorem list_ok (I : Snd T n) (c : Cd) (sc : Names) {es : List Expr} {pos : Pos} (TT : TabOk T c.w) (C : Ck T.q c n) (hs : c.env.scope.names = sc) (pa : es.all plainArg = true) {ρ : Rho} {σ : St} {s : Shared} {X : KX} {K : List V → St → Prop} {Q : List Value → Shared → Prop} {E : Value → Shared → Prop}
    (R : Rel c ρ σ s) (h : vcList (fun e σ K => vcE T n sc e σ K X) es [] σ K) (k : ∀ ρ' σ' xs us s', ρ.le ρ' → Rel c ρ' σ' s' → All2 (Den ρ') xs us → K xs σ' → Q us s') (kx : ∀ ρ' σ' l u s', ρ.le ρ' → ExcRel c ρ' σ' l u s' → X l σ' → E u s') :
    wpAny (MM c.w) c.A (spliced (backTo pos (starEach es c.env))) Q E s :=
  vcList_ok (ev := vcE T n sc) (fun e _ => I.e c sc e TT C hs) pa ρ σ s [] [] K Q E R .nil h k kx
theorem name_blt (c : Cd) {x : Str} {pos : Pos} {code : Nat} (TT : TabOk T c.w) (C : Ck T.q c n) (hc : lkS T.blt x = some code) (hk : c.env.kindOf x = some .globalImplicit) (hd : Fast.sEq x dbg = false) {ρ : Rho} {σ : St} {s : Shared} (R : Rel c ρ σ s) {Q : Value → Shared → Prop} {E : Value → Shared → Prop}
    (h : Q (bltVal code) s) : wpAny (MM c.w) c.A (eval (.Name x pos) c.env) Q E s :=
  have z := TT.blt _ _ hc
  have TR := topRead_of C.T
  R.elim fun news R => Name_function_global C.hk hk (loadGlobal_builtin (env := c.env) (by rw [C.hg]; exact TR.g.keeps R.F.keep) (mg_none_of C.X TR.g z.1) (by rw [C.hb]; exact TR.b.keeps R.F.keep) ((TR.builtins x z.2.2).trans z.2.1) h) (not_dbg hd)
theorem star_cons {e : Expr} {r : List Expr} {env : Env} (pa : (e :: r).all plainArg = true) : starEach (e :: r) env = (false, eval e env) :: starEach r env := star_plain ((Bool.and_eq_true _ _).mp ((List.all_cons ..).symm.trans pa)).1
theorem blt_val (code : Nat) : (∃ b, bltVal code = .builtin b) ∨ ∃ t, bltVal code = .type t := by
  cases code with
  | zero => exact .inl ⟨_, rfl⟩
  | succ c => cases c with
    | zero => exact .inr ⟨_, rfl⟩
    | succ c => cases c with
      | zero => exact .inr ⟨_, rfl⟩
      | succ c => cases c with
        | zero => exact .inr ⟨_, rfl⟩
        | succ c => cases c with
          | zero => exact .inr ⟨_, rfl⟩
          | succ c => cases c with
            | zero => exact .inl ⟨_, rfl⟩
            | succ c => exact .inr ⟨_, rfl⟩
theorem callWith_blt {M : Model} {A : Around} {E : Value → Shared → Prop} {s : Shared} {env : Env} {code : Nat} {pos : Pos} {es : List Expr} {Q : Value → Shared → Prop} (ne : es.isEmpty = false) (pa : es.all plainArg = true)
    (h : wpAny M A (spliced (backTo pos (starEach es env))) (fun vs s₁ => wpAny M A (call (bltVal code) vs) Q E s₁) E s) : wpAny M A (callWith pos (bltVal code) [] (backTo pos (starEach es env)) []) Q E s := by
  cases es with
  | nil => exact Bool.noConfusion ne
  | cons e r =>
    have hp := star_none (env := env) (pos := pos) pa
    rw [star_cons pa] at h hp ⊢
    refine (blt_val code).elim (fun q => q.elim fun b e => ?_) fun q => q.elim fun b e => ?_
    · rw [e] at h ⊢; exact Calls.callWith_builtin hp (evalArgs_plain h)
    · rw [e] at h ⊢; exact PyProof.Rows.callWith_type hp (evalArgs_plain h)
theorem bi_ok (I : Snd T n) (c : Cd) (sc : Names) {f : Str} {fp : Pos} {es : List Expr} {pos : Pos} {code : Nat} (TT : TabOk T c.w) (C : Ck T.q c n) (hs : c.env.scope.names = sc) (pa : es.all plainArg = true) (hc : lkS T.blt f = some code) (hk : kdIs isGlo sc f = true) (hd : Fast.sEq f dbg = false) (ne : es.isEmpty = false)
    {ρ : Rho} {σ : St} {s : Shared} {K : KV} {X : KX} {Q E : Value → Shared → Prop} (R : Rel c ρ σ s) (h : vcList (fun e σ K => vcE T n sc e σ K X) es [] σ fun vs σ' => vcBi T code vs σ' K)
    (k : ∀ ρ' σ' v u s', ρ.le ρ' → Rel c ρ' σ' s' → Den ρ' v u → K v σ' → Q u s') (kx : ∀ ρ' σ' l u s', ρ.le ρ' → ExcRel c ρ' σ' l u s' → X l σ' → E u s') : wpAny (MM c.w) c.A (eval (.Call (.Name f fp) es [] pos) c.env) Q E s := by
  have hk : c.env.kindOf f = some .globalImplicit := kind_at hs (kd_glo hk)
  refine Call_ (name_blt c TT C hc hk hd R ?_) (by rfl)
  refine callWith_blt ne pa (list_ok I c sc TT C hs pa R h (fun ρ1 σ1 xs us s1 le1 R1 D1 h1 => ?_) kx)
  exact vcBi_ok (fun ρ2 v σ2 u s2 le2 => k ρ2 σ2 v u s2 (Rho.le_trans le1 le2)) TT C R1 D1 h1
theorem few_ok {env : Env} {pos : Pos} {es : List Expr} (pa : es.all plainArg = true) : (backTo pos (starEach es env)).all (fun x => !x.1) = true := by
  induction es with
  | nil => rfl
  | cons e r ih => rw [star_cons pa]; exact ih ((Bool.and_eq_true _ _).mp ((List.all_cons ..).symm.trans pa)).2
theorem starEach_len {env : Env} {es : List Expr} (pa : es.all plainArg = true) : (starEach es env).length = es.length := by
  induction es with
  | nil => rfl
  | cons e r ih => rw [star_cons pa]; exact congrArg Nat.succ (ih ((Bool.and_eq_true _ _).mp ((List.all_cons ..).symm.trans pa)).2)
theorem meth_slot {m : Str} {code : Nat} (h : lkS methS m = some code) : PlainAttrs (methT code).1 ∧ Slot (methT code).1 m (methT code).2 ∧ typeOf (.builtin (methT code).2) = pure (.type "method_descriptor") := by
  refine lkB_hd h (fun q e => ?_) fun _ h => lkB_hd h (fun q e => ?_) fun _ h => lkB_hd h (fun q e => ?_) fun _ h => lkB_hd h (fun q e => ?_) fun _ h => nS h
  · rw [← e, ← Fast.sEq_iff.mp q]; exact ⟨PySem.F.plainAttrs_list, PySem.F.slot_list_append, PySem.F.type_list_append⟩
  · rw [← e, ← Fast.sEq_iff.mp q]; exact ⟨PySem.F.plainAttrs_dict, PySem.F.slot_dict_get, PySem.F.type_dict_get⟩
  · rw [← e, ← Fast.sEq_iff.mp q]; exact ⟨PySem.F.plainAttrs_dict, PySem.F.slot_dict_setdefault, PySem.F.type_dict_setdefault⟩
  · rw [← e, ← Fast.sEq_iff.mp q]; exact ⟨PySem.F.plainAttrs_str, PySem.F.slot_str_join, PySem.F.type_str_join⟩
noncomputable def TyO (ob : Obj) (code : Nat) : Prop := ob.cls = .type (methT code).1 ∧ ob.dict = none
theorem ty_dict {P : Params} {ρ : Rho} {kvs : List (Str × V)} {ob : Obj} {code : Nat} (o : DictIs P ρ kvs ob) (h : (methT code).1 = "dict") : TyO ob code := o.rec fun _ _ e _ _ _ => ⟨(congrArg Obj.cls e).trans (congrArg Value.type h.symm), congrArg Obj.dict e⟩
theorem ty_idict {ρ : Rho} {kvs : List (Int × V)} {ob : Obj} {code : Nat} (o : IDictIs ρ kvs ob) (h : (methT code).1 = "dict") : TyO ob code := o.rec fun _ _ e _ _ _ => ⟨(congrArg Obj.cls e).trans (congrArg Value.type h.symm), congrArg Obj.dict e⟩
theorem ty_list {ρ : Rho} {xs : List V} {ob : Obj} {code : Nat} (o : ListIs ρ xs ob) (h : Nat.beq code 0 = true) : TyO ob code := o.rec fun _ _ e _ => ⟨(congrArg Obj.cls e).trans (congrArg (fun c => Value.type (methT c).1) (Nat.eq_of_beq_eq_true h).symm), congrArg Obj.dict e⟩
theorem c1 {code : Nat} (h : Nat.beq code 1 = true) : (methT code).1 = "dict" := congrArg (fun c => (methT c).1) (Nat.eq_of_beq_eq_true h)
theorem c12 {code : Nat} (h : (Nat.beq code 1 || Nat.beq code 2) = true) : (methT code).1 = "dict" := or_el h c1 fun h => congrArg (fun c => (methT c).1) (Nat.eq_of_beq_eq_true h)
theorem methB_ty {P : Params} {ρ : Rho} {o : O} {ob : Obj} {code : Nat} : methB code o = true → ObjIs P ρ o ob → TyO ob code := by
  cases o with
  | dict kvs => exact fun h o => ty_dict o (c12 h)
  | idict kvs => exact fun h o => ty_idict o (c12 h)
  | list xs => exact fun h o => ty_list o h
  | pdict kvs abs b => exact fun h o => o.rec fun _ d _ _ _ => ty_dict d (c12 h)
  | pidict kvs => exact fun h o => o.rec fun _ d _ => ty_idict d (c1 h)
  | cdict B n => exact fun h o => o.rec fun _ d _ _ => ty_dict d (c1 h)
  | olist xs => exact fun h o => ty_list o h
  | _ => exact fun h => Bool.noConfusion h
theorem methOk_type {c : Cd} {ρ : Rho} {σ : St} {s : Shared} {code : Nat} {v : V} {u : Value} (R : Rel c ρ σ s) (D : Den ρ v u) (h : methOk code v σ = true) : s.TypeIs u (methT code).1 ∧ ∀ a, u = .ref a → ∃ ob, s.heap.get? a = some ob ∧ ob.dict = none := by
  refine R.elim fun news R => ?_
  unfold methOk at h
  cases hp : refO v with
  | some p =>
    rw [hp] at h
    refine ref_d hp D fun ad ea => oT_el h fun o hg h => R.lda ea hg fun ob m g q => ?_
    have z := methB_ty h q
    exact ⟨⟨_, g, z.1⟩, fun a e => ⟨ob, Value.ref.inj e ▸ g, z.2⟩⟩
  | none =>
    rw [hp] at h
    refine oT_el h fun f hf h => strK_d hf D fun t => ?_
    rw [Nat.eq_of_beq_eq_true h]
    exact ⟨typeIs_str _ _ _, fun a e => nomatch e⟩
theorem meth_ok (I : Snd T n) (c : Cd) (sc : Names) {m : Str} {o : Expr} {ap : Pos} {es : List Expr} {pos : Pos} (TT : TabOk T c.w) (C : Ck T.q c n) (hs : c.env.scope.names = sc)
    {ρ : Rho} {σ : St} {s : Shared} {K : KV} {X : KX} {Q E : Value → Shared → Prop} (R : Rel c ρ σ s) (h : eMeth (eng T n) sc o m ap es pos σ K X)
    (k : ∀ ρ' σ' v u s', ρ.le ρ' → Rel c ρ' σ' s' → Den ρ' v u → K v σ' → Q u s') (kx : ∀ ρ' σ' l u s', ρ.le ρ' → ExcRel c ρ' σ' l u s' → X l σ' → E u s') : wpAny (MM c.w) c.A (eval (.Call (.Attribute o m ap) es [] pos) c.env) Q E s := by
  refine bB_el h fun ok h => and_el ok fun ok hl => and_el ok fun ok le20 => and_el ok fun ok ne => and_el ok fun bc pa => oB_el h fun code hc h => ?_
  have z := meth_slot hc
  refine wpAny_Call_method_late (base_plain (not_el bc id)) ?_ hl rfl ?_
  · rw [few_ok pa]
    exact decide_eq_true (Nat.lt_of_le_of_lt (Nat.le_of_ble_eq_true le20) (by decide))
  refine I.e c sc o TT C hs ρ σ s _ X _ _ R h (fun ρ1 σ1 ov x s1 le1 R1 D1 h1 => bB_el h1 fun mo h1 => ?_) kx
  have y := methOk_type R1 D1 mo
  refine ⟨_, _, z.1, z.2.1, z.2.2, y.1, y.2, ?_⟩
  have L := list_ok (pos := pos) I c sc TT C hs pa R1 h1 (Q := fun vs s₁ => wpAny (MM c.w) c.A (call (.builtin (methT code).2) ([x] ++ vs)) Q E s₁) (fun ρ2 σ2 xs us s2 le2 R2 D2 h2 => vcMeth_ok (Q := Q) (E := E) (fun v σ3 u s3 R3 D3 h3 => k ρ2 σ3 v u s3 (Rho.le_trans le1 le2) R3 D3 h3) R2 (D1.mono le2) D2 h2) fun ρ2 σ2 l u s2 le2 => kx ρ2 σ2 l u s2 (Rho.le_trans le1 le2)
  cases es with
  | nil => exact Bool.noConfusion (not_el ne id)
  | cons e r =>
    have hp := star_none (env := c.env) (pos := pos) pa
    rw [star_cons pa] at L hp ⊢
    exact Calls.callWith_builtin hp (evalArgs_plain L)
theorem fold_plain {it : Expr} {env : Env} {x : Value} : plainIter it = true → foldedSetIterable it env x = pure x := by
  cases it <;> first | exact fun _ => rfl | exact fun h => Bool.noConfusion h
theorem range_some {sc : Names} {it e : Expr} (h : rangeOf T sc it = some e) : ∃ f fp pos, it = .Call (.Name f fp) [e] [] pos ∧ lkS T.blt f = some 4 ∧ lkS sc f = some .globalImplicit ∧ plainArg e = true ∧ Fast.sEq f dbg = false := by
  refine oO_el h fun q hq h => oO_el h fun f hf h => oO_el h fun a ha h => bO_el h fun ok h => and_el ok fun ok h5 => and_el ok fun ok h4 => and_el ok fun ok h3 => and_el ok fun h1 h2 => ?_
  have e' : a = e := Option.some.inj h
  refine ⟨f.1, f.2, q.2.2.2, ?_, oT_el h2 fun k a b => a.trans (congrArg some (Nat.eq_of_beq_eq_true b).symm), kd_glo h3, e' ▸ h4, not_el h5 id⟩
  rw [call_el hq, name_el hf, oneL_el ha, nilL_el h1, e']
theorem one_ok (I : Snd T n) (c : Cd) (sc : Names) {e : Expr} {pos : Pos} (TT : TabOk T c.w) (C : Ck T.q c n) (hs : c.env.scope.names = sc) (pa : plainArg e = true) {ρ : Rho} {σ : St} {s : Shared} {X : KX} {K : KV} {Q : List Value → Shared → Prop} {E : Value → Shared → Prop}
    (R : Rel c ρ σ s) (h : vcE T n sc e σ K X) (k : ∀ ρ' σ' v u s', ρ.le ρ' → Rel c ρ' σ' s' → Den ρ' v u → K v σ' → Q [u] s') (kx : ∀ ρ' σ' l u s', ρ.le ρ' → ExcRel c ρ' σ' l u s' → X l σ' → E u s') :
    wpAny (MM c.w) c.A (spliced (backTo pos (starEach [e] c.env))) Q E s := by
  refine spliced_more ?_ (star_plain pa)
  exact I.e c sc e TT C hs ρ σ s K X _ _ R h (fun ρ1 σ1 v u s1 le1 R1 D1 h1 => spliced_none (k ρ1 σ1 v u s1 le1 R1 D1 h1)) kx
theorem range_size (k : Nat) : Builtin.Range.rangeSize 0 (Int.ofNat k) 1 = (k : Int) := by
  unfold Builtin.Range.rangeSize
  rw [if_pos (by decide)]
  by_cases h : 0 < k
  · rw [if_pos (by show (0 : Int) < (k : Int); omega)]
    show ((k : Int) - 0 - 1) / 1 + 1 = k
    omega
  · rw [if_neg (by show ¬ (0 : Int) < (k : Int); omega)]
    omega
theorem fits_long {i : Int} (h0 : 0 ≤ i) (h1 : i ≤ 2000) : Builtin.Range.rangeFitsLong i = true := by
  unfold Builtin.Range.rangeFitsLong
  rw [Bool.and_eq_true]
  exact ⟨decide_eq_true (by omega), decide_eq_true (by omega)⟩
theorem range_small {k : Nat} (h : k ≤ 1000) : Builtin.Range.small 0 (Int.ofNat k) 1 = true := by
  unfold Builtin.Range.small
  rw [range_size]
  have e : Int.ofNat k = (k : Int) := rfl
  rw [e, if_pos (by decide), fits_long (i := 0) (by decide) (by decide), fits_long (i := 1) (by decide) (by decide), fits_long (i := (k : Int)) (by omega) (by omega), fits_long (i := (k : Int) + (1 - 1)) (by omega) (by omega)]
  cases ((k : Int) == 0) <;> rfl
end
end Mine
namespace Mine
theorem relabel_names {sc : Names} {env : Env} (hs : env.scope.names = sc) (hk : env.scope.kind = .function) (s : Scope) : (relabel s env).names = relN sc s.names := by
  show s.names.map _ = _
  induction s.names with
  | nil => rfl
  | cons p r ih =>
    obtain ⟨n, k⟩ := p
    rw [List.map_cons, ih]
    show _ = bA (isFree k && oT (lkS sc n) isCel) (n, .cell) (n, k) :: relN sc r
    congr 1
    have e : env.kindOf n = lkS sc n := by unfold Env.kindOf; rw [hs, lkS_eq]
    simp only [e, hk]
    generalize lkS sc n = o
    cases k with
    | free =>
      cases o with
      | none => rfl
      | some z => cases z <;> rfl
    | _ => rfl
noncomputable def closL (ns : Names) (f : Str → Option Addr) (acc : List (Str × Addr)) : List (Str × Addr) := @List.rec (Str × NameKind) (fun _ => List (Str × Addr) → List (Str × Addr)) (fun acc => acc) (fun p _ ih acc => bA (isFree p.2) (@Option.rec Addr (fun _ => List (Str × Addr)) (ih acc) (fun a => ih ((p.1, a) :: acc)) (f p.1)) (ih acc)) ns acc
noncomputable def cellsAt (env : Env) (n : Str) : Option Addr := env.cells.lookup n
theorem clos_pure {env : Env} (ns : Names) : ∀ (acc : List (Str × Addr)), (∀ p ∈ ns, p.2 = .free → ∃ a, env.cells.lookup p.1 = some a) →
    (forIn ns acc (fun x r => do if x.2 == NameKind.free then (do let a ← cellOf env x.1; pure (ForInStep.yield ((x.1, a) :: r))) else pure (ForInStep.yield r)) : Sem (List (Str × Addr))) = pure (closL ns (cellsAt env) acc) := by
  induction ns with
  | nil => exact fun _ _ => rfl
  | cons p r ih =>
    intro acc h
    rw [List.forIn_cons]
    obtain ⟨n, k⟩ := p
    cases k with
    | free =>
      obtain ⟨a, e⟩ := h _ (.head _) rfl
      have e : env.cells.lookup n = some a := e
      have e2 : cellOf env n = pure a := by unfold cellOf; rw [e]
      show (do let r ← (do let a ← cellOf env n; pure (ForInStep.yield ((n, a) :: acc))); _) = _
      rw [e2]
      refine (ih ((n, a) :: acc) fun q hq => h q (.tail _ hq)).trans ?_
      show _ = pure (@Option.rec Addr (fun _ => List (Str × Addr)) (closL r (cellsAt env) acc) (fun a => closL r (cellsAt env) ((n, a) :: acc)) (cellsAt env n))
      rw [show cellsAt env n = some a from e]
    | _ => exact ih acc fun q hq => h q (.tail _ hq)
theorem clos_eq {env : Env} {s : Scope} (h : ∀ p ∈ s.names, p.2 = .free → ∃ a, env.cells.lookup p.1 = some a) : closureFor s env = pure (closL s.names (cellsAt env) []) := by
  unfold closureFor
  have := clos_pure (env := env) s.names [] h
  simp only [bind_pure_comp] at this ⊢
  rw [this]
  rfl
theorem closL_look {f : Str → Option Addr} {x : Str} {a : Addr} (hf : f x = some a) (ns : Names) : ∀ (acc : List (Str × Addr)), (lkS acc x = some a ∨ ∃ p ∈ ns, p.1 = x ∧ p.2 = .free) → (∀ y, lkS acc x = some y → y = a) → lkS (closL ns f acc) x = some a := by
  induction ns with
  | nil => exact fun acc h _ => h.elim id fun h => h.elim fun p h => nomatch h.1
  | cons p r ih =>
    intro acc h u
    have e : closL (p :: r) f acc = bA (isFree p.2) (@Option.rec Addr (fun _ => List (Str × Addr)) (closL r f acc) (fun a => closL r f ((p.1, a) :: acc)) (f p.1)) (closL r f acc) := rfl
    have skip : (p.1 = x → p.2 = .free → False) → lkS (closL r f acc) x = some a := fun no => ih acc (h.imp id fun h => h.imp fun q z => ⟨(List.mem_cons.mp z.1).elim (fun (e : q = p) => (no (e ▸ z.2.1) (e ▸ z.2.2)).elim) id, z.2⟩) u
    rw [e]
    refine bool_el (b := isFree p.2) (fun q => ?_) fun q => ?_
    · rw [bA_t q]
      cases z : f p.1 with
      | none => exact skip fun e _ => nS (z.symm.trans (e ▸ hf))
      | some b =>
        show lkS (closL r f ((p.1, b) :: acc)) x = some a
        refine bool_el (b := Fast.sEq p.1 x) (fun w => ?_) fun w => ?_
        · have eb : b = a := Option.some.inj (z.symm.trans (Fast.sEq_iff.mp w ▸ hf))
          have l1 : lkS ((p.1, b) :: acc) x = some a := (lkB_t (p := (p.1, b)) (t := fun y => Fast.sEq y x) w).trans (congrArg some eb)
          exact ih _ (.inl l1) fun y hy => Option.some.inj (hy.symm.trans l1)
        · have l1 : lkS ((p.1, b) :: acc) x = lkS acc x := lkB_f (p := (p.1, b)) (t := fun y => Fast.sEq y x) w
          exact ih _ (h.imp (fun h => l1.trans h) fun h => h.imp fun q y => ⟨(List.mem_cons.mp y.1).elim (fun (e : q = p) => (sEq_f w (e ▸ y.2.1)).elim) id, y.2⟩) fun y hy => u y (l1.symm.trans hy)
    · rw [bA_f q]
      exact skip fun _ e => Bool.noConfusion (q.symm.trans (congrArg isFree e))
theorem freesIn_mem {sc : Names} {cel : List (Str × Nat)} {ns : Names} (h : freesIn sc cel ns = true) : ∀ p ∈ ns, p.2 = .free → ∃ a, lkS cel p.1 = some a := by
  induction ns with
  | nil => exact fun _ h => nomatch h
  | cons q r ih =>
    refine and_el h fun a b p hp e => (List.mem_cons.mp hp).elim (fun z => ?_) fun hp => ih b p hp e
    subst z
    rw [e] at a
    exact and_el a fun _ w => oT_el w fun x y _ => ⟨x, y⟩
theorem celOf_look {cel : List (Str × Nat)} {x : Str} {a : Nat} {ns : Names} (h : lkS (celOf cel ns) x = some a) : lkS cel x = some a ∧ ∃ p ∈ ns, p.1 = x ∧ p.2 = .free := by
  induction ns with
  | nil => exact nS h
  | cons q r ih =>
    have tl : lkS (celOf cel r) x = some a → lkS cel x = some a ∧ ∃ p ∈ q :: r, p.1 = x ∧ p.2 = .free := fun h => ⟨(ih h).1, (ih h).2.imp fun p z => ⟨.tail _ z.1, z.2⟩⟩
    have e : celOf cel (q :: r) = bA (isFree q.2) (@Option.rec Nat (fun _ => List (Str × Nat)) (celOf cel r) (fun a => (q.1, a) :: celOf cel r) (lkS cel q.1)) (celOf cel r) := rfl
    rw [e] at h
    refine bool_el (b := isFree q.2) (fun w => ?_) fun w => ?_
    · rw [bA_t w] at h
      cases z : lkS cel q.1 with
      | none => rw [z] at h; exact tl h
      | some b =>
        rw [z] at h
        exact lkB_hd h (fun w' y => ⟨Fast.sEq_iff.mp w' ▸ z.trans (congrArg some y), q, .head _, Fast.sEq_iff.mp w', isFree_el w⟩) fun _ y => tl y
    · rw [bA_f w] at h
      exact tl h
theorem locFirst_mem {ns : Names} {l : Names} (h : locFirst ns l = true) : ∀ p ∈ l, p.2 = .local → ns.lookup p.1 = some .local := by
  induction l with
  | nil => exact fun _ h => nomatch h
  | cons q r ih =>
    refine and_el h fun a b p hp e => (List.mem_cons.mp hp).elim (fun z => ?_) fun hp => ih b p hp e
    subst z
    rw [e] at a
    exact lkS_lookup (kd_loc a)
end Mine
namespace Mine
noncomputable def Cd.cm (c : Cd) (scope : Scope) (cl : List (Str × Addr)) (m₂ : Str → Option Value) (pI pC pD : Addr × Obj) : Cd := { ((c.it pD).it pC).it pI with env := compEnvC scope cl pC.1 c.env, ml := m₂ }
section
variable {T : Tab} {n : Nat} {c : Cd} {scope : Scope} {cl : List (Str × Addr)} {m₂ : Str → Option Value} {pI pC pD : Addr × Obj} {ρ : Rho} {σ : St} {news : List (Addr × Obj)} {s : Shared}
theorem Ck.cm {q : Bool} (C : Ck q c n) (hC : LCg.NsObj pC.2 m₂) (hk : scope.kind = .function) : Ck q (c.cm scope cl m₂ pI pC pD) n :=
  { C with hg := C.hg, hb := C.hb, hk := hk, hns := fun h _ N => hC.ns (N pC (.tail _ (.head _))).1, xs := ⟨(((C.it pD).it pC).it pI).xs.ne, (((C.it pD).it pC).it pI).xs.ys⟩ }
theorem RelA.comp {x : Str} {v : V} {u : Value} {cel' : List (Str × Nat)} (R : RelA c ρ σ news s) (Nw : News c.h₀ c.L s.heap (pI :: pC :: pD :: (c.X ++ news))) (off : LCg.Off3 pI.1 pC.1 pD.1 (c.X ++ news)) (ne : (@Ne Nat pI.1 pC.1) ∧ (@Ne Nat pI.1 pD.1) ∧ (@Ne Nat pC.1 pD.1))
    (hx : m₂ x = some u) (d : Den ρ v u) (hc : CelIs ρ cel' cl) : RelA (c.cm scope cl m₂ pI pC pD) ρ { σ with loc := [(x, v)], cel := cel' } news s := by
  have R1 := R.on (p := pD) (Nw pD (.tail _ (.tail _ (.head _)))) fun q hq => (off.mem q hq).2.2
  have R2 := R1.on (p := pC) (Nw pC (.tail _ (.head _))) fun q hq => (List.mem_cons.mp hq).elim (fun e => e ▸ Ne.symm ne.2.2) fun hq => (off.mem q hq).2.1
  have R3 := R2.on (p := pI) (Nw pI (.head _)) fun q hq => (List.mem_cons.mp hq).elim (fun e => e ▸ Ne.symm ne.1) fun hq => (List.mem_cons.mp hq).elim (fun e => e ▸ Ne.symm ne.2.1) fun hq => (off.mem q hq).1
  exact ⟨R3.F, R3.N, R3.nm, fun y w e => lkB_hd (p := (x, v)) e (fun q e => ⟨u, Fast.sEq_iff.mp q ▸ hx, e ▸ d⟩) fun _ e => nS e, hc, R3.sh⟩
theorem RelA.uncomp {loc0 : List (Str × V)} {cel0 : List (Str × Nat)} (R : RelA (c.cm scope cl m₂ pI pC pD) ρ σ news s) (hl : LocIs ρ loc0 c.ml) (hc : CelIs ρ cel0 c.env.cells) : RelA c ρ { σ with loc := loc0, cel := cel0 } news s := by
  have R3 : RelA (((c.it pD).it pC).it pI) ρ { σ with loc := loc0, cel := cel0 } news s := ⟨R.F, R.N, R.nm, hl, hc, R.sh⟩
  exact R3.un.un.un
theorem off_of {I C D : Addr} {l : List (Addr × Obj)} (h : (I :: C :: D :: l.map (·.1)).Nodup) : LCg.Off3 I C D l := by
  rw [List.nodup_cons, List.nodup_cons, List.nodup_cons] at h
  refine LCg.Off3.of fun p hp => ⟨fun e => ?_, fun e => ?_, fun e => ?_⟩
  · exact h.1 (e ▸ .tail _ (.tail _ (List.mem_map_of_mem hp)))
  · exact h.2.1 (e ▸ .tail _ (List.mem_map_of_mem hp))
  · exact h.2.2.1 (e ▸ List.mem_map_of_mem hp)
theorem cel_block {ns : Names} (R : CelIs ρ σ.cel c.env.cells) : CelIs ρ (celOf σ.cel ns) (closL ns (cellsAt c.env) []) := fun x a e => by
  have z := celOf_look e
  exact (R x a z.1).imp fun ad q => ⟨lkS_eq.symm.trans (closL_look (f := cellsAt c.env) q.1 ns [] (.inr z.2) fun y h => nS h), q.2⟩
theorem drop_next {α : Type} {xs0 : List α} {i : Nat} {z : α} {r : List α} (h : xs0.drop i = z :: r) : nthV xs0 i = some z ∧ xs0.drop (i + 1) = r := by
  induction xs0 generalizing i with
  | nil => simp at h
  | cons a l ih =>
    cases i with
    | zero => cases h; exact ⟨rfl, rfl⟩
    | succ i => exact ih (i := i) h
theorem state_eq {s₀ s s2 : Shared} {h' : Heap} {tk : Nat} (e1 : ({ s with heap := h', toks := tk } : Shared) = { s₀ with heap := h', toks := tk }) (e2 : s2 = { s₀ with heap := s2.heap, toks := s2.toks }) : s2 = { s with heap := s2.heap, toks := s2.toks } := by
  rw [e2]
  show ({ s₀ with heap := s2.heap, toks := s2.toks } : Shared) = { ({ s with heap := h', toks := tk } : Shared) with heap := s2.heap, toks := s2.toks }
  rw [e1]
end
section
variable {T : Tab} {n : Nat}
theorem comp_rest (I : Snd T n) (c : Cd) (sc : Names) (scope : Scope) (x : Str) (elt : Expr) (TT : TabOk T c.w) (C : Ck T.q c n) (hs : c.env.scope.names = sc) (hkind : scope.kind = .function) {S : List (Addr × Obj) → Prop} {P : Nat → Value → Prop} {Fin : List Value → List (Addr × Obj) → Prop} {K : List V → St → Prop} {s : Shared} {xs0 : List V} {ρ₀ : Rho} {loc0 : List (Str × V)} {cel0 : List (Str × Nat)}
    (hS : ∀ news, S (c.X ++ news)) (hP : ∀ i v z, P i v → nthV xs0 i = some z → ∀ ρ : Rho, ρ₀.le ρ → Den ρ z v)
    (hfin : ∀ ρ σ news ys us h t, ρ₀.le ρ → RelA c ρ σ news { s with heap := h, toks := t } → All2 (Den ρ) ys us → K ys σ → Fin us (c.X ++ news)) :
    ∀ (k i : Nat) (xs acc : List V) (us : List Value) (ρ : Rho) (σ : St) (news : List (Addr × Obj)) (h₁ : Heap) (t₁ : Nat), xs0.drop i = xs → xs.length = k → ρ₀.le ρ → σ.loc = loc0 → σ.cel = cel0 → All2 (Den ρ) acc.reverse us → RelA c ρ σ news { s with heap := h₁, toks := t₁ } →
      vcLC (fun σ K => K true σ) (fun σ K => vcE T n (relN sc scope.names) elt σ K fun _ _ => False) x (celOf cel0 scope.names) loc0 cel0 xs acc σ K →
      LCg.CompRest PR c.w c.A c.h₀ c.L c.m c.env elt x scope (closL scope.names (cellsAt c.env) []) s S P Fin k i us (c.X ++ news) := by
  intro k
  induction k with
  | zero =>
    intro i xs acc us ρ σ news h₁ t₁ hd hl le e1 e2 D R h
    obtain rfl : xs = [] := List.eq_nil_of_length_eq_zero hl
    exact LCg.CompRest.zero (hfin ρ σ news _ us h₁ t₁ le R D h)
  | succ k ih =>
    intro i xs acc us ρ σ news h₁ t₁ hd hl le e1 e2 D R h
    cases xs with
    | nil => cases hl
    | cons z r =>
      obtain ⟨hn, hd'⟩ := drop_next hd
      refine LCg.CompRest.succ fun v Ia oI Ca oC Da m₂ h' tk E' hv hC hx F N off ne => ?_
      have R1 : RelA c ρ σ news { s with heap := h', toks := tk } := R.re F fun q hq => N q (.tail _ (.tail _ (.tail _ hq)))
      have cb : CelIs ρ (celOf cel0 scope.names) (closL scope.names (cellsAt c.env) []) := e2 ▸ cel_block R.cel
      have R2 := R1.comp (pI := (Ia, oI)) (pC := (Ca, oC)) (pD := (Da, LCg.lst us)) (scope := scope) (cl := closL scope.names (cellsAt c.env) []) N off ne hx (hP i v z hv hn ρ le) cb
      have h : vcE T n (relN sc scope.names) elt { σ with loc := [(x, z)], cel := celOf cel0 scope.names } _ _ := h
      refine I.e (c.cm scope _ m₂ (Ia, oI) (Ca, oC) (Da, LCg.lst us)) (relN sc scope.names) elt TT (C.cm hC hkind) (relabel_names hs C.hk scope) ρ _ _ _ _ _ E' ⟨news, R2⟩ h (fun ρ2 σ2 y u s2 le2 R3 D2 h2 => ?_) (fun _ _ _ _ _ _ _ f => f.elim)
      obtain ⟨news2, R3⟩ := R3
      have R4 := R3.uncomp (loc0 := loc0) (cel0 := cel0) (e1 ▸ R.loc.mono le2) (e2 ▸ R.cel.mono le2)
      have e3 := state_eq (s := s) R1.sh R3.sh
      refine ⟨s2.heap, s2.toks, c.X ++ news2, e3, R3.F, R3.N, off_of R3.nm.nd, hS news2, ?_⟩
      refine ih (i + 1) r (y :: acc) (us ++ [u]) ρ2 _ news2 s2.heap s2.toks hd' (Nat.succ.inj hl) (Rho.le_trans le le2) rfl rfl ?_ (by rw [← e3]; exact R4) h2
      rw [List.reverse_cons]
      exact (D.mono fun _ _ z => z.mono le2).append (.cons D2 .nil)
theorem comp_restT (I : Snd T n) (c : Cd) (sc : Names) (scope : Scope) (x : Str) (ct elt : Expr) (TT : TabOk T c.w) (C : Ck T.q c n) (hs : c.env.scope.names = sc) (hkind : scope.kind = .function) {S : List (Addr × Obj) → Prop} {P : Nat → Value → Prop} {Fin : List Value → List (Addr × Obj) → Prop} {K : List V → St → Prop} {s : Shared} {xs0 : List V} {ρ₀ : Rho} {loc0 : List (Str × V)} {cel0 : List (Str × Nat)}
    (hS : ∀ news, S (c.X ++ news)) (hP : ∀ i v z, P i v → nthV xs0 i = some z → ∀ ρ : Rho, ρ₀.le ρ → Den ρ z v)
    (hfin : ∀ ρ σ news ys us h t, ρ₀.le ρ → RelA c ρ σ news { s with heap := h, toks := t } → All2 (Den ρ) ys us → K ys σ → Fin us (c.X ++ news)) :
    ∀ (k i : Nat) (xs acc : List V) (us : List Value) (ρ : Rho) (σ : St) (news : List (Addr × Obj)) (h₁ : Heap) (t₁ : Nat), xs0.drop i = xs → xs.length = k → ρ₀.le ρ → σ.loc = loc0 → σ.cel = cel0 → All2 (Den ρ) acc.reverse us → RelA c ρ σ news { s with heap := h₁, toks := t₁ } →
      vcLC (fun σ K => vcT T n (relN sc scope.names) ct σ K fun _ _ => False) (fun σ K => vcE T n (relN sc scope.names) elt σ K fun _ _ => False) x (celOf cel0 scope.names) loc0 cel0 xs acc σ K →
      LCt.CompRestT PR c.w c.A c.h₀ c.L c.m c.env ct elt x scope (closL scope.names (cellsAt c.env) []) s S P Fin k i us (c.X ++ news) := by
  intro k
  induction k with
  | zero =>
    intro i xs acc us ρ σ news h₁ t₁ hd hl le e1 e2 D R h
    obtain rfl : xs = [] := List.eq_nil_of_length_eq_zero hl
    exact LCt.CompRestT.zero (hfin ρ σ news _ us h₁ t₁ le R D h)
  | succ k ih =>
    intro i xs acc us ρ σ news h₁ t₁ hd hl le e1 e2 D R h
    cases xs with
    | nil => cases hl
    | cons z r =>
      obtain ⟨hn, hd'⟩ := drop_next hd
      refine LCt.CompRestT.succ fun v Ia oI Ca oC Da m₂ h' tk E' hv hC hx F N off ne => ?_
      have R1 : RelA c ρ σ news { s with heap := h', toks := tk } := R.re F fun q hq => N q (.tail _ (.tail _ (.tail _ hq)))
      have cb : CelIs ρ (celOf cel0 scope.names) (closL scope.names (cellsAt c.env) []) := e2 ▸ cel_block R.cel
      have R2 := R1.comp (pI := (Ia, oI)) (pC := (Ca, oC)) (pD := (Da, LCg.lst us)) (scope := scope) (cl := closL scope.names (cellsAt c.env) []) N off ne hx (hP i v z hv hn ρ le) cb
      have CC := C.cm (pI := (Ia, oI)) (pC := (Ca, oC)) (pD := (Da, LCg.lst us)) (cl := closL scope.names (cellsAt c.env) []) hC hkind
      have h : vcT T n (relN sc scope.names) ct { σ with loc := [(x, z)], cel := celOf cel0 scope.names } _ _ := h
      refine I.t (c.cm scope (closL scope.names (cellsAt c.env) []) m₂ (Ia, oI) (Ca, oC) (Da, LCg.lst us)) (relN sc scope.names) ct TT CC (relabel_names hs C.hk scope) ρ _ _ _ _ _ E' ⟨news, R2⟩ h (fun ρ1 σ1 b s1 le1 R3 h1 => ?_) (fun _ _ _ _ _ _ _ f => f.elim)
      have fin : ∀ ρ2 σ2 s2 ys us', ρ1.le ρ2 → Rel (c.cm scope (closL scope.names (cellsAt c.env) []) m₂ (Ia, oI) (Ca, oC) (Da, LCg.lst us)) ρ2 σ2 s2 → All2 (Den ρ2) ys.reverse us' → vcLC (fun σ K => vcT T n (relN sc scope.names) ct σ K fun _ _ => False) (fun σ K => vcE T n (relN sc scope.names) elt σ K fun _ _ => False) x (celOf cel0 scope.names) loc0 cel0 r ys { σ2 with loc := loc0, cel := cel0 } K →
          ∃ h'' tk' news', s2 = { ({ s with heap := h', toks := tk } : Shared) with heap := h'', toks := tk' } ∧ Fr c.h₀ c.L h'' c.m ∧ News c.h₀ c.L h'' ((Ia, oI) :: (Ca, oC) :: (Da, LCg.lst us) :: news') ∧ LCg.Off3 Ia Ca Da news' ∧ S news' ∧ LCt.CompRestT PR c.w c.A c.h₀ c.L c.m c.env ct elt x scope (closL scope.names (cellsAt c.env) []) s S P Fin k (i + 1) us' news' := fun ρ2 σ2 s2 ys us' le2 R5 D5 h5 => by
        obtain ⟨news2, R5⟩ := R5
        have le' := Rho.le_trans le1 le2
        have R6 := R5.uncomp (loc0 := loc0) (cel0 := cel0) (e1 ▸ R.loc.mono le') (e2 ▸ R.cel.mono le')
        have e3 := state_eq (s := s) R1.sh R5.sh
        exact ⟨s2.heap, s2.toks, c.X ++ news2, e3, R5.F, R5.N, off_of R5.nm.nd, hS news2, ih (i + 1) r ys us' ρ2 _ news2 s2.heap s2.toks hd' (Nat.succ.inj hl) (Rho.le_trans le le') rfl rfl D5 (by rw [← e3]; exact R6) h5⟩
      cases b with
      | true =>
        rw [if_pos rfl]
        refine I.e (c.cm scope (closL scope.names (cellsAt c.env) []) m₂ (Ia, oI) (Ca, oC) (Da, LCg.lst us)) (relN sc scope.names) elt TT CC (relabel_names hs C.hk scope) ρ1 σ1 s1 _ _ _ E' R3 h1 (fun ρ2 σ2 y u s2 le2 R5 D2 h2 => ?_) (fun _ _ _ _ _ _ _ f => f.elim)
        refine fin ρ2 σ2 s2 (y :: acc) (us ++ [u]) le2 R5 ?_ h2
        rw [List.reverse_cons]
        exact (D.mono fun _ _ z => z.mono (Rho.le_trans le1 le2)).append (.cons D2 .nil)
      | false =>
        rw [if_neg Bool.false_ne_true]
        exact fin ρ1 σ1 s1 acc us ρ1.le_refl R3 (D.mono fun _ _ z => z.mono le1) h1
end
end Mine
namespace Mine
section
variable {T : Tab} {n : Nat}
inductive Done (c : Cd) (ρ : Rho) (K : KV) (s₂ : Shared) (us : List Value) (all : List (Addr × Obj)) : Prop
  | mk (ρ' : Rho) (σ' : St) (ys : List V) (nl : List (Addr × Obj)) (h : Heap) (t : Nat) (le : ρ.le ρ') (D : All2 (Den ρ') ys us) (hK : K (.ref σ'.nx) (σ'.new (.list ys))) (sub : ∀ q ∈ c.X ++ nl, q ∈ all) (R : RelA c ρ' σ' nl { s₂ with heap := h, toks := t })
theorem off1_ne {D : Addr} {l : List (Addr × Obj)} (h : LCg.Off1 D l) : ∀ p ∈ l, p.1 ≠ D := by
  induction l with
  | nil => exact fun _ hp => nomatch hp
  | cons a r ih => exact fun p hp => (List.mem_cons.mp hp).elim (fun e => e ▸ h.1) (ih h.2 p)
theorem notD_lst {us : List Value} : ¬ IsD (LCg.lst us) := fun ⟨_, _, e⟩ => nomatch e
theorem Done.new {c : Cd} {ρ : Rho} {K : KV} {s₂ : Shared} {us : List Value} {all : List (Addr × Obj)} (hx : Xs c) (d : Done c ρ K s₂ us all) {D : Addr} {h : Heap} {tk : Nat} (F : Fr c.h₀ c.L h c.m) (N : News c.h₀ c.L h ((D, LCg.lst us) :: all)) (off : LCg.Off1 D all) :
    ∃ ρ' σ', ρ.le ρ' ∧ Rel c ρ' σ' { s₂ with heap := h, toks := tk } ∧ ∃ v, Den ρ' v (.ref D) ∧ K v σ' := by
  refine d.rec fun ρ' σ' ys nl h₁ t₁ le D2 hK sub R => ?_
  have R1 : RelA c ρ' σ' nl { s₂ with heap := h, toks := tk } := R.re F fun q hq => N q (.tail _ (sub q hq))
  exact ⟨ρ'.upd _ D, _, Rho.le_trans le (Rho.upd_le (R.fresh _ (Nat.le_refl _))), ⟨_, R1.new (t := tk) (o := .list ys) (ob := LCg.lst us) (h' := h) F (fun q hq => (List.mem_cons.mp hq).elim (fun e => e ▸ N _ (.head _)) fun hq => N q (.tail _ (sub q hq))) (fun p hp => off1_ne off p (sub p hp)) (fun q => (notD_lst q).elim) hx ⟨us.toArray, us.length, rfl, D2⟩⟩, .ref σ'.nx, ⟨D, Rho.upd_t, rfl⟩, hK⟩
theorem Done.asg {c : Cd} {m : Str → Option Value} {ρ : Rho} {y : Str} {K : St → Prop} {s₂ : Shared} {us : List Value} {all : List (Addr × Obj)} (hx : Xs c) (d : Done (c.at m) ρ (fun v σ' => K { σ' with loc := putS σ'.loc y v }) s₂ us all) (hp : ∀ {ρ : Rho} {loc : List (Str × V)} {m : Str → Option Value} {v : V} {u : Value}, LocIs ρ loc m → Den ρ v u → LocIs ρ (putS loc y v) fun z => if z = y then some u else m z)
    {D : Addr} {h : Heap} {tk : Nat} (F : Fr c.h₀ c.L h fun z => if z = y then some (.ref D) else m z) (N : News c.h₀ c.L h ((D, LCg.lst us) :: all)) (off : LCg.Off1 D all) :
    ∃ ρ' σ' m', ρ.le ρ' ∧ Rel (c.at m') ρ' σ' { s₂ with heap := h, toks := tk } ∧ K σ' := by
  refine d.rec fun ρ' σ' ys nl h₁ t₁ le D2 hK sub R => ?_
  have le2 : ρ'.le (ρ'.upd σ'.nx D) := Rho.upd_le (R.fresh _ (Nat.le_refl _))
  refine ⟨ρ'.upd σ'.nx D, { σ'.new (.list ys) with loc := putS σ'.loc y (.ref σ'.nx) }, fun z => if z = y then some (.ref D) else m z, Rho.le_trans le le2, ⟨(D, LCg.lst us) :: nl, F, fun q hq => ?_, R.nm.new (o := .list ys) (fun p hp => off1_ne off p (sub p hp)) (fun q => (notD_lst q).elim) hx.ys ⟨us.toArray, us.length, rfl, D2⟩, hp (v := .ref σ'.nx) (u := .ref D) (R.loc.mono le2) ⟨D, Rho.upd_t, rfl⟩, R.cel.mono le2, Shared.re R.sh h tk⟩, hK⟩
  exact (List.mem_cons.mp (List.perm_middle.mem_iff.mp hq)).elim (fun e => e ▸ N _ (.head _)) fun hq => N q (.tail _ (sub q hq))
inductive CompF (sc : Names) (cel : List (Str × Nat)) (x : Str) (s : Scope) : Prop
  | mk (hk : s.kind = .function) (h1 : ∀ y ∈ s.names, y.2 ≠ .cell) (h2 : ∀ y ∈ s.names, y.2 = .local → s.names.lookup y.1 = some .local) (h3 : s.names.lookup x = some .local) (fr : ∀ p ∈ s.names, p.2 = .free → ∃ a, lkS cel p.1 = some a)
theorem fun_el {s : Scope} (h : isFun s = true) : s.kind = .function := (ScopeKind.ofNat_ctorIdx s.kind).symm.trans (congrArg ScopeKind.ofNat (Nat.eq_of_beq_eq_true h))
theorem comp_facts {sc : Names} {cel : List (Str × Nat)} {x : Str} {s : Scope} (h : compOk sc cel x s = true) : CompF sc cel x s :=
  and_el h fun hk h => and_el h fun h h4 => and_el h fun h h3 => and_el h fun h1 h2 => ⟨fun_el hk, noCells_mem h1, locFirst_mem h3, lkS_lookup (kd_loc h4), freesIn_mem h2⟩
theorem nums_at {ρ : Rho} {v : Value} {z : V} {k : Nat} : ∀ {i j : Nat}, nthV (numsFrom i k) j = some z → (∃ t, v = .int ((i + j : Nat) : Int) t) → Den ρ z v := by
  induction k with
  | zero => exact fun h => nS h
  | succ k ih =>
    intro i j h q
    cases j with
    | zero => exact Option.some.inj h ▸ q
    | succ j => exact ih (i := i + 1) (j := j) h (q.imp fun t e => e.trans (congrArg (fun n : Nat => Value.int n t) (Nat.succ_add_eq_add_succ i j).symm))
theorem nums_len {k : Nat} : ∀ {i : Nat}, (numsFrom i k).length = k := by
  induction k with
  | zero => exact fun {_} => rfl
  | succ k ih => exact fun {_} => congrArg (· + 1) (ih (i := _ + 1))
noncomputable def SeqO (P : Params) (o : O) (xs : List V) : Prop := ∀ (ρ : Rho) (ob : Obj), ObjIs P ρ o ob ↔ ListIs ρ xs ob
theorem ss_den {ρ : Rho} {ss : List Str} : ∀ {vs : List Value}, All2 (Den ρ) (ss.map .ss) vs ↔ StrsAre vs ss := by
  induction ss with
  | nil => exact fun {vs} => ⟨fun h => by cases h; exact .nil, fun h => by cases h; exact .nil⟩
  | cons x r ih =>
    refine fun {vs} => ⟨fun h => ?_, fun h => ?_⟩
    · cases h with
      | cons d y => exact d.elim fun t e => e ▸ .cons _ _ (ih.mp y)
    · cases h with
      | cons _ t y => exact .cons ⟨t, rfl⟩ (ih.mpr y)
theorem seqO_tlist (P : Params) (ss : List Str) : SeqO P (.tlist ss) (ss.map .ss) := fun _ _ => ⟨fun q => q.elim fun vs q => q.elim fun n q => ⟨vs, n, q.1, ss_den.mpr q.2⟩, fun q => q.rec fun vs n e a => ⟨vs, n, e, ss_den.mp a⟩⟩
section
variable {c : Cd} {sc : Names} {elt it : Expr} {x : Str} {ifs : List Expr} {scope : Scope} {ρ : Rho} {σ : St} {s : Shared} {K : KV} {X : KX} {E Q : Value → Shared → Prop} {run : List V → St → (List V → St → Prop) → Prop}
theorem src_range (I : Snd T n) (TT : TabOk T c.w) (C : Ck T.q c n) (hs : c.env.scope.names = sc) (R : Rel c ρ σ s) {e : Expr} (hr : rangeOf T sc it = some e) (h : vcE T n sc e σ (fun v σ1 => vcCompR run v σ1 K) X) (kx : ∀ ρ' σ' l u s', ρ.le ρ' → ExcRel c ρ' σ' l u s' → X l σ' → E u s')
    (hQ : ∀ ρ1 σ1 news1 s1 k' r t₁ u₁ v₁, ρ.le ρ1 → k' ≤ 1000 → RelA c ρ1 σ1 news1 s1 → IsRange s1.heap r 0 (Int.ofNat k') 1 t₁ u₁ v₁ → run (numsFrom 0 k') σ1 (fun ys σ2 => K (.ref σ2.nx) (σ2.new (.list ys))) → Q (.ref r) s1) : wpAny (MM c.w) c.A (eval it c.env) Q E s := by
  refine (range_some hr).elim fun g q => q.elim fun gp q => q.elim fun cp q => ?_
  rw [q.1]
  refine Call_ (name_blt c TT C q.2.1 (kind_at hs q.2.2.1) q.2.2.2.2 R ?_) (by rfl)
  refine callWith_blt (code := 4) rfl (by rw [List.all_cons, q.2.2.2.1]; rfl) (one_ok I c sc TT C hs q.2.2.2.1 R h (fun ρ1 σ1 v u s1 le1 R1 D1 h1 => oB_el h1 fun k' hk h1 => bB_le h1 fun hk' h1 => ?_) kx)
  refine natK_d (C := fun u => wpAny (MM c.w) c.A (call (bltVal 4) [u]) Q E s1) hk D1 fun t => R1.elim fun news1 RA1 => ?_
  exact range1_rows RA1.F RA1.N fun h' tk t₁ u₁ v₁ hr F' N' _ => hQ ρ1 σ1 news1 _ k' _ t₁ u₁ v₁ le1 hk' (RA1.re F' N') hr h1
theorem src_list (I : Snd T n) (TT : TabOk T c.w) (C : Ck T.q c n) (hs : c.env.scope.names = sc) (R : Rel c ρ σ s) (h : vcE T n sc it σ (fun v σ1 => vcCompS run v σ1 K) X) (kx : ∀ ρ' σ' l u s', ρ.le ρ' → ExcRel c ρ' σ' l u s' → X l σ' → E u s')
    (hQ : ∀ (o : O) (ρ1 : Rho) (σ1 : St) nr s1 (a : Nat) (xs : List V) ad (vs : Array Value) nn, SeqO c.w.params o xs → ρ.le ρ1 → xs.length ≤ 1000 → ρ1 a = some ad → All2 (Den ρ1) xs vs.toList → RelA (c.fz (ad, W.listOf vs nn)) ρ1 (aside σ1 a) nr s1 → vcCompH run a σ1 K o xs → Q (.ref ad) s1) : wpAny (MM c.w) c.A (eval it c.env) Q E s := by
  refine I.e c sc it TT C hs ρ σ s _ X _ _ R h (fun ρ1 σ1 v u s1 le1 R1 D1 h1 => oB_el h1 fun a ha h1 => ?_) kx
  refine ref_d ha D1 fun ad ea => R1.elim fun news1 RA1 => ?_
  have go : ∀ {o : O} {xs : List V}, get σ1.H a = some o → SeqO c.w.params o xs → xs.length ≤ 1000 → vcCompH run a σ1 K o xs → Q (.ref ad) s1 := fun hg so hz h => (RA1.freeze hg).elim fun ad' q => q.elim fun ob q => q.elim fun nr q => ((so _ _).mp q.2.1).rec fun vs nn e al => by
    obtain rfl : ad' = ad := Option.some.inj (q.1.symm.trans ea)
    subst e
    exact hQ _ ρ1 σ1 nr s1 a _ ad' vs nn so le1 hz ea al q.2.2.2 h
  exact oE_el h1 (fun xs hg h => bB_le h fun hz h => go (list_el hg) (fun _ _ => Iff.rfl) hz h) fun h1 => oE_el h1 (fun xs hg h => bB_le h fun hz h => go (olist_el hg) (fun _ _ => Iff.rfl) hz h) fun h1 => oB_el h1 fun ss hg h => go (tlist_el hg) (seqO_tlist _ ss) (by rw [List.length_map]; exact h.1) h.2
theorem src_done {Fin : Shared → List Value → List (Addr × Obj) → Prop} (hF : ∀ s₂ us all, Done c ρ K s₂ us all → Fin s₂ us all) {o : O} {ρ1 ρ2 : Rho} {σ2 : St} {news2 : List (Addr × Obj)} {a : Nat} {xs : List V} {ad : Addr} {vs : Array Value} {nn : Nat} {s₂ : Shared} {ys : List V} {us : List Value} {h2 : Heap} {t2 : Nat} (so : SeqO c.w.params o xs) (le1 : ρ.le ρ1) (le2 : ρ1.le ρ2) (ea : ρ1 a = some ad) (al : All2 (Den ρ1) xs vs.toList)
    (R2 : RelA (c.fz (ad, W.listOf vs nn)) ρ2 σ2 news2 { s₂ with heap := h2, toks := t2 }) (D2 : All2 (Den ρ2) ys us) (hK : K (.ref σ2.nx) (St.new (back a o σ2) (.list ys))) : Fin s₂ us ((c.fz (ad, W.listOf vs nn)).X ++ news2) :=
  hF _ us _ ⟨ρ2, back a o σ2, ys, _, h2, t2, Rho.le_trans le1 le2, D2, hK, fun q hq => List.perm_middle.mem_iff.mp hq, R2.thaw (le2 _ _ ea) ((so _ _).mpr ⟨vs, nn, rfl, al.mono fun _ _ z => z.mono le2⟩) fun q => (notD_list q).elim⟩
theorem src_at {ρ1 : Rho} {xs : List V} {vs : Array Value} (al : All2 (Den ρ1) xs vs.toList) (i : Nat) (v : Value) (z : V) (hv : vs[i]? = some v) (hz : nthV xs i = some z) (ρ2 : Rho) (le2 : ρ1.le ρ2) : Den ρ2 z v :=
  (nthV_get al hz).elim fun w q => Option.some.inj (q.1.symm.trans (Array.getElem?_toList.trans hv)) ▸ q.2.mono le2
theorem arr_small {ρ1 : Rho} {xs : List V} {vs : Array Value} (al : All2 (Den ρ1) xs vs.toList) (hz : xs.length ≤ 1000) : vs.size ≤ sizeLine := le1000 (Nat.le_trans (Nat.le_of_eq al.length.symm) hz)
theorem num_at {ρ2 : Rho} {k' i : Nat} {v : Value} {z : V} (q : ∃ t, v = .int (0 + (i : Int)) t) (hz : nthV (numsFrom 0 k') i = some z) : Den ρ2 z v := nums_at hz (q.imp fun t e => e.trans (by rw [Int.zero_add, Nat.zero_add]))
theorem comp_src (I : Snd T n) (c : Cd) (sc : Names) (TT : TabOk T c.w) (C : Ck T.q c n) (hs : c.env.scope.names = sc) (R : Rel c ρ σ s)
    (h : vcComp T (vcE T n) (vcT T n) sc elt x it ifs scope σ K X) (kx : ∀ ρ' σ' l u s', ρ.le ρ' → ExcRel c ρ' σ' l u s' → X l σ' → E u s') (Fin : Shared → List Value → List (Addr × Obj) → Prop) (hF : ∀ s₂ us all, Done c ρ K s₂ us all → Fin s₂ us all) :
    plainIter it = true ∧ compOk sc σ.cel x scope = true ∧
    ((ifs = [] ∧ wpAny (MM c.w) c.A (eval it c.env) (LCg.CompSrc PR c.w c.A c.h₀ c.L c.m c.env elt x scope (closL scope.names (cellsAt c.env) []) Fin) E s) ∨
     ∃ ct, ifs = [ct] ∧ wpAny (MM c.w) c.A (eval it c.env) (LCt.CompSrcT PR c.w c.A c.h₀ c.L c.m c.env ct elt x scope (closL scope.names (cellsAt c.env) []) Fin) E s) := by
  refine guardQ_ok h fun hq h => bB_el h fun ok h => and_el ok fun ok le1' => and_el ok fun co pi => ⟨pi, co, ?_⟩
  have hk : scope.kind = .function := (comp_facts co).rec fun hk _ _ _ _ => hk
  cases ifs with
  | nil =>
    refine .inl ⟨rfl, oE_el h (fun e hr h => src_range I TT C hs R hr h kx fun ρ1 σ1 news1 s1 k' r t₁ u₁ v₁ le1 hk' RA1 hr h1 => ?_) fun h => src_list I TT C hs R h kx fun o ρ1 σ1 nr s1 a xs ad vs nn so le1 hz ea al RF h1 => ?_⟩
    · exact LCg.CompSrc.range (C.hh hq) RA1.F RA1.N hr (range_small hk') (range_size k') (le1000 hk') fun g => comp_rest I c sc scope x elt TT C hs hk (ρ₀ := ρ1) (s := { s1 with heap := g }) (xs0 := numsFrom 0 k') (fun _ => trivial) (fun i v z q hz ρ2 _ => num_at q hz)
          (fun ρ2 σ2 news2 ys us h2 t2 le2 R2 D2 hK => hF _ us _ ⟨ρ2, σ2, ys, news2, h2, t2, Rho.le_trans le1 le2, D2, hK, fun q hq => hq, R2⟩)
          k' 0 _ [] [] ρ1 σ1 news1 s1.heap s1.toks rfl nums_len ρ1.le_refl rfl rfl .nil RA1 h1
    · exact LCg.CompSrc.ledger (C.hh hq) RF.F RF.N (.head _) (arr_small al hz) fun g => comp_rest I (c.fz _) sc scope x elt TT (C.fz _) hs hk (ρ₀ := ρ1) (s := { s1 with heap := g }) (xs0 := xs) (fun _ => .inr ⟨_, .head _, rfl, _, rfl⟩) (src_at al)
          (fun ρ2 σ2 news2 ys us h2 t2 le2 R2 D2 hK => src_done hF so le1 le2 ea al R2 D2 hK)
          vs.size 0 _ [] [] ρ1 _ nr s1.heap s1.toks rfl al.length ρ1.le_refl rfl rfl .nil RF h1
  | cons ct r =>
    cases r with
    | cons _ _ => exact absurd (Nat.le_of_ble_eq_true le1') (Nat.not_le.mpr (Nat.le_add_left 2 _))
    | nil =>
      refine .inr ⟨ct, rfl, oE_el h (fun e hr h => src_range I TT C hs R hr h kx fun ρ1 σ1 news1 s1 k' r t₁ u₁ v₁ le1 hk' RA1 hr h1 => ?_) fun h => src_list I TT C hs R h kx fun o ρ1 σ1 nr s1 a xs ad vs nn so le1 hz ea al RF h1 => ?_⟩
      · exact LCt.CompSrcT.range (C.hh hq) RA1.F RA1.N hr (range_small hk') (range_size k') (le1000 hk') fun g => comp_restT I c sc scope x ct elt TT C hs hk (ρ₀ := ρ1) (s := { s1 with heap := g }) (xs0 := numsFrom 0 k') (fun _ => trivial) (fun i v z q hz ρ2 _ => num_at q hz)
          (fun ρ2 σ2 news2 ys us h2 t2 le2 R2 D2 hK => hF _ us _ ⟨ρ2, σ2, ys, news2, h2, t2, Rho.le_trans le1 le2, D2, hK, fun q hq => hq, R2⟩)
          k' 0 _ [] [] ρ1 σ1 news1 s1.heap s1.toks rfl nums_len ρ1.le_refl rfl rfl .nil RA1 h1
      · exact LCt.CompSrcT.ledger (C.hh hq) RF.F RF.N (.head _) (arr_small al hz) fun g => comp_restT I (c.fz _) sc scope x ct elt TT (C.fz _) hs hk (ρ₀ := ρ1) (s := { s1 with heap := g }) (xs0 := xs) (fun _ => .inr ⟨_, .head _, rfl, _, rfl⟩) (src_at al)
          (fun ρ2 σ2 news2 ys us h2 t2 le2 R2 D2 hK => src_done hF so le1 le2 ea al R2 D2 hK)
          vs.size 0 _ [] [] ρ1 _ nr s1.heap s1.toks rfl al.length ρ1.le_refl rfl rfl .nil RF h1
end
theorem clos_at {c : Cd} {sc : Names} {x : Str} {scope : Scope} {ρ : Rho} {σ : St} {s : Shared} (R : Rel c ρ σ s) (co : compOk sc σ.cel x scope = true) : closureFor scope c.env = pure (closL scope.names (cellsAt c.env) []) :=
  R.elim fun news R => (comp_facts co).rec fun _ _ _ _ fr => clos_eq fun p hp e => (fr p hp e).elim fun a ha => (R.cel p.1 a ha).imp fun ad q => q.1
theorem comp_shape {sc : Names} {elt : Expr} {gens : List Comprehension} {scope : Scope} {pos : Pos} {σ : St} {K : KV} {X : KX} (h : vcE T (n + 1) sc (.ListComp elt gens scope pos) σ K X) : ∃ x px it ifs, gens = [⟨.Name x px, it, ifs, 0⟩] ∧ vcComp T (vcE T n) (vcT T n) sc elt x it ifs scope σ K X := by
  have h : eComp T (eng T n) sc elt gens scope σ K X := h
  refine oB_el h fun q hq h => oB_el h fun x hx h => bB_el h fun he h => ⟨x.1, x.2, q.iter, q.ifs, (oneL_el hq).trans (congrArg (fun z => [z]) ?_), h⟩
  obtain ⟨tg, it, ifs, as⟩ := q
  have hx : tg = .Name x.1 x.2 := name_el hx
  have he : as = 0 := of_decide_eq_true he
  rw [hx, he]
theorem comp_ok (I : Snd T n) (c : Cd) (sc : Names) {elt it : Expr} {x : Str} {px : Pos} {ifs : List Expr} {scope : Scope} {pos : Pos} (TT : TabOk T c.w) (C : Ck T.q c n) (hs : c.env.scope.names = sc) {ρ : Rho} {σ : St} {s : Shared} {K : KV} {X : KX} {Q E : Value → Shared → Prop} (R : Rel c ρ σ s)
    (h : vcComp T (vcE T n) (vcT T n) sc elt x it ifs scope σ K X) (k : ∀ ρ' σ' v u s', ρ.le ρ' → Rel c ρ' σ' s' → Den ρ' v u → K v σ' → Q u s') (kx : ∀ ρ' σ' l u s', ρ.le ρ' → ExcRel c ρ' σ' l u s' → X l σ' → E u s') :
    wpAny (MM c.w) c.A (eval (.ListComp elt [⟨.Name x px, it, ifs, 0⟩] scope pos) c.env) Q E s := by
  have z := comp_src I c sc TT C hs R h kx (fun s₂ => LCg.FinE c.h₀ c.L c.m s₂ Q) fun s₂ us all d D h' tk F N off => (d.new C.xs F N off (tk := tk)).elim fun ρ' q => q.elim fun σ' q => q.2.2.elim fun v y => k ρ' σ' v _ _ q.1 q.2.1 y.1 y.2
  have hcl := clos_at R z.2.1
  refine (comp_facts z.2.1).rec fun hk h1 h2 h3 _ => R.elim fun news RA => z.2.2.elim (fun q => ?_) fun q => q.elim fun ct q => ?_
  · rw [q.1]; exact LCg.ListComp_U RA.F hcl h1 hk h2 h3 q.2 (fun v => fold_plain z.1)
  · rw [q.1]; exact LCt.ListComp_T RA.F hcl h1 hk h2 h3 q.2 (fun v => fold_plain z.1)
end
end Mine
namespace Mine
theorem all2_take {α β : Type} {R : α → β → Prop} {as : List α} {bs : List β} (h : All2 R as bs) : ∀ k, All2 R (as.take k) (bs.take k) := by
  induction h with
  | nil => intro k; rw [List.take_nil, List.take_nil]; exact .nil
  | cons x y ih =>
    intro k
    cases k with
    | zero => exact .nil
    | succ k => exact .cons x (ih k)
theorem isSome_no {α : Type} {o : Option α} (h : (!isSome' o) = true) : o = none := by
  cases o with
  | none => rfl
  | some _ => exact Bool.noConfusion h
theorem sliceUp_some {i u : Expr} (h : sliceUp i = some u) : ∃ p, i = .Slice none (some u) none p := by
  refine oO_el h fun q hq h => bO_el h fun ok h => and_el ok fun h1 h2 => ⟨q.2.2.2, ?_⟩
  rw [slice_el hq, isSome_no h1, isSome_no h2, h]
theorem isName_some {o : Expr} : isName o = true → ∃ x p, o = .Name x p := by
  cases o <;> first | exact fun h => Bool.noConfusion h | exact fun _ => ⟨_, _, rfl⟩
theorem pick_take {vs : Array Value} {k : Nat} : slicePick vs none (some (k : Int)) none = (vs.toList.take k).toArray := by
  rw [kms_pick_eq]
  unfold kms_pick
  have e1 : kms_lo none vs.toList.length = 0 := rfl
  have e2 : kms_hi (some (k : Int)) vs.toList.length = min k vs.toList.length := show (if (k : Int) < 0 then vs.toList.length - (-(k : Int)).toNat else min (k : Int).toNat vs.toList.length) = min (k : Int).toNat vs.toList.length from if_neg (Int.not_lt.mpr (Int.natCast_nonneg k))
  rw [e1, e2, List.drop_zero, Nat.sub_zero, ← List.take_take, List.take_length]
theorem tkv_vals {ρ : Rho} {kvs : List (Str × Str)} {ws : List (Str × Value)} (h : KW ρ (tkv kvs) ws) : StrsAre (ws.map (·.2)) (kvs.map (·.2)) := by
  induction kvs generalizing ws with
  | nil => cases h; exact .nil
  | cons z r ih =>
    cases h with
    | cons x y => exact x.2.elim fun t e => by rw [List.map_cons, List.map_cons, e]; exact .cons _ _ (ih y)
section
variable {T : Tab} {n : Nat} (I : Snd T n) (c : Cd) (sc : Names) (TT : TabOk T c.w) (C : Ck T.q c n) (hs : c.env.scope.names = sc) {ρ : Rho} {σ : St} {s : Shared} {K : KV} {X : KX} {Q E : Value → Shared → Prop} (R : Rel c ρ σ s)
  (k : ∀ ρ' σ' v u s', ρ.le ρ' → Rel c ρ' σ' s' → Den ρ' v u → K v σ' → Q u s') (kx : ∀ ρ' σ' l u s', ρ.le ρ' → ExcRel c ρ' σ' l u s' → X l σ' → E u s')
include I TT C hs R k kx
theorem slice_ok {o i : Expr} {pos : Pos} (h : eSlice (eng T n) sc o i σ K X) : wpAny (MM c.w) c.A (eval (.Subscript o i pos) c.env) Q E s := by
  refine bB_el h fun hn h => oB_el h fun u hu h => (isName_some hn).elim fun x q => q.elim fun p q => (sliceUp_some hu).elim fun p2 q2 => ?_
  rw [q] at h ⊢
  rw [q2]
  refine Subscript_ (I.e c sc _ TT C hs ρ σ s _ X _ _ R h (fun ρ1 σ1 a w1 s1 le1 R1 D1 h1 => ?_) kx)
  refine wpAny_Slice (wpAny_evalPart_none (wpAny_evalPart_some (I.e c sc u TT C hs ρ1 σ1 s1 _ X _ _ R1 h1 (fun ρ2 σ2 b w2 s2 le2 R2 D2 h2 => ?_) fun ρ2 σ2 l u s2 le2 => kx ρ2 σ2 l u s2 (Rho.le_trans le1 le2))))
  refine wpAny_evalPart_none (oB_el h2 fun pp hp h2 => oB_el h2 fun xs hg h2 => oB_el h2 fun kk hk h2 => bB_le h2 fun hb h2 => ?_)
  refine ref_d hp (D1.mono le2) fun ad ea => ?_
  refine natK_d hk D2 fun t => R2.elim fun news R2 => R2.ldl ea hg fun vs nn m g al => ?_
  exact kmk_slice R2.F R2.N ⟨_, g, rfl, nn, rfl⟩ .none (.int _ _) (fun D h' F' N' l1 => new_k C.xs R2 (t := s2.toks) F' N' l1 (o := .list (xs.take kk)) ⟨_, _, rfl, (pick_take (k := kk)) ▸ all2_take al kk⟩ fun ρ' le R' D' => k ρ' _ (.ref σ2.nx) _ _ (Rho.le_trans le1 (Rho.le_trans le2 le)) R' D' h2) (by rfl) (fun r => rfl) (arr_small al hb)
theorem vals_ok (hq : T.q = false) {f : Str} {fp : Pos} {es : List Expr} {o : Expr} {pos : Pos} {code : Nat} (hc : lkS T.blt f = some code) (hk : kdIs isGlo sc f = true) (hd : Fast.sEq f dbg = false) (ho : valsArg code es = some o)
    (h : vcE T n sc o σ (fun v σ1 => valsV v σ1 K) X) : wpAny (MM c.w) c.A (eval (.Call (.Name f fp) es [] pos) c.env) Q E s := by
  refine bO_el ho fun h2 ho => oO_el ho fun e he ho => oO_el ho fun cl hcl ho => oO_el ho fun a ha ho => bO_el ho fun ok ho => and_el ok fun ok ok2 => and_el ok fun n1 n2 => and_el ok2 fun ok2 hl => and_el ok2 fun hm bc => ?_
  have hc : lkS T.blt f = some 2 := hc.trans (congrArg some (Nat.eq_of_beq_eq_true h2))
  rw [oneL_el he, call_el hcl, attr_el ha, nilL_el n1, nilL_el n2, Fast.sEq_iff.mp hm]
  rw [← Option.some.inj ho] at h
  refine Call_ (name_blt c TT C hc (kind_at hs (kd_glo hk)) hd R ?_) (by rfl)
  refine callWith_blt (code := 2) rfl rfl (spliced_more ?_ rfl)
  refine wpAny_Call_method_late (base_plain (not_el bc id)) rfl hl rfl ?_
  refine I.e c sc a.1 TT C hs ρ σ s _ X _ _ R h (fun ρ1 σ1 v u s1 le1 R1 D1 h1 => oB_el h1 fun q hq' h1 => oB_el h1 fun kvs hg h1 => ?_) kx
  refine ref_d hq' D1 fun ad ea => R1.elim fun news R1 => R1.lda ea (odict_el hg) fun ob m g o => ?_
  have ty : TyO ob 1 := ty_dict o rfl
  refine ⟨_, _, PySem.F.plainAttrs_dict, PySem.F.slot_dict_values, PySem.F.type_dict_values, ⟨_, g, ty.1⟩, fun a e => ⟨ob, Value.ref.inj e ▸ g, ty.2⟩, callWith_method0 (odict_to o fun ws hdd hw ndw hle => ?_)⟩
  refine kdl_view_values R1.F R1.N (List.mem_append_right _ m) hdd (not_mods (R1.sm _ m (isD_of hdd))) fun D h' F' N' l1 => spliced_none ?_
  have wl : ws.length = kvs.length := by rw [← All2.length hw, tkv_len]
  refine kdl_list_valuesP (C.hh hq) F' N' (.head _) (.tail _ (List.mem_append_right _ m)) hdd (by rw [wl]; omega) fun B cc h2 tk2 F2 N2 l2 => ?_
  have R2 : RelA c ρ1 σ1 news { s1 with heap := h' } := R1.re (t := s1.toks) F' fun q hq => N' q (.tail _ hq)
  exact new_k C.xs R2 (t := tk2) F2 (fun q hq => N2 q ((List.mem_cons.mp hq).elim (fun e => e ▸ .head _) fun hq => .tail _ (.tail _ hq))) (fun p hp => l2 p (.tail _ hp)) (o := .tlist (kvs.map (·.2))) ⟨_, _, rfl, tkv_vals hw⟩ fun ρ' le R' D' => k ρ' _ (.ref σ1.nx) _ _ (Rho.le_trans le1 le) R' D' h1
theorem calln_ok {f : Str} {fp : Pos} {es : List Expr} {pos : Pos} (h : eCallN T (eng T n) sc f fp es σ K X) : wpAny (MM c.w) c.A (eval (.Call (.Name f fp) es [] pos) c.env) Q E s := by
  refine bB_el h fun pa h => oE_el h (fun code hc h => bB_el h fun ok h => and_el ok fun ok ne => and_el ok fun hk hd => oE_el h (fun o ho h => guardQ_ok h fun hq h => vals_ok I c sc TT C hs R k kx hq hc hk (not_el hd id) ho h) fun h => bi_ok I c sc TT C hs pa hc hk (not_el hd id) (not_el ne id) R h k kx) fun h => ?_
  refine Call_ (I.e c sc (.Name f fp) TT C hs ρ σ s _ X _ _ R h (fun ρ1 σ1 g u s1 le1 R1 D1 h1 => oB_el h1 fun a ha h1 => bB_el h1 fun ic h1 => ?_) kx) (by rfl)
  rw [kref_d ha D1]
  have hk := keep_cal TT ic
  refine R1.elim fun news1 RA1 => ?_
  have kx1 : ∀ ρ' σ' l u s', ρ1.le ρ' → ExcRel c ρ' σ' l u s' → X l σ' → E u s' := fun ρ2 σ2 l u s2 le2 => kx ρ2 σ2 l u s2 (Rho.le_trans le1 le2)
  cases es with
  | nil => exact callWith_K0 (C.X.keeps RA1.F.keep) hk (I.c c a [] [] TT C ρ1 σ1 s1 K X _ _ ⟨news1, RA1⟩ .nil h1 (fun ρ2 σ2 v u s2 le2 => k ρ2 σ2 v u s2 (Rho.le_trans le1 le2)) kx1)
  | cons e rest =>
    have pa' := (Bool.and_eq_true _ _).mp ((List.all_cons ..).symm.trans pa)
    refine callWith_K (h₀ := c.h₀) C.X hk (list_ok I c sc TT C hs pa ⟨news1, RA1⟩ h1 (fun ρ2 σ2 xs us s2 le2 R2 D2 h2 => ?_) kx1) (star_plain pa'.1) (star_none pa'.2)
    exact ⟨R2.elim fun _ R2 => C.X.keeps R2.F.keep, I.c c a xs us TT C ρ2 σ2 s2 K X _ _ R2 D2 h2 (fun ρ3 σ3 v u s3 le3 => k ρ3 σ3 v u s3 (Rho.le_trans le1 (Rho.le_trans le2 le3))) (fun ρ3 σ3 l u s3 le3 => kx1 ρ3 σ3 l u s3 (Rho.le_trans le2 le3))⟩
theorem bool2_ok {op : BoolOp} {e e' a : Expr} {r : List Expr} {pos : Pos} (h : eBool2 (eng T n) sc op e e' σ K X) (nx : ∀ ρ1 σ1 s1, ρ.le ρ1 → Rel c ρ1 σ1 s1 → vcE T n sc e' σ1 K X → wpAny (MM c.w) c.A (eval (.BoolOp op (a :: r) pos) c.env) Q E s1) : wpAny (MM c.w) c.A (eval (.BoolOp op (e :: a :: r) pos) c.env) Q E s := by
  cases op with
  | And =>
    refine BoolOp_and (I.e c sc e TT C hs ρ σ s _ X _ _ R h (fun ρ1 σ1 a x s1 le1 R1 D1 h1 => testV_ok D1 h1 fun b h2 => ?_) kx)
    cases b with
    | true => exact nx ρ1 σ1 s1 le1 R1 h2
    | false => exact k ρ1 σ1 a x s1 le1 R1 D1 h2
  | Or =>
    refine BoolOp_or (I.e c sc e TT C hs ρ σ s _ X _ _ R h (fun ρ1 σ1 a x s1 le1 R1 D1 h1 => testV_ok D1 h1 fun b h2 => ?_) kx)
    cases b with
    | true => exact k ρ1 σ1 a x s1 le1 R1 D1 h2
    | false => exact nx ρ1 σ1 s1 le1 R1 h2
theorem bool_ok {op : BoolOp} {es : List Expr} {pos : Pos} (h : eBool (eng T n) sc op es pos σ K X) : wpAny (MM c.w) c.A (eval (.BoolOp op es pos) c.env) Q E s := by
  refine oB_el h fun q hq h => ?_
  obtain ⟨e, rest⟩ := q
  rw [unL_el hq]
  have go : ∀ e', vcE T n sc e' = vcE T n sc e' → ∀ ρ1 σ1 s1, ρ.le ρ1 → Rel c ρ1 σ1 s1 → vcE T n sc e' σ1 K X → wpAny (MM c.w) c.A (eval e' c.env) Q E s1 := fun e' _ ρ1 σ1 s1 le1 R1 h2 => I.e c sc e' TT C hs ρ1 σ1 s1 K X _ _ R1 h2 (fun ρ2 σ2 v u s2 le2 => k ρ2 σ2 v u s2 (Rho.le_trans le1 le2)) fun ρ2 σ2 l u s2 le2 => kx ρ2 σ2 l u s2 (Rho.le_trans le1 le2)
  refine oE_el h (fun e' he h => ?_) fun h => bB_el h fun hn h => ?_
  · have he : rest = [e'] := oneL_el he
    rw [he]
    exact bool2_ok I c sc TT C hs R k kx h fun ρ1 σ1 s1 le1 R1 h2 => BoolOp_one (go e' rfl ρ1 σ1 s1 le1 R1 h2)
  · cases rest with
    | nil => exact Bool.noConfusion hn
    | cons a r => exact bool2_ok I c sc TT C hs R k kx h fun ρ1 σ1 s1 le1 R1 h2 => go _ rfl ρ1 σ1 s1 le1 R1 h2
end
section
variable {T : Tab} {n : Nat}
theorem e_succ (I : Snd T n) (c : Cd) (sc : Names) (e : Expr) (TT : TabOk T c.w) (C : Ck T.q c (n + 1)) (hs : c.env.scope.names = sc) : SndE c (vcE T (n + 1) sc e) (eval e c.env) := by
  have C' := C.le (Nat.le_succ n)
  intro ρ σ s K X Q E R h k kx
  cases e with
  | Constant cc kk pos =>
    cases cc with
    | none => exact wpAny_Constant_none (k ρ σ .none _ s ρ.le_refl R rfl h)
    | bool b => exact wpAny_Constant_bool (k ρ σ (.bool _) _ s ρ.le_refl R rfl h)
    | int i => exact wpAny_Constant_int (k ρ σ (.int _) _ _ ρ.le_refl (R.tick _) ⟨_, rfl⟩ h)
    | str i => exact Calls.Constant_str (k ρ σ (.str _) _ _ ρ.le_refl (R.tick _) ⟨_, rfl⟩ h)
    | _ => exact False.elim h
  | Name x pos => exact name_ok I c sc x pos TT C hs ρ σ s K X Q E R h k kx
  | Attribute o f pos => exact bB_el h fun bc h => Attribute_any_ (I.e c sc o TT C' hs ρ σ s _ X _ _ R h (fun ρ' σ' v u s' le R' D h' => getA_ok TT C' R' D h' fun x y s2 R2 D2 h2 => k ρ' σ' x y s2 le R2 D2 h2) kx) (attr_eq (not_el bc id))
  | BinOp l op r pos =>
    refine wpAny_BinOp (I.e c sc l TT C' hs ρ σ s _ X _ _ R h (fun ρ1 σ1 a x s1 le1 R1 D1 h1 => ?_) kx)
    refine I.e c sc r TT C' hs ρ1 σ1 s1 _ X _ _ R1 h1 (fun ρ2 σ2 b y s2 le2 R2 D2 h2 => ?_) fun ρ2 σ2 l u s2 le2 => kx ρ2 σ2 l u s2 (Rho.le_trans le1 le2)
    exact binT_ok C.xs R2 (D1.mono le2) D2 h2 fun ρ3 v σ3 u s3 le3 R3 D3 h3 => k ρ3 σ3 v u s3 (Rho.le_trans (Rho.le_trans le1 le2) le3) R3 D3 h3
  | Compare l ops rs pos =>
    refine oB_el h fun op hop h => oB_el h fun r hr h => bB_el h fun hm h => ?_
    rw [oneL_el hop, oneL_el hr]
    refine wpAny_Compare1 (I.e c sc l TT C' hs ρ σ s _ X _ _ R h (fun ρ1 σ1 a x s1 le1 R1 D1 h1 => ?_) kx) (not_el hm id)
    refine I.e c sc r TT C' hs ρ1 σ1 s1 _ X _ _ R1 h1 (fun ρ2 σ2 b y s2 le2 R2 D2 h2 => ?_) fun ρ2 σ2 l u s2 le2 => kx ρ2 σ2 l u s2 (Rho.le_trans le1 le2)
    exact cmpT_ok TT C' R2 (D1.mono le2) D2 h2 fun v u s3 R3 D3 h3 => k ρ2 σ2 v u s3 (Rho.le_trans le1 le2) R3 D3 h3
  | IfExp t b o pos =>
    refine IfExp_ (I.t c sc t TT C' hs ρ σ s _ X _ _ R h (fun ρ1 σ1 q s1 le1 R1 h1 => ?_) kx)
    have kx1 : ∀ ρ' σ' l u s', ρ1.le ρ' → ExcRel c ρ' σ' l u s' → X l σ' → E u s' := fun ρ2 σ2 l u s2 le2 => kx ρ2 σ2 l u s2 (Rho.le_trans le1 le2)
    cases q with
    | true => rw [if_pos rfl]; exact I.e c sc b TT C' hs ρ1 σ1 s1 K X _ _ R1 h1 (fun ρ2 σ2 v u s2 le2 => k ρ2 σ2 v u s2 (Rho.le_trans le1 le2)) kx1
    | false => rw [if_neg Bool.false_ne_true]; exact I.e c sc o TT C' hs ρ1 σ1 s1 K X _ _ R1 h1 (fun ρ2 σ2 v u s2 le2 => k ρ2 σ2 v u s2 (Rho.le_trans le1 le2)) kx1
  | Subscript o i pos =>
    refine bE_el h (fun ns h => ?_) fun _ h => slice_ok I c sc TT C' hs R k kx h
    refine Subscript_ (I.e c sc o TT C' hs ρ σ s _ X _ _ R h (fun ρ1 σ1 a x s1 le1 R1 D1 h1 => ?_) kx)
    refine I.e c sc i TT C' hs ρ1 σ1 s1 _ X _ _ R1 h1 (fun ρ2 σ2 b y s2 le2 R2 D2 h2 => ?_) fun ρ2 σ2 l u s2 le2 => kx ρ2 σ2 l u s2 (Rho.le_trans le1 le2)
    exact subT_ok TT C' R2 ns (D1.mono le2) D2 h2 fun v u s3 R3 D3 h3 => k ρ2 σ2 v u s3 (Rho.le_trans le1 le2) R3 D3 h3
  | UnaryOp op e pos =>
    refine bB_el h fun ho h => ?_
    rw [show op = .USub from (UnaryOp.ofNat_ctorIdx op).symm.trans (congrArg UnaryOp.ofNat (Nat.eq_of_beq_eq_true ho))]
    exact UnaryOp_ (I.e c sc e TT C' hs ρ σ s _ X _ _ R h (fun ρ1 σ1 a x s1 le1 R1 D1 h1 => negV_ok R1 D1 h1 fun v u s3 R3 D3 h3 => k ρ1 σ1 v u s3 le1 R3 D3 h3) kx)
  | BoolOp op es pos => exact bool_ok I c sc TT C' hs R k kx h
  | List es pos => exact bB_el h fun pa h => List_ (list_ok I c sc TT C' hs pa R h (fun ρ1 σ1 xs us s1 le1 R1 D1 h1 => bB_le h1 fun hz h1 => newList_ok C.xs R1 D1 (size_small D1 hz) fun ρ2 s2 u le2 R2 D2 => k ρ2 _ _ u s2 (Rho.le_trans le1 le2) R2 D2 h1) kx)
  | Tuple es kk pos => exact bB_el h fun pa h => Tuple_ (list_ok I c sc TT C' hs pa R h (fun ρ1 σ1 xs us s1 le1 R1 D1 h1 => bB_le h1 fun hz h1 => newTuple_ok C.xs R1 D1 (size_small D1 hz) fun ρ2 s2 u le2 R2 D2 => k ρ2 _ _ u s2 (Rho.le_trans le1 le2) R2 D2 h1) kx)
  | ListComp elt gens scope pos => exact (comp_shape h).elim fun x q => q.elim fun px q => q.elim fun it q => q.elim fun ifs q => by rw [q.1]; exact comp_ok I c sc TT C' hs R q.2 k kx
  | Dict ks vs pos => exact bB_el h fun ok h => and_el ok fun h1 h2 => by rw [nilL_el h1, nilL_el h2]; exact newDict_ok C' R fun ρ2 s2 u le2 R2 D2 => k ρ2 _ _ u s2 le2 R2 D2 h
  | Call f es kws pos =>
    refine bB_el h fun hk h => ?_
    rw [nilL_el hk]
    refine oE_el h (fun a ha h => ?_) fun h => oB_el h fun x hx h => ?_
    · rw [attr_el ha]; exact meth_ok I c sc TT C' hs R h k kx
    · rw [name_el hx]; exact calln_ok I c sc TT C' hs R k kx h
  | _ => exact False.elim h
end
end Mine
namespace Mine
section
variable {T : Tab} {n : Nat}
theorem t_plain (I : Snd T n) (c : Cd) (sc : Names) (e : Expr) (TT : TabOk T c.w) (C : Ck T.q c (n + 1)) (hs : c.env.scope.names = sc)
    (h1 : ∀ σ K X, vcT T (n + 1) sc e σ K X = vcE T n sc e σ (fun v σ' => testV v fun b => K b σ') X) (h2 : PySem.isTrue e c.env (eval e c.env) = (do let v ← eval e c.env; standAt e.pos; holding [v] (truthy v))) :
    SndT c (vcT T (n + 1) sc e) (PySem.isTrue e c.env (eval e c.env)) := by
  intro ρ σ s K X Q E R h k kx
  rw [h1] at h
  refine isTrue_plain (I.e c sc e TT (C.le (Nat.le_succ n)) hs ρ σ s _ X _ _ R h (fun ρ1 σ1 v u s1 le1 R1 D1 h1 => ?_) kx) h2
  exact testV_ok D1 h1 fun b hb => k ρ1 σ1 b s1 le1 R1 hb
theorem t_succ (I : Snd T n) (c : Cd) (sc : Names) (e : Expr) (TT : TabOk T c.w) (C : Ck T.q c (n + 1)) (hs : c.env.scope.names = sc) : SndT c (vcT T (n + 1) sc e) (PySem.isTrue e c.env (eval e c.env)) := by
  have C' := C.le (Nat.le_succ n)
  cases e with
  | UnaryOp op x pos =>
    cases op with
    | Not => exact fun ρ σ s K X Q E R h k kx => isTrue_not (I.t c sc x TT C' hs ρ σ s _ X _ _ R h (fun ρ1 σ1 b s1 le1 R1 h1 => k ρ1 σ1 (!b) s1 le1 R1 h1) kx)
    | _ => exact t_plain I c sc _ TT C hs (fun _ _ _ => rfl) rfl
  | BoolOp op es pos => exact fun ρ σ s K X Q E R h k kx => I.b c sc op es pos _ TT C' hs ρ σ s K X Q E R h k kx
  | IfExp t b o pos => exact fun ρ σ s K X Q E R h k kx => False.elim h
  | Compare l ops rs pos =>
    intro ρ σ s K X Q E R h k kx
    refine oB_el h fun op hop h => oB_el h fun r hr h => bB_el h fun hm h => ?_
    rw [oneL_el hop, oneL_el hr]
    refine wpAny_isTrue_Compare1 (I.e c sc l TT C' hs ρ σ s _ X _ _ R h (fun ρ1 σ1 a x s1 le1 R1 D1 h1 => ?_) kx) (not_el hm id)
    refine I.e c sc r TT C' hs ρ1 σ1 s1 _ X _ _ R1 h1 (fun ρ2 σ2 b y s2 le2 R2 D2 h2 => ?_) fun ρ2 σ2 l u s2 le2 => kx ρ2 σ2 l u s2 (Rho.le_trans le1 le2)
    exact cmpT_ok TT C' R2 (D1.mono le2) D2 h2 fun v u s3 R3 D3 h3 => testV_ok D3 h3 fun b hb => k ρ2 σ2 b s3 (Rho.le_trans le1 le2) R3 hb
  | _ => exact t_plain I c sc _ TT C hs (fun _ _ _ => rfl) rfl
theorem b_succ (I : Snd T n) (c : Cd) (sc : Names) (op : BoolOp) (es : List Expr) (pos : Pos) (whole : Sem Value) (TT : TabOk T c.w) (C : Ck T.q c (n + 1)) (hs : c.env.scope.names = sc) : SndT c (vcB T (n + 1) sc op es) (PySem.isTrue (.BoolOp op es pos) c.env whole) := by
  have C' := C.le (Nat.le_succ n)
  intro ρ σ s K X Q E R h k kx
  cases es with
  | nil =>
    cases op with
    | And => exact isTrue_and_nil (k ρ σ true s ρ.le_refl R h)
    | Or => exact isTrue_or_nil (k ρ σ false s ρ.le_refl R h)
  | cons e r =>
    have go : ∀ ρ1 σ1 s1, ρ.le ρ1 → Rel c ρ1 σ1 s1 → vcB T n sc op r σ1 K X → wpAny (MM c.w) c.A (PySem.isTrue (.BoolOp op r pos) c.env whole) Q E s1 := fun ρ1 σ1 s1 le1 R1 h1 =>
      I.b c sc op r pos whole TT C' hs ρ1 σ1 s1 K X Q E R1 h1 (fun ρ2 σ2 b s2 le2 => k ρ2 σ2 b s2 (Rho.le_trans le1 le2)) fun ρ2 σ2 l u s2 le2 => kx ρ2 σ2 l u s2 (Rho.le_trans le1 le2)
    cases op with
    | And =>
      refine isTrue_and (I.t c sc e TT C' hs ρ σ s _ X _ _ R h (fun ρ1 σ1 b s1 le1 R1 h1 => ?_) kx)
      cases b with
      | true => rw [if_pos rfl]; exact go ρ1 σ1 s1 le1 R1 h1
      | false => rw [if_neg Bool.false_ne_true]; exact k ρ1 σ1 false s1 le1 R1 h1
    | Or =>
      refine isTrue_or (I.t c sc e TT C' hs ρ σ s _ X _ _ R h (fun ρ1 σ1 b s1 le1 R1 h1 => ?_) kx)
      cases b with
      | true => rw [if_pos rfl]; exact k ρ1 σ1 true s1 le1 R1 h1
      | false => rw [if_neg Bool.false_ne_true]; exact go ρ1 σ1 s1 le1 R1 h1
theorem ss_le (I : ∀ m ≤ n, Snd T m) (c : Cd) (TT : TabOk T c.w) (i : FnI) : ∀ c', Ck T.q c' (n - 1) → Fk c' → c'.w = c.w → c'.env.scope.names = i.sc.names → BodyOk T (n - 1) c' i.sc.names i.body :=
  fun c' C' f hw hs => by
    have TT' : TabOk T c'.w := by rw [hw]; exact TT
    have J := I (n - 1) (Nat.sub_le _ _)
    exact ⟨J.ss c' i.sc.names i.body TT' C' f hs, fun e => J.e c' i.sc.names e TT' C' hs, fun e => J.t c' i.sc.names e TT' C' hs⟩
theorem f_pos {sc : FnI} {vs : List V} {σ : St} {K : KV} {X : KX} (h : vcF T n sc vs σ K X) : 1 ≤ n := by
  cases n with
  | zero => exact False.elim h
  | succ n => exact Nat.succ_le_succ (Nat.zero_le n)
theorem c_succ (I : ∀ m ≤ n, Snd T m) (c : Cd) (f : Nat) (vs : List V) (us : List Value) (TT : TabOk T c.w) (C : Ck T.q c (n + 1)) (ρ : Rho) (σ : St) (s : Shared) (K : KV) (X : KX) (Q E : Value → Shared → Prop) (R : Rel c ρ σ s) (D : All2 (Den ρ) vs us) (h : vcC T (n + 1) f vs σ K X)
    (k : ∀ ρ' σ' v u s', ρ.le ρ' → Rel c ρ' σ' s' → Den ρ' v u → K v σ' → Q u s') (kx : ∀ ρ' σ' l u s', ρ.le ρ' → ExcRel c ρ' σ' l u s' → X l σ' → E u s') : wpAny (MM c.w) c.A (call (.ref f) us) Q E s := by
  have C' := C.le (Nat.le_succ n)
  refine guardQ_ok h fun hq h => oE_el h (fun q e h => bB_le h fun hm h => (TT.spec _ _ _ e).1 c σ vs us K X ρ s Q E (hq ▸ C'.le hm) R D h k kx) fun h => oE_el h (fun i e h => wpAny_call (callF_ok (T := T) hq C' (TT.fns _ _ e).1 C.hA (C.hh hq) (Nat.le_succ _) (Nat.le_add_right _ _) (f_pos h) TT (ss_le I c TT i) R D h (fun ρ' σ' v u s' => k ρ' σ' v u s') kx)) fun h => oB_el h fun fi hfi h => oB_el h fun i e h => ?_
  have IO := (TT.ini _ _ hfi).1
  refine R.elim fun news RA => call_cls RA.F C.X RA.N IO.mks IO.fi IO.fn fun x dx h' F' N' l1 l2 => ?_
  have R1 := RA.new (t := s.toks) (o := .dict []) F' (fun q hq => N' q (.tail _ hq)) (fun p hp => Nat.ne_of_lt (l1 p hp)) (fun _ => above_mods C.xs (N' _ (.tail _ (.head _))).2.2) C.xs ⟨[], 0, rfl, .nil, List.nodup_nil, by decide⟩
  have mv : ∀ q, q ∈ c.X ++ (dx, dictOf [] 0) :: news → q ∈ (dx, dictOf [] 0) :: (c.X ++ news) := fun q hq => List.perm_middle.mem_iff.mp hq
  have le1 := Rho.upd_le (l := dx) (RA.fresh _ (Nat.le_refl _))
  have le2 := Rho.upd_le (l := x) (R1.fresh _ (Nat.le_refl _))
  have R2 := R1.new (t := s.toks) (o := .inst f σ.nx) (ob := instObj f dx) (l := x) (h' := h') F' (fun q hq => N' q ((List.mem_cons.mp hq).elim (fun e => e ▸ .head _) fun hq => .tail _ (mv q hq))) (fun p hp => (List.mem_cons.mp (mv p hp)).elim (fun e => e ▸ Nat.ne_of_lt l2) fun hp => Nat.ne_of_lt (Nat.lt_trans (l1 p hp) l2)) (fun _ => above_mods C.xs (N' _ (.head _)).2.2) C.xs ⟨dx, Rho.upd_t, rfl⟩
  have le := Rho.le_trans le1 le2
  have D2 : All2 (Den ((ρ.upd σ.nx dx).upd (σ.nx + 1) x)) (.ref (σ.nx + 1) :: vs) (.ref x :: us) := .cons ⟨x, Rho.upd_t, rfl⟩ (D.mono fun _ _ z => z.mono le)
  refine callF_ok (T := T) (A' := c.A.under (.builtin "type.__call__" ⟨.ref f :: us, []⟩)) (K := fun v σ' => bB (noneV v) (K (.ref (σ.nx + 1)) σ')) (X := X) hq C' (TT.fns _ _ e).1 C.hA (C.hh hq) (Nat.le_refl _) (by rw [units_under_make]; omega) (f_pos h) TT (ss_le I c TT i) ⟨_, R2⟩ D2 h ?_ ?_
  · exact fun ρ' σ' v u s' le' R' D' h' => bB_el h' fun hv h' => ⟨none_d hv D', k ρ' σ' (.ref (σ.nx + 1)) _ s' (Rho.le_trans le le') R' ⟨x, le' _ _ Rho.upd_t, rfl⟩ h'⟩
  · exact fun ρ' σ' l u s' le' => kx ρ' σ' l u s' (Rho.le_trans le le')
theorem ss_succ (I : Snd T n) (c : Cd) (sc : Names) (ss : List Stmt) (TT : TabOk T c.w) (C : Ck T.q c (n + 1)) (f : Fk c) (hs : c.env.scope.names = sc) : SndS c (vcSs T (n + 1) sc ss) (execs ss c.env) := by
  have C' := C.le (Nat.le_succ n)
  intro m ρ σ s K X Q E hE R h k kx
  cases ss with
  | nil => exact wpAny_execs_nil (k m ρ σ .next .next s ρ.le_refl R .next h)
  | cons st r =>
    refine wpAny_execs_cons (I.st c sc st TT C' f hs m ρ σ s _ X _ _ hE R h (fun m1 ρ1 σ1 fl w s1 le1 R1 fi h1 => ?_) kx)
    cases fi with
    | next => exact I.ss c sc r TT C' f hs m1 ρ1 σ1 s1 K X _ _ hE R1 h1 (fun m2 ρ2 σ2 fl w s2 le2 => k m2 ρ2 σ2 fl w s2 (Rho.le_trans le1 le2)) fun m2 ρ2 σ2 l u s2 le2 => kx m2 ρ2 σ2 l u s2 (Rho.le_trans le1 le2)
    | cont => exact k m1 ρ1 σ1 .cont .cont s1 le1 R1 .cont h1
    | brk => exact k m1 ρ1 σ1 .brk .brk s1 le1 R1 .brk h1
    | ret d => exact k m1 ρ1 σ1 _ _ s1 le1 R1 (.ret d) h1
end
end Mine
namespace Mine
theorem LocIs.put {ρ : Rho} {loc : List (Str × V)} {m : Str → Option Value} {x : Str} {v : V} {u : Value} (h : LocIs ρ loc m) (d : Den ρ v u) : LocIs ρ (putS loc x v) fun y => if y = x then some u else m y := fun y w e => by
  by_cases q : x = y
  · subst q
    exact ⟨u, if_pos rfl, Option.some.inj (lkS_put_t.symm.trans e) ▸ d⟩
  · exact (h y w ((lkS_put_f q).symm.trans e)).imp fun z a => ⟨(if_neg fun z => q z.symm).trans a.1, a.2⟩
section
variable {T : Tab} {n : Nat}
theorem stN_ok {c : Cd} {m : Str → Option Value} {ρ : Rho} {σ : St} {s : Shared} {sc : Names} {x : Str} {v : V} {u : Value} {K : St → Prop} {Q : Unit → Shared → Prop} {E : Value → Shared → Prop} (C : Ck T.q c n) (f : Fk c) (hs : c.env.scope.names = sc) (R : Rel (c.at m) ρ σ s) (D : Den ρ v u) (h : stN sc x v σ K)
    (k : ∀ m' σ' s', Rel (c.at m') ρ σ' s' → K σ' → Q () s') : wpAny (MM c.w) c.A (storeName c.env x u) Q E s := by
  refine R.elim fun news R => oB_el h fun kd hk h => bE_el h (fun e h => ?_) fun _ h => bB_el h fun e h => oB_el h fun a ha h => oB_el h fun v₀ hv h => (R.cel x a ha).elim fun ad q => ?_
  · rw [isLoc_el e] at hk
    refine wpAny_storeName_local (kind_at hs hk) (m := m) (by rw [f.loc]; exact R.F.ns) (fun h' hn hsb => ?_) (by rw [C.hk]; rfl)
    rw [f.loc] at hn hsb
    exact k (fun y => if y = x then some u else m y) { σ with loc := putS σ.loc x v } _ ⟨news, R.F.set hn hsb, R.N.set hsb, R.nm, LocIs.put R.loc D, R.cel, Shared.re R.sh h' _⟩ h
  · rw [isCel_el e] at hk
    refine R.lda q.2 (cell_el hv) fun ob m1 g1 o => o.elim fun cc z => ?_
    have hmem := R.N (ad, ob) (List.mem_append_right _ m1)
    refine wpAny_storeName_cell C.hk (kind_at hs hk) q.1 ⟨ob, g1, z.1⟩ fun h' hv' hsb => hv'.elim fun o' w => ?_
    have F' : Fr c.h₀ c.L h' m := ⟨R.F.ns.sameBut hsb (Ne.symm hmem.2.1), fun b ob e => (hsb.2 b (fun q => nS (hmem.2.2.symm.trans ((congrArg c.h₀.get? q).symm.trans e)))).trans (R.F.keep b ob e), R.F.above⟩
    have N' : News c.h₀ c.L h' (putA (c.X ++ news) ad o') := (updF_putA (o := ob) R.nd (List.mem_append_right _ m1)).split.elim fun own y => y.elim fun rest y => by
      have N0 : News c.h₀ c.L s.heap (own ++ (ad, ob) :: rest) := y.1 ▸ R.N
      exact y.2.1 o' ▸ News.setAt N0 y.2.2.1 y.2.2.2 hsb w.1
    exact k m _ _ ⟨_, R.upd (c := c.at m) (o := .cell (some v)) (t := s.toks) q.2 m1 (fun d => d.elim fun _ d => d.elim fun _ d => nomatch w.2.symm.trans d) F' N' ⟨_, w.2, u, rfl, D⟩⟩ h
theorem subL_of_mem {all l : List (Addr × Obj)} (h : ∀ q ∈ l, q ∈ all) : SubL l all := by
  induction l with
  | nil => exact trivial
  | cons p r ih => exact ⟨h _ (.head _), ih fun q hq => h q (.tail _ hq)⟩
theorem Fk.it {c : Cd} (f : Fk c) (p : Addr × Obj) : Fk (c.it p) := ⟨f.env, f.loc⟩
theorem Fk.fz {c : Cd} (f : Fk c) (p : Addr × Obj) : Fk (c.fz p) := ⟨f.env, f.loc⟩
theorem for_items (I : Snd T n) (c : Cd) (sc : Names) (x : Str) (px : Pos) (body : List Stmt) (TT : TabOk T c.w) (C : Ck T.q c n) (f : Fk c) (hs : c.env.scope.names = sc) {fin : St → St} {K : KS} {X : KX} {Q : Flow → Shared → Prop} {E : Value → Shared → Prop} {s : Shared} {Ia : Addr} {cls : String} {keep : List (Addr × Obj)} {ρ₀ : Rho}
    (hE : PassesOwn (MM c.w) c.A c.env E) (hk : ∀ q ∈ keep, q ∈ c.X)
    (kf : ∀ m ρ σ s', ρ₀.le ρ → Rel (c.at m) ρ σ s' → K .next (fin σ) → Q .next s') (kr : ∀ m ρ σ v u s', ρ₀.le ρ → Rel (c.at m) ρ σ s' → Den ρ v u → K (.ret v) (fin σ) → Q (.ret u) s')
    (kx : ∀ m ρ σ l u s', ρ₀.le ρ → ExcRel (c.at m) ρ σ l u s' → X l (fin σ) → E u s') : ∀ (xs : List V) (vs : List Value) (m : Str → Option Value) (ρ : Rho) (σ : St) (news : List (Addr × Obj)) (h₁ : Heap) (t₁ : Nat), ρ₀.le ρ → All2 (Den ρ) xs vs → RelA (c.at m) ρ σ news { s with heap := h₁, toks := t₁ } →
      (∀ q ∈ c.X ++ news, q.1 ≠ Ia) → vcFor (stN sc x) (vcSs T n sc body) fin xs σ K X → ItemsRest PR c.w c.A E c.h₀ c.env (.Name x px) body Q s [(Ia, cls)] keep (vs.map .val) m (c.X ++ news) := by
  intro xs
  induction xs with
  | nil =>
    intro vs m ρ σ news h₁ t₁ le D R hI h
    cases D
    exact ItemsRest.zero fun h' tk F N => kf m ρ σ _ le ⟨news, R.re (f.loc ▸ F) (f.loc ▸ N)⟩ h
  | cons z xs ih =>
    intro vs m ρ σ news h₁ t₁ le D R hI h
    cases D with
    | @cons _ v _ vs d r =>
    refine ItemsRest.val fun h' tk F => AllObj.cons fun oI _ => AllObj.nil fun N => ?_
    rw [f.loc] at F N
    have R1 : RelA (c.at m) ρ σ news { s with heap := h', toks := tk } := R.re F fun q hq => N q (.tail _ hq)
    have R2 : RelA ((c.it (Ia, oI)).at m) ρ σ news { s with heap := h', toks := tk } := R1.on (N (Ia, oI) (.head _)) hI
    refine wpAny_assign_Name (stN_ok (c := c.it (Ia, oI)) (C.it _) (f.it _) hs ⟨news, R2⟩ d h fun m1 σ1 s1 R3 h1 => ?_)
    refine I.ss (c.it (Ia, oI)) sc body TT (C.it _) (f.it _) hs m1 ρ σ1 s1 _ _ _ _ hE R3 h1 (fun m2 ρ2 σ2 fl w s2 le2 R4 fi h2 => ?_) (fun m2 ρ2 σ2 l u s2 le2 R4 h2 => ?_)
    · refine R4.elim fun news2 R4 => ?_
      have le' := Rho.le_trans le le2
      have step : vcFor (stN sc x) (vcSs T n sc body) fin xs σ2 K X → UnrEndW c.h₀ c.env.locals { s with heap := h', toks := tk } [(Ia, oI)] (fun m' n' => SubL keep n' ∧ ItemsRest PR c.w c.A E c.h₀ c.env (.Name x px) body Q s [(Ia, cls)] keep (vs.map .val) m' n') s2 := fun hv => by
        have e3 : s2 = { s with heap := s2.heap, toks := s2.toks } := state_eq (s := s) R1.sh R4.sh
        refine ⟨s2.heap, s2.toks, m2, c.X ++ news2, e3, by rw [f.loc]; exact R4.F, by rw [f.loc]; exact R4.N, fun p hp q hq => ?_, subL_of_mem fun q hq => List.mem_append_left _ (hk q hq), ?_⟩
        · rw [List.mem_singleton.mp hq]
          exact R4.apart (c := c.at m2) p hp
        · exact ih vs m2 ρ2 σ2 news2 s2.heap s2.toks le' (r.mono fun _ _ z => z.mono le2) (by rw [← e3]; exact R4.un (c := c.at m2)) (R4.apart (c := c.at m2)) hv
      cases fi with
      | next => exact step h2
      | cont => exact step h2
      | brk => exact kf m2 ρ2 σ2 s2 le' ⟨news2, R4.un (c := c.at m2)⟩ h2
      | ret dv => exact kr m2 ρ2 σ2 _ _ s2 le' ⟨news2, R4.un (c := c.at m2)⟩ dv h2
    · exact R4.elim fun e q => q.elim fun G q => q.elim fun news2 q => kx m2 ρ2 σ2 l _ s2 (Rho.le_trans le le2) ⟨e, G, news2, q.1, q.2.un (c := c.at m2)⟩ h2
theorem stN_local {sc : Names} {x : Str} {v : V} {σ : St} {K : St → Prop} (h : lkS sc x = some .local) : stN sc x v σ K = K { σ with loc := putS σ.loc x v } := congrArg (fun o => oB o fun k => bE (isLoc k) (K { σ with loc := putS σ.loc x v }) (bB (isCel k) (stC1 x v σ K))) h
theorem for_range (I : Snd T n) (c : Cd) (sc : Names) (x : Str) (body : List Stmt) (TT : TabOk T c.w) (C : Ck T.q c n) (f : Fk c) (hs : c.env.scope.names = sc) (hx : lkS sc x = some .local) {K : KS} {X : KX} {Q : Flow → Shared → Prop} {E : Value → Shared → Prop} {s : Shared} {Ia : Addr} {N : Nat} {ρ₀ : Rho}
    (hE : PassesOwn (MM c.w) c.A c.env E)
    (kf : ∀ m ρ σ s', ρ₀.le ρ → Rel (c.at m) ρ σ s' → K .next σ → Q .next s') (kr : ∀ m ρ σ v u s', ρ₀.le ρ → Rel (c.at m) ρ σ s' → Den ρ v u → K (.ret v) σ → Q (.ret u) s')
    (kx : ∀ m ρ σ l u s', ρ₀.le ρ → ExcRel (c.at m) ρ σ l u s' → X l σ → E u s') : ∀ (k i : Nat) (m : Str → Option Value) (ρ : Rho) (σ : St) (news : List (Addr × Obj)) (h₁ : Heap) (t₁ : Nat), ρ₀.le ρ → RelA (c.at m) ρ σ news { s with heap := h₁, toks := t₁ } →
      (∀ q ∈ c.X ++ news, q.1 ≠ Ia) → vcFor (stN sc x) (vcSs T n sc body) id (numsFrom i k) σ K X → RangeRest PR c.w c.A E c.h₀ c.env x body Q s Ia 0 N k i m (c.X ++ news) := by
  intro k
  induction k with
  | zero =>
    intro i m ρ σ news h₁ t₁ le R hI h
    exact RangeRest.zero fun h' tk F N => kf m ρ σ _ le ⟨news, R.re (f.loc ▸ F) (f.loc ▸ N)⟩ h
  | succ k ih =>
    intro i m ρ σ news h₁ t₁ le R hI h
    refine RangeRest.succ fun t h' tk F Nw => ?_
    rw [f.loc] at F Nw
    have h : stN sc x (.int (Int.ofNat i)) σ _ := h
    rw [stN_local hx] at h
    have e0 : (0 + (i : Int)) = (i : Int) := Int.zero_add _
    rw [e0] at F
    have R1 : RelA (c.at fun y => if y = x then some (.int (i : Int) t) else m y) ρ { σ with loc := putS σ.loc x (.int (Int.ofNat i)) } news { s with heap := h', toks := tk } :=
      ⟨F, fun q hq => Nw q (.tail _ hq), R.nm, LocIs.put R.loc ⟨t, rfl⟩, R.cel, Shared.re R.sh h' tk⟩
    have R2 := R1.on (Nw _ (.head _)) hI
    refine I.ss (c.it _) sc body TT (C.it _) (f.it _) hs _ ρ _ _ _ _ _ _ hE ⟨news, R2⟩ h (fun m2 ρ2 σ2 fl w s2 le2 R4 fi h2 => ?_) (fun m2 ρ2 σ2 l u s2 le2 R4 h2 => ?_)
    · refine R4.elim fun news2 R4 => ?_
      have le' := Rho.le_trans le le2
      have step : vcFor (stN sc x) (vcSs T n sc body) id (numsFrom (i + 1) k) σ2 K X → UnrEnd c.h₀ c.env.locals { s with heap := h', toks := tk } Ia (itR (0 + ((i + 1 : Nat) : Int)) ((N : Int) - ((i + 1 : Nat) : Int))) (RangeRest PR c.w c.A E c.h₀ c.env x body Q s Ia 0 N k (i + 1)) s2 := fun hv => by
        have e3 : s2 = { s with heap := s2.heap, toks := s2.toks } := state_eq (s := s) R1.sh R4.sh
        refine ⟨s2.heap, s2.toks, m2, c.X ++ news2, e3, by rw [f.loc]; exact R4.F, by rw [f.loc]; exact R4.N, R4.apart (c := c.at m2), ?_⟩
        exact ih (i + 1) m2 ρ2 σ2 news2 s2.heap s2.toks le' (by rw [← e3]; exact R4.un (c := c.at m2)) (R4.apart (c := c.at m2)) hv
      cases fi with
      | next => exact step h2
      | cont => exact step h2
      | brk => exact kf m2 ρ2 σ2 s2 le' ⟨news2, R4.un (c := c.at m2)⟩ h2
      | ret dv => exact kr m2 ρ2 σ2 _ _ s2 le' ⟨news2, R4.un (c := c.at m2)⟩ dv h2
    · exact R4.elim fun e q => q.elim fun G q => q.elim fun news2 q => kx m2 ρ2 σ2 l _ s2 (Rho.le_trans le le2) ⟨e, G, news2, q.1, q.2.un (c := c.at m2)⟩ h2
end
end Mine
namespace Mine
theorem aug_plain {i : Expr} {x y z : Value} (h : notSlice i = true) : augStore i x y z = (do holding [z, x, y] (setItem x y z); release [z, x, y] []; pure .next) := by
  cases i <;> first | rfl | exact Bool.noConfusion h
section
variable {T : Tab} {n : Nat}
theorem swaps_not {e : Expr} {t : Option Expr} {l : Nat} {env : Env} : noComp e = true → swapsWith e t l env = pure false := by
  cases e <;> first | exact fun _ => rfl | exact fun h => Bool.noConfusion h
theorem swaps_attr {e o : Expr} {a : Str} {ap : Pos} {l : Nat} {env : Env} : okVal e = true → swapsWith e (some (.Attribute o a ap)) l env = pure false := by
  cases e <;> first | exact fun _ => rfl | exact fun h => Bool.noConfusion h
theorem comp_is {e : Expr} : noComp e = false → okVal e = true → ∃ elt gens scope cp, e = .ListComp elt gens scope cp := by
  cases e <;> first | exact fun h => Bool.noConfusion h | exact fun _ h => Bool.noConfusion h | exact fun _ _ => ⟨_, _, _, _, rfl⟩
theorem asg_comp (IA : ∀ m ≤ n, Snd T m) (c : Cd) (sc : Names) {e : Expr} {y : Str} {py : Pos} {pos : Pos} (TT : TabOk T c.w) (C : Ck T.q c n) (f : Fk c) (hs : c.env.scope.names = sc) (nc : noComp e = false) (ov : okVal e = true) {m : Str → Option Value} {ρ : Rho} {σ : St} {s : Shared} {K : KS} {X : KX} {Q : Flow → Shared → Prop} {E : Value → Shared → Prop} (R : Rel (c.at m) ρ σ s)
    (h : vcE T n sc e σ (fun v σ' => stN sc y v σ' (K .next)) X)
    (k : ∀ m' ρ' σ' fl w s', ρ.le ρ' → Rel (c.at m') ρ' σ' s' → FlIs ρ' fl w → K fl σ' → Q w s') (kx : ∀ ρ' σ' l u s', ρ.le ρ' → ExcRel (c.at m) ρ' σ' l u s' → X l σ' → E u s') :
    wpAny (MM c.w) c.A (exec (.Assign [.Name y py] e pos) c.env) Q E s := by
  have I := IA n (Nat.le_refl n)
  have Cm := C.at f m
  have plain : swapsWith e (some (.Name y py)) pos.line c.env = pure false → wpAny (MM c.w) c.A (exec (.Assign [.Name y py] e pos) c.env) Q E s := fun hsw =>
    wpAny_Assign_Name (I.e (c.at m) sc e TT Cm hs ρ σ s _ X _ _ R h (fun ρ1 σ1 v u s1 le1 R1 D1 h1 => stN_ok C f hs R1 D1 h1 fun m2 σ2 s2 R2 h2 => k m2 ρ1 σ2 .next .next s2 le1 R2 .next h2) kx) hsw
  refine (comp_is nc ov).elim fun elt q => q.elim fun gens q => q.elim fun scope q => q.elim fun cp q => ?_
  have hb : swapsWith e (some (.Name y py)) pos.line c.env = pure (c.env.blockKind == .function && c.env.kindOf y == some .local && py.line == cp.line && !(scope.names.any fun (n, k) => n == y && (k == .local || k == .cell))) := by rw [q]; rfl
  cases b : (c.env.blockKind == .function && c.env.kindOf y == some .local && py.line == cp.line && !(scope.names.any fun (n, k) => n == y && (k == .local || k == .cell))) with
  | false => rw [b] at hb; exact plain hb
  | true =>
    rw [b] at hb
    have hy : c.env.kindOf y = some .local := and_el b fun b _ => and_el b fun b _ => and_el b fun _ b => beq_iff_eq.mp b
    have hy' : lkS sc y = some .local := by rw [lkS_eq]; unfold Env.kindOf at hy; rw [hs] at hy; exact hy
    rw [q] at h hb ⊢
    cases n with
    | zero => exact False.elim h
    | succ n' =>
      refine (comp_shape h).elim fun x q => q.elim fun px q => q.elim fun it q => q.elim fun ifs q => ?_
      have e1 : (fun (v : V) (σ' : St) => stN sc y v σ' (K .next)) = fun v σ' => K .next { σ' with loc := putS σ'.loc y v } := funext fun v => funext fun σ' => stN_local hy'
      have z := comp_src (IA n' (Nat.le_succ n')) (c.at m) sc TT (Cm.le (Nat.le_succ n')) hs R (e1 ▸ q.2) kx (fun s₂ => LCg.FinA c.h₀ c.L m s₂ y Q) fun s₂ us all d D h' tk F N off => (d.asg C.xs (fun hl hd => LocIs.put hl hd) F N off (tk := tk)).elim fun ρ' w => w.elim fun σ' w => w.elim fun m' w => k m' ρ' σ' .next .next _ w.1 w.2.1 .next w.2.2
      have hcl := clos_at R z.2.1
      have hp : (c.env.scope.kind == .class || (c.env.scope.kind == .module && c.env.locals != c.env.globals)) = false := by rw [C.hk]; rfl
      rw [q.1]
      refine (comp_facts z.2.1).rec fun hk h1 h2 h3 _ => R.elim fun news RA => z.2.2.elim (fun w => ?_) fun w => w.elim fun ct w => ?_
      · rw [w.1]; exact LCg.Assign_ListComp_U RA.F f.loc hb hcl h1 hk h2 h3 hy hp w.2 (fun v => fold_plain z.1)
      · rw [w.1]; exact LCt.Assign_ListComp_T RA.F f.loc hb hcl h1 hk h2 h3 hy hp w.2 (fun v => fold_plain z.1)
theorem augV_ok {c : Cd} {ρ : Rho} {σ : St} {s : Shared} {a b : V} {x y : Value} {op : Operator} {K : KV} {Q : Value → Shared → Prop} {E : Value → Shared → Prop} (R : Rel c ρ σ s) (Da : Den ρ a x) (Db : Den ρ b y) (h : augV op a b σ K)
    (k : ∀ v u s', Rel c ρ σ s' → Den ρ v u → K v σ → Q u s') : wpAny (MM c.w) c.A (inplaceOp op x y) Q E s := by
  refine bB_el h fun ho h => R.elim fun news R => ?_
  rw [opN_el ho] at h ⊢
  refine oE_el h (fun p hp h => oB_el h fun q hq h => ?_) fun h => oB_el h fun p hp h => oB_el h fun q hq h => ?_
  · exact intOf_d hp Da fun t => intOf_d hq Db fun t' => iadd_int (k _ _ _ ⟨news, R.toks _⟩ (den_int _ _ _) h)
  · refine strOf_d hp Da fun t => strOf_d hq Db fun t' => bE_el h (fun _ h => bB_le h fun hb h => ?_) fun _ h => ?_
    · exact PyProof.Rows.iadd_str (fun t' kk => k (.str _) _ _ ⟨news, R.toks _⟩ ⟨_, rfl⟩ h) hb
    · exact PyProof.Rows.iadd_str (fun t' kk => k (.ss _) _ _ ⟨news, R.toks _⟩ ⟨_, rfl⟩ h.2) h.1
theorem for_seq (hq : T.q = false) (I : Snd T n) (c : Cd) (sc : Names) (x : Str) (px : Pos) (body : List Stmt) (TT : TabOk T c.w) (C : Ck T.q c n) (f : Fk c) (hs : c.env.scope.names = sc) {K : KS} {X : KX} {Q : Flow → Shared → Prop} {E : Value → Shared → Prop} {m : Str → Option Value} {ρ : Rho} {σ : St} {s : Shared} {a : Nat} {o : O} {xs : List V}
    (hE : PassesOwn (MM c.w) c.A c.env E) (R : Rel (c.at m) ρ σ s) (hg : get σ.H a = some o) (ho : o = .list xs ∨ o = .tup xs ∨ o = .olist xs) {u : Value} (D : Den ρ (.ref a) u)
    (h : forH (eng T n) sc x body K X σ a o xs)
    (k : ∀ m' ρ' σ' fl w s', ρ.le ρ' → Rel (c.at m') ρ' σ' s' → FlIs ρ' fl w → K fl σ' → Q w s') (kx : ∀ m' ρ' σ' l u s', ρ.le ρ' → ExcRel (c.at m') ρ' σ' l u s' → X l σ' → E u s') :
    wpAny (MM c.w) c.A (pyIter u) (fun it s₂ => TurnsAt PR c.w c.A c.h₀ c.env (.Name x px) body Q E it s₂) E s := by
  refine D.elim fun ad ea => R.elim fun news RA => (RA.freeze hg).elim fun ad' q => q.elim fun ob q => q.elim fun nr q => ?_
  obtain rfl : ad' = ad := Option.some.inj (q.1.symm.trans ea.1)
  have o1 := q.2.1
  have RF : RelA ((c.fz (ad', ob)).at m) ρ _ nr s := q.2.2.2
  have F : Fr c.h₀ c.env.locals s.heap m := f.loc ▸ RF.F
  have N : News c.h₀ c.env.locals s.heap ((c.fz (ad', ob)).X ++ nr) := f.loc ▸ RF.N
  have rest : ∀ (cls : String) (vs : List Value), All2 (Den ρ) xs vs → ∀ Ia : Addr, (∀ p ∈ (c.fz (ad', ob)).X ++ nr, p.1 < Ia) → ItemsRest PR c.w c.A E c.h₀ c.env (.Name x px) body Q s [(Ia, cls)] [(ad', ob)] (vs.map .val) m ((c.fz (ad', ob)).X ++ nr) := fun cls vs al Ia hI =>
    for_items I (c.fz (ad', ob)) sc x px body TT (C.fz _) (f.fz _) hs (ρ₀ := ρ) (s := s) hE (fun q hq => List.mem_singleton.mp hq ▸ .head _)
      (fun m2 ρ2 σ2 s2 le2 R2 h2 => R2.elim fun n2 R2 => k m2 ρ2 _ .next .next s2 le2 ⟨_, RelA.thaw (c := c.at m2) R2 (le2 _ _ ea.1) (o1.mono le2) q.2.2.1⟩ .next h2)
      (fun m2 ρ2 σ2 v u s2 le2 R2 D2 h2 => R2.elim fun n2 R2 => k m2 ρ2 _ (.ret v) (.ret u) s2 le2 ⟨_, RelA.thaw (c := c.at m2) R2 (le2 _ _ ea.1) (o1.mono le2) q.2.2.1⟩ (.ret D2) h2)
      (fun m2 ρ2 σ2 l u s2 le2 R2 h2 => R2.elim fun e w => w.elim fun G w => w.elim fun n2 w => kx m2 ρ2 _ l _ s2 le2 ⟨e, G, _, w.1, ExcA.thaw (c := c.at m2) w.2 (le2 _ _ ea.1) (o1.mono le2) q.2.2.1⟩ h2)
      xs vs m ρ _ nr s.heap s.toks ρ.le_refl al RF (fun q hq => Nat.ne_of_lt (hI q hq)) h
  rw [ea.2]
  refine ho.elim (fun e => ?_) fun e => e.elim (fun e => ?_) fun e => ?_
  · rw [e] at o1; exact o1.rec fun vs nn eo al => iter_listTurns (C.hh hq) F N (.head _) (congrArg Obj.cls eo) (congrArg Obj.data eo) (rest "list_iterator" vs.toList al)
  · rw [e] at o1; exact o1.rec fun vs nn eo al => iter_tupTurns (C.hh hq) F N (.head _) (congrArg Obj.cls eo) (congrArg Obj.data eo) (rest "tuple_iterator" vs.toList al)
  · rw [e] at o1; exact o1.rec fun vs nn eo al => iter_listTurns (C.hh hq) F N (.head _) (congrArg Obj.cls eo) (congrArg Obj.data eo) (rest "list_iterator" vs.toList al)
theorem strs_den {ρ : Rho} {vs : List Value} {ss : List Str} (h : StrsAre vs ss) : All2 (Den ρ) (ss.map .str) vs := by
  induction h with
  | nil => exact .nil
  | cons y t _ ih => exact .cons ⟨t, rfl⟩ ih
theorem for_tup (hq : T.q = false) (I : Snd T n) (c : Cd) (sc : Names) (x : Str) (px : Pos) (body : List Stmt) (TT : TabOk T c.w) (C : Ck T.q c n) (f : Fk c) (hs : c.env.scope.names = sc) {K : KS} {X : KX} {Q : Flow → Shared → Prop} {E : Value → Shared → Prop} {m : Str → Option Value} {ρ : Rho} {σ : St} {s : Shared} {p : Nat} {ss : List Str}
    (hE : PassesOwn (MM c.w) c.A c.env E) (R : Rel (c.at m) ρ σ s) (ht : lkN T.tups p = some ss) (hz : ss.length ≤ 24)
    (h : vcFor (stN sc x) (vcSs T n sc body) id (ss.map .str) σ K X)
    (k : ∀ m' ρ' σ' fl w s', ρ.le ρ' → Rel (c.at m') ρ' σ' s' → FlIs ρ' fl w → K fl σ' → Q w s') (kx : ∀ m' ρ' σ' l u s', ρ.le ρ' → ExcRel (c.at m') ρ' σ' l u s' → X l σ' → E u s') :
    wpAny (MM c.w) c.A (pyIter (.ref p)) (fun it s₂ => TurnsAt PR c.w c.A c.h₀ c.env (.Name x px) body Q E it s₂) E s := by
  refine R.elim fun news RA => (TT.tups _ _ ht).elim fun dd q => q.elim fun items q => q.elim fun nn q => q.elim fun sl q => ?_
  have F : Fr c.h₀ c.env.locals s.heap m := f.loc ▸ RA.F
  have N : News c.h₀ c.env.locals s.heap (c.X ++ news) := f.loc ▸ RA.N
  have hl : items.toList.length = ss.length := (strs_den (ρ := ρ) q.2).length.symm.trans (List.length_map ..)
  exact iter_tupK (K := KK c.w) (vs := items.toList) (C.hh hq) F N C.X q.1 rfl rfl (by rw [hl]; exact hz) fun Ia hI =>
    for_items I c sc x px body TT C f hs (ρ₀ := ρ) (s := s) (keep := []) hE (fun q hq => absurd hq List.not_mem_nil) (fun m2 ρ2 σ2 s2 le2 R2 h2 => k m2 ρ2 σ2 .next .next s2 le2 R2 .next h2) (fun m2 ρ2 σ2 v u s2 le2 R2 D2 h2 => k m2 ρ2 σ2 (.ret v) (.ret u) s2 le2 R2 (.ret D2) h2) (fun m2 ρ2 σ2 l u s2 le2 R2 h2 => kx m2 ρ2 σ2 l u s2 le2 R2 h2)
      (ss.map .str) items.toList m ρ σ news s.heap s.toks ρ.le_refl (strs_den q.2) RA (fun q hq => Nat.ne_of_lt (hI q hq)) h
theorem while_ok (I : Snd T n) (c : Cd) (sc : Names) (t : Expr) (b : List Stmt) (TT : TabOk T c.w) (C : Ck T.q c n) (f : Fk c) (hs : c.env.scope.names = sc) {K : KS} {X : KX} {Q : Flow → Shared → Prop} {E : Value → Shared → Prop} {ρ₀ : Rho}
    (hE : PassesOwn (MM c.w) c.A c.env E)
    (kk : ∀ m' ρ' σ' fl w s', ρ₀.le ρ' → Rel (c.at m') ρ' σ' s' → FlIs ρ' fl w → K fl σ' → Q w s') (kx : ∀ m' ρ' σ' l u s', ρ₀.le ρ' → ExcRel (c.at m') ρ' σ' l u s' → X l σ' → E u s') :
    ∀ (k : Nat) (m : Str → Option Value) (ρ : Rho) (σ : St) (s : Shared), ρ₀.le ρ → Rel (c.at m) ρ σ s → vcW (vcT T n sc t) (vcSs T n sc b) k σ K X → WhlRest PR c.w c.A E c.env t b [] Q k s := by
  intro k
  induction k with
  | zero => exact fun _ _ _ _ _ _ h => h.elim
  | succ k ih =>
    intro m ρ σ s le R h
    refine whl_turn hE (I.t (c.at m) sc t TT (C.at f m) hs ρ σ s _ X _ _ R h (fun ρ1 σ1 q s1 le1 R1 h1 => ?_) (fun ρ1 σ1 l u s1 le1 => kx m ρ1 σ1 l u s1 (Rho.le_trans le le1)))
    have le' := Rho.le_trans le le1
    cases q with
    | true =>
      refine WhlIf.yes rfl (I.ss c sc b TT C f hs m ρ1 σ1 s1 _ X _ _ hE R1 h1 (fun m2 ρ2 σ2 fl w s2 le2 R2 fi h2 => ?_) (fun m2 ρ2 σ2 l u s2 le2 => kx m2 ρ2 σ2 l u s2 (Rho.le_trans le' le2)))
      have le3 := Rho.le_trans le' le2
      cases fi with
      | next => exact ih m2 ρ2 σ2 s2 le3 R2 h2
      | cont => exact ih m2 ρ2 σ2 s2 le3 R2 h2
      | brk => exact kk m2 ρ2 σ2 .next .next s2 le3 R2 .next h2
      | ret dv => exact kk m2 ρ2 σ2 _ _ s2 le3 R2 (.ret dv) h2
    | false => exact WhlIf.no rfl (wpAny_execs_nil (kk m ρ1 σ1 .next .next s1 le' R1 .next h1))
theorem asg_attr {M : Model} {A : Around} {E : Value → Shared → Prop} {s : Shared} {env : Env} {o : Expr} {a : Str} {p : Pos} {v : Value} {Q : Unit → Shared → Prop} (h : wpAny M A (eval o env) (fun ov s1 => wpAny M A (setAttr ov a v) Q E s1) E s) : wpAny M A (assign (.Attribute o a p) env v) Q E s := by
  rw [assign_Attribute]
  refine wpAny_bind (wpAny_holding (wpAny_mono h (fun ov s1 h1 => wpAny_bind (wpAny_standAt (wpAny_bind (wpAny_holding (wpAny_mono h1 (fun _ s2 h2 => ?_) fun _ _ x => x))))) fun _ _ x => x))
  exact wpAny_release h2
theorem tup2_some {elts : List Expr} {e : Expr} {q : (Expr × Str × Pos) × (Expr × Str × Pos)} (h : tup2 elts e = some q) : elts = [.Attribute q.1.1 q.1.2.1 q.1.2.2, .Attribute q.2.1 q.2.2.1 q.2.2.2] ∧ ∃ e1 e2 ek ep, e = .Tuple [e1, e2] ek ep := by
  refine oO_el h fun r hr h => oO_el h fun a ha h => oO_el h fun b hb h => oO_el h fun es hes h => oO_el h fun z hz h => Option.some.inj h ▸ ⟨?_, z.1, z.2, es.2.1, es.2.2, ?_⟩
  · rw [twoL_el hr, attr_el ha, attr_el hb]
  · rw [tupE_el hes, twoL_el hz]
theorem isCall_some {e : Expr} : isCall e = true → ∃ f as ks ep, e = .Call f as ks ep := by
  cases e <;> first | exact fun h => Bool.noConfusion h | exact fun _ => ⟨_, _, _, _, rfl⟩
theorem tupN_some {elts : List Expr} {e : Expr} {q : (Str × Pos) × (Str × Pos)} (h : tupN elts e = some q) : elts = [.Name q.1.1 q.1.2, .Name q.2.1 q.2.2] ∧ ∃ f as ks ep, e = .Call f as ks ep := by
  refine oO_el h fun r hr h => oO_el h fun a ha h => oO_el h fun b hb h => bO_el h fun hc h => Option.some.inj h ▸ ⟨?_, isCall_some hc⟩
  rw [twoL_el hr, name_el ha, name_el hb]
theorem ite_both {α : Type} {c : Prop} [Decidable c] {a b r : α} (h : a = r) (k : b = r) : (if c then a else b) = r := by
  by_cases q : c
  · rw [if_pos q]; exact h
  · rw [if_neg q]; exact k
theorem swapped_attr {o1 o2 e1 e2 : Expr} {f1 f2 : Str} {p1 p2 tp ep : Pos} {k ek : Nat} {env : Env} : swappedStores [.Tuple [.Attribute o1 f1 p1, .Attribute o2 f2 p2] k tp] (.Tuple [e1, e2] ek ep) env = pure none :=
  ite_both rfl (ite_both rfl rfl)
theorem for_ok (I : Snd T n) (c : Cd) (sc : Names) (x : Str) (px : Pos) (it : Expr) (body : List Stmt) {pos : Pos} (TT : TabOk T c.w) (C' : Ck T.q c n) (f : Fk c) (hs : c.env.scope.names = sc) {K : KS} {X : KX} {Q : Flow → Shared → Prop} {E : Value → Shared → Prop} {m : Str → Option Value} {ρ : Rho} {σ : St} {s : Shared}
    (hE : PassesOwn (MM c.w) c.A c.env E) (R : Rel (c.at m) ρ σ s) (h : sForN T (eng T n) sc x it body σ K X)
    (k : ∀ m' ρ' σ' fl w s', ρ.le ρ' → Rel (c.at m') ρ' σ' s' → FlIs ρ' fl w → K fl σ' → Q w s') (kx : ∀ m' ρ' σ' l u s', ρ.le ρ' → ExcRel (c.at m') ρ' σ' l u s' → X l σ' → E u s') : wpAny (MM c.w) c.A (exec (.For (.Name x px) it body [] pos) c.env) Q E s := by
  have kx0 := kx m
  have Cm := C'.at f m
  have ev := fun e => I.e (c.at m) sc e TT Cm hs
  have F0 : Fr c.h₀ c.env.locals s.heap m := R.elim fun _ RA => f.loc ▸ RA.F
  have kn : ∀ ρ1, ρ.le ρ1 → ∀ m' ρ' σ' fl w s', ρ1.le ρ' → Rel (c.at m') ρ' σ' s' → FlIs ρ' fl w → K fl σ' → Q w s' := fun ρ1 le1 m2 ρ2 σ2 fl w s2 le2 => k m2 ρ2 σ2 fl w s2 (Rho.le_trans le1 le2)
  have kn' : ∀ ρ1, ρ.le ρ1 → ∀ m' ρ' σ' l u s', ρ1.le ρ' → ExcRel (c.at m') ρ' σ' l u s' → X l σ' → E u s' := fun ρ1 le1 m2 ρ2 σ2 l u s2 le2 => kx m2 ρ2 σ2 l u s2 (Rho.le_trans le1 le2)
  refine guardQ_ok h fun hq h => bB_el h fun pi h => oE_el h (fun e hr h => bB_el h fun hx h => ?_) fun h => ?_
  · refine (range_some hr).elim fun g q => q.elim fun gp q => q.elim fun cp q => ?_
    refine For_invVF F0 (kind_at hs (kd_loc hx)) (by rw [C'.hk]; rfl) ?_ (fun v => fold_plain pi) hE
    rw [q.1]
    refine Call_ (name_blt (c.at m) TT Cm q.2.1 (kind_at hs q.2.2.1) q.2.2.2.2 R ?_) (by rfl)
    refine callWith_blt (code := 4) rfl (by rw [List.all_cons, q.2.2.2.1]; rfl) (one_ok I (c.at m) sc TT Cm hs q.2.2.2.1 R h (fun ρ1 σ1 v u s1 le1 R1 D1 h1 => ?_) kx0)
    have go : ∀ (k' : Nat) t, k' ≤ 1000 → vcFor (stN sc x) (vcSs T n sc body) id (numsFrom 0 k') σ1 K X → wpAny (MM c.w) c.A (call (bltVal 4) [.int (Int.ofNat k') t]) (fun it s₂ => wpAny (MM c.w) c.A (pyIter it) (fun it s₂ => LoopAtV PR c.w c.A c.h₀ c.env x body Q E it s₂) E s₂) E s1 := fun k' t hk' h1 => R1.elim fun news1 RA1 => range1_rows RA1.F RA1.N fun h' tk t₁ u₁ v₁ hr F' N' _ => by
      have F' : Fr c.h₀ c.L h' m := F'
      have N' : News c.h₀ c.L h' (c.X ++ news1) := N'
      have R2 : RelA (c.at m) ρ1 σ1 news1 { s1 with heap := h', toks := tk } := RA1.re F' N'
      exact iter_rangeUnr (n := k') (C'.hh hq) hr (range_small hk') (range_size k') (f.loc ▸ F') (f.loc ▸ N') fun Ia hI =>
        for_range I c sc x body TT C' f hs (kd_loc hx) (ρ₀ := ρ1) (s := { s1 with heap := h', toks := tk }) hE (fun m2 ρ2 σ2 s2 le2 R2 h2 => kn ρ1 le1 m2 ρ2 σ2 .next .next s2 le2 R2 .next h2) (fun m2 ρ2 σ2 v u s2 le2 R2 D2 h2 => kn ρ1 le1 m2 ρ2 σ2 (.ret v) (.ret u) s2 le2 R2 (.ret D2) h2) (fun m2 ρ2 σ2 l u s2 le2 R2 h2 => kn' ρ1 le1 m2 ρ2 σ2 l u s2 le2 R2 h2)
          k' 0 m ρ1 σ1 news1 h' tk ρ1.le_refl R2 (fun q hq => Nat.ne_of_lt (hI q hq)) h1
    refine oE_el h1 (fun k' hk h1 => bB_le h1 fun hk' h1 => ?_) fun h1 => oB_el h1 fun j hj h1 => ?_
    · exact natK_d (C := fun u => wpAny (MM c.w) c.A (call (bltVal 4) [u]) _ E s1) hk D1 fun t => go k' t hk' h1
    · obtain ⟨j, rfl⟩ := Int.eq_ofNat_of_zero_le h1.1.1
      exact siO_d (C := fun u => wpAny (MM c.w) c.A (call (bltVal 4) [u]) _ E s1) hj D1 fun t => go j t (Int.ofNat_le.mp h1.1.2) h1.2
  · refine For_turns F0 (ev it ρ σ s _ X _ _ R h (fun ρ1 σ1 v u s1 le1 R1 D1 h1 => ?_) kx0) (fun v => fold_plain pi) hE
    refine oE_el h1 (fun a ha h1 => ?_) fun h1 => oB_el h1 fun p hp h1 => oB_el h1 fun ss ht h1 => bB_le h1 fun hz h1 => ?_
    · rw [ref_el ha] at D1
      exact oE_el h1 (fun xs hg h1 => for_seq hq I c sc x px body TT C' f hs hE R1 (list_el hg) (.inl rfl) D1 h1 (kn ρ1 le1) (kn' ρ1 le1)) fun h1 => oE_el h1 (fun xs hg h1 => for_seq hq I c sc x px body TT C' f hs hE R1 (olist_el hg) (.inr (.inr rfl)) D1 h1 (kn ρ1 le1) (kn' ρ1 le1)) fun h1 => oB_el h1 fun xs hg h1 => for_seq hq I c sc x px body TT C' f hs hE R1 (tup_el hg) (.inr (.inl rfl)) D1 h1 (kn ρ1 le1) (kn' ρ1 le1)
    · rw [kref_d hp D1]
      exact for_tup hq I c sc x px body TT C' f hs hE R1 ht hz h1 (kn ρ1 le1) (kn' ρ1 le1)
end
section
variable {T : Tab} {n : Nat} (IA : ∀ m ≤ n, Snd T m) (c : Cd) (sc : Names) (TT : TabOk T c.w) (C' : Ck T.q c n) (f : Fk c) (hs : c.env.scope.names = sc) (m : Str → Option Value) {ρ : Rho} {σ : St} {s : Shared} {K : KS} {X : KX} {Q : Flow → Shared → Prop} {E : Value → Shared → Prop} (R : Rel (c.at m) ρ σ s)
  (k : ∀ m' ρ' σ' fl w s', ρ.le ρ' → Rel (c.at m') ρ' σ' s' → FlIs ρ' fl w → K fl σ' → Q w s') (kx0 : ∀ ρ' σ' l u s', ρ.le ρ' → ExcRel (c.at m) ρ' σ' l u s' → X l σ' → E u s')
include IA TT C' f hs R k kx0
theorem asgN_ok {x : Str} {xp pos : Pos} {e : Expr} (h : sAsgN (eng T n) sc x e σ K X) : wpAny (MM c.w) c.A (exec (.Assign [.Name x xp] e pos) c.env) Q E s := by
  refine bB_el h fun ov h => ?_
  cases nc : noComp e with
  | false => exact asg_comp IA c sc TT C' f hs nc ov R h k kx0
  | true => exact wpAny_Assign_Name ((IA n (Nat.le_refl n)).e (c.at m) sc e TT (C'.at f m) hs ρ σ s _ X _ _ R h (fun ρ1 σ1 v u s1 le1 R1 D1 h1 => stN_ok C' f hs R1 D1 h1 fun m2 σ2 s2 R2 h2 => k m2 ρ1 σ2 .next .next s2 le1 R2 .next h2) kx0) (swaps_not nc)
theorem asgA_ok {o : Expr} {a : Str} {ap pos : Pos} {e : Expr} (h : sAsgA T (eng T n) sc o a e σ K X) : wpAny (MM c.w) c.A (exec (.Assign [.Attribute o a ap] e pos) c.env) Q E s := by
  have I := IA n (Nat.le_refl n)
  have Cm := C'.at f m
  refine bB_el h fun nc h => plainObj_wpAny_Assign_Attribute (I.e (c.at m) sc e TT Cm hs ρ σ s _ X _ _ R h (fun ρ1 σ1 v u s1 le1 R1 D1 h1 => ?_) kx0) (swaps_attr nc)
  refine I.e (c.at m) sc o TT Cm hs ρ1 σ1 s1 _ X _ _ R1 h1 (fun ρ2 σ2 ov ou s2 le2 R2 D2 h2 => ?_) fun ρ2 σ2 l u s2 le2 => kx0 ρ2 σ2 l u s2 (Rho.le_trans le1 le2)
  exact setA_ok (c := c.at m) TT Cm R2 D2 (D1.mono le2) h2 fun σ3 s3 R3 h3 => k m ρ2 σ3 .next .next s3 (Rho.le_trans le1 le2) R3 .next h3
theorem asgI_ok {o i : Expr} {ap pos : Pos} {e : Expr} (h : sAsgI (eng T n) sc o i e σ K X) : wpAny (MM c.w) c.A (exec (.Assign [.Subscript o i ap] e pos) c.env) Q E s := by
  have I := IA n (Nat.le_refl n)
  have Cm := C'.at f m
  refine bB_el h fun nc h => wpAny_Assign_Subscript (I.e (c.at m) sc e TT Cm hs ρ σ s _ X _ _ R h (fun ρ1 σ1 v u s1 le1 R1 D1 h1 => ?_) kx0) (swaps_not nc)
  refine I.e (c.at m) sc o TT Cm hs ρ1 σ1 s1 _ X _ _ R1 h1 (fun ρ2 σ2 ov ou s2 le2 R2 D2 h2 => ?_) fun ρ2 σ2 l u s2 le2 => kx0 ρ2 σ2 l u s2 (Rho.le_trans le1 le2)
  refine I.e (c.at m) sc i TT Cm hs ρ2 σ2 s2 _ X _ _ R2 h2 (fun ρ3 σ3 iv iu s3 le3 R3 D3 h3 => ?_) fun ρ3 σ3 l u s3 le3 => kx0 ρ3 σ3 l u s3 (Rho.le_trans le1 (Rho.le_trans le2 le3))
  exact stI_ok (c := c.at m) R3 (D2.mono le3) D3 (D1.mono (Rho.le_trans le2 le3)) h3 fun σ4 s4 R4 h4 => k m ρ3 σ4 .next .next s4 (Rho.le_trans le1 (Rho.le_trans le2 le3)) R4 .next h4
omit IA TT f hs k kx0 R in
theorem pair_ok {ρ1 : Rho} {σ1 : St} {s1 : Shared} {v : V} {u : Value} {t1 t2 : Expr} {tk : Nat} {tp : Pos} {P : V → V → Prop} {Q : Unit → Shared → Prop} (hq : T.q = false) (R1 : Rel (c.at m) ρ1 σ1 s1) (D1 : Den ρ1 v u) (h1 : pairV v σ1 P)
    (ha : assignEach [t1, t2] c.env = [(false, assign t1 c.env), (false, assign t2 c.env)])
    (kk : ∀ h' v1 v2 u1 u2, Rel (c.at m) ρ1 σ1 { s1 with heap := h' } → Den ρ1 v1 u1 → Den ρ1 v2 u2 → P v1 v2 → wpAny (MM c.w) c.A (do holding [u2] (assign t1 c.env u1); (do holding [] (assign t2 c.env u2); pure ())) Q E { s1 with heap := h' }) : wpAny (MM c.w) c.A (assign (.Tuple [t1, t2] tk tp) c.env u) Q E s1 := by
  refine oB_el h1 fun p hp h1 => oB_el h1 fun xs hg h1 => oB_el h1 fun q hq2 h1 => ?_
  refine ref_d hp D1 fun ad ea => R1.elim fun news1 RA1 => RA1.ldt ea hg fun vs nn m1 g1 al => ?_
  rw [twoL_el hq2] at al
  refine al.get2.elim fun u1 z => z.elim fun u2 z => ?_
  refine assign_Tuple_tuple (C'.hh hq) (items := vs) ⟨_, g1, rfl, nn, rfl⟩ (by rw [← Array.length_toList, z.1, ha]; rfl) (by rw [ha]; rfl) fun h' he => ?_
  rw [ha, z.1]
  exact kk h' q.1 q.2 u1 u2 ⟨news1, RA1.re (t := s1.toks) (RA1.F.extBut he (Nat.le_refl _)) fun q hq => ⟨he q.1 q.2 (Nat.ne_of_lt (Heap.lt_size (RA1.N q hq).1)) (RA1.N q hq).1, (RA1.N q hq).2⟩⟩ z.2.1 z.2.2 h1
theorem asgT_ok {elts : List Expr} {tk : Nat} {tp pos : Pos} {e : Expr} (h : sAsgT T (eng T n) sc elts e σ K X) : wpAny (MM c.w) c.A (exec (.Assign [.Tuple elts tk tp] e pos) c.env) Q E s := by
  have I := IA n (Nat.le_refl n)
  have Cm := C'.at f m
  have ev := fun e => I.e (c.at m) sc e TT Cm hs
  refine guardQ_ok h fun hq h => oE_el h (fun q ht h => ?_) fun h => oB_el h fun q ht h => ?_
  · have z := tup2_some ht
    refine z.2.elim fun e1 y => y.elim fun e2 y => y.elim fun ek y => y.elim fun ep y => ?_
    rw [z.1]
    refine Assign_Tuple (ev _ ρ σ s _ X _ _ R h (fun ρ1 σ1 v u s1 le1 R1 D1 h1 => pair_ok c C' m hq R1 D1 h1 rfl fun h' v1 v2 u1 u2 R2 d1 d2 h1 => ?_) kx0) (by rw [y]; rfl) (by rw [y]; exact swapped_attr)
    have kx1 : ∀ ρ' σ' l u s', ρ1.le ρ' → ExcRel (c.at m) ρ' σ' l u s' → X l σ' → E u s' := fun ρ2 σ2 l u s2 le2 => kx0 ρ2 σ2 l u s2 (Rho.le_trans le1 le2)
    refine wpAny_bind (wpAny_holding (asg_attr (ev q.1.1 ρ1 σ1 _ _ X _ _ R2 h1 (fun ρ2 σ2 ov ou s2 le2 R3 D3 h2 => ?_) kx1)))
    refine setA_ok (c := c.at m) TT Cm R3 D3 (d1.mono le2) h2 fun σ3 s3 R4 h3 => ?_
    refine wpAny_bind (wpAny_holding (asg_attr (ev q.2.1 ρ2 σ3 s3 _ X _ _ R4 h3 (fun ρ3 σ4 ov2 ou2 s4 le3 R5 D5 h4 => ?_) fun ρ3 σ4 l u s4 le3 => kx1 ρ3 σ4 l u s4 (Rho.le_trans le2 le3))))
    exact setA_ok (c := c.at m) TT Cm R5 D5 (d2.mono (Rho.le_trans le2 le3)) h4 fun σ5 s5 R6 h5 => wpAny_pure (k m ρ3 σ5 .next .next s5 (Rho.le_trans le1 (Rho.le_trans le2 le3)) R6 .next h5)
  · have z := tupN_some ht
    refine z.2.elim fun fe y => y.elim fun as y => y.elim fun ks y => y.elim fun ep y => ?_
    rw [z.1]
    refine Assign_Tuple (ev _ ρ σ s _ X _ _ R h (fun ρ1 σ1 v u s1 le1 R1 D1 h1 => pair_ok c C' m hq R1 D1 h1 rfl fun h' v1 v2 u1 u2 R2 d1 d2 h1 => ?_) kx0) (by rw [y]; rfl) (by rw [y]; rfl)
    refine wpAny_bind (wpAny_holding (wpAny_assign_Name (stN_ok C' f hs R2 d1 h1 fun m3 σ3 s3 R3 h3 => ?_)))
    exact wpAny_bind (wpAny_holding (wpAny_assign_Name (stN_ok C' f hs R3 d2 h3 fun m4 σ4 s4 R4 h4 => wpAny_pure (k m4 ρ1 σ4 .next .next s4 le1 R4 .next h4))))
theorem asg_ok {ts : List Expr} {pos : Pos} {e : Expr} (h : sAsg T (eng T n) sc ts e σ K X) : wpAny (MM c.w) c.A (exec (.Assign ts e pos) c.env) Q E s := by
  refine oB_el h fun t ht h => ?_
  rw [oneL_el ht]
  refine oE_el h (fun x hx h => ?_) fun h => oE_el h (fun a ha h => ?_) fun h => oE_el h (fun q hq h => ?_) fun h => oB_el h fun q hq h => ?_
  · rw [name_el hx]; exact asgN_ok IA c sc TT C' f hs m R k kx0 h
  · rw [attr_el ha]; exact asgA_ok IA c sc TT C' f hs m R k kx0 h
  · rw [subE_el hq]; exact asgI_ok IA c sc TT C' f hs m R k kx0 h
  · rw [tupE_el hq]; exact asgT_ok IA c sc TT C' f hs m R k kx0 h
theorem aug_ok {t : Expr} {op : Operator} {pos : Pos} {e : Expr} (h : sAug T (eng T n) sc t op e σ K X) : wpAny (MM c.w) c.A (exec (.AugAssign t op e pos) c.env) Q E s := by
  have I := IA n (Nat.le_refl n)
  have Cm := C'.at f m
  have ev := fun e => I.e (c.at m) sc e TT Cm hs
  refine oE_el h (fun x hx h => bB_el h fun hk h => oB_el h fun v hv h => ?_) fun h => oE_el h (fun q hq h => bB_el h fun ns h => ?_) fun h => oB_el h fun a ha h => ?_
  · rw [name_el hx]
    refine R.elim fun news RA => (RA.loc x.1 v hv).elim fun u q => ?_
    have ns : s.heap.Ns c.env.locals m := by rw [f.loc]; exact RA.F.ns
    refine wpAny_AugAssign_Name (wpAny_loadName_local C'.hk (kind_at hs (kd_loc hk)) ns q.1 ?_)
    refine ev e ρ σ s _ X _ _ R h (fun ρ1 σ1 b w s1 le1 R1 D1 h1 => ?_) kx0
    exact augV_ok (c := c.at m) R1 (q.2.mono le1) D1 h1 fun r w2 s2 R2 D2 h2 => stN_ok C' f hs R2 D2 h2 fun m3 σ3 s3 R3 h3 => k m3 ρ1 σ3 .next .next s3 le1 R3 .next h3
  · rw [subE_el hq]
    refine wpAny_AugAssign_SubscriptAny (ev q.1 ρ σ s _ X _ _ R h (fun ρ1 σ1 ov ou s1 le1 R1 D1 h1 => ?_) kx0) (fun _ _ _ => aug_plain ns)
    refine ev q.2.1 ρ1 σ1 s1 _ X _ _ R1 h1 (fun ρ2 σ2 iv iu s2 le2 R2 D2 h2 => ?_) fun ρ2 σ2 l u s2 le2 => kx0 ρ2 σ2 l u s2 (Rho.le_trans le1 le2)
    refine (subV_get (c := c.at m) R2 (D1.mono le2) D2 h2 fun old w s3 R3 D3 h3 => ?_).2
    refine ev e ρ2 σ2 s3 _ X _ _ R3 h3 (fun ρ4 σ4 b w4 s4 le4 R4 D4 h4 => ?_) fun ρ4 σ4 l u s4 le4 => kx0 ρ4 σ4 l u s4 (Rho.le_trans le1 (Rho.le_trans le2 le4))
    refine augV_ok (c := c.at m) R4 (D3.mono le4) D4 h4 fun r w5 s5 R5 D5 h5 => ?_
    exact stI_ok (c := c.at m) R5 (D1.mono (Rho.le_trans le2 le4)) (D2.mono le4) D5 h5 fun σ6 s6 R6 h6 => k m ρ4 σ6 .next .next s6 (Rho.le_trans le1 (Rho.le_trans le2 le4)) R6 .next h6
  · rw [attr_el ha]
    refine wpAny_AugAssign_AttributeAny (ev a.1 ρ σ s _ X _ _ R h (fun ρ1 σ1 ov ou s1 le1 R1 D1 h1 => ?_) kx0)
    refine getA_ok (c := c.at m) TT Cm R1 D1 h1 fun old w s2 R2 D2 h2 => ?_
    refine ev e ρ1 σ1 s2 _ X _ _ R2 h2 (fun ρ3 σ3 b w3 s3 le3 R3 D3 h3 => ?_) fun ρ2 σ2 l u s2 le2 => kx0 ρ2 σ2 l u s2 (Rho.le_trans le1 le2)
    refine augV_ok (c := c.at m) R3 (D2.mono le3) D3 h3 fun r w4 s4 R4 D4 h4 => ?_
    exact setA_ok (c := c.at m) TT Cm R4 (D1.mono le3) D4 h4 fun σ5 s5 R5 h5 => k m ρ3 σ5 .next .next s5 (Rho.le_trans le1 le3) R5 .next h5
end
section
variable {T : Tab} {n : Nat}
theorem st_succ (IA : ∀ m ≤ n, Snd T m) (c : Cd) (sc : Names) (st : Stmt) (TT : TabOk T c.w) (C : Ck T.q c (n + 1)) (f : Fk c) (hs : c.env.scope.names = sc) : SndS c (vcS T (n + 1) sc st) (exec st c.env) := by
  have I := IA n (Nat.le_refl n)
  have C' := C.le (Nat.le_succ n)
  intro m ρ σ s K X Q E hE R h k kx
  have kx0 := kx m
  have Cm := C'.at f m
  have ev := fun e => I.e (c.at m) sc e TT Cm hs
  cases st with
  | Assign ts e pos => exact asg_ok IA c sc TT C' f hs m R k kx0 h
  | AugAssign t op e pos => exact aug_ok IA c sc TT C' f hs m R k kx0 h
  | Return e pos =>
    cases e with
    | none => exact wpAny_Return_none (k m ρ σ (.ret .none) _ s ρ.le_refl R (.ret rfl) h)
    | some e => exact wpAny_Return_some (ev e ρ σ s _ X _ _ R h (fun ρ1 σ1 v u s1 le1 R1 D1 h1 => k m ρ1 σ1 (.ret v) _ s1 le1 R1 (.ret D1) h1) kx0)
  | Pass pos => exact wpAny_Pass (k m ρ σ .next _ s ρ.le_refl R .next h)
  | Continue pos => exact wpAny_Continue (k m ρ σ .cont _ s ρ.le_refl R .cont h)
  | Expr e pos => exact bB_el h fun nc h => wpAny_Expr_any (ev e ρ σ s _ X _ _ R h (fun ρ1 σ1 v u s1 le1 R1 D1 h1 => k m ρ1 σ1 .next _ s1 le1 R1 .next h1) kx0) (by unfold interactive; rw [C.hk]; rfl) (swaps_not nc)
  | For tg it body els pos =>
    refine bB_el h fun he h => oB_el h fun x hx h => ?_
    rw [nilL_el he, name_el hx]
    exact for_ok I c sc x.1 x.2 it body TT C' f hs hE R h k kx
  | While t b els pos =>
    refine bB_el h fun he h => ?_
    rw [nilL_el he]
    exact whl_start 8 (while_ok I c sc t b TT C' f hs hE k kx 8 m ρ σ s ρ.le_refl R h)
  | If t b o pos =>
    refine wpAny_If (I.t (c.at m) sc t TT Cm hs ρ σ s _ X _ _ R h (fun ρ1 σ1 q s1 le1 R1 h1 => ?_) kx0)
    have kx1 : ∀ m' ρ' σ' l u s', ρ1.le ρ' → ExcRel (c.at m') ρ' σ' l u s' → X l σ' → E u s' := fun m2 ρ2 σ2 l u s2 le2 => kx m2 ρ2 σ2 l u s2 (Rho.le_trans le1 le2)
    cases q with
    | true => rw [if_pos rfl]; exact I.ss c sc b TT C' f hs m ρ1 σ1 s1 K X _ _ hE R1 h1 (fun m2 ρ2 σ2 fl w s2 le2 => k m2 ρ2 σ2 fl w s2 (Rho.le_trans le1 le2)) kx1
    | false => rw [if_neg Bool.false_ne_true]; exact I.ss c sc o TT C' f hs m ρ1 σ1 s1 K X _ _ hE R1 h1 (fun m2 ρ2 σ2 fl w s2 le2 => k m2 ρ2 σ2 fl w s2 (Rho.le_trans le1 le2)) kx1
  | _ => exact False.elim h
end
theorem snd_all (T : Tab) (n : Nat) : ∀ m ≤ n, Snd T m := by
  induction n with
  | zero => exact fun m h => (Nat.le_zero.mp h).symm ▸ snd_zero T
  | succ n I =>
    intro m h
    refine (Nat.lt_or_eq_of_le h).elim (fun q => I m (Nat.le_of_lt_succ q)) fun q => ?_
    have In := I n (Nat.le_refl n)
    exact q ▸ ⟨fun c sc e => e_succ In c sc e, fun c sc e => t_succ In c sc e, fun c sc op es pos whole => b_succ In c sc op es pos whole, fun c f vs us => c_succ I c f vs us, fun c sc ss => ss_succ In c sc ss, fun c sc st => st_succ I c sc st⟩
theorem snd (T : Tab) (n : Nat) : Snd T n := snd_all T n n (Nat.le_refl n)
end Mine
namespace Mine
noncomputable def V.rn (r : Nat → Nat) (v : V) : V := @V.casesOn (fun _ => V) v .none .bool .sb .int .si .str .ss (fun a => .ref (r a)) .k fun b x y => .either b (r x) (r y)
noncomputable def kvm {α : Type} (g : V → V) (l : List (α × V)) : List (α × V) := l.map fun p => (p.1, g p.2)
noncomputable def O.mp (g : V → V) (r : Nat → Nat) (o : O) : O := @O.casesOn (fun _ => O) o (fun c d => .inst c (r d)) (fun kvs => .dict (kvm g kvs)) .odict (fun kvs => .idict (kvm g kvs)) (fun xs => .list (xs.map g)) (fun xs => .tup (xs.map g)) (fun v => .cell (v.map g)) .ints (fun kvs abs b => .pdict (kvm g kvs) abs b) (fun kvs => .pidict (kvm g kvs)) .cdict .tlist (fun xs => .olist (xs.map g)) fun d => .exc (r d)
noncomputable def O.rn (r : Nat → Nat) (o : O) : O := O.mp (V.rn r) r o
noncomputable def V.has (j : Nat) (v : V) : Prop := @V.casesOn (fun _ => Prop) v False (fun _ => False) (fun _ => False) (fun _ => False) (fun _ => False) (fun _ => False) (fun _ => False) (fun a => a = j) (fun _ => False) fun b x y => cond b x y = j
noncomputable def O.has (j : Nat) (o : O) : Prop := @O.casesOn (fun _ => Prop) o (fun _ d => d = j) (fun kvs => ∃ p ∈ kvs, p.2.has j) (fun _ => False) (fun kvs => ∃ p ∈ kvs, p.2.has j) (fun xs => ∃ x ∈ xs, x.has j) (fun xs => ∃ x ∈ xs, x.has j) (fun v => ∃ x, v = some x ∧ x.has j) (fun _ => False)
  (fun kvs _ _ => ∃ f v, lkS kvs f = some v ∧ v.has j) (fun kvs => ∃ f v, lkI kvs f = some v ∧ v.has j) (fun _ _ => False) (fun _ => False) (fun xs => ∃ x ∈ xs, x.has j) fun d => d = j
theorem Den.cong {ρ ρ' : Rho} {v : V} {u : Value} (h : ∀ a, v.has a → ρ' a = ρ a) (x : Den ρ v u) : Den ρ' v u := by
  cases v with
  | ref a => exact x.elim fun ad q => ⟨ad, (h a rfl).trans q.1, q.2⟩
  | either b x y => exact x.elim fun ad q => ⟨ad, (h _ rfl).trans q.1, q.2⟩
  | _ => exact x
theorem den_rn {ρ : Rho} {g : Nat → Nat} {v : V} {u : Value} (d : Den ρ (v.rn g) u) : Den (fun a => ρ (g a)) v u := by
  cases v with
  | either b x y => cases b <;> exact d
  | _ => exact d
section
variable {α α' β : Type}
theorem all2_mem_l {R : α → β → Prop} {as : List α} {bs : List β} (h : All2 R as bs) : ∀ a ∈ as, ∃ b ∈ bs, R a b := by
  induction h with
  | nil => exact fun _ h => absurd h List.not_mem_nil
  | cons x _ ih => exact fun a ha => (List.mem_cons.mp ha).elim (fun e => ⟨_, .head _, e ▸ x⟩) fun ha => (ih a ha).elim fun b q => ⟨b, .tail _ q.1, q.2⟩
theorem all2_un {R : α' → β → Prop} {R' : α → β → Prop} {g : α → α'} {as : List α} {bs : List β} (h : ∀ a ∈ as, ∀ b, R (g a) b → R' a b) (x : All2 R (as.map g) bs) : All2 R' as bs := by
  induction as generalizing bs with
  | nil => exact All2.nil_d x .nil
  | cons a as ih => exact All2.cons_d x fun b r y z => .cons (h a (.head _) _ y) (ih (fun a ha => h a (.tail _ ha)) z)
theorem all2_with {R S : α → β → Prop} {as : List α} {bs : List β} (x : All2 R as bs) (h : ∀ a ∈ as, ∀ b, R a b → S a b) : All2 S as bs := all2_un (g := id) h ((List.map_id as).symm ▸ x)
theorem all2_map {R : α → β → Prop} {R' : α' → β → Prop} {g : α → α'} {as : List α} {bs : List β} (h : ∀ a b, R a b → R' (g a) b) (x : All2 R as bs) : All2 R' (as.map g) bs := by
  induction x with
  | nil => exact .nil
  | cons y _ ih => exact .cons (h _ _ y) ih
end
theorem keys_map {α : Type} {g : V → V} {kvs : List (α × V)} : (kvm g kvs).map (·.1) = kvs.map (·.1) := (List.map_map ..).trans rfl
theorem len_map {α : Type} {g : V → V} {kvs : List (α × V)} : (kvm g kvs).length = kvs.length := List.length_map ..
theorem lkI_mem {α : Type} {x : Int} {v : α} {l : List (Int × α)} (h : lkI l x = some v) : (x, v) ∈ l := lkB_mem (intT x) h
section
variable {P : Params} {ρ ρ' : Rho} {ob : Obj} {g : V → V}
theorem DictIs.k {ws : List (Str × Value)} (x : DictIs P ρ (kkv ws) ob) : DictIs P ρ' (kkv ws) ob :=
  x.rec fun es n q a b c => ⟨es, n, q, all2_map (R := fun p e => Ent P ρ' (p.1, .k p.2) e) (fun a b y => y) (all2_un (R' := fun p e => Ent P ρ' (p.1, .k p.2) e) (fun a ha b y => y) a), b, c⟩
theorem DictIs.t {ws : List (Str × Str)} (x : DictIs P ρ (tkv ws) ob) : DictIs P ρ' (tkv ws) ob :=
  x.rec fun es n q a b c => ⟨es, n, q, all2_map (R := fun p e => Ent P ρ' (p.1, .ss p.2) e) (fun a b y => y) (all2_un (R' := fun p e => Ent P ρ' (p.1, .ss p.2) e) (fun a ha b y => y) a), b, c⟩
theorem IDictIs.k {ws : List (Int × Value)} (x : IDictIs ρ (kkv ws) ob) : IDictIs ρ' (kkv ws) ob :=
  x.rec fun es n q a b c => ⟨es, n, q, all2_map (R := fun p e => IEnt ρ' (p.1, .k p.2) e) (fun a b y => y) (all2_un (R' := fun p e => IEnt ρ' (p.1, .k p.2) e) (fun a ha b y => y) a), b, c⟩
theorem DictIs.tr {kvs : List (Str × V)} (x : DictIs P ρ (kvm g kvs) ob) (h : ∀ p ∈ kvs, ∀ u, Den ρ (g p.2) u → Den ρ' p.2 u) : DictIs P ρ' kvs ob :=
  x.rec fun es n q a b c => ⟨es, n, q, all2_un (fun p hp e y => ⟨y.1, y.2.1, h p hp _ y.2.2⟩) a, (congrArg List.Nodup keys_map).mp b, Nat.le_trans (Nat.le_of_eq len_map.symm) c⟩
theorem IDictIs.tr {kvs : List (Int × V)} (x : IDictIs ρ (kvm g kvs) ob) (h : ∀ p ∈ kvs, ∀ u, Den ρ (g p.2) u → Den ρ' p.2 u) : IDictIs ρ' kvs ob :=
  x.rec fun es n q a b c => ⟨es, n, q, all2_un (fun p hp e y => ⟨y.1, y.2.1, h p hp _ y.2.2⟩) a, (congrArg List.Nodup keys_map).mp b, Nat.le_trans (Nat.le_of_eq len_map.symm) c⟩
theorem ListIs.tr {xs : List V} (x : ListIs ρ (xs.map g) ob) (h : ∀ v ∈ xs, ∀ u, Den ρ (g v) u → Den ρ' v u) : ListIs ρ' xs ob := x.rec fun vs n q a => ⟨vs, n, q, all2_un (fun v hv u y => h v hv u y) a⟩
theorem kn_tr {β : Type} {t : β → Bool} {kvs : List (β × V)} {ws : List (β × Value)} (k : ∀ v, lkB t (kvm g kvs) = some v → ∃ u, lkB t ws = some u ∧ Den ρ v u) (h : ∀ v, lkB t kvs = some v → ∀ u, Den ρ (g v) u → Den ρ' v u) : ∀ v, lkB t kvs = some v → ∃ u, lkB t ws = some u ∧ Den ρ' v u :=
  fun v e => (k (g v) (lkB_map.trans (congrArg (Option.map g) e))).elim fun u q => ⟨u, q.1, h v e u q.2⟩
theorem ObjIs.tr {r : Nat → Nat} {o : O} (x : ObjIs P ρ (o.mp g r) ob) (h : ∀ v, (∀ a, v.has a → o.has a) → ∀ u, Den ρ (g v) u → Den ρ' v u) (hn : ∀ a, o.has a → ρ' a = ρ (r a)) : ObjIs P ρ' o ob := by
  cases o with
  | inst c d => exact x.elim fun dx q => ⟨dx, (hn d rfl).trans q.1, q.2⟩
  | dict kvs => exact DictIs.tr x fun p hp => h p.2 fun a ha => ⟨p, hp, ha⟩
  | odict kvs => exact DictIs.t x
  | idict kvs => exact IDictIs.tr x fun p hp => h p.2 fun a ha => ⟨p, hp, ha⟩
  | list xs => exact ListIs.tr x fun p hp => h p fun a ha => ⟨p, hp, ha⟩
  | tup xs => exact x.rec fun vs n q b => ⟨vs, n, q, all2_un (fun v hv u y => h v (fun a ha => ⟨v, hv, ha⟩) u y) b⟩
  | cell v =>
    cases v with
    | none => exact x
    | some z => exact x.elim fun c q => ⟨c, q.1, q.2.elim fun u w => ⟨u, w.1, h z (fun a ha => ⟨z, rfl, ha⟩) u w.2⟩⟩
  | «ints» ns => exact x
  | pdict kvs abs b => exact x.rec fun ws d kn ab le => ⟨ws, d.k, fun f => kn_tr (kn f) fun v e => h v fun a ha => ⟨f, v, e, ha⟩, fun f e1 e2 => ab f e1 (lkB_map.trans (congrArg (Option.map g) e2)), le⟩
  | pidict kvs => exact x.rec fun ws d kn => ⟨ws, d.k, fun f => kn_tr (kn f) fun v e => h v fun a ha => ⟨f, v, e, ha⟩⟩
  | cdict B n => exact x.rec fun ws d kn le => ⟨ws, d.k, kn, le⟩
  | tlist ss => exact x
  | olist xs => exact ListIs.tr x fun p hp => h p fun a ha => ⟨p, hp, ha⟩
  | exc d => exact x.rec fun dx e c n q => ⟨dx, (hn d rfl).trans e, c, n, q⟩
theorem mp_id {o : O} : o.mp id id = o := by
  cases o with
  | dict kvs => exact congrArg O.dict (List.map_id kvs)
  | idict kvs => exact congrArg O.idict (List.map_id kvs)
  | list kvs => exact congrArg O.list (List.map_id kvs)
  | tup kvs => exact congrArg O.tup (List.map_id kvs)
  | olist kvs => exact congrArg O.olist (List.map_id kvs)
  | pdict kvs abs b => exact congrArg (O.pdict · abs b) (List.map_id kvs)
  | pidict kvs => exact congrArg O.pidict (List.map_id kvs)
  | cell v => exact congrArg O.cell Option.map_id'
  | _ => rfl
theorem ObjIs.cong {o : O} (h : ∀ a, o.has a → ρ' a = ρ a) (x : ObjIs P ρ o ob) : ObjIs P ρ' o ob := ObjIs.tr (g := id) (r := id) (mp_id.symm ▸ x) (fun v hv u d => Den.cong (fun a ha => h a (hv a ha)) d) h
theorem ObjIs.rn {g : Nat → Nat} {o : O} (x : ObjIs P ρ (o.rn g) ob) : ObjIs P (fun a => ρ (g a)) o ob := ObjIs.tr x (fun v hv u d => den_rn d) fun a ha => rfl
end
end Mine
namespace Mine
theorem all2_perm {α β : Type} {R : α → β → Prop} {as as' : List α} (p : as.Perm as') {bs : List β} (h : All2 R as bs) : ∃ bs', bs.Perm bs' ∧ All2 R as' bs' := by
  induction p generalizing bs with
  | nil => exact ⟨bs, .refl _, h⟩
  | cons x _ ih => exact All2.cons_d h fun b r y z => (ih z).elim fun bs' q => ⟨b :: bs', q.1.cons _, .cons y q.2⟩
  | swap x y l => exact All2.cons_d h fun b r a z => All2.cons_d z fun b' r' a' z' => ⟨_, .swap _ _ _, .cons a' (.cons a z')⟩
  | trans _ _ ih1 ih2 => exact (ih1 h).elim fun b1 q => (ih2 q.2).elim fun b2 w => ⟨b2, q.1.trans w.1, w.2⟩
theorem all2_split {α β : Type} {R : α → β → Prop} {as as' : List α} {bs : List β} (h : All2 R (as ++ as') bs) : ∃ b1 b2, bs = b1 ++ b2 ∧ All2 R as b1 ∧ All2 R as' b2 := by
  induction as generalizing bs with
  | nil => exact ⟨[], bs, rfl, .nil, h⟩
  | cons a as ih => exact All2.cons_d h fun b r y z => (ih z).elim fun b1 q => q.elim fun b2 q => ⟨b :: b1, b2, congrArg (b :: ·) q.1, .cons y q.2.1, q.2.2⟩
noncomputable def Cd.part (c : Cd) (nr : List (Addr × Obj)) : Cd := { c with X := nr ++ c.X }
theorem Ck.part {q : Bool} {c : Cd} {n : Nat} (C : Ck q c n) (nr : List (Addr × Obj)) : Ck q (c.part nr) n :=
  { C with
    hns := fun h F N => C.hns h F fun q hq => N q (List.mem_append_right _ hq)
    xs := ⟨C.xs.ne, fun y hy => (List.map_append ▸ List.mem_append_right _ (C.xs.ys y hy) : y ∈ (nr ++ c.X).map (·.1))⟩ }
theorem perm3 {α : Type} {X nr ns : List α} : ((nr ++ X) ++ ns).Perm (X ++ (ns ++ nr)) := by
  rw [List.append_assoc]
  exact List.perm_append_comm.trans (by rw [List.append_assoc])
section
variable {P : Params} {X X' nr : List (Addr × Obj)} {Y : List Addr} {ρ ρ2 : Rho} {H H' Hr tm : Hp} {nx N : Nat} {news ns : List (Addr × Obj)}
theorem NmA.up (R : NmA P X Y ρ H nx news) (h : nx ≤ N) : NmA P X Y ρ H N news := ⟨R.nd, R.led, R.rng, R.inj, fun a ha => R.fresh a (Nat.le_trans h ha), R.sm, R.off⟩
theorem NmA.cut (R : NmA P X Y ρ H nx news) (pm : H.Perm (tm ++ Hr)) : ∃ ns nr, (X ++ news).Perm ((nr ++ X) ++ ns) ∧ NmA P (nr ++ X) Y ρ tm nx ns ∧ LedIs P ρ Hr nr ∧ ∀ q ∈ nr, IsD q.2 → q.1 ≠ sysModules :=
  (all2_perm pm R.led).elim fun nw a => (all2_split a.2).elim fun ns b => b.elim fun nr b =>
    have pn : news.Perm (ns ++ nr) := b.1 ▸ a.1
    have p : (X ++ news).Perm ((nr ++ X) ++ ns) := (pn.append_left X).trans perm3.symm
    ⟨ns, nr, p, R.pm p b.2.1 fun q hq => R.sm q (pn.mem_iff.mpr (List.mem_append_left _ hq)), b.2.2, fun q hq => R.sm q (pn.mem_iff.mpr (List.mem_append_right _ hq))⟩
theorem NmA.join (R : NmA P (nr ++ X) Y ρ H nx ns) (l : LedIs P ρ Hr nr) (sm : ∀ q ∈ nr, IsD q.2 → q.1 ≠ sysModules) : NmA P X Y ρ (H ++ Hr) nx (ns ++ nr) :=
  R.pm perm3 (All2.append R.led l) fun q hq => (List.mem_append.mp hq).elim (R.sm q) (sm q)
end
theorem frame {q : Bool} {c : Cd} {n : Nat} (C : Ck q c n) {ρ : Rho} {σ : St} {s : Shared} (R : Rel c ρ σ s) {tm Hr : Hp} {N : Nat} (pm : σ.H.Perm (tm ++ Hr)) (hN : σ.nx ≤ N) {G : Prop}
    (k : ∀ c1 : Cd, Ck q c1 n → c1.w = c.w → c1.A = c.A → Rel c1 ρ ⟨[], [], tm, N⟩ s →
      (∀ ρ2 σ2 s2, ρ.le ρ2 → Rel c1 ρ2 σ2 s2 → Rel c ρ2 { σ with H := σ2.H ++ Hr, nx := σ2.nx } s2) →
      (∀ ρ2 σ2 l u s2, ρ.le ρ2 → ExcRel c1 ρ2 σ2 l u s2 → ExcRel c ρ2 { σ with H := σ2.H ++ Hr, nx := σ2.nx } l u s2) → G) : G :=
  R.elim fun news R => (R.nm.cut pm).elim fun ns z => z.elim fun nr z =>
    k (c.part nr) (C.part nr) rfl rfl ⟨ns, R.F, fun q hq => R.N q (z.1.mem_iff.mpr hq), z.2.1.up hN, fun _ _ e => nS e, fun _ _ e => nS e, R.sh⟩
      (fun ρ2 σ2 s2 le R2 => R2.elim fun ns2 R2 => ⟨ns2 ++ nr, R2.F, fun q hq => R2.N q (perm3.mem_iff.mpr hq), R2.nm.join (LedIs.mono le z.2.2.1) z.2.2.2, R.loc.mono le, R.cel.mono le, R2.sh⟩)
      fun ρ2 σ2 l u s2 le R2 => R2.elim fun e R2 => R2.elim fun Gh R2 => R2.elim fun ns2 R2 => ⟨e, Gh, ns2 ++ nr, R2.1, R2.2.F, fault_sub R2.2.fl fun q hq => perm3.mem_iff.mpr hq, R2.2.up, R2.2.nm.join (LedIs.mono le z.2.2.1) z.2.2.2, R.loc.mono le, R.cel.mono le, R2.2.sh⟩
noncomputable def memN (l : List Nat) (x : Nat) : Bool := @List.rec Nat (fun _ => Bool) false (fun p _ ih => @Bool.rec (fun _ => Bool) ih true (Nat.beq p x)) l
noncomputable def ndN (l : List Nat) : Bool := @List.rec Nat (fun _ => Bool) true (fun p r ih => !memN r p && ih) l
theorem memN_of {x : Nat} {l : List Nat} (h : memN l x = true) : x ∈ l := by
  induction l with
  | nil => exact Bool.noConfusion h
  | cons p r ih => exact bool_el (b := Nat.beq p x) (fun e => Nat.eq_of_beq_eq_true e ▸ .head _) fun e => .tail _ (ih ((congrArg (@Bool.rec (fun _ => Bool) (memN r x) true) e).symm.trans h))
theorem memN_in {x : Nat} {l : List Nat} (h : x ∈ l) : memN l x = true := by
  induction l with
  | nil => exact absurd h List.not_mem_nil
  | cons p r ih => exact bool_el (b := Nat.beq p x) (fun e => congrArg (@Bool.rec (fun _ => Bool) (memN r x) true) e) fun e => (congrArg (@Bool.rec (fun _ => Bool) (memN r x) true) e).trans ((List.mem_cons.mp h).elim (fun q => Bool.noConfusion (e.symm.trans (q ▸ Nat.beq_refl x : Nat.beq p x = true))) ih)
theorem ndN_ok {l : List Nat} (h : ndN l = true) : l.Nodup := by
  induction l with
  | nil => exact List.nodup_nil
  | cons p r ih => exact and_el h fun a b => not_el a fun a => List.nodup_cons.mpr ⟨fun m => Bool.noConfusion (a.symm.trans (memN_in m)), ih b⟩
noncomputable def gf (N : Nat) (gl : List (Nat × Nat)) (big a : Nat) : Nat := @Bool.rec (fun _ => Nat) (@Option.rec Nat (fun _ => Nat) big (fun b => b) (lkN gl a)) a (Nat.blt a N)
noncomputable def allB {α : Type} (f : α → Bool) (l : List α) : Bool := @List.rec α (fun _ => Bool) true (fun x _ ih => f x && ih) l
theorem allB_mem {α : Type} {f : α → Bool} {l : List α} (h : allB f l = true) : ∀ x ∈ l, f x = true := by
  induction l with
  | nil => exact fun x hx => absurd hx List.not_mem_nil
  | cons y r ih => exact and_el h fun a b x hx => (List.mem_cons.mp hx).elim (fun e => e ▸ a) (ih b x)
noncomputable def simB (N : Nat) (gl : List (Nat × Nat)) (ks ks' : List Nat) (nx' : Nat) : Bool :=
  allB (fun p => Nat.ble N p.1 && Nat.blt p.1 nx' && Nat.ble N p.2 && memN ks' p.1) gl && ndN (gl.map (·.1)) && ndN (gl.map (·.2)) && allB (fun b => Nat.ble N b || memN ks' b) ks && ndN ks' && Nat.ble N nx'
theorem blt_lt {a b : Nat} : Nat.blt a b = true ↔ a < b := ⟨Nat.le_of_ble_eq_true, Nat.ble_eq_true_of_le⟩
theorem blt_ge {a b : Nat} (h : b ≤ a) : Nat.blt a b = false := bool_el (fun e => absurd (blt_lt.mp e) (Nat.not_lt.mpr h)) id
section
variable {N : Nat} {gl : List (Nat × Nat)} {big a b : Nat}
theorem gf_lt (h : a < N) : gf N gl big a = a := congrArg (@Bool.rec (fun _ => Nat) (@Option.rec Nat (fun _ => Nat) big (fun b => b) (lkN gl a)) a) (blt_lt.mpr h)
theorem gf_ge (h : N ≤ a) : gf N gl big a = @Option.rec Nat (fun _ => Nat) big (fun b => b) (lkN gl a) := congrArg (@Bool.rec (fun _ => Nat) (@Option.rec Nat (fun _ => Nat) big (fun b => b) (lkN gl a)) a) (blt_ge h)
theorem gf_some (h : N ≤ a) (e : lkN gl a = some b) : gf N gl big a = b := (gf_ge h).trans (congrArg (@Option.rec Nat (fun _ => Nat) big (fun b => b)) e)
theorem gf_k {ρ : Rho} {ad : Addr} {G : Prop} (fr : ρ big = none) (h : ρ (gf N gl big a) = some ad) (k : a < N → gf N gl big a = a → G) (j : N ≤ a → lkN gl a = some (gf N gl big a) → G) : G :=
  (Nat.lt_or_ge a N).elim (fun l => k l (gf_lt l)) fun l => by
    cases e : lkN gl a with
    | none => rw [(gf_ge l).trans (congrArg (@Option.rec Nat (fun _ => Nat) big (fun b => b)) e), fr] at h; exact nS h
    | some b => exact j l (e.trans (congrArg some (gf_some l e).symm))
end
structure SimOk (N : Nat) (gl : List (Nat × Nat)) (σ2 : St) (v v' : V) (H' : Hp) (nx' : Nat) : Prop where
  chk : simB N gl (σ2.H.map (·.1)) (H'.map (·.1)) nx' = true
  obj : ∀ p ∈ H', ∃ o, get σ2.H (gf N gl σ2.nx p.1) = some o ∧ ∀ P ρ ob, ObjIs P ρ o ob → ObjIs P (fun a => ρ (gf N gl σ2.nx a)) p.2 ob
  val : ∀ ρ u, Den ρ v u → Den (fun a => ρ (gf N gl σ2.nx a)) v' u
inductive SimF (N : Nat) (gl : List (Nat × Nat)) (ks ks' : List Nat) (nx' : Nat) : Prop
  | mk (gm : ∀ p ∈ gl, N ≤ p.1 ∧ p.1 < nx' ∧ N ≤ p.2 ∧ p.1 ∈ ks') (n1 : (gl.map (·.1)).Nodup) (n2 : (gl.map (·.2)).Nodup) (al : ∀ b ∈ ks, b < N → b ∈ ks') (n3 : ks'.Nodup) (le : N ≤ nx')
theorem simB_ok {N nx' : Nat} {gl : List (Nat × Nat)} {ks ks' : List Nat} (h : simB N gl ks ks' nx' = true) : SimF N gl ks ks' nx' :=
  and_el h fun h c6 => and_el h fun h c5 => and_el h fun h c4 => and_el h fun h c3 => and_el h fun c1 c2 =>
    ⟨fun p hp => and_el (allB_mem c1 p hp) fun h d => and_el h fun h c => and_el h fun a b => ⟨Nat.le_of_ble_eq_true a, blt_lt.mp b, Nat.le_of_ble_eq_true c, memN_of d⟩, ndN_ok c2, ndN_ok c3,
      fun b hb l => (Bool.or_eq_true _ _ ▸ allB_mem c4 b hb).elim (fun e => absurd l (Nat.not_lt.mpr (Nat.le_of_ble_eq_true e))) memN_of, ndN_ok c5, Nat.le_of_ble_eq_true c6⟩
theorem nodup_val {gl : List (Nat × Nat)} (nd : (gl.map (·.2)).Nodup) {a b x : Nat} (h1 : (a, x) ∈ gl) (h2 : (b, x) ∈ gl) : a = b := by
  induction gl with
  | nil => exact absurd h1 List.not_mem_nil
  | cons p r ih =>
    have nd := List.nodup_cons.mp nd
    have off : ∀ c d, p = (d, x) → (c, x) ∈ r → a = b := fun c d e m => (nd.1 (by rw [e]; exact List.mem_map.mpr ⟨(c, x), m, rfl⟩)).elim
    exact (List.mem_cons.mp h1).elim (fun e1 => (List.mem_cons.mp h2).elim (fun e2 => congrArg Prod.fst (e1.trans e2.symm)) (off b a e1.symm)) fun m1 => (List.mem_cons.mp h2).elim (fun e2 => off a b e2.symm m1) (ih nd.2 m1)
section
variable {P : Params} {X : List (Addr × Obj)} {Y : List Addr} {ρ2 : Rho} {N nx' : Nat} {gl : List (Nat × Nat)} {H H' : Hp} {nx : Nat} {news : List (Addr × Obj)}
theorem sim_led (led : LedIs P ρ2 H news) (h : ∀ p ∈ H', ∃ o, get H (gf N gl nx p.1) = some o ∧ ∀ P ρ ob, ObjIs P ρ o ob → ObjIs P (fun a => ρ (gf N gl nx a)) p.2 ob) :
    ∃ news', LedIs P (fun a => ρ2 (gf N gl nx a)) H' news' ∧ ∀ q ∈ news', q ∈ news := by
  induction H' with
  | nil => exact ⟨[], .nil, fun _ h => absurd h List.not_mem_nil⟩
  | cons p r ih =>
    exact (h p (.head _)).elim fun o w => (led.get w.1).elim fun ad e => e.elim fun ob e => (ih fun q hq => h q (.tail _ hq)).elim fun nw z =>
      ⟨(ad, ob) :: nw, .cons ⟨e.1, w.2 _ _ _ e.2.2⟩ z.1, fun q hq => (List.mem_cons.mp hq).elim (fun x => x ▸ e.2.1) (z.2 q)⟩
theorem led_nd {ρ : Rho} (inj : ∀ a b ad, ρ a = some ad → ρ b = some ad → a = b) (l : LedIs P ρ H news) (nd : (H.map (·.1)).Nodup) : (news.map (·.1)).Nodup := by
  unfold LedIs at l
  induction l with
  | nil => exact List.nodup_nil
  | cons y z ih =>
    have nd := List.nodup_cons.mp nd
    exact List.nodup_cons.mpr ⟨fun hm => (List.mem_map.mp hm).elim fun q2 w => (all2_mem z q2 w.1).elim fun p2 x => nd.1 (List.mem_map.mpr ⟨p2, x.1, (inj _ _ _ y.1 (x.2.1.trans (congrArg some w.2))).symm⟩), ih nd.2⟩
theorem sim_nm (chk : simB N gl (H.map (·.1)) (H'.map (·.1)) nx' = true)
    (obj : ∀ p ∈ H', ∃ o, get H (gf N gl nx p.1) = some o ∧ ∀ P ρ ob, ObjIs P ρ o ob → ObjIs P (fun a => ρ (gf N gl nx a)) p.2 ob) (R : NmA P X Y ρ2 H nx news) :
    ∃ news', (∀ q ∈ X ++ news', q ∈ X ++ news) ∧ NmA P X Y (fun a => ρ2 (gf N gl nx a)) H' nx' news' :=
  (simB_ok chk).rec fun gm n1 n2 al n3 le => (sim_led R.led obj).elim fun news' z => by
  have fr := R.fresh nx (Nat.le_refl _)
  have inj : ∀ a b ad, ρ2 (gf N gl nx a) = some ad → ρ2 (gf N gl nx b) = some ad → a = b := fun a b ad ea eb => by
    have e := R.inj _ _ _ ea eb
    refine gf_k fr ea (fun la xa => ?_) fun la xa => ?_
    · refine gf_k fr eb (fun lb xb => xa.symm.trans (e.trans xb)) fun lb xb => absurd la (Nat.not_lt.mpr ?_)
      exact (e.symm.trans xa) ▸ (gm _ (lkN_mem xb)).2.2.1
    · refine gf_k fr eb (fun lb xb => absurd lb (Nat.not_lt.mpr ?_)) fun lb xb => ?_
      · exact (e.trans xb) ▸ (gm _ (lkN_mem xa)).2.2.1
      · exact nodup_val n2 (lkN_mem xa) (e ▸ lkN_mem xb)
  have dis := List.nodup_append.mp (List.map_append ▸ R.nd)
  refine ⟨news', fun q hq => (List.mem_append.mp hq).elim (List.mem_append_left _) fun hq => List.mem_append_right _ (z.2 q hq), ?_, z.1, fun a ad e => ?_, inj, fun a ha => ?_, fun q hq => R.sm q (z.2 q hq), fun a ad e => R.off _ ad e⟩
  · rw [List.map_append]
    refine List.nodup_append.mpr ⟨dis.1, led_nd inj z.1 n3, fun a ha b hb => ?_⟩
    exact (List.mem_map.mp hb).elim fun q w => w.2 ▸ dis.2.2 a ha _ (List.mem_map_of_mem (z.2 q w.1))
  · rw [List.map_append]
    refine (List.mem_append.mp (List.map_append ▸ R.rng _ _ e)).elim (List.mem_append_left _) fun h => List.mem_append_right _ ?_
    refine (List.mem_map.mp h).elim fun q w => (all2_mem R.led q w.1).elim fun p x => ?_
    have ep : p.1 = gf N gl nx a := R.inj _ _ _ (w.2 ▸ x.2.1) e
    have ha : a ∈ H'.map (·.1) := gf_k fr e (fun l f => al a ((ep.trans f) ▸ List.mem_map_of_mem x.1) l) fun l f => (gm _ (lkN_mem f)).2.2.2
    exact (List.mem_map.mp ha).elim fun p' w' => (all2_mem_l z.1 p' w'.1).elim fun q' x' => (Option.some.inj (x'.2.1.symm.trans (w'.2 ▸ e)) : q'.1 = ad) ▸ List.mem_map_of_mem x'.1
  · show ρ2 (gf N gl nx a) = none
    have hN := Nat.le_trans le ha
    cases w : lkN gl a with
    | some x => exact absurd (gm _ (lkN_mem w)).2.1 (Nat.not_lt.mpr ha)
    | none => rw [(gf_ge hN).trans (congrArg (@Option.rec Nat (fun _ => Nat) nx (fun b => b)) w)]; exact fr
end
theorem sim_le {ρ ρ2 : Rho} {N : Nat} {gl : List (Nat × Nat)} {big : Nat} (le : ρ.le ρ2) (hf : ∀ a, N ≤ a → ρ a = none) : ρ.le fun a => ρ2 (gf N gl big a) := fun a ad e =>
  (Nat.lt_or_ge a N).elim (fun h => (congrArg ρ2 (gf_lt h)).trans (le a ad e)) fun h => nS ((hf a h).symm.trans e)
section
variable {c : Cd} {ρ2 : Rho} {N nx' : Nat} {gl : List (Nat × Nat)} {σ2 : St} {H' : Hp} {s : Shared} {v v' : V} {loc : List (Str × V)} {cel : List (Str × Nat)}
theorem sim_rel (R : Rel c ρ2 σ2 s) (S : SimOk N gl σ2 v v' H' nx') (hl : LocIs (fun a => ρ2 (gf N gl σ2.nx a)) loc c.ml) (hc : CelIs (fun a => ρ2 (gf N gl σ2.nx a)) cel c.env.cells) :
    Rel c (fun a => ρ2 (gf N gl σ2.nx a)) ⟨loc, cel, H', nx'⟩ s :=
  R.elim fun news R => (sim_nm S.chk S.obj R.nm).elim fun news' z => ⟨news', R.F, fun q hq => R.N q (z.1 q hq), z.2, hl, hc, R.sh⟩
theorem sim_exc {l : Int} {u : Value} (R : ExcRel c ρ2 σ2 l u s) (S : SimOk N gl σ2 v v' H' nx') (hl : LocIs (fun a => ρ2 (gf N gl σ2.nx a)) loc c.ml) (hc : CelIs (fun a => ρ2 (gf N gl σ2.nx a)) cel c.env.cells) :
    ExcRel c (fun a => ρ2 (gf N gl σ2.nx a)) ⟨loc, cel, H', nx'⟩ l u s :=
  R.elim fun e R => R.elim fun G R => R.elim fun news R => (sim_nm S.chk S.obj R.2.nm).elim fun news' z => ⟨e, G, news', R.1, R.2.F, fault_sub R.2.fl z.1, R.2.up, z.2, hl, hc, R.2.sh⟩
end
noncomputable def Sim (N : Nat) (σ2 : St) (v : V) (KK : V → Hp → Nat → Prop) : Prop := ∃ gl v' H' nx', SimOk N gl σ2 v v' H' nx' ∧ KK v' H' nx'
theorem Sim.el {N : Nat} {σ2 : St} {v : V} {KK : V → Hp → Nat → Prop} {G : Prop} (h : Sim N σ2 v KK) (k : ∀ gl v' H' nx', SimOk N gl σ2 v v' H' nx' → KK v' H' nx' → G) : G := h.elim fun gl h => h.elim fun v' h => h.elim fun H' h => h.elim fun nx' h => k gl v' H' nx' h.1 h.2
theorem part_run {T : Tab} {c : Cd} {f m N : Nat} {vs : List V} {us : List Value} {σ : St} {K : KV} {X : KX} {ρ : Rho} {s : Shared} {Q E : Value → Shared → Prop} {tm Hr : Hp} {KF : KV} {XF : KX} (TT : TabOk T c.w) (C : Ck T.q c m) (R : Rel c ρ σ s) (D : All2 (Den ρ) vs us) (fr : ∀ a, N ≤ a → ρ a = none)
    (pm : σ.H.Perm (tm ++ Hr)) (hN : σ.nx ≤ N) (hK : ∀ v σ2, KF v σ2 → Sim N σ2 v fun v' H' nx' => K v' { σ with H := H' ++ Hr, nx := nx' }) (hX : ∀ l σ2, XF l σ2 → Sim N σ2 .none fun _ H' nx' => X l { σ with H := H' ++ Hr, nx := nx' })
    (hv : vcC T m f vs ⟨[], [], tm, N⟩ KF XF)
    (k : ∀ ρ' σ' v u s', ρ.le ρ' → Rel c ρ' σ' s' → Den ρ' v u → K v σ' → Q u s') (kx : ∀ ρ' σ' l u s', ρ.le ρ' → ExcRel c ρ' σ' l u s' → X l σ' → E u s') : wpAny (MM c.w) c.A (call (.ref f) us) Q E s :=
  frame C R pm hN fun c1 C1 ew eA R1 up upx => by
  have := (snd T m).c c1 f vs us (ew ▸ TT) C1 ρ _ s _ _ Q E R1 D hv (fun ρ2 σ2 v u s2 le2 R2 D2 h2 => (hK v σ2 h2).el fun gl v' H' nx' S' h2 => ?_) fun ρ2 σ2 l u s2 le2 R2 h2 => (hX l σ2 h2).el fun gl v' H' nx' S' h2 => ?_
  · rw [ew, eA] at this
    exact this
  · have le3 : ρ.le fun a => ρ2 (gf N gl σ2.nx a) := sim_le le2 fr
    exact k _ _ v' u s2 le3 (up _ _ _ le3 (sim_rel (loc := []) (cel := []) R2 S' (fun _ _ e => nS e) (fun _ _ e => nS e))) (S'.val _ _ D2) h2
  · have le3 : ρ.le fun a => ρ2 (gf N gl σ2.nx a) := sim_le le2 fr
    exact kx _ _ l u s2 le3 (upx _ _ _ _ _ le3 (sim_exc (loc := []) (cel := []) R2 S' (fun _ _ e => nS e) (fun _ _ e => nS e))) h2
theorem spec_of {Tf : World → Tab} (TT : ∀ w, TabOk (Tf w) w) (hq : ∀ w, (Tf w).q = false) {f m : Nat} {S : Spec}
    (hS : ∀ w vs σ K X, S vs σ K X → ∃ tm Hr N, σ.H.Perm (tm ++ Hr) ∧ σ.nx ≤ N ∧
      vcC (Tf w) m f vs ⟨[], [], tm, N⟩ (fun v σ2 => Sim N σ2 v fun v' H' nx' => K v' { σ with H := H' ++ Hr, nx := nx' }) (fun l σ2 => Sim N σ2 .none fun _ H' nx' => X l { σ with H := H' ++ Hr, nx := nx' })) : SpecOk f S m := by
  intro c σ vs us K X ρ s Q E C R D h k kx
  exact (hS c.w vs σ K X h).elim fun tm h => h.elim fun Hr h => h.elim fun N h =>
    part_run (TT c.w) ((hq c.w).symm ▸ C) R D (fun a ha => R.elim fun _ RA => RA.fresh a (Nat.le_trans h.2.1 ha)) h.1 h.2.1 (fun _ _ h => h) (fun _ _ h => h) h.2.2 k kx
end Mine
namespace Mine
noncomputable def funcO (d : Data) : Option FuncData := match d with
  | .func f => some f
  | _ => none
theorem funcO_el {d : Data} {f : FuncData} (h : funcO d = some f) : d = .func f := by cases d <;> first | exact nS h | exact congrArg _ (Option.some.inj h)
noncomputable def stmtsO (b : FuncBody) : Option (List Stmt) := @FuncBody.casesOn (fun _ => Option (List Stmt)) b some fun _ => none
theorem stmtsO_el {b : FuncBody} {l : List Stmt} (h : stmtsO b = some l) : b = .stmts l := by cases b <;> first | exact nS h | exact congrArg _ (Option.some.inj h)
noncomputable def fnI (P : Params) (f : Nat) : Option FnI := oO ((mkK.heap_1 P).lookup f) fun o => oO (funcO o.data) fun fd => oO (stmtsO fd.body) fun b => some ⟨fd.qualname, fd.params.args.map (·.arg), b, fd.scope⟩
noncomputable def s (x : String) : Str := Str.ofString x
noncomputable def globL : List (Str × Nat) := [("unique", 21), ("whole_name", 28), ("CheckFault", 65), ("refuse", 74), ("lay_operation", 81), ("abstract_keys", 86), ("check_concrete", 93), ("operation_key", 100), ("tagged_types", 105), ("lay_primitive", 110), ("check_bodies", 117), ("Sub", 141), ("Scope", 162), ("Entity", 183), ("homographs", 194), ("Limits", 212), ("FRAME_KINDS", 217), ("Region", 234), ("open_region", 245), ("begin_body", 252), ("frame_region", 259), ("give_unique", 266), ("settle_rivals", 271), ("declare", 278), ("make_ready", 285), ("declare_ready", 292), ("note_type", 299), ("Type", 316), ("Subtype", 337), ("int_type", 348), ("record_type", 355), ("numbered", 362), ("whole_subtype", 369), ("_law_rest", 370), ("_law_known", 371), ("_law_take", 378), ("_law_type", 385), ("_law_tell", 392), ("_law_key", 399), ("_law_owners", 404), ("_law_place", 411), ("_law_sub_right", 416)].map fun p => (Str.ofString p.1, p.2)
noncomputable def names (l : List String) : List Str := l.map Str.ofString
noncomputable def takeT (σ : St) (ns : List Int) (n : Int) : St := { σ with H := (0, .dict [(s "cells", .ref 1), (s "at", .si (n + 1))]) :: (1, .ints ns) :: drop (drop σ.H 0) 1 }
noncomputable def takeB (vs : List V) (σ : St) (KK : Nat → List Int → Int → Prop) : Prop := oB (twoL vs) fun q => oB (refO q.1) fun p => oB (natK q.2) fun m => oB (gOb dictO σ.H 0) fun kv => oB (twoL kv) fun w => oB (refO w.1.2) fun l => oB (siO w.2.2) fun n =>
  bB (Nat.beq p 0 && Nat.beq l 1 && Nat.ble 2 σ.nx && Fast.sEq w.1.1 (s "cells") && Fast.sEq w.2.1 (s "at") && Nat.ble 1 m && Nat.ble m 100) (oB (gOb intsO σ.H 1) fun ns => (0 ≤ n ∧ n < 1000 ∧ ns.length ≤ 60) ∧ KK m ns n)
noncomputable def takeS : Spec := fun vs σ K _ => takeB vs σ fun m ns n => bE (Nat.beq m 2) (K (.int 0) (takeT σ ns n) ∧ K (.int 1) (takeT σ ns n))
  (bE (Nat.beq m 4) (K (.int 0) (takeT σ ns n) ∧ K (.int 1) (takeT σ ns n) ∧ K (.int 2) (takeT σ ns n) ∧ K (.int 3) (takeT σ ns n)) (∀ k : Int, 0 ≤ k → k < m → K (.si k) (takeT σ ns n)))
noncomputable def fnsL : List Nat := [378, 74, 86, 93, 21, 28, 81, 100, 105, 110, 117, 138, 159, 180, 194, 231, 245, 252, 259, 266, 271, 278, 285, 292, 299, 313, 334, 348, 355, 362, 369, 385, 392, 399, 404, 411, 416]
noncomputable def tab (P : Params) : Tab where
  glob := (s "SEPARATOR", .str (s "#") 189) :: globL.map fun p => (p.1, .ref p.2)
  blt := [(s "len", 0), (s "str", 1), (s "list", 2), (s "dict", 3), (s "range", 4), (s "sorted", 5)]
  fns := fun f => @Bool.rec (fun _ => Option FnI) none (fnI P f) (memN fnsL f)
  inits := [(316, 313), (337, 334), (183, 180), (141, 138), (162, 159), (234, 231)]
  flds := [(316, names ["kind", "name", "number", "parent", "low", "high", "literals", "modulus", "small", "index", "component", "is_constrained", "discriminants", "components", "variant", "designated", "is_tagged", "wide", "is_limited", "is_private", "is_abstract", "is_constant", "is_late", "operations"]),
    (337, names ["type", "constraint"]),
    (183, names ["kind", "name", "key", "subtype", "data", "line", "number", "unique", "home", "part", "region", "full", "is_ready", "is_complete", "is_constant", "is_implicit", "is_overridden"]),
    (141, names ["name", "params", "result", "decls", "stmts", "handlers", "ups", "operation", "control", "about", "told"]),
    (162, names ["place", "limits", "choose", "types", "typed", "static", "builders", "ways", "declarations", "statements", "line", "count", "under_way"]),
    (234, names ["kind", "owner", "parent", "root", "made", "number", "level", "part", "names", "order", "uses", "use_types", "counts", "type_homes", "generic"])]
  spec := fun _ => none
  itups := [(370, [2, 1, 0, 1, 0, 0, 2, 0, 0, 2, 0, 2, 0, 0, 0, 0, 0, 1, 0, 1, 0, 0, 0, 1, 0, 1, 0, 0])]
  tups := [(217, names ["root", "sub", "task", "protected"]), (371, names ["go inself", "up inself", "go inself in61"])]
noncomputable def Tab.add (T : Tab) (f m : Nat) (S : Spec) : Tab := { T with spec := fun g => @Bool.rec (fun _ => Option (Nat × Spec)) (T.spec g) (some (m, S)) (Nat.beq g f) }
noncomputable def tab1 (P : Params) : Tab := (tab P).add 378 24 takeS
end Mine
namespace Mine
noncomputable def vStr (v : Value) : Option (Str × Tok) := @Value.casesOn (fun _ => Option (Str × Tok)) v none none none (fun a => none) (fun a b => none) (fun a b => none) (fun a b => some (a, b)) (fun a b => none) (fun a => none) (fun a => none) fun a => none
noncomputable def vInt (v : Value) : Option (Int × Tok) := @Value.casesOn (fun _ => Option (Int × Tok)) v none none none (fun a => none) (fun a b => some (a, b)) (fun a b => none) (fun a b => none) (fun a b => none) (fun a => none) (fun a => none) fun a => none
noncomputable def vTyp (v : Value) : Option String := @Value.casesOn (fun _ => Option String) v none none none (fun a => none) (fun a b => none) (fun a b => none) (fun a b => none) (fun a b => none) some (fun a => none) fun a => none
noncomputable def vBlt (v : Value) : Option String := @Value.casesOn (fun _ => Option String) v none none none (fun a => none) (fun a b => none) (fun a b => none) (fun a b => none) (fun a b => none) (fun a => none) some fun a => none
noncomputable def isN (v : Value) : Bool := @Value.casesOn (fun _ => Bool) v true false false (fun a => false) (fun a b => false) (fun a b => false) (fun a b => false) (fun a b => false) (fun a => false) (fun a => false) fun a => false
theorem vStr_el {v : Value} {q : Str × Tok} (h : vStr v = some q) : v = .str q.1 q.2 := by cases v <;> first | exact nS h | exact Option.some.inj h ▸ rfl
theorem vInt_el {v : Value} {q : Int × Tok} (h : vInt v = some q) : v = .int q.1 q.2 := by cases v <;> first | exact nS h | exact Option.some.inj h ▸ rfl
theorem vTyp_el {v : Value} {q : String} (h : vTyp v = some q) : v = .type q := by cases v <;> first | exact nS h | exact Option.some.inj h ▸ rfl
theorem vBlt_el {v : Value} {q : String} (h : vBlt v = some q) : v = .builtin q := by cases v <;> first | exact nS h | exact Option.some.inj h ▸ rfl
theorem isN_ok {v : Value} (h : isN v = true) : v = .none := by cases v <;> first | rfl | exact Bool.noConfusion h
noncomputable def vEq (a b : Value) : Bool := (oT (vRef a) fun x => oT (vRef b) fun y => Nat.beq x y) || (oT (vStr a) fun x => oT (vStr b) fun y => Fast.sEq x.1 y.1 && Nat.beq x.2 y.2)
theorem vEq_eq {a b : Value} (h : vEq a b = true) : a = b := (Bool.or_eq_true _ _ ▸ h : _ ∨ _).elim
  (fun h => oT_el h fun x e h => oT_el h fun y f h => (vRef_el e).trans ((congrArg Value.ref (Nat.eq_of_beq_eq_true h)).trans (vRef_el f).symm))
  fun h => oT_el h fun x e h => oT_el h fun y f h => and_el h fun h1 h2 => (vStr_el e).trans ((congr (congrArg Value.str (Fast.sEq_iff.mp h1)) (Nat.eq_of_beq_eq_true h2)).trans (vStr_el f).symm)
noncomputable def isB (o : Option (Option Value)) (x : String) : Bool := oT o fun o => oT o fun v => oT (vBlt v) fun b => b == x
noncomputable def isV (o : Option (Option Value)) (x : Value) : Bool := oT o fun o => oT o fun v => vEq v x
noncomputable def isR (o : Option (Option Value)) (x : Nat) : Bool := oT o fun o => oT o fun v => oT (vRef v) fun f => Nat.beq f x
noncomputable def noneB {α : Type} (o : Option α) : Bool := @Option.rec α (fun _ => Bool) true (fun _ => false) o
noncomputable def nilB {α : Type} (l : List α) : Bool := @List.rec α (fun _ => Bool) true (fun _ _ _ => false) l
noncomputable def isO (o : Option (Option Value)) : Bool := oT o noneB
theorem nilB_ok {α : Type} {l : List α} (h : nilB l = true) : l = [] := nilL_el h
theorem noneB_ok {α : Type} {l : Option α} (h : noneB l = true) : l = none := by
  cases l with
  | none => rfl
  | some x => exact Bool.noConfusion h
section
variable {o : Option (Option Value)}
theorem isB_ok {x : String} (h : isB o x = true) : o = some (some (.builtin x)) := oT_el h fun a e h => oT_el h fun v f h => oT_el h fun b g h => e.trans (congrArg some (f.trans (congrArg some ((vBlt_el g).trans (congrArg Value.builtin (eq_of_beq h))))))
theorem isV_ok {x : Value} (h : isV o x = true) : o = some (some x) := oT_el h fun a e h => oT_el h fun v f h => e.trans (congrArg some (f.trans (congrArg some (vEq_eq h))))
theorem isR_ok {x : Nat} (h : isR o x = true) : o = some (some (.ref x)) := oT_el h fun a e h => oT_el h fun v f h => oT_el h fun b g h => e.trans (congrArg some (f.trans (congrArg some ((vRef_el g).trans (congrArg Value.ref (Nat.eq_of_beq_eq_true h))))))
theorem isO_ok (h : isO o = true) : o = some none := oT_el h fun a e h => e.trans (congrArg some (noneB_ok h))
end
noncomputable def chkG (K : Frag) (l : List (Str × Value)) : Bool := allB (fun p => isV (nsIn K mainGlobals p.1) p.2) l
theorem chkG_ok {K : Frag} {l : List (Str × Value)} (h : chkG K l = true) : ∀ p ∈ l, nsIn K mainGlobals p.1 = some (some p.2) := fun p hp => isV_ok (allB_mem h p hp)
noncomputable def chkB (K : Frag) (l : List (Str × Nat)) : Bool := allB (fun p => isO (nsIn K mainGlobals p.1) && !Fast.sEq p.1 (s "__name__")) l
theorem chkB_ok {K : Frag} {l : List (Str × Nat)} (h : chkB K l = true) : ∀ p ∈ l, nsIn K mainGlobals p.1 = some none ∧ p.1 ≠ s "__name__" := fun p hp =>
  and_el (allB_mem h p hp) fun a b => not_el b fun b => ⟨isO_ok a, fun z => Bool.noConfusion (b.symm.trans (Fast.sEq_iff.mpr z))⟩
set_option maxHeartbeats 4000000 in
theorem glob_ok (w : World) : chkG (KK w) (tab w.params).glob = true := by kernel_rfl
theorem blt_ok (w : World) : chkB (KK w) (tab w.params).blt = true := by kernel_rfl
noncomputable def chkN (l : List (Nat × List Str)) (K : Frag) : Bool := allB (fun p => allB (fun f => plainGet K p.1 f && hasDictIn K p.1 && plainOver K p.1 && isO (findIn K (.ref p.1) f) && isO (takerIn K p.1 f) && isB (findIn K (.ref p.1) (s "__setattr__")) "object.__setattr__") p.2) l
theorem chkN_ok {K : Frag} {l : List (Nat × List Str)} (h : chkN l K = true) : ∀ p ∈ l, ∀ f ∈ p.2, FldOk K p.1 f := fun p hp f hf =>
  and_el (allB_mem (allB_mem h p hp) f hf) fun h h6 => and_el h fun h h5 => and_el h fun h h4 => and_el h fun h h3 => and_el h fun h1 h2 => ⟨h1, h2, isO_ok h4, isB_ok h6, h3, isO_ok h5⟩
noncomputable def ndS (l : List Str) : Bool := @List.rec Str (fun _ => Bool) true (fun x r ih => !memS r x && ih) l
theorem ndS_ok {l : List Str} (h : ndS l = true) : l.Nodup := by
  induction l with
  | nil => exact List.nodup_nil
  | cons x r ih => exact and_el h fun a b => not_el a fun a => List.nodup_cons.mpr ⟨fun m => Bool.noConfusion (a.symm.trans (memS_in m)), ih b⟩
noncomputable def plainA (p : Arguments) : Bool := nilB p.posonlyargs && noneB p.vararg && nilB p.kwonlyargs && nilB p.kw_defaults && noneB p.kwarg && nilB p.defaults
theorem plainA_ok {p : Arguments} (h : plainA p = true) : p = { posonlyargs := [], args := p.args, vararg := none, kwonlyargs := [], kw_defaults := [], kwarg := none, defaults := [] } :=
  and_el h fun h h6 => and_el h fun h h5 => and_el h fun h h4 => and_el h fun h h3 => and_el h fun h1 h2 => by
    obtain ⟨p1, p2, p3, p4, p5, p6, p7⟩ := p
    have e1 : p1 = [] := nilB_ok h1
    have e2 : p3 = none := noneB_ok h2
    have e3 : p4 = [] := nilB_ok h3
    have e4 : p5 = [] := nilB_ok h4
    have e5 : p6 = none := noneB_ok h5
    have e6 : p7 = [] := nilB_ok h6
    rw [e1, e2, e3, e4, e5, e6]
noncomputable def fnB (k : ScopeKind) : Bool := Nat.beq k.ctorIdx 1
theorem fnB_ok {k : ScopeKind} (h : fnB k = true) : k = .function := by cases k <;> first | rfl | exact Bool.noConfusion h
noncomputable def chkD (K : Frag) (f : Nat) (fd : FuncData) : Bool := Nat.beq fd.globals mainGlobals && Nat.beq fd.builtins builtinsNs && nilB fd.closure && codeIn K fd.code fd.qualname && ndS ((cellsFrom 0 fd.scope.names []).map (·.1)) && !fd.scope.isCoroutine && !fd.scope.isGenerator && fnB fd.scope.kind && ndS (fd.params.args.map (·.arg)) && keepIn K (.ref f)
noncomputable def chkF (K : Frag) (f : Nat) : Bool := oT (K.lookup f) fun o => oT (funcO o.data) fun fd => chkD K f fd && isN fd.defaults && plainA fd.params
theorem fd_el {fd : FuncData} {b : List Stmt} (hb : fd.body = .stmts b) (h1 : fd.globals = mainGlobals) (h2 : fd.builtins = builtinsNs) (h3 : fd.closure = []) : fd = fnOf fd.name fd.qualname fd.params b fd.scope fd.defaults fd.kwdefaults fd.doc fd.pyModule fd.annotations fd.code fd.closureTuple := by
  obtain ⟨nm, qn, pr, bd, sc, gl, cl, df, kd, doc, pm, an, cd, ct, bt⟩ := fd
  have hb : bd = .stmts b := hb
  have h1 : gl = mainGlobals := h1
  have h2 : bt = builtinsNs := h2
  have h3 : cl = [] := h3
  rw [hb, h1, h2, h3]
theorem fnI_k {P : Params} {f : Nat} {i : FnI} {G : Prop} (h : fnI P f = some i) (k : ∀ o fd b, (mkK.heap_1 P).lookup f = some o → o.data = .func fd → fd.body = .stmts b → i = ⟨fd.qualname, fd.params.args.map (·.arg), b, fd.scope⟩ → G) : G :=
  oO_el h fun o a h => oO_el h fun fd b h => oO_el h fun l c h => k o fd l a (funcO_el b) (stmtsO_el c) (Option.some.inj h).symm
theorem some_T {α : Type} {o : Option α} {x : α} {f : α → Bool} {G : Prop} (h : oT o f = true) (e : o = some x) (k : f x = true → G) : G := by
  rw [e] at h
  exact k h
theorem fn_of {w : World} {f : Nat} {i : FnI} (hc : chkF (KK w) f = true) (h : fnI w.params f = some i) : FnOk (KK w) f i ∧ keepIn (KK w) (.ref f) = true :=
  fnI_k h fun o fd b ho hd hb hi => some_T hc ho fun hc => some_T hc (x := fd) (congrArg funcO hd) fun hc => and_el hc fun hc pa => and_el hc fun hc dn =>
  and_el hc fun hc h10 => and_el hc fun hc h9 => and_el hc fun hc h8 => and_el hc fun hc h7 => and_el hc fun hc h6 => and_el hc fun hc h5 => and_el hc fun hc h4 => and_el hc fun hc h3 => and_el hc fun h1 h2 => by
  rw [hi]
  have e := fd_el hb (Nat.eq_of_beq_eq_true h1) (Nat.eq_of_beq_eq_true h2) (nilB_ok h3)
  rw [isN_ok dn] at e
  refine ⟨⟨⟨o.cls, o.dict, o.slots, fd.name, fd.params, fd.kwdefaults, fd.doc, fd.pyModule, fd.annotations, fd.code, fd.closureTuple, ?_, h4, plainA_ok pa, rfl⟩, ndS_ok h9, ndS_ok h5, not_el h6 id, not_el h7 id, fnB_ok h8⟩, h10⟩
  exact ho.trans (congrArg some (by rw [← e, ← hd]))
noncomputable def chkFs (K : Frag) (l : List Nat) : Bool := allB (chkF K) l
theorem chkFs_ok {K : Frag} {l : List Nat} (h : chkFs K l = true) (f : Nat) (hf : memN l f = true) : chkF K f = true := allB_mem h f (memN_of hf)
theorem fns_ok (w : World) : chkFs (KK w) fnsL = true := by kernel_rfl
noncomputable def chkI (K : Frag) (l : List (Nat × Nat)) : Bool := allB (fun p => makesIn K p.1 && isR (findIn K (.ref p.1) (s "__init__")) p.2 && isFn K (.ref p.2) && keepIn K (.ref p.1)) l
theorem chkI_ok {K : Frag} {l : List (Nat × Nat)} (h : chkI K l = true) : ∀ p ∈ l, IniOk K p.1 p.2 ∧ keepIn K (.ref p.1) = true := fun p hp =>
  and_el (allB_mem h p hp) fun h h4 => and_el h fun h h3 => and_el h fun h1 h2 => ⟨⟨h1, isR_ok h2, h3⟩, h4⟩
noncomputable def chkX (K : Frag) : Bool := isB (findIn K (.ref 65) (s "__getattribute__")) "BaseException.__getattribute__" && isO (findIn K (.ref 65) (s "__getattr__")) && (oT (mroIn K 65 (.type "BaseException")) id) && isO (findIn K (.ref 65) lineS) && hasDictIn K 65
theorem exc_ok (w : World) : chkX (KK w) = true := by kernel_rfl
theorem oid_ok {o : Option Bool} (h : oT o id = true) : o = some true := oT_el h fun b e h => e.trans (congrArg some h)
theorem chkX_ok {K : Frag} (h : chkX K = true) : ExcOk K := and_el h fun h h5 => and_el h fun h h4 => and_el h fun h h3 => and_el h fun h1 h2 => ⟨isB_ok h1, isO_ok h2, oid_ok h3, isO_ok h4, h5⟩
theorem ini_ok (w : World) : chkI (KK w) (tab w.params).inits = true := by kernel_rfl
theorem fld_ok (w : World) : chkN (tab w.params).flds (KK w) = true := by kernel_rfl
end Mine
namespace Mine
noncomputable def seqO (d : Data) : Option (Array Value × Nat) := match d with
  | .seq a n => some (a, n)
  | _ => none
theorem seqO_el {d : Data} {q : Array Value × Nat} (h : seqO d = some q) : d = .seq q.1 q.2 := by cases d <;> first | exact nS h | exact Option.some.inj h ▸ rfl
noncomputable def tupV (K : Frag) (a : Nat) : Option (List Value) := oO (K.lookup a) fun o => oO (vTyp o.cls) fun t => bO (t == "tuple") (oO (seqO o.data) fun q => some q.1.toList)
theorem tupV_el {K : Frag} {a : Nat} {l : List Value} (h : tupV K a = some l) : ∃ dd items n sl, K.lookup a = some ⟨.type "tuple", dd, .seq items n, sl⟩ ∧ items.toList = l :=
  oO_el h fun o ho h => oO_el h fun t ht h => bO_el h fun ht2 h => oO_el h fun q hq h => ⟨o.dict, q.1, q.2, o.slots, ho.trans (congrArg some (by rw [← eq_of_beq ht2, ← vTyp_el ht, ← seqO_el hq])), Option.some.inj h⟩
noncomputable def strsB (vs : List Value) : List Str → Bool := @List.rec Value (fun _ => List Str → Bool) nilB (fun v _ ih xs => oT (unL xs) fun q => (oT (vStr v) fun w => Fast.sEq w.1 q.1) && ih q.2) vs
noncomputable def intsB (vs : List Value) : List Int → Bool := @List.rec Value (fun _ => List Int → Bool) nilB (fun v _ ih xs => oT (unL xs) fun q => (oT (vInt v) fun w => decide (w.1 = q.1)) && ih q.2) vs
theorem strsB_ok {vs : List Value} {xs : List Str} (h : strsB vs xs = true) : StrsAre vs xs := by
  induction vs generalizing xs with
  | nil => exact nilB_ok h ▸ .nil
  | cons v vs ih => exact oT_el h fun q e h => and_el h fun a b => oT_el a fun w f a => by rw [unL_el e, vStr_el f, Fast.sEq_iff.mp a]; exact .cons _ _ (ih b)
theorem intsB_ok {vs : List Value} {xs : List Int} (h : intsB vs xs = true) : IntsAre vs xs := by
  induction vs generalizing xs with
  | nil => exact nilB_ok h ▸ .nil
  | cons v vs ih => exact oT_el h fun q e h => and_el h fun a b => oT_el a fun w f a => by rw [unL_el e, vInt_el f, of_decide_eq_true a]; exact .cons _ _ (ih b)
noncomputable def chkT (K : Frag) (l : List (Nat × List Str)) : Bool := allB (fun p => oT (tupV K p.1) fun vs => strsB vs p.2) l
noncomputable def chkTI (K : Frag) (l : List (Nat × List Int)) : Bool := allB (fun p => oT (tupV K p.1) fun vs => intsB vs p.2) l
theorem tup_ok (w : World) : chkT (KK w) (tab w.params).tups = true := by kernel_rfl
theorem itup_ok (w : World) : chkTI (KK w) (tab w.params).itups = true := by kernel_rfl
theorem chkT_ok {K : Frag} {l : List (Nat × List Str)} (h : chkT K l = true) : ∀ p ∈ l, ∃ dd items n sl, K.lookup p.1 = some ⟨.type "tuple", dd, .seq items n, sl⟩ ∧ StrsAre items.toList p.2 := fun p hp =>
  oT_el (allB_mem h p hp) fun vs e h => (tupV_el e).elim fun dd q => q.elim fun it q => q.elim fun n q => q.elim fun sl q => ⟨dd, it, n, sl, q.1, q.2 ▸ strsB_ok h⟩
theorem chkTI_ok {K : Frag} {l : List (Nat × List Int)} (h : chkTI K l = true) : ∀ p ∈ l, ∃ dd items n sl, K.lookup p.1 = some ⟨.type "tuple", dd, .seq items n, sl⟩ ∧ IntsAre items.toList p.2 := fun p hp =>
  oT_el (allB_mem h p hp) fun vs e h => (tupV_el e).elim fun dd q => q.elim fun it q => q.elim fun n q => q.elim fun sl q => ⟨dd, it, n, sl, q.1, q.2 ▸ intsB_ok h⟩
noncomputable def AllP {α : Type} (f : α → Prop) (l : List α) : Prop := @List.rec α (fun _ => Prop) True (fun x _ ih => f x ∧ ih) l
theorem allP_mem {α : Type} {f : α → Prop} {l : List α} (h : AllP f l) : ∀ x ∈ l, f x := by
  induction l with
  | nil => exact fun x hx => absurd hx List.not_mem_nil
  | cons y r ih => exact fun x hx => (List.mem_cons.mp hx).elim (fun e => e ▸ h.1) (ih h.2 x)
theorem bltVal_ok : ∀ p ∈ ([(s "len", 0), (s "str", 1), (s "list", 2), (s "dict", 3), (s "range", 4), (s "sorted", 5)] : List (Str × Nat)), bootBuiltins p.1 = some (bltVal p.2) :=
  allP_mem ⟨by kernel_rfl, by kernel_rfl, by kernel_rfl, by kernel_rfl, by kernel_rfl, by kernel_rfl, trivial⟩
end Mine
namespace Mine
section
open Builtin Builtin.ObjectAttr
variable {prog : Program} {w : World} {A : Around} {h : Heap} {g : Array GenState} {d : Drawn} {t : Nat} {os : OsState}
variable {nm q : Str} {C N : Addr} {bs bm : List Value} {hdct : Bool} {sn : List Str} {sub : List Value} {ab : Bool} {col : Option Bool} {dd : Option Addr} {k0 k1 k2 k3 k5 : Option Value}
abbrev bareExc (C t : Addr) : Obj := { cls := .ref C, data := .fields #[.ref t, .none, .none, .none, .bool false, .none] }
theorem exc_new {R : Result → Shared → Prop} {rest : List Value} (hC : h.get? C = some (excClassObj nm q C N bs bm hdct sn sub ab col dd k0 k1 k2 k3 k5 "Exception.__new__"))
    (hcB : (Value.ref C :: bm).contains (.type "Exception") = true) (hcA : (Value.ref C :: bm).contains (.type "AttributeError") = false) (hcN : (Value.ref C :: bm).contains (.type "NameError") = false)
    (hq : R (.ok (.ret (.ref (h.objs.size + 1)))) ⟨(h.push { cls := .type "tuple", data := .seq rest.toArray }).push (bareExc C h.objs.size), g, d, t, os⟩) (hrest : rest.length ≤ sizeLine) :
    codeAny (model prog w) A (.builtin "Exception.__new__" ⟨.ref C :: rest, []⟩) R ⟨h, g, d, t, os⟩ := by
  have Fn := PySem.F.excBase_Exception
  have hends := Fn.ends
  refine codeAny_builtinAt Fn.entry ?_
  unfold Builtin.«BaseException.__new__»
  refine PySem.wpAt_bind ?_
  show PySem.wpAt _ _ _ (stack >>= _) _ _ _
  refine PySem.wpAt_bind (PySem.wpAt_stack fun p below => PySem.wpAt_of_wpAny ?_)
  wp_walk
  refine PySem.wpAt_of_wpAny ?_
  rw [Fn.owner]
  repeat (first | with_reducible refine wpAny_madeHere_exc Fn.canon hC ?_ | with_reducible refine wpAny_loadPart_at hC ?_ | (with_reducible refine wpAny_isSubtype_exc hC ?_; first | rw [hcB] | rw [hcA] | rw [hcN]) | wp_step)
  show R _ _
  rw [Heap.size_push]
  exact hq
theorem exc_call {K : Frag} {E : Value → Shared → Prop} {rest : List Value} {fI : Addr} {Q : Value → Shared → Prop} (X : K.In h)
    (hK : K.lookup C = some (excClassObj nm q C N bs bm hdct sn sub ab col dd k0 k1 k2 k3 k5 "Exception.__new__"))
    (hcB : bm.contains (.type "Exception") = true) (hcA : bm.contains (.type "AttributeError") = false) (hcN : bm.contains (.type "NameError") = false)
    (hi : findIn K (.ref C) "__init__" = some (some (.ref fI))) (hf : typeIn K (.ref fI) = some (.type "function"))
    (hq : wpAny (model prog w) (A.under (.builtin "type.__call__" ⟨.ref C :: rest, []⟩)) (call (.ref fI) (.ref (h.objs.size + 1) :: rest)) (fun r s' => r = .none ∧ Q (.ref (h.objs.size + 1)) s') E
      ⟨(h.push { cls := .type "tuple", data := .seq rest.toArray }).push (bareExc C h.objs.size), g, d, t, os⟩) (hrest : rest.length ≤ sizeLine) :
    wpAny (model prog w) A (call (.ref C) rest) Q E ⟨h, g, d, t, os⟩ := by
  have hC := X _ _ hK
  have hcB' : (Value.ref C :: bm).contains (.type "Exception") = true := by rw [List.contains_cons, hcB, Bool.or_true]
  have hcA' : (Value.ref C :: bm).contains (.type "AttributeError") = false := by rw [List.contains_cons, hcA]; rfl
  have hcN' : (Value.ref C :: bm).contains (.type "NameError") = false := by rw [List.contains_cons, hcN]; rfl
  have f1 := tc_lookup
  have f2 := tc_bind (.ref C)
  have hT : (⟨h, g, d, t, os⟩ : Shared).TypeIs (.ref C) "type" := ⟨_, hC, rfl⟩
  refine wpAny_call (codeAny_of_tree ?_)
  show wpAny _ _ (callAny (.ref C) _) _ _ _
  repeat (any_goals (first | assumption | with_reducible refine wpAny_loadPart_at hC ?_ | wp_step))
  refine ⟨rfl, ?_⟩
  refine codeAny_call_builtin_at (Code.quiet_builtin _ (by decide +kernel)) entry_typeCall (wpAny_check_type_call_sub hC ?_)
  have Fn := PySem.F.excBase_Exception
  repeat (first | with_reducible refine wpAny_loadPart_at hC ?_ | with_reducible refine wpAny_madeBy_exc hC ?_ | wp_step)
  refine codeAny_call_builtin_code (Code.quiet_builtin _ Fn.quiet) (wpAny_check_new_subU Fn hcB (.base (bmB := bm)) hC ?_)
  refine exc_new hC hcB' hcA' hcN' ?_ hrest
  show wpAny _ _ _ _ _ _
  have up : ∀ b o, h.get? b = some o → ((h.push { cls := .type "tuple", data := .seq rest.toArray }).push (bareExc C h.objs.size)).get? b = some o := fun b o e => Heap.get?_push_of_some _ (Heap.get?_push_of_some _ e)
  have X₁ := X.keeps up
  have hC₁ := up _ _ hC
  have hget : ((h.push { cls := .type "tuple", data := .seq rest.toArray }).push (bareExc C h.objs.size)).get? (h.objs.size + 1) = some (bareExc C h.objs.size) := by heap_get
  have hcC : (Value.ref C :: bm).contains (.ref C) = true := by simp
  unfold isInstance
  repeat wp_step
  refine wpAny_isSubtype_exc (C := C) hC₁ ?_
  rw [hcC]
  repeat wp_step
  show wpAny _ _ (typeLookup (.ref C) _) _ _ _
  refine (looks_findIn X₁ hi).here ?_
  refine wpAny_holding (wpAny_bind ?_)
  refine (bind_fn X₁ _ hf).here ?_
  refine wpAny_bind (wpAny_mono hq (fun r s' hr => ?_) fun _ _ x => x)
  obtain ⟨rfl, hQ⟩ := hr
  wp_walk
  exact hQ
end
section
open Builtin Builtin.ObjectAttr
variable {prog : Program} {w : World} {A : Around} {s : Shared} {h₀ : Heap} {L e de : Addr} {m : Str → Option Value} {news : List (Addr × Obj)} {oe : Obj} {K : Frag}
variable {nm q : Str} {C N : Addr} {bs bm : List Value} {hdct : Bool} {sn : List Str} {sub : List Value} {ab : Bool} {col : Option Bool} {dd : Option Addr} {k0 k1 k2 k3 k5 : Option Value}
theorem exc_init {E : Value → Shared → Prop} {v : Value} {t0 : Addr} {Q : Value → Shared → Prop} (F : Fr h₀ L s.heap m) (X : K.In h₀) (Nw : News h₀ L s.heap ((e, oe) :: news)) (hne : ∀ q ∈ news, q.1 ≠ e)
    (hK : K.lookup C = some (excClassObj nm q C N bs bm hdct sn sub ab col dd k0 k1 k2 k3 k5 "Exception.__new__")) (hcB : bm.contains (.type "Exception") = true)
    (hcls : oe.cls = .ref C) (hd : oe.data = .fields #[.ref t0, .none, .none, .none, .bool false, .none])
    (h : ∀ t h', Fr h₀ L h' m → News h₀ L h' ((e, { oe with data := .fields #[.ref t, .none, .none, .none, .bool false, .none] }) :: news) → Q .none { s with heap := h' }) :
    wpAny (model prog w) A (call (.builtin "Exception.__init__") [.ref e, v]) Q E s := by
  have Fn := PySem.F.excBase_Exception
  have hshort := Fn.noStar
  have hC := F.keep _ _ (X _ _ hK)
  have he := (Nw _ (.head _)).1
  have hcB' : (Value.ref C :: bm).contains (.type "Exception") = true := by rw [List.contains_cons, hcB, Bool.or_true]
  obtain ⟨oc, od, odt, osl⟩ := oe
  dsimp only at hcls hd
  subst hcls hd
  obtain ⟨hh, g, d, t, os⟩ := s
  dsimp only at F Nw hC he
  refine wpAny_call (codeAny_call_builtin Fn.init.plain Fn.initEntry ?_)
  have chk : ∀ (M : Model) (A : Around) (Q : Unit → Shared → Prop) (E : Value → Shared → Prop), Q () ⟨hh, g, d, t, os⟩ → wpAny M A (checkBuiltinCall "Exception.__init__" ⟨[.ref e, v], []⟩) Q E ⟨hh, g, d, t, os⟩ := by
    intro M A Q E hq
    simp only [checkBuiltinCall, Fn.initKind, Fn.initSplit, Fn.initRow]
    repeat (first | with_reducible refine wpAny_loadPart_at he ?_ | with_reducible refine wpAny_loadPart_at hC ?_ | (with_reducible refine wpAny_isSubtype_exc hC ?_; rw [hcB']) | wp_step)
    exact hq
  refine chk _ _ _ _ ?_
  wp_walk
  have N1 := Nw.pushKeep { cls := .type "tuple", data := .seq [v].toArray }
  have F1 := F.pushS { cls := .type "tuple", data := .seq [v].toArray }
  obtain ⟨F2, N2⟩ := news_upd (pre := []) (f := Obj.mapFields (·.setIfInBounds 0 (.ref hh.objs.size))) F1 N1 (fun _ h => absurd h List.not_mem_nil) hne (o' := ⟨.ref C, od, .fields #[.ref hh.objs.size, .none, .none, .none, .bool false, .none], osl⟩) rfl rfl
  exact h _ _ F2 N2
theorem exc_osa {od : Option Obj} {cd : ClassData} {name : Str} {tk : Tok} {v : Value} {R : Result → Shared → Prop} (X : K.In s.heap) (I : InstAt s.heap e oe C od) (hc : clsIn K C = some cd)
    (hm : mroIn K C (.type "object") = some true) (hr : ∀ self, refuseLoop self "__setattr__" cd.mro = pure ()) (ht : takerIn K C name = some none)
    (h : ∀ b, wpAny (model prog w) A.in1 (storeInOwnDict (.ref e) (.ref C) (.str name tk) name v b)
      (fun fin s' => match fin with | .done f => R (.ok f) s' | .again c' => c'.quiet = true ∧ codeAny (model prog w) A c' R s') (fun e s' => R (.error e) s') s) :
    codeAny (model prog w) A (.call (.builtin "object.__setattr__") ⟨[.ref e, .str name tk, v], []⟩) R s := by
  have SF := PySem.F.store_object
  have sub : Looks (model prog w) s.heap (isInstance (.ref e) (.type "object")) true := I.type.andThen (looks_mroIn X hm)
  refine codeAny_call_builtin SF.slot.plain SF.entry (@check_slot (model prog w) _ _ s "object.__setattr__" "object" "__setattr__" (.ref e) [.str name tk, v] [] _ SF.kind SF.split sub (SF.args (.ref e) (.str name tk) v) ?_)
  obtain ⟨attr, ha, hr'⟩ := Option.bind_eq_some_iff.mp ht
  have hml : Looks (model prog w) s.heap (mroOf (.ref C)) cd.mro := (looks_clsIn X hc).andThen .now
  have L3 : Looks (model prog w) s.heap (storeTaker? attr) none := by
    cases attr with
    | none => exact .now
    | some a =>
      obtain ⟨b, hb, hb'⟩ := Option.map_eq_some_iff.mp hr'
      refine (looks_takesIn X hb).andThen ?_
      cases b with
      | true => cases hb'
      | false => exact .now
  rw [osa_eq, refuse_eq]
  refine wpAny_bind (wpAny_bind (I.type.here (wpAny_bind (hml.here ?_))))
  rw [hr]
  refine wpAny_pure (wpAny_bind (I.type.here (wpAny_bind ((looks_findIn X ha).here (wpAny_bind (L3.here ?_))))))
  exact h _
theorem exc_put {es : List DictEntry} {n : Nat} {name : Str} {v nv : Value} {E : Value → Shared → Prop} {Q : Fin → Shared → Prop} {pre post : List (Addr × Obj)} (hnv : newKeyGuard de name nv = pure ())
    (F : Fr h₀ L s.heap m) (Nw : News h₀ L s.heap (pre ++ (de, dictOf es n) :: post)) (h1 : ∀ q ∈ pre, q.1 ≠ de) (h2 : ∀ q ∈ post, q.1 ≠ de) (hz : es.length ≤ 900) (hrk : es.any (·.refKey) = false)
    (h : ∀ h' tk, Fr h₀ L h' m → News h₀ L h' (pre ++ (de, dictOf (putL name (PyData.keyHash w.params name) (.str name tk) v es) (putN name es n)) :: post) → Q (.done (.ret .none)) { s with heap := h', toks := s.toks + 1 }) :
    wpAny (model prog w) A (storeInDict de nv name v) Q E s := by
  have hl : (putL name (PyData.keyHash w.params name) (.str name s.toks) v es).length ≤ es.length + 1 := by
    clear h h2 h1 Nw hrk hz
    induction es with
    | nil => exact Nat.le_refl _
    | cons x r ih =>
      unfold putL
      split
      · exact Nat.le_succ _
      · exact Nat.succ_le_succ ih
  obtain ⟨U1, U2⟩ := news_upd (f := Obj.putName name (PyData.keyHash w.params name) (.str name s.toks) v) F Nw h1 h2 (putName_dict ..) rfl
  have D := (Nw (de, dictOf es n) (by simp)).1
  have D' := (U2 (de, dictOf (putL name (PyData.keyHash w.params name) (.str name s.toks) v es) (putN name es n)) (List.mem_append_right _ (.head _))).1
  unfold storeInDict
  rw [hnv]
  refine wpAny_bind (wpAny_pure (wpAny_bind ?_))
  unfold nsSet
  refine wpAny_bind (wpAny_bind (wpAny_askSetting (wpAny_pure (wpAny_bind (wpAny_mkText (wpAny_bind (wpAny_loadPart D ?_)))))))
  dsimp only
  have c : (!(es.toArray.any (·.key.isStr name)) && es.toArray.any (·.refKey)) = false := by
    rw [← Array.any_toList, ← Array.any_toList]
    simp only [hrk, Bool.and_false]
  rw [aRefKeyMayBeTheName_at, c]
  refine wpAny_updatePart D ?_
  refine wpAny_bind (wpAny_lookBehind D' (pastItsLine_dict (by rw [List.size_toArray, sizeLine_eq]; omega)) ?_)
  exact wpAny_pure (h _ _ U1 U2)
theorem exc_set0 {cd : ClassData} {name : Str} {v : Value} {E : Value → Shared → Prop} {Q : Unit → Shared → Prop} (F : Fr h₀ L s.heap m) (X : K.In h₀) (Nw : News h₀ L s.heap ((e, oe) :: news)) (hne : ∀ q ∈ news, q.1 ≠ e)
    (hcls : oe.cls = .ref C) (hd : oe.data = .fields #[v0, .none, .none, .none, .bool false, .none]) (hdn : oe.dict = none)
    (hs : findIn K (.ref C) "__setattr__" = some (some (.builtin "object.__setattr__"))) (hc : clsIn K C = some cd) (hcd : cd.hasDict = true) (hm : mroIn K C (.type "object") = some true) (hr : ∀ self, refuseLoop self "__setattr__" cd.mro = pure ()) (ht : takerIn K C name = some none)
    (h : ∀ D h' tk, Fr h₀ L h' m → News h₀ L h' ((D, dictOf (putL name (PyData.keyHash w.params name) (.str name tk) v []) (putN name [] 0)) :: (e, { oe with dict := some D }) :: news) → (∀ q ∈ (e, oe) :: news, q.1 < D) → Q () { s with heap := h', toks := s.toks + 2 }) :
    wpAny (model prog w) A (setAttr (.ref e) name v) Q E s := by
  obtain ⟨hh, g, d, tk0, os⟩ := s
  dsimp only at F Nw
  have he := (Nw _ (.head _)).1
  have hX := X.keeps F.keep
  have I : InstAt hh e oe C none := ⟨he, hcls, by unfold notCls; rw [hd], by rw [hdn]; trivial⟩
  refine set_plain hX I hs (exc_osa (s := ⟨hh, g, d, tk0 + 1, os⟩) hX I hc hm hr ht fun b => ?_)
  obtain ⟨oc, odd, odt, osl⟩ := oe
  dsimp only at hcls hd hdn
  subst hcls hd hdn
  refine wpAny_bind (wpAny_pure (wpAny_bind (wpAny_bind (wpAny_loadPart he (wpAny_bind ((looks_clsIn hX hc).here ?_))))))
  rw [hcd]
  refine wpAny_bind (wpAny_alloc' ?_)
  have N1 := News.push F Nw { cls := .type "dict", data := .dict #[] }
  have F1 := F.pushS { cls := .type "dict", data := .dict #[] }
  have hlt : ∀ q ∈ ((e, (⟨.ref C, none, .fields #[v0, .none, .none, .none, .bool false, .none], osl⟩ : Obj)) :: news), q.1 < hh.objs.size := fun q hq => Heap.lt_size (Nw q hq).1
  refine wpAny_bind (wpAny_update' (Heap.get?_push_of_some _ he) ?_)
  obtain ⟨F2, N2⟩ := news_upd (pre := [(hh.objs.size, { cls := .type "dict", data := .dict #[] })]) (f := fun o => { cls := o.cls, dict := some hh.objs.size, data := o.data, slots := o.slots }) F1 N1
    (fun q hq => by rw [List.mem_singleton.mp hq]; exact Nat.ne_of_gt (hlt _ (.head _))) hne rfl rfl
  refine wpAny_pure ?_
  refine exc_put (es := []) (n := 0) (pre := []) rfl F2 N2 (fun _ h => absurd h List.not_mem_nil) (fun q hq => ?_) (Nat.zero_le _) rfl fun h' tk F3 N3 => ?_
  · rcases List.mem_cons.mp hq with rfl | hq
    · exact Nat.ne_of_lt (Heap.lt_size he)
    · exact Nat.ne_of_lt (hlt _ (.tail _ hq))
  · exact h _ h' tk F3 N3 hlt
theorem exc_set1 {cd : ClassData} {name : Str} {v : Value} {es : List DictEntry} {n : Nat} {E : Value → Shared → Prop} {Q : Unit → Shared → Prop} {pre post : List (Addr × Obj)} (F : Fr h₀ L s.heap m) (X : K.In h₀) (Nw : News h₀ L s.heap (pre ++ (de, dictOf es n) :: post))
    (h1 : ∀ q ∈ pre, q.1 ≠ de) (h2 : ∀ q ∈ post, q.1 ≠ de) (hme : (e, oe) ∈ pre ++ (de, dictOf es n) :: post)
    (hcls : oe.cls = .ref C) (hd : notCls oe = true) (hdn : oe.dict = some de)
    (hs : findIn K (.ref C) "__setattr__" = some (some (.builtin "object.__setattr__"))) (hc : clsIn K C = some cd) (hcd : cd.hasDict = true) (hm : mroIn K C (.type "object") = some true) (hr : ∀ self, refuseLoop self "__setattr__" cd.mro = pure ()) (ht : takerIn K C name = some none)
    (hz : es.length ≤ 900) (hrk : es.any (·.refKey) = false)
    (h : ∀ h' tk, Fr h₀ L h' m → News h₀ L h' (pre ++ (de, dictOf (putL name (PyData.keyHash w.params name) (.str name tk) v es) (putN name es n)) :: post) → Q () { s with heap := h', toks := s.toks + 2 }) :
    wpAny (model prog w) A (setAttr (.ref e) name v) Q E s := by
  obtain ⟨hh, g, d, tk0, os⟩ := s
  dsimp only at F Nw
  have he := (Nw _ hme).1
  have hX := X.keeps F.keep
  have I : InstAt hh e oe C (some (dictOf es n)) := ⟨he, hcls, hd, by rw [hdn]; exact (Nw (de, dictOf es n) (by simp)).1⟩
  refine set_plain hX I hs (exc_osa (s := ⟨hh, g, d, tk0 + 1, os⟩) hX I hc hm hr ht fun b => ?_)
  obtain ⟨oc, odd, odt, osl⟩ := oe
  dsimp only at hcls hdn
  subst hcls hdn
  refine wpAny_bind (wpAny_pure (wpAny_bind (wpAny_bind (wpAny_loadPart he (wpAny_bind ((looks_clsIn hX hc).here ?_))))))
  rw [hcd]
  refine wpAny_pure ?_
  exact exc_put (s := ⟨hh, g, d, tk0 + 1, os⟩) rfl F Nw h1 h2 hz hrk fun h' tk F3 N3 => h h' tk F3 N3
end
noncomputable def ii (P : Params) (f : Nat) : FnI := @Option.rec FnI (fun _ => FnI) ⟨s "", [], [], ⟨.function, [], false, false, []⟩⟩ (fun i => i) (fnI P f)
theorem ii_some (P : Params) : (fnI P 62 = some (ii P 62)) ∧ (fnI P 42 = some (ii P 42)) := by
  constructor <;> kernel_rfl
theorem ii_ok (w : World) : (chkF (KK w) 62 && chkF (KK w) 42) = true := by kernel_rfl
theorem enter_raw {q q' : Bool} {c : Cd} {n : Nat} {f : Nat} {i : FnI} {A' : Around} (C : Ck q c n) (FO : FnOk (KK c.w) f i) (hA : A'.frames = some (c.fenv :: c.outer)) (hh : A'.handled = none) (hd : A'.depth + 1 + 5 * n < recursionLimit) (hu : A'.units + 3 + 30 * n + 100 < cLine) {s : Shared} {us : List Value} {news : List (Addr × Obj)}
    (F : Fr c.h₀ c.L s.heap c.m) (N : News c.h₀ c.L s.heap news) (hl : us.length = i.pars.length) (hp : allLoc i.sc.names i.pars = true) (hc : cellNames i.sc.names [] = []) {R : Result → Shared → Prop}
    (h : ∀ (c' : Cd) h₁ tk (E' : Value → Shared → Prop), Ck q' c' n → c'.w = c.w → c'.A = A'.deeper c'.env → c'.fenv = c'.env → c'.env.scope = i.sc → c'.env.locals = c'.L → (∀ x u, (x, u) ∈ i.pars.zip us → c'.m x = some u) → c'.h₀.get? c.L = none ∨ True → Fr c'.h₀ c'.L h₁ c'.m → News c'.h₀ c'.L h₁ news →
      wpAny (MM c.w) c'.A (execs i.body c'.env) (fun fl s' => LeaveK c.h₀ c.L c.m c'.h₀ R (match fl with | .ret v => v | _ => .none) s') E' { s with heap := h₁, toks := tk }) : codeAny (MM c.w) A' (.call (.ref f) ⟨us, []⟩) R s := by
  obtain ⟨⟨oc, od, osl, name, params, kV, doc, pm, an, cdv, ct, hK, hcd, hq0, hq⟩, nd, cnd, co, gen, kd⟩ := FO
  have hb : BindsTo s (fnOf name i.qual params i.body i.sc .none kV doc pm an cdv ct) ⟨us, []⟩ (i.pars.zip us) := BindsTo.of_eq (by
    rw [← hq]
    exact bind_plain (fd := fnOf name i.qual params i.body i.sc .none kV doc pm an cdv ct) hq0 rfl (by rw [hq]; exact nd) (by rw [hl, ← hq, List.length_map]))
  have zk : ((i.pars.zip us).map (·.1)).Nodup := by rw [zip_keys hl]; exact nd
  refine code_defC C.B F C.X N C.T hA C.hf C.hke hK hcd (by omega) hb (List.all_eq_true.mpr fun y hy => ?_) cnd (fun g L' h₁ tk cells Fg F' N' Y B' X' T' hlt => ?_) co gen kd
  · rw [allLoc_mem hp y.1 (List.of_mem_zip hy).1]; rfl
  let c' : Cd := frC c A' (c.fenv :: c.outer) i.qual i.sc L' f cdv g (i.pars.zip us)
  have C' : Ck q' c' n := enter_ck B' X' T' hA hh kd (by omega) (by omega) Fg C.xs
  have ki : ∀ x, (envOfC i.qual i.sc L' f cdv).kindOf x = i.sc.names.lookup x := fun x => rfl
  have cn : (cellsFrom (L' + 1) i.sc.names []).map (·.1) = cellNames i.sc.names [] := cells_names _ _ _
  have c0 : cells = [] := by
    have := cells_keys Y
    rw [hc] at cn
    have e : cellsFrom (L' + 1) i.sc.names [] = [] := by
      cases q : cellsFrom (L' + 1) i.sc.names [] with
      | nil => rfl
      | cons a b => rw [q] at cn; cases cn
    rw [e] at this
    cases cells with
    | nil => rfl
    | cons a b => cases this
  subst c0
  exact h c' h₁ tk _ C' rfl rfl rfl rfl rfl (fun x u hm => bindL_mem (by rw [ki]; exact allLoc_mem hp x (List.of_mem_zip hm).1) zk hm) (.inr trivial) F' N'
end Mine
namespace Mine
noncomputable def clsO (d : Data) : Option ClassData := match d with
  | .cls c => some c
  | _ => none
noncomputable def o65 (w : World) : Obj := @Option.rec Obj (fun _ => Obj) { cls := .none } (fun o => o) ((KK w).lookup 65)
noncomputable def c65 (w : World) : ClassData := @Option.rec ClassData (fun _ => ClassData) { name := s "", bases := [], mro := [], ns := 0 } (fun o => o) (clsO (o65 w).data)
noncomputable def sl65 (w : World) (i : Nat) : Option Value := (o65 w).slots.toList.getD i none
section
variable (w : World)
theorem k65 : (KK w).lookup 65 = some (excClassObj (c65 w).name (c65 w).qualname 65 (c65 w).ns (c65 w).bases (c65 w).mro.tail (c65 w).hasDict (c65 w).slotNames (c65 w).subclasses (c65 w).abstract (c65 w).collection (o65 w).dict (sl65 w 0) (sl65 w 1) (sl65 w 2) (sl65 w 3) (sl65 w 5) "Exception.__new__") := by kernel_rfl
theorem h651 : (c65 w).mro.tail.contains (.type "BaseException") = true := by kernel_rfl
theorem h652 : (c65 w).mro.tail.contains (.type "Exception") = true := by kernel_rfl
theorem h653 : (c65 w).mro.tail.contains (.type "AttributeError") = false := by kernel_rfl
theorem h654 : (c65 w).mro.tail.contains (.type "NameError") = false := by kernel_rfl
theorem exc65 : ExcC (KK w) 65 := .mk _ _ _ _ _ _ _ _ _ _ _ _ _ _ _ _ (k65 w) (h651 w) (h652 w) (h653 w) (h654 w)
theorem mf2 : findIn (KK w) (.ref 65) "__init__" = some (some (.ref 62)) := by kernel_rfl
theorem mf3 : typeIn (KK w) (.ref 62) = some (.type "function") := by kernel_rfl
theorem mf4 : nsIn (KK w) mainGlobals (Str.ofString "AdaError") = some (some (.ref 45)) := by kernel_rfl
theorem mf5 : nsIn (KK w) mainGlobals (Str.ofString "Exception") = some none := by kernel_rfl
theorem mf7 : specialIn (KK w) (.ref 45) "__getattribute__" = some (some (.builtin "type.__getattribute__")) := by kernel_rfl
theorem mf8 : readsIn (KK w) 45 (.type "type") = true := by kernel_rfl
theorem mf9 : findCls (KK w) (.ref 45) (.type "type") "__init__" = some (.val (.ref 42)) := by kernel_rfl
theorem mf10 : findCls (KK w) (.type "Exception") (.type "type") "__init__" = some (.val (.builtin "Exception.__init__")) := by kernel_rfl
theorem mf11 : keepIn (KK w) (.ref 42) = true := by kernel_rfl
theorem mf12 : keepIn (KK w) (.ref 65) = true := by kernel_rfl
theorem mf13 : findIn (KK w) (.ref 65) "__setattr__" = some (some (.builtin "object.__setattr__")) := by kernel_rfl
theorem mf14 : mroIn (KK w) 65 (.type "object") = some true := by kernel_rfl
theorem mf15 : clsIn (KK w) 65 = some (c65 w) := by kernel_rfl
theorem mf15d : (c65 w).hasDict = true := by kernel_rfl
theorem mf15m : (c65 w).mro = [.ref 65, .ref 45, .type "Exception", .type "BaseException", .type "object"] := by kernel_rfl
theorem mf15r (self : Value) : refuseLoop self "__setattr__" (c65 w).mro = pure () := by
  rw [mf15m]
  exact (refuseLoop_ref ..).trans ((refuseLoop_ref ..).trans (PySem.F.store_Exception.passes self))
theorem mf16 : takerIn (KK w) 65 (Str.ofString "text") = some none := by kernel_rfl
theorem mf17 : takerIn (KK w) 65 (Str.ofString "line") = some none := by kernel_rfl
end
end Mine
namespace Mine
theorem meth_any {prog : Program} {w : World} {A : Around} {E : Value → Shared → Prop} {s : Shared} {env : Env} {o : Expr} {name : Str} {apos pos : Pos} {args : List Expr} {Q : Value → Shared → Prop}
    (hbase : attributeBase o name env (eval o env) = eval o env)
    (hfew : ((backTo pos (starEach args env)).all (fun x => !x.1) && (backToKw pos (keywordEach [] env)).all (fun x => x.1.isSome)
      && decide (args.length + ([] : List Keyword).length + (if ([] : List Keyword).isEmpty then 0 else 1) < 30)) = true)
    (hline : (apos.endLine == pos.line) = true)
    (h : wpAny (model prog w) A (eval o env) (fun ov s₁ => ∀ pl, wpAny (model prog w) A (getMethod ov name pl) (fun fx s₂ => wpAny (model prog w) A (callWith pos fx.1 fx.2 (backTo pos (starEach args env)) []) Q E s₂) E s₁) E s) :
    wpAny (model prog w) A (eval (.Call (.Attribute o name apos) args [] pos) env) Q E s := by
  rw [arm_eval_Call, hbase]
  refine wpAny_bind (wpAny_mono h (fun ov s₁ h₁ => ?_) fun _ _ e => e)
  refine wpAny_bind (wpAny_standAt ?_)
  have hform : methodCallForm (args.length + ([] : List Keyword).length) (backTo pos (starEach args env)) (backToKw pos (keywordEach [] env)) = true := hfew
  have hpos : methodCallPos true o env apos pos = pure pos := by unfold methodCallPos; simp [hline]
  unfold methodCall
  rw [hform]
  exact wpAny_bind (wpAny_holding (wpAny_mono (h₁ _) (fun fx s₂ h₂ => wpAny_bind (wpAny_of_eq hpos h₂)) fun _ _ e => e))
noncomputable def exprSO (e : Stmt) : Option (Expr × Pos) := match e with
  | .Expr e p => some (e, p)
  | _ => none
noncomputable def asgSO (e : Stmt) : Option (List Expr × Expr × Pos) := match e with
  | .Assign ts e p => some (ts, e, p)
  | _ => none
theorem exprSO_el {e : Stmt} {q : Expr × Pos} (h : exprSO e = some q) : e = .Expr q.1 q.2 := by cases e <;> first | exact nS h | exact Option.some.inj h ▸ rfl
theorem asgSO_el {e : Stmt} {q : List Expr × Expr × Pos} (h : asgSO e = some q) : e = .Assign q.1 q.2.1 q.2.2 := by cases e <;> first | exact nS h | exact Option.some.inj h ▸ rfl
noncomputable def isNm (e : Expr) (x : Str) : Bool := oT (nameO e) fun q => Fast.sEq q.1 x
theorem isNm_ok {e : Expr} {x : Str} (h : isNm e x = true) : ∃ p, e = .Name x p := oT_el h fun q a b => ⟨q.2, Fast.sEq_iff.mp b ▸ name_el a⟩
inductive Cal2 (C : Str) (st : Stmt) : Prop
  | mk (p1 p2 p3 p4 pos p5 : Pos) (e : st = .Expr (.Call (.Attribute (.Name C p1) (s "__init__") p2) [.Name (s "self") p3, .Name (s "text") p4] [] pos) p5) (l : (p2.endLine == pos.line) = true)
noncomputable def isCal2 (C : Str) (st : Stmt) : Bool := oT (exprSO st) fun r => oT (callO r.1) fun q => oT (attrO q.1) fun a => oT (twoL q.2.1) fun z => nilB q.2.2.1 && isNm a.1 C && isNm z.1 (s "self") && isNm z.2 (s "text") && Fast.sEq a.2.1 (s "__init__") && (a.2.2.endLine == q.2.2.2.line)
theorem isCal2_ok {C : Str} {st : Stmt} (h : isCal2 C st = true) : Cal2 C st := oT_el h fun r hr h => oT_el h fun q hq h => oT_el h fun a ha h => oT_el h fun z hz h => and_el h fun h h6 => and_el h fun h h5 => and_el h fun h h4 => and_el h fun h h3 => and_el h fun h1 h2 =>
  (isNm_ok h2).elim fun p1 e1 => (isNm_ok h3).elim fun p3 e3 => (isNm_ok h4).elim fun p4 e4 => ⟨p1, a.2.2, p3, p4, q.2.2.2, r.2, by rw [exprSO_el hr, call_el hq, attr_el ha, twoL_el hz, nilB_ok h1, e1, e3, e4, Fast.sEq_iff.mp h5], h6⟩
inductive Sto2 (F : Str) (st : Stmt) : Prop
  | mk (p6 p7 p8 p9 : Pos) (e : st = .Assign [.Attribute (.Name (s "self") p6) F p7] (.Name F p8) p9)
noncomputable def isSt2 (F : Str) (st : Stmt) : Bool := oT (asgSO st) fun q => oT (oneL q.1) fun t => oT (attrO t) fun a => isNm a.1 (s "self") && Fast.sEq a.2.1 F && isNm q.2.1 F
theorem isSt2_ok {F : Str} {st : Stmt} (h : isSt2 F st = true) : Sto2 F st := oT_el h fun q hq h => oT_el h fun t ht h => oT_el h fun a ha h => and_el h fun h h3 => and_el h fun h1 h2 =>
  (isNm_ok h1).elim fun p6 e6 => (isNm_ok h3).elim fun p8 e8 => ⟨p6, a.2.2, p8, q.2.2, by rw [asgSO_el hq, oneL_el ht, attr_el ha, e6, e8, Fast.sEq_iff.mp h2]⟩
inductive Ini (C F : Str) (b : List Stmt) : Prop
  | mk (st1 st2 : Stmt) (e : b = [st1, st2]) (h1 : Cal2 C st1) (h2 : Sto2 F st2)
noncomputable def isIni (C F : Str) (b : List Stmt) : Bool := oT (twoL b) fun q => isCal2 C q.1 && isSt2 F q.2
theorem isIni_ok {C F : Str} {b : List Stmt} (h : isIni C F b = true) : Ini C F b := oT_el h fun q e h => and_el h fun h1 h2 => ⟨q.1, q.2, twoL_el e, isCal2_ok h1, isSt2_ok h2⟩
section
variable (P : Params)
theorem ni1 : isIni (s "AdaError") (s "line") (ii P 62).body = true := by kernel_rfl
theorem ni2 : isIni (s "Exception") (s "text") (ii P 42).body = true := by kernel_rfl
theorem ni3 : allLoc (ii P 62).sc.names (ii P 62).pars = true := by kernel_rfl
theorem ni4 : allLoc (ii P 42).sc.names (ii P 42).pars = true := by kernel_rfl
theorem ni5 : cellNames (ii P 62).sc.names [] = [] := by kernel_rfl
theorem ni6 : cellNames (ii P 42).sc.names [] = [] := by kernel_rfl
theorem ni7 : (ii P 62).pars = [Str.ofString "self", Str.ofString "line", Str.ofString "text"] := by kernel_rfl
theorem ni8 : (ii P 42).pars = [Str.ofString "self", Str.ofString "text"] := by kernel_rfl
theorem ni9 : lkS (ii P 62).sc.names (Str.ofString "AdaError") = some .globalImplicit := by kernel_rfl
theorem ni10 : lkS (ii P 42).sc.names (Str.ofString "Exception") = some .globalImplicit := by kernel_rfl
end
end Mine
namespace Mine
theorem news_sub {h₀ : Heap} {L : Addr} {h : Heap} {l l' : List (Addr × Obj)} (N : News h₀ L h l) (hs : ∀ q ∈ l', q ∈ l) : News h₀ L h l' := fun q hq => N q (hs q hq)
theorem nm_loc {q : Bool} {c : Cd} {n : Nat} (C : Ck q c n) (hE : c.fenv = c.env) (hL : c.env.locals = c.L) {sc : Names} (hs : c.env.scope.names = sc) {x : Str} {p : Pos} {u : Value} (hk : sc.lookup x = some .local) (hm : c.m x = some u) (hd : Fast.sEq x dbg = false) {s : Shared} (F : Fr c.h₀ c.L s.heap c.m) {Q E : Value → Shared → Prop}
    (h : Q u s) : wpAny (MM c.w) c.A (eval (.Name x p) c.env) Q E s :=
  wpAny_Name (wpAny_loadName_local C.hk (by unfold Env.kindOf; rw [hs]; exact hk) (by rw [hL]; exact F.ns) hm h) (not_dbg hd)
theorem two_args {c : Cd} {pos : Pos} {x y : Str} {p3 p4 : Pos} {u v : Value} {s : Shared} {Q : List Value → Shared → Prop} {E : Value → Shared → Prop} (hx : ∀ (Q : Value → Shared → Prop), Q u s → wpAny (MM c.w) c.A (eval (.Name x p3) c.env) Q E s) (hy : ∀ (Q : Value → Shared → Prop), Q v s → wpAny (MM c.w) c.A (eval (.Name y p4) c.env) Q E s) (h : Q [u, v] s) :
    wpAny (MM c.w) c.A (spliced (backTo pos (starEach [.Name x p3, .Name y p4] c.env))) Q E s := by
  refine spliced_more ?_ rfl
  refine hx _ ?_
  refine spliced_more ?_ rfl
  exact hy _ (spliced_none h)
set_option maxHeartbeats 1000000 in
theorem make_fault {c : Cd} {n : Nat} (C : Ck false c (n + 2)) {s : Shared} {rest : List (Addr × Obj)} (F : Fr c.h₀ c.L s.heap c.m) (N : News c.h₀ c.L s.heap rest) {ln : Int} {t1 : Tok} {v2 : Value} {Q E : Value → Shared → Prop}
    (ret : ∀ e de es nn vs t' h' tk', LineIs c.w.params es ln t1 → Fr c.h₀ c.L h' c.m →
      News c.h₀ c.L h' ((e, { cls := .ref 65, dict := some de, data := .fields #[.ref t', .none, .none, .none, .bool false, .none], slots := vs }) :: (de, dictOf es nn) :: rest) → ((∀ q ∈ (de, dictOf es nn) :: rest, q.1 ≠ e) ∧ ∀ q ∈ rest, q.1 ≠ de) → Q (.ref e) { s with heap := h', toks := tk' }) :
    wpAny (MM c.w) c.A (call (.ref 65) [.int ln t1, v2]) Q E s := by
  refine (isIni_ok (ni1 c.w.params)).rec fun sa1 sa2 eb1 ec1 es1 => ec1.rec fun p1 p2 p3 p4 pos p5 eA1 hl62 => es1.rec fun p6 p7 p8 p9 eB1 => ?_
  refine (isIni_ok (ni2 c.w.params)).rec fun sb1 sb2 eb2 ec2 es2 => ec2.rec fun r1 r2 r3 r4 ros r5 eA2 hl42 => es2.rec fun r6 r7 r8 r9 eB2 => ?_
  have e62 := eb1
  rw [eA1, eB1] at e62
  have e42 := eb2
  rw [eA2, eB2] at e42
  clear eb1 eA1 eB1 ec1 es1 eb2 eA2 eB2 ec2 es2
  have hii := ii_ok c.w
  rw [Bool.and_eq_true] at hii
  have f62 := (fn_of hii.1 (ii_some c.w.params).1).1
  have f42 := (fn_of hii.2 (ii_some c.w.params).2).1
  have q62 := ni7 c.w.params
  have q42 := ni8 c.w.params
  have b3 := ni3 c.w.params
  have b4 := ni4 c.w.params
  have n62 := lkS_lookup (ni9 c.w.params)
  have n42 := lkS_lookup (ni10 c.w.params)
  have l62 := allLoc_mem b3
  have l42 := allLoc_mem b4
  have dS : Fast.sEq (Str.ofString "self") dbg = false := by decide +kernel
  have dT : Fast.sEq (Str.ofString "text") dbg = false := by decide +kernel
  have dL : Fast.sEq (Str.ofString "line") dbg = false := by decide +kernel
  have dA : Fast.sEq (Str.ofString "AdaError") dbg = false := by decide +kernel
  have dX : Fast.sEq (Str.ofString "Exception") dbg = false := by decide +kernel
  have hdp := C.dp
  have hun := C.un
  obtain ⟨hh, gg, dd, tk, os⟩ := s
  dsimp only at F N
  refine exc_call (h := hh) (fI := 62) (C.X.keeps F.keep) (k65 c.w) (h652 c.w) (h653 c.w) (h654 c.w) (mf2 c.w) (mf3 c.w) ?_ (by show 2 ≤ sizeLine; decide)
  have F1 := (F.push { cls := .type "tuple", data := .seq [Value.int ln t1, v2].toArray }).push (bareExc 65 hh.objs.size)
  have N1 := (N.push F { cls := .type "tuple", data := .seq [Value.int ln t1, v2].toArray }).push (F.push _) (bareExc 65 hh.objs.size)
  rw [Heap.size_push] at N1
  have hne : ∀ q ∈ (hh.objs.size, ({ cls := .type "tuple", data := .seq [Value.int ln t1, v2].toArray } : Obj)) :: rest, q.1 ≠ hh.objs.size + 1 := fun q hq => by
    rcases List.mem_cons.mp hq with rfl | hq
    · exact Nat.ne_of_lt (Nat.lt_succ_self _)
    · exact Nat.ne_of_lt (Nat.lt_succ_of_lt (Heap.lt_size (N q hq).1))
  clear N
  generalize he : hh.objs.size + 1 = e at F1 N1 hne ⊢
  generalize ht : hh.objs.size = t at F1 N1 hne ⊢
  clear he ht
  generalize Heap.push _ _ = h1 at F1 N1 ⊢
  refine wpAny_call (enter_raw (q' := false) (c := c) (n := n + 1) (A' := c.A.under (.builtin "type.__call__" ⟨[.ref 65, .int ln t1, v2], []⟩)) (C.le (Nat.le_succ _)) f62 ?_ ?_ ?_ ?_ F1 N1 (by rw [q62]; rfl) b3 (ni5 c.w.params) fun c' h₁ tk' E' C' hw hA' hfe hsc hL hm _ F' N' => ?_)
  · exact C.hA
  · exact C.hh rfl
  · show c.A.depth + 1 + 1 + 5 * (n + 1) < _; omega
  · rw [units_under_make]; omega
  rw [q62] at hm
  have mS := hm _ _ (.head _)
  have mL := hm _ _ (.tail _ (.head _))
  have mT := hm _ _ (.tail _ (.tail _ (.head _)))
  have hs' : c'.env.scope.names = (ii c.w.params 62).sc.names := by rw [hsc]
  have kS := l62 (Str.ofString "self") (by rw [q62]; exact .head _)
  have kL := l62 (Str.ofString "line") (by rw [q62]; exact .tail _ (.head _))
  have kT := l62 (Str.ofString "text") (by rw [q62]; exact .tail _ (.tail _ (.head _)))
  rw [e62, ← hw]
  have hdp' := C'.dp
  have hun' := C'.un
  refine wpAny_execs_cons (wpAny_Expr_any ?_ (by unfold interactive; rw [C'.hk]; rfl) (swaps_not rfl))
  refine meth_any (base_plain rfl) rfl hl62 ?_
  refine nameG_K F' C'.X (topRead_of C'.T) (mf4 c'.w) (fun pl => ?_) C'.hg C'.hk (by unfold Env.kindOf; rw [hs']; exact n62) (not_dbg dA)
  refine method_cls (C'.X.keeps F'.keep) (mf7 c'.w) ?_
  refine cls_value (C'.X.keeps F'.keep) (mf8 c'.w) (mf9 c'.w) rfl ?_
  refine callWith_K (h₀ := c'.h₀) C'.X (mf11 c'.w) ?_
  refine two_args (fun Q h => nm_loc C' hfe hL hs' kS mS dS F' h) (fun Q h => nm_loc C' hfe hL hs' kT mT dT F' h) ⟨C'.X.keeps F'.keep, ?_⟩
  refine wpAny_call (enter_raw (q' := false) (n := n) (C'.le (Nat.le_succ n)) (hw ▸ f42) C'.hA (C'.hh rfl) (by omega) (by omega) F' N' (by rw [hw, q42]; rfl) (by rw [hw]; exact b4) (by rw [hw]; exact ni6 c.w.params) fun c2 h₂ tk2 E2 C2 hw2 hA2 hfe2 hsc2 hL2 hm2 _ F2 N2 => ?_)
  rw [hw, q42] at hm2
  have mS2 := hm2 _ _ (.head _)
  have mT2 := hm2 _ _ (.tail _ (.head _))
  have hs2 : c2.env.scope.names = (ii c.w.params 42).sc.names := by rw [hsc2, hw]
  have kS2 := l42 (Str.ofString "self") (by rw [q42]; exact .head _)
  have kT2 := l42 (Str.ofString "text") (by rw [q42]; exact .tail _ (.head _))
  have hww : c2.w = c.w := hw2.trans hw
  have e42' : (ii c'.w.params 42).body = _ := hw ▸ e42
  rw [e42', ← hw2]
  refine wpAny_execs_cons (wpAny_Expr_any ?_ (by unfold interactive; rw [C2.hk]; rfl) (swaps_not rfl))
  refine meth_any (base_plain rfl) rfl hl42 ?_
  have TR := topRead_of C2.T
  refine Name_function_global C2.hk (by unfold Env.kindOf; rw [hs2]; exact n42) (loadGlobal_builtin (env := c2.env) (by rw [C2.hg]; exact TR.g.keeps F2.keep) (mg_none_of C2.X TR.g (mf5 c2.w)) (by rw [C2.hb]; exact TR.b.keeps F2.keep) ((TR.builtins _ (by decide +kernel)).trans (by kernel_rfl : _ = some (Value.type "Exception"))) (fun pl => ?_)) (not_dbg dX)
  refine method_type F2 C2.X (by first | rfl | kernel_rfl) (by decide +kernel) (mf10 c2.w) (by decide) ?_
  refine Calls.callWith_builtin rfl (evalArgs_plain ?_)
  refine two_args (fun Q h => nm_loc C2 hfe2 hL2 hs2 kS2 mS2 dS F2 h) (fun Q h => nm_loc C2 hfe2 hL2 hs2 kT2 mT2 dT F2 h) ?_
  refine exc_init (K := KK c2.w) F2 C2.X N2 hne (k65 c2.w) (h652 c2.w) rfl rfl fun t2 h3 F3 N3 => ?_
  dsimp only at N3
  refine wpAny_execs_cons (plainObj_wpAny_Assign_Attribute (nm_loc C2 hfe2 hL2 hs2 kT2 mT2 dT F3 (nm_loc C2 hfe2 hL2 hs2 kS2 mS2 dS F3 ?_)) (swaps_attr rfl))
  refine exc_set0 (K := KK c2.w) F3 C2.X N3 hne rfl rfl rfl (mf13 c2.w) (mf15 c2.w) (mf15d c2.w) (mf14 c2.w) (mf15r c2.w) (mf16 c2.w) fun D2 h4 tk4 F4 N4 l4 => ?_
  refine wpAny_execs_nil (leaveK_ F4 N4 fun F5 N5 => ?_)
  dsimp only
  rw [hw2]
  refine wpAny_execs_cons (plainObj_wpAny_Assign_Attribute (nm_loc C' hfe hL hs' kL mL dL F5 (nm_loc C' hfe hL hs' kS mS dS F5 ?_)) (swaps_attr rfl))
  have le : e < D2 := l4 _ (.head _)
  have lr : ∀ q ∈ (t, ({ cls := .type "tuple", data := .seq [Value.int ln t1, v2].toArray } : Obj)) :: rest, q.1 < D2 := fun q hq => l4 q (.tail _ hq)
  refine exc_set1 (pre := []) (K := KK c'.w) F5 C'.X N5 (fun _ h => absurd h List.not_mem_nil) (fun q hq => ?_) (.tail _ (.head _)) rfl rfl rfl (mf13 c'.w) (mf15 c'.w) (mf15d c'.w) (mf14 c'.w) (mf15r c'.w) (mf17 c'.w) (Nat.le_of_ble_eq_true rfl) rfl fun h6 tk6 F6 N6 => ?_
  · rcases List.mem_cons.mp hq with rfl | hq
    · exact Nat.ne_of_lt le
    · exact Nat.ne_of_lt (lr q hq)
  refine wpAny_execs_nil (leaveK_ F6 N6 fun F7 N7 => ⟨rfl, ?_⟩)
  refine' ret e D2 ?es ?nn #[] t2 _ _ ?g F7 ?N ?ne
  case N => exact news_sub N7 (by
    intro q hq
    rcases hq with _ | ⟨_, _ | ⟨_, hq⟩⟩
    · exact List.Mem.tail _ (List.Mem.head _)
    · exact List.Mem.head _
    · exact List.Mem.tail _ (List.Mem.tail _ (List.Mem.tail _ hq)))
  case g => exact ⟨[(Str.ofString "text", v2), (Str.ofString "line", .int ln t1)], .cons ⟨⟨_, rfl⟩, by rw [← hww]; rfl, rfl⟩ (.cons ⟨⟨_, rfl⟩, by rw [← hw]; rfl, rfl⟩ .nil), (show [Str.ofString "text", Str.ofString "line"].Nodup by decide +kernel), Nat.le_of_ble_eq_true rfl, by rfl⟩
  case ne =>
    refine ⟨?_, fun q hq => Nat.ne_of_lt (lr q (.tail _ hq))⟩
    intro q hq
    rcases List.mem_cons.mp hq with rfl | hq
    · exact Nat.ne_of_gt le
    · exact hne q (.tail _ hq)
end Mine
namespace Mine
theorem tab_ok (w : World) : TabOk (tab w.params) w where
  glob := fun x v h => chkG_ok (glob_ok w) _ (lkS_mem h)
  fld := fun c f h => oT_el h fun l e h => chkN_ok (fld_ok w) _ (lkN_mem e) f (memS_of h)
  fns := fun f i h => bool_el (b := memN fnsL f) (fun e => fn_of (chkFs_ok (fns_ok w) f e) ((congrArg (@Bool.rec (fun _ => Option FnI) none (fnI w.params f)) e).symm.trans h)) fun e => nS ((congrArg (@Bool.rec (fun _ => Option FnI) none (fnI w.params f)) e).symm.trans h)
  ini := fun C f h => chkI_ok (ini_ok w) _ (lkN_mem h)
  blt := fun x code h => ⟨(chkB_ok (blt_ok w) _ (lkS_mem h)).1, bltVal_ok _ (lkS_mem h), (chkB_ok (blt_ok w) _ (lkS_mem h)).2⟩
  tups := fun p ss h => chkT_ok (tup_ok w) _ (lkN_mem h)
  itups := fun p ns h => chkTI_ok (itup_ok w) _ (lkN_mem h)
  spec := fun f m S h => nS h
  exc := chkX_ok (exc_ok w)
  mkf := fun c n hw C s rest ln t1 v2 Q E F N ret => by subst hw; exact make_fault C F N ret
  cls := exc65 w
  kf := mf12 w
theorem add_ok {T : Tab} {w : World} (TT : TabOk T w) {f m : Nat} {S : Spec} (h : SpecOk f S m) (hk : keepIn (KK w) (.ref f) = true) : TabOk (T.add f m S) w :=
  ⟨TT.glob, TT.fld, TT.fns, TT.ini, TT.blt, TT.tups, TT.itups, fun g m' S' e => bool_el (b := Nat.beq g f) (fun q => by
      have e := Option.some.inj ((congrArg (@Bool.rec (fun _ => Option (Nat × Spec)) (T.spec g) (some (m, S))) q).symm.trans e)
      have e1 : m = m' := congrArg Prod.fst e
      have e2 : S = S' := congrArg Prod.snd e
      rw [Nat.eq_of_beq_eq_true q, ← e1, ← e2]
      exact ⟨h, hk⟩) fun q => TT.spec g m' S' ((congrArg (@Bool.rec (fun _ => Option (Nat × Spec)) (T.spec g) (some (m, S))) q).symm.trans e), TT.exc, TT.mkf, TT.cls, TT.kf⟩
theorem keep_fn (w : World) {f : Nat} (h : memN fnsL f = true) : keepIn (KK w) (.ref f) = true :=
  oT_el (chkFs_ok (fns_ok w) f h) fun o _ h => oT_el h fun fd _ h => and_el h fun h _ => and_el h fun h _ => and_el h fun _ k => k
noncomputable def restL : List Int := [2, 1, 0, 1, 0, 0, 2, 0, 0, 2, 0, 2, 0, 0, 0, 0, 0, 1, 0, 1, 0, 0, 0, 1, 0, 1, 0, 0]
section
variable {a b : Nat} {p : Nat × O} {r H : Hp} {o : O}
theorem get_perm (h : get H a = some o) : H.Perm ((a, o) :: drop H a) := by
  induction H with
  | nil => exact nS h
  | cons p r ih =>
    refine lkB_hd h (fun e v => ?_) fun e h => ?_
    · rw [drop_t e, ← Nat.eq_of_beq_eq_true e, ← v]
    · rw [drop_f e]; exact ((ih h).cons p).trans (.swap _ _ _)
theorem get_drop (h : a ≠ b) : get (drop H a) b = get H b := by
  induction H with
  | nil => rfl
  | cons p r ih =>
    refine bool_el (b := Nat.beq p.1 a) (fun e => ?_) fun e => ?_
    · rw [drop_t e]; exact (lkB_f (t := fun x => Nat.beq x b) (p := p) (beq_ne fun (q : p.1 = b) => h ((Nat.eq_of_beq_eq_true e).symm.trans q))).symm
    · rw [drop_f e]; exact bool_el (b := Nat.beq p.1 b) (fun z => (lkB_t z).trans (lkB_t z).symm) fun z => (lkB_f z).trans (ih.trans (lkB_f z).symm)
end
noncomputable def takeP (ns : List Int) (n : Int) (m : Nat) (K : V → Prop) : Prop :=
  ns.length ≤ 1000 ∧ (ltInt (Int.ofNat ns.length) (n + 1) = true → (28 : Int) ≠ 0 ∧ (restL.length ≤ 1000 ∧ 0 ≤ Int.fmod (n + 1 - 1) 28 ∧ Int.fmod (n + 1 - 1) 28 < (restL.length : Int)) ∧ (Int.ofNat m ≠ 0 ∧ K (.si (Int.fmod (restL.getD (Int.fmod (n + 1 - 1) 28).toNat 0) (Int.ofNat m))))) ∧
    (ltInt (Int.ofNat ns.length) (n + 1) = false → (ns.length ≤ 1000 ∧ 0 ≤ n + 1 - 1 ∧ n + 1 - 1 < (ns.length : Int)) ∧ (Int.ofNat m ≠ 0 ∧ K (.si (Int.fmod (ns.getD (n + 1 - 1).toNat 0) (Int.ofNat m)))))
theorem take_run (P : Params) (ns : List Int) (n : Int) (m N : Nat) (K : KV) (X : KX) :
    vcC (tab P) 24 378 [.ref 0, .int (Int.ofNat m)] ⟨[], [], [(0, .dict [(s "cells", .ref 1), (s "at", .si n)]), (1, .ints ns)], N⟩ K X =
      takeP ns n m fun v => K v ⟨[], [], [(0, .dict [(s "cells", .ref 1), (s "at", .si (n + 1))]), (1, .ints ns)], N⟩ := by kernel_rfl
noncomputable def takeH (ns : List Int) (n : Int) : Hp := [(0, .dict [(s "cells", .ref 1), (s "at", .si n)]), (1, .ints ns)]
theorem take_sim (ns : List Int) (n : Int) {N : Nat} (hN : 2 ≤ N) {v v' : V} (hv : ∀ ρ u, Den ρ v u → Den ρ v' u) (hr : ∀ a, ¬ v'.has a) : SimOk N [] ⟨[], [], takeH ns n, N⟩ v v' (takeH ns n) N where
  chk := by
    show (true && true && true && ((Nat.ble N 0 || true) && ((Nat.ble N 1 || true) && true)) && true && Nat.ble N N) = true
    rw [Bool.or_true, Bool.or_true, Nat.ble_eq_true_of_le (Nat.le_refl N)]
    rfl
  obj :=
    have l0 : gf N [] N 0 = 0 := gf_lt (Nat.lt_of_lt_of_le Nat.zero_lt_two hN)
    have l1 : gf N [] N 1 = 1 := gf_lt hN
    allP_mem ⟨⟨_, congrArg (get (takeH ns n)) l0, fun P ρ ob x => x.cong fun a ha => ha.elim fun q w => allP_mem (f := fun q : Str × V => q.2.has a → ρ (gf N [] N a) = ρ a) (l := [(s "cells", .ref 1), (s "at", .si n)]) ⟨fun e => e ▸ congrArg ρ l1, fun e => e.elim, trivial⟩ q w.1 w.2⟩,
      ⟨_, congrArg (get (takeH ns n)) l1, fun P ρ ob x => x⟩, trivial⟩
  val := fun ρ u d => (hv ρ u d).cong fun a ha => absurd ha (hr a)
section
variable {P : Int → Prop} {n : Int}
theorem lt0 : ∀ k : Int, 0 ≤ k → k < 0 → P k := fun k a b => absurd b (Int.not_lt.mpr a)
theorem ltS (h : ∀ k : Int, 0 ≤ k → k < n → P k) (p : P n) : ∀ k : Int, 0 ≤ k → k < n + 1 → P k := fun k a b => (Int.lt_or_eq_of_le (Int.le_of_lt_add_one b)).elim (h k a) fun e => e ▸ p
end
theorem oB_mono {α : Type} {o : Option α} {A B : α → Prop} (h : oB o A) (k : ∀ x, o = some x → A x → B x) : oB o B := by
  cases o with
  | none => exact h
  | some x => exact k x rfl h
theorem bB_mono {b : Bool} {A B : Prop} (h : bB b A) (k : A → B) : bB b B := by
  cases b with
  | true => exact k h
  | false => exact h
theorem takeB_mono {vs : List V} {σ : St} {KK KK' : Nat → List Int → Int → Prop} (h : takeB vs σ KK) (k : ∀ m ns n, KK m ns n → KK' m ns n) : takeB vs σ KK' :=
  oB_mono h fun q _ h => oB_mono h fun p _ h => oB_mono h fun m _ h => oB_mono h fun kv _ h => oB_mono h fun w _ h => oB_mono h fun l _ h => oB_mono h fun n _ h => bB_mono h fun h => oB_mono h fun ns _ h => ⟨h.1, k m ns n h.2⟩
noncomputable def DrawK (K : KV) (σ : St) (k : Int) : Prop := ∃ v' : V, (∀ ρ u, Den ρ (.si k) u → Den ρ v' u) ∧ (∀ a, ¬ v'.has a) ∧ K v' σ
theorem drawI {K : KV} {σ : St} {k : Int} (h : K (.int k) σ) : DrawK K σ k := ⟨.int k, fun _ _ d => d, fun _ h => h, h⟩
theorem drawS {K : KV} {σ : St} {k : Int} (h : K (.si k) σ) : DrawK K σ k := ⟨.si k, fun _ _ d => d, fun _ h => h, h⟩
theorem take_gen {S : Spec} (hS : ∀ vs σ K X, S vs σ K X → takeB vs σ fun m ns n => ∀ k : Int, 0 ≤ k → k < m → DrawK K (takeT σ ns n) k) : SpecOk 378 S 24 := spec_of (Tf := fun w => tab w.params) tab_ok (fun _ => rfl) fun w vs σ K X h => by
  refine oB_el (hS vs σ K X h) fun q hq h => oB_el h fun p hp h => oB_el h fun m hm h => oB_el h fun kv hkv h => oB_el h fun d hd h => oB_el h fun l hl h => oB_el h fun n hn h => bB_el h fun hb h => oB_el h fun ns hns h => ?_
  refine and_el hb fun hb h4 => and_el hb fun hb h3 => and_el hb fun hb h2 => and_el hb fun hb h1 => and_el hb fun hb z3 => and_el hb fun z1 z2 => ?_
  have e1 : d.1 = (s "cells", V.ref 1) := Prod.ext (Fast.sEq_iff.mp h1) ((ref_el hl).trans (congrArg V.ref (Nat.eq_of_beq_eq_true z2)))
  have e2 : d.2 = (s "at", V.si n) := Prod.ext (Fast.sEq_iff.mp h2) (siO_el hn)
  have g0 : get σ.H 0 = some (.dict [(s "cells", .ref 1), (s "at", .si n)]) := (dict_el hkv).trans (by rw [twoL_el hd, e1, e2])
  have g1 : get σ.H 1 = some (.ints ns) := ints_el hns
  have ev : vs = [.ref 0, .int (Int.ofNat m)] := by
    rw [twoL_el hq, ref_el hp, Nat.eq_of_beq_eq_true z1]
    exact oO_el hm fun i a b => by rw [intK_el a, natOf_el b]
  have hN := Nat.le_of_ble_eq_true z3
  refine ⟨takeH ns n, drop (drop σ.H 0) 1, σ.nx, (get_perm g0).trans ((get_perm ((get_drop (by decide)).trans g1)).cons _), Nat.le_refl _, ?_⟩
  rw [ev]
  refine (take_run w.params ns n m σ.nx _ _).mpr ?_
  have mp : (0 : Int) < Int.ofNat m := Int.ofNat_lt.mpr (Nat.le_of_ble_eq_true h3)
  have m0 : Int.ofNat m ≠ 0 := Int.ne_of_gt mp
  have b1 := h.1.1
  have b2 := h.1.2.1
  have b3 := h.1.2.2
  have hK := h.2
  have fb := fun x : Int => (hK (Int.fmod x (Int.ofNat m)) (Int.fmod_nonneg_of_pos _ mp) (Int.fmod_lt_of_pos _ mp)).elim fun v' z =>
    (⟨[], v', takeH ns (n + 1), σ.nx, take_sim ns (n + 1) hN z.1 z.2.1, z.2.2⟩ : Sim σ.nx ⟨[], [], takeH ns (n + 1), σ.nx⟩ (.si (Int.fmod x (Int.ofNat m))) fun v' H' nx' => K v' { σ with H := H' ++ drop (drop σ.H 0) 1, nx := nx' })
  clear hK h g0 g1 e1 e2 hb hS hkv hd hl hn hns hq hp hm h1 h2
  have n1 : n + 1 - 1 = n := Int.add_sub_cancel n 1
  refine ⟨Nat.le_trans b3 (by decide), fun _ => ⟨by decide, ⟨by decide, Int.fmod_nonneg_of_pos _ (by decide), Int.fmod_lt_of_pos _ (by decide)⟩, m0, fb _⟩, fun hlt => ⟨⟨Nat.le_trans b3 (by decide), n1.symm ▸ b1, n1.symm ▸ Int.lt_of_add_one_le (Int.not_lt.mp (of_decide_eq_false hlt))⟩, m0, fb _⟩⟩
theorem bE_mono {b : Bool} {A B G : Prop} (h : bE b A B) (k : b = true → A → G) (j : B → G) : G := bE_el h k fun _ => j
theorem take_all {K : KV} {σ : St} {m : Nat} (h : bE (Nat.beq m 2) (K (.int 0) σ ∧ K (.int 1) σ) (bE (Nat.beq m 4) (K (.int 0) σ ∧ K (.int 1) σ ∧ K (.int 2) σ ∧ K (.int 3) σ) (∀ k : Int, 0 ≤ k → k < m → K (.si k) σ))) : ∀ k : Int, 0 ≤ k → k < m → DrawK K σ k :=
  bE_el h (fun e h => by rw [Nat.eq_of_beq_eq_true e]; exact ltS (ltS lt0 (drawI h.1)) (drawI h.2)) fun _ h =>
  bE_el h (fun e h => by rw [Nat.eq_of_beq_eq_true e]; exact ltS (ltS (ltS (ltS lt0 (drawI h.1)) (drawI h.2.1)) (drawI h.2.2.1)) (drawI h.2.2.2)) fun _ h k a b => drawS (h k a b)
theorem take_spec : SpecOk 378 takeS 24 := take_gen fun vs σ K X h => takeB_mono h fun m ns n h => take_all h
theorem tab1_ok (w : World) : TabOk (tab1 w.params) w := add_ok (tab_ok w) take_spec (keep_fn w rfl)
end Mine
namespace Mine
noncomputable def V.er (v : V) : V := @V.casesOn (fun _ => V) v .none .sb .sb .si .si .ss .ss .ref .k fun b x y => @Bool.rec (fun _ => V) (.ref y) (.ref x) b
theorem den_er {ρ : Rho} {v : V} {u : Value} : Den ρ v.er u ↔ Den ρ v u := by
  cases v with
  | either b x y => cases b <;> exact Iff.rfl
  | _ => exact Iff.rfl
noncomputable def O.er (o : O) : O := O.mp V.er id o
section
variable {P : Params} {ρ : Rho} {ob : Obj} {g : V → V}
theorem DictIs.ti {kvs : List (Str × V)} (h : ∀ v u, Den ρ v u → Den ρ (g v) u) (x : DictIs P ρ kvs ob) : DictIs P ρ (kvm g kvs) ob := x.rec fun es n q a b c => ⟨es, n, q, all2_map (fun p _ y => ⟨y.1, y.2.1, h _ _ y.2.2⟩) a, (congrArg List.Nodup keys_map).mpr b, Nat.le_trans (Nat.le_of_eq len_map) c⟩
theorem IDictIs.ti {kvs : List (Int × V)} (h : ∀ v u, Den ρ v u → Den ρ (g v) u) (x : IDictIs ρ kvs ob) : IDictIs ρ (kvm g kvs) ob := x.rec fun es n q a b c => ⟨es, n, q, all2_map (fun p _ y => ⟨y.1, y.2.1, h _ _ y.2.2⟩) a, (congrArg List.Nodup keys_map).mpr b, Nat.le_trans (Nat.le_of_eq len_map) c⟩
theorem ListIs.ti {xs : List V} (h : ∀ v u, Den ρ v u → Den ρ (g v) u) (x : ListIs ρ xs ob) : ListIs ρ (xs.map g) ob := x.rec fun vs n q a => ⟨vs, n, q, all2_map (fun p _ y => h _ _ y) a⟩
theorem kn_ti {β : Type} {t : β → Bool} {kvs : List (β × V)} {ws : List (β × Value)} (h : ∀ v u, Den ρ v u → Den ρ (g v) u) (k : ∀ v, lkB t kvs = some v → ∃ u, lkB t ws = some u ∧ Den ρ v u) : ∀ v, lkB t (kvm g kvs) = some v → ∃ u, lkB t ws = some u ∧ Den ρ v u :=
  fun v e => (Option.map_eq_some_iff.mp (lkB_map.symm.trans e)).elim fun v0 q => (k v0 q.1).elim fun u z => ⟨u, z.1, q.2 ▸ h _ _ z.2⟩
theorem ObjIs.ti {o : O} (h : ∀ v u, Den ρ v u → Den ρ (g v) u) : ObjIs P ρ o ob → ObjIs P ρ (o.mp g id) ob := by
  cases o with
  | dict kvs => exact DictIs.ti h
  | idict kvs => exact IDictIs.ti h
  | list xs => exact ListIs.ti h
  | tup xs => exact fun x => x.rec fun vs n q b => ⟨vs, n, q, all2_map (fun p _ y => h _ _ y) b⟩
  | olist xs => exact ListIs.ti h
  | cell v =>
    cases v with
    | none => exact id
    | some z => exact fun x => x.elim fun c q => ⟨c, q.1, q.2.elim fun u w => ⟨u, w.1, h _ _ w.2⟩⟩
  | pdict kvs abs b => exact fun x => x.rec fun ws d kn ab le => ⟨ws, d, fun f => kn_ti h (kn f), fun f e1 e2 => ab f e1 (Option.map_eq_none_iff.mp (lkB_map.symm.trans e2)), le⟩
  | pidict kvs => exact fun x => x.rec fun ws d kn => ⟨ws, d, fun f => kn_ti h (kn f)⟩
  | _ => exact id
theorem objIs_er {o : O} : ObjIs P ρ o.er ob ↔ ObjIs P ρ o ob := ⟨fun x => ObjIs.tr x (fun v hv u => den_er.mp) fun a ha => rfl, ObjIs.ti fun v u => den_er.mpr⟩
end
noncomputable def rsB {β : Type} (lk : β → Option V) (kvs : List (β × V)) : Option (List (β × V)) := @List.rec (β × V) (fun _ => Option (List (β × V))) (some []) (fun p _ ih => oO (lk p.1) fun v => oO ih fun l => some ((p.1, v) :: l)) kvs
theorem rs_ok {β : Type} {lk : β → Option V} {kvs l : List (β × V)} {t : β → Bool} {x : β} {v : V} (e : EqT t x) (h : rsB lk kvs = some l) (hl : lkB t l = some v) : lk x = some v := by
  induction kvs generalizing l with
  | nil => rw [← Option.some.inj h] at hl; exact nS hl
  | cons p r ih =>
    refine oO_el h fun w a h => oO_el h fun l' b h => ?_
    rw [← Option.some.inj h] at hl
    exact lkB_hd hl (fun q z => (e _).mp q ▸ z ▸ a) fun _ z => ih b z
noncomputable def strsL (kvs : List (Str × V)) : Option (List (Str × Str)) := @List.rec (Str × V) (fun _ => Option (List (Str × Str))) (some []) (fun p _ ih => oO (strOf p.2) fun q => oO ih fun l => some ((p.1, q.2) :: l)) kvs
noncomputable def smallI (B : Nat) (p : Str × V) : Bool := oT (intOf p.2) fun q => decide (0 ≤ q.2) && decide (q.2 ≤ (B : Int))
noncomputable def proj (t o : O) : Option O := @O.casesOn (fun _ => Option O) t (fun _ _ => some o) (fun _ => some o)
  (fun _ => oA (dictO o) (fun kvs => oO (strsL kvs) fun l => some (.odict l)) (oO (odictO o) fun l => some (.odict l)))
  (fun _ => some o) (fun _ => some o) (fun _ => some o) (fun _ => some o) (fun _ => some o)
  (fun kvs abs b => oA (dictO o) (fun kvs0 => bO (allB (fun f => noneB (lkS kvs0 f)) abs && Nat.ble kvs0.length b) (oO (rsB (lkS kvs0) kvs) fun l => some (.pdict l abs b)))
    (oO (pdictO o) fun q => bO (allB (fun f => noneB (lkS q.1 f) && memS q.2 f) abs && Nat.ble q.3 b) (oO (rsB (lkS q.1) kvs) fun l => some (.pdict l abs b))))
  (fun kvs => oA (idictO o) (fun kvs0 => oO (rsB (lkI kvs0) kvs) fun l => some (.pidict l)) (oO (pidictO o) fun kvs0 => oO (rsB (lkI kvs0) kvs) fun l => some (.pidict l)))
  (fun B n => oA (dictO o) (fun kvs => bO (allB (smallI B) kvs && Nat.ble kvs.length n) (some (.cdict B n))) (oO (cdictO o) fun q => bO (Nat.ble q.1 B && Nat.ble q.2 n) (some (.cdict B n))))
  (fun _ => some o) (fun _ => oA (listO o) (fun xs => some (.olist xs)) (oO (olistO o) fun xs => some (.olist xs))) fun _ => some o
section
variable {P : Params} {ρ : Rho} {ob : Obj} {o : O}
theorem at0 {o' : O} (h : get [(0, o)] 0 = some o') (x : ObjIs P ρ o ob) : ObjIs P ρ o' ob := (Option.some.inj h : o = o') ▸ x
theorem dict_at {l : List (Str × V)} (h : dictO o = some l) (x : ObjIs P ρ o ob) : DictIs P ρ l ob := at0 (dict_el (H := [(0, o)]) (p := 0) h) x
theorem odict_at {l : List (Str × Str)} (h : odictO o = some l) (x : ObjIs P ρ o ob) : DictIs P ρ (tkv l) ob := at0 (odict_el (H := [(0, o)]) (p := 0) h) x
theorem idict_at {l : List (Int × V)} (h : idictO o = some l) (x : ObjIs P ρ o ob) : IDictIs ρ l ob := at0 (idict_el (H := [(0, o)]) (p := 0) h) x
theorem pidict_at {l : List (Int × V)} (h : pidictO o = some l) (x : ObjIs P ρ o ob) : PIDictIs ρ l ob := at0 (pidict_el (H := [(0, o)]) (p := 0) h) x
theorem pdict_at {q : PD} (h : pdictO o = some q) (x : ObjIs P ρ o ob) : PDictIs P ρ q.1 q.2 q.3 ob := at0 (pdict_el (H := [(0, o)]) (p := 0) h) x
theorem cdict_at {q : Nat × Nat} (h : cdictO o = some q) (x : ObjIs P ρ o ob) : CDictIs P ρ q.1 q.2 ob := at0 (cdict_el (H := [(0, o)]) (p := 0) h) x
theorem list_at {l : List V} (h : listO o = some l) (x : ObjIs P ρ o ob) : ListIs ρ l ob := at0 (list_el (H := [(0, o)]) (p := 0) h) x
theorem olist_at {l : List V} (h : olistO o = some l) (x : ObjIs P ρ o ob) : ListIs ρ l ob := at0 (olist_el (H := [(0, o)]) (p := 0) h) x
inductive EntW {β : Type} (ρ : Rho) (Q : β → DictEntry → Prop) (kvs : List (β × V)) (es : List DictEntry) : Prop
  | mk (ws : List (β × Value)) (al : All2 (fun p e => Q p.1 e ∧ e.val = p.2) ws es) (ky : ws.map (·.1) = kvs.map (·.1)) (kn : ∀ t v, lkB t kvs = some v → ∃ u, lkB t ws = some u ∧ Den ρ v u) (ab : ∀ t, lkB t kvs = none → lkB t ws = none) (m : ∀ p ∈ ws, ∃ q ∈ kvs, Den ρ q.2 p.2)
theorem ent_w {β : Type} {Q : β → DictEntry → Prop} {kvs : List (β × V)} {es : List DictEntry} (h : All2 (fun p e => Q p.1 e ∧ Den ρ p.2 e.val) kvs es) : EntW ρ Q kvs es := by
  induction h with
  | nil => exact ⟨[], .nil, rfl, fun _ _ e => nS e, fun _ _ => rfl, fun _ h => absurd h List.not_mem_nil⟩
  | @cons p e kvs es x _ ih =>
    refine ih.rec fun ws al ky kn ab m => ⟨(p.1, e.val) :: ws, .cons ⟨x.1, rfl⟩ al, congrArg (p.1 :: ·) ky, fun t v h => ?_, fun t h => ?_, fun q hq => (List.mem_cons.mp hq).elim (fun e => ⟨p, .head _, e ▸ x.2⟩) fun hq => (m q hq).elim fun q' z => ⟨q', .tail _ z.1, z.2⟩⟩
    · exact lkB_hd h (fun a b => ⟨e.val, lkB_t (p := (p.1, e.val)) a, b ▸ x.2⟩) fun a b => (kn t v b).imp fun u z => ⟨(lkB_f (p := (p.1, e.val)) a).trans z.1, z.2⟩
    · exact lkB_hdn h fun a b => (lkB_f (p := (p.1, e.val)) a).trans (ab t b)
theorem keys_len {α β γ : Type} {l : List (α × β)} {l' : List (α × γ)} (h : l.map (·.1) = l'.map (·.1)) : l.length = l'.length := (List.length_map ..).symm.trans ((congrArg List.length h).trans (List.length_map ..))
theorem ent_ws {kvs : List (Str × V)} {G : Prop} (x : DictIs P ρ kvs ob) (k : ∀ ws : List (Str × Value), DictIs P ρ (kkv ws) ob → ws.length = kvs.length → (∀ f v, lkS kvs f = some v → ∃ u, lkS ws f = some u ∧ Den ρ v u) → (∀ f, lkS kvs f = none → lkS ws f = none) → (∀ p ∈ ws, ∃ q ∈ kvs, Den ρ q.2 p.2) → G) : G :=
  x.rec fun es n q a b c => (ent_w (ρ := ρ) (Q := fun x e => (∃ t, e.key = .str x t) ∧ e.hash = PyData.keyHash P x) (a.mono fun _ _ y => ⟨⟨y.1, y.2.1⟩, y.2.2⟩)).rec fun ws al ky kn ab m =>
    have le := keys_len ky
    k ws ⟨es, n, q, all2_map (fun p e y => ⟨y.1.1, y.1.2, y.2⟩) al, by rw [kkv_keys, ky]; exact b, by rw [kkv_len, le]; exact c⟩ le (fun f => kn _) (fun f => ab _) m
theorem ient_ws {kvs : List (Int × V)} {G : Prop} (x : IDictIs ρ kvs ob) (k : ∀ ws : List (Int × Value), IDictIs ρ (kkv ws) ob → (∀ f v, lkI kvs f = some v → ∃ u, lkI ws f = some u ∧ Den ρ v u) → G) : G :=
  x.rec fun es n q a b c => (ent_w (ρ := ρ) (Q := fun x e => (∃ t, e.key = .int x t) ∧ e.hash = hashInt x) (a.mono fun _ _ y => ⟨⟨y.1, y.2.1⟩, y.2.2⟩)).rec fun ws al ky kn ab m =>
    k ws ⟨es, n, q, all2_map (fun p e y => ⟨y.1.1, y.1.2, y.2⟩) al, by rw [kkv_keys, ky]; exact b, by rw [kkv_len, keys_len ky]; exact c⟩ (fun f => kn _)
theorem strsL_ok {kvs : List (Str × V)} {l : List (Str × Str)} {es : List DictEntry} (h : strsL kvs = some l) (x : All2 (Ent P ρ) kvs es) : All2 (Ent P ρ) (tkv l) es ∧ l.map (·.1) = kvs.map (·.1) := by
  induction kvs generalizing l es with
  | nil => rw [← Option.some.inj h]; exact All2.nil_d (C := fun es => All2 (Ent P ρ) (tkv []) es ∧ ([] : List (Str × Str)).map (·.1) = ([] : List (Str × V)).map (·.1)) x ⟨.nil, rfl⟩
  | cons p r ih =>
    refine oO_el h fun q a h => oO_el h fun l' b h => Option.some.inj h ▸ ?_
    exact All2.cons_d x fun e es y z => (ih b z).elim fun c d => ⟨.cons ⟨y.1, y.2.1, strOf_d (C := fun u => ∃ t, u = .str q.2 t) a y.2.2 fun t => ⟨t, rfl⟩⟩ c, congrArg (p.1 :: ·) d⟩
theorem proj_ok {t o' : O} (h : proj t o = some o') (x : ObjIs P ρ o ob) : ObjIs P ρ o' ob := by
  cases t with
  | pdict kvs abs b =>
    refine oA_el h (fun kvs0 e h => bO_el h fun hb h => oO_el h fun l hr h => Option.some.inj h ▸ and_el hb fun h1 h2 => ?_) fun h => oO_el h fun q e h => bO_el h fun hb h => oO_el h fun l hr h => Option.some.inj h ▸ and_el hb fun h1 h2 => ?_
    · exact ent_ws (dict_at e x) fun ws d le kn ab m => ⟨ws, d, fun f v e => kn f v (rs_ok (strT f) hr e), fun f e1 _ => ab f (noneB_ok (allB_mem h1 f (memS_of e1))), le ▸ Nat.le_of_ble_eq_true h2⟩
    · exact (pdict_at e x).rec fun ws d kn ab le => ⟨ws, d, fun f v e => kn f v (rs_ok (strT f) hr e), fun f e1 _ => and_el (allB_mem h1 f (memS_of e1)) fun a b => ab f b (noneB_ok a), Nat.le_trans le (Nat.le_of_ble_eq_true h2)⟩
  | pidict kvs =>
    refine oA_el h (fun kvs0 e h => oO_el h fun l hr h => Option.some.inj h ▸ ?_) fun h => oO_el h fun q e h => oO_el h fun l hr h => Option.some.inj h ▸ ?_
    · exact ient_ws (idict_at e x) fun ws d kn => ⟨ws, d, fun f v e => kn f v (rs_ok (intT f) hr e)⟩
    · exact (pidict_at e x).rec fun ws d kn => ⟨ws, d, fun f v e => kn f v (rs_ok (intT f) hr e)⟩
  | olist ys => exact oA_el h (fun xs e h => Option.some.inj h ▸ list_at e x) fun h => oO_el h fun xs e h => Option.some.inj h ▸ olist_at e x
  | odict kk =>
    refine oA_el h (fun xs e h => oO_el h fun l hr h => Option.some.inj h ▸ ?_) fun h => oO_el h fun xs e h => Option.some.inj h ▸ odict_at e x
    exact (dict_at e x).rec fun es n q a b c => (strsL_ok hr a).elim fun al k => ⟨es, n, q, al, by rw [tkv_keys, k]; exact b, by rw [tkv_len, keys_len k]; exact c⟩
  | cdict B n =>
    refine oA_el h (fun kvs e h => bO_el h fun hb h => Option.some.inj h ▸ and_el hb fun h1 h2 => ?_) fun h => oO_el h fun q e h => bO_el h fun hb h => Option.some.inj h ▸ and_el hb fun h1 h2 => ?_
    · exact ent_ws (dict_at e x) fun ws d le kn ab m => ⟨ws, d, fun f u e => (m (f, u) (lkS_mem e)).elim fun q z => oT_el (allB_mem h1 q z.1) fun i a b => and_el b fun b1 b2 =>
        intOf_d (C := fun u => ∃ (i : Int) (t : Tok), u = .int i t ∧ 0 ≤ i ∧ i ≤ B) a z.2 fun t => ⟨i.2, t, rfl, of_decide_eq_true b1, of_decide_eq_true b2⟩, le ▸ Nat.le_of_ble_eq_true h2⟩
    · exact (cdict_at e x).rec fun ws d kn le => ⟨ws, d, fun f u e => (kn f u e).imp fun i z => z.imp fun t z => ⟨z.1, z.2.1, Int.le_trans z.2.2 (Int.ofNat_le.mpr (Nat.le_of_ble_eq_true h1))⟩, Nat.le_trans le (Nat.le_of_ble_eq_true h2)⟩
  | _ => exact Option.some.inj h ▸ x
end
noncomputable def simL (N : Nat) (gl : List (Nat × Nat)) (σ2 : St) (p : Nat × O) : Option O := oO (get σ2.H (gf N gl σ2.nx p.1)) fun o => oO (proj p.2 o) fun o' => some o'.er
theorem sim_obj {N : Nat} {gl : List (Nat × Nat)} {σ2 : St} {H' : Hp} (h : H'.map (simL N gl σ2) = H'.map fun p => some (p.2.rn (gf N gl σ2.nx)).er) : ∀ p ∈ H', ∃ o, get σ2.H (gf N gl σ2.nx p.1) = some o ∧ ∀ P ρ ob, ObjIs P ρ o ob → ObjIs P (fun a => ρ (gf N gl σ2.nx a)) p.2 ob := by
  induction H' with
  | nil => exact fun _ h => absurd h List.not_mem_nil
  | cons q r ih =>
    have h := List.cons.inj h
    exact fun p hp => (List.mem_cons.mp hp).elim (fun e => e ▸ oO_el h.1 fun o ho h => oO_el h fun o' hp h => ⟨o, ho, fun P ρ ob x => ObjIs.rn (objIs_er.mp (Option.some.inj h ▸ objIs_er.mpr (proj_ok hp x)))⟩) (ih h.2 p)
theorem sim_val {N : Nat} {gl : List (Nat × Nat)} {big : Nat} {v v' : V} (h : v.er = (v'.rn (gf N gl big)).er) (ρ : Rho) (u : Value) (d : Den ρ v u) : Den (fun a => ρ (gf N gl big a)) v' u := den_rn (den_er.mp (h ▸ den_er.mpr d))
theorem sim_ok {N : Nat} {gl : List (Nat × Nat)} {σ2 : St} {v v' : V} {H' : Hp} {nx' : Nat} (h1 : simB N gl (σ2.H.map (·.1)) (H'.map (·.1)) nx' = true) (h2 : H'.map (simL N gl σ2) = H'.map fun p => some (p.2.rn (gf N gl σ2.nx)).er) (h3 : v.er = (v'.rn (gf N gl σ2.nx)).er) : SimOk N gl σ2 v v' H' nx' := ⟨h1, sim_obj h2, sim_val h3⟩
theorem sim_ok2 {N : Nat} {gl : List (Nat × Nat)} {σ2 : St} {v v' : V} {A B : Hp} {nx' : Nat} (h1 : simB N gl (σ2.H.map (·.1)) ((A ++ B).map (·.1)) nx' = true) (h2 : A.map (simL N gl σ2) = A.map fun p => some (p.2.rn (gf N gl σ2.nx)).er) (h3 : v.er = (v'.rn (gf N gl σ2.nx)).er)
    (h4 : ∀ p ∈ B, ∃ o, get σ2.H (gf N gl σ2.nx p.1) = some o ∧ ∀ P ρ ob, ObjIs P ρ o ob → ObjIs P (fun a => ρ (gf N gl σ2.nx a)) p.2 ob) : SimOk N gl σ2 v v' (A ++ B) nx' := ⟨h1, fun p hp => (List.mem_append.mp hp).elim (sim_obj h2 p) (h4 p), sim_val h3⟩
theorem sim_same {N : Nat} {gl : List (Nat × Nat)} {big : Nat} {P : Params} {ρ : Rho} {o : O} {ob : Obj} (h : ∀ a, o.has a → a < N) (x : ObjIs P ρ o ob) : ObjIs P (fun a => ρ (gf N gl big a)) o ob := x.cong fun a ha => congrArg ρ (gf_lt (h a ha))
end Mine
namespace Mine
noncomputable def vrefs (v : V) : List Nat := @V.casesOn (fun _ => List Nat) v [] (fun _ => []) (fun _ => []) (fun _ => []) (fun _ => []) (fun _ => []) (fun _ => []) (fun a => [a]) (fun _ => []) fun _ x y => [x, y]
noncomputable def refsL (l : List V) : List Nat := @List.rec V (fun _ => List Nat) [] (fun v _ ih => vrefs v ++ ih) l
noncomputable def refsK {α : Type} (l : List (α × V)) : List Nat := @List.rec (α × V) (fun _ => List Nat) [] (fun p _ ih => vrefs p.2 ++ ih) l
noncomputable def refs (o : O) : List Nat := @O.casesOn (fun _ => List Nat) o (fun _ d => [d]) refsK (fun _ => []) refsK refsL refsL (fun v => @Option.rec V (fun _ => List Nat) [] vrefs v) (fun _ => []) (fun kvs _ _ => refsK kvs) refsK (fun _ _ => []) (fun _ => []) refsL fun d => [d]
section
variable {f g : Nat → Nat}
theorem cons_eq {α : Type} {a b : α} {l l' : List α} (h : a = b) (k : l = l') : a :: l = b :: l' := h ▸ k ▸ rfl
theorem v_rr {v : V} (h : ∀ b ∈ vrefs v, g (f b) = b) : (v.rn f).rn g = v := by
  cases v with
  | ref a => exact congrArg V.ref (h a (.head _))
  | either b x y => exact congr (congrArg (V.either b) (h x (.head _))) (h y (.tail _ (.head _)))
  | _ => rfl
theorem l_rr {xs : List V} (h : ∀ b ∈ refsL xs, g (f b) = b) : (xs.map (V.rn f)).map (V.rn g) = xs := by
  induction xs with
  | nil => rfl
  | cons v r ih => exact cons_eq (v_rr fun b hb => h b (List.mem_append_left _ hb)) (ih fun b hb => h b (List.mem_append_right _ hb))
theorem k_rr {α : Type} {kvs : List (α × V)} (h : ∀ b ∈ refsK kvs, g (f b) = b) : kvm (V.rn g) (kvm (V.rn f) kvs) = kvs := by
  induction kvs with
  | nil => rfl
  | cons v r ih => exact cons_eq (congrArg (Prod.mk v.1) (v_rr fun b hb => h b (List.mem_append_left _ hb))) (ih fun b hb => h b (List.mem_append_right _ hb))
theorem o_rr {o : O} (h : ∀ b ∈ refs o, g (f b) = b) : (o.rn f).rn g = o := by
  cases o with
  | inst c d => exact congrArg (O.inst c) (h d (.head _))
  | dict kvs => exact congrArg O.dict (k_rr h)
  | idict kvs => exact congrArg O.idict (k_rr h)
  | list xs => exact congrArg O.list (l_rr h)
  | tup xs => exact congrArg O.tup (l_rr h)
  | olist xs => exact congrArg O.olist (l_rr h)
  | pdict kvs abs b => exact congrArg (O.pdict · abs b) (k_rr h)
  | pidict kvs => exact congrArg O.pidict (k_rr h)
  | exc d => exact congrArg O.exc (h d (.head _))
  | cell v =>
    cases v with
    | none => rfl
    | some z => exact congrArg (fun x => O.cell (some x)) (v_rr h)
  | _ => rfl
end
inductive Tg where
  | same | pd (fs abs : List Str) (b : Nat) | od | ol | cd (B n : Nat) | pid (ks : List Int)
noncomputable def tagT (t : Tg) : Option O := @Tg.casesOn (fun _ => Option O) t none (fun fs abs b => some (.pdict (fs.map fun f => (f, V.none)) abs b)) (some (.odict [])) (some (.olist [])) (fun B n => some (.cdict B n)) fun ks => some (.pidict (ks.map fun f => (f, V.none)))
noncomputable def tagO (t : Tg) (o : O) : Option O := @Option.rec O (fun _ => Option O) (some o) (fun t => proj t o) (tagT t)
theorem tagO_ok {P : Params} {ρ : Rho} {t : Tg} {o o' : O} {ob : Obj} (h : tagO t o = some o') (x : ObjIs P ρ o ob) : ObjIs P ρ o' ob := by
  unfold tagO at h
  cases e : tagT t with
  | none => rw [e] at h; exact Option.some.inj h ▸ x
  | some t => rw [e] at h; exact proj_ok h x
noncomputable def tgAt (rt : List (Nat × Tg)) (a : Nat) : Tg := @Option.rec Tg (fun _ => Tg) .same (fun t => t) (lkN rt a)
noncomputable def objAt (H : Hp) (rt : List (Nat × Tg)) (a' a : Nat) : Option O := oO (get H a) (tagO (tgAt rt a'))
noncomputable def reach (H : Hp) (N : Nat) (rt : List (Nat × Tg)) (fu : Nat) : List Nat → List Nat → List (Nat × Nat) → List (Nat × Nat) := @Nat.rec (fun _ => List Nat → List Nat → List (Nat × Nat) → List (Nat × Nat)) (fun _ _ acc => acc)
  (fun _ ih nms pend acc => @List.rec Nat (fun _ => List (Nat × Nat)) acc (fun a r _ => @Bool.rec (fun _ => List (Nat × Nat)) (@List.rec Nat (fun _ => List (Nat × Nat)) acc (fun i nms' _ => @Option.rec O (fun _ => List (Nat × Nat)) acc (fun o => ih nms' (refs o ++ r) (acc ++ [(i, a)])) (objAt H rt i a)) nms)
    (ih nms r acc) (Nat.blt a N || memN (acc.map (·.2)) a)) pend) fu
noncomputable def invN (gl : List (Nat × Nat)) (b : Nat) : Nat := @List.rec (Nat × Nat) (fun _ => Nat) 0 (fun p _ ih => @Bool.rec (fun _ => Nat) ih p.1 (Nat.beq p.2 b)) gl
noncomputable def inv (N : Nat) (gl : List (Nat × Nat)) (b : Nat) : Nat := @Bool.rec (fun _ => Nat) (invN gl b) b (Nat.blt b N)
noncomputable def entL (H : Hp) (rt : List (Nat × Tg)) (l : List (Nat × Nat)) : Option Hp := @List.rec (Nat × Nat) (fun _ => Option Hp) (some []) (fun p _ ih => oO (objAt H rt p.1 p.2) fun o => oO ih fun l => some ((p.1, o) :: l)) l
noncomputable def idL (l : List Nat) : List (Nat × Nat) := l.map fun a => (a, a)
noncomputable def refsH (H : Hp) : List Nat := @List.rec (Nat × O) (fun _ => List Nat) [] (fun p _ ih => refs p.2 ++ ih) H
noncomputable def okRef (N : Nat) (gl : List (Nat × Nat)) (b : Nat) : Bool := Nat.blt b N || ((oT (lkN gl (invN gl b)) fun a => Nat.beq a b) && Nat.ble N (invN gl b))
noncomputable def rnH (f : Nat → Nat) (E : Hp) : Hp := E.map fun p => (p.1, p.2.rn f)
noncomputable def finG1 (N nx : Nat) (ks : List Nat) (rt : List (Nat × Tg)) (gl : List (Nat × Nat)) (rs : List Nat) (σ2 : St) (K : (Nat → Nat) → Hp → Prop) : Prop := oB (entL σ2.H rt (idL ks ++ gl)) fun E =>
  bB (allB (okRef N gl) (rs ++ refsH E) && simB N gl (σ2.H.map (·.1)) (E.map (·.1)) nx && allB (fun k => Nat.blt k N) ks) (K (inv N gl) (rnH (inv N gl) E))
noncomputable def finG (N nx : Nat) (ks nms : List Nat) (rt : List (Nat × Tg)) (rs : List Nat) (σ2 : St) (K : (Nat → Nat) → Hp → Prop) : Prop := oB (entL σ2.H rt (idL ks)) fun E => finG1 N nx ks rt (reach σ2.H N rt 300 nms (rs ++ refsH E) []) rs σ2 K
noncomputable def fin (N nx : Nat) (ks nms : List Nat) (rt : List (Nat × Tg)) (KK : V → Hp → Nat → Prop) (v : V) (σ2 : St) : Prop := finG N nx ks nms rt (vrefs v) σ2 fun f E => KK (v.rn f) E nx
theorem lkN_nd {gl : List (Nat × Nat)} (nd : (gl.map (·.1)).Nodup) {p : Nat × Nat} (h : p ∈ gl) : lkN gl p.1 = some p.2 := by
  induction gl with
  | nil => exact absurd h List.not_mem_nil
  | cons q r ih =>
    have nd := List.nodup_cons.mp nd
    exact (List.mem_cons.mp h).elim (fun e => e ▸ lkB_t (Nat.beq_refl p.1)) fun h => (lkB_f (t := fun b => Nat.beq b p.1) (p := q) (beq_ne fun e => nd.1 (List.mem_map.mpr ⟨p, h, e.symm⟩))).trans (ih nd.2 h)
theorem entL_mem {H : Hp} {rt : List (Nat × Tg)} {l : List (Nat × Nat)} {E : Hp} (h : entL H rt l = some E) : ∀ p ∈ E, ∃ a, (p.1, a) ∈ l ∧ objAt H rt p.1 a = some p.2 := by
  induction l generalizing E with
  | nil => exact Option.some.inj h ▸ fun p hp => absurd hp List.not_mem_nil
  | cons q r ih => exact oO_el h fun o a h => oO_el h fun l b h => Option.some.inj h ▸ fun p hp => (List.mem_cons.mp hp).elim (fun e => e ▸ ⟨q.2, .head _, a⟩) fun hp => (ih b p hp).imp fun x z => ⟨.tail _ z.1, z.2⟩
theorem refsH_mem {b : Nat} {p : Nat × O} (hb : b ∈ refs p.2) {E : Hp} : p ∈ E → b ∈ refsH E := by
  induction E with
  | nil => exact fun h => absurd h List.not_mem_nil
  | cons q r ih => exact fun h => (List.mem_cons.mp h).elim (fun e => List.mem_append_left _ (e ▸ hb)) fun h => List.mem_append_right _ (ih h)
section
variable {N nx : Nat} {gl : List (Nat × Nat)} {ks nms : List Nat} {rt : List (Nat × Tg)} {σ2 : St} {rs : List Nat}
theorem inv_ok {big b : Nat} (hr : okRef N gl b = true) : gf N gl big (inv N gl b) = b :=
  bool_el (b := Nat.blt b N) (fun e => by unfold inv; rw [e]; exact gf_lt (blt_lt.mp e)) fun e => by
    unfold inv
    unfold okRef at hr
    rw [e] at hr ⊢
    exact and_el hr fun h1 h2 => oT_el h1 fun a c d => gf_some (Nat.le_of_ble_eq_true h2) (c.trans (congrArg some (Nat.eq_of_beq_eq_true d)))
theorem sim_fin {E : Hp} (h1 : entL σ2.H rt (idL ks ++ gl) = some E) (hs : simB N gl (σ2.H.map (·.1)) (E.map (·.1)) nx = true) (hk : allB (fun k => Nat.blt k N) ks = true)
    (gi : ∀ b ∈ refsH E, gf N gl σ2.nx (inv N gl b) = b) : SimOk N gl σ2 .none .none (rnH (inv N gl) E) nx := by
  refine ⟨?_, fun p hp => ?_, fun ρ u d => d⟩
  · rw [show (rnH (inv N gl) E).map (·.1) = E.map (·.1) from (List.map_map ..).trans rfl]; exact hs
  · refine (List.mem_map.mp hp).elim fun q w => (entL_mem h1 q w.1).elim fun a m => w.2 ▸ ?_
    have ga : gf N gl σ2.nx q.1 = a := (List.mem_append.mp m.1).elim (fun m => (List.mem_map.mp m).elim fun x z => by
      have e1 : x = q.1 := congrArg Prod.fst z.2
      have e2 : x = a := congrArg Prod.snd z.2
      rw [← e1, ← e2]
      exact gf_lt (blt_lt.mp (allB_mem hk x z.1))) fun m => (simB_ok hs).rec fun gm n1 _ _ _ _ => gf_some (gm _ m).1 (lkN_nd n1 m)
    refine oO_el m.2 fun o ho e => ⟨o, (congrArg (get σ2.H) ga).trans ho, fun P ρ ob x => ObjIs.rn (g := gf N gl σ2.nx) (o := q.2.rn (inv N gl)) ?_⟩
    rw [o_rr fun b hb => gi b (refsH_mem hb w.1)]
    exact tagO_ok e x
theorem finG_ok {K : (Nat → Nat) → Hp → Prop} {G : Prop} (h : finG N nx ks nms rt rs σ2 K) (k : ∀ gl f H', SimOk N gl σ2 .none .none H' nx → (∀ b ∈ rs, gf N gl σ2.nx (f b) = b) → K f H' → G) : G := by
  refine oB_el h fun E0 h0 h => ?_
  generalize reach σ2.H N rt 300 nms (rs ++ refsH E0) [] = gl at h
  refine oB_el h fun E h1 h => bB_el h fun hb h => and_el hb fun hb hk => and_el hb fun hr hs => ?_
  have gi := fun b hb => inv_ok (big := σ2.nx) (allB_mem hr b hb)
  exact k gl _ _ (sim_fin h1 hs hk fun b hb => gi b (List.mem_append_right _ hb)) (fun b hb => gi b (List.mem_append_left _ hb)) h
theorem fin_ok {KK : V → Hp → Nat → Prop} {v : V} (h : fin N nx ks nms rt KK v σ2) : Sim N σ2 v KK :=
  finG_ok h fun gl f H' S gi h => ⟨gl, v.rn f, H', nx, ⟨S.chk, S.obj, fun ρ u d => den_rn (g := gf N gl σ2.nx) ((v_rr gi).symm ▸ d)⟩, h⟩
end
theorem led_er {P : Params} {ρ : Rho} {H0 H1 : Hp} {nw : List (Addr × Obj)} (led : LedIs P ρ H0 nw) (he : (H0.map fun p => (p.1, p.2.er)) = H1.map fun p => (p.1, p.2.er)) : LedIs P ρ H1 nw := by
  unfold LedIs at led ⊢
  induction led generalizing H1 with
  | nil => cases H1 with
    | nil => exact .nil
    | cons => exact nomatch he
  | @cons p ob ps obs x _ ih => cases H1 with
    | nil => exact nomatch he
    | cons q r =>
      have he := List.cons.inj he
      have e0 : (p.1, p.2.er) = (q.1, q.2.er) := he.1
      have e1 : p.1 = q.1 := (Prod.mk.inj e0).1
      have e2 : p.2.er = q.2.er := (Prod.mk.inj e0).2
      exact .cons ⟨(congrArg ρ e1).symm.trans x.1, objIs_er.mp (e2 ▸ objIs_er.mpr x.2)⟩ (ih he.2)
theorem NmA.retag {P : Params} {X news : List (Addr × Obj)} {Y : List Addr} {ρ : Rho} {H H0 H1 : Hp} {nx : Nat} (R : NmA P X Y ρ H nx news) (pm : H.Perm H0) (he : (H0.map fun p => (p.1, p.2.er)) = H1.map fun p => (p.1, p.2.er)) : ∃ nw, (X ++ news).Perm (X ++ nw) ∧ NmA P X Y ρ H1 nx nw :=
  (all2_perm pm R.led).elim fun nw z => ⟨nw, z.1.append_left X, R.pm (z.1.append_left X) (led_er z.2 he) fun q hq => R.sm q (z.1.mem_iff.mpr hq)⟩
theorem Rel.retag {c : Cd} {ρ : Rho} {σ : St} {s : Shared} (R : Rel c ρ σ s) {H0 H1 : Hp} (pm : σ.H.Perm H0) (he : (H0.map fun p => (p.1, p.2.er)) = H1.map fun p => (p.1, p.2.er)) : Rel c ρ { σ with H := H1 } s :=
  R.elim fun news R => (R.nm.retag pm he).elim fun nw z => ⟨nw, R.F, fun q hq => R.N q (z.1.mem_iff.mpr hq), z.2, R.loc, R.cel, R.sh⟩
theorem all2_er {ρ : Rho} {vs vs' : List V} {us : List Value} (a : All2 (Den ρ) vs us) (h : vs.map V.er = vs'.map V.er) : All2 (Den ρ) vs' us := by
  induction a generalizing vs' with
  | nil => cases vs' with
    | nil => exact .nil
    | cons => exact nomatch h
  | cons x y ih => cases vs' with
    | nil => exact nomatch h
    | cons v' r => exact .cons (den_er.mp ((List.cons.inj h).1 ▸ den_er.mpr x)) (ih (List.cons.inj h).2)
theorem spec_fin {Tf : World → Tab} (TT : ∀ w, TabOk (Tf w) w) (hq : ∀ w, (Tf w).q = false) {f m : Nat} {S : Spec}
    (hS : ∀ w vs σ K X, S vs σ K X → ∃ vs' H0 tm Hr N nx ks nms rt rx, vs.map V.er = vs'.map V.er ∧ σ.H.Perm H0 ∧ (H0.map fun p => (p.1, p.2.er)) = (tm ++ Hr).map (fun p => (p.1, p.2.er)) ∧ σ.nx ≤ N ∧
      vcC (Tf w) m f vs' ⟨[], [], tm, N⟩ (fin N nx ks nms rt fun v' H' nx' => K v' { σ with H := H' ++ Hr, nx := nx' }) (fun l σ2 => fin N nx ks nms rx (fun _ H' nx' => X l { σ with H := H' ++ Hr, nx := nx' }) .none σ2)) : SpecOk f S m := by
  intro c σ vs us K X ρ s Q E C R D h k kx
  exact (hS c.w vs σ K X h).elim fun vs' h => h.elim fun H0 h => h.elim fun tm h => h.elim fun Hr h => h.elim fun N h => h.elim fun nx h => h.elim fun ks h => h.elim fun nms h => h.elim fun rt h => h.elim fun rx h =>
    part_run (σ := { σ with H := tm ++ Hr }) (TT c.w) ((hq c.w).symm ▸ C) (R.retag h.2.1 h.2.2.1) (all2_er D h.1) (fun a ha => R.elim fun _ RA => RA.fresh a (Nat.le_trans h.2.2.2.1 ha)) (.refl (tm ++ Hr)) h.2.2.2.1 (fun _ _ h => fin_ok h) (fun _ _ h => fin_ok h) h.2.2.2.2 k kx
end Mine
namespace Mine
theorem all2_rr {f g : Nat → Nat} {vs : List V} (h : ∀ b ∈ refsL vs, g (f b) = b) : All2 (fun v v' => ∀ ρ u, Den ρ v u → Den (fun a => ρ (g a)) v' u) vs (vs.map (V.rn f)) := by
  induction vs with
  | nil => exact .nil
  | cons v r ih => exact .cons (fun ρ u d => den_rn (g := g) ((v_rr fun b hb => h b (List.mem_append_left _ hb)).symm ▸ d)) (ih fun b hb => h b (List.mem_append_right _ hb))
noncomputable def finL (N nx : Nat) (ks nms : List Nat) (rt : List (Nat × Tg)) (KL : List V → Hp → Nat → Prop) (vs : List V) (σ2 : St) : Prop := finG N nx ks nms rt (refsL vs) σ2 fun f E => KL (vs.map (V.rn f)) E nx
theorem finL_k {N nx : Nat} {ks nms : List Nat} {rt : List (Nat × Tg)} {KL : List V → Hp → Nat → Prop} {vs : List V} {σ2 : St} {G : Prop} (h : finL N nx ks nms rt KL vs σ2)
    (k : ∀ gl vs' H', SimOk N gl σ2 .none .none H' nx → All2 (fun v v' => ∀ ρ u, Den ρ v u → Den (fun a => ρ (gf N gl σ2.nx a)) v' u) vs vs' → KL vs' H' nx → G) : G :=
  finG_ok h fun gl f H' S gi h => k gl (vs.map (V.rn f)) H' S (all2_rr gi) h
theorem wp_execs_append {M : Model} {Γ : PySem.Ctx} {env : Env} {b : List Stmt} {Q : Flow → Pos → Shared → Prop} {E : Value → Pos → Shared → Prop} : ∀ {a : List Stmt} {p : Pos} {s : Shared},
    Sem.wp M Γ (execs a env) (fun f p' s' => match f with | .next => Sem.wp M Γ (execs b env) Q E p' s' | f => Q f p' s') E p s → Sem.wp M Γ (execs (a ++ b) env) Q E p s
  | [], p, s, h => h
  | st :: a, p, s, h => by
    rw [List.cons_append, execs_cons, Sem.wp_bind']
    rw [execs_cons, Sem.wp_bind'] at h
    refine Sem.wp_mono M Γ _ (fun f p' s' h' => ?_) (fun _ _ _ h' => h') _ _ h
    cases f with
    | next => exact wp_execs_append h'
    | _ => exact h'
theorem wpAny_execs_append {M : Model} {A : Around} {env : Env} {a b : List Stmt} {Q : Flow → Shared → Prop} {E : Value → Shared → Prop} {s : Shared} (h : wpAny M A (execs a env) (fun f s' => match f with | .next => wpAny M A (execs b env) Q E s' | f => Q f s') E s) : wpAny M A (execs (a ++ b) env) Q E s := fun Γ p hΓ =>
  wp_execs_append (Sem.wp_mono M Γ _ (fun f p' s' h' => by
    cases f with
    | next => exact h' Γ p' hΓ
    | _ => exact h') (fun _ _ _ h' => h') _ _ (h Γ p hΓ))
noncomputable def SemS (c : Cd) (t : Sem Flow) (σ : St) (K : KS) (X : KX) : Prop := ∀ m ρ s (Q : Flow → Shared → Prop) (E : Value → Shared → Prop), PassesOwn (MM c.w) c.A c.env E → Rel (c.at m) ρ σ s →
  (∀ m' ρ' σ' fl w s', ρ.le ρ' → Rel (c.at m') ρ' σ' s' → FlIs ρ' fl w → K fl σ' → Q w s') → (∀ m' ρ' σ' l u s', ρ.le ρ' → ExcRel (c.at m') ρ' σ' l u s' → X l σ' → E u s') → wpAny (MM c.w) c.A t Q E s
theorem SemS.mono {c : Cd} {t : Sem Flow} {σ : St} {K K' : KS} {X X' : KX} (h : SemS c t σ K X) (k : ∀ fl σ', K fl σ' → K' fl σ') (kx : ∀ l σ', X l σ' → X' l σ') : SemS c t σ K' X' := fun m ρ s Q E hE R q qx =>
  h m ρ s Q E hE R (fun m' ρ' σ' fl w s' le R' f z => q m' ρ' σ' fl w s' le R' f (k _ _ z)) fun m' ρ' σ' l u s' le R' z => qx m' ρ' σ' l u s' le R' (kx _ _ z)
theorem SemS.app {c : Cd} {a b : List Stmt} {σ : St} {K K' : KS} {X : KX} (h : SemS c (execs a c.env) σ K' X) (k : ∀ fl σ', K' fl σ' → match fl with | .next => SemS c (execs b c.env) σ' K X | fl => K fl σ') : SemS c (execs (a ++ b) c.env) σ K X := fun m ρ s Q E hE R q qx => by
  refine wpAny_execs_append (h m ρ s _ E hE R (fun m' ρ' σ' fl w s' le R' f z => ?_) qx)
  have z := k _ _ z
  cases f with
  | next => exact z m' ρ' s' Q E hE R' (fun m2 ρ2 σ2 fl w s2 le2 => q m2 ρ2 σ2 fl w s2 (Rho.le_trans le le2)) fun m2 ρ2 σ2 l u s2 le2 => qx m2 ρ2 σ2 l u s2 (Rho.le_trans le le2)
  | cont => exact q m' ρ' σ' .cont .cont s' le R' .cont z
  | brk => exact q m' ρ' σ' .brk .brk s' le R' .brk z
  | ret d => exact q m' ρ' σ' _ _ s' le R' (.ret d) z
theorem SemS.run {T : Tab} {n : Nat} {c : Cd} {ss : List Stmt} {σ : St} {K : KS} {X : KX} (TT : TabOk T c.w) (C : Ck T.q c n) (f : Fk c) (h : vcSs T n c.env.scope.names ss σ K X) : SemS c (execs ss c.env) σ K X := fun m ρ s Q E hE R => (snd T n).ss c _ ss TT C f rfl m ρ σ s K X Q E hE R h
noncomputable def locV (loc : List (Str × V)) (xs : List Str) : Option (List V) := @List.rec Str (fun _ => Option (List V)) (some []) (fun x _ ih => oO (lkS loc x) fun v => oO ih fun l => some (v :: l)) xs
noncomputable def locP (xs : List Str) : List V → List (Str × V) := @List.rec Str (fun _ => List V → List (Str × V)) (fun _ => []) (fun x _ ih l => @List.rec V (fun _ => List (Str × V)) [] (fun v l _ => (x, v) :: ih l) l) xs
noncomputable def ltP (N : Nat) (l : List V) (k : Prop) : Prop := @List.rec V (fun _ => Prop) k (fun v _ ih => (∀ a, v.has a → a < N) ∧ ih) l
theorem ltP_ok {N : Nat} {k : Prop} {ws : List V} (h : ltP N ws k) : (∀ v ∈ ws, ∀ a, v.has a → a < N) ∧ k := by
  induction ws with
  | nil => exact ⟨fun _ hv => absurd hv List.not_mem_nil, h⟩
  | cons v r ih => exact ⟨fun w hw => (List.mem_cons.mp hw).elim (fun e => e ▸ h.1) ((ih h.2).1 w), (ih h.2).2⟩
noncomputable def finX (N nx : Nat) (ks nms : List Nat) (rx : List (Nat × Tg)) (xs ps : List Str) (KK : List (Str × V) → Hp → Nat → Prop) (σ2 : St) : Prop := oB (locV σ2.loc xs) fun vs => oB (locV σ2.loc ps) fun ws =>
  finL N nx ks nms rx (fun vs' H' nx' => ltP N ws (KK (locP xs vs' ++ locP ps ws) H' nx')) vs σ2
noncomputable def finS (N nx : Nat) (ks nms : List Nat) (rt : List (Nat × Tg)) (xs ps : List Str) (KK : List (Str × V) → Hp → Nat → Prop) (KR : V → Hp → Nat → Prop) : KS := fun fl σ2 => @Fl.casesOn (fun _ => Prop) fl (finX N nx ks nms rt xs ps KK σ2) False False
  fun v => finL N nx ks nms rt (fun vs' H' nx' => oB (oneL vs') fun v' => KR v' H' nx') [v] σ2
theorem locV_is {ρ ρ' : Rho} {m : Str → Option Value} {loc : List (Str × V)} {xs : List Str} {vs vs' : List V} (L : LocIs ρ loc m) (h : locV loc xs = some vs) (a : All2 (fun v v' => ∀ u, Den ρ v u → Den ρ' v' u) vs vs') : LocIs ρ' (locP xs vs') m := by
  induction xs generalizing vs vs' with
  | nil => exact fun _ _ e => nS e
  | cons x r ih =>
    refine oO_el h fun v b h => oO_el h fun l d h => ?_
    rw [← Option.some.inj h] at a
    exact All2.cons_d a fun w r' y z => fun i j e => lkB_hd e (fun p q => (L x v b).imp fun u t => ⟨(congrArg m (Fast.sEq_iff.mp p)).symm.trans t.1, q ▸ y u t.2⟩) fun _ q => ih d z i j q
theorem all2_same {α : Type} {R : α → α → Prop} {l : List α} (h : ∀ a ∈ l, R a a) : All2 R l l := by
  induction l with
  | nil => exact .nil
  | cons a r ih => exact .cons (h _ (.head _)) (ih fun a ha => h a (.tail _ ha))
theorem lkB_or {β α : Type} {t : β → Bool} {a b : List (β × α)} {v : α} (h : lkB t (a ++ b) = some v) : lkB t a = some v ∨ lkB t b = some v := by
  induction a with
  | nil => exact .inr h
  | cons p r ih => exact lkB_hd h (fun q z => .inl (z ▸ lkB_t q)) fun q z => (ih z).imp (fun z => (lkB_f q).trans z) id
theorem locIs_app {ρ : Rho} {m : Str → Option Value} {a b : List (Str × V)} (ha : LocIs ρ a m) (hb : LocIs ρ b m) : LocIs ρ (a ++ b) m := fun x v e => (lkB_or e).elim (ha x v) (hb x v)
theorem finX_k {N nx : Nat} {ks nms : List Nat} {rt : List (Nat × Tg)} {xs ps : List Str} {KK : List (Str × V) → Hp → Nat → Prop} {σ2 : St} {ρ2 : Rho} {m : Str → Option Value} {G : Prop} (h : finX N nx ks nms rt xs ps KK σ2) (L : LocIs ρ2 σ2.loc m)
    (k : ∀ gl loc' H', SimOk N gl σ2 .none .none H' nx → LocIs (fun a => ρ2 (gf N gl σ2.nx a)) loc' m → KK loc' H' nx → G) : G :=
  oB_el h fun vs e h => oB_el h fun ws e2 h => finL_k h fun gl vs' H' S a h => (ltP_ok h).elim fun lt h =>
    k gl _ H' S (locIs_app (locV_is L e (All2.mono (fun _ _ z u => z ρ2 u) a)) (locV_is (vs' := ws) L e2 (all2_same fun v hv u d => Den.cong (fun a ha => congrArg ρ2 (gf_lt (lt v hv a ha))) d))) h
theorem frameS {q : Bool} {c : Cd} {n : Nat} (C : Ck q c n) {ρ : Rho} {m : Str → Option Value} {σ : St} {s : Shared} (R : Rel (c.at m) ρ σ s) {tm Hr : Hp} {N : Nat} (pm : σ.H.Perm (tm ++ Hr)) (hN : σ.nx ≤ N) {G : Prop}
    (k : ∀ nr, Ck q (c.part nr) n → Rel ((c.part nr).at m) ρ ⟨σ.loc, σ.cel, tm, N⟩ s →
      (∀ m' ρ2 σ2 s2, ρ.le ρ2 → Rel ((c.part nr).at m') ρ2 σ2 s2 → Rel (c.at m') ρ2 { σ2 with H := σ2.H ++ Hr } s2) →
      (∀ m' ρ2 σ2 l u s2, ρ.le ρ2 → ExcRel ((c.part nr).at m') ρ2 σ2 l u s2 → ExcRel (c.at m') ρ2 { σ2 with H := σ2.H ++ Hr } l u s2) → G) : G :=
  R.elim fun news R => (R.nm.cut pm).elim fun ns z => z.elim fun nr z =>
    k nr (C.part nr) ⟨ns, R.F, fun q hq => R.N q (z.1.mem_iff.mpr hq), z.2.1.up hN, R.loc, R.cel, R.sh⟩
      (fun m' ρ2 σ2 s2 le R2 => R2.elim fun ns2 R2 => ⟨ns2 ++ nr, R2.F, fun q hq => R2.N q (perm3.mem_iff.mpr hq), R2.nm.join (LedIs.mono le z.2.2.1) z.2.2.2, R2.loc, R2.cel, R2.sh⟩)
      fun m' ρ2 σ2 l u s2 le R2 => R2.elim fun e R2 => R2.elim fun Gh R2 => R2.elim fun ns2 R2 => ⟨e, Gh, ns2 ++ nr, R2.1, R2.2.F, fault_sub R2.2.fl fun q hq => perm3.mem_iff.mpr hq, R2.2.up, R2.2.nm.join (LedIs.mono le z.2.2.1) z.2.2.2, R2.2.loc, R2.2.cel, R2.2.sh⟩
theorem locIs_er {ρ : Rho} {m : Str → Option Value} {loc loc' : List (Str × V)} (h : LocIs ρ loc m) (he : (loc.map fun p => (p.1, p.2.er)) = (loc'.map fun p => (p.1, p.2.er))) : LocIs ρ loc' m := fun x v e =>
  (Option.map_eq_some_iff.mp ((lkB_map (f := V.er) (l := loc)).symm.trans ((congrArg (fun l => lkS l x) he).trans ((lkB_map (f := V.er) (l := loc')).trans (congrArg (Option.map V.er) e))))).elim fun w z => (h x w z.1).imp fun u q => ⟨q.1, den_er.mp (z.2 ▸ den_er.mpr q.2)⟩
theorem passes_part {c : Cd} {nr : List (Addr × Obj)} {E : Value → Shared → Prop} (h : PassesOwn (MM c.w) c.A c.env E) : PassesOwn (MM (c.part nr).w) (c.part nr).A (c.part nr).env E := h
theorem SemS.part {T : Tab} {n : Nat} {c : Cd} {ss : List Stmt} {σ : St} {K : KS} {X : KX} (TT : TabOk T c.w) (C : Ck T.q c n) (f : Fk c) {H0 tm Hr : Hp} {N nx : Nat} {ks nms : List Nat} {rt rx : List (Nat × Tg)} {xs ps xx px : List Str} {loc : List (Str × V)}
    (el : (σ.loc.map fun p => (p.1, p.2.er)) = loc.map fun p => (p.1, p.2.er)) (pm : σ.H.Perm H0) (he : (H0.map fun p => (p.1, p.2.er)) = (tm ++ Hr).map (fun p => (p.1, p.2.er))) (hN : σ.nx ≤ N)
    (h : vcSs T n c.env.scope.names ss ⟨loc, σ.cel, tm, N⟩ (finS N nx ks nms rt xs ps (fun l H' nx' => K .next ⟨l, σ.cel, H' ++ Hr, nx'⟩) fun v H' nx' => K (.ret v) ⟨[], σ.cel, H' ++ Hr, nx'⟩)
      (fun l σ2 => finX N nx ks nms rx xx px (fun lc H' nx' => X l ⟨lc, σ.cel, H' ++ Hr, nx'⟩) σ2)) : SemS c (execs ss c.env) σ K X := by
  intro m ρ s Q E hE R k kx
  refine (Rel.retag R pm he).elim fun news RA => ?_
  have cel0 : CelIs ρ σ.cel c.env.cells := RA.cel
  have fr : ∀ a, N ≤ a → ρ a = none := fun a ha => RA.fresh a (Nat.le_trans hN ha)
  refine frameS C (σ := ⟨loc, σ.cel, tm ++ Hr, σ.nx⟩) ⟨news, RA.F, RA.N, RA.nm, locIs_er RA.loc el, RA.cel, RA.sh⟩ (.refl (tm ++ Hr)) hN fun nr C1 R1 up upx => ?_
  refine (snd T n).ss (c.part nr) _ ss TT C1 ⟨f.env, f.loc⟩ rfl m ρ _ s _ _ Q E (passes_part hE) R1 h (fun m2 ρ2 σ2 fl w s2 le2 R2 fi h2 => ?_) fun m2 ρ2 σ2 l u s2 le2 R2 h2 => ?_
  · have loc2 : LocIs ρ2 σ2.loc m2 := R2.elim fun _ R2 => R2.loc
    cases fi with
    | next =>
      have h2 : finX N nx ks nms rt xs ps (fun l H' nx' => K .next ⟨l, σ.cel, H' ++ Hr, nx'⟩) σ2 := h2
      refine finX_k h2 loc2 fun gl loc' H' S' L h2 => ?_
      have le3 : ρ.le fun a => ρ2 (gf N gl σ2.nx a) := sim_le le2 fr
      exact k m2 _ _ _ _ s2 le3 (up _ _ _ _ le3 (sim_rel (cel := σ.cel) R2 S' L (CelIs.mono le3 cel0))) .next h2
    | cont => exact h2.elim
    | brk => exact h2.elim
    | ret d =>
      have h2 : finL N nx ks nms rt (fun vs' H' nx' => oB (oneL vs') fun v' => K (.ret v') ⟨[], σ.cel, H' ++ Hr, nx'⟩) [_] σ2 := h2
      refine finL_k h2 fun gl vs' H' S' a h2 => ?_
      have le3 : ρ.le fun a => ρ2 (gf N gl σ2.nx a) := sim_le le2 fr
      refine oB_el h2 fun v' e h2 => ?_
      rw [oneL_el e] at a
      have z := a.rec (motive := fun as bs _ => ∀ v v', as = [v] → bs = [v'] → ∀ ρ u, Den ρ v u → Den (fun a => ρ (gf N gl σ2.nx a)) v' u) (fun _ _ e => nomatch e) (fun x _ _ v v' e e' => (List.cons.inj e).1 ▸ (List.cons.inj e').1 ▸ x) _ _ rfl rfl
      exact k m2 _ _ _ _ s2 le3 (up _ _ _ _ le3 (sim_rel (loc := []) (cel := σ.cel) R2 S' (fun _ _ e => nS e) (CelIs.mono le3 cel0))) (.ret (z _ _ d)) h2
  · have loc2 : LocIs ρ2 σ2.loc m2 := R2.elim fun _ R2 => R2.elim fun _ R2 => R2.elim fun _ R2 => R2.2.loc
    refine finX_k h2 loc2 fun gl loc' H' S' L h2 => ?_
    have le3 : ρ.le fun a => ρ2 (gf N gl σ2.nx a) := sim_le le2 fr
    exact kx m2 _ _ l u s2 le3 (upx _ _ _ _ _ _ le3 (sim_exc (cel := σ.cel) R2 S' L (CelIs.mono le3 cel0))) h2
end Mine
namespace Mine
theorem has_vrefs {v : V} {a : Nat} (h : v.has a) : a ∈ vrefs v := by
  cases v with
  | ref b => exact (h : b = a) ▸ .head _
  | either b x y =>
    cases b with
    | true => exact (h : x = a) ▸ .head _
    | false => exact (h : y = a) ▸ .tail _ (.head _)
  | _ => exact h.elim
theorem has_refsL {xs : List V} {a : Nat} {x : V} (hx : x ∈ xs) (h : x.has a) : a ∈ refsL xs := by
  induction xs with
  | nil => exact absurd hx List.not_mem_nil
  | cons v r ih => exact (List.mem_cons.mp hx).elim (fun e => List.mem_append_left _ (e ▸ has_vrefs h)) fun hx => List.mem_append_right _ (ih hx)
theorem has_refsK {α : Type} {xs : List (α × V)} {a : Nat} {x : α × V} (hx : x ∈ xs) (h : x.2.has a) : a ∈ refsK xs := by
  induction xs with
  | nil => exact absurd hx List.not_mem_nil
  | cons v r ih => exact (List.mem_cons.mp hx).elim (fun e => List.mem_append_left _ (e ▸ has_vrefs h)) fun hx => List.mem_append_right _ (ih hx)
theorem has_refs {o : O} {a : Nat} (h : o.has a) : a ∈ refs o := by
  cases o with
  | inst c d => exact (h : d = a) ▸ .head _
  | exc d => exact (h : d = a) ▸ .head _
  | dict kvs => exact h.elim fun p z => has_refsK z.1 z.2
  | idict kvs => exact h.elim fun p z => has_refsK z.1 z.2
  | list xs => exact h.elim fun p z => has_refsL z.1 z.2
  | tup xs => exact h.elim fun p z => has_refsL z.1 z.2
  | olist xs => exact h.elim fun p z => has_refsL z.1 z.2
  | cell v => exact h.elim fun x z => z.1 ▸ has_vrefs z.2
  | pdict kvs abs b => exact h.elim fun f h => h.elim fun v z => has_refsK (x := (f, v)) (lkS_mem z.1) z.2
  | pidict kvs => exact h.elim fun f h => h.elim fun v z => has_refsK (x := (f, v)) (lkI_mem z.1) z.2
  | _ => exact h.elim
noncomputable def Rho.off (ρ : Rho) (bs : List Nat) : Rho := fun a => @Bool.rec (fun _ => Option Addr) (ρ a) none (memN bs a)
theorem Rho.off_of {ρ : Rho} {bs : List Nat} {a : Nat} (h : memN bs a = false) : ρ.off bs a = ρ a := congrArg (@Bool.rec (fun _ => Option Addr) (ρ a) none) h
theorem Rho.off_some {ρ : Rho} {bs : List Nat} {a : Nat} {ad : Addr} (h : ρ.off bs a = some ad) : memN bs a = false ∧ ρ a = some ad :=
  bool_el (b := memN bs a) (fun e => nS ((congrArg (@Bool.rec (fun _ => Option Addr) (ρ a) none) e).symm.trans h)) fun e => ⟨e, (Rho.off_of e).symm.trans h⟩
theorem led_off {P : Params} {ρ : Rho} {bs : List Nat} {A : Hp} {ns : List (Addr × Obj)} (l : LedIs P ρ A ns) (out : ∀ a ∈ A.map (·.1) ++ refsH A, memN bs a = false) : LedIs P (ρ.off bs) A ns := by
  unfold LedIs at l ⊢
  induction l with
  | nil => exact .nil
  | cons x _ ih => exact .cons ⟨(Rho.off_of (out _ (.head _))).trans x.1, x.2.cong fun a ha => Rho.off_of (out _ (List.mem_append_right _ (List.mem_append_left _ (has_refs ha))))⟩ (ih fun a ha => out a ((List.mem_append.mp ha).elim (fun ha => List.mem_append_left _ (.tail _ ha)) fun ha => List.mem_append_right _ (List.mem_append_right _ ha)))
theorem NmA.letgo {P : Params} {X news : List (Addr × Obj)} {Y : List Addr} {ρ : Rho} {H A B : Hp} {nx : Nat} (R : NmA P X Y ρ H nx news) (pm : H.Perm (A ++ B)) (hA : allB (fun a => !memN (B.map (·.1)) a) (A.map (·.1) ++ refsH A) = true) :
    ∃ ns, (∀ q ∈ X ++ ns, q ∈ X ++ news) ∧ NmA P X Y (ρ.off (B.map (·.1))) A nx ns := (all2_perm pm R.led).elim fun nw z => (all2_split z.2).elim fun ns w => w.elim fun nr w => by
  have pn : news.Perm (ns ++ nr) := w.1 ▸ z.1
  have pX : (X ++ news).Perm ((X ++ ns) ++ nr) := by rw [List.append_assoc]; exact pn.append_left X
  have nd := ((pX.map (·.1)).nodup_iff).mp R.nd
  rw [List.map_append] at nd
  refine ⟨ns, fun q hq => pX.mem_iff.mpr (List.mem_append_left _ hq), (List.nodup_append.mp nd).1, led_off w.2.1 fun a ha => not_el (allB_mem hA a ha) id, fun a ad e => ?_, fun a b ad ea eb => R.inj a b ad (Rho.off_some ea).2 (Rho.off_some eb).2, fun a ha => ?_,
    fun q hq => R.sm q (pn.mem_iff.mpr (List.mem_append_left _ hq)), fun a ad e => R.off a ad (Rho.off_some e).2⟩
  · have h := Rho.off_some e
    have m := R.rng a ad h.2
    rw [(pX.map (·.1)).mem_iff, List.map_append] at m
    refine (List.mem_append.mp m).elim id fun m => (List.mem_map.mp m).elim fun q v => (all2_mem w.2.2 q v.1).elim fun p x => ?_
    have ep : a = p.1 := R.inj a p.1 ad h.2 (x.2.1.trans (congrArg some v.2))
    exact Bool.noConfusion (h.1.symm.trans (memN_in (List.mem_map.mpr ⟨p, x.1, ep.symm⟩)))
  · exact bool_el (b := memN (B.map fun p : Nat × O => p.1) a) (fun e => (congrArg (@Bool.rec (fun _ => Option Addr) (ρ a) none) e : ρ.off (B.map (·.1)) a = none)) fun e => (Rho.off_of e).trans (R.fresh a ha)
theorem Rel.letgo {c : Cd} {ρ : Rho} {σ : St} {s : Shared} (R : Rel c ρ σ s) {A B : Hp} (pm : σ.H.Perm (A ++ B)) (hA : allB (fun a => !memN (B.map (·.1)) a) (A.map (·.1) ++ refsH A) = true)
    {loc : List (Str × V)} {cel : List (Str × Nat)} (hl : LocIs (ρ.off (B.map (·.1))) loc c.ml) (hc : CelIs (ρ.off (B.map (·.1))) cel c.env.cells) : Rel c (ρ.off (B.map (·.1))) ⟨loc, cel, A, σ.nx⟩ s :=
  R.elim fun news R => (R.nm.letgo pm hA).elim fun ns z => ⟨ns, R.F, fun q hq => R.N q (z.1 q hq), z.2, hl, hc, R.sh⟩
end Mine
namespace Mine
noncomputable def poolH (ns : List Int) (n : Int) : Hp := [(0, .dict [(s "cells", .ref 1), (s "at", .si n)]), (1, .ints ns)]
noncomputable def tyD (nm : Str) (num : Int) (ab : Bool) (ops : Nat) : O := .pdict [(s "kind", .str (s "record")), (s "name", .str nm), (s "number", .int num), (s "parent", .none), (s "is_tagged", .bool true), (s "is_abstract", .sb ab), (s "operations", .ref ops)] [] 30
noncomputable def tyH (b : Nat) (nm : Str) (num : Int) (home : Int) (ab : Bool) (kv : List (Str × Str)) : Hp := [(b, .tup [.ref (b + 1), .si home]), (b + 1, .inst 316 (b + 2)), (b + 2, tyD nm num ab (b + 3)), (b + 3, .odict kv)]
noncomputable def tyTags (b : Nat) : List (Nat × Tg) := [(b + 2, .pd (names ["kind", "name", "number", "parent", "is_tagged", "is_abstract", "operations"]) [] 30), (b + 3, .od)]
noncomputable def bdP (ns : List Int) (n : Int) : Prop := 0 ≤ n ∧ n < 1000 ∧ ns.length ≤ 60
noncomputable def waysP (ns : List Int) : List Str → List (Str × Str) → Int → (List (Str × Str) → Int → Prop) → Prop
  | [], kv, n, k => k kv n
  | key :: r, kv, n, k => bdP ns n ∧ waysP ns r kv (n + 1) k ∧ waysP ns r (putS kv key (s "old")) (n + 1) k ∧ waysP ns r (putS kv key (s "")) (n + 1) k ∧ waysP ns r kv (n + 1) k
noncomputable def knownL : List Str := names ["go inself", "up inself", "go inself in61"]
noncomputable def typeP (b : Nat) (nm : Str) (num : Int) (ns : List Int) (n : Int) (KK : V → Hp → Nat → Prop) : Prop :=
  bdP ns n ∧ ∀ home : Int, 0 ≤ home → home < (3 : Nat) → bdP ns (n + 1) ∧ ∀ k2 : Int, 0 ≤ k2 → k2 < (3 : Nat) → waysP ns knownL [] (n + 1 + 1) fun kv n' => KK (.ref b) (poolH ns n' ++ tyH b nm num home (eqInt k2 1) kv) (b + 4)
theorem type_run0 (P : Params) (ns : List Int) (n : Int) (KK : V → Hp → Nat → Prop) (X : KX) :
    vcC (tab1 P) 60 385 [.ref 0, .int 0] ⟨[], [], poolH ns n, 2⟩ (fin 2 6 [0, 1] [2, 3, 4, 5] (tyTags 2) KK) X = typeP 2 (s "a") 80 ns n KK := by kernel_rfl
end Mine
namespace Mine
noncomputable def tyD2 (nm : Str) (num : Int) (ab : Bool) (ops : Nat) : O := tyD nm num ab ops
noncomputable def toldH (h0 h1 : Int) (ab0 ab1 : Bool) : Hp := [(10, .list [.ref 2, .ref 6]), (2, .tup [.ref 3, .int h0]), (3, .inst 316 4), (4, tyD (s "a") 80 ab0 5), (6, .tup [.ref 7, .int h1]), (7, .inst 316 8), (8, tyD (s "b") 81 ab1 9)]
noncomputable def kdOf : Nat → Str
  | 0 => s "package"
  | 1 => s "package"
  | 2 => s "sub"
  | _ => s "block"
noncomputable def partOf : Nat → Str
  | 0 => s "visible"
  | _ => s "body"
noncomputable def part1 (sort h : Nat) : Str := match h with
  | 0 => s "visible"
  | 1 => (match sort with
    | 0 => s "visible"
    | 1 => s "visible"
    | _ => s "body")
  | _ => partOf sort
noncomputable def regR (h : Nat) : V := match h with
  | 0 => .ref 22
  | _ => .ref 11
noncomputable def ordOf (h0 h1 : Nat) : List Nat := (match h0 with | 1 => [24] | _ => []) ++ (match h1 with | 1 => [28] | _ => []) ++ (match h0 with | 2 => [24] | _ => []) ++ (match h1 with | 2 => [28] | _ => [])
noncomputable def nmsOf (h0 h1 : Nat) : List Nat := [11, 12, 13, 17, 18, 19, 20] ++ (match h0 with | 0 => [22, 23] | _ => []) ++ [21] ++ (match h0, h1 with | 0, _ => [] | _, 0 => [22, 23] | _, _ => []) ++ [14, 16, 15] ++ (ordOf h0 h1).flatMap fun e => [e, e + 1, e + 2, e + 3]
noncomputable def placeTags : List (Nat × Tg) := [(12, .pd (names ["kind", "number", "part", "root", "parent", "names", "counts", "order"]) [] 30), (17, .pd (names ["kind", "made", "counts", "type_homes"]) [] 30), (23, .pd (names ["number"]) [] 30), (14, .pd [] (names ["go", "up"]) 2), (15, .ol), (16, .pd [] (names ["go", "up"]) 2), (18, .pd [] (names ["go", "up"]) 2), (19, .pid [80, 81]),
  (25, .pd (names ["kind", "subtype", "line", "is_complete", "is_implicit", "is_overridden"]) [] 30), (29, .pd (names ["kind", "subtype", "line", "is_complete", "is_implicit", "is_overridden"]) [] 30), (27, .pd (names ["type"]) [] 30), (31, .pd (names ["type"]) [] 30)]
noncomputable def entH (e t : Nat) (line : Int) : Hp := [(e, .inst 183 (e + 1)), (e + 1, .pdict [(s "kind", .str (s "type")), (s "subtype", .ref (e + 2)), (s "line", .int line), (s "is_complete", .bool true), (s "is_implicit", .bool false), (s "is_overridden", .bool false)] [] 30), (e + 2, .inst 337 (e + 3)), (e + 3, .pdict [(s "type", .ref t)] [] 30)]
noncomputable def placeD (kd part : Str) : O := .pdict [(s "kind", .str kd), (s "number", .int 3), (s "part", .str part), (s "root", .ref 13), (s "parent", .ref 13), (s "names", .ref 14), (s "counts", .ref 16), (s "order", .ref 15)] [] 30
noncomputable def placeH (sort h0 h1 : Nat) : Hp := [(11, .inst 234 12), (12, placeD (kdOf sort) (partOf sort)), (13, .inst 234 17), (17, .pdict [(s "kind", .str (s "root")), (s "made", .int 5), (s "counts", .ref 18), (s "type_homes", .ref 19)] [] 30), (18, .pdict [] (names ["go", "up"]) 2), (19, .pidict [(80, .ref 20), (81, .ref 21)]), (20, .tup [regR h0, .str (part1 sort h0)])] ++
  (match h0 with | 0 => [(22, .inst 234 23), (23, .pdict [(s "number", .int 2)] [] 30)] | _ => []) ++ [(21, .tup [regR h1, .str (part1 sort h1)])] ++ (match h0, h1 with | 0, _ => [] | _, 0 => [(22, .inst 234 23), (23, .pdict [(s "number", .int 2)] [] 30)] | _, _ => []) ++
  [(14, .pdict [] (names ["go", "up"]) 2), (16, .pdict [] (names ["go", "up"]) 2), (15, .olist ((ordOf h0 h1).map .ref))] ++ (ordOf h0 h1).flatMap fun e => match e with
    | 24 => entH 24 3 11
    | _ => entH 28 7 12
noncomputable def placeRun (P : Params) (ab0 ab1 : Bool) (KK : V → Hp → Nat → Prop) (X : KX) (sort h0 h1 : Nat) : Prop :=
  vcC (tab1 P) 60 411 [.int sort, .ref 10] ⟨[], [], toldH h0 h1 ab0 ab1, 11⟩ (fin 11 32 [10, 2, 3, 4, 6, 7, 8] (nmsOf h0 h1) placeTags KK) X
noncomputable def placeOut (ab0 ab1 : Bool) (KK : V → Hp → Nat → Prop) (sort h0 h1 : Nat) : Prop := KK (.ref 11) (toldH h0 h1 ab0 ab1 ++ placeH sort h0 h1) 32
noncomputable def cfgs : List (Nat × Nat × Nat) := [0, 1, 2, 3].flatMap fun sort => [0, 1, 2].flatMap fun h0 => [0, 1, 2].map fun h1 => (sort, h0, h1)
theorem place_runs (P : Params) (ab0 ab1 : Bool) (KK : V → Hp → Nat → Prop) (X : KX) : cfgs.map (fun c => placeRun P ab0 ab1 KK X c.1 c.2.1 c.2.2) = cfgs.map fun c => placeOut ab0 ab1 KK c.1 c.2.1 c.2.2 := by kernel_rfl
end Mine
namespace Mine
structure Prof where
  ts : List Nat
  res : Option Nat
noncomputable def Prof.els (p : Prof) : List Nat := p.ts ++ (match p.res with | some i => [i] | none => [])
noncomputable def tyA : Nat → Nat
  | 0 => 3
  | 1 => 7
  | _ => 34
noncomputable def tyN : Nat → Int
  | 0 => 80
  | 1 => 81
  | _ => 61
noncomputable def oneS (i t : Nat) : Str := match Nat.beq i t with
  | true => s "self"
  | false => Str.ofString (toString (tyN i))
noncomputable def keyL (t : Nat) : List Nat → Str → Str
  | [], x => x
  | i :: r, x => keyL t r (x ++ (s " in" ++ oneS i t))
noncomputable def keyOf (nm : Str) (p : Prof) (t : Nat) : Str := match p.res with
  | none => keyL t p.ts nm
  | some i => keyL t p.ts nm ++ (s " " ++ oneS i t)
noncomputable def profs : List Prof := [[0], [1], [2], [0, 0], [0, 1], [0, 2], [1, 0], [1, 1], [1, 2], [2, 0], [2, 1], [2, 2]].flatMap fun ts => [none, some 0, some 2].map fun r => ⟨ts, r⟩
noncomputable def nmL : List Str := [s "go", s "up"]
noncomputable def nTy : Hp := [(34, .inst 316 35), (35, .pdict [(s "kind", .str (s "int")), (s "number", .int 61), (s "is_tagged", .bool false)] [] 30)]
noncomputable def resV : Option Nat → V
  | none => .none
  | some i => .ref (tyA i)
noncomputable def ownH (h0 h1 : Int) (ab0 ab1 : Bool) (kv0 kv1 : List (Str × Str)) (p : Prof) : Hp := [(10, .list [.ref 2, .ref 6])] ++ tyH 2 (s "a") 80 h0 ab0 kv0 ++ tyH 6 (s "b") 81 h1 ab1 kv1 ++ nTy ++ [(60, .list (p.ts.map fun i => .ref (tyA i)))]
noncomputable def addP (sort : Nat) (e g : Bool) (A B : Prop) : Prop := match sort with
  | 0 => A
  | 1 => (e = true → (g = true → A) ∧ (g = false → B)) ∧ (e = false → B)
  | _ => (g = true → A) ∧ (g = false → B)
noncomputable def ownP (sort : Nat) (l e g : Nat → Bool) : List Nat → List Nat → (List Nat → Prop) → Prop
  | [], f, k => k f
  | i :: r, f, k => match Nat.beq i 2 with
    | true => ownP sort l e g r f k
    | false => (l i = true → (match memN f i with
      | true => ownP sort l e g r f k
      | false => addP sort (e i) (g i) (ownP sort l e g r (f ++ [i]) k) (ownP sort l e g r f k))) ∧ (l i = false → ownP sort l e g r f k)
noncomputable def sel {α : Type} (a b : α) : Nat → α
  | 0 => a
  | _ => b
noncomputable def hasK (nm : Str) (p : Prof) (kv0 kv1 : List (Str × Str)) (i : Nat) : Bool := isSome' (lkS (sel kv0 kv1 i) (keyOf nm p i))
noncomputable def ownRun (P : Params) (h0 h1 : Int) (ab0 ab1 : Bool) (kv0 kv1 : List (Str × Str)) (KK : V → Hp → Nat → Prop) (X : KX) (c : Nat × Str × Prof) : Prop :=
  vcC (tab1 P) 60 404 [.int c.1, .ref 10, .ref 60, resV c.2.2.res, .str c.2.1] ⟨[], [], ownH h0 h1 ab0 ab1 kv0 kv1 c.2.2, 80⟩ (fin 80 81 [10, 2, 3, 4, 5, 6, 7, 8, 9, 34, 35, 60] [80] [] KK) X
noncomputable def ownOut (h0 h1 : Int) (ab0 ab1 : Bool) (kv0 kv1 : List (Str × Str)) (KK : V → Hp → Nat → Prop) (c : Nat × Str × Prof) : Prop :=
  ownP c.1 (sel (ltInt 0 h0) (ltInt 0 h1)) (sel (eqInt h0 2) (eqInt h1 2)) (hasK c.2.1 c.2.2 kv0 kv1) c.2.2.els [] fun f => KK (.ref 80) (ownH h0 h1 ab0 ab1 kv0 kv1 c.2.2 ++ [(80, .list (f.map fun i => .ref (tyA i)))]) 81
noncomputable def ocfgs : List (Nat × Str × Prof) := [0, 1, 2, 3].flatMap fun sort => nmL.flatMap fun nm => profs.map fun p => (sort, nm, p)
end Mine
namespace Mine
noncomputable def takeS3 : Spec := fun vs σ K X => oB (twoL vs) fun q => oB (natK q.2) fun m => bE (Nat.beq m 3) (takeS vs σ (fun v σ' => oB (siO v) fun _ => K (.int 0) σ' ∧ K (.int 1) σ' ∧ K (.int 2) σ') X) (takeS vs σ K X)
theorem drawS3 {K : KV} {σ : St} {m : Nat} (h : ∀ k : Int, 0 ≤ k → k < m → DrawK (fun v σ' => oB (siO v) fun _ => K (.int 0) σ' ∧ K (.int 1) σ' ∧ K (.int 2) σ') σ k) : m = 3 → ∀ k : Int, 0 ≤ k → k < m → DrawK K σ k := fun e => by
  have z := (h 0 (Int.le_refl 0) (by rw [e]; decide)).elim fun v' z => oB_el z.2.2 fun i _ h => h
  rw [e]
  exact ltS (ltS (ltS lt0 (drawI z.1)) (drawI z.2.1)) (drawI z.2.2)
theorem takeB_k {vs : List V} {σ : St} {m : Nat} {KK KK' : Nat → List Int → Int → Prop} (hm : (oO (twoL vs) fun q => natK q.2) = some m) (h : takeB vs σ KK) (k : ∀ ns n, KK m ns n → KK' m ns n) : takeB vs σ KK' :=
  oB_mono h fun q hq h => oB_mono h fun p _ h => oB_mono h fun m' e h => oB_mono h fun kv _ h => oB_mono h fun w _ h => oB_mono h fun l _ h => oB_mono h fun n _ h => bB_mono h fun h => oB_mono h fun ns _ h => ⟨h.1, by
    rw [hq] at hm
    have em : m' = m := Option.some.inj (e.symm.trans hm)
    rw [em] at h ⊢
    exact k ns n h.2⟩
theorem take3_spec : SpecOk 378 takeS3 24 := take_gen fun vs σ K X h => oB_el h fun q hq h => oB_el h fun m hm h => bE_el h
  (fun e h => takeB_k (m := m) (KK := fun m ns n => ∀ k : Int, 0 ≤ k → k < m → DrawK (fun v σ' => oB (siO v) fun _ => K (.int 0) σ' ∧ K (.int 1) σ' ∧ K (.int 2) σ') (takeT σ ns n) k) (by rw [hq]; exact hm) (takeB_mono h fun m ns n h => take_all h) fun ns n h => drawS3 h (Nat.eq_of_beq_eq_true e)) fun _ h => takeB_mono h fun m ns n h => take_all h
noncomputable def tab2 (P : Params) : Tab := (tab P).add 378 24 takeS3
theorem tab2_ok (w : World) : TabOk (tab2 w.params) w := add_ok (tab_ok w) take3_spec (keep_fn w rfl)
theorem TabOk.quiet {T : Tab} {w : World} (h : TabOk T w) : TabOk { T with q := true } w where
  glob := h.glob
  fld := h.fld
  fns := h.fns
  ini := h.ini
  blt := h.blt
  tups := h.tups
  itups := h.itups
  spec := h.spec
  exc := h.exc
  mkf := h.mkf
  cls := h.cls
  kf := h.kf
noncomputable def tab2q (P : Params) : Tab := { tab2 P with q := true }
theorem tab2q_ok (w : World) : TabOk (tab2q w.params) w := (tab2_ok w).quiet
noncomputable def bodyOf (P : Params) (f : Nat) : List Stmt := @Option.rec FnI (fun _ => List Stmt) [] (fun i => i.body) (fnI P f)
noncomputable def scOf (P : Params) (f : Nat) : Names := @Option.rec FnI (fun _ => Names) [] (fun i => i.sc.names) (fnI P f)
noncomputable def pcs (P : Params) (a n : Nat) : List Stmt := ((bodyOf P 416).drop a).take n
noncomputable def cel4 : List (Str × Nat) := [(s "pool", 100), (s "kinds", 101), (s "types", 102), (s "t", 103)]
noncomputable def celH (ty t : Option V) : Hp := [(100, .cell (some (.ref 0))), (101, .cell (some (.ref 36))), (102, .cell ty), (103, .cell t)]
noncomputable def kinH : Hp := [(36, .list [.ref 3, .ref 7, .ref 34])]
noncomputable def loc0 (sort t : Int) : List (Str × V) := [(s "scope", .ref 32), (s "sort", .si sort), (s "told", .ref 10), (s "turn", .si t)]
noncomputable def lnm0 : List Str := names ["scope", "sort", "told", "turn"]
noncomputable def typH (ts : List Nat) : Hp := [(104, .list (ts.map fun i => .ref (tyA i)))]
noncomputable def runS1 (P : Params) (ns : List Int) (n sort t : Int) (KK : List (Str × V) → Hp → Nat → Prop) (KR : V → Hp → Nat → Prop) (X : KX) : Prop :=
  vcSs (tab2 P) 60 (scOf P 416) (pcs P 0 2) ⟨loc0 sort t, cel4, poolH ns n ++ kinH ++ celH none none, 104⟩ (finS 104 105 [0, 1, 36, 100, 101, 102, 103] [104] [] (lnm0 ++ [s "name"]) [] KK KR) X
noncomputable def outS1 (ns : List Int) (n sort t : Int) (KK : List (Str × V) → Hp → Nat → Prop) : Prop :=
  let k := fun nm ts => fun n' => KK (loc0 sort t ++ [(s "name", .str nm)]) (poolH ns n' ++ kinH ++ celH (some (.ref 104)) none ++ typH ts) 105
  let tk := fun (n : Int) (q : Nat → Prop) => bdP ns n ∧ ∀ k2 : Int, 0 ≤ k2 → k2 < (3 : Nat) → q 0 ∧ q 1 ∧ q 2
  let f := fun nm => bdP ns (n + 1) ∧ (tk (n + 1 + 1) fun a => k nm [a] (n + 1 + 1 + 1)) ∧ (tk (n + 1 + 1) fun a => tk (n + 1 + 1 + 1) fun b => k nm [a, b] (n + 1 + 1 + 1 + 1))
  bdP ns n ∧ f (s "go") ∧ f (s "up")
theorem run_S1 (P : Params) (ns : List Int) (n sort t : Int) (KK : List (Str × V) → Hp → Nat → Prop) (KR : V → Hp → Nat → Prop) (X : KX) : runS1 P ns n sort t KK KR X = outS1 ns n sort t KK := by kernel_rfl
noncomputable def loc1 (sort t : Int) (nm : Str) : List (Str × V) := loc0 sort t ++ [(s "name", .str nm)]
noncomputable def lnm1 : List Str := lnm0 ++ names ["name", "result", "is_abstract"]
noncomputable def runS2 (P : Params) (ns : List Int) (n sort t : Int) (nm : Str) (KK : List (Str × V) → Hp → Nat → Prop) (KR : V → Hp → Nat → Prop) (X : KX) : Prop :=
  vcSs (tab2 P) 60 (scOf P 416) (pcs P 2 2) ⟨loc1 sort t nm, cel4, poolH ns n ++ kinH ++ celH (some (.ref 104)) none, 105⟩ (finS 105 105 [0, 1, 36, 100, 101, 102, 103] [] [] lnm1 [] KK KR) X
noncomputable def outS2 (ns : List Int) (n sort t : Int) (nm : Str) (KK : List (Str × V) → Hp → Nat → Prop) : Prop :=
  let k := fun r ab => KK (loc1 sort t nm ++ [(s "result", r), (s "is_abstract", .bool ab)]) (poolH ns (n + 1 + 1) ++ kinH ++ celH (some (.ref 104)) none) 105
  let f := fun r => bdP ns (n + 1) ∧ k r false ∧ k r true ∧ k r false ∧ k r false
  bdP ns n ∧ f .none ∧ f .none ∧ f (.ref 3) ∧ f (.ref 34)
theorem run_S2 (P : Params) (ns : List Int) (n sort t : Int) (nm : Str) (KK : List (Str × V) → Hp → Nat → Prop) (KR : V → Hp → Nat → Prop) (X : KX) : runS2 P ns n sort t nm KK KR X = outS2 ns n sort t nm KK := by kernel_rfl
noncomputable def loc2 (sort t : Int) (ab : Bool) (nm : Str) (p : Prof) : List (Str × V) := loc1 sort t nm ++ [(s "result", resV p.res), (s "is_abstract", .sb ab)]
noncomputable def loc3 (sort t : Int) (ab : Bool) (nm : Str) (p : Prof) : List (Str × V) := loc1 sort t nm ++ [(s "is_abstract", .sb ab), (s "sub", .ref 105), (s "entity", .ref 116), (s "result", resV p.res)]
noncomputable def sbtH (a i : Nat) : Hp := [(a, .inst 337 (a + 1)), (a + 1, .pdict [(s "type", .ref (tyA i))] [] 30)]
noncomputable def rowO (x : Str) (a : Nat) : O := .tup [.str x, .str (s "in"), .ref a, .none]
noncomputable def parsH : List Nat → Hp
  | [a] => [(107, .list [.ref 108]), (108, rowO (s "x") 110)] ++ sbtH 110 a
  | [a, b] => [(107, .list [.ref 108, .ref 109]), (108, rowO (s "x") 110)] ++ sbtH 110 a ++ [(109, rowO (s "y") 112)] ++ sbtH 112 b
  | _ => []
noncomputable def resR (r : Option Nat) : V := match r with
  | none => .none
  | some _ => .ref 114
noncomputable def resH (r : Option Nat) : Hp := match r with
  | none => []
  | some i => sbtH 114 i
noncomputable def subDc (nm op : Str) (r : Option Nat) (ctl : Nat) : O := .pdict [(s "name", .str nm), (s "params", .ref 107), (s "result", resR r), (s "operation", .str op), (s "control", .ref ctl)] [] 30
noncomputable def entD (nm un : Str) (key line : Int → V) (t num : Int) (home : V) (part : Str) (rdy : Bool) (k : Nat) : O := .pdict [(s "kind", .str (s "sub")), (s "name", .str nm), (s "key", .ref k), (s "line", line t), (s "number", .int num), (s "unique", .str un), (s "home", home), (s "part", .str part), (s "is_ready", .bool rdy), (s "is_complete", .bool true), (s "is_implicit", .bool false), (s "is_overridden", .bool false)] [] 30
noncomputable def entTags : List Str := names ["kind", "name", "key", "line", "number", "unique", "home", "part", "is_ready", "is_complete", "is_implicit", "is_overridden"]
noncomputable def subTags : List (Nat × Tg) := [(106, .pd (names ["name", "params", "result", "operation", "control"]) [] 30), (111, .pd (names ["type"]) [] 30), (113, .pd (names ["type"]) [] 30), (115, .pd (names ["type"]) [] 30), (117, .pd entTags [] 30)]
noncomputable def subH (nm op : Str) (p : Prof) (ctl : Nat) : Hp := [(105, .inst 141 106), (106, subDc nm op p.res ctl)] ++ parsH p.ts ++ resH p.res
noncomputable def entN (e : Nat) (nm : Str) (t : Int) : Hp := [(e, .inst 183 (e + 1)), (e + 1, entD nm (s "") (fun _ => .none) (fun t => .si (20 + t)) t 0 .none (s "") false (e + 2)), (e + 2, .tup [.ref (e + 3), .int (-1)]), (e + 3, .tup [.si t])]
noncomputable def nmsS (p : Prof) : List Nat := [105, 106, 107] ++ (match p.ts with | [_] => [108, 110, 111] | _ => [108, 110, 111, 109, 112, 113]) ++ (match p.res with | none => [] | some _ => [114, 115]) ++ [120, 116, 117, 118, 119]
noncomputable def lnm2 : List Str := lnm0 ++ names ["name", "is_abstract", "sub", "entity", "result"]
noncomputable def runS3 (P : Params) (sort t : Int) (ab : Bool) (KK : List (Str × V) → Hp → Nat → Prop) (KR : V → Hp → Nat → Prop) (X : KX) (c : Str × Prof) : Prop :=
  vcSs (tab2 P) 60 (scOf P 416) (pcs P 4 5) ⟨loc2 sort t ab c.1 c.2, cel4, celH (some (.ref 104)) none ++ typH c.2.ts, 105⟩ (finS 105 121 [100, 101, 102, 103, 104] (nmsS c.2) subTags lnm2 [] KK KR) X
noncomputable def outS3 (sort t : Int) (ab : Bool) (KK : List (Str × V) → Hp → Nat → Prop) (c : Str × Prof) : Prop :=
  KK (loc3 sort t ab c.1 c.2) (celH (some (.ref 104)) none ++ typH c.2.ts ++ (subH c.1 (s "") c.2 120 ++ [(120, .list [])]) ++ entN 116 c.1 t) 121
noncomputable def scfgs : List (Str × Prof) := nmL.flatMap fun nm => profs.map fun p => (nm, p)
theorem run_S3 (P : Params) (sort t : Int) (ab : Bool) (KK : List (Str × V) → Hp → Nat → Prop) (KR : V → Hp → Nat → Prop) (X : KX) : scfgs.map (runS3 P sort t ab KK KR X) = scfgs.map (outS3 sort t ab KK) := by kernel_rfl
end Mine
namespace Mine
theorem map_cut {α β : Type} {f g : α → β} {l : List α} (n : Nat) (h1 : (l.take n).map f = (l.take n).map g) (h2 : (l.drop n).map f = (l.drop n).map g) : l.map f = l.map g := by
  have e : ∀ k : α → β, l.map k = (l.take n).map k ++ (l.drop n).map k := fun k => by rw [← List.map_append, List.take_append_drop]
  rw [e f, e g, h1, h2]
noncomputable def eN (i : Nat) : Nat := 40 + 6 * i
noncomputable def idx : List Nat → Nat → Nat → Nat
  | [], _, i => i
  | y :: r, x, i => match Nat.beq y x with
    | true => i
    | false => idx r x (i + 1)
noncomputable def lisN (hs : List Nat) (x : Nat) : Nat := 44 + 6 * idx hs x 0
noncomputable def presOf (hs : List Nat) : List Nat := match memN hs 0, memN hs 1 with
  | true, true => [0, 1]
  | true, false => [0]
  | false, true => [1]
  | false, false => []
noncomputable def ofNm : List Nat → Nat → Nat → List Nat
  | [], _, _ => []
  | y :: r, x, i => match Nat.beq y x with
    | true => i :: ofNm r x (i + 1)
    | false => ofNm r x (i + 1)
noncomputable def nmK : Nat → Str
  | 0 => s "go"
  | _ => s "up"
noncomputable def absOf (hs : List Nat) : List Str := match memN hs 0, memN hs 1 with
  | true, true => []
  | true, false => [s "up"]
  | false, true => [s "go"]
  | false, false => [s "go", s "up"]
noncomputable def namesO (ln : Nat → Nat) (hs : List Nat) : O := .pdict ((presOf hs).map fun x => (nmK x, .ref (ln x))) (absOf hs) (2 + (presOf hs).length)
noncomputable def cntO (hs : List Nat) : O := .pdict ((presOf hs).map fun x => (nmK x, .int ((ofNm hs x 0).length : Nat))) (absOf hs) (2 + (presOf hs).length)
noncomputable def rootD (made : Int) : O := .pdict [(s "kind", .str (s "root")), (s "made", .int made), (s "counts", .ref 18), (s "type_homes", .ref 19)] [] 30
noncomputable def isSub : Nat → Bool
  | 2 => true
  | _ => false
noncomputable def coreH (en ln : Nat → Nat) (kd : Nat) (part : Str) (ord : List Nat) (hs : List Nat) : Hp := [(11, .inst 234 12), (12, placeD (kdOf kd) part), (13, .inst 234 17), (17, rootD (5 + hs.length : Nat)), (18, cntO (match isSub kd with | true => [] | false => hs)), (16, cntO (match isSub kd with | true => hs | false => [])), (14, namesO ln hs), (15, .olist ((ord ++ (List.range hs.length).map en).map .ref))]
noncomputable def lisH (en ln : Nat → Nat) (hs ys : List Nat) : Hp := ys.map fun y => (ln y, .olist ((ofNm hs y 0).map fun i => .ref (en i)))
noncomputable def oldE (i x : Nat) : Hp := [(eN i, .inst 183 (eN i + 1)), (eN i + 1, .pdict [(s "kind", .str (s "sub")), (s "name", .str (nmK x)), (s "key", .ref (eN i + 2)), (s "is_complete", .bool true), (s "is_implicit", .bool false), (s "is_overridden", .bool false)] [] 30), (eN i + 2, .tup [.ref (eN i + 3), .int (-1)]), (eN i + 3, .tup [.int (i : Nat)])]
noncomputable def histE : List Nat → Nat → Hp
  | [], _ => []
  | x :: r, i => oldE i x ++ histE r (i + 1)
noncomputable def scH (l : V) : Hp := [(32, .inst 162 33), (33, .pdict [(s "place", .ref 11), (s "line", l)] [] 30)]
noncomputable def entX (nm un : Str) (t : Nat) (num : Int) (home : V) (part : Str) (rdy : Bool) : Hp := [(116, .inst 183 117), (117, entD nm un (fun _ => .none) (fun t => .int (20 + t)) t num home part rdy 118), (118, .tup [.ref 119, .int (-1)]), (119, .tup [.int t])]
noncomputable def entQ (nm : Str) (un num : V) : O := .pdict [(s "kind", .str (s "sub")), (s "name", .str nm), (s "key", .ref 118), (s "number", num), (s "unique", un), (s "is_complete", .bool true), (s "is_implicit", .bool false), (s "is_overridden", .bool false)] [] 30
noncomputable def entY (nm : Str) (un num : V) (t : Nat) : Hp := [(116, .inst 183 117), (117, entQ nm un num), (118, .tup [.ref 119, .int (-1)]), (119, .tup [.int t])]
noncomputable def entTags2 : List Str := names ["kind", "name", "key", "number", "unique", "is_complete", "is_implicit", "is_overridden"]
noncomputable def uqS (x c : Nat) : Str := match c with
  | 0 => nmK x
  | c + 1 => nmK x ++ (s "#" ++ Str.ofString (toString (c + 1)))
noncomputable def loc4 (sort t : Int) (ab : Bool) (nm : Str) (r : V) : List (Str × V) := loc1 sort t nm ++ [(s "is_abstract", .sb ab), (s "sub", .ref 105), (s "entity", .ref 116), (s "result", r)]
noncomputable def lnm4 : List Str := lnm0 ++ names ["name", "is_abstract", "sub", "entity"]
noncomputable def lisX (hs : List Nat) (y : Nat) : Nat := match memN hs y with
  | true => lisN hs y
  | false => 121
noncomputable def enX (t i : Nat) : Nat := match Nat.beq i t with
  | true => 116
  | false => eN i
noncomputable def hists : List (List Nat) := [[], [0], [1], [0, 0], [0, 1], [1, 0], [1, 1], [0, 0, 0], [0, 0, 1], [0, 1, 0], [0, 1, 1], [1, 0, 0], [1, 0, 1], [1, 1, 0], [1, 1, 1]]
noncomputable def ords : List (List Nat) := [[], [24], [28], [24, 28], [28, 24]]
structure DCfg where
  kd : Nat
  ord : List Nat
  hs : List Nat
  x : Nat
noncomputable def declTags (hs : List Nat) (x kd : Nat) : List (Nat × Tg) := [(33, .pd (names ["place", "line"]) [] 30), (12, .pd (names ["kind", "number", "part", "root", "parent", "names", "counts", "order"]) [] 30), (17, .pd (names ["kind", "made", "counts", "type_homes"]) [] 30), (14, .pd ((presOf (hs ++ [x])).map nmK) (absOf (hs ++ [x])) (2 + (presOf (hs ++ [x])).length)), (match isSub kd with | true => 16 | false => 18, .pd ((presOf (hs ++ [x])).map nmK) (absOf (hs ++ [x])) (2 + (presOf (hs ++ [x])).length)), (121, .ol), (117, .pd entTags2 [] 30)]
noncomputable def declIn (l : V) (part : Str) (c : DCfg) : Hp := scH l ++ coreH eN (lisN c.hs) c.kd part c.ord c.hs ++ lisH eN (lisN c.hs) c.hs (presOf c.hs) ++ histE c.hs 0 ++ entX (nmK c.x) (s "") c.hs.length 0 .none (s "") false
noncomputable def declOut (l : V) (part : Str) (c : DCfg) : Hp := scH l ++ coreH (enX c.hs.length) (lisX c.hs) c.kd part c.ord (c.hs ++ [c.x]) ++ lisH (enX c.hs.length) (lisX c.hs) (c.hs ++ [c.x]) (presOf c.hs) ++ histE c.hs 0 ++ entY (nmK c.x) (.str (uqS c.x (ofNm c.hs c.x 0).length)) (.int (6 + c.hs.length : Nat)) c.hs.length ++ (match memN c.hs c.x with | true => [] | false => [(121, .olist [.ref 116])])
noncomputable def declRun (P : Params) (sort : Int) (ab : Bool) (r l : V) (part : Str) (KK : List (Str × V) → Hp → Nat → Prop) (KR : V → Hp → Nat → Prop) (X : KX) (c : DCfg) : Prop :=
  vcSs (tab2 P) 60 (scOf P 416) (pcs P 9 1) ⟨loc4 sort c.hs.length ab (nmK c.x) r, cel4, declIn l part c, 121⟩ (finS 121 122 ((declIn .none part c).map (·.1)) [121] (declTags c.hs c.x c.kd) lnm4 [s "result"] KK KR) X
noncomputable def declLen (c : DCfg) (k : Prop) : Prop := match memN c.hs c.x with
  | true => (ofNm c.hs c.x 0).length ≤ 1000 ∧ c.ord.length + c.hs.length ≤ 1000 ∧ k
  | false => c.ord.length + c.hs.length ≤ 1000 ∧ k
noncomputable def declEnd (sort : Int) (ab : Bool) (r l : V) (part : Str) (KK : List (Str × V) → Hp → Nat → Prop) (c : DCfg) : Prop := declLen c (ltP 121 [r] (KK (loc4 sort c.hs.length ab (nmK c.x) r) (declOut l part c) 122))
end Mine
namespace Mine
noncomputable def dcfgs : List DCfg := [0, 2, 3].flatMap fun kd => ords.flatMap fun ord => hists.flatMap fun hs => [0, 1].map fun x => ⟨kd, ord, hs, x⟩
theorem decl_r_a (P : Params) (sort : Int) (ab : Bool) (r : V) (l : Int) (part : Str) (KK : List (Str × V) → Hp → Nat → Prop) (KR : V → Hp → Nat → Prop) (X : KX) : ((dcfgs).take 113).map (declRun P sort ab r (.si l) part KK KR X) = ((dcfgs).take 113).map (declEnd sort ab r (.si l) part KK) := by kernel_rfl
theorem decl_r_b (P : Params) (sort : Int) (ab : Bool) (r : V) (l : Int) (part : Str) (KK : List (Str × V) → Hp → Nat → Prop) (KR : V → Hp → Nat → Prop) (X : KX) : (((dcfgs).drop 113).take 113).map (declRun P sort ab r (.si l) part KK KR X) = (((dcfgs).drop 113).take 113).map (declEnd sort ab r (.si l) part KK) := by kernel_rfl
theorem decl_r_c (P : Params) (sort : Int) (ab : Bool) (r : V) (l : Int) (part : Str) (KK : List (Str × V) → Hp → Nat → Prop) (KR : V → Hp → Nat → Prop) (X : KX) : ((((dcfgs).drop 113).drop 113).take 113).map (declRun P sort ab r (.si l) part KK KR X) = ((((dcfgs).drop 113).drop 113).take 113).map (declEnd sort ab r (.si l) part KK) := by kernel_rfl
theorem decl_r_d (P : Params) (sort : Int) (ab : Bool) (r : V) (l : Int) (part : Str) (KK : List (Str × V) → Hp → Nat → Prop) (KR : V → Hp → Nat → Prop) (X : KX) : ((((dcfgs).drop 113).drop 113).drop 113).map (declRun P sort ab r (.si l) part KK KR X) = ((((dcfgs).drop 113).drop 113).drop 113).map (declEnd sort ab r (.si l) part KK) := by kernel_rfl
theorem decl_runs (P : Params) (sort : Int) (ab : Bool) (r : V) (l : Int) (part : Str) (KK : List (Str × V) → Hp → Nat → Prop) (KR : V → Hp → Nat → Prop) (X : KX) : dcfgs.map (declRun P sort ab r (.si l) part KK KR X) = dcfgs.map (declEnd sort ab r (.si l) part KK) := map_cut 113 (decl_r_a ..) (map_cut 113 (decl_r_b ..) (map_cut 113 (decl_r_c ..) (decl_r_d ..)))
end Mine
namespace Mine
noncomputable def tryBody : List Stmt → List Stmt
  | [.Try b _ _ _ _] => b
  | _ => []
structure PIn where
  w : Bool
  made : Int
  kd : Str
  pt : Str
  b0 : Bool
  b1 : Bool
  q0 : Str
  q1 : Str
  a0 : Bool
  a1 : Bool
  kv0 : List (Str × Str)
  kv1 : List (Str × Str)
noncomputable def homeV (b : Bool) : V := .either b 11 22
noncomputable def othH (w : Bool) : Hp := match w with
  | true => [(22, .inst 234 23), (23, .pdict [(s "number", .int 2)] [] 30)]
  | false => []
noncomputable def primH0 (l : Int) (i : PIn) : Hp := [(32, .inst 162 33), (33, .pdict [(s "place", .ref 11), (s "line", .si l)] [] 30), (11, .inst 234 12), (12, .pdict [(s "kind", .ss i.kd), (s "number", .int 3), (s "part", .ss i.pt), (s "root", .ref 13), (s "parent", .ref 13), (s "names", .ref 14), (s "counts", .ref 16), (s "order", .ref 15)] [] 30), (13, .inst 234 17), (17, .pdict [(s "kind", .str (s "root")), (s "made", .si i.made), (s "counts", .ref 18), (s "type_homes", .ref 19)] [] 30), (19, .pidict [(80, .ref 20), (81, .ref 21)]), (20, .tup [homeV i.b0, .ss i.q0]), (21, .tup [homeV i.b1, .ss i.q1])] ++ othH i.w ++ [
  (3, .inst 316 4), (4, tyD (s "a") 80 i.a0 5), (7, .inst 316 8), (8, tyD (s "b") 81 i.a1 9)]
noncomputable def opsH (kv0 kv1 : List (Str × Str)) : Hp := [(5, .odict kv0), (9, .odict kv1)]
noncomputable def entP (nm un : Str) (num : Int) : Hp := [(116, .inst 183 117), (117, entQ nm (.ss un) (.si num))]
noncomputable def primIn (l num : Int) (un : Str) (i : PIn) (c : Str × Prof) : Hp := primH0 l i ++ opsH i.kv0 i.kv1 ++ nTy ++ subH c.1 (s "") c.2 120 ++ [(120, .list [])] ++ entP c.1 un num
noncomputable def loc5 (sort t : Int) (ab : Bool) (nm : Str) (r : V) : List (Str × V) := loc1 sort t nm ++ [(s "is_abstract", .sb ab), (s "sub", .ref 105), (s "entity", .ref 116), (s "owners", .ref 122), (s "due", .ref 123), (s "result", r)]
noncomputable def lnm5 : List Str := lnm0 ++ names ["name", "is_abstract", "sub", "entity", "owners", "due"]
noncomputable def tagP (w : Bool) (b : Nat → Bool) : List Nat → List Nat → (List Nat → Prop) → Prop
  | [], f, k => k f
  | i :: r, f, k => match Nat.beq i 2 with
    | true => tagP w b r f k
    | false => (b i = true → (match memN f i with
      | true => tagP w b r f k
      | false => tagP w b r (f ++ [i]) k)) ∧ (b i = false → (match w with
      | true => tagP w b r f k
      | false => False))
noncomputable def filP (pe hs : Nat → Bool) : List Nat → List Nat → (List Nat → Prop) → Prop
  | [], f, k => k f
  | i :: r, f, k => (pe i = true → (hs i = true → filP pe hs r (f ++ [i]) k) ∧ (hs i = false → filP pe hs r f k)) ∧ (pe i = false → filP pe hs r f k)
noncomputable def un1 (nm : Str) (num : Int) : Str := nm ++ s "#" ++ Str.ofString (toString num)
noncomputable def sideP (nm : Str) (num : Int) (k : Prop) : Prop :=
  num.natAbs ≤ 1000000 ∧ (nm ++ s "#").length + (Str.ofString (toString num)).length ≤ 16777216 ∧ (un1 nm num).length + (s "#").length ≤ 16777216 ∧ (un1 nm num ++ s "#").length + (s "0").length ≤ 16777216 ∧ k
noncomputable def unq (nm : Str) (num : Int) : Str := un1 nm num ++ s "#" ++ s "0"
noncomputable def ctlL : List Nat → Nat → Nat → List V
  | [], _, _ => []
  | i :: r, t, n => match Nat.beq i t with
    | true => .int (n : Nat) :: ctlL r t (n + 1)
    | false => ctlL r t (n + 1)
noncomputable def opsP (i : PIn) (j : Nat) (key v : Str) (k : Hp → Prop) : Prop := match j with
  | 0 => (putS i.kv0 key v).length ≤ 60 ∧ k (opsH (putS i.kv0 key v) i.kv1)
  | _ => (putS i.kv1 key v).length ≤ 60 ∧ k (opsH i.kv0 (putS i.kv1 key v))
noncomputable def primEnd (l num : Int) (un : Str) (ab : Bool) (i : PIn) (c : Str × Prof) (k : Hp → Prop) (x : Hp → Prop) (row : List Nat) : Prop := match row with
  | [] => k (primIn l num un i c)
  | [j] => sideP c.1 num ((ab = true → opsP i j (keyOf c.1 c.2 j) (s "") fun o => k (primH0 l i ++ o ++ nTy ++ subH c.1 (keyOf c.1 c.2 j) c.2 126 ++ [(120, .list [])] ++ entP c.1 (unq c.1 num) num ++ [(126, .list (ctlL c.2.ts j 0))])) ∧
      (ab = false → opsP i j (keyOf c.1 c.2 j) (unq c.1 num) fun o => k (primH0 l i ++ o ++ nTy ++ subH c.1 (keyOf c.1 c.2 j) c.2 126 ++ [(120, .list [])] ++ entP c.1 (unq c.1 num) num ++ [(126, .list (ctlL c.2.ts j 0))])))
  | _ => x (primIn l num un i c)
noncomputable def notPk (i : PIn) : Bool := !Fast.sEq i.kd (s "package")
noncomputable def primP (i : PIn) (c : Str × Prof) (k : List Nat → Prop) : Prop :=
  tagP i.w (sel i.b0 i.b1) c.2.els [] fun row =>
    let f := filP (sel (Fast.sEq i.q0 i.pt) (Fast.sEq i.q1 i.pt)) (hasK c.1 c.2 i.kv0 i.kv1) row [] k
    (notPk i = true → f) ∧ (notPk i = false → (Fast.sEq i.pt (s "body") = true → f) ∧ (Fast.sEq i.pt (s "body") = false → k row))
noncomputable def runP (P : Params) (sort t l num : Int) (un : Str) (ab : Bool) (r : V) (i : PIn) (KK : List (Str × V) → Hp → Nat → Prop) (KR : V → Hp → Nat → Prop) (X : Int → List (Str × V) → Hp → Nat → Prop) (c : Str × Prof) : Prop :=
  vcSs (tab2 P) 60 (scOf P 416) (tryBody (pcs P 13 1)) ⟨loc5 sort t ab c.1 r, cel4, primIn l num un i c, 126⟩ (finS 126 127 ((primIn l num un i c).map (·.1)) [126] [] lnm5 [s "result"] KK KR)
    fun l σ2 => finX 126 127 ((primIn l num un i c).map (·.1)) [126] [] lnm5 [s "result"] (X l) σ2
noncomputable def outP (sort t l num : Int) (un : Str) (ab : Bool) (r : V) (i : PIn) (KK : List (Str × V) → Hp → Nat → Prop) (X : Int → List (Str × V) → Hp → Nat → Prop) (c : Str × Prof) : Prop :=
  primP i c (primEnd l num un ab i c (fun H => ltP 126 [r] (KK (loc5 sort t ab c.1 r) H 127)) fun H => ltP 126 [r] (X l (loc5 sort t ab c.1 r) H 127))
end Mine
namespace Mine
noncomputable def pinW (i : PIn) (w : Bool) : PIn := ⟨w, i.made, i.kd, i.pt, i.b0, i.b1, i.q0, i.q1, i.a0, i.a1, i.kv0, i.kv1⟩
theorem prim_t_a (P : Params) (sort t l num : Int) (un : Str) (ab : Bool) (r : V) (i0 : PIn) (KK : List (Str × V) → Hp → Nat → Prop) (KR : V → Hp → Nat → Prop) (X : Int → List (Str × V) → Hp → Nat → Prop) : ((scfgs).take 24).map (runP P sort t l num un ab r (pinW i0 true) KK KR X) = ((scfgs).take 24).map (outP sort t l num un ab r (pinW i0 true) KK X) := by kernel_rfl
theorem prim_t_b (P : Params) (sort t l num : Int) (un : Str) (ab : Bool) (r : V) (i0 : PIn) (KK : List (Str × V) → Hp → Nat → Prop) (KR : V → Hp → Nat → Prop) (X : Int → List (Str × V) → Hp → Nat → Prop) : (((scfgs).drop 24).take 24).map (runP P sort t l num un ab r (pinW i0 true) KK KR X) = (((scfgs).drop 24).take 24).map (outP sort t l num un ab r (pinW i0 true) KK X) := by kernel_rfl
theorem prim_t_c (P : Params) (sort t l num : Int) (un : Str) (ab : Bool) (r : V) (i0 : PIn) (KK : List (Str × V) → Hp → Nat → Prop) (KR : V → Hp → Nat → Prop) (X : Int → List (Str × V) → Hp → Nat → Prop) : (((scfgs).drop 24).drop 24).map (runP P sort t l num un ab r (pinW i0 true) KK KR X) = (((scfgs).drop 24).drop 24).map (outP sort t l num un ab r (pinW i0 true) KK X) := by kernel_rfl
theorem prim_f_a (P : Params) (sort t l num : Int) (un : Str) (ab : Bool) (r : V) (i0 : PIn) (KK : List (Str × V) → Hp → Nat → Prop) (KR : V → Hp → Nat → Prop) (X : Int → List (Str × V) → Hp → Nat → Prop) : ((scfgs).take 24).map (runP P sort t l num un ab r (pinW i0 false) KK KR X) = ((scfgs).take 24).map (outP sort t l num un ab r (pinW i0 false) KK X) := by kernel_rfl
theorem prim_f_b (P : Params) (sort t l num : Int) (un : Str) (ab : Bool) (r : V) (i0 : PIn) (KK : List (Str × V) → Hp → Nat → Prop) (KR : V → Hp → Nat → Prop) (X : Int → List (Str × V) → Hp → Nat → Prop) : (((scfgs).drop 24).take 24).map (runP P sort t l num un ab r (pinW i0 false) KK KR X) = (((scfgs).drop 24).take 24).map (outP sort t l num un ab r (pinW i0 false) KK X) := by kernel_rfl
theorem prim_f_c (P : Params) (sort t l num : Int) (un : Str) (ab : Bool) (r : V) (i0 : PIn) (KK : List (Str × V) → Hp → Nat → Prop) (KR : V → Hp → Nat → Prop) (X : Int → List (Str × V) → Hp → Nat → Prop) : (((scfgs).drop 24).drop 24).map (runP P sort t l num un ab r (pinW i0 false) KK KR X) = (((scfgs).drop 24).drop 24).map (outP sort t l num un ab r (pinW i0 false) KK X) := by kernel_rfl
theorem prim_wt (P : Params) (sort t l num : Int) (un : Str) (ab : Bool) (r : V) (i0 : PIn) (KK : List (Str × V) → Hp → Nat → Prop) (KR : V → Hp → Nat → Prop) (X : Int → List (Str × V) → Hp → Nat → Prop) : scfgs.map (runP P sort t l num un ab r (pinW i0 true) KK KR X) = scfgs.map (outP sort t l num un ab r (pinW i0 true) KK X) := map_cut 24 (prim_t_a ..) (map_cut 24 (prim_t_b ..) (prim_t_c ..))
theorem prim_wf (P : Params) (sort t l num : Int) (un : Str) (ab : Bool) (r : V) (i0 : PIn) (KK : List (Str × V) → Hp → Nat → Prop) (KR : V → Hp → Nat → Prop) (X : Int → List (Str × V) → Hp → Nat → Prop) : scfgs.map (runP P sort t l num un ab r (pinW i0 false) KK KR X) = scfgs.map (outP sort t l num un ab r (pinW i0 false) KK X) := map_cut 24 (prim_f_a ..) (map_cut 24 (prim_f_b ..) (prim_f_c ..))
theorem prim_runs (P : Params) (sort t l num : Int) (un : Str) (ab : Bool) (r : V) (i0 : PIn) (KK : List (Str × V) → Hp → Nat → Prop) (KR : V → Hp → Nat → Prop) (X : Int → List (Str × V) → Hp → Nat → Prop) : [true, false].map (fun w => scfgs.map (runP P sort t l num un ab r (pinW i0 w) KK KR X)) = [true, false].map fun w => scfgs.map (outP sort t l num un ab r (pinW i0 w) KK X) := by
  exact List.cons_eq_cons.mpr ⟨prim_wt P sort t l num un ab r i0 KK KR X, List.cons_eq_cons.mpr ⟨prim_wf P sort t l num un ab r i0 KK KR X, rfl⟩⟩
end Mine
namespace Mine
noncomputable def tyPH (b : Nat) (nm : Str) (num : Int) (home : Int) (ab : Bool) (kv : List (Str × Str)) : Hp := [(b, .tup [.ref (b + 1), .si home]), (b + 1, .inst 316 (b + 2)), (b + 2, tyD nm num ab (b + 3)), (b + 3, .odict kv)]
noncomputable def twoH (h0 h1 : Int) (ab0 ab1 : Bool) (kv0 kv1 : List (Str × Str)) : Hp := (10, .list [.ref 2, .ref 6]) :: tyPH 2 (s "a") 80 h0 ab0 kv0 ++ tyPH 6 (s "b") 81 h1 ab1 kv1
noncomputable def owH (h0 h1 : Int) (ab0 ab1 : Bool) (kv0 kv1 : List (Str × Str)) (p : Prof) : Hp := celH (some (.ref 104)) none ++ twoH h0 h1 ab0 ab1 kv0 kv1 ++ nTy ++ typH p.ts
noncomputable def loc4b (sv : V) (t : Int) (ab : Bool) (nm : Str) (p : Prof) : List (Str × V) := [(s "scope", .ref 32), (s "sort", sv), (s "told", .ref 10), (s "turn", .si t), (s "name", .str nm), (s "is_abstract", .sb ab), (s "sub", .ref 105), (s "entity", .ref 116)]
noncomputable def ownRun2 (P : Params) (t h0 h1 : Int) (ab ab0 ab1 : Bool) (kv0 kv1 : List (Str × Str)) (KK : List (Str × V) → Hp → Nat → Prop) (KR : V → Hp → Nat → Prop) (X : KX) (c : Nat × Str × Prof) : Prop :=
  vcSs (tab2 P) 60 (scOf P 416) (pcs P 10 1) ⟨loc4b (.int c.1) t ab c.2.1 c.2.2 ++ [(s "result", resV c.2.2.res)], cel4, owH h0 h1 ab0 ab1 kv0 kv1 c.2.2, 122⟩ (finS 122 123 ((owH h0 h1 ab0 ab1 kv0 kv1 c.2.2).map (·.1)) [122] [] (lnm4 ++ names ["owners", "result"]) [] KK KR) X
noncomputable def ownOut2 (t h0 h1 : Int) (ab ab0 ab1 : Bool) (kv0 kv1 : List (Str × Str)) (KK : List (Str × V) → Hp → Nat → Prop) (c : Nat × Str × Prof) : Prop :=
  ownP c.1 (sel (ltInt 0 h0) (ltInt 0 h1)) (sel (eqInt h0 2) (eqInt h1 2)) (hasK c.2.1 c.2.2 kv0 kv1) c.2.2.els [] fun f => KK (loc4b (.int c.1) t ab c.2.1 c.2.2 ++ [(s "owners", .ref 122), (s "result", resV c.2.2.res)]) (owH h0 h1 ab0 ab1 kv0 kv1 c.2.2 ++ [(122, .list (f.map fun i => .ref (tyA i)))]) 123
noncomputable def loc4c (sort t : Int) (ab : Bool) (nm : Str) (r : V) : List (Str × V) := loc4b (.si sort) t ab nm ⟨[], none⟩ ++ [(s "owners", .ref 122), (s "result", r)]
noncomputable def dueIn (l : Int) (ab0 ab1 : Bool) (kv0 kv1 : List (Str × Str)) : Hp := scH (.si l) ++ celH (some (.ref 104)) none ++ kinH ++ [(3, .inst 316 4), (4, tyD (s "a") 80 ab0 5), (5, .odict kv0), (7, .inst 316 8), (8, tyD (s "b") 81 ab1 9), (9, .odict kv1)]
noncomputable def dueRun (P : Params) (sort t l : Int) (ab ab0 ab1 : Bool) (nm : Str) (r : V) (kv0 kv1 : List (Str × Str)) (KK : List (Str × V) → Hp → Nat → Prop) (KR : V → Hp → Nat → Prop) (X : KX) : Prop :=
  vcSs (tab2 P) 60 (scOf P 416) (pcs P 11 2) ⟨loc4c sort t ab nm r, cel4, dueIn l ab0 ab1 kv0 kv1, 123⟩ (finS 123 126 ((dueIn l ab0 ab1 kv0 kv1).map (·.1)) [123, 124, 125] [] lnm5 [s "result"] KK KR) X
noncomputable def dueOut (sort t l : Int) (ab ab0 ab1 : Bool) (nm : Str) (r : V) (kv0 kv1 : List (Str × Str)) (KK : List (Str × V) → Hp → Nat → Prop) : Prop :=
  ltP 123 [r] (KK (loc5 sort t ab nm r) (dueIn (40 + t) ab0 ab1 kv0 kv1 ++ [(123, .list [.ref 124, .ref 125]), (124, .odict kv0), (125, .odict kv1)]) 126)
end Mine
namespace Mine
noncomputable def dicH (ab0 ab1 : Bool) (kv0 kv1 : List (Str × Str)) : Hp := [(3, .inst 316 4), (4, tyD (s "a") 80 ab0 5), (5, .odict kv0), (7, .inst 316 8), (8, tyD (s "b") 81 ab1 9), (9, .odict kv1)]
noncomputable def due2H (kv0 kv1 : List (Str × Str)) : Hp := [(123, .list [.ref 124, .ref 125]), (124, .odict kv0), (125, .odict kv1)]
noncomputable def resD (r : Option Nat) : V := resR r
noncomputable def subDH (nm op : Str) (r : Option Nat) (ctl : Nat) : Hp := [(105, .inst 141 106), (106, subDc nm op r ctl)]
noncomputable def endIn0 (ab0 ab1 : Bool) (kv0 kv1 : List (Str × Str)) (nm : Str) (r : Option Nat) : Hp := kinH ++ dicH ab0 ab1 kv0 kv1 ++ celH (some (.ref 104)) none ++ subDH nm (s "") r 120 ++ [(120, .list []), (122, .list [])] ++ due2H kv0 kv1
noncomputable def endRun0 (P : Params) (sort t : Int) (ab ab0 ab1 : Bool) (kv0 kv1 : List (Str × Str)) (rv : V) (KK : List (Str × V) → Hp → Nat → Prop) (KR : V → Hp → Nat → Prop) (X : KX) (c : Str × Option Nat) : Prop :=
  vcSs (tab2 P) 60 (scOf P 416) (pcs P 14 7) ⟨loc5 sort t ab c.1 rv, cel4, endIn0 ab0 ab1 kv0 kv1 c.1 c.2, 127⟩ (finS 127 128 ((endIn0 ab0 ab1 kv0 kv1 c.1 c.2).map (·.1)) [127] [] [] [] KK KR) X
noncomputable def endOut0 (ab0 ab1 : Bool) (kv0 kv1 : List (Str × Str)) (KR : V → Hp → Nat → Prop) (c : Str × Option Nat) : Prop :=
  (kv0 = kv0 ∧ kv1 = kv1) ∧ KR (.ref 127) (endIn0 ab0 ab1 kv0 kv1 c.1 c.2 ++ [(127, .tup [.bool true, .bool true])]) 128
noncomputable def put2 (j : Nat) (key v : Str) (kv0 kv1 : List (Str × Str)) (k : List (Str × Str) → List (Str × Str) → Hp) : Hp := match j with
  | 0 => k (putS kv0 key v) kv1
  | _ => k kv0 (putS kv1 key v)
noncomputable def endIn1 (du : Hp) (tv : Option V) (num : Int) (un : Str) (v : Str) (ab0 ab1 : Bool) (kv0 kv1 : List (Str × Str)) (c : Str × Prof × Nat) : Hp :=
  kinH ++ put2 c.2.2 (keyOf c.1 c.2.1 c.2.2) v kv0 kv1 (dicH ab0 ab1) ++ nTy ++ celH (some (.ref 104)) tv ++ typH c.2.1.ts ++ subDH c.1 (keyOf c.1 c.2.1 c.2.2) c.2.1.res 126 ++ [(126, .list (ctlL c.2.1.ts c.2.2 0)), (122, .list [.ref (tyA c.2.2)])] ++ du ++ [(116, .inst 183 117), (117, entQ c.1 (.ss un) (.si num))]
noncomputable def vOf (un : Str) (ab : Bool) : Str := match ab with
  | true => s ""
  | false => un
noncomputable def eq2 (j : Nat) (key v : Str) (kv0 kv1 : List (Str × Str)) (k : Prop) : Prop := match j with
  | 0 => (putS kv0 key v).length ≤ 60 ∧ (putS kv0 key v = putS kv0 key v ∧ kv1 = kv1) ∧ k
  | _ => (putS kv1 key v).length ≤ 60 ∧ (kv0 = kv0 ∧ putS kv1 key v = putS kv1 key v) ∧ k
noncomputable def loc5b (sort t : Int) (ab : Bool) (nm : Str) (r : V) : List (Str × V) := loc1 sort t nm ++ [(s "is_abstract", .bool ab), (s "sub", .ref 105), (s "entity", .ref 116), (s "owners", .ref 122), (s "due", .ref 123), (s "result", r)]
noncomputable def endRun1 (P : Params) (sort t num : Int) (un : Str) (ab ab0 ab1 : Bool) (kv0 kv1 : List (Str × Str)) (KK : List (Str × V) → Hp → Nat → Prop) (KR : V → Hp → Nat → Prop) (X : KX) (c : Str × Prof × Nat) : Prop :=
  vcSs (tab2 P) 60 (scOf P 416) (pcs P 14 7) ⟨loc5b sort t ab c.1 (resV c.2.1.res), cel4, endIn1 (due2H kv0 kv1) none num un (vOf un ab) ab0 ab1 kv0 kv1 c, 127⟩ (finS 127 128 ((endIn1 (due2H kv0 kv1) none num un (vOf un ab) ab0 ab1 kv0 kv1 c).map (·.1)) [127] [] [] [] KK KR) X
noncomputable def endOut1 (num : Int) (un : Str) (ab ab0 ab1 : Bool) (kv0 kv1 : List (Str × Str)) (KR : V → Hp → Nat → Prop) (c : Str × Prof × Nat) : Prop :=
  eq2 c.2.2 (keyOf c.1 c.2.1 c.2.2) (vOf un ab) kv0 kv1 (KR (.ref 127) (endIn1 (put2 c.2.2 (keyOf c.1 c.2.1 c.2.2) (vOf un ab) kv0 kv1 due2H) (some (.ref (tyA c.2.2))) num un (vOf un ab) ab0 ab1 kv0 kv1 c ++ [(127, .tup [.bool true, .bool true])]) 128)
noncomputable def hdlBody : List Stmt → List Stmt
  | [.Try _ [.ExceptHandler _ _ b _] _ _ _] => b
  | _ => []
noncomputable def hdlIn (t : Int) (a b : Nat) : Hp := [(122, .list [.ref a, .ref b]), (127, .pdict [(s "line", .si (40 + t))] [] 60), (128, .exc 127)]
noncomputable def loc6 (sort t : Int) (ab : Bool) (nm : Str) (r : V) : List (Str × V) := loc5 sort t ab nm r ++ [(s "fault", .ref 128)]
noncomputable def hdlRun (P : Params) (sort t : Int) (ab : Bool) (nm : Str) (r : V) (KK : List (Str × V) → Hp → Nat → Prop) (KR : V → Hp → Nat → Prop) (X : KX) (c : Nat × Nat) : Prop :=
  vcSs (tab2q P) 60 (scOf P 416) (hdlBody (pcs P 13 1)) ⟨loc6 sort t ab nm r, cel4, hdlIn t c.1 c.2, 129⟩ (finS 129 130 [122, 127, 128] [129] [] [] [] KK KR) X
noncomputable def hdlOut (t : Int) (KR : V → Hp → Nat → Prop) (c : Nat × Nat) : Prop := KR (.ref 129) (hdlIn t c.1 c.2 ++ [(129, .tup [.bool false, .sb (eqInt (40 + t) (40 + t))])]) 130
theorem hdl_runs (P : Params) (sort t : Int) (ab : Bool) (nm : Str) (r : V) (KK : List (Str × V) → Hp → Nat → Prop) (KR : V → Hp → Nat → Prop) (X : KX) : [(3, 7), (7, 3)].map (hdlRun P sort t ab nm r KK KR X) = [(3, 7), (7, 3)].map (hdlOut t KR) := by kernel_rfl
theorem due_run (P : Params) (sort t l : Int) (ab ab0 ab1 : Bool) (nm : Str) (r : V) (kv0 kv1 : List (Str × Str)) (KK : List (Str × V) → Hp → Nat → Prop) (KR : V → Hp → Nat → Prop) (X : KX) : dueRun P sort t l ab ab0 ab1 nm r kv0 kv1 KK KR X = dueOut sort t l ab ab0 ab1 nm r kv0 kv1 KK := by kernel_rfl
noncomputable def ecfg0 : List (Nat × Option Nat) := [(0, none), (0, some 0), (1, none), (1, some 0)]
theorem end_runs0 (P : Params) (sort t : Int) (ab ab0 ab1 : Bool) (kv0 kv1 : List (Str × Str)) (rv : V) (KK : List (Str × V) → Hp → Nat → Prop) (KR : V → Hp → Nat → Prop) (X : KX) :
    ecfg0.map (fun c => endRun0 P sort t ab ab0 ab1 kv0 kv1 rv KK KR X (nmK c.1, c.2)) = ecfg0.map fun c => endOut0 ab0 ab1 kv0 kv1 KR (nmK c.1, c.2) := by kernel_rfl
end Mine
namespace Mine
noncomputable def ecfg1 : List (Bool × Str × Prof × Nat) := [true, false].flatMap fun ab => nmL.flatMap fun nm => profs.flatMap fun p => ([0, 1].filter (memN p.els)).map fun j => (ab, nm, p, j)
theorem end_r_a (P : Params) (sort t num : Int) (un : Str) (ab0 ab1 : Bool) (kv0 kv1 : List (Str × Str)) (KK : List (Str × V) → Hp → Nat → Prop) (KR : V → Hp → Nat → Prop) (X : KX) : ((ecfg1).take 48).map (fun c => endRun1 P sort t num un c.1 ab0 ab1 kv0 kv1 KK KR X c.2) = ((ecfg1).take 48).map (fun c => endOut1 num un c.1 ab0 ab1 kv0 kv1 KR c.2) := by kernel_rfl
theorem end_r_b (P : Params) (sort t num : Int) (un : Str) (ab0 ab1 : Bool) (kv0 kv1 : List (Str × Str)) (KK : List (Str × V) → Hp → Nat → Prop) (KR : V → Hp → Nat → Prop) (X : KX) : (((ecfg1).drop 48).take 48).map (fun c => endRun1 P sort t num un c.1 ab0 ab1 kv0 kv1 KK KR X c.2) = (((ecfg1).drop 48).take 48).map (fun c => endOut1 num un c.1 ab0 ab1 kv0 kv1 KR c.2) := by kernel_rfl
theorem end_r_c (P : Params) (sort t num : Int) (un : Str) (ab0 ab1 : Bool) (kv0 kv1 : List (Str × Str)) (KK : List (Str × V) → Hp → Nat → Prop) (KR : V → Hp → Nat → Prop) (X : KX) : ((((ecfg1).drop 48).drop 48).take 48).map (fun c => endRun1 P sort t num un c.1 ab0 ab1 kv0 kv1 KK KR X c.2) = ((((ecfg1).drop 48).drop 48).take 48).map (fun c => endOut1 num un c.1 ab0 ab1 kv0 kv1 KR c.2) := by kernel_rfl
theorem end_r_d (P : Params) (sort t num : Int) (un : Str) (ab0 ab1 : Bool) (kv0 kv1 : List (Str × Str)) (KK : List (Str × V) → Hp → Nat → Prop) (KR : V → Hp → Nat → Prop) (X : KX) : ((((ecfg1).drop 48).drop 48).drop 48).map (fun c => endRun1 P sort t num un c.1 ab0 ab1 kv0 kv1 KK KR X c.2) = ((((ecfg1).drop 48).drop 48).drop 48).map (fun c => endOut1 num un c.1 ab0 ab1 kv0 kv1 KR c.2) := by kernel_rfl
theorem end_runs1 (P : Params) (sort t num : Int) (un : Str) (ab0 ab1 : Bool) (kv0 kv1 : List (Str × Str)) (KK : List (Str × V) → Hp → Nat → Prop) (KR : V → Hp → Nat → Prop) (X : KX) : ecfg1.map (fun c => endRun1 P sort t num un c.1 ab0 ab1 kv0 kv1 KK KR X c.2) = ecfg1.map (fun c => endOut1 num un c.1 ab0 ab1 kv0 kv1 KR c.2) := map_cut 48 (end_r_a ..) (map_cut 48 (end_r_b ..) (map_cut 48 (end_r_c ..) (end_r_d ..)))
theorem own_r_a (P : Params) (t h0 h1 : Int) (ab ab0 ab1 : Bool) (kv0 kv1 : List (Str × Str)) (KK : List (Str × V) → Hp → Nat → Prop) (KR : V → Hp → Nat → Prop) (X : KX) : ((ocfgs).take 72).map (ownRun2 P t h0 h1 ab ab0 ab1 kv0 kv1 KK KR X) = ((ocfgs).take 72).map (ownOut2 t h0 h1 ab ab0 ab1 kv0 kv1 KK) := by kernel_rfl
theorem own_r_b (P : Params) (t h0 h1 : Int) (ab ab0 ab1 : Bool) (kv0 kv1 : List (Str × Str)) (KK : List (Str × V) → Hp → Nat → Prop) (KR : V → Hp → Nat → Prop) (X : KX) : (((ocfgs).drop 72).take 72).map (ownRun2 P t h0 h1 ab ab0 ab1 kv0 kv1 KK KR X) = (((ocfgs).drop 72).take 72).map (ownOut2 t h0 h1 ab ab0 ab1 kv0 kv1 KK) := by kernel_rfl
theorem own_r_c (P : Params) (t h0 h1 : Int) (ab ab0 ab1 : Bool) (kv0 kv1 : List (Str × Str)) (KK : List (Str × V) → Hp → Nat → Prop) (KR : V → Hp → Nat → Prop) (X : KX) : ((((ocfgs).drop 72).drop 72).take 72).map (ownRun2 P t h0 h1 ab ab0 ab1 kv0 kv1 KK KR X) = ((((ocfgs).drop 72).drop 72).take 72).map (ownOut2 t h0 h1 ab ab0 ab1 kv0 kv1 KK) := by kernel_rfl
theorem own_r_d (P : Params) (t h0 h1 : Int) (ab ab0 ab1 : Bool) (kv0 kv1 : List (Str × Str)) (KK : List (Str × V) → Hp → Nat → Prop) (KR : V → Hp → Nat → Prop) (X : KX) : ((((ocfgs).drop 72).drop 72).drop 72).map (ownRun2 P t h0 h1 ab ab0 ab1 kv0 kv1 KK KR X) = ((((ocfgs).drop 72).drop 72).drop 72).map (ownOut2 t h0 h1 ab ab0 ab1 kv0 kv1 KK) := by kernel_rfl
theorem own_runs2 (P : Params) (t h0 h1 : Int) (ab ab0 ab1 : Bool) (kv0 kv1 : List (Str × Str)) (KK : List (Str × V) → Hp → Nat → Prop) (KR : V → Hp → Nat → Prop) (X : KX) : ocfgs.map (ownRun2 P t h0 h1 ab ab0 ab1 kv0 kv1 KK KR X) = ocfgs.map (ownOut2 t h0 h1 ab ab0 ab1 kv0 kv1 KK) := map_cut 72 (own_r_a ..) (map_cut 72 (own_r_b ..) (map_cut 72 (own_r_c ..) (own_r_d ..)))
end Mine
namespace Mine
noncomputable def retH (g r : Bool) (a : Nat) : Hp := [(a, .tup [.bool g, .sb r])]
noncomputable def plIn (part : Str) (un : Str) (num : Int) (c : DCfg) : Hp := coreH (enX c.hs.length) (lisX c.hs) c.kd part c.ord (c.hs ++ [c.x]) ++ lisH (enX c.hs.length) (lisX c.hs) (c.hs ++ [c.x]) (presOf c.hs) ++ histE c.hs 0 ++ entY (nmK c.x) (.ss un) (.si num) c.hs.length ++ (match memN c.hs c.x with | true => [] | false => [(121, .olist [.ref 116])])
noncomputable def nmsR (hs : List Nat) (x : Nat) : List Nat := [eN hs.length + 5] ++ (match memN hs x with | true => [] | false => [eN hs.length + 4]) ++ [eN hs.length, eN hs.length + 1, eN hs.length + 2, eN hs.length + 3]
noncomputable def plKs (part : Str) (c : DCfg) : List Nat := (coreH eN (lisN c.hs) c.kd part c.ord c.hs).map (·.1) ++ (presOf c.hs).map (lisN c.hs) ++ (histE c.hs 0).map (·.1)
noncomputable def plOut (part : Str) (c : DCfg) : Hp := let hs := c.hs ++ [c.x]
  coreH eN (lisN hs) c.kd part c.ord hs ++ lisH eN (lisN hs) hs (presOf c.hs) ++ histE c.hs 0
noncomputable def newOut (c : DCfg) : Hp := (match memN c.hs c.x with | true => [] | false => [(eN c.hs.length + 4, .olist [.ref (eN c.hs.length)])]) ++ oldE c.hs.length c.x
noncomputable def renRun (part un : Str) (num : Int) (g r : Bool) (tp : Nat) (KK : V → Hp → Nat → Prop) (c : DCfg) : Prop :=
  fin (eN c.hs.length) (eN (c.hs.length + 1)) (plKs part c) (nmsR c.hs c.x) [(eN c.hs.length + 1, .pd (names ["kind", "name", "key", "is_complete", "is_implicit", "is_overridden"]) [] 30)] KK (.ref tp) ⟨[], [], plIn part un num c ++ retH g r tp, 131⟩
noncomputable def renOut (part : Str) (g r : Bool) (KK : V → Hp → Nat → Prop) (c : DCfg) : Prop :=
  KK (.ref (eN c.hs.length + 5)) (plOut part c ++ retH g r (eN c.hs.length + 5) ++ newOut c) (eN (c.hs.length + 1))
end Mine
namespace Mine
theorem ren_runs (part un : Str) (num : Int) (g r : Bool) (KK : V → Hp → Nat → Prop) : [127, 129].map (fun tp => dcfgs.map (renRun part un num g r tp KK)) = [127, 129].map fun _ => dcfgs.map (renOut part g r KK) := by kernel_rfl
end Mine
namespace Mine
noncomputable def addL (sort : Nat) (e g : Bool) : Bool := match sort with
  | 0 => true
  | 1 => e && g
  | _ => g
noncomputable def ownL (sort : Nat) (l e g : Nat → Bool) : List Nat → List Nat → List Nat
  | [], f => f
  | i :: r, f => match !Nat.beq i 2 && l i && !memN f i && addL sort (e i) (g i) with
    | true => ownL sort l e g r (f ++ [i])
    | false => ownL sort l e g r f
theorem addP_of {sort : Nat} {e g : Bool} {A B : Prop} (h : match addL sort e g with | true => A | false => B) : addP sort e g A B := by
  match sort with
  | 0 => exact h
  | 1 => cases e with
    | false => exact ⟨fun z => (nomatch z), fun _ => by cases g <;> exact h⟩
    | true => cases g with
      | false => exact ⟨fun _ => ⟨fun z => (nomatch z), fun _ => h⟩, fun z => (nomatch z)⟩
      | true => exact ⟨fun _ => ⟨fun _ => h, fun z => (nomatch z)⟩, fun z => (nomatch z)⟩
  | n + 2 => cases g with
    | false => exact ⟨fun z => (nomatch z), fun _ => h⟩
    | true => exact ⟨fun _ => h, fun z => (nomatch z)⟩
theorem ownP_of {sort : Nat} {l e g : Nat → Bool} {k : List Nat → Prop} : ∀ {els f : List Nat}, k (ownL sort l e g els f) → ownP sort l e g els f k
  | [], f, h => h
  | i :: r, f, h => by
    unfold ownP
    unfold ownL at h
    cases q : Nat.beq i 2 with
    | true => rw [q] at h; exact ownP_of h
    | false =>
      rw [q] at h
      refine ⟨fun hl => ?_, fun hl => ?_⟩
      · rw [hl] at h
        cases m : memN f i with
        | true => rw [m] at h; exact ownP_of h
        | false =>
          rw [m] at h
          refine addP_of ?_
          have h : k (match addL sort (e i) (g i) with | true => ownL sort l e g r (f ++ [i]) | false => ownL sort l e g r f) := h
          cases z : addL sort (e i) (g i) with
          | true => rw [z] at h; exact ownP_of h
          | false => rw [z] at h; exact ownP_of h
      · rw [hl] at h; exact ownP_of h
noncomputable def tagL (b : Nat → Bool) : List Nat → List Nat → List Nat
  | [], f => f
  | i :: r, f => match !Nat.beq i 2 && b i && !memN f i with
    | true => tagL b r (f ++ [i])
    | false => tagL b r f
theorem tagP_of {w : Bool} {b : Nat → Bool} {k : List Nat → Prop} : ∀ {els f : List Nat}, (w = false → ∀ i ∈ els, Nat.beq i 2 = false → b i = true) → k (tagL b els f) → tagP w b els f k
  | [], f, _, h => h
  | i :: r, f, hw, h => by
    have hw' : w = false → ∀ i ∈ r, Nat.beq i 2 = false → b i = true := fun z j hj => hw z j (.tail _ hj)
    unfold tagP
    unfold tagL at h
    cases q : Nat.beq i 2 with
    | true => rw [q] at h; exact tagP_of hw' h
    | false =>
      rw [q] at h
      refine ⟨fun hl => ?_, fun hl => ?_⟩
      · rw [hl] at h
        cases m : memN f i with
        | true => rw [m] at h; exact tagP_of hw' h
        | false => rw [m] at h; exact tagP_of hw' h
      · cases w with
        | true => rw [hl] at h; exact tagP_of hw' h
        | false => exact nomatch hl.symm.trans (hw rfl i (.head _) q)
noncomputable def filL (pe hs : Nat → Bool) : List Nat → List Nat → List Nat
  | [], f => f
  | i :: r, f => match pe i && hs i with
    | true => filL pe hs r (f ++ [i])
    | false => filL pe hs r f
theorem filP_of {pe hs : Nat → Bool} {k : List Nat → Prop} : ∀ {els f : List Nat}, k (filL pe hs els f) → filP pe hs els f k
  | [], f, h => h
  | i :: r, f, h => by
    unfold filP
    unfold filL at h
    refine ⟨fun h1 => ⟨fun h2 => ?_, fun h2 => ?_⟩, fun h1 => ?_⟩
    · rw [h1, h2] at h; exact filP_of h
    · rw [h1, h2] at h; exact filP_of h
    · rw [h1] at h; exact filP_of h
noncomputable def rowL (np bd : Bool) (b pe hs : Nat → Bool) (els : List Nat) : List Nat := match np || bd with
  | true => filL pe hs (tagL b els []) []
  | false => tagL b els []
theorem primP_of {i : PIn} {c : Str × Prof} {k : List Nat → Prop} (hw : i.w = false → ∀ j ∈ c.2.els, Nat.beq j 2 = false → sel i.b0 i.b1 j = true)
    (h : k (rowL (notPk i) (Fast.sEq i.pt (s "body")) (sel i.b0 i.b1) (sel (Fast.sEq i.q0 i.pt) (Fast.sEq i.q1 i.pt)) (hasK c.1 c.2 i.kv0 i.kv1) c.2.els)) : primP i c k := by
  refine tagP_of hw ?_
  unfold rowL at h
  refine ⟨fun h1 => ?_, fun h1 => ⟨fun h2 => ?_, fun h2 => ?_⟩⟩
  · rw [h1] at h; exact filP_of h
  · rw [h1, h2] at h; exact filP_of h
  · rw [h1, h2] at h; exact h
noncomputable def peB (sort h : Nat) : Bool := match sort with
  | 0 => true
  | 1 => Nat.beq h 2
  | _ => true
noncomputable def lawCase (sort h0 h1 : Nat) (g0 g1 : Bool) (els : List Nat) : Bool :=
  let l := sel (Nat.blt 0 h0) (Nat.blt 0 h1)
  eqNs (ownL sort l (sel (Nat.beq h0 2) (Nat.beq h1 2)) (sel g0 g1) els []) (rowL (Nat.blt 1 sort) (!Nat.beq sort 0) l (sel (peB sort h0) (peB sort h1)) (sel g0 g1) els)
where eqNs : List Nat → List Nat → Bool
  | [], [] => true
  | a :: r, b :: q => Nat.beq a b && eqNs r q
  | _, _ => false
theorem law_cases : ∀ sort ∈ [0, 1, 2, 3], ∀ h0 ∈ [0, 1, 2], ∀ h1 ∈ [0, 1, 2], ∀ g0 ∈ [true, false], ∀ g1 ∈ [true, false], ∀ p ∈ profs, lawCase sort h0 h1 g0 g1 p.els = true := by decide +kernel
end Mine
namespace Mine
noncomputable def Cd.gr (c : Cd) (g : Heap) : Cd := { c with h₀ := g }
noncomputable def SemT (c : Cd) (t : Sem Flow) (σ : St) (KR : KV) : Prop := ∀ m ρ s (Q : Flow → Shared → Prop) (E : Value → Shared → Prop), PassesOwn (MM c.w) c.A c.env E → Rel (c.at m) ρ σ s →
  (∀ g m' ρ' σ' v u s', KtsTurn (c.outer.filterMap (·.frame)) c.h₀ g → ρ.le ρ' → Rel ((c.gr g).at m') ρ' σ' s' → Den ρ' v u → KR v σ' → Q (.ret u) s') → wpAny (MM c.w) c.A t Q E s
theorem SemT.mono {c : Cd} {t : Sem Flow} {σ : St} {K K' : KV} (h : SemT c t σ K) (k : ∀ v σ', K v σ' → K' v σ') : SemT c t σ K' := fun m ρ s Q E hE R q =>
  h m ρ s Q E hE R fun g m' ρ' σ' v u s' T le R' D z => q g m' ρ' σ' v u s' T le R' D (k _ _ z)
theorem SemT.seq {c : Cd} {a b : List Stmt} {σ : St} {K : KS} {X : KX} {KR : KV} (h : SemS c (execs a c.env) σ K X) (k : ∀ fl σ', K fl σ' → match fl with | .next => SemT c (execs b c.env) σ' KR | .ret v => KR v σ' | _ => False) (kx : ∀ l σ', X l σ' → False) : SemT c (execs (a ++ b) c.env) σ KR := fun m ρ s Q E hE R q => by
  refine wpAny_execs_append (h m ρ s _ E hE R (fun m' ρ' σ' fl w s' le R' f z => ?_) fun _ _ σ' l _ _ _ _ z => (kx l σ' z).elim)
  have z := k _ _ z
  cases f with
  | next => exact z m' ρ' s' Q E hE R' fun g m2 ρ2 σ2 v u s2 T le2 => q g m2 ρ2 σ2 v u s2 T (Rho.le_trans le le2)
  | cont => exact z.elim
  | brk => exact z.elim
  | ret d => exact q c.h₀ m' ρ' σ' _ _ s' KtsTurn.refl le R' d z
theorem SemT.of {c : Cd} {a : List Stmt} {σ : St} {K : KS} {X : KX} {KR : KV} (h : SemS c (execs a c.env) σ K X) (k : ∀ fl σ', K fl σ' → match fl with | .ret v => KR v σ' | _ => False) (kx : ∀ l σ', X l σ' → False) : SemT c (execs a c.env) σ KR := fun m ρ s Q E hE R q => by
  refine h m ρ s _ E hE R (fun m' ρ' σ' fl w s' le R' f z => ?_) fun _ _ σ' l _ _ _ _ z => (kx l σ' z).elim
  have z := k _ _ z
  cases f with
  | next => exact z.elim
  | cont => exact z.elim
  | brk => exact z.elim
  | ret d => exact q c.h₀ m' ρ' σ' _ _ s' KtsTurn.refl le R' d z
theorem name_goesX {M : Model} {A : Around} {s : Shared} {h₀ : Heap} {L : Addr} {m : Str → Option Value} {E : Value → Shared → Prop} {env : Env} {news : List (Addr × Obj)} {n : Str} {pos : Pos} {Q : Unit → Shared → Prop} (F : Fr h₀ L s.heap m) (N : News h₀ L s.heap news) (hL : env.locals = L)
    (hk : (env.scope.kind == .class || (env.scope.kind == .module && env.locals != env.globals)) = false) (hl : env.kindOf n = some .local)
    (h : ∀ h' v, Fr h₀ L h' (fun x => if x = n then v else m x) → News h₀ L h' news → Q () { s with heap := h', toks := s.toks + 1 }) :
    wpAny M A (do bindName env n .none; unbindBehindTheSuite env n pos) Q E s := by
  subst hL
  exact wpAny_nameGoes_keeps hl F.ns hk fun h' v hn hs => h h' v (F.set hn hs) (N.set hs)
structure Fx (c : Cd) : Prop where
  f : Fk c
  A : c.A = c.A₀.deeper c.env
  ex : ∃ cn cs a ccd cl, c.env = envX cn cs c.L a ccd cl
  XB : (KK c.w).In c.base
  TB : Top view0 (looseW view0 lo) c.mean c.mg c.mb c.base
noncomputable def caughtS (n : Str) (l : Int) (σ : St) : St := ⟨putS σ.loc n (.ref (σ.nx + 1)), σ.cel, (σ.nx + 1, .exc σ.nx) :: (σ.nx, .pdict [(lineS, .si l)] [] 60) :: σ.H, σ.nx + 2⟩
theorem Xs.turn {c : Cd} (x : Xs c) {fs : List Addr} {g : Heap} (T : KtsTurn fs c.h₀ g) : Xs (c.gr g) := ⟨let ⟨_, e⟩ := x.ne; let ⟨_, e'⟩ := T.up e; ⟨_, e'⟩, x.ys⟩
theorem SemT.try {T : Tab} {n : Nat} {c : Cd} (TT : TabOk T c.w) (hT : lkS T.glob (Str.ofString "CheckFault") = some (.ref 65)) (C : Ck false c n) (f : Fx c)
    {b₀ : Stmt} {b suite rest : List Stmt} {hn : Str} {np hp tp : Pos} {σ : St} {Kb : KS} {Xb : KX} {KR : KV} (kn : lkS c.env.scope.names hn = some .local) (kc : lkS c.env.scope.names (Str.ofString "CheckFault") = some .globalImplicit)
    (hb : SemS c (execs b c.env) σ Kb Xb) (k : ∀ fl σ', Kb fl σ' → match fl with | .next => SemT c (execs rest c.env) σ' KR | .ret v => KR v σ' | _ => False)
    (kx : ∀ l σ', Xb l σ' → ∀ c', Ck true c' n → Fk c' → c'.w = c.w → c'.env = c.env → SemS c' (execs (b₀ :: suite) c'.env) (caughtS hn l σ') (fun fl σ2 => match fl with | .ret v => KR v { σ2 with loc := [] } | _ => False) fun _ _ => False) :
    SemT c (execs (.Try b [.ExceptHandler (some (.Name (Str.ofString "CheckFault") np)) (some hn) (b₀ :: suite) hp] [] [] tp :: rest) c.env) σ KR := by
  intro m ρ s Q E hE R q
  refine wpAny_execs_cons (wpAny_Try_except ?_)
  refine hb m ρ s _ _ PassesOwn.looking R (fun m1 ρ1 σ1 fl w s1 le1 R1 fi h1 => ?_) (fun m1 ρ1 σ1 l u s1 le1 R1 h1 => ?_)
  · have h1 := k _ _ h1
    cases fi with
    | next => exact wpAny_execs_nil (h1 m1 ρ1 s1 Q E hE R1 fun g m2 ρ2 σ2 v u s2 T le2 => q g m2 ρ2 σ2 v u s2 T (Rho.le_trans le1 le2))
    | cont => exact h1.elim
    | brk => exact h1.elim
    | ret d => exact q c.h₀ m1 ρ1 σ1 _ _ s1 KtsTurn.refl le1 R1 d h1
  · have hq := kx l σ1 h1
    obtain ⟨e, G, news, rfl, XA⟩ := R1
    obtain ⟨cn, cs, a, ccd, cl, he⟩ := f.ex
    obtain ⟨nm, qn, NN, bs, bm, hdct, sn, sub, ab, col, ddd, k0, k1, k2, k3, k5, hK, hcE, _⟩ := TT.cls
    have hgl := TT.glob _ _ hT
    have hks : cs.kind = .function := by have := C.hk; rw [he] at this; exact this
    have hl : (envX cn cs c.L a ccd cl).kindOf hn = some .local := by rw [← he]; unfold Env.kindOf; exact lkS_lookup kn
    have hg : (envX cn cs c.L a ccd cl).kindOf (Str.ofString "CheckFault") = some .globalImplicit := by rw [← he]; unfold Env.kindOf; exact lkS_lookup kc
    have fl0 : Fault c.w.params c.base G (envX cn cs c.L a ccd cl :: c.outer) e l (c.X ++ news) s1.heap := by rw [← he, f.f.env]; exact XA.fl
    have hq := hq
    rw [f.A, he]
    refine look_fault (A₀ := c.A₀) (L := c.L) (base := c.base) (g := c.h₀) (outer := c.outer) rfl fl0 C.B XA.up fun h' fl' up' => ?_
    refine hit_fault (KF := KK c.w) (p := view0) (kept := []) (fun _ h => nomatch h) (fun _ h => nomatch h) fl' XA.F C.B up' f.XB f.TB KtsTurn.refl hK hcE hgl (fun h2 g2 tk oe de es n' t KT F2 hcl hnc hdd hl2 hne hnd N2 B2 X2 T2 => ?_) hks hl hg
    rw [List.append_nil] at N2
    rw [← he]
    let c2 : Cd := { (c.at c.m) with A := (c.A₀.deeper c.env).mark (some (.ref e)), h₀ := g2 }
    have x2 : Xs c2 := ⟨(C.xs.turn KT).ne, C.xs.ys⟩
    have C2 : Ck true c2 n := { C with
      B := B2
      X := X2
      T := T2
      hA := by have := C.hA; rw [f.A] at this; exact this
      hh := fun z => nomatch z
      hns := fun h F _ => by show h.Ns c.env.locals c.m; rw [f.f.loc]; exact F.ns
      dp := by have := C.dp; rw [f.A] at this; exact this
      un := by have := C.un; rw [f.A] at this; exact this
      xs := x2 }
    obtain ⟨ws, w1, w2, w3, w4⟩ := hl2
    have hnX : ∀ p ∈ c.X ++ news, p.1 ≠ de := hnd
    have nm1 := XA.nm.new (o := .pdict [(lineS, .si l)] [] 60) (ob := dictOf es n') (l := de) hnX (fun _ => above_mods (c := c2) x2 (N2 _ (.tail _ (.head _))).2.2) x2.ys
      ⟨ws, ⟨es, n', rfl, w1.mono (fun _ _ z => Ent.mono (fun _ _ h => nS h) z), w2, w3⟩, fun g v h => lkB_hd h (fun a b => ⟨_, (congrArg (lkS ws) (Fast.sEq_iff.mp a : lineS = g)).symm.trans w4, (b : V.si l = v) ▸ (⟨t, rfl⟩ : Den ρ1 (.si l) (.int l t))⟩) fun _ h => nS h, fun _ h => Bool.noConfusion h, kkv_len (ws := ws) ▸ w3⟩
    have nm2 := nm1.new (o := .exc σ1.nx) (ob := oe) (l := e) (fun p hp => hne p (List.perm_middle.mem_iff.mp hp)) (fun _ => above_mods (c := c2) x2 (N2 _ (.head _)).2.2) x2.ys ⟨de, Rho.upd_t, hcl, hnc, hdd⟩
    have le2 : ρ1.le (ρ1.upd σ1.nx de) := Rho.upd_le (XA.nm.fresh _ (Nat.le_refl _))
    have le3 : (ρ1.upd σ1.nx de).le ((ρ1.upd σ1.nx de).upd (σ1.nx + 1) e) := Rho.upd_le (nm1.fresh _ (Nat.le_refl _))
    have le13 := Rho.le_trans le2 le3
    have e3 : ((ρ1.upd σ1.nx de).upd (σ1.nx + 1) e) (σ1.nx + 1) = some e := Rho.upd_t
    generalize (ρ1.upd σ1.nx de).upd (σ1.nx + 1) e = ρ3 at nm2 le13 e3
    have R5 : Rel (c2.at fun y => if y = hn then some (.ref e) else m1 y) ρ3 (caughtS hn l σ1) { s1 with heap := h2, toks := tk } :=
      ⟨_, F2, fun z hz => N2 z (List.perm_middle.mem_iff.mp hz |> List.mem_cons.mp |>.elim (fun e => e ▸ .head _) fun hz => .tail _ (List.perm_middle.mem_iff.mp hz)), nm2, LocIs.put (XA.loc.mono le13) ⟨e, e3, rfl⟩, XA.cel.mono le13, Shared.re XA.sh h2 tk⟩
    refine wpAny_mono (hq c2 C2 ⟨f.f.env, f.f.loc⟩ rfl rfl _ ρ3 _ _ (fun _ _ => False) PassesOwn.never R5 (fun m3 ρ4 σ4 fl w s4 le4 R6 fi h3 => ?_) (fun _ _ _ _ _ _ _ _ z => z.elim)) (fun _ _ z => z) (fun _ _ z => z.elim)
    cases fi with
    | next => exact h3.elim
    | cont => exact h3.elim
    | brk => exact h3.elim
    | ret d =>
      obtain ⟨news4, R6⟩ := R6
      refine name_goesX R6.F R6.N f.f.loc (by rw [C.hk]; rfl) (by unfold Env.kindOf; exact lkS_lookup kn) fun h5 v5 F5 N5 => ?_
      exact q g2 _ ρ4 { σ4 with loc := [] } _ _ _ KT (Rho.le_trans le1 (Rho.le_trans le13 le4)) ⟨news4, F5, N5, R6.nm, fun _ _ e => nS e, R6.cel, Shared.re R6.sh h5 _⟩ d h3
end Mine
namespace Mine
section
variable {prog : Program} {w : World} {A₀ A : Around} {s : Shared} {base h₀ : Heap} {L : Addr} {m : Str → Option Value} {env : Env} {news : List (Addr × Obj)} {K : Frag} {p : Program} {loose : List Str} {mean : ExcName → Option Value} {mg mb : Str → Option Value}
    {R : Result → Shared → Prop} {name qual : Str} {params : Arguments} {body : List Stmt} {scope : Scope} {dV kV doc pm cdv ct oc : Value} {an od : Option Addr} {osl : Array (Option Value)} {f : Addr} {args : Args} {binds : List (Str × Value)}
theorem code_defC0 (B : Below A₀ base [] h₀) (F : Fr h₀ L s.heap m) (X₀ : K.In h₀) (N : News h₀ L s.heap news) (T : Top p loose mean mg mb h₀)
    (hA : A.frames = some [env]) (hf : env.frame = some L) (hke : env.scope.kind = .function)
    (ho : K.lookup f = some ⟨oc, od, .func (fnOf name qual params body scope dV kV doc pm an cdv ct), osl⟩) (hcd : codeIn K cdv qual = true) (hroom : A.depth < recursionLimit)
    (hbind : BindsTo s (fnOf name qual params body scope dV kV doc pm an cdv ct) args binds) (hkind : (binds.all fun y => scope.names.lookup y.1 == some .local || scope.names.lookup y.1 == some .cell) = true)
    (hnd : ((cellsFrom 0 scope.names []).map (·.1)).Nodup)
    (h : ∀ g L' h₁ tk cells, Fr h₀ L g m → Fr g L' h₁ (bindL (envOfC qual scope L' f cdv).kindOf binds fun _ => none) → News g L' h₁ (cells ++ news) →
      CellsAre (bindC (envOfC qual scope L' f cdv).kindOf binds fun _ => none) (cellsFrom (L' + 1) scope.names []) cells → Below A base [env] g → K.In g → Top p loose mean mg mb g → (∀ p ∈ news, p.1 < L') →
      wpAny (model prog w) (A.deeper (envOfC qual scope L' f cdv)) (execs body (envOfC qual scope L' f cdv))
        (fun fl s' => LeaveS0 [L] h₀ L m g R (match fl with | .ret v => v | _ => .none) s')
        (fun e s' => wpAny (model prog w) (A.deeper (envOfC qual scope L' f cdv)) (leaving (envOfC qual scope L' f cdv) e) (fun _ s'' => R (.error e) s'') (fun e' s'' => R (.error e') s'') s')
        { s with heap := h₁, toks := tk })
    (hco : scope.isCoroutine = false) (hgen : scope.isGenerator = false) (hk : scope.kind = .function) : codeAny (model prog w) A (.call (.ref f) args) R s := by
  have G := groundX (R := R) B F N hA hf hke
  have st := G.2.2.1
  refine codeAny_call_function hroom ((X₀.keeps F.keep) _ _ ho) rfl hco hgen rfl (codeRec_of (X₀.keeps F.keep) hcd) (hbind _ _ _ _ ?_)
  refine wpAny_newFunctionEnv_cells hk (kindsX hkind _) fun env' he s' x => ?_
  subst he
  refine ⟨(T.nolimit.keeps F.keep).keeps x.toInCall.keep, codeAny_func ?_⟩
  obtain ⟨h₁, tk, rfl, _⟩ := x.done
  have hk₁ := x.toInCall.keep
  obtain ⟨cells, NC, Y⟩ := Cl.news (h₀ := s.heap) (Nat.le_refl _) fun n c hm => ⟨x.cell n c (lookup_of_mem_nodup (cellsFrom_names scope.names 0 (s.heap.objs.size + 1) [] [] rfl ▸ hnd) hm), x.above n c hm⟩
  have NN : News (hideAll s.heap (news.map (·.1))) s.heap.objs.size h₁ (cells ++ news) := fun q hq => by
    rcases List.mem_append.mp hq with hq | hq
    · refine ⟨(NC q hq).1, (NC q hq).2.1, ?_⟩
      cases e : (hideAll s.heap (news.map (·.1))).get? q.1 with
      | none => rfl
      | some o => have := of_hideAll _ e; rw [(NC q hq).2.2] at this; cases this
    · exact ⟨hk₁ _ _ (N q hq).1, Nat.ne_of_lt (Heap.lt_size (N q hq).1), hideAll_none _ (List.mem_map_of_mem hq)⟩
  refine wpAny_mono (h _ s.heap.objs.size h₁ tk cells G.1 ⟨x.toInCall.ns, fun b o e => hk₁ b o (of_hideAll _ e), Nat.le_of_eq (hideAll_size _ _)⟩ NN Y G.2.1 (X₀.keeps st) (T.keeps st) fun q hq => Heap.lt_size (N q hq).1) (fun fl s' hl => ?_) fun _ _ y => y
  obtain ⟨g', L₂, m', news', T', F', N', k⟩ := hl
  have nL₀ : h₀.get? L = none := kts_self F
  obtain ⟨oL, es, ep, hL, hLd, hLk, hLf⟩ := F.ns
  have hLg : (hideAll s.heap (news.map (·.1))).get? L = some oL := hideAll_get _ hL fun q => by
    obtain ⟨p, hp, e⟩ := List.mem_map.mp q
    exact (N p hp).2.1 e
  obtain ⟨sl, hs⟩ := T'.up hLg
  refine k ⟨⟨_, es, ep, F'.keep _ _ hs, hLd, hLk, hLf⟩, fun b o e => F'.keep b o (T'.other b o (st b o e) (fun q => by rw [List.mem_singleton.mp q, nL₀] at e; cases e)), F.above⟩ (fun p hp => ⟨(N' p hp).1, fun q => ?_, ?_⟩)
  · have := (N' p hp).2.2; rw [q, hs] at this; cases this
  · cases q : h₀.get? p.1 with
    | none => rfl
    | some o =>
      obtain ⟨sl', hs'⟩ := T'.up (st _ _ q)
      have := (N' p hp).2.2
      rw [hs'] at this
      cases this
end
theorem callT_ok {c : Cd} {n f : Nat} {i : FnI} {A' : Around} (ho : c.outer = []) (C : Ck false c n) (FO : FnOk (KK c.w) f i) (hA : A'.frames = some [c.fenv]) (hh : A'.handled = none) (hd : A'.depth + 1 + 5 * n < recursionLimit) (hu : A'.units + 3 + 30 * n + 100 < cLine)
    (XB : (KK c.w).In c.base) (TB : Top view0 (looseW view0 lo) c.mean c.mg c.mb c.base) (ok : (Nat.beq i.pars.length i.pars.length && parOk i.sc.names i.pars && celFirst i.sc.names i.sc.names) = true)
    {ρ : Rho} {σ : St} {s : Shared} {vs : List V} {us : List Value} {K : KV} {R : Result → Shared → Prop} (RR : Rel c ρ σ s) (D : All2 (Den ρ) vs us) (hl : us.length = i.pars.length)
    (h : ∀ c' : Cd, Ck false c' n → Fx c' → c'.w = c.w → c'.env.scope.names = i.sc.names → SemT c' (execs i.body c'.env) (enterS i.sc.names i.pars vs σ) fun v σ' => K v { σ' with loc := σ.loc, cel := σ.cel })
    (k : ∀ ρ' σ' v u s', ρ.le ρ' → Rel c ρ' σ' s' → Den ρ' v u → K v σ' → R (.ok (.ret u)) s') : codeAny (MM c.w) A' (.call (.ref f) ⟨us, []⟩) R s := by
  rw [Bool.and_eq_true, Bool.and_eq_true] at ok
  obtain ⟨⟨_, ok2⟩, ok3⟩ := ok
  obtain ⟨⟨oc, od, osl, name, params, kV, doc, pm, an, cdv, ct, hK, hcd, hp, hq⟩, nd, cnd, co, gen, kd⟩ := FO
  obtain ⟨news, RA⟩ := RR
  have hb : BindsTo s (fnOf name i.qual params i.body i.sc .none kV doc pm an cdv ct) ⟨us, []⟩ (i.pars.zip us) := BindsTo.of_eq (by
    rw [← hq]
    exact bind_plain (fd := fnOf name i.qual params i.body i.sc .none kV doc pm an cdv ct) hp rfl (by rw [hq]; exact nd) (by rw [hl, ← hq, List.length_map]))
  have zk : ((i.pars.zip us).map (·.1)).Nodup := by rw [zip_keys hl]; exact nd
  have CB : Below c.A₀ c.base [] c.h₀ := by have := C.B; rw [ho] at this; exact this
  refine code_defC0 CB RA.F C.X RA.N C.T hA C.hf C.hke hK hcd (by omega) hb (par_kinds ok2) cnd (fun g L' h₁ tk cells Fg F' N' Y B' X' T' hlt => ?_) co gen kd
  let c' : Cd := frC c A' [c.fenv] i.qual i.sc L' f cdv g (i.pars.zip us)
  have C' : Ck false c' n := enter_ck B' X' T' hA hh kd hd hu Fg C.xs
  refine Exists.elim (p := fun ρc => ρ.le ρc ∧ Rel c' ρc (enterS i.sc.names i.pars vs σ) { s with heap := h₁, toks := tk }) (enter_rel C.xs RA D zk ok3 F' N' Y hlt) fun ρc z => ?_
  have lec := z.1
  have R' := z.2
  refine h c' C' ⟨⟨rfl, rfl⟩, rfl, ⟨_, _, _, _, _, rfl⟩, XB, TB⟩ rfl rfl _ ρc _ _ _ PassesOwn.leaving R' fun g' m' ρ' σ' v u s' T le' R2 d h2 => ?_
  have le := Rho.le_trans lec le'
  obtain ⟨news2, R2⟩ := R2
  have hfs : c'.outer.filterMap (·.frame) = [c.L] := by show [c.fenv].filterMap (·.frame) = _; rw [List.filterMap_cons, C.hf]; rfl
  rw [hfs] at T
  refine leaveS0_ R2.F R2.N T fun F3 N3 => ?_
  exact k ρ' { σ' with loc := σ.loc, cel := σ.cel } v u s' le ⟨news2, F3, N3, R2.nm, RA.loc.mono le, RA.cel.mono le, R2.sh⟩ d h2
end Mine
namespace Mine
noncomputable def flat : List Hp → Hp
  | [] => []
  | b :: r => b ++ flat r
noncomputable def flatB : List (Nat × Hp) → Hp
  | [] => []
  | b :: r => b.2 ++ flatB r
theorem flatB_app : ∀ {a b : List (Nat × Hp)}, flatB (a ++ b) = flatB a ++ flatB b
  | [], _ => rfl
  | p :: r, b => by
    show p.2 ++ flatB (r ++ b) = (p.2 ++ flatB r) ++ flatB b
    rw [flatB_app, List.append_assoc]
noncomputable def takeBk (i : Nat) : List (Nat × Hp) → Option (Hp × List (Nat × Hp))
  | [] => none
  | p :: r => match Nat.beq p.1 i with
    | true => some (p.2, r)
    | false => match takeBk i r with
      | some (b, q) => some (b, p :: q)
      | none => none
noncomputable def pickB : List Nat → List (Nat × Hp) → Option (List Hp × List (Nat × Hp))
  | [], bs => some ([], bs)
  | i :: r, bs => match takeBk i bs with
    | some (b, q) => match pickB r q with
      | some (t, q') => some (b :: t, q')
      | none => none
    | none => none
theorem takeB_perm {i : Nat} : ∀ {bs : List (Nat × Hp)} {b : Hp} {q : List (Nat × Hp)}, takeBk i bs = some (b, q) → (flatB bs).Perm (b ++ flatB q)
  | p :: r, b, q, h => by
    unfold takeBk at h
    cases e : Nat.beq p.1 i with
    | true => rw [e] at h; cases h; exact .refl _
    | false =>
      rw [e] at h
      cases e2 : takeBk i r with
      | none => rw [e2] at h; cases h
      | some x =>
        obtain ⟨b', q'⟩ := x
        rw [e2] at h
        cases h
        show (p.2 ++ flatB r).Perm (b ++ (p.2 ++ flatB q'))
        refine ((takeB_perm e2).append_left p.2).trans ?_
        rw [← List.append_assoc, ← List.append_assoc]
        exact List.perm_append_comm.append_right _
theorem pickB_perm : ∀ {is : List Nat} {bs : List (Nat × Hp)} {t : List Hp} {q : List (Nat × Hp)}, pickB is bs = some (t, q) → (flatB bs).Perm (flat t ++ flatB q)
  | [], bs, t, q, h => by cases h; exact .refl _
  | i :: r, bs, t, q, h => by
    unfold pickB at h
    cases e : takeBk i bs with
    | none => rw [e] at h; cases h
    | some x =>
      obtain ⟨b, q1⟩ := x
      rw [e] at h
      dsimp only at h
      cases e2 : pickB r q1 with
      | none => rw [e2] at h; cases h
      | some y =>
        obtain ⟨t1, q2⟩ := y
        rw [e2] at h
        cases h
        show (flatB bs).Perm ((b ++ flat t1) ++ flatB q)
        rw [List.append_assoc]
        exact (takeB_perm e).trans ((pickB_perm e2).append_left b)
noncomputable def erH (H : Hp) : Hp := H.map fun p => (p.1, p.2.er)
noncomputable def erL (l : List (Str × V)) : List (Str × V) := l.map fun p => (p.1, p.2.er)
theorem SemS.blk {T : Tab} {n : Nat} {c : Cd} {ss : List Stmt} {σ : St} {K : KS} {X : KX} (TT : TabOk T c.w) (C : Ck T.q c n) (f : Fk c) {is : List Nat} {bs r : List (Nat × Hp)} {t : List Hp} {tm : Hp} {N nx : Nat} {ks nms : List Nat} {rt rx : List (Nat × Tg)} {xs ps xx px : List Str} {loc : List (Str × V)}
    (hH : σ.H = flatB bs) (hp : pickB is bs = some (t, r)) (he : erH (flat t) = erH tm) (el : erL σ.loc = erL loc) (hN : σ.nx ≤ N)
    (h : vcSs T n c.env.scope.names ss ⟨loc, σ.cel, tm, N⟩ (finS N nx ks nms rt xs ps (fun l H' nx' => K .next ⟨l, σ.cel, H' ++ flatB r, nx'⟩) fun v H' nx' => K (.ret v) ⟨[], σ.cel, H' ++ flatB r, nx'⟩)
      (fun l σ2 => finX N nx ks nms rx xx px (fun lc H' nx' => X l ⟨lc, σ.cel, H' ++ flatB r, nx'⟩) σ2)) : SemS c (execs ss c.env) σ K X :=
  SemS.part TT C f (tm := tm) (Hr := flatB r) el (hH ▸ pickB_perm hp) (by
    unfold erH at he
    rw [List.map_append, List.map_append, he]) hN h
theorem of_map {α : Type} {β : Type} {f g : α → β} {l : List α} (h : l.map f = l.map g) {a : α} (ha : a ∈ l) : f a = g a := List.map_inj_left.mp h a ha
end Mine
namespace Mine
theorem SemT.step {c : Cd} {a b : List Stmt} {σ : St} {KR : KV} (h : SemS c (execs a c.env) σ (fun fl σ' => match fl with | .next => SemT c (execs b c.env) σ' KR | .ret v => KR v σ' | _ => False) fun _ _ => False) : SemT c (execs (a ++ b) c.env) σ KR := SemT.seq h (fun _ _ z => z) fun _ _ z => z
noncomputable def tsL : List (List Nat) := [[0], [1], [2], [0, 0], [0, 1], [0, 2], [1, 0], [1, 1], [1, 2], [2, 0], [2, 1], [2, 2]]
noncomputable def rsL : List (Option Nat) := [none, some 0, some 2]
structure Fr416 (c : Cd) : Prop where
  x : Fx c
  C : Ck false c 60
  n : c.env.scope.names = scOf c.w.params 416
section
variable {c : Cd} {b : List Stmt} {KR : KV} {ns : List Int} {n sort t l : Int} {bs r : List (Nat × Hp)} {nx : Nat}
noncomputable def tkC (ns : List Int) (m : Int) (q : Nat → Prop) : Prop := bdP ns m ∧ ∀ k2 : Int, 0 ≤ k2 → k2 < (3 : Nat) → q 0 ∧ q 1 ∧ q 2
noncomputable def fC (ns : List Int) (n : Int) (Kf : List Nat → Int → Prop) : Prop := bdP ns (n + 1) ∧ tkC ns (n + 1 + 1) (fun a => Kf [a] (n + 1 + 1 + 1)) ∧ tkC ns (n + 1 + 1) fun a => tkC ns (n + 1 + 1 + 1) fun b => Kf [a, b] (n + 1 + 1 + 1 + 1)
theorem fC_of {Kf : List Nat → Int → Prop} (h0 : 0 ≤ n) (h1 : n ≤ 900) (h2 : ns.length ≤ 60) (k : ∀ ts ∈ tsL, ∀ n' : Int, n ≤ n' → n' ≤ n + 4 → Kf ts n') : fC ns n Kf := by
  have b3 : bdP ns (n + 1 + 1 + 1) := ⟨by omega, by omega, h2⟩
  have b2 : bdP ns (n + 1 + 1) := ⟨by omega, by omega, h2⟩
  refine ⟨⟨by omega, by omega, h2⟩, ⟨b2, fun _ _ _ => ⟨k _ (by decide) _ (by omega) (by omega), k _ (by decide) _ (by omega) (by omega), k _ (by decide) _ (by omega) (by omega)⟩⟩, b2, fun _ _ _ => ⟨⟨b3, fun _ _ _ => ?_⟩, ⟨b3, fun _ _ _ => ?_⟩, ⟨b3, fun _ _ _ => ?_⟩⟩⟩ <;>
  exact ⟨k _ (by decide) _ (by omega) (by omega), k _ (by decide) _ (by omega) (by omega), k _ (by decide) _ (by omega) (by omega)⟩
theorem outS1_of {KK : List (Str × V) → Hp → Nat → Prop} (h0 : 0 ≤ n) (h1 : n ≤ 900) (h2 : ns.length ≤ 60)
    (k : ∀ x ∈ [0, 1], ∀ ts ∈ tsL, ∀ n' : Int, n ≤ n' → n' ≤ n + 4 → KK (loc1 sort t (nmK x)) (poolH ns n' ++ kinH ++ celH (some (.ref 104)) none ++ typH ts) 105) : outS1 ns n sort t KK :=
  ⟨⟨h0, by omega, h2⟩, fC_of (Kf := fun ts n' => KK (loc1 sort t (nmK 0)) (poolH ns n' ++ kinH ++ celH (some (.ref 104)) none ++ typH ts) 105) h0 h1 h2 (k 0 (by decide)),
    fC_of (Kf := fun ts n' => KK (loc1 sort t (nmK 1)) (poolH ns n' ++ kinH ++ celH (some (.ref 104)) none ++ typH ts) 105) h0 h1 h2 (k 1 (by decide))⟩
theorem step1 (F : Fr416 c) (h0 : 0 ≤ n) (h1 : n ≤ 900) (h2 : ns.length ≤ 60) (hx : nx ≤ 104) (hp : pickB [0, 16, 23, 22, 21, 20] bs = some ([poolH ns n, kinH, [(100, .cell (some (.ref 0)))], [(101, .cell (some (.ref 36)))], [(102, .cell none)], [(103, .cell none)]], r))
    (k : ∀ x ∈ [0, 1], ∀ ts ∈ tsL, ∀ n' : Int, n ≤ n' → n' ≤ n + 4 → SemT c (execs b c.env) ⟨loc1 sort t (nmK x), cel4, flatB ([(0, poolH ns n'), (16, kinH), (24, celH (some (.ref 104)) none), (25, typH ts)] ++ r), 105⟩ KR) :
    SemT c (execs (pcs c.w.params 0 2 ++ b) c.env) ⟨loc0 sort t, cel4, flatB bs, nx⟩ KR := by
  refine SemT.step (SemS.blk (tab2_ok c.w) F.C F.x.f (tm := poolH ns n ++ kinH ++ celH none none) (N := 104) (nx := 105) (ks := [0, 1, 36, 100, 101, 102, 103]) (nms := [104]) (rt := []) (rx := []) (xs := lnm0 ++ [s "name"]) (ps := []) (xx := []) (px := []) rfl hp (by rfl) rfl hx ?_)
  rw [F.n]
  refine cast (run_S1 c.w.params ns n sort t _ _ _).symm (outS1_of h0 h1 h2 fun x hx ts hts n' a1 a2 => ?_)
  exact k x hx ts hts n' a1 a2
theorem outS2_of {nm : Str} {KK : List (Str × V) → Hp → Nat → Prop} (h0 : 0 ≤ n) (h1 : n ≤ 900) (h2 : ns.length ≤ 60)
    (k : ∀ res ∈ rsL, ∀ ab : Bool, KK (loc1 sort t nm ++ [(s "result", resV res), (s "is_abstract", .bool ab)]) (poolH ns (n + 1 + 1) ++ kinH ++ celH (some (.ref 104)) none) 105) : outS2 ns n sort t nm KK := by
  have b1 : bdP ns (n + 1) := ⟨by omega, by omega, h2⟩
  have f := fun res hr => (⟨b1, k res hr false, k res hr true, k res hr false, k res hr false⟩ : _ ∧ _ ∧ _ ∧ _ ∧ _)
  exact ⟨⟨h0, by omega, h2⟩, f none (by decide), f none (by decide), f (some 0) (by decide), f (some 2) (by decide)⟩
theorem step2 {nm : Str} (F : Fr416 c) (h0 : 0 ≤ n) (h1 : n ≤ 900) (h2 : ns.length ≤ 60) (hp : pickB [0, 16, 24] bs = some ([poolH ns n, kinH, celH (some (.ref 104)) none], r))
    (k : ∀ res ∈ rsL, ∀ ab : Bool, SemT c (execs b c.env) ⟨loc1 sort t nm ++ [(s "result", resV res), (s "is_abstract", .bool ab)], cel4, flatB ([(0, poolH ns (n + 1 + 1)), (16, kinH), (24, celH (some (.ref 104)) none)] ++ r), 105⟩ KR) :
    SemT c (execs (pcs c.w.params 2 2 ++ b) c.env) ⟨loc1 sort t nm, cel4, flatB bs, 105⟩ KR := by
  refine SemT.step (SemS.blk (tab2_ok c.w) F.C F.x.f (tm := poolH ns n ++ kinH ++ celH (some (.ref 104)) none) (N := 105) (nx := 105) (ks := [0, 1, 36, 100, 101, 102, 103]) (nms := []) (rt := []) (rx := []) (xs := lnm1) (ps := []) (xx := []) (px := []) rfl hp (by rfl) rfl (Nat.le_refl _) ?_)
  rw [F.n]
  exact cast (run_S2 c.w.params ns n sort t nm _ _ _).symm (outS2_of h0 h1 h2 fun res hr ab => k res hr ab)
theorem step3 {x : Nat} {ab : Bool} {p : Prof} (F : Fr416 c) (hc : (nmK x, p) ∈ scfgs) (hp : pickB [24, 25] bs = some ([celH (some (.ref 104)) none, typH p.ts], r))
    (k : SemT c (execs b c.env) ⟨loc4 sort t ab (nmK x) (resV p.res), cel4, flatB ([(24, celH (some (.ref 104)) none), (25, typH p.ts), (26, subDH (nmK x) (s "") p.res 120), (27, parsH p.ts), (28, resH p.res), (29, [(120, .list [])]), (30, [(116, .inst 183 117), (117, entD (nmK x) (s "") (fun _ => .none) (fun t => .si (20 + t)) t 0 .none (s "") false 118)]), (31, [(118, .tup [.ref 119, .int (-1)]), (119, .tup [.si t])])] ++ r), 121⟩ KR) :
    SemT c (execs (pcs c.w.params 4 5 ++ b) c.env) ⟨loc1 sort t (nmK x) ++ [(s "result", resV p.res), (s "is_abstract", .bool ab)], cel4, flatB bs, 105⟩ KR := by
  refine SemT.step (SemS.blk (tab2_ok c.w) F.C F.x.f (loc := loc2 sort t ab (nmK x) p) (tm := celH (some (.ref 104)) none ++ typH p.ts) (N := 105) (nx := 121) (ks := [100, 101, 102, 103, 104]) (nms := nmsS p) (rt := subTags) (rx := []) (xs := lnm2) (ps := []) (xx := []) (px := []) rfl hp (by rfl) rfl (Nat.le_refl _) ?_)
  rw [F.n]
  refine cast (of_map (run_S3 c.w.params sort t ab _ _ _) hc).symm ?_
  refine cast (congrArg (fun H => SemT c (execs b c.env) ⟨loc4 sort t ab (nmK x) (resV p.res), cel4, H, 121⟩ KR) ?_) k
  simp only [flatB, List.append_assoc, List.cons_append, List.nil_append, subH, entN, subDH]
end
end Mine
namespace Mine
noncomputable def core1 (kd : Nat) (part : Str) (made : Int) : Hp := [(11, .inst 234 12), (12, placeD (kdOf kd) part), (13, .inst 234 17), (17, rootD made)]
noncomputable def core2 (en ln : Nat → Nat) (kd : Nat) (ord hs : List Nat) : Hp := [(18, cntO (match isSub kd with | true => [] | false => hs)), (16, cntO (match isSub kd with | true => hs | false => [])), (14, namesO ln hs), (15, .olist ((ord ++ (List.range hs.length).map en).map .ref))]
theorem core_eq {en ln : Nat → Nat} {kd : Nat} {part : Str} {ord hs : List Nat} : coreH en ln kd part ord hs = core1 kd part (5 + hs.length : Nat) ++ core2 en ln kd ord hs := rfl
theorem declLen_ok : ∀ c ∈ dcfgs, (ofNm c.hs c.x 0).length ≤ 1000 ∧ c.ord.length + c.hs.length ≤ 1000 := by decide +kernel
noncomputable def newL (hs : List Nat) (x : Nat) : Hp := match memN hs x with
  | true => []
  | false => [(121, .olist [.ref 116])]
theorem declLen_of {c : DCfg} (h : c ∈ dcfgs) {k : Prop} (hk : k) : declLen c k := by
  obtain ⟨a, b⟩ := declLen_ok c h
  unfold declLen
  split
  · exact ⟨a, b, hk⟩
  · exact ⟨b, hk⟩
noncomputable def entB (x : Nat) (un num : V) : Hp := [(116, .inst 183 117), (117, entQ (nmK x) un num)]
section
variable {c : Cd} {b : List Stmt} {KR : KV} {ns : List Int} {n t l : Int} {bs r : List (Nat × Hp)} {nx : Nat} {ab : Bool} {x : Nat}
theorem step4 {sort : Int} {r0 : V} {part : Str} {kd : Nat} {ord hs : List Nat} (F : Fr416 c) (hc : (⟨kd, ord, hs, x⟩ : DCfg) ∈ dcfgs) (hr : ∀ a, r0.has a → a < 121)
    (hp : pickB [8, 9, 10, 11, 12, 30, 31] bs = some ([scH (.si l), core1 kd part (5 + hs.length : Nat), core2 eN (lisN hs) kd ord hs, lisH eN (lisN hs) hs (presOf hs), histE hs 0, [(116, .inst 183 117), (117, entD (nmK x) (s "") (fun _ => .none) (fun t => .si (20 + t)) (hs.length : Int) 0 .none (s "") false 118)], [(118, .tup [.ref 119, .int (-1)]), (119, .tup [.si (hs.length : Int)])]], r))
    (k : SemT c (execs b c.env) ⟨loc4 sort hs.length ab (nmK x) r0, cel4, flatB ([(8, scH (.si l)), (9, core1 kd part (5 + (hs ++ [x]).length : Nat)), (10, core2 (enX hs.length) (lisX hs) kd ord (hs ++ [x])), (11, lisH (enX hs.length) (lisX hs) (hs ++ [x]) (presOf hs)), (12, histE hs 0), (30, entB x (.str (uqS x (ofNm hs x 0).length)) (.int (6 + hs.length : Nat))), (31, [(118, .tup [.ref 119, .int (-1)]), (119, .tup [.int hs.length])]), (34, newL hs x)] ++ r), 122⟩ KR) :
    SemT c (execs (pcs c.w.params 9 1 ++ b) c.env) ⟨loc4 sort hs.length ab (nmK x) r0, cel4, flatB bs, 121⟩ KR := by
  refine SemT.step (SemS.blk (tab2_ok c.w) F.C F.x.f (tm := declIn (.si l) part ⟨kd, ord, hs, x⟩) (N := 121) (nx := 122) (ks := (declIn .none part ⟨kd, ord, hs, x⟩).map (·.1)) (nms := [121]) (rt := declTags hs x kd) (rx := []) (xs := lnm4) (ps := [s "result"]) (xx := []) (px := []) rfl hp ?_ rfl (Nat.le_refl _) ?_)
  · (simp only [declIn, core_eq, flat, erH, List.map_append, List.append_assoc, List.append_nil]) <;> rfl
  rw [F.n]
  refine cast (of_map (decl_runs c.w.params sort ab r0 l part _ _ _) hc).symm (declLen_of hc ⟨hr, ?_⟩)
  refine cast (congrArg (fun H => SemT c (execs b c.env) ⟨loc4 sort hs.length ab (nmK x) r0, cel4, H, 122⟩ KR) ?_) k
  (simp only [flatB, declOut, core_eq, entY, entB, newL, List.append_assoc, List.cons_append, List.nil_append]) <;> rfl
noncomputable def ownLoc (sort : Nat) (t : Int) (ab : Bool) (nm : Str) (p : Prof) : List (Str × V) := loc4b (.int sort) t ab nm p ++ [(s "owners", .ref 122), (s "result", resV p.res)]
noncomputable def owO (f : List Nat) : Hp := [(122, .list (f.map fun i => .ref (tyA i)))]
theorem step5 {sort : Nat} {h0 h1 : Int} {ab0 ab1 : Bool} {kv0 kv1 : List (Str × Str)} {p : Prof} (F : Fr416 c) (hc : (sort, nmK x, p) ∈ ocfgs)
    (hp : pickB [24, 1, 2, 3, 4, 5, 6, 7, 15, 25] bs = some ([celH (some (.ref 104)) none, [(10, .list [.ref 2, .ref 6])], [(2, .tup [.ref 3, .si h0])], [(3, .inst 316 4), (4, tyD (s "a") 80 ab0 5)], [(5, .odict kv0)], [(6, .tup [.ref 7, .si h1])], [(7, .inst 316 8), (8, tyD (s "b") 81 ab1 9)], [(9, .odict kv1)], nTy, typH p.ts], r))
    (k : SemT c (execs b c.env) ⟨ownLoc sort t ab (nmK x) p, cel4, flatB ([(24, celH (some (.ref 104)) none), (1, [(10, .list [.ref 2, .ref 6])]), (2, [(2, .tup [.ref 3, .si h0])]), (3, [(3, .inst 316 4), (4, tyD (s "a") 80 ab0 5)]), (4, [(5, .odict kv0)]), (5, [(6, .tup [.ref 7, .si h1])]), (6, [(7, .inst 316 8), (8, tyD (s "b") 81 ab1 9)]), (7, [(9, .odict kv1)]), (15, nTy), (25, typH p.ts), (32, owO (ownL sort (sel (ltInt 0 h0) (ltInt 0 h1)) (sel (eqInt h0 2) (eqInt h1 2)) (hasK (nmK x) p kv0 kv1) p.els []))] ++ r), 123⟩ KR) :
    SemT c (execs (pcs c.w.params 10 1 ++ b) c.env) ⟨loc4 sort t ab (nmK x) (resV p.res), cel4, flatB bs, 122⟩ KR := by
  refine SemT.step (SemS.blk (tab2_ok c.w) F.C F.x.f (loc := loc4b (.int sort) t ab (nmK x) p ++ [(s "result", resV p.res)]) (tm := owH h0 h1 ab0 ab1 kv0 kv1 p) (N := 122) (nx := 123) (ks := (owH h0 h1 ab0 ab1 kv0 kv1 p).map (·.1)) (nms := [122]) (rt := []) (rx := []) (xs := lnm4 ++ names ["owners", "result"]) (ps := []) (xx := []) (px := []) rfl hp (by rfl) rfl (Nat.le_refl _) ?_)
  rw [F.n]
  refine cast (of_map (own_runs2 c.w.params t h0 h1 ab ab0 ab1 kv0 kv1 _ _ _) hc).symm (ownP_of ?_)
  exact k
noncomputable def dueB (kv0 kv1 : List (Str × Str)) : Hp := [(123, .list [.ref 124, .ref 125]), (124, .odict kv0), (125, .odict kv1)]
theorem step6 {sort : Nat} {ab0 ab1 : Bool} {kv0 kv1 : List (Str × Str)} {p : Prof} (F : Fr416 c) (hr : ∀ a, (resV p.res).has a → a < 123)
    (hp : pickB [8, 24, 16, 3, 4, 6, 7] bs = some ([scH (.si l), celH (some (.ref 104)) none, kinH, [(3, .inst 316 4), (4, tyD (s "a") 80 ab0 5)], [(5, .odict kv0)], [(7, .inst 316 8), (8, tyD (s "b") 81 ab1 9)], [(9, .odict kv1)]], r))
    (k : SemT c (execs b c.env) ⟨loc5 sort t ab (nmK x) (resV p.res), cel4, flatB ([(8, scH (.si (40 + t))), (24, celH (some (.ref 104)) none), (16, kinH), (3, [(3, .inst 316 4), (4, tyD (s "a") 80 ab0 5)]), (4, [(5, .odict kv0)]), (6, [(7, .inst 316 8), (8, tyD (s "b") 81 ab1 9)]), (7, [(9, .odict kv1)]), (33, dueB kv0 kv1)] ++ r), 126⟩ KR) :
    SemT c (execs (pcs c.w.params 11 2 ++ b) c.env) ⟨ownLoc sort t ab (nmK x) p, cel4, flatB bs, 123⟩ KR := by
  refine SemT.step (SemS.blk (tab2_ok c.w) F.C F.x.f (loc := loc4c sort t ab (nmK x) (resV p.res)) (tm := dueIn l ab0 ab1 kv0 kv1) (N := 123) (nx := 126) (ks := (dueIn l ab0 ab1 kv0 kv1).map (·.1)) (nms := [123, 124, 125]) (rt := []) (rx := []) (xs := lnm5) (ps := [s "result"]) (xx := []) (px := []) rfl hp (by rfl) rfl (Nat.le_refl _) ?_)
  rw [F.n]
  exact cast (due_run c.w.params sort t l ab ab0 ab1 (nmK x) (resV p.res) kv0 kv1 _ _ _).symm ⟨hr, k⟩
end
end Mine
namespace Mine
noncomputable def trySO (e : Stmt) : Option (List Stmt × List ExceptHandler × List Stmt × List Stmt × Pos) := match e with
  | .Try a b c d p => some (a, b, c, d, p)
  | _ => none
theorem trySO_el {e : Stmt} {q : List Stmt × List ExceptHandler × List Stmt × List Stmt × Pos} (h : trySO e = some q) : e = .Try q.1 q.2.1 q.2.2.1 q.2.2.2.1 q.2.2.2.2 := by cases e <;> first | exact nS h | exact Option.some.inj h ▸ rfl
noncomputable def hdO (h : ExceptHandler) : Option Expr × Option Str × List Stmt × Pos := @ExceptHandler.casesOn (fun _ => Option Expr × Option Str × List Stmt × Pos) h fun a b c d => (a, b, c, d)
theorem hdO_el (h : ExceptHandler) : h = .ExceptHandler (hdO h).1 (hdO h).2.1 (hdO h).2.2.1 (hdO h).2.2.2 := by cases h; rfl
noncomputable def isTry (hn : Str) (l : List Stmt) : Bool := oT (oneL l) fun st => oT (trySO st) fun q => oT (oneL q.2.1) fun h => oT (hdO h).1 fun e => oT (hdO h).2.1 fun y => oT (unL (hdO h).2.2.1) fun _ => nilB q.2.2.1 && nilB q.2.2.2.1 && isNm e (Str.ofString "CheckFault") && Fast.sEq y hn
theorem isTry_ok {hn : Str} {l : List Stmt} (h : isTry hn l = true) : ∃ b np b₀ su hp tp, l = [.Try b [.ExceptHandler (some (.Name (Str.ofString "CheckFault") np)) (some hn) (b₀ :: su) hp] [] [] tp] :=
  oT_el h fun st h1 h => oT_el h fun q h2 h => oT_el h fun hd h3 h => oT_el h fun e h4 h => oT_el h fun y h5 h => oT_el h fun su h6 h => and_el h fun h h10 => and_el h fun h h9 => and_el h fun h7 h8 => (isNm_ok h9).elim fun p e9 =>
    ⟨q.1, p, su.1, su.2, (hdO hd).2.2.2, q.2.2.2.2, by rw [oneL_el h1, trySO_el h2, oneL_el h3, nilB_ok h7, nilB_ok h8, hdO_el hd, h4, h5, unL_el h6, e9, Fast.sEq_iff.mp h10]; rfl⟩
theorem try416 (P : Params) : isTry (s "fault") (pcs P 13 1) = true := by kernel_rfl
theorem glob65 (P : Params) : lkS (tab2 P).glob (Str.ofString "CheckFault") = some (.ref 65) := by kernel_rfl
theorem kn416 (P : Params) : (lkS (scOf P 416) (s "fault"), lkS (scOf P 416) (Str.ofString "CheckFault")) = (some .local, some .globalImplicit) := by kernel_rfl
noncomputable def core1s (kd part : Str) (made : Int) : Hp := [(11, .inst 234 12), (12, .pdict [(s "kind", .ss kd), (s "number", .int 3), (s "part", .ss part), (s "root", .ref 13), (s "parent", .ref 13), (s "names", .ref 14), (s "counts", .ref 16), (s "order", .ref 15)] [] 30), (13, .inst 234 17), (17, .pdict [(s "kind", .str (s "root")), (s "made", .si made), (s "counts", .ref 18), (s "type_homes", .ref 19)] [] 30)]
noncomputable def homB (b0 b1 : Bool) (q0 q1 : Str) : Hp := [(19, .pidict [(80, .ref 20), (81, .ref 21)]), (20, .tup [homeV b0, .ss q0]), (21, .tup [homeV b1, .ss q1])]
noncomputable def tyAB (ab : Bool) : Hp := [(3, .inst 316 4), (4, tyD (s "a") 80 ab 5)]
noncomputable def tyBB (ab : Bool) : Hp := [(7, .inst 316 8), (8, tyD (s "b") 81 ab 9)]
theorem putS_le60 {kv : List (Str × Str)} {f v : Str} (h : kv.length ≤ 59) : (putS kv f v).length ≤ 60 := by
  rw [putS_len]
  split <;> omega
noncomputable def pkv (j : Nat) (key v : Str) (kv0 kv1 : List (Str × Str)) : List (Str × Str) × List (Str × Str) := match j with
  | 0 => (putS kv0 key v, kv1)
  | _ => (kv0, putS kv1 key v)
theorem opsP_of {i : PIn} {j : Nat} {key v : Str} {k : Hp → Prop} (l0 : i.kv0.length ≤ 59) (l1 : i.kv1.length ≤ 59) (h : k (opsH (pkv j key v i.kv0 i.kv1).1 (pkv j key v i.kv0 i.kv1).2)) : opsP i j key v k := by
  cases j with
  | zero => exact ⟨putS_le60 l0, h⟩
  | succ j => exact ⟨putS_le60 l1, h⟩
theorem bool_mem (w : Bool) : w ∈ [true, false] := by cases w <;> decide
theorem prim_run {P : Params} {sort t l num : Int} {un : Str} {ab : Bool} {r : V} {i : PIn} {KK : List (Str × V) → Hp → Nat → Prop} {KR : V → Hp → Nat → Prop} {X : Int → List (Str × V) → Hp → Nat → Prop} {c : Str × Prof} (hc : c ∈ scfgs) : runP P sort t l num un ab r i KK KR X c = outP sort t l num un ab r i KK X c :=
  List.map_inj_left.mp (List.map_inj_left.mp (prim_runs P sort t l num un ab r i KK KR X) i.w (bool_mem _)) c hc
section
variable {c : Cd} {b : List Stmt} {KR : KV} {sort t l num : Int} {un : Str} {bs r : List (Nat × Hp)} {ab : Bool} {x : Nat} {p : Prof} {i : PIn}
theorem row3 {α : Type} {G : Prop} (row : List α) (k0 : row = [] → G) (k1 : ∀ j, row = [j] → G) (k2 : ∀ j1 j2 q, row = j1 :: j2 :: q → G) : G := by
  cases row with
  | nil => exact k0 rfl
  | cons a r => cases r with
    | nil => exact k1 a rfl
    | cons b r => exact k2 a b r rfl
theorem step7 {C1 E1 : Hp} (hC : erH C1 = erH (core1s i.kd i.pt i.made)) (hE : erH E1 = erH (entB x (.ss un) (.si num))) (F : Fr416 c) (hc : (nmK x, p) ∈ scfgs) (hw : i.w = false → ∀ j ∈ p.els, Nat.beq j 2 = false → sel i.b0 i.b1 j = true) (hr : ∀ a, (resV p.res).has a → a < 126)
    (hside : ∀ k : Prop, k → sideP (nmK x) num k) (l0 : i.kv0.length ≤ 59) (l1 : i.kv1.length ≤ 59) {row : List Nat}
    (hrow : row = rowL (notPk i) (Fast.sEq i.pt (s "body")) (sel i.b0 i.b1) (sel (Fast.sEq i.q0 i.pt) (Fast.sEq i.q1 i.pt)) (hasK (nmK x) p i.kv0 i.kv1) p.els)
    (hp : pickB [8, 9, 13, 14, 3, 6, 4, 7, 15, 26, 27, 28, 29, 30] bs = some ([scH (.si l), C1, homB i.b0 i.b1 i.q0 i.q1, othH i.w, tyAB i.a0, tyBB i.a1, [(5, .odict i.kv0)], [(9, .odict i.kv1)], nTy, subDH (nmK x) (s "") p.res 120, parsH p.ts, resH p.res, [(120, .list [])], E1], r))
    (k0 : row = [] → SemT c (execs b c.env) ⟨loc5 sort t ab (nmK x) (resV p.res), cel4, flatB ([(8, scH (.si l)), (9, core1s i.kd i.pt i.made), (13, homB i.b0 i.b1 i.q0 i.q1), (14, othH i.w), (3, tyAB i.a0), (6, tyBB i.a1), (4, [(5, .odict i.kv0)]), (7, [(9, .odict i.kv1)]), (15, nTy), (26, subDH (nmK x) (s "") p.res 120), (27, parsH p.ts), (28, resH p.res), (29, [(120, .list [])]), (30, entB x (.ss un) (.si num))] ++ r), 127⟩ KR)
    (k1 : ∀ j, row = [j] → SemT c (execs b c.env) ⟨loc5 sort t ab (nmK x) (resV p.res), cel4, flatB ([(8, scH (.si l)), (9, core1s i.kd i.pt i.made), (13, homB i.b0 i.b1 i.q0 i.q1), (14, othH i.w), (3, tyAB i.a0), (6, tyBB i.a1),
      (4, [(5, .odict (pkv j (keyOf (nmK x) p j) (vOf (unq (nmK x) num) ab) i.kv0 i.kv1).1)]), (7, [(9, .odict (pkv j (keyOf (nmK x) p j) (vOf (unq (nmK x) num) ab) i.kv0 i.kv1).2)]), (15, nTy), (26, subDH (nmK x) (keyOf (nmK x) p j) p.res 126), (27, parsH p.ts), (28, resH p.res), (29, [(120, .list [])]), (30, entB x (.ss (unq (nmK x) num)) (.si num)), (35, [(126, .list (ctlL p.ts j 0))])] ++ r), 127⟩ KR)
    (hl : l = 40 + t) (a1 a2 : Nat) (hr2 : (∃ j1 j2 q, row = j1 :: j2 :: q) → ∃ r', takeBk 32 r = some ([(122, .list [.ref a1, .ref a2])], r')) (k2 : ∀ j1 j2 q, row = j1 :: j2 :: q → (a1, a2) ∈ [(3, 7), (7, 3)] ∧ ∀ H, KR (.ref 129) ⟨[], cel4, hdlIn t a1 a2 ++ [(129, .tup [.bool false, .sb (eqInt (40 + t) (40 + t))])] ++ H, 130⟩) :
    SemT c (execs (pcs c.w.params 13 1 ++ b) c.env) ⟨loc5 sort t ab (nmK x) (resV p.res), cel4, flatB bs, 126⟩ KR := by
  obtain ⟨b1, np, b₀, su, hpp, tp, e⟩ := isTry_ok (try416 c.w.params)
  have e1 : tryBody (pcs c.w.params 13 1) = b1 := by rw [e]; rfl
  have e2 : hdlBody (pcs c.w.params 13 1) = b₀ :: su := by rw [e]; rfl
  rw [e]
  have kn := kn416 c.w.params
  have kn := Prod.mk.inj kn
  refine SemT.try (tab2_ok c.w) (glob65 _) F.C F.x (by rw [F.n]; exact kn.1) (by rw [F.n]; exact kn.2)
    (Kb := fun fl σ' => match fl with | .next => SemT c (execs b c.env) σ' KR | .ret v => KR v σ' | _ => False)
    (Xb := fun l' σ' => l' = l ∧ (∃ j1 j2 q, row = j1 :: j2 :: q) ∧ σ' = ⟨loc5 sort t ab (nmK x) (resV p.res), cel4, primIn l num un i (nmK x, p) ++ flatB r, 127⟩)
    (SemS.blk (tab2_ok c.w) F.C F.x.f (tm := primIn l num un i (nmK x, p)) (N := 126) (nx := 127) (ks := (primIn l num un i (nmK x, p)).map (·.1)) (nms := [126]) (rt := []) (rx := []) (xs := lnm5) (ps := [s "result"]) (xx := lnm5) (px := [s "result"]) rfl hp ?_ rfl (Nat.le_refl _) ?_)
    (fun _ _ z => z) ?_
  · unfold erH at hC hE
    simp only [primIn, primH0, opsH, subH, entP, flat, erH, List.map_append, List.append_assoc, List.append_nil]
    rw [hC, hE]
    rfl
  · rw [F.n, ← e1]
    refine cast (prim_run (KK := fun l H' nx' => SemT c (execs b c.env) ⟨l, cel4, H' ++ flatB r, nx'⟩ KR) (KR := fun v H' nx' => KR v ⟨[], cel4, H' ++ flatB r, nx'⟩) (X := fun l' lc H' nx' => l' = l ∧ (∃ j1 j2 q, row = j1 :: j2 :: q) ∧ (⟨lc, cel4, H' ++ flatB r, nx'⟩ : St) = ⟨loc5 sort t ab (nmK x) (resV p.res), cel4, primIn l num un i (nmK x, p) ++ flatB r, 127⟩) hc).symm (primP_of hw ?_)
    rw [← hrow]
    refine row3 row (fun hr0 => ?_) (fun j hr0 => ?_) fun j1 j2 q hr0 => ?_
    · rw [hr0]
      refine ⟨hr, cast (congrArg (fun H => SemT c (execs b c.env) ⟨loc5 sort t ab (nmK x) (resV p.res), cel4, H, 127⟩ KR) ?_) (k0 hr0)⟩
      simp only [primIn, primH0, opsH, subH, entP, flatB, List.append_assoc, List.cons_append, List.nil_append]
      rfl
    · have k1 := k1 j hr0
      rw [hr0]
      refine hside _ ⟨fun e => ?_, fun e => ?_⟩
      all_goals
        subst e
        refine opsP_of l0 l1 ⟨hr, cast (congrArg (fun H => SemT c (execs b c.env) ⟨_, cel4, H, 127⟩ KR) ?_) k1⟩
        simp only [primH0, opsH, subH, entP, flatB, List.append_assoc, List.cons_append, List.nil_append]
        rfl
    · rw [hr0]
      exact ⟨hr, rfl, ⟨j1, j2, q, rfl⟩, rfl⟩
  · rintro l' σ' ⟨rfl, ⟨j1, j2, q, hj⟩, rfl⟩ c' C' f' hw' he'
    obtain ⟨hm, hK⟩ := k2 j1 j2 q hj
    subst hl
    obtain ⟨r', hr2⟩ := hr2 ⟨j1, j2, q, hj⟩
    have hn' : c'.env.scope.names = scOf c'.w.params 416 := by rw [he', F.n, hw']
    have e2 : hdlBody (pcs c'.w.params 13 1) = b₀ :: su := by rw [hw']; exact e2
    refine SemS.blk (T := tab2q c'.w.params) (tab2q_ok c'.w) C' f' (is := [32, 42, 41]) (bs := (41, [(128, .exc 127)]) :: (42, [(127, .pdict [(lineS, .si (40 + t))] [] 60)]) :: (43, primIn (40 + t) num un i (nmK x, p)) :: r) (r := (43, primIn (40 + t) num un i (nmK x, p)) :: r') (t := [[(122, .list [.ref a1, .ref a2])], [(127, .pdict [(lineS, .si (40 + t))] [] 60)], [(128, .exc 127)]])
      (loc := loc6 sort t ab (nmK x) (resV p.res)) (tm := hdlIn t a1 a2) (N := 129) (nx := 130) (ks := [122, 127, 128]) (nms := [129]) (rt := []) (rx := []) (xs := []) (ps := []) (xx := []) (px := []) rfl ?_ (by rfl) (by kernel_rfl) (Nat.le_refl _) ?_
    · have h3 : takeBk 32 ((41, [(128, O.exc 127)]) :: (42, [(127, .pdict [(lineS, .si (40 + t))] [] 60)]) :: (43, primIn (40 + t) num un i (nmK x, p)) :: r) = some ([(122, .list [.ref a1, .ref a2])], (41, [(128, O.exc 127)]) :: (42, [(127, .pdict [(lineS, .si (40 + t))] [] 60)]) :: (43, primIn (40 + t) num un i (nmK x, p)) :: r') := by
        unfold takeBk
        unfold takeBk
        unfold takeBk
        rw [hr2]
        rfl
      unfold pickB
      rw [h3]
      rfl
    · rw [hn', ← e2]
      exact cast (of_map (hdl_runs c'.w.params sort t ab (nmK x) (resV p.res) _ _ _) hm).symm (hK _)
end
end Mine
namespace Mine
theorem pkv_eq {α : Type} {j : Nat} {key v : Str} {kv0 kv1 : List (Str × Str)} {k : List (Str × Str) → List (Str × Str) → α} : (match j with | 0 => k (putS kv0 key v) kv1 | _ => k kv0 (putS kv1 key v)) = k (pkv j key v kv0 kv1).1 (pkv j key v kv0 kv1).2 := by cases j <;> rfl
theorem ecfg1_mem {ab : Bool} {x j : Nat} {p : Prof} (hx : x ∈ [0, 1]) (hp : p ∈ profs) (hj : j ∈ [0, 1]) (hm : memN p.els j = true) : (ab, nmK x, p, j) ∈ ecfg1 := by
  unfold ecfg1
  refine List.mem_flatMap.mpr ⟨ab, bool_mem ab, List.mem_flatMap.mpr ⟨nmK x, ?_, List.mem_flatMap.mpr ⟨p, hp, List.mem_map.mpr ⟨j, List.mem_filter.mpr ⟨hj, hm⟩, rfl⟩⟩⟩⟩
  rcases List.mem_cons.mp hx with rfl | hx
  · exact .head _
  · rcases List.mem_cons.mp hx with rfl | hx
    · exact .tail _ (.head _)
    · cases hx
section
variable {c : Cd} {KR : KV} {sort t num : Int} {un : Str} {bs r : List (Nat × Hp)} {ab ab0 ab1 : Bool} {x : Nat} {p : Prof} {kv0 kv1 : List (Str × Str)}
theorem step8a (F : Fr416 c) (hx : x ∈ [0, 1]) (hp : pickB [16, 3, 4, 6, 7, 24, 26, 29, 32, 33] bs = some ([kinH, tyAB ab0, [(5, .odict kv0)], tyBB ab1, [(9, .odict kv1)], celH (some (.ref 104)) none, subDH (nmK x) (s "") p.res 120, [(120, .list [])], owO [], dueB kv0 kv1], r))
    (k : KR (.ref 127) ⟨[], cel4, flatB ([(16, kinH), (3, tyAB ab0), (4, [(5, .odict kv0)]), (6, tyBB ab1), (7, [(9, .odict kv1)]), (24, celH (some (.ref 104)) none), (26, subDH (nmK x) (s "") p.res 120), (29, [(120, .list [])]), (32, owO []), (33, dueB kv0 kv1), (40, [(127, .tup [.bool true, .bool true])])] ++ r), 128⟩) :
    SemT c (execs (pcs c.w.params 14 7) c.env) ⟨loc5 sort t ab (nmK x) (resV p.res), cel4, flatB bs, 127⟩ KR := by
  obtain ⟨r', hr', e⟩ : ∃ r', (x, r') ∈ ecfg0 ∧ ∀ nm op ctl, subDH nm op p.res ctl = subDH nm op r' ctl := by
    have e0 : ∃ r', r' ∈ [none, some 0] ∧ ∀ nm op ctl, subDH nm op p.res ctl = subDH nm op r' ctl := by
      cases p.res with
      | none => exact ⟨none, by decide, fun _ _ _ => rfl⟩
      | some i => exact ⟨some 0, by decide, fun _ _ _ => rfl⟩
    obtain ⟨r', h1, h2⟩ := e0
    exact ⟨r', (by decide : ∀ x ∈ [0, 1], ∀ r ∈ [none, some 0], (x, r) ∈ ecfg0) x hx r' h1, h2⟩
  refine SemT.of (K := fun fl σ' => match fl with | .ret v => KR v σ' | _ => False) (X := fun _ _ => False) (SemS.blk (tab2_ok c.w) F.C F.x.f (tm := endIn0 ab0 ab1 kv0 kv1 (nmK x) r') (N := 127) (nx := 128) (ks := (endIn0 ab0 ab1 kv0 kv1 (nmK x) r').map (·.1)) (nms := [127]) (rt := []) (rx := []) (xs := []) (ps := []) (xx := []) (px := []) rfl hp ?_ rfl (Nat.le_refl _) ?_) (fun fl σ' z => by cases fl <;> exact z) fun _ _ z => z
  · rw [e]; rfl
  rw [F.n]
  refine cast (of_map (end_runs0 c.w.params sort t ab ab0 ab1 kv0 kv1 (resV p.res) _ _ _) hr').symm ⟨⟨rfl, rfl⟩, ?_⟩
  refine cast (congrArg (fun H => KR (.ref 127) ⟨[], cel4, H, 128⟩) ?_) k
  rw [e]; rfl
theorem step8b {j : Nat} (F : Fr416 c) (hc : (ab, nmK x, p, j) ∈ ecfg1) (l0 : kv0.length ≤ 59) (l1 : kv1.length ≤ 59)
    (hp : pickB [16, 3, 4, 6, 7, 15, 24, 25, 26, 35, 32, 33, 30] bs = some ([kinH, tyAB ab0, [(5, .odict (pkv j (keyOf (nmK x) p j) (vOf un ab) kv0 kv1).1)], tyBB ab1, [(9, .odict (pkv j (keyOf (nmK x) p j) (vOf un ab) kv0 kv1).2)], nTy, celH (some (.ref 104)) none, typH p.ts, subDH (nmK x) (keyOf (nmK x) p j) p.res 126, [(126, .list (ctlL p.ts j 0))], owO [j], dueB kv0 kv1, entB x (.ss un) (.si num)], r))
    (k : KR (.ref 127) ⟨[], cel4, flatB ([(16, kinH), (3, tyAB ab0), (4, [(5, .odict (pkv j (keyOf (nmK x) p j) (vOf un ab) kv0 kv1).1)]), (6, tyBB ab1), (7, [(9, .odict (pkv j (keyOf (nmK x) p j) (vOf un ab) kv0 kv1).2)]), (15, nTy), (24, celH (some (.ref 104)) (some (.ref (tyA j)))), (25, typH p.ts), (26, subDH (nmK x) (keyOf (nmK x) p j) p.res 126), (35, [(126, .list (ctlL p.ts j 0))]), (32, owO [j]),
      (33, dueB (pkv j (keyOf (nmK x) p j) (vOf un ab) kv0 kv1).1 (pkv j (keyOf (nmK x) p j) (vOf un ab) kv0 kv1).2), (30, entB x (.ss un) (.si num)), (40, [(127, .tup [.bool true, .bool true])])] ++ r), 128⟩) :
    SemT c (execs (pcs c.w.params 14 7) c.env) ⟨loc5 sort t ab (nmK x) (resV p.res), cel4, flatB bs, 127⟩ KR := by
  have ep : ∀ k : List (Str × Str) → List (Str × Str) → Hp, put2 j (keyOf (nmK x) p j) (vOf un ab) kv0 kv1 k = k (pkv j (keyOf (nmK x) p j) (vOf un ab) kv0 kv1).1 (pkv j (keyOf (nmK x) p j) (vOf un ab) kv0 kv1).2 := fun k => pkv_eq
  have eq : ∀ {k : Prop}, k → eq2 j (keyOf (nmK x) p j) (vOf un ab) kv0 kv1 k := fun h => by
    cases j with
    | zero => exact ⟨putS_le60 l0, ⟨rfl, rfl⟩, h⟩
    | succ j => exact ⟨putS_le60 l1, ⟨rfl, rfl⟩, h⟩
  refine SemT.of (K := fun fl σ' => match fl with | .ret v => KR v σ' | _ => False) (X := fun _ _ => False) (SemS.blk (tab2_ok c.w) F.C F.x.f (loc := loc5b sort t ab (nmK x) (resV p.res)) (tm := endIn1 (due2H kv0 kv1) none num un (vOf un ab) ab0 ab1 kv0 kv1 (nmK x, p, j)) (N := 127) (nx := 128) (ks := (endIn1 (due2H kv0 kv1) none num un (vOf un ab) ab0 ab1 kv0 kv1 (nmK x, p, j)).map (·.1)) (nms := [127]) (rt := []) (rx := []) (xs := []) (ps := []) (xx := []) (px := []) rfl hp ?_ rfl (Nat.le_refl _) ?_) (fun fl σ' z => by cases fl <;> exact z) fun _ _ z => z
  · unfold endIn1
    rw [ep]; rfl
  rw [F.n]
  refine cast (of_map (end_runs1 c.w.params sort t num un ab0 ab1 kv0 kv1 _ _ _) hc).symm (eq ?_)
  refine cast (congrArg (fun H => KR (.ref 127) ⟨[], cel4, H, 128⟩) ?_) k
  unfold endIn1
  rw [ep, ep]; rfl
end
end Mine
namespace Mine
structure TPar where
  ns : List Int
  sort : Nat
  h0 : Nat
  h1 : Nat
  ab0 : Bool
  ab1 : Bool
structure TOk (p : TPar) : Prop where
  ns : p.ns.length ≤ 60
  so : p.sort ∈ [0, 1, 2, 3]
  h0 : p.h0 ∈ [0, 1, 2]
  h1 : p.h1 ∈ [0, 1, 2]
noncomputable def kdN : Nat → Nat
  | 1 => 0
  | n => n
noncomputable def homW (h0 h1 : Nat) : Bool := Nat.beq h0 0 || Nat.beq h1 0
noncomputable def rowQ (sort h0 h1 : Nat) (g0 g1 : Bool) (els : List Nat) : List Nat :=
  rowL (!Fast.sEq (kdOf (kdN sort)) (s "package")) (Fast.sEq (partOf sort) (s "body")) (sel (Nat.blt 0 h0) (Nat.blt 0 h1)) (sel (Fast.sEq (part1 sort h0) (partOf sort)) (Fast.sEq (part1 sort h1) (partOf sort))) (sel g0 g1) els
noncomputable def ownQ (sort h0 h1 : Nat) (g0 g1 : Bool) (els : List Nat) : List Nat :=
  ownL sort (sel (ltInt 0 (h0 : Int)) (ltInt 0 (h1 : Int))) (sel (eqInt (h0 : Int) 2) (eqInt (h1 : Int) 2)) (sel g0 g1) els []
noncomputable def rows5 : List Nat → Bool
  | [] => true
  | [0] => true
  | [1] => true
  | [0, 1] => true
  | [1, 0] => true
  | _ => false
noncomputable def rowCase (els : List Nat) (a b : List Nat) : Bool := lawCase.eqNs a b && rows5 b && allB (memN els) b
noncomputable def rowAll (sort h0 h1 : Nat) : Bool := allB (fun g0 => allB (fun g1 => allB (fun p => rowCase p.els (ownQ sort h0 h1 g0 g1 p.els) (rowQ sort h0 h1 g0 g1 p.els)) profs) [true, false]) [true, false]
theorem row_all : allB (fun sort => allB (fun h0 => allB (fun h1 => rowAll sort h0 h1) [0, 1, 2]) [0, 1, 2]) [0, 1, 2, 3] = true := by kernel_rfl
theorem eqNs_eq : ∀ {a b : List Nat}, lawCase.eqNs a b = true → a = b
  | [], [], _ => rfl
  | x :: a, y :: b, h => by
    have h : (Nat.beq x y && lawCase.eqNs a b) = true := h
    rw [Bool.and_eq_true] at h
    rw [Nat.eq_of_beq_eq_true h.1, eqNs_eq h.2]
theorem rows5_ok {l : List Nat} (h : rows5 l = true) : l ∈ [[], [0], [1], [0, 1], [1, 0]] := by
  unfold rows5 at h
  split at h <;> first | decide | cases h
theorem row_ok {sort h0 h1 : Nat} {g0 g1 : Bool} {p : Prof} (hs : sort ∈ [0, 1, 2, 3]) (a : h0 ∈ [0, 1, 2]) (b : h1 ∈ [0, 1, 2]) (hp : p ∈ profs) :
    ownQ sort h0 h1 g0 g1 p.els = rowQ sort h0 h1 g0 g1 p.els ∧ rowQ sort h0 h1 g0 g1 p.els ∈ [[], [0], [1], [0, 1], [1, 0]] ∧ ∀ j ∈ rowQ sort h0 h1 g0 g1 p.els, memN p.els j = true := by
  have h := allB_mem (allB_mem (allB_mem (allB_mem (allB_mem (allB_mem row_all _ hs) _ a) _ b) g0 (bool_mem g0)) g1 (bool_mem g1)) p hp
  unfold rowCase at h
  rw [Bool.and_eq_true, Bool.and_eq_true] at h
  exact ⟨eqNs_eq h.1.1, rows5_ok h.1.2, allB_mem h.2⟩
theorem ownL_g {sort : Nat} {l e g g' : Nat → Bool} : ∀ {els f : List Nat}, (∀ i ∈ els, Nat.beq i 2 = false → g i = g' i) → ownL sort l e g els f = ownL sort l e g' els f
  | [], _, _ => rfl
  | i :: r, f, h => by
    have hr : ∀ j ∈ r, Nat.beq j 2 = false → g j = g' j := fun j hj => h j (.tail _ hj)
    unfold ownL
    cases q : Nat.beq i 2 with
    | true => exact ownL_g hr
    | false => rw [h i (.head _) q, ownL_g hr, ownL_g hr]
theorem tagL_mem {b : Nat → Bool} : ∀ {els f : List Nat}, ∀ i ∈ tagL b els f, i ∈ f ∨ (i ∈ els ∧ Nat.beq i 2 = false)
  | [], _, _, h => .inl h
  | j :: r, f, i, h => by
    unfold tagL at h
    split at h
    · rename_i q
      simp only [Bool.and_eq_true, Bool.not_eq_true'] at q
      rcases tagL_mem i h with h | h
      · rcases List.mem_append.mp h with h | h
        · exact .inl h
        · exact .inr ⟨by rw [List.mem_singleton.mp h]; exact .head _, by rw [List.mem_singleton.mp h]; exact q.1.1⟩
      · exact .inr ⟨.tail _ h.1, h.2⟩
    · rcases tagL_mem i h with h | h
      · exact .inl h
      · exact .inr ⟨.tail _ h.1, h.2⟩
theorem filL_g {pe g g' : Nat → Bool} : ∀ {els f : List Nat}, (∀ i ∈ els, g i = g' i) → filL pe g els f = filL pe g' els f
  | [], _, _ => rfl
  | i :: r, f, h => by
    have hr : ∀ j ∈ r, g j = g' j := fun j hj => h j (.tail _ hj)
    unfold filL
    rw [h i (.head _), filL_g hr, filL_g hr]
theorem rowL_g {np bd : Bool} {b pe g g' : Nat → Bool} {els : List Nat} (h : ∀ i ∈ els, Nat.beq i 2 = false → g i = g' i) : rowL np bd b pe g els = rowL np bd b pe g' els := by
  unfold rowL
  rw [filL_g fun i hi => by
    rcases tagL_mem i hi with hi | hi
    · cases hi
    · exact h i hi.1 hi.2]
theorem els_three : ∀ p ∈ profs, ∀ i ∈ p.els, Nat.beq i 2 = false → i = 0 ∨ i = 1 := by decide +kernel
theorem hasK_sel {nm : Str} {p : Prof} (hp : p ∈ profs) {kv0 kv1 : List (Str × Str)} : ∀ i ∈ p.els, Nat.beq i 2 = false → hasK nm p kv0 kv1 i = sel (hasK nm p kv0 kv1 0) (hasK nm p kv0 kv1 1) i := fun i hi h => by
  rcases els_three p hp i hi h with rfl | rfl <;> rfl
end Mine
namespace Mine
namespace TPar
noncomputable def part (p : TPar) : Str := partOf p.sort
noncomputable def kd (p : TPar) : Nat := kdN p.sort
noncomputable def ents (p : TPar) : Hp := (ordOf p.h0 p.h1).flatMap fun e => match e with
  | 24 => entH 24 3 11
  | _ => entH 28 7 12
end TPar
noncomputable def lawC : Hp := [(37, .cell (some (.ref 0))), (38, .cell (some (.ref 10)))]
noncomputable def lawB (p : TPar) (n l : Int) (kv0 kv1 : List (Str × Str)) (hs : List Nat) : List (Nat × Hp) :=
  [(18, lawC), (0, poolH p.ns n), (1, [(10, .list [.ref 2, .ref 6])]), (2, [(2, .tup [.ref 3, .si (p.h0 : Int)])]), (3, tyAB p.ab0), (4, [(5, .odict kv0)]), (5, [(6, .tup [.ref 7, .si (p.h1 : Int)])]), (6, tyBB p.ab1), (7, [(9, .odict kv1)]), (8, scH (.si l)),
    (9, core1 p.kd p.part (5 + hs.length : Nat)), (10, core2 eN (lisN hs) p.kd (ordOf p.h0 p.h1) hs), (11, lisH eN (lisN hs) hs (presOf hs)), (12, histE hs 0), (13, homB (Nat.blt 0 p.h0) (Nat.blt 0 p.h1) (part1 p.sort p.h0) (part1 p.sort p.h1)), (14, othH (homW p.h0 p.h1)), (17, p.ents), (15, nTy), (16, kinH)]
noncomputable def inB (p : TPar) (n l : Int) (kv0 kv1 : List (Str × Str)) (hs : List Nat) : List (Nat × Hp) :=
  (20, [(103, .cell none)]) :: (21, [(102, .cell none)]) :: (22, [(101, .cell (some (.ref 36)))]) :: (23, [(100, .cell (some (.ref 0)))]) :: lawB p n l kv0 kv1 hs
noncomputable def dropNs : List Nat := [100, 101, 102, 103, 104, 105, 106, 107, 108, 109, 110, 111, 112, 113, 114, 115, 120, 122, 123, 124, 125, 126]
noncomputable def keepI : List Nat := [9, 10, 11, 12, 30, 31, 34, 40, 0, 1, 2, 3, 4, 5, 6, 7, 8, 13, 14, 15, 16, 17, 18]
noncomputable def keepT (p : TPar) (n l : Int) (kv0 kv1 : List (Str × Str)) (hs : List Nat) (x : Nat) (un : Str) (num : Int) : List Hp :=
  [core1s (kdOf p.kd) p.part (5 + (hs ++ [x]).length : Nat), core2 (enX hs.length) (lisX hs) p.kd (ordOf p.h0 p.h1) (hs ++ [x]), lisH (enX hs.length) (lisX hs) (hs ++ [x]) (presOf hs), histE hs 0, entB x (.ss un) (.si num), [(118, .tup [.ref 119, .int (-1)]), (119, .tup [.int hs.length])], newL hs x, [(127, .tup [.bool true, .bool true])],
    poolH p.ns n, [(10, .list [.ref 2, .ref 6])], [(2, .tup [.ref 3, .si (p.h0 : Int)])], tyAB p.ab0, [(5, .odict kv0)], [(6, .tup [.ref 7, .si (p.h1 : Int)])], tyBB p.ab1, [(9, .odict kv1)], scH (.si l), homB (Nat.blt 0 p.h0) (Nat.blt 0 p.h1) (part1 p.sort p.h0) (part1 p.sort p.h1), othH (homW p.h0 p.h1), nTy, kinH, p.ents, lawC]
noncomputable def TurnEnd (p : TPar) (n : Int) (kv0 kv1 : List (Str × Str)) (hs : List Nat) (v : V) (σ : St) : Prop :=
  (v = .ref 129 ∧ ∃ H a, σ = ⟨[], cel4, H, 130⟩ ∧ get H 129 = some (.tup [.bool false, .sb (eqInt a a)])) ∨
  (v = .ref 127 ∧ ∃ x ∈ [0, 1], ∃ n' l kv0' kv1' un num r bs, n ≤ n' ∧ n' ≤ n + 6 ∧ kv0'.length ≤ kv0.length + 1 ∧ kv1'.length ≤ kv1.length + 1 ∧ σ = ⟨[], cel4, flatB bs, 128⟩ ∧ pickB keepI bs = some (keepT p n' l kv0' kv1' hs x un num, r) ∧ ∀ a ∈ (flatB r).map (·.1), memN dropNs a = true)
theorem body416_len (P : Params) : (bodyOf P 416).length = 21 := by kernel_rfl
theorem body416 (P : Params) : bodyOf P 416 = pcs P 0 2 ++ (pcs P 2 2 ++ (pcs P 4 5 ++ (pcs P 9 1 ++ (pcs P 10 1 ++ (pcs P 11 2 ++ (pcs P 13 1 ++ pcs P 14 7)))))) := by
  have e : ∀ a n, pcs P a n ++ (bodyOf P 416).drop (a + n) = (bodyOf P 416).drop a := fun a n => by
    unfold pcs
    rw [← List.drop_drop]
    exact List.take_append_drop n _
  have e7 : pcs P 14 7 = (bodyOf P 416).drop 14 := List.take_of_length_le (by rw [List.length_drop, body416_len]; decide)
  rw [e7, e 13 1, e 11 2, e 10 1, e 9 1, e 4 5, e 2 2, e 0 2]
  rfl
theorem prof_mem {ts : List Nat} {res : Option Nat} (h1 : ts ∈ tsL) (h2 : res ∈ rsL) : (⟨ts, res⟩ : Prof) ∈ profs := by
  unfold profs
  exact List.mem_flatMap.mpr ⟨ts, h1, List.mem_map.mpr ⟨res, h2, rfl⟩⟩
theorem nm_mem {x : Nat} (hx : x ∈ [0, 1]) : nmK x ∈ nmL := by
  rcases List.mem_cons.mp hx with rfl | hx
  · exact .head _
  · rcases List.mem_cons.mp hx with rfl | hx
    · exact .tail _ (.head _)
    · cases hx
theorem scfg_mem {x : Nat} {p : Prof} (hx : x ∈ [0, 1]) (hp : p ∈ profs) : (nmK x, p) ∈ scfgs := List.mem_flatMap.mpr ⟨_, nm_mem hx, List.mem_map.mpr ⟨p, hp, rfl⟩⟩
theorem ocfg_mem {sort x : Nat} {p : Prof} (hs : sort ∈ [0, 1, 2, 3]) (hx : x ∈ [0, 1]) (hp : p ∈ profs) : (sort, nmK x, p) ∈ ocfgs := List.mem_flatMap.mpr ⟨_, hs, List.mem_flatMap.mpr ⟨_, nm_mem hx, List.mem_map.mpr ⟨p, hp, rfl⟩⟩⟩
theorem kdN_mem : ∀ sort ∈ [0, 1, 2, 3], kdN sort ∈ [0, 2, 3] := by decide
theorem ord_mem : ∀ h0 ∈ [0, 1, 2], ∀ h1 ∈ [0, 1, 2], ordOf h0 h1 ∈ ords := by decide
theorem dcfg_mem {p : TPar} (T : TOk p) {hs : List Nat} (hh : hs ∈ hists) {x : Nat} (hx : x ∈ [0, 1]) : (⟨p.kd, ordOf p.h0 p.h1, hs, x⟩ : DCfg) ∈ dcfgs :=
  List.mem_flatMap.mpr ⟨_, kdN_mem _ T.so, List.mem_flatMap.mpr ⟨_, ord_mem _ T.h0 _ T.h1, List.mem_flatMap.mpr ⟨hs, hh, List.mem_map.mpr ⟨x, hx, rfl⟩⟩⟩⟩
theorem resV_lt {r : Option Nat} {N : Nat} (hN : 35 ≤ N) : ∀ a, (resV r).has a → a < N := fun a h => by
  cases r with
  | none => exact h.elim
  | some i =>
    have h : tyA i = a := h
    rw [← h]
    match i with
    | 0 => exact Nat.lt_of_lt_of_le (by decide) hN
    | 1 => exact Nat.lt_of_lt_of_le (by decide) hN
    | _ + 2 => exact Nat.lt_of_lt_of_le (show 34 < 35 by decide) hN
noncomputable def sideB (x k : Nat) : Bool := (let num : Int := ((6 + k : Nat) : Int); let nm := nmK x
  decide (num.natAbs ≤ 1000000) && Nat.ble ((nm ++ s "#").length + (Str.ofString (toString num)).length) 16777216 && Nat.ble ((un1 nm num).length + (s "#").length) 16777216 && Nat.ble ((un1 nm num ++ s "#").length + (s "0").length) 16777216)
theorem side_all : allB (fun x => allB (fun k => sideB x k) [0, 1, 2, 3]) [0, 1] = true := by kernel_rfl
theorem hist_len : ∀ hs ∈ hists, hs.length ∈ [0, 1, 2, 3] := by decide
theorem side_ok {x : Nat} {hs : List Nat} (hx : x ∈ [0, 1]) (hh : hs ∈ hists) : ∀ k : Prop, k → sideP (nmK x) ((6 + hs.length : Nat) : Int) k := fun k hk => by
  have h := allB_mem (allB_mem side_all x hx) _ (hist_len hs hh)
  unfold sideB at h
  simp only [Bool.and_eq_true] at h
  obtain ⟨⟨⟨h1, h2⟩, h3⟩, h4⟩ := h
  exact ⟨of_decide_eq_true h1, Nat.le_of_ble_eq_true h2, Nat.le_of_ble_eq_true h3, Nat.le_of_ble_eq_true h4, hk⟩
theorem hom_ok : ∀ h0 ∈ [0, 1, 2], ∀ h1 ∈ [0, 1, 2], homW h0 h1 = false → Nat.blt 0 h0 = true ∧ Nat.blt 0 h1 = true := by decide
theorem pars_drop : allB (fun ts => allB (memN dropNs) ((parsH ts).map (·.1))) tsL = true := by kernel_rfl
theorem res_drop : allB (fun r => allB (memN dropNs) ((resH r).map (·.1))) rsL = true := by kernel_rfl
theorem dropB_ok : ∀ {r : List (Nat × Hp)}, (∀ b ∈ r, allB (memN dropNs) (b.2.map (·.1)) = true) → ∀ a ∈ (flatB r).map (·.1), memN dropNs a = true
  | [], _, a, h => nomatch h
  | b :: r, hb, a, h => by
    have h : a ∈ (b.2 ++ flatB r).map (·.1) := h
    rw [List.map_append] at h
    rcases List.mem_append.mp h with h | h
    · exact allB_mem (hb b (.head _)) a h
    · exact dropB_ok (fun b hb' => hb b (.tail _ hb')) a h
theorem pkv_len {j : Nat} {key v : Str} {kv0 kv1 : List (Str × Str)} : (pkv j key v kv0 kv1).1.length ≤ kv0.length + 1 ∧ (pkv j key v kv0 kv1).2.length ≤ kv1.length + 1 := by
  have e : ∀ kv : List (Str × Str), (putS kv key v).length ≤ kv.length + 1 := fun kv => by
    rw [putS_len]
    split <;> omega
  cases j with
  | zero => exact ⟨e kv0, Nat.le_succ _⟩
  | succ j => exact ⟨Nat.le_succ _, e kv1⟩
noncomputable def twoA (row : List Nat) : Nat × Nat := match row with
  | 1 :: _ => (7, 3)
  | _ => (3, 7)
theorem two_ok {row : List Nat} (h : row ∈ [[], [0], [1], [0, 1], [1, 0]]) {j1 j2 : Nat} {q : List Nat} (e : row = j1 :: j2 :: q) : twoA row ∈ [(3, 7), (7, 3)] ∧ owO row = [(122, .list [.ref (twoA row).1, .ref (twoA row).2])] := by
  simp only [List.mem_cons, List.not_mem_nil, or_false] at h
  rcases h with rfl | rfl | rfl | rfl | rfl
  · cases e
  · cases e
  · cases e
  · exact ⟨by decide, rfl⟩
  · exact ⟨by decide, rfl⟩
theorem one_mem {row : List Nat} (h : row ∈ [[], [0], [1], [0, 1], [1, 0]]) {j : Nat} (e : row = [j]) : j ∈ [0, 1] := by
  subst e
  simp only [List.mem_cons, List.not_mem_nil, or_false, List.cons.injEq, and_true, reduceCtorEq, and_false, false_or] at h
  rcases h with rfl | rfl <;> decide
section
variable {c : Cd} {p : TPar} {n l : Int} {kv0 kv1 : List (Str × Str)} {hs : List Nat}
theorem turn_body (F : Fr416 c) (T : TOk p) (hh : hs ∈ hists) (hn0 : 0 ≤ n) (hn1 : n ≤ 800) (l0 : kv0.length ≤ 58) (l1 : kv1.length ≤ 58) :
    SemT c (execs (bodyOf c.w.params 416) c.env) ⟨loc0 p.sort hs.length, cel4, flatB (inB p n l kv0 kv1 hs), 104⟩ (TurnEnd p n kv0 kv1 hs) := by
  rw [body416]
  refine step1 F hn0 (by omega) T.ns (Nat.le_refl _) (by rfl) fun x hx ts hts n1 e1 e2 => ?_
  refine step2 (n := n1) F (by omega) (by omega) T.ns (by rfl) fun res hres ab => ?_
  have hpr := prof_mem hts hres
  refine step3 (p := ⟨ts, res⟩) F (scfg_mem hx hpr) (by rfl) ?_
  refine step4 (kd := p.kd) (part := p.part) (ord := ordOf p.h0 p.h1) F (dcfg_mem T hh hx) (resV_lt (by decide)) (by rfl) ?_
  refine step5 (p := ⟨ts, res⟩) F (ocfg_mem T.so hx hpr) (by rfl) ?_
  refine step6 (p := ⟨ts, res⟩) F (resV_lt (by decide)) (by rfl) ?_
  obtain ⟨row, hrow⟩ : ∃ row, row = rowL (!Fast.sEq (kdOf p.kd) (s "package")) (Fast.sEq p.part (s "body")) (sel (Nat.blt 0 p.h0) (Nat.blt 0 p.h1)) (sel (Fast.sEq (part1 p.sort p.h0) p.part) (Fast.sEq (part1 p.sort p.h1) p.part)) (hasK (nmK x) ⟨ts, res⟩ kv0 kv1) (⟨ts, res⟩ : Prof).els := ⟨_, rfl⟩
  have hq : row = rowQ p.sort p.h0 p.h1 (hasK (nmK x) ⟨ts, res⟩ kv0 kv1 0) (hasK (nmK x) ⟨ts, res⟩ kv0 kv1 1) (⟨ts, res⟩ : Prof).els := hrow.trans (rowL_g (hasK_sel hpr))
  obtain ⟨q1, q2, q3⟩ := row_ok (g0 := hasK (nmK x) ⟨ts, res⟩ kv0 kv1 0) (g1 := hasK (nmK x) ⟨ts, res⟩ kv0 kv1 1) T.so T.h0 T.h1 hpr
  have how : ownL p.sort (sel (ltInt 0 (p.h0 : Int)) (ltInt 0 (p.h1 : Int))) (sel (eqInt (p.h0 : Int) 2) (eqInt (p.h1 : Int) 2)) (hasK (nmK x) ⟨ts, res⟩ kv0 kv1) (⟨ts, res⟩ : Prof).els [] = row := (ownL_g (hasK_sel hpr)).trans (q1.trans hq.symm)
  rw [how]
  rw [← hq] at q2 q3
  refine step7 (C1 := core1 p.kd p.part (5 + (hs ++ [x]).length : Nat)) (E1 := entB x (.str (uqS x (ofNm hs x 0).length)) (.int (6 + hs.length : Nat))) (i := ⟨homW p.h0 p.h1, (5 + (hs ++ [x]).length : Nat), kdOf p.kd, p.part, Nat.blt 0 p.h0, Nat.blt 0 p.h1, part1 p.sort p.h0, part1 p.sort p.h1, p.ab0, p.ab1, kv0, kv1⟩) (un := uqS x (ofNm hs x 0).length) (num := ((6 + hs.length : Nat) : Int)) (p := ⟨ts, res⟩) (row := row) rfl rfl F (scfg_mem hx hpr) (fun hw j hj h2 => ?_) (resV_lt (by decide)) (side_ok hx hh) (Nat.le_trans l0 (by decide)) (Nat.le_trans l1 (by decide)) hrow (by rfl) (fun e => ?_) (fun j e => ?_) rfl (twoA row).1 (twoA row).2 (fun ⟨j1, j2, q, e⟩ => ?_) (fun j1 j2 q e => ?_)
  · obtain ⟨w0, w1⟩ := hom_ok _ T.h0 _ T.h1 hw
    rcases els_three _ hpr j hj h2 with rfl | rfl
    · exact w0
    · exact w1
  · subst e
    refine step8a F hx (by rfl) (.inr ⟨rfl, x, hx, n1 + 1 + 1, 40 + (hs.length : Int), kv0, kv1, uqS x (ofNm hs x 0).length, ((6 + hs.length : Nat) : Int), _, _, by omega, by omega, Nat.le_succ _, Nat.le_succ _, rfl, by rfl, ?_⟩)
    refine dropB_ok ?_
    repeat' (first | exact List.forall_mem_nil _ | refine List.forall_mem_cons.mpr ⟨?_, ?_⟩)
    all_goals first | rfl | exact allB_mem pars_drop _ hts | exact allB_mem res_drop _ hres
  · subst e
    refine step8b (c := c) F (ecfg1_mem hx hpr (one_mem q2 rfl) (q3 j (.head _))) (Nat.le_trans l0 (by decide)) (Nat.le_trans l1 (by decide)) (by rfl) (.inr ⟨rfl, x, hx, n1 + 1 + 1, 40 + (hs.length : Int), _, _, unq (nmK x) ((6 + hs.length : Nat) : Int), ((6 + hs.length : Nat) : Int), _, _, by omega, by omega, pkv_len.1, pkv_len.2, rfl, by rfl, ?_⟩)
    refine dropB_ok ?_
    repeat' (first | exact List.forall_mem_nil _ | refine List.forall_mem_cons.mpr ⟨?_, ?_⟩)
    all_goals first | rfl | exact allB_mem pars_drop _ hts | exact allB_mem res_drop _ hres
  · rw [← (two_ok q2 e).2]
    exact ⟨_, by rfl⟩
  · exact ⟨(two_ok q2 e).1, fun H => .inl ⟨rfl, _, 40 + (hs.length : Int), rfl, by rfl⟩⟩
end
end Mine
namespace Mine
theorem Rel.bump {c : Cd} {ρ : Rho} {σ : St} {s : Shared} {N : Nat} (R : Rel c ρ σ s) (h : σ.nx ≤ N) : Rel c ρ { σ with nx := N } s := R.elim fun news R => ⟨news, R.F, R.N, R.nm.up h, R.loc, R.cel, R.sh⟩
theorem LedIs.cong {P : Params} {ρ ρ' : Rho} {A : Hp} {ns : List (Addr × Obj)} (l : LedIs P ρ A ns) : (∀ a ∈ A.map (·.1) ++ refsH A, ρ' a = ρ a) → LedIs P ρ' A ns := by
  unfold LedIs at l ⊢
  induction l with
  | nil => exact fun _ => .nil
  | cons x _ ih =>
    intro out
    refine .cons ⟨?_, x.2.cong fun a ha => ?_⟩ (ih fun a ha => out a ?_)
    · rw [out _ (.head _)]; exact x.1
    · exact out _ (List.mem_append_right _ (List.mem_append_left _ (has_refs ha)))
    · rcases List.mem_append.mp ha with ha | ha
      · exact List.mem_append_left _ (.tail _ ha)
      · exact List.mem_append_right _ (List.mem_append_right _ ha)
theorem frame' {c : Cd} {ρ : Rho} {σ : St} {s : Shared} (R : Rel c ρ σ s) {tm Hr : Hp} {N : Nat} (pm : σ.H.Perm (tm ++ Hr)) (hN : σ.nx ≤ N) :
    ∃ c1 : Cd, Rel c1 ρ ⟨[], [], tm, N⟩ s ∧
      (∀ ρ2 σ2 s2, (∀ a ∈ Hr.map (·.1) ++ refsH Hr, ρ2 a = ρ a) → LocIs ρ2 σ.loc c.ml → CelIs ρ2 σ.cel c.env.cells → Rel c1 ρ2 σ2 s2 → Rel c ρ2 { σ with H := σ2.H ++ Hr, nx := σ2.nx } s2) := by
  exact R.elim fun news R => (R.nm.cut pm).elim fun ns z => z.elim fun nr z => ⟨c.part nr, ⟨ns, R.F, fun q hq => R.N q (z.1.mem_iff.mpr hq), z.2.1.up hN, fun _ _ e => nS e, fun _ _ e => nS e, R.sh⟩, fun ρ2 σ2 s2 hr hl hc R2 => R2.elim fun ns2 R2 => ⟨ns2 ++ nr, R2.F, fun q hq => R2.N q (perm3.mem_iff.mpr hq), R2.nm.join (LedIs.cong z.2.2.1 hr) z.2.2.2, hl, hc, R2.sh⟩⟩
noncomputable def allN (f : Nat → Bool) (H : Hp) : Bool := allB f (H.map (·.1) ++ refsH H)
theorem refsH_app : ∀ {A B : Hp}, refsH (A ++ B) = refsH A ++ refsH B
  | [], _ => rfl
  | p :: r, B => by
    show refs p.2 ++ refsH (r ++ B) = (refs p.2 ++ refsH r) ++ refsH B
    rw [refsH_app, List.append_assoc]
theorem allB_of {α : Type} {f : α → Bool} : ∀ {l : List α}, (∀ x ∈ l, f x = true) → allB f l = true
  | [], _ => rfl
  | x :: r, h => by
    show (f x && allB f r) = true
    rw [h x (.head _), allB_of fun y hy => h y (.tail _ hy)]; rfl
theorem allN_flat {f : Nat → Bool} : ∀ {l : List Hp}, (∀ b ∈ l, allN f b = true) → allN f (flat l) = true
  | [], _ => rfl
  | b :: r, h => by
    have h1 := h b (.head _)
    have h2 := allN_flat fun b hb => h b (.tail _ hb)
    unfold allN at h1 h2 ⊢
    refine allB_of fun x hx => ?_
    have hx : x ∈ (b ++ flat r).map (·.1) ++ refsH (b ++ flat r) := hx
    rw [List.map_append, refsH_app] at hx
    simp only [List.mem_append] at hx
    rcases hx with (hx | hx) | (hx | hx)
    · exact allB_mem h1 x (List.mem_append_left _ hx)
    · exact allB_mem h2 x (List.mem_append_left _ hx)
    · exact allB_mem h1 x (List.mem_append_right _ hx)
    · exact allB_mem h2 x (List.mem_append_right _ hx)
noncomputable def keptN (a : Nat) : Bool := !memN dropNs a
theorem kept_place : dcfgs.map (fun c => allN keptN (core2 (enX c.hs.length) (lisX c.hs) c.kd c.ord (c.hs ++ [c.x]) ++ lisH (enX c.hs.length) (lisX c.hs) (c.hs ++ [c.x]) (presOf c.hs) ++ histE c.hs 0 ++ newL c.hs c.x)) = dcfgs.map fun _ => true := by kernel_rfl
theorem kept_ents : allB (fun h0 => allB (fun h1 => allN keptN (TPar.ents ⟨[], 0, h0, h1, true, true⟩) && allN (fun a => Nat.blt a 40) (TPar.ents ⟨[], 0, h0, h1, true, true⟩)) [0, 1, 2]) [0, 1, 2] = true := by kernel_rfl
theorem ents_ok {p : TPar} (T : TOk p) : allN keptN p.ents = true ∧ allN (fun a => Nat.blt a 40) p.ents = true := by
  have h := allB_mem (allB_mem kept_ents _ T.h0) _ T.h1
  rw [Bool.and_eq_true] at h
  exact h
noncomputable def placeT (p : TPar) (hs : List Nat) (x : Nat) (un : Str) (num : Int) : List Hp :=
  [core1s (kdOf p.kd) p.part (5 + (hs ++ [x]).length : Nat), core2 (enX hs.length) (lisX hs) p.kd (ordOf p.h0 p.h1) (hs ++ [x]), lisH (enX hs.length) (lisX hs) (hs ++ [x]) (presOf hs), histE hs 0, entB x (.ss un) (.si num), [(118, .tup [.ref 119, .int (-1)]), (119, .tup [.int hs.length])], newL hs x, [(127, .tup [.bool true, .bool true])]]
noncomputable def restT (p : TPar) (n l : Int) (kv0 kv1 : List (Str × Str)) : List Hp :=
  [poolH p.ns n, [(10, .list [.ref 2, .ref 6])], [(2, .tup [.ref 3, .si (p.h0 : Int)])], tyAB p.ab0, [(5, .odict kv0)], [(6, .tup [.ref 7, .si (p.h1 : Int)])], tyBB p.ab1, [(9, .odict kv1)], scH (.si l), homB (Nat.blt 0 p.h0) (Nat.blt 0 p.h1) (part1 p.sort p.h0) (part1 p.sort p.h1), othH (homW p.h0 p.h1), nTy, kinH, p.ents, lawC]
theorem flat_app : ∀ {a b : List Hp}, flat (a ++ b) = flat a ++ flat b
  | [], _ => rfl
  | p :: r, b => by
    show p ++ flat (r ++ b) = (p ++ flat r) ++ flat b
    rw [flat_app, List.append_assoc]
theorem keepT_eq {p : TPar} {n l : Int} {kv0 kv1 : List (Str × Str)} {hs : List Nat} {x : Nat} {un : Str} {num : Int} : flat (keepT p n l kv0 kv1 hs x un num) = flat (placeT p hs x un num) ++ flat (restT p n l kv0 kv1) := by
  rw [← flat_app]; rfl
theorem allN_app {f : Nat → Bool} {A B : Hp} (h : allN f (A ++ B) = true) : allN f A = true ∧ allN f B = true := by
  unfold allN at h ⊢
  rw [List.map_append, refsH_app] at h
  refine ⟨allB_of fun x hx => allB_mem h x ?_, allB_of fun x hx => allB_mem h x ?_⟩ <;> simp only [List.mem_append] at hx ⊢ <;> rcases hx with hx | hx <;> simp [hx]
theorem fm {α : Type} {P : α → Prop} {a : α} {r : List α} (h : P a) (h' : ∀ b ∈ r, P b) : ∀ b ∈ a :: r, P b := List.forall_mem_cons.mpr ⟨h, h'⟩
theorem rest_ok {p : TPar} (T : TOk p) {n l : Int} {kv0 kv1 : List (Str × Str)} : allN keptN (flat (restT p n l kv0 kv1)) = true ∧ allN (fun a => Nat.blt a 40) (flat (restT p n l kv0 kv1)) = true := by
  obtain ⟨e1, e2⟩ := ents_ok T
  have h3 : ∀ w, allN keptN (othH w) = true ∧ allN (fun a => Nat.blt a 40) (othH w) = true := fun w => by cases w <;> exact ⟨rfl, rfl⟩
  have k : ∀ b ∈ restT p n l kv0 kv1, b = p.ents ∨ b = othH (homW p.h0 p.h1) ∨ (allN keptN b = true ∧ allN (fun a => Nat.blt a 40) b = true) := by
    unfold restT
    refine fm (.inr (.inr (by constructor <;> kernel_rfl))) (fm (.inr (.inr (by constructor <;> kernel_rfl))) (fm (.inr (.inr (by constructor <;> kernel_rfl))) (fm (.inr (.inr (by constructor <;> kernel_rfl))) (fm (.inr (.inr (by constructor <;> kernel_rfl))) (fm (.inr (.inr (by constructor <;> kernel_rfl))) (fm (.inr (.inr (by constructor <;> kernel_rfl))) (fm (.inr (.inr (by constructor <;> kernel_rfl))) (fm (.inr (.inr (by constructor <;> kernel_rfl))) (fm (.inr (.inr (by constructor <;> kernel_rfl))) (fm (.inr (.inl rfl)) (fm (.inr (.inr (by constructor <;> kernel_rfl))) (fm (.inr (.inr (by constructor <;> kernel_rfl))) (fm (.inl rfl) (fm (.inr (.inr (by constructor <;> kernel_rfl))) fun _ h => nomatch h))))))))))))))
  refine ⟨allN_flat fun b hb => ?_, allN_flat fun b hb => ?_⟩
  · rcases k b hb with e | e | e
    · rw [e]; exact e1
    · rw [e]; exact (h3 _).1
    · exact e.1
  · rcases k b hb with e | e | e
    · rw [e]; exact e2
    · rw [e]; exact (h3 _).2
    · exact e.2
theorem place_ok {p : TPar} (T : TOk p) {hs : List Nat} (hh : hs ∈ hists) {x : Nat} (hx : x ∈ [0, 1]) {un : Str} {num : Int} : allN keptN (flat (placeT p hs x un num)) = true := by
  have h := of_map kept_place (dcfg_mem T hh hx)
  obtain ⟨h, h4⟩ := allN_app h
  obtain ⟨h, h3⟩ := allN_app h
  obtain ⟨h1, h2⟩ := allN_app h
  unfold placeT
  exact allN_flat (fm (by kernel_rfl) (fm h1 (fm h2 (fm h3 (fm (by kernel_rfl) (fm (by kernel_rfl) (fm h4 (fm (by kernel_rfl) fun _ h => nomatch h))))))))
theorem plIn_eq {p : TPar} {hs : List Nat} {x : Nat} {un : Str} {num : Int} : erH (flat (placeT p hs x un num)) = erH (plIn p.part un num ⟨p.kd, ordOf p.h0 p.h1, hs, x⟩ ++ retH true true 127) := by
  simp only [placeT, flat, plIn, core_eq, entY, entB, newL, erH, List.map_append, List.append_assoc, List.append_nil, List.map_cons, List.cons_append, List.nil_append, List.map_nil]
  rfl
theorem histE_app {x : Nat} : ∀ {hs : List Nat} {i : Nat}, histE (hs ++ [x]) i = histE hs i ++ oldE (i + hs.length) x
  | [], i => by show oldE i x ++ [] = [] ++ oldE i x; rw [List.append_nil]; rfl
  | y :: r, i => by
    show oldE i y ++ histE (r ++ [x]) (i + 1) = (oldE i y ++ histE r (i + 1)) ++ oldE (i + (r.length + 1)) x
    rw [histE_app, List.append_assoc]
    congr 3
    omega
noncomputable def newL2 (hs : List Nat) (x : Nat) : Hp := match memN hs x with
  | true => []
  | false => [(eN hs.length + 4, .olist [.ref (eN hs.length)])]
theorem lis_perm : ∀ hs ∈ hists, ∀ x ∈ [0, 1], (lisH eN (lisN (hs ++ [x])) (hs ++ [x]) (presOf hs) ++ newL2 hs x).Perm (lisH eN (lisN (hs ++ [x])) (hs ++ [x]) (presOf (hs ++ [x]))) := by
  intro hs hh x hx
  simp only [hists, List.mem_cons, List.not_mem_nil, or_false] at hh hx
  rcases hx with rfl | rfl <;> rcases hh with rfl | rfl | rfl | rfl | rfl | rfl | rfl | rfl | rfl | rfl | rfl | rfl | rfl | rfl | rfl <;> first | exact List.Perm.refl _ | exact List.Perm.swap _ _ _
end Mine
namespace Mine
theorem ii416 (P : Params) : fnI P 416 = some (ii P 416) := by kernel_rfl
noncomputable def cel4r : List (Str × Nat) := [(s "t", 103), (s "types", 102), (s "kinds", 101), (s "pool", 100)]
theorem cel4_r {x : Str} {a : Nat} (h : lkS cel4 x = some a) : lkS cel4r x = some a := by
  have m := lkS_mem h
  simp only [cel4, List.mem_cons, List.not_mem_nil, or_false, Prod.mk.injEq] at m
  rcases m with ⟨rfl, rfl⟩ | ⟨rfl, rfl⟩ | ⟨rfl, rfl⟩ | ⟨rfl, rfl⟩ <;> kernel_rfl
theorem SemT.recel {c : Cd} {t : Sem Flow} {loc : List (Str × V)} {cel cel' : List (Str × Nat)} {H : Hp} {nx : Nat} {KR : KV} (hc : ∀ x a, lkS cel x = some a → lkS cel' x = some a) (h : SemT c t ⟨loc, cel, H, nx⟩ KR) : SemT c t ⟨loc, cel', H, nx⟩ KR := fun m ρ s Q E hE R q =>
  h m ρ s Q E hE (let ⟨news, R⟩ := R; ⟨news, R.F, R.N, R.nm, R.loc, fun x a e => R.cel x a (hc x a e), R.sh⟩) q
theorem enter416 (P : Params) (sv tv : Int) (loc : List (Str × V)) (cel : List (Str × Nat)) (H : Hp) : enterS (ii P 416).sc.names (ii P 416).pars [.ref 0, .ref 32, .si sv, .ref 10, .si tv, .ref 36] ⟨loc, cel, H, 100⟩ = ⟨loc0 sv tv, cel4r, (103, .cell none) :: (102, .cell none) :: (101, .cell (some (.ref 36))) :: (100, .cell (some (.ref 0))) :: H, 104⟩ := by kernel_rfl
theorem ok416 (P : Params) : (Nat.beq (ii P 416).pars.length (ii P 416).pars.length && parOk (ii P 416).sc.names (ii P 416).pars && celFirst (ii P 416).sc.names (ii P 416).sc.names) = true := by kernel_rfl
theorem len416 (P : Params) : (ii P 416).pars.length = 6 := by kernel_rfl
theorem fn416 (w : World) : FnOk (KK w) 416 (ii w.params 416) := ((tab_ok w).fns 416 _ (by
  show (match memN fnsL 416 with | true => fnI w.params 416 | false => none) = _
  exact ii416 w.params)).1
theorem eN_ge (i : Nat) : 40 ≤ eN i := Nat.le_add_right 40 _
theorem eN_lt : ∀ hs ∈ hists, eN hs.length < 100 := by decide
theorem drop_ge : ∀ a ∈ dropNs, 100 ≤ a := by decide
theorem go_perm {p : TPar} {n l : Int} {kv0 kv1 : List (Str × Str)} {hs : List Nat} (hh : hs ∈ hists) {x : Nat} (hx : x ∈ [0, 1]) :
    ((plOut p.part ⟨p.kd, ordOf p.h0 p.h1, hs, x⟩ ++ retH true true (eN hs.length + 5) ++ newOut ⟨p.kd, ordOf p.h0 p.h1, hs, x⟩) ++ flat (restT p n l kv0 kv1)).Perm (flatB ((40, retH true true (eN hs.length + 5)) :: lawB p n l kv0 kv1 (hs ++ [x]))) := by
  have e : (plOut p.part ⟨p.kd, ordOf p.h0 p.h1, hs, x⟩ ++ retH true true (eN hs.length + 5) ++ newOut ⟨p.kd, ordOf p.h0 p.h1, hs, x⟩) ++ flat (restT p n l kv0 kv1) =
      flatB [(9, core1 p.kd p.part (5 + (hs ++ [x]).length : Nat)), (10, core2 eN (lisN (hs ++ [x])) p.kd (ordOf p.h0 p.h1) (hs ++ [x])), (11, lisH eN (lisN (hs ++ [x])) (hs ++ [x]) (presOf hs)), (12, histE hs 0), (40, retH true true (eN hs.length + 5)), (51, newL2 hs x), (52, oldE hs.length x),
        (0, poolH p.ns n), (1, [(10, .list [.ref 2, .ref 6])]), (2, [(2, .tup [.ref 3, .si (p.h0 : Int)])]), (3, tyAB p.ab0), (4, [(5, .odict kv0)]), (5, [(6, .tup [.ref 7, .si (p.h1 : Int)])]), (6, tyBB p.ab1), (7, [(9, .odict kv1)]), (8, scH (.si l)), (13, homB (Nat.blt 0 p.h0) (Nat.blt 0 p.h1) (part1 p.sort p.h0) (part1 p.sort p.h1)), (14, othH (homW p.h0 p.h1)), (15, nTy), (16, kinH), (17, p.ents), (18, lawC)] := by
    simp only [plOut, newOut, core_eq, flatB, flat, restT, List.append_assoc]
    rfl
  rw [e]
  refine (pickB_perm (is := [40, 18, 0, 1, 2, 3, 4, 5, 6, 7, 8, 9, 10, 11, 51, 12, 52, 13, 14, 17, 15, 16]) (by rfl)).trans ?_
  have h : ∀ B : Hp, (lisH eN (lisN (hs ++ [x])) (hs ++ [x]) (presOf hs) ++ (newL2 hs x ++ (histE hs 0 ++ (oldE hs.length x ++ B)))).Perm (lisH eN (lisN (hs ++ [x])) (hs ++ [x]) (presOf (hs ++ [x])) ++ (histE (hs ++ [x]) 0 ++ B)) := fun B => by
    rw [← List.append_assoc, ← List.append_assoc (histE hs 0), histE_app, Nat.zero_add]
    exact (lis_perm hs hh x hx).append_right _
  simp only [flat, flatB, List.append_assoc, List.append_nil, lawB]
  repeat (first | exact h _ | refine List.Perm.append_left _ ?_)
section
variable {c : Cd} {p : TPar} {n l : Int} {kv0 kv1 : List (Str × Str)} {hs : List Nat}
theorem turn_ok {m : Nat} (ho : c.outer = []) (C : Ck false c (m + 61)) (XB : (KK c.w).In c.base) (TB : Top view0 (looseW view0 lo) c.mean c.mg c.mb c.base)
    (T : TOk p) (hh : hs ∈ hists) (hn0 : 0 ≤ n) (hn1 : n ≤ 800) (l0 : kv0.length ≤ 58) (l1 : kv1.length ≤ 58)
    {ρ : Rho} {s : Shared} {loc : List (Str × V)} {cel : List (Str × Nat)} {us : List Value} {Q E : Value → Shared → Prop} (R : Rel c ρ ⟨loc, cel, flatB (lawB p n l kv0 kv1 hs), eN hs.length⟩ s) (D : All2 (Den ρ) [.ref 0, .ref 32, .si p.sort, .ref 10, .si hs.length, .ref 36] us)
    (k0 : ∀ ρ' H u s' a, ρ.le ρ' → Rel c ρ' ⟨loc, cel, H, 130⟩ s' → Den ρ' (.ref 129) u → get H 129 = some (.tup [.bool false, .sb (eqInt a a)]) → Q u s')
    (k1 : ∀ ρ' u s', ∀ x ∈ [0, 1], ∀ n' l' kv0' kv1', n ≤ n' → n' ≤ n + 6 → kv0'.length ≤ kv0.length + 1 → kv1'.length ≤ kv1.length + 1 → ρ.le ρ' →
      Rel c ρ' ⟨loc, cel, flatB ((40, retH true true (eN hs.length + 5)) :: lawB p n' l' kv0' kv1' (hs ++ [x])), eN (hs.length + 1)⟩ s' → Den ρ' (.ref (eN hs.length + 5)) u → Q u s') :
    wpAny (MM c.w) c.A (call (.ref 416) us) Q E s := by
  have hlt := eN_lt hs hh
  have R0 : Rel c ρ ⟨loc, cel, flatB (lawB p n l kv0 kv1 hs), 100⟩ s := R.bump (Nat.le_of_lt hlt)
  have loc0' : LocIs ρ loc c.ml := by obtain ⟨_, RA⟩ := R; exact RA.loc
  have cel0' : CelIs ρ cel c.env.cells := by obtain ⟨_, RA⟩ := R; exact RA.cel
  have fr : ∀ a ad, ρ a = some ad → a < eN hs.length := fun a ad e => by
    obtain ⟨_, RA⟩ := R
    rcases Nat.lt_or_ge a (eN hs.length) with h | h
    · exact h
    · rw [RA.fresh a h] at e; cases e
  have hdp := C.dp
  have hun := C.un
  refine wpAny_call (callT_ok (n := 60) (K := fun v σ' => σ'.loc = loc ∧ σ'.cel = cel ∧ TurnEnd p n kv0 kv1 hs v ⟨[], cel4, σ'.H, σ'.nx⟩) ho (C.le (by omega)) (fn416 c.w) (by rw [← ho]; exact C.hA) (C.hh rfl) (by omega) (by omega) XB TB (ok416 _) R0 D (by rw [len416, ← D.length]; rfl) (fun c' C' X' hw hn => ?_) (fun ρ' σ' v u s' le R' D' h' => ?_))
  · rw [enter416]
    have F : Fr416 c' := ⟨X', C', by rw [hn, hw]; unfold scOf; rw [ii416]⟩
    have := turn_body (p := p) (l := l) F T hh hn0 hn1 l0 l1
    have eb : (ii c.w.params 416).body = bodyOf c'.w.params 416 := by rw [hw]; unfold bodyOf; rw [ii416]
    rw [eb]
    refine SemT.recel (fun x a => cel4_r) (SemT.mono this fun v σ' z => ?_)
    rcases z with ⟨rfl, H, a, rfl, hg⟩ | ⟨rfl, x, hx, n', l', kv0', kv1', un, num, r, bs, q1, q2, q3, q4, rfl, q5, q6⟩
    · exact ⟨rfl, rfl, .inl ⟨rfl, H, a, rfl, hg⟩⟩
    · exact ⟨rfl, rfl, .inr ⟨rfl, x, hx, n', l', kv0', kv1', un, num, r, bs, q1, q2, q3, q4, rfl, q5, q6⟩⟩
  · obtain ⟨lo, ce, HH, nx⟩ := σ'
    obtain ⟨rfl, rfl, h'⟩ := h'
    rcases h' with ⟨rfl, H, a, e, hg⟩ | ⟨rfl, x, hx, n', l', kv0', kv1', un, num, r, bs, q1, q2, q3, q4, e, q5, q6⟩
    · have eH := congrArg St.H e
      have eN := congrArg St.nx e
      dsimp only at eH eN
      clear e
      obtain rfl := eH
      obtain rfl := eN
      exact k0 ρ' _ u s' a le R' D' hg
    · have eH := congrArg St.H e
      have eN := congrArg St.nx e
      dsimp only at eH eN
      clear e
      obtain rfl := eH
      obtain rfl := eN
      have pm := pickB_perm q5
      rw [keepT_eq] at pm
      have kept : ∀ a ∈ (flat (placeT p hs x un num) ++ flat (restT p n' l' kv0' kv1')).map (·.1) ++ refsH (flat (placeT p hs x un num) ++ flat (restT p n' l' kv0' kv1')), keptN a = true := fun a ha => by
        rw [List.map_append, refsH_app] at ha
        simp only [List.mem_append] at ha
        have h1 := place_ok T hh hx (un := un) (num := num)
        have h2 := (rest_ok T (n := n') (l := l') (kv0 := kv0') (kv1 := kv1')).1
        rcases ha with (ha | ha) | (ha | ha)
        · exact allB_mem h1 a (List.mem_append_left _ ha)
        · exact allB_mem h2 a (List.mem_append_left _ ha)
        · exact allB_mem h1 a (List.mem_append_right _ ha)
        · exact allB_mem h2 a (List.mem_append_right _ ha)
      have notB : ∀ a, keptN a = true → memN ((flatB r).map (·.1)) a = false := fun a ha => by
        cases z : memN ((flatB r).map (·.1)) a with
        | false => rfl
        | true =>
          have := q6 a (memN_of z)
          unfold keptN at ha
          rw [this] at ha; cases ha
      have low : ∀ a, a < 100 → keptN a = true := fun a ha => by
        unfold keptN
        cases z : memN dropNs a with
        | false => rfl
        | true => exact absurd ha (Nat.not_lt.mpr (drop_ge a (memN_of z)))
      have leB : ρ.le (ρ'.off ((flatB r).map (·.1))) := fun a ad e => by
        rw [Rho.off_of (notB a (low a (Nat.lt_trans (fr a ad e) hlt)))]
        exact le a ad e
      have R1 := R'.letgo pm (allB_of fun a ha => by rw [notB a (kept a ha)]; rfl) (loc0'.mono leB) (cel0'.mono leB)
      have R2 := R1.retag (H1 := (plIn p.part un num ⟨p.kd, ordOf p.h0 p.h1, hs, x⟩ ++ retH true true 127) ++ flat (restT p n' l' kv0' kv1')) (.refl _) (by
        have := plIn_eq (p := p) (hs := hs) (x := x) (un := un) (num := num)
        unfold erH at this
        rw [List.map_append, List.map_append (l₁ := plIn _ _ _ _ ++ _), this])
      obtain ⟨c1, R3, up⟩ := frame' R2 (N := 131) (.refl _) (show 128 ≤ 131 by decide)
      have hren := of_map (List.map_inj_left.mp (ren_runs p.part un num true true fun v' H' nx' => v' = .ref (eN hs.length + 5) ∧ H' = plOut p.part ⟨p.kd, ordOf p.h0 p.h1, hs, x⟩ ++ retH true true (eN hs.length + 5) ++ newOut ⟨p.kd, ordOf p.h0 p.h1, hs, x⟩ ∧ nx' = eN (hs.length + 1)) 127 (.head _)) (dcfg_mem T hh hx)
      have hsim := cast hren.symm ⟨rfl, rfl, rfl⟩
      obtain ⟨gl, v', H', nx', S', rfl, rfl, rfl⟩ := fin_ok hsim
      have R4 := sim_rel (loc := []) (cel := []) R3 S' (fun _ _ e => (nomatch e)) (fun _ _ e => (nomatch e))
      have le2 : ρ.le fun a => ρ'.off ((flatB r).map (·.1)) (gf (eN hs.length) gl 131 a) := fun a ad e => by
        show ρ'.off _ (gf _ _ _ a) = _
        rw [gf_lt (fr a ad e)]
        exact leB a ad e
      have R5 := up _ _ _ (fun a ha => congrArg (ρ'.off ((flatB r).map (·.1))) (gf_lt (Nat.lt_of_lt_of_le (blt_lt.mp (allB_mem (rest_ok T (n := n') (l := l') (kv0 := kv0') (kv1 := kv1')).2 a ha)) (eN_ge _)))) (loc0'.mono le2) (cel0'.mono le2) R4
      have R6 := R5.retag (H1 := flatB ((40, retH true true (eN hs.length + 5)) :: lawB p n' l' kv0' kv1' (hs ++ [x]))) (go_perm hh hx) rfl
      refine k1 _ u s' x hx n' l' kv0' kv1' q1 q2 q3 q4 le2 R6 (S'.val _ u ?_)
      obtain ⟨ad, e1, e2⟩ := D'
      exact ⟨ad, by rw [Rho.off_of (notB 127 (by decide))]; exact e1, e2⟩
end
end Mine
namespace Mine
noncomputable def limN : List Str := names ["self", "width", "steps", "depth", "members", "text", "tasks", "heap"]
noncomputable def limD : List Int := [32, 1000000, 50, 10000, 100000, 50, 1000000]
theorem bind_lim {fd : FuncData} {v d0 d1 d2 d3 d4 d5 d6 : Value} {ps : List Arg} {ds : List Expr} {T : Addr} {o : Obj} {items : Array Value} {n : Nat} {s : Shared} (hp : fd.params = { posonlyargs := [], args := ps, vararg := none, kwonlyargs := [], kw_defaults := [], kwarg := none, defaults := ds }) (hd : fd.defaults = .ref T)
    (hn : ps.map (·.arg) = limN) (hi : items = #[d0, d1, d2, d3, d4, d5, d6]) (ho : s.heap.get? T = some o) (hs : o.data = .seq items n) : BindsTo s fd ⟨[v], []⟩ (limN.zip [v, d0, d1, d2, d3, d4, d5, d6]) := by
  subst hi
  refine BindsTo.of_defaults (k := ?k) hd ho hs ?h1 ?h2
  case h1 =>
    unfold bindArgs
    simp only [hp, hn, List.forIn_nil, pure_bind, List.map_nil, List.nil_append]
    rfl
  case h2 =>
    kernel_rfl
theorem limP (P : Params) : (ii P 209).pars = limN := by kernel_rfl
theorem limS_some (P : Params) : fnI P 209 = some (ii P 209) := by kernel_rfl
theorem limN_nd : limN.Nodup := ndS_ok (by kernel_rfl)
noncomputable def plainD (p : Arguments) : Bool := nilB p.posonlyargs && noneB p.vararg && nilB p.kwonlyargs && nilB p.kw_defaults && noneB p.kwarg
theorem plainD_ok {p : Arguments} (h : plainD p = true) : p = { posonlyargs := [], args := p.args, vararg := none, kwonlyargs := [], kw_defaults := [], kwarg := none, defaults := p.defaults } :=
  and_el h fun h h5 => and_el h fun h h4 => and_el h fun h h3 => and_el h fun h1 h2 => by
    obtain ⟨p1, p2, p3, p4, p5, p6, p7⟩ := p
    have e1 : p1 = [] := nilB_ok h1
    have e2 : p3 = none := noneB_ok h2
    have e3 : p4 = [] := nilB_ok h3
    have e4 : p5 = [] := nilB_ok h4
    have e5 : p6 = none := noneB_ok h5
    rw [e1, e2, e3, e4, e5]
noncomputable def chkL (K : Frag) : Bool := oT (K.lookup 209) fun o => oT (funcO o.data) fun fd => chkD K 209 fd && plainD fd.params && oT (vRef fd.defaults) fun t => oT (K.lookup t) fun o2 => oT (seqO o2.data) fun q => intsB q.1.toList limD
inductive LimF (K : Frag) (i : FnI) : Prop
  | mk (oc : Value) (od : Option Addr) (osl : Array (Option Value)) (name : Str) (params : Arguments) (kV doc pm : Value) (an : Option Addr) (cdv ct : Value) (T : Addr) (o : Obj) (items : Array Value) (n : Nat)
    (hK : K.lookup 209 = some ⟨oc, od, .func (fnOf name i.qual params i.body i.sc (.ref T) kV doc pm an cdv ct), osl⟩) (hcd : codeIn K cdv i.qual = true) (hT : K.lookup T = some o) (hd : o.data = .seq items n) (hi : IntsAre items.toList limD)
    (hp : params = { posonlyargs := [], args := params.args, vararg := none, kwonlyargs := [], kw_defaults := [], kwarg := none, defaults := params.defaults }) (hq : params.args.map (·.arg) = i.pars) (cnd : ((cellsFrom 0 i.sc.names []).map (·.1)).Nodup) (co : i.sc.isCoroutine = false) (gen : i.sc.isGenerator = false) (kd : i.sc.kind = .function)
theorem lim_fn {w : World} {i : FnI} (hc : chkL (KK w) = true) (h : fnI w.params 209 = some i) : LimF (KK w) i :=
  fnI_k h fun o fd b ho hd hb hi => some_T hc ho fun hc => some_T hc (x := fd) (congrArg funcO hd) fun hc => and_el hc fun hc df => and_el hc fun hc pa => oT_el df fun t ht df => oT_el df fun o2 h2 df => oT_el df fun q hq df =>
  and_el hc fun hc h10 => and_el hc fun hc h9 => and_el hc fun hc h8 => and_el hc fun hc h7 => and_el hc fun hc h6 => and_el hc fun hc h5 => and_el hc fun hc h4 => and_el hc fun hc h3 => and_el hc fun g1 g2 => by
  rw [hi]
  have e := fd_el hb (Nat.eq_of_beq_eq_true g1) (Nat.eq_of_beq_eq_true g2) (nilB_ok h3)
  rw [vRef_el ht] at e
  exact ⟨o.cls, o.dict, o.slots, fd.name, fd.params, fd.kwdefaults, fd.doc, fd.pyModule, fd.annotations, fd.code, fd.closureTuple, t, o2, q.1, q.2, ho.trans (congrArg some (by rw [← e, ← hd])), h4, h2, seqO_el hq, intsB_ok df, plainD_ok pa, rfl, ndS_ok h5, not_el h6 id, not_el h7 id, fnB_ok h8⟩
theorem chkL_ok (w : World) : chkL (KK w) = true := by kernel_rfl
noncomputable def limF : List Str := names ["width", "steps", "depth", "members", "text", "tasks", "heap"]
noncomputable def tabL (P : Params) : Tab := { tab P with flds := (212, limF) :: (tab P).flds }
theorem limI_ok (w : World) : chkI (KK w) [(212, 209)] = true := by kernel_rfl
theorem limFl_ok (w : World) : chkN [(212, limF)] (KK w) = true := by kernel_rfl
theorem tabL_ok (w : World) : TabOk (tabL w.params) w :=
  have TT := tab_ok w
  ⟨TT.glob, fun c f h => oT_el h fun l e h => lkB_hd e (fun a b => Nat.eq_of_beq_eq_true a ▸ chkN_ok (limFl_ok w) _ (.head _) f (memS_of (b ▸ h))) fun _ e => chkN_ok (fld_ok w) _ (lkN_mem e) f (memS_of h), TT.fns, TT.ini, TT.blt, TT.tups, TT.itups, TT.spec, TT.exc, TT.mkf, TT.cls, TT.kf⟩
noncomputable def limO : List (Str × V) := [(s "width", .si 32), (s "steps", .si 1000000), (s "depth", .si 50), (s "members", .si 10000), (s "text", .si 100000), (s "tasks", .si 50), (s "heap", .si 1000000)]
theorem lim_run (P : Params) (loc : List (Str × V)) (cel : List (Str × Nat)) (H : Hp) (K : KV) (X : KX) : vcF (tabL P) 10 (ii P 209) [.ref 70, .si 32, .si 1000000, .si 50, .si 10000, .si 100000, .si 50, .si 1000000] ⟨loc, cel, (70, .inst 212 69) :: (69, .dict []) :: H, 71⟩ (fun v σ' => K v { σ' with loc := loc, cel := cel }) X = K .none ⟨loc, cel, (70, .inst 212 69) :: (69, .dict limO) :: H, 71⟩ := by kernel_rfl
noncomputable def limS : Spec := fun vs σ K _ => bB (nilL vs) (bB (Nat.beq σ.nx 69) (K (.ref 70) { σ with H := (70, .inst 212 69) :: (69, .dict limO) :: σ.H, nx := 71 }))
theorem ints_k {l : List Value} {x : Int} {xs : List Int} {G : Prop} (h : IntsAre l (x :: xs)) (k : ∀ t r, l = .int x t :: r → IntsAre r xs → G) : G := by
  cases h with
  | cons _ t hr => exact k t _ rfl hr
noncomputable def isNilV (v : V) : Bool := @V.casesOn (fun _ => Bool) v true (fun _ => false) (fun _ => false) (fun _ => false) (fun _ => false) (fun _ => false) (fun _ => false) (fun _ => false) (fun _ => false) fun _ _ _ => false
theorem isNilV_d {v : V} {ρ : Rho} {u : Value} {C : Value → Prop} (h : isNilV v = true) (D : Den ρ v u) (k : C .none) : C u := by
  cases v with
  | none => exact (D : u = .none) ▸ k
  | _ => exact Bool.noConfusion h
theorem lim_spec : SpecOk 212 limS 12 := by
  intro c σ vs us K X ρ s Q E C R D h k kx
  refine bB_el h fun hv h => bB_el h fun hx h => ?_
  have hx := Nat.eq_of_beq_eq_true hx
  rw [nilL_el hv] at D
  refine All2.nil_d (C := fun us => wpAny (MM c.w) c.A (call (.ref 212) us) Q E s) D ?_
  obtain ⟨loc, cel, H, nx⟩ := σ
  have hx : nx = 69 := hx
  rw [hx] at R h
  have IO := (chkI_ok (limI_ok c.w) _ (.head _)).1
  refine (lim_fn (chkL_ok c.w) (limS_some c.w.params)).rec fun oc od osl name params kV doc pm an cdv ct T o items n hK hcd hT hd hi hp hq cnd co gen kd => ?_
  refine R.elim fun news RA => ?_
  refine call_cls RA.F C.X RA.N IO.mks IO.fi IO.fn fun x dx h' F' N' l1 l2 => ?_
  have nm1 := RA.nm.new (o := .dict []) (l := dx) (ob := dictOf [] 0) (fun p hp => Nat.ne_of_lt (l1 p hp)) (fun _ => above_mods C.xs (N' _ (.tail _ (.head _))).2.2) C.xs.ys ⟨[], 0, rfl, .nil, List.nodup_nil, Nat.zero_le _⟩
  have le1 : ρ.le (ρ.upd 69 dx) := Rho.upd_le (RA.nm.fresh _ (Nat.le_refl _))
  have off : ∀ p ∈ c.X ++ (dx, dictOf [] 0) :: news, p.1 ≠ x := fun p hp => (List.mem_cons.mp (List.perm_middle.mem_iff.mp hp)).elim (fun e => e ▸ Nat.ne_of_lt l2) fun hp => Nat.ne_of_lt (Nat.lt_trans (l1 p hp) l2)
  have nm2 := nm1.new (o := .inst 212 69) (l := x) (ob := instObj 212 dx) off (fun _ => above_mods C.xs (N' _ (.head _)).2.2) C.xs.ys ⟨dx, Rho.upd_t, rfl⟩
  have le2 : (ρ.upd 69 dx).le ((ρ.upd 69 dx).upd 70 x) := Rho.upd_le (nm1.fresh _ (Nat.le_refl _))
  have e2 : ((ρ.upd 69 dx).upd 70 x) 70 = some x := Rho.upd_t
  have le := Rho.le_trans le1 le2
  have loc2 := RA.loc.mono le
  have cel2 := RA.cel.mono le
  generalize (ρ.upd 69 dx).upd 70 x = ρ2 at nm2 e2 le loc2 cel2
  clear nm1 le1 le2
  have R2 : Rel c ρ2 ⟨loc, cel, (70, .inst 212 69) :: (69, .dict []) :: H, 71⟩ { s with heap := h', toks := s.toks } := ⟨_, F', fun q hq => N' q ((List.mem_cons.mp (List.perm_middle.mem_iff.mp hq)).elim (fun e => e ▸ .head _) fun hq => .tail _ (List.perm_middle.mem_iff.mp hq)), nm2, loc2, cel2, Shared.re RA.sh h' s.toks⟩
  refine ints_k hi fun t0 l0 e0 hi => ints_k hi fun t1 r1 e1 hi => ints_k hi fun t2 r2 e2' hi => ints_k hi fun t3 r3 e3 hi => ints_k hi fun t4 r4 e4 hi => ints_k hi fun t5 r5 e5 hi => ints_k hi fun t6 r6 e6 hi => ?_
  have e7 : r6 = [] := by cases hi; rfl
  rw [e7] at e6
  rw [e6] at e5
  rw [e5] at e4
  rw [e4] at e3
  rw [e3] at e2'
  rw [e2'] at e1
  rw [e1] at e0
  have hit2 : items = #[.int 32 t0, .int 1000000 t1, .int 50 t2, .int 10000 t3, .int 100000 t4, .int 50 t5, .int 1000000 t6] := Array.toList_inj.mp e0
  clear e1 e2' e3 e4 e5 e6 e7 hi e0
  refine callF_okB (T := tabL c.w.params) (n := 10) (A' := c.A.under (.builtin "type.__call__" ⟨.ref 212 :: [], []⟩)) (us := [.ref x, .int 32 t0, .int 1000000 t1, .int 50 t2, .int 10000 t3, .int 100000 t4, .int 50 t5, .int 1000000 t6]) (vs := [.ref 70, .si 32, .si 1000000, .si 50, .si 10000, .si 100000, .si 50, .si 1000000]) (K := fun v σ' => bB (isNilV v) (K (.ref 70) σ')) (X := X) rfl (C.le (by decide)) hK hcd (by rw [limP]; exact limN_nd) cnd co gen kd C.hA (C.hh rfl) (Nat.le_refl _) ?_ (by decide) (tabL_ok c.w) (ss_le (fun m _ => snd _ m) c (tabL_ok c.w) _) ?_ R2
    (.cons ⟨x, e2, rfl⟩ (.cons ⟨_, rfl⟩ (.cons ⟨_, rfl⟩ (.cons ⟨_, rfl⟩ (.cons ⟨_, rfl⟩ (.cons ⟨_, rfl⟩ (.cons ⟨_, rfl⟩ (.cons ⟨_, rfl⟩ .nil)))))))) ?_ ?_ ?_
  · rw [units_under_make]; omega
  · rw [limP]
    exact bind_lim (fd := fnOf name (ii c.w.params 209).qual params (ii c.w.params 209).body (ii c.w.params 209).sc (.ref T) kV doc pm an cdv ct) hp rfl (by rw [hq, limP]) hit2 (C.X.keeps F'.keep _ _ hT) hd
  · exact cast (lim_run c.w.params loc cel H (fun v σ' => bB (isNilV v) (K (.ref 70) σ')) _).symm h
  · exact fun ρ' σ' v u s' le' R' D' h' => bB_el h' fun hn h' => isNilV_d (C := fun u => u = .none ∧ Q (.ref x) s') hn D' ⟨rfl, k ρ' σ' (.ref 70) _ s' (Rho.le_trans le le') R' ⟨x, le' _ _ e2, rfl⟩ h'⟩
  · exact fun ρ' σ' l u s' le' => kx ρ' σ' l u s' (Rho.le_trans le le')
end Mine
namespace Mine
theorem type_runA (P : Params) (ns : List Int) (n : Int) (KK : V → Hp → Nat → Prop) (X : KX) :
    vcC (tab1 P) 60 385 [.ref 0, .int 0] ⟨[], [], poolH ns n, 39⟩ (fin 39 43 [0, 1] [39, 40, 41, 42] (tyTags 39) KK) X = typeP 39 (s "a") 80 ns n KK := by kernel_rfl
theorem type_runB (P : Params) (ns : List Int) (n : Int) (KK : V → Hp → Nat → Prop) (X : KX) :
    vcC (tab1 P) 60 385 [.ref 0, .int 1] ⟨[], [], poolH ns n, 43⟩ (fin 43 47 [0, 1] [43, 44, 45, 46] (tyTags 43) KK) X = typeP 43 (s "b") 81 ns n KK := by kernel_rfl
theorem waysP_of {ns : List Int} (hl : ns.length ≤ 60) : ∀ {keys : List Str} {kv : List (Str × Str)} {n : Int} {k : List (Str × Str) → Int → Prop}, 0 ≤ n → n + keys.length ≤ 1000 → (∀ kv' n', kv'.length ≤ kv.length + keys.length → n ≤ n' → n' ≤ n + keys.length → k kv' n') → waysP ns keys kv n k
  | [], kv, n, k, _, _, h => h kv n (Nat.le_refl _) (Int.le_refl _) (by simp)
  | key :: r, kv, n, k, h0, h1, h => by
    rw [List.length_cons] at h1 h
    have pl : ∀ v : Str, (putS kv key v).length ≤ kv.length + 1 := fun v => by rw [putS_len]; split <;> omega
    have go : ∀ kv2 : List (Str × Str), kv2.length ≤ kv.length + 1 → waysP ns r kv2 (n + 1) k := fun kv2 hk => waysP_of hl (by omega) (by push_cast at h1; omega) fun kv' n' a b c => h kv' n' (by omega) (by omega) (by push_cast; omega)
    exact ⟨⟨h0, by push_cast at h1; omega, hl⟩, go _ (by omega), go _ (pl _), go _ (pl _), go _ (by omega)⟩
theorem typeP_of {b : Nat} {nm : Str} {num : Int} {ns : List Int} {n : Int} {KK : V → Hp → Nat → Prop} (hl : ns.length ≤ 60) (h0 : 0 ≤ n) (h1 : n ≤ 900)
    (h : ∀ (home : Int) n' ab (kv : List (Str × Str)), 0 ≤ home → home < 3 → n ≤ n' → n' ≤ n + 5 → kv.length ≤ 3 → KK (.ref b) (poolH ns n' ++ tyH b nm num home ab kv) (b + 4)) : typeP b nm num ns n KK := by
  refine ⟨⟨h0, by omega, hl⟩, fun home a1 a2 => ⟨⟨by omega, by omega, hl⟩, fun k2 _ _ => waysP_of hl (by omega) (by show n + 1 + 1 + ((3 : Nat) : Int) ≤ 1000; omega) fun kv n' b1 b2 b3 => h home n' _ kv a1 (by omega) (by omega) ?_ b1⟩⟩
  have : n' ≤ n + 1 + 1 + ((3 : Nat) : Int) := b3
  omega
noncomputable def typeK (b : Nat) (nm : Str) (num : Int) (σ : St) (K : KV) : Prop := oB (gOb dictO σ.H 0) fun kv => oB (twoL kv) fun w => oB (refO w.1.2) fun l => oB (siO w.2.2) fun n => oB (gOb intsO σ.H 1) fun ns => bB (Nat.beq l 1 && Fast.sEq w.1.1 (s "cells") && Fast.sEq w.2.1 (s "at"))
  ((ns.length ≤ 60 ∧ 0 ≤ n ∧ n ≤ 900) ∧ ∀ (home : Int) n' ab (kv : List (Str × Str)), 0 ≤ home → home < 3 → n ≤ n' → n' ≤ n + 5 → kv.length ≤ 3 → K (.ref b) { σ with H := (poolH ns n' ++ tyH b nm num home ab kv) ++ drop (drop σ.H 0) 1, nx := b + 4 })
noncomputable def typeS : Spec := fun vs σ K _ => oB (twoL vs) fun q => oB (refO q.1) fun p => oB (natK q.2) fun k => bB (Nat.beq p 0) (bE (Nat.beq k 0) (bB (Nat.beq σ.nx 39) (typeK 39 (s "a") 80 σ K)) (bB (Nat.beq k 1) (bB (Nat.beq σ.nx 43) (typeK 43 (s "b") 81 σ K))))
theorem typeK_get {b : Nat} {nm : Str} {num : Int} {σ : St} {K : KV} {G : Prop} (h : typeK b nm num σ K) (k : ∀ n ns, σ.H.Perm (poolH ns n ++ drop (drop σ.H 0) 1) → ns.length ≤ 60 → 0 ≤ n → n ≤ 900 →
    (∀ (home : Int) n' ab (kv : List (Str × Str)), 0 ≤ home → home < 3 → n ≤ n' → n' ≤ n + 5 → kv.length ≤ 3 → K (.ref b) { σ with H := (poolH ns n' ++ tyH b nm num home ab kv) ++ drop (drop σ.H 0) 1, nx := b + 4 }) → G) : G :=
  oB_el h fun kv hkv h => oB_el h fun d hd h => oB_el h fun l hl h => oB_el h fun n hn h => oB_el h fun ns hns h => bB_el h fun hb h => and_el hb fun hb h2 => and_el hb fun z1 h1 => by
  have e1 : d.1 = (s "cells", V.ref 1) := Prod.ext (Fast.sEq_iff.mp h1) ((ref_el hl).trans (congrArg V.ref (Nat.eq_of_beq_eq_true z1)))
  have e2 : d.2 = (s "at", V.si n) := Prod.ext (Fast.sEq_iff.mp h2) (siO_el hn)
  have g0 : get σ.H 0 = some (.dict [(s "cells", .ref 1), (s "at", .si n)]) := (dict_el hkv).trans (by rw [twoL_el hd, e1, e2])
  exact k n ns ((get_perm g0).trans ((get_perm ((get_drop (by decide)).trans (ints_el hns))).cons _)) h.1.1 h.1.2.1 h.1.2.2 h.2
theorem type_spec : SpecOk 385 typeS 60 := spec_fin (Tf := fun w => tab1 w.params) tab1_ok (fun _ => rfl) fun w vs σ K X h => oB_el h fun q hq h => oB_el h fun p hp h => oB_el h fun k hk h => bB_el h fun z h => by
  have ev : vs = [.ref 0, .int (Int.ofNat k)] := by
    rw [twoL_el hq, ref_el hp, Nat.eq_of_beq_eq_true z]
    exact oO_el hk fun i a b => by rw [intK_el a, natOf_el b]
  rw [ev]
  refine bE_el h (fun ek h => bB_el h fun hx h => typeK_get h fun n ns pm b1 b2 b3 hK => ?_) fun _ h => bB_el h fun ek h => bB_el h fun hx h => typeK_get h fun n ns pm b1 b2 b3 hK => ?_
  · rw [Nat.eq_of_beq_eq_true ek]
    refine ⟨[.ref 0, .int 0], _, poolH ns n, drop (drop σ.H 0) 1, 39, 43, [0, 1], [39, 40, 41, 42], tyTags 39, [], rfl, pm, rfl, Nat.le_of_eq (Nat.eq_of_beq_eq_true hx), ?_⟩
    rw [type_runA w.params ns n (fun v' H' nx' => K v' { σ with H := H' ++ drop (drop σ.H 0) 1, nx := nx' })]
    exact typeP_of (KK := fun v' H' nx' => K v' { σ with H := H' ++ drop (drop σ.H 0) 1, nx := nx' }) b1 b2 b3 hK
  · rw [Nat.eq_of_beq_eq_true ek]
    refine ⟨[.ref 0, .int 1], _, poolH ns n, drop (drop σ.H 0) 1, 43, 47, [0, 1], [43, 44, 45, 46], tyTags 43, [], rfl, pm, rfl, Nat.le_of_eq (Nat.eq_of_beq_eq_true hx), ?_⟩
    rw [type_runB w.params ns n (fun v' H' nx' => K v' { σ with H := H' ++ drop (drop σ.H 0) 1, nx := nx' })]
    exact typeP_of (KK := fun v' H' nx' => K v' { σ with H := H' ++ drop (drop σ.H 0) 1, nx := nx' }) b1 b2 b3 hK
noncomputable def tab3 (P : Params) : Tab := ((tab2 P).add 385 60 typeS).add 212 12 limS
theorem tab3_ok (w : World) : TabOk (tab3 w.params) w := add_ok (add_ok (tab2_ok w) type_spec (keep_fn w rfl)) lim_spec (chkI_ok (limI_ok w) _ (.head _)).2
end Mine
namespace Mine
noncomputable def dL : DefRec := match defOf view0 (Str.ofString "law") with
  | some p => p.1
  | none => ⟨s "", { posonlyargs := [], args := [], vararg := none, kwonlyargs := [], kw_defaults := [], kwarg := none, defaults := [] }, [], ⟨.function, [], false, false, []⟩, ⟨0, 0, 0, 0⟩⟩
noncomputable def pcL (a n : Nat) : List Stmt := (dL.body.drop a).take n
noncomputable def scL : Names := dL.scope.names
noncomputable def celL : List (Str × Nat) := [(s "pool", 37), (s "told", 38)]
noncomputable def lawCc (v : Option V) : Hp := [(37, .cell (some (.ref 0))), (38, .cell v)]
noncomputable def typP (ns : List Int) (n : Int) (k : Int → Int → Bool → List (Str × Str) → Prop) : Prop :=
  (ns.length ≤ 60 ∧ 0 ≤ n ∧ n ≤ 900) ∧ ∀ (home : Int) n' ab (kv : List (Str × Str)), 0 ≤ home → home < 3 → n ≤ n' → n' ≤ n + 5 → kv.length ≤ 3 → k home n' ab kv
noncomputable def runL2 (P : Params) (ns : List Int) (K : KS) (X : KX) : Prop := vcSs (tab3 P) 70 scL (pcL 1 2) ⟨[], celL, poolH ns 0 ++ lawCc none, 39⟩ K X
noncomputable def outL2 (ns : List Int) (K : KS) : Prop :=
  let f := fun so : Int => typP ns (0 + 1) fun h0 n0 ab0 kv0 => typP ns n0 fun h1 n1 ab1 kv1 => K .next ⟨[(s "sort", .int so)], celL, (47, .list [.ref 39, .ref 43]) :: (poolH ns n1 ++ tyH 43 (s "b") 81 h1 ab1 kv1 ++ (tyH 39 (s "a") 80 h0 ab0 kv0 ++ lawCc (some (.ref 47)))), 48⟩
  bdP ns 0 ∧ f 0 ∧ f 1 ∧ f 2 ∧ f 3
theorem run_L2 (P : Params) (ns : List Int) (K : KS) (X : KX) : runL2 P ns K X = outL2 ns K := by kernel_rfl
noncomputable def sh (a : Nat) : Nat := a + 37
noncomputable def shH (H : Hp) : Hp := H.map fun p => (sh p.1, p.2.rn sh)
noncomputable def cel2 : Hp := [(38, .cell (some (.ref 47)))]
noncomputable def runL3 (P : Params) (ab0 ab1 : Bool) (KK : List (Str × V) → Hp → Nat → Prop) (KR : V → Hp → Nat → Prop) (X : KX) (c : Nat × Nat × Nat) : Prop :=
  vcSs (tab3 P) 70 scL (pcL 3 1) ⟨[(s "sort", .int c.1)], celL, shH (toldH c.2.1 c.2.2 ab0 ab1) ++ cel2, 48⟩ (finS 48 69 ([10, 2, 3, 4, 6, 7, 8].map sh ++ [38]) ((nmsOf c.2.1 c.2.2).map sh) (placeTags.map fun p => (sh p.1, p.2)) [s "sort", s "place"] [] KK KR) X
noncomputable def outL3 (ab0 ab1 : Bool) (KK : List (Str × V) → Hp → Nat → Prop) (c : Nat × Nat × Nat) : Prop :=
  KK [(s "sort", .int c.1), (s "place", .ref 48)] (shH (toldH c.2.1 c.2.2 ab0 ab1) ++ cel2 ++ shH (placeH c.1 c.2.1 c.2.2)) 69
noncomputable def runL4 (P : Params) (so : V) (h0 h1 : Int) (KK : List (Str × V) → Hp → Nat → Prop) (KR : V → Hp → Nat → Prop) (X : KX) : Prop :=
  vcSs (tab3 P) 70 scL (pcL 4 2) ⟨[(s "sort", so), (s "place", .ref 48)], celL, cel2 ++ [(47, .list [.ref 39, .ref 43]), (39, .tup [.ref 40, .si h0]), (43, .tup [.ref 44, .si h1])], 69⟩ (finS 69 74 [38, 47, 39, 43] [69, 70, 73, 71, 72] [(70, .pd (names ["place", "line"]) [] 30), (72, .pd (names ["kind", "number", "is_tagged"]) [] 30)] [s "place", s "scope", s "kinds"] [s "sort"] KK KR) X
noncomputable def outL4 (so : V) (h0 h1 : Int) (KK : List (Str × V) → Hp → Nat → Prop) : Prop :=
  ltP 69 [so] (KK [(s "place", .ref 48), (s "scope", .ref 69), (s "kinds", .ref 73), (s "sort", so)] (cel2 ++ [(47, .list [.ref 39, .ref 43]), (39, .tup [.ref 40, .si h0]), (43, .tup [.ref 44, .si h1])] ++ shH (scH (.int 1) ++ kinH ++ nTy)) 74)
end Mine
namespace Mine
theorem run_L3 (P : Params) (ab0 ab1 : Bool) (KK : List (Str × V) → Hp → Nat → Prop) (KR : V → Hp → Nat → Prop) (X : KX) : cfgs.map (runL3 P ab0 ab1 KK KR X) = cfgs.map (outL3 ab0 ab1 KK) := by kernel_rfl
theorem run_L4 (P : Params) (so : V) (h0 h1 : Int) (KK : List (Str × V) → Hp → Nat → Prop) (KR : V → Hp → Nat → Prop) (X : KX) : runL4 P so h0 h1 KK KR X = outL4 so h0 h1 KK := by kernel_rfl
end Mine
namespace Mine
noncomputable def LawS (c : Cd) (t : Sem Flow) (σ : St) : Prop := ∀ m ρ s (Q : Flow → Shared → Prop) (E : Value → Shared → Prop), PassesOwn (MM c.w) c.A c.env E → Rel (c.at m) ρ σ s →
  (∀ g m' ρ' σ' s', KtsTurn (c.outer.filterMap (·.frame)) c.h₀ g → Rel ((c.gr g).at m') ρ' σ' s' → Q (.ret (.bool true)) s') → wpAny (MM c.w) c.A t Q E s
noncomputable def isT (v : V) : Prop := v.er = .sb true
theorem isT_den {v : V} {ρ : Rho} {u : Value} (h : isT v) (D : Den ρ v u) : u = .bool true := by
  have D := den_er.mpr D
  rw [show v.er = .sb true from h] at D
  exact D
theorem LawS.ofT {c : Cd} {t : Sem Flow} {σ : St} {KR : KV} (h : SemT c t σ KR) (k : ∀ v σ', KR v σ' → isT v) : LawS c t σ := fun m ρ s Q E hE R q =>
  h m ρ s Q E hE R fun g m' ρ' σ' v u s' T _ R' D z => by rw [isT_den (k v σ' z) D]; exact q g m' ρ' σ' s' T R'
theorem LawS.step {c : Cd} {a b : List Stmt} {σ : St} (h : SemS c (execs a c.env) σ (fun fl σ' => match fl with | .next => LawS c (execs b c.env) σ' | .ret v => isT v | _ => False) fun _ _ => False) : LawS c (execs (a ++ b) c.env) σ := fun m ρ s Q E hE R q => by
  refine wpAny_execs_append (h m ρ s _ E hE R (fun m' ρ' σ' fl w s' le R' f z => ?_) fun _ _ _ _ _ _ _ _ z => z.elim)
  cases f with
  | next => exact z m' ρ' s' Q E hE R' q
  | cont => exact z.elim
  | brk => exact z.elim
  | ret d => rw [isT_den (show isT _ from z) d]; exact q c.h₀ m' ρ' σ' s' KtsTurn.refl R'
theorem Rel.ren {c : Cd} {ρ : Rho} {g : Nat → Nat} {loc : List (Str × V)} {cel cel' : List (Str × Nat)} {H : Hp} {nx nx' : Nat} {s : Shared} (hX : c.X = []) (gi : ∀ a b, g a = g b → a = b) (hn : allB (fun a => Nat.blt a nx') (H.map (·.1)) = true) (hc : ∀ x a, lkS cel x = some a → lkS cel' x = some (g a))
    (R : Rel c ρ ⟨loc.map fun p => (p.1, p.2.rn g), cel', H.map fun p => (g p.1, p.2.rn g), nx⟩ s) : Rel c (fun a => ρ (g a)) ⟨loc, cel, H, nx'⟩ s := by
  obtain ⟨news, R⟩ := R
  have led : LedIs c.w.params (fun a => ρ (g a)) H news := all2_un (fun p _ q h => ⟨h.1, ObjIs.rn h.2⟩) R.led
  refine ⟨news, R.F, R.N, ⟨R.nd, led, fun a ad e => R.rng _ ad e, fun a b ad ea eb => gi a b (R.inj _ _ ad ea eb), fun a ha => ?_, R.nm.sm, fun a ad e => R.off _ ad e⟩, fun x v e => ?_, fun x a e => R.cel x (g a) (hc x a e), R.sh⟩
  · cases e : ρ (g a) with
    | none => rfl
    | some ad =>
      exfalso
      have m := R.rng _ ad e
      rw [hX, List.nil_append] at m
      obtain ⟨q, hq, rfl⟩ := List.mem_map.mp m
      obtain ⟨p, hp, e1, _⟩ := all2_mem led q hq
      have ea := gi _ _ (R.inj _ _ _ e e1)
      have := allB_mem hn p.1 (List.mem_map_of_mem hp)
      rw [← ea] at this
      exact absurd (blt_lt.mp this) (Nat.not_lt.mpr ha)
  · obtain ⟨u, e1, d⟩ := R.loc x (v.rn g) (lkB_map.trans (congrArg (Option.map (V.rn g)) e))
    exact ⟨u, e1, den_rn d⟩
theorem LawS.ren {c : Cd} {t : Sem Flow} {g : Nat → Nat} {loc loc' : List (Str × V)} {cel cel' : List (Str × Nat)} {H H' : Hp} {nx nx' : Nat} (hX : c.X = []) (gi : ∀ a b, g a = g b → a = b) (hn : allB (fun a => Nat.blt a nx') (H.map (·.1)) = true) (hc : ∀ x a, lkS cel x = some a → lkS cel' x = some (g a))
    (hl : loc' = loc.map fun p => (p.1, p.2.rn g)) (hH : erH H' = erH (H.map fun p => (g p.1, p.2.rn g))) (h : LawS c t ⟨loc, cel, H, nx'⟩) : LawS c t ⟨loc', cel', H', nx⟩ := fun m ρ s Q E hE R q => by
  subst hl
  exact h m _ s Q E hE (Rel.ren (c := c.at m) hX gi hn hc (R.retag (.refl _) hH)) q
theorem LawS.perm {c : Cd} {t : Sem Flow} {σ : St} {H0 H1 : Hp} (pm : σ.H.Perm H0) (he : erH H0 = erH H1) (h : LawS c t { σ with H := H1 }) : LawS c t σ := fun m ρ s Q E hE R q => h m ρ s Q E hE (R.retag pm he) q
theorem LawS.reloc {c : Cd} {t : Sem Flow} {σ : St} {loc : List (Str × V)} (he : erL σ.loc = erL loc) (h : LawS c t { σ with loc := loc }) : LawS c t σ := fun m ρ s Q E hE R q =>
  h m ρ s Q E hE (let ⟨news, RA⟩ := R; ⟨news, RA.F, RA.N, RA.nm, locIs_er RA.loc he, RA.cel, RA.sh⟩) q
noncomputable def constO (e : Expr) : Option Const := match e with
  | .Constant k _ _ => some k
  | _ => none
theorem constO_el {e : Expr} {k : Const} (h : constO e = some k) : ∃ a b, e = .Constant k a b := by cases e <;> first | exact nS h | exact ⟨_, _, congrArg (fun k => Expr.Constant k _ _) (Option.some.inj h)⟩
noncomputable def dictEO (e : Expr) : Option (List (Option Expr) × List Expr × Pos) := match e with
  | .Dict a b c => some (a, b, c)
  | _ => none
theorem dictEO_el {e : Expr} {q : List (Option Expr) × List Expr × Pos} (h : dictEO e = some q) : e = .Dict q.1 q.2.1 q.2.2 := by cases e <;> first | exact nS h | exact Option.some.inj h ▸ rfl
noncomputable def strC (k : Const) : Option Str := match k with
  | .str y => some y
  | _ => none
noncomputable def intC (k : Const) : Option Int := match k with
  | .int y => some y
  | _ => none
theorem strC_el {k : Const} {y : Str} (h : strC k = some y) : k = .str y := by cases k <;> first | exact nS h | exact congrArg _ (Option.some.inj h)
theorem intC_el {k : Const} {y : Int} (h : intC k = some y) : k = .int y := by cases k <;> first | exact nS h | exact congrArg _ (Option.some.inj h)
noncomputable def isK2 (e : Option Expr) (x : Str) : Bool := oT e fun e => oT (constO e) fun k => oT (strC k) fun y => Fast.sEq y x
noncomputable def isI2 (e : Expr) (i : Int) : Bool := oT (constO e) fun k => oT (intC k) fun y => decide (y = i)
noncomputable def isSl (e : Expr) : Bool := oT (sliceO e) fun q => noneB q.1 && noneB q.2.2.1 && oT q.2.1 fun u => isI2 u 60
noncomputable def isSb (e : Expr) : Bool := oT (subEO e) fun q => isNm q.1 (s "script") && isSl q.2.1
noncomputable def isDs (e : Expr) : Bool := oT (dictEO e) fun q => oT (twoL q.1) fun k => oT (twoL q.2.1) fun v => isK2 k.1 (s "cells") && isK2 k.2 (s "at") && isSb v.1 && isI2 v.2 0
noncomputable def isPool (st : Stmt) : Bool := oT (asgSO st) fun q => oT (oneL q.1) fun t => isNm t (s "pool") && isDs q.2.1
theorem isK2_ok {e : Option Expr} {x : Str} (h : isK2 e x = true) : ∃ a b, e = some (.Constant (.str x) a b) := oT_el h fun e he h => oT_el h fun k hk h => oT_el h fun y hy h => (constO_el hk).imp fun a z => z.imp fun b z => by rw [he, z, strC_el hy, Fast.sEq_iff.mp h]
theorem isI2_ok {e : Expr} {i : Int} (h : isI2 e i = true) : ∃ a b, e = .Constant (.int i) a b := oT_el h fun k hk h => oT_el h fun y hy h => (constO_el hk).imp fun a z => z.imp fun b z => by rw [z, intC_el hy, of_decide_eq_true h]
theorem isSb_ok {e : Expr} (h : isSb e = true) : ∃ p1 a b p2 p3, e = .Subscript (.Name (s "script") p1) (.Slice none (some (.Constant (.int 60) a b)) none p2) p3 :=
  oT_el h fun q hq h => and_el h fun h1 h2 => oT_el h2 fun r hr h => and_el h fun h h5 => and_el h fun h3 h4 => oT_el h5 fun u hu h => (isNm_ok h1).elim fun p1 e1 => (isI2_ok h).elim fun a z => z.elim fun b z => ⟨p1, a, b, r.2.2.2, q.2.2, by rw [subE_el hq, e1, slice_el hr, noneB_ok h3, noneB_ok h4, hu, z]⟩
theorem isPool_ok {st : Stmt} (h : isPool st = true) : ∃ p0 a1 b1 a2 b2 p1 a3 b3 p2 p3 a4 b4 p4 p5, st = .Assign [.Name (s "pool") p0] (.Dict [some (.Constant (.str (s "cells")) a1 b1), some (.Constant (.str (s "at")) a2 b2)] [.Subscript (.Name (s "script") p1) (.Slice none (some (.Constant (.int 60) a3 b3)) none p2) p3, .Constant (.int 0) a4 b4] p4) p5 :=
  oT_el h fun q hq h => oT_el h fun t ht h => and_el h fun h1 h => oT_el h fun d hd h => oT_el h fun k hk h => oT_el h fun v hv h => and_el h fun h h6 => and_el h fun h h5 => and_el h fun h3 h4 => by
    obtain ⟨p0, e0⟩ := isNm_ok h1
    obtain ⟨a1, b1, e3⟩ := isK2_ok h3
    obtain ⟨a2, b2, e4⟩ := isK2_ok h4
    obtain ⟨p1, a3, b3, p2, p3, e5⟩ := isSb_ok h5
    obtain ⟨a4, b4, e6⟩ := isI2_ok h6
    exact ⟨p0, a1, b1, a2, b2, p1, a3, b3, p2, p3, a4, b4, d.2.2, q.2.2, by rw [asgSO_el hq, oneL_el ht, e0, dictEO_el hd, twoL_el hk, twoL_el hv, e3, e4, e5, e6]⟩
noncomputable def isPool1 (l : List Stmt) : Bool := oT (oneL l) isPool
theorem pool_st : isPool1 (pcL 0 1) = true := by kernel_rfl
end Mine
namespace Mine
noncomputable def lawC0 : Hp := [(37, .cell none), (38, .cell none)]
noncomputable def g0 (a : Nat) : Nat := if a = 0 then 39 else if a = 39 then 0 else if a = 1 then 40 else if a = 40 then 1 else a
theorem g0_inv (a : Nat) : g0 (g0 a) = a := by
  unfold g0
  repeat' split
  all_goals omega
theorem inj_of {g : Nat → Nat} (h : ∀ a, g (g a) = a) : ∀ a b, g a = g b → a = b := fun a b e => by rw [← h a, e, h b]
theorem intsAre_take {vs : List Value} {ns : List Int} (h : IntsAre vs ns) : ∀ k, IntsAre (vs.take k) (ns.take k) := by
  induction h with
  | nil => intro k; cases k <;> exact .nil
  | cons n t _ ih =>
    intro k
    cases k with
    | zero => exact .nil
    | succ k => exact .cons n t (ih k)
theorem scL_kinds : (lkS scL (s "script"), lkS scL (s "pool")) = (some .local, some .cell) := by kernel_rfl
theorem pool_store (ns : List Int) (K : St → Prop) : stN scL (s "pool") (.ref 39) ⟨[], celL, [(40, .ints ns), (39, .dict [(s "cells", .ref 40), (s "at", .int 0)]), (37, .cell none), (38, .cell none)], 41⟩ K = K ⟨[], celL, [(40, .ints ns), (39, .dict [(s "cells", .ref 40), (s "at", .int 0)]), (37, .cell (some (.ref 39))), (38, .cell none)], 41⟩ := by kernel_rfl
theorem pool_cel {x : Str} {a : Nat} (h : lkS celL x = some a) : lkS celL x = some (g0 a) := by
  have m := lkS_mem h
  simp only [celL, List.mem_cons, List.not_mem_nil, or_false, Prod.mk.injEq] at m
  rcases m with ⟨_, rfl⟩ | ⟨_, rfl⟩ <;> exact h
theorem pool0 {c : Cd} {n : Nat} (C : Ck false c n) (f : Fk c) (hn : c.env.scope.names = scL) (hX : c.X = []) {m : Str → Option Value} {ρ : Rho} {st : Shared} (R : Rel (c.at m) ρ ⟨[], celL, lawC0, 39⟩ st) {l : Addr} {vs : List Value} {ns : List Int}
    (hm : m (s "script") = some (.ref l)) (hl : c.h₀.IsList l vs.toArray) (hi : IntsAre vs ns) (hz : vs.length ≤ 1000) {b : List Stmt} (h : LawS c (execs b c.env) ⟨[], celL, poolH (ns.take 60) 0 ++ lawCc none, 39⟩)
    {Q : Flow → Shared → Prop} {E : Value → Shared → Prop} (hE : PassesOwn (MM c.w) c.A c.env E) (q : ∀ g m' ρ' σ' s', KtsTurn (c.outer.filterMap (·.frame)) c.h₀ g → Rel ((c.gr g).at m') ρ' σ' s' → Q (.ret (.bool true)) s') : wpAny (MM c.w) c.A (execs (pcL 0 1 ++ b) c.env) Q E st := by
  have hp := pool_st
  obtain ⟨st0, e0⟩ : ∃ st0, pcL 0 1 = [st0] := oT_el hp fun st e _ => ⟨st, oneL_el e⟩
  rw [e0] at hp ⊢
  obtain ⟨p0, a1, b1, a2, b2, p1, a3, b3, p2, p3, a4, b4, p4, p5, rfl⟩ := isPool_ok (show isPool st0 = true from hp)
  have hk := scL_kinds
  rw [Prod.mk.injEq] at hk
  have Cm := C.at f m
  obtain ⟨news, RA⟩ := R
  refine wpAny_execs_cons (wpAny_Assign_Name ?_ (swaps_not rfl))
  refine kdn_str rfl RA.F RA.N (TopRead.nolimit (topRead_of C.T)) rfl rfl (List.cons_ne_nil _ _) (Nat.le_of_ble_eq_true rfl) fun d h' o F' N' l1 lo hd => ?_
  obtain ⟨kk, rfl⟩ := dict_nil (c := c) hd
  refine new_k (c := c.at m) Cm.xs RA (t := st.toks) F' N' l1 (o := .dict []) ⟨[], _, rfl, .nil, List.nodup_nil, Nat.zero_le _⟩ fun ρ1 le1 R1 D1 => ?_
  obtain ⟨d1, e1, ed1⟩ := D1
  cases ed1
  refine pairTrees_cons_walk (Calls.Constant_str ?_)
  have R1 := R1.tick (st.toks + 1)
  refine Subscript_ (wpAny_Name (wpAny_loadName_local C.hk (by unfold Env.kindOf; rw [hn]; exact lkS_lookup hk.1) (by obtain ⟨_, z⟩ := R1; rw [f.loc]; exact z.F.ns) hm ?_) (not_dbg (by kernel_rfl)))
  refine wpAny_Slice (wpAny_evalPart_none (wpAny_evalPart_some (wpAny_Constant_int ?_)))
  refine wpAny_evalPart_none ?_
  have R1 := R1.tick (st.toks + 1 + 1)
  obtain ⟨news1, RA1⟩ := R1
  obtain ⟨ol, g1, g2, gn, g3⟩ := hl
  refine kmk_slice RA1.F RA1.N (its := vs.toArray) ⟨ol, RA1.F.keep _ _ g1, g2, gn, g3⟩ .none (.int _ _) (fun D h2 F2 N2 l2 => ?_) (by rfl) (fun r => rfl) (by rw [List.size_toArray]; exact Nat.le_trans hz (by decide))
  have ep : slicePick vs.toArray none (some (60 : Int)) none = (vs.take 60).toArray := pick_take (k := 60)
  refine new_k (c := c.at m) Cm.xs RA1 (t := st.toks + 1 + 1) F2 N2 l2 (o := .ints (ns.take 60)) ⟨vs.take 60, by rw [ep], intsAre_take hi 60⟩ fun ρ2 le2 R2 D2 => ?_
  obtain ⟨D', e2, ed2⟩ := D2
  cases ed2
  refine pairTrees_cons_walk (Calls.Constant_str (wpAny_Constant_int (pairTrees_nil_walk ?_)))
  have R2 := (R2.tick (st.toks + 1 + 1 + 1)).tick (st.toks + 1 + 1 + 1 + 1)
  obtain ⟨news2, RA2⟩ := R2
  obtain ⟨ad, ob, f1, f2, f3, f4⟩ := RA2.ld (a := 39) (o := .dict []) rfl
  obtain rfl : d = ad := Option.some.inj ((le2 _ _ e1).symm.trans f1)
  refine dict_to f4 fun ws f5 f6 fle => ?_
  cases f6
  refine kdn_made_str RA2.F RA2.N (updF_putA RA2.nd (List.mem_append_right _ f2)) f5 rfl (of_decide_eq_true (by kernel_rfl)) fun h4 o4 F4 N4 hd4 => ?_
  have R4 := RA2.upd (t := st.toks + 1 + 1 + 1 + 1 + 2) (o := .dict [(s "cells", .ref 40), (s "at", .int 0)]) f1 f2 (fun _ => isD_of f5) F4 N4 (dict_from hd4 (.cons ⟨rfl, D, e2, rfl⟩ (.cons ⟨rfl, _, rfl⟩ .nil)) (by decide))
  refine stN_ok (T := tab c.w.params) (n := n) (c := c) (v := .ref 39) (sc := scL) (K := fun σ' => σ' = ⟨[], celL, [(40, .ints (ns.take 60)), (39, .dict [(s "cells", .ref 40), (s "at", .int 0)]), (37, .cell (some (.ref 39))), (38, .cell none)], 41⟩) C f hn ⟨_, R4⟩ ⟨d, f1, rfl⟩ ?_ fun m5 σ5 s5 R5 h5 => ?_
  · show stN scL (s "pool") (.ref 39) ⟨[], celL, [(40, .ints (ns.take 60)), (39, .dict [(s "cells", .ref 40), (s "at", .int 0)]), (37, .cell none), (38, .cell none)], 41⟩ _
    exact cast (pool_store (ns.take 60) _).symm rfl
  · subst h5
    have h2 : LawS c (execs b c.env) ⟨[], celL, [(39, .dict [(s "cells", .ref 40), (s "at", .int 0)]), (40, .ints (ns.take 60)), (37, .cell (some (.ref 39))), (38, .cell none)], 41⟩ :=
      LawS.ren (g := g0) hX (inj_of g0_inv) (by rfl) (fun _ _ => pool_cel) rfl (by rfl) h
    exact (LawS.perm (H0 := [(39, .dict [(s "cells", .ref 40), (s "at", .int 0)]), (40, .ints (ns.take 60)), (37, .cell (some (.ref 39))), (38, .cell none)]) (.swap _ _ _) rfl h2) m5 ρ2 s5 Q E hE R5 q
end Mine
namespace Mine
noncomputable def pickN : List Nat → Hp → Option Hp
  | [], H => (match H with
    | [] => some []
    | _ :: _ => none)
  | a :: r, H => match get H a with
    | some o => (match pickN r (drop H a) with
      | some l => some ((a, o) :: l)
      | none => none)
    | none => none
theorem pickN_perm : ∀ {ns : List Nat} {H l : Hp}, pickN ns H = some l → H.Perm l
  | [], H, l, h => by
    unfold pickN at h
    cases H with
    | nil => cases h; exact .refl _
    | cons => cases h
  | a :: r, H, l, h => by
    unfold pickN at h
    cases e : get H a with
    | none => rw [e] at h; cases h
    | some o =>
      rw [e] at h
      dsimp only at h
      cases e2 : pickN r (drop H a) with
      | none => rw [e2] at h; cases h
      | some l2 =>
        rw [e2] at h
        cases h
        exact (get_perm e).trans ((pickN_perm e2).cons _)
noncomputable def g1 (a : Nat) : Nat := if 2 ≤ a ∧ a ≤ 36 then a + 37 else if 39 ≤ a ∧ a ≤ 73 then a - 37 else a
theorem g1_inv (a : Nat) : g1 (g1 a) = a := by
  unfold g1
  repeat' split
  all_goals omega
noncomputable def gH (H : Hp) : Hp := H.map fun p => (g1 p.1, p.2.rn g1)
noncomputable def plB (p : TPar) : Hp := core1 p.kd p.part (5 : Nat) ++ (core2 eN (lisN []) p.kd (ordOf p.h0 p.h1) [] ++ (homB (Nat.blt 0 p.h0) (Nat.blt 0 p.h1) (part1 p.sort p.h0) (part1 p.sort p.h1) ++ (othH (homW p.h0 p.h1) ++ p.ents)))
noncomputable def plN (p : TPar) : List Nat := (plB p).map (·.1)
noncomputable def tpOf (c : Nat × Nat × Nat) : TPar := ⟨[], c.1, c.2.1, c.2.2, true, true⟩
theorem place_all : cfgs.map (fun c => (pickN ((plN (tpOf c)).map sh) (shH (placeH c.1 c.2.1 c.2.2))).map erH) = cfgs.map fun c => some (erH (gH (plB (tpOf c)))) := by kernel_rfl
theorem place_perm {c : Nat × Nat × Nat} (h : c ∈ cfgs) : ∃ P0, (shH (placeH c.1 c.2.1 c.2.2)).Perm P0 ∧ erH P0 = erH (gH (plB (tpOf c))) := by
  have e := of_map place_all h
  obtain ⟨P0, e1, e2⟩ := Option.map_eq_some_iff.mp e
  exact ⟨P0, pickN_perm e1, e2⟩
theorem cfg_mem {a b d : Nat} (ha : a ∈ [0, 1, 2, 3]) (hb : b ∈ [0, 1, 2]) (hd : d ∈ [0, 1, 2]) : (a, b, d) ∈ cfgs := List.mem_flatMap.mpr ⟨a, ha, List.mem_flatMap.mpr ⟨b, hb, List.mem_map.mpr ⟨d, hd, rfl⟩⟩⟩
theorem three {h : Int} (a : 0 ≤ h) (b : h < 3) : ∃ k : Nat, h = (k : Int) ∧ k ∈ [0, 1, 2] := by
  rcases (show h = 0 ∨ h = 1 ∨ h = 2 by omega) with rfl | rfl | rfl
  · exact ⟨0, rfl, by decide⟩
  · exact ⟨1, rfl, by decide⟩
  · exact ⟨2, rfl, by decide⟩
noncomputable def loopLoc (p : TPar) : List (Str × V) := [(s "place", .ref 11), (s "scope", .ref 32), (s "kinds", .ref 36), (s "sort", .int p.sort)]
theorem g1_cel {x : Str} {a : Nat} (h : lkS celL x = some a) : lkS celL x = some (g1 a) := by
  have m := lkS_mem h
  simp only [celL, List.mem_cons, List.not_mem_nil, or_false, Prod.mk.injEq] at m
  rcases m with ⟨_, rfl⟩ | ⟨_, rfl⟩ <;> exact h
theorem setup_ok {ns : List Int} {so k0 k1 : Nat} {ab0 ab1 : Bool} (hs : so ∈ [0, 1, 2, 3]) (h0 : k0 ∈ [0, 1, 2]) (h1 : k1 ∈ [0, 1, 2]) (hl : ns.length ≤ 60) : TOk ⟨ns, so, k0, k1, ab0, ab1⟩ := ⟨hl, hs, h0, h1⟩
theorem law_lt {p : TPar} (T : TOk p) (n l : Int) (kv0 kv1 : List (Str × Str)) : allB (fun a => Nat.blt a 40) ((flatB (lawB p n l kv0 kv1 [])).map (·.1)) = true := by
  obtain ⟨ns, so, k0, k1, ab0, ab1⟩ := p
  obtain ⟨_, _, h0, h1⟩ := T
  simp only [List.mem_cons, List.not_mem_nil, or_false] at h0 h1
  rcases h0 with rfl | rfl | rfl <;> rcases h1 with rfl | rfl | rfl <;> kernel_rfl
theorem law_split {p : TPar} {n : Int} {kv0 kv1 : List (Str × Str)} : flatB (lawB p n 1 kv0 kv1 []) = (lawC ++ (poolH p.ns n ++ ([(10, .list [.ref 2, .ref 6]), (2, .tup [.ref 3, .si (p.h0 : Int)]), (3, .inst 316 4), (4, tyD (s "a") 80 p.ab0 5), (5, .odict kv0), (6, .tup [.ref 7, .si (p.h1 : Int)]), (7, .inst 316 8), (8, tyD (s "b") 81 p.ab1 9), (9, .odict kv1)] ++ scH (.si 1)))) ++ (plB p ++ (nTy ++ kinH)) := by
  simp only [lawB, flatB, plB, List.append_assoc]
  rfl
section
variable {c : Cd} {b : List Stmt} {ns : List Int}
theorem setup4 (C : Ck false c 70) (f : Fk c) (hn : c.env.scope.names = scL) (hX : c.X = []) {so k0 k1 : Nat} {n : Int} {ab0 ab1 : Bool} {kv0 kv1 : List (Str × Str)} (hl : ns.length ≤ 60) (hs : so ∈ [0, 1, 2, 3]) (h0 : k0 ∈ [0, 1, 2]) (h1 : k1 ∈ [0, 1, 2])
    (h : LawS c (execs b c.env) ⟨loopLoc ⟨ns, so, k0, k1, ab0, ab1⟩, celL, flatB (lawB ⟨ns, so, k0, k1, ab0, ab1⟩ n 1 kv0 kv1 []), 40⟩) {bs : List (Nat × Hp)}
    (hr : bs = [(1, [(47, .list [.ref 39, .ref 43])]), (2, [(39, .tup [.ref 40, .int k0])]), (3, [(40, .inst 316 41), (41, tyD (s "a") 80 ab0 42)]), (5, [(43, .tup [.ref 44, .int k1])]), (6, [(44, .inst 316 45), (45, tyD (s "b") 81 ab1 46)]), (19, cel2), (9, shH (placeH so k0 k1)), (0, poolH ns n), (7, [(46, .odict kv1)]), (4, [(42, .odict kv0)]), (18, [(37, .cell (some (.ref 0)))])]) :
    LawS c (execs (pcL 4 2 ++ b) c.env) ⟨[(s "sort", .int so), (s "place", .ref 48)], celL, flatB bs, 69⟩ := by
  subst hr
  refine LawS.step (SemS.blk (tab3_ok c.w) C f (is := [19, 1, 2, 5]) (tm := cel2 ++ [(47, .list [.ref 39, .ref 43]), (39, .tup [.ref 40, .si (k0 : Int)]), (43, .tup [.ref 44, .si (k1 : Int)])]) (N := 69) (nx := 74) (ks := [38, 47, 39, 43]) (nms := [69, 70, 73, 71, 72]) (rt := [(70, .pd (names ["place", "line"]) [] 30), (72, .pd (names ["kind", "number", "is_tagged"]) [] 30)]) (rx := []) (xs := [s "place", s "scope", s "kinds"]) (ps := [s "sort"]) (xx := []) (px := []) rfl (by rfl) (by rfl) rfl (Nat.le_refl _) ?_)
  rw [hn]
  show runL4 c.w.params (.int so) k0 k1 _ _ _
  rw [run_L4]
  refine And.intro (fun a (ha : False) => ha.elim) ?_
  obtain ⟨P0, pp, pe⟩ := place_perm (cfg_mem hs h0 h1)
  have key : LawS c (execs b c.env) ⟨[(s "place", .ref 48), (s "scope", .ref 69), (s "kinds", .ref 73), (s "sort", .int so)], celL, gH (flatB (lawB ⟨ns, so, k0, k1, ab0, ab1⟩ n 1 kv0 kv1 [])), 74⟩ :=
    LawS.ren (g := g1) hX (inj_of g1_inv) (law_lt (setup_ok hs h0 h1 hl) _ _ _ _) (fun _ _ => g1_cel) (by rfl) rfl h
  refine LawS.perm (H0 := ([(37, .cell (some (.ref 0))), (38, .cell (some (.ref 47)))] ++ (poolH ns n ++ ([(47, .list [.ref 39, .ref 43]), (39, .tup [.ref 40, .si (k0 : Int)]), (40, .inst 316 41), (41, tyD (s "a") 80 ab0 42), (42, .odict kv0), (43, .tup [.ref 44, .si (k1 : Int)]), (44, .inst 316 45), (45, tyD (s "b") 81 ab1 46), (46, .odict kv1)] ++ shH (scH (.int 1))))) ++ (P0 ++ shH (nTy ++ kinH))) (H1 := gH (flatB (lawB ⟨ns, so, k0, k1, ab0, ab1⟩ n 1 kv0 kv1 []))) ?_ ?_ key
  · refine List.Perm.trans (pickB_perm (is := [18, 19, 0, 1, 2, 3, 4, 5, 6, 7, 8, 9, 15, 16]) (bs := [(19, cel2), (1, [(47, .list [.ref 39, .ref 43])]), (2, [(39, .tup [.ref 40, .si (k0 : Int)])]), (5, [(43, .tup [.ref 44, .si (k1 : Int)])]), (8, shH (scH (.int 1))), (16, shH kinH), (15, shH nTy), (3, [(40, .inst 316 41), (41, tyD (s "a") 80 ab0 42)]), (6, [(44, .inst 316 45), (45, tyD (s "b") 81 ab1 46)]), (9, shH (placeH so k0 k1)), (0, poolH ns n), (7, [(46, .odict kv1)]), (4, [(42, .odict kv0)]), (18, [(37, .cell (some (.ref 0)))])]) (by rfl)) ?_
    rw [show flatB ([] : List (Nat × Hp)) = [] from rfl, List.append_nil]
    exact (pp.append_right (shH (nTy ++ kinH))).append_left ([(37, .cell (some (.ref 0))), (38, .cell (some (.ref 47)))] ++ (poolH ns n ++ ([(47, .list [.ref 39, .ref 43]), (39, .tup [.ref 40, .si (k0 : Int)]), (40, .inst 316 41), (41, tyD (s "a") 80 ab0 42), (42, .odict kv0), (43, .tup [.ref 44, .si (k1 : Int)]), (44, .inst 316 45), (45, tyD (s "b") 81 ab1 46), (46, .odict kv1)] ++ shH (scH (.int 1)))))
  · rw [law_split]
    unfold erH gH at pe ⊢
    rw [List.map_append, List.map_append (l₁ := P0), pe, List.map_append (f := fun p : Nat × O => (g1 p.1, p.2.rn g1)), List.map_append (l₁ := plB _), List.map_append (f := fun p : Nat × O => (p.1, p.2.er)) (l₁ := List.map _ _), List.map_append (f := fun p : Nat × O => (p.1, p.2.er)) (l₁ := List.map _ (plB _))]
    rfl
end
end Mine
namespace Mine
section
variable {c : Cd} {b : List Stmt} {ns : List Int}
theorem setup3 (C : Ck false c 70) (f : Fk c) (hn : c.env.scope.names = scL) (hX : c.X = []) {so k0 k1 : Nat} {n : Int} {ab0 ab1 : Bool} {kv0 kv1 : List (Str × Str)} (hl : ns.length ≤ 60) (hs : so ∈ [0, 1, 2, 3]) (h0 : k0 ∈ [0, 1, 2]) (h1 : k1 ∈ [0, 1, 2])
    (h : LawS c (execs b c.env) ⟨loopLoc ⟨ns, so, k0, k1, ab0, ab1⟩, celL, flatB (lawB ⟨ns, so, k0, k1, ab0, ab1⟩ n 1 kv0 kv1 []), 40⟩) :
    LawS c (execs (pcL 3 1 ++ (pcL 4 2 ++ b)) c.env) ⟨[(s "sort", .int so)], celL, (47, .list [.ref 39, .ref 43]) :: (poolH ns n ++ tyH 43 (s "b") 81 k1 ab1 kv1 ++ (tyH 39 (s "a") 80 k0 ab0 kv0 ++ lawCc (some (.ref 47)))), 48⟩ := by
  refine LawS.step (SemS.blk (tab3_ok c.w) C f (is := [1, 2, 3, 5, 6, 19]) (bs := [(1, [(47, .list [.ref 39, .ref 43])]), (0, poolH ns n), (5, [(43, .tup [.ref 44, .si (k1 : Int)])]), (6, [(44, .inst 316 45), (45, tyD (s "b") 81 ab1 46)]), (7, [(46, .odict kv1)]), (2, [(39, .tup [.ref 40, .si (k0 : Int)])]), (3, [(40, .inst 316 41), (41, tyD (s "a") 80 ab0 42)]), (4, [(42, .odict kv0)]), (18, [(37, .cell (some (.ref 0)))]), (19, cel2)])
    (tm := shH (toldH k0 k1 ab0 ab1) ++ cel2) (N := 48) (nx := 69) (ks := [10, 2, 3, 4, 6, 7, 8].map sh ++ [38]) (nms := (nmsOf k0 k1).map sh) (rt := placeTags.map fun p => (sh p.1, p.2)) (rx := []) (xs := [s "sort", s "place"]) (ps := []) (xx := []) (px := []) (by rfl) (by rfl) (by rfl) rfl (Nat.le_refl _) ?_)
  rw [hn]
  show runL3 c.w.params ab0 ab1 _ _ _ (so, k0, k1)
  rw [of_map (run_L3 c.w.params ab0 ab1 _ _ _) (cfg_mem hs h0 h1)]
  refine cast (congrArg (fun H => LawS c (execs (pcL 4 2 ++ b) c.env) ⟨[(s "sort", .int so), (s "place", .ref 48)], celL, H, 69⟩) ?_) (setup4 C f hn hX hl hs h0 h1 h rfl)
  simp only [flatB, List.append_assoc, List.append_nil]
  rfl
theorem setup (C : Ck false c 70) (f : Fk c) (hn : c.env.scope.names = scL) (hX : c.X = []) (hl : ns.length ≤ 60)
    (h : ∀ p : TPar, TOk p → ∀ n kv0 kv1, 0 ≤ n → n ≤ 11 → kv0.length ≤ 3 → kv1.length ≤ 3 → LawS c (execs b c.env) ⟨loopLoc p, celL, flatB (lawB p n 1 kv0 kv1 []), 40⟩) :
    LawS c (execs (pcL 1 2 ++ (pcL 3 1 ++ (pcL 4 2 ++ b))) c.env) ⟨[], celL, poolH ns 0 ++ lawCc none, 39⟩ := by
  refine LawS.step (SemS.run (tab3_ok c.w) C f ?_)
  rw [hn]
  show runL2 c.w.params ns _ _
  rw [run_L2]
  have go : ∀ so : Nat, so ∈ [0, 1, 2, 3] → typP ns (0 + 1) fun h0 n0 ab0 kv0 => typP ns n0 fun h1 n1 ab1 kv1 => LawS c (execs (pcL 3 1 ++ (pcL 4 2 ++ b)) c.env) ⟨[(s "sort", .int so)], celL, (47, .list [.ref 39, .ref 43]) :: (poolH ns n1 ++ tyH 43 (s "b") 81 h1 ab1 kv1 ++ (tyH 39 (s "a") 80 h0 ab0 kv0 ++ lawCc (some (.ref 47)))), 48⟩ := fun so hs => by
    refine ⟨⟨hl, by decide, by decide⟩, fun h0 n0 ab0 kv0 a0 a1 a2 a3 a4 => ⟨⟨hl, by omega, by omega⟩, fun h1 n1 ab1 kv1 b0 b1 b2 b3 b4 => ?_⟩⟩
    obtain ⟨k0, rfl, m0⟩ := three a0 a1
    obtain ⟨k1, rfl, m1⟩ := three b0 b1
    exact setup3 C f hn hX hl hs m0 m1 (h _ (setup_ok hs m0 m1 hl) n1 kv0 kv1 (by omega) (by omega) a4 b4)
  exact ⟨⟨Int.le_refl 0, by decide, hl⟩, go 0 (by decide), go 1 (by decide), go 2 (by decide), go 3 (by decide)⟩
end
end Mine
namespace Mine
noncomputable def SemL (c : Cd) (t : Sem Flow) (σ : St) (K : KS) : Prop := ∀ m ρ s (Q : Flow → Shared → Prop) (E : Value → Shared → Prop), PassesOwn (MM c.w) c.A c.env E → Rel (c.at m) ρ σ s →
  (∀ m' ρ' σ' fl w s', Rel (c.at m') ρ' σ' s' → FlIs ρ' fl w → K fl σ' → Q w s') → wpAny (MM c.w) c.A t Q E s
theorem SemS.toL {c : Cd} {t : Sem Flow} {σ : St} {K : KS} (h : SemS c t σ K fun _ _ => False) : SemL c t σ K := fun m ρ s Q E hE R q => h m ρ s Q E hE R (fun m' ρ' σ' fl w s' _ R' f z => q m' ρ' σ' fl w s' R' f z) fun _ _ _ _ _ _ _ _ z => z.elim
theorem SemL.app {c : Cd} {a b : List Stmt} {σ : St} {K : KS} (h : SemL c (execs a c.env) σ fun fl σ' => match fl with | .next => SemL c (execs b c.env) σ' K | fl => K fl σ') : SemL c (execs (a ++ b) c.env) σ K := fun m ρ s Q E hE R q => by
  refine wpAny_execs_append (h m ρ s _ E hE R (fun m' ρ' σ' fl w s' R' f z => ?_))
  cases f with
  | next => exact z m' ρ' s' Q E hE R' q
  | cont => exact q m' ρ' σ' .cont .cont s' R' .cont z
  | brk => exact q m' ρ' σ' .brk .brk s' R' .brk z
  | ret d => exact q m' ρ' σ' _ _ s' R' (.ret d) z
theorem LawS.stepL {c : Cd} {a b : List Stmt} {σ : St} (h : SemL c (execs a c.env) σ (fun fl σ' => match fl with | .next => LawS c (execs b c.env) σ' | .ret v => isT v | _ => False)) : LawS c (execs (a ++ b) c.env) σ := fun m ρ s Q E hE R q => by
  refine wpAny_execs_append (h m ρ s _ E hE R (fun m' ρ' σ' fl w s' R' f z => ?_))
  cases f with
  | next => exact z m' ρ' s' Q E hE R' q
  | cont => exact z.elim
  | brk => exact z.elim
  | ret d => rw [isT_den (show isT _ from z) d]; exact q c.h₀ m' ρ' σ' s' KtsTurn.refl R'
theorem SemL.drop {c : Cd} {t : Sem Flow} {loc : List (Str × V)} {cel : List (Str × Nat)} {H A B : Hp} {nx : Nat} {K : KS} (pm : H.Perm (A ++ B)) (hA : allN (fun a => !memN (B.map (·.1)) a) A = true) (hl : allB (fun a => !memN (B.map (·.1)) a) (refsK loc) = true) (hc : allB (fun p => !memN (B.map (·.1)) p.2) cel = true)
    (h : SemL c t ⟨loc, cel, A, nx⟩ K) : SemL c t ⟨loc, cel, H, nx⟩ K := fun m ρ s Q E hE R q => by
  have un : ∀ b : Bool, (!b) = true → b = false := fun b e => by cases b <;> first | rfl | cases e
  refine h m (ρ.off (B.map (·.1))) s Q E hE (Rel.letgo (c := c.at m) R pm hA ?_ ?_) q
  · obtain ⟨_, RA⟩ := R
    intro x v e
    obtain ⟨u, e1, d⟩ := RA.loc x v e
    exact ⟨u, e1, d.cong fun a ha => Rho.off_of (un _ (allB_mem hl a (has_refsK (lkS_mem e) ha)))⟩
  · obtain ⟨_, RA⟩ := R
    intro x a e
    obtain ⟨ad, e1, e2⟩ := RA.cel x a e
    exact ⟨ad, e1, by rw [Rho.off_of (un _ (allB_mem hc _ (lkS_mem e)))]; exact e2⟩
theorem SemL.perm {c : Cd} {t : Sem Flow} {σ : St} {K : KS} {H0 H1 : Hp} (pm : σ.H.Perm H0) (he : erH H0 = erH H1) (h : SemL c t { σ with H := H1 } K) : SemL c t σ K := fun m ρ s Q E hE R q => h m ρ s Q E hE (R.retag pm he) q
noncomputable def forP (Bd : Nat → St → KS → Prop) : Nat → Nat → St → KS → Prop
  | 0, _, σ, K => K .next σ
  | k + 1, i, σ, K => Bd i σ fun fl σ2 => match fl with
    | .next => forP Bd k (i + 1) σ2 K
    | .cont => forP Bd k (i + 1) σ2 K
    | .brk => K .next σ2
    | .ret v => K (.ret v) σ2
section
variable {n : Nat}
theorem for_rangeL (c : Cd) (sc : Names) (x : Str) (body : List Stmt) (C : Ck false c n) (f : Fk c) (hx : lkS sc x = some .local) {Bd : Nat → St → KS → Prop} {K : KS} {Q : Flow → Shared → Prop} {E : Value → Shared → Prop} {s : Shared} {Ia : Addr} {N : Nat}
    (hB : ∀ p i σ K, Bd i σ K → SemL (c.it p) (execs body (c.it p).env) { σ with loc := putS σ.loc x (.int (Int.ofNat i)) } K)
    (hE : PassesOwn (MM c.w) c.A c.env E)
    (kf : ∀ m ρ σ s', Rel (c.at m) ρ σ s' → K .next σ → Q .next s') (kr : ∀ m ρ σ v u s', Rel (c.at m) ρ σ s' → Den ρ v u → K (.ret v) σ → Q (.ret u) s') : ∀ (k i : Nat) (m : Str → Option Value) (ρ : Rho) (σ : St) (news : List (Addr × Obj)) (h₁ : Heap) (t₁ : Nat), RelA (c.at m) ρ σ news { s with heap := h₁, toks := t₁ } →
      (∀ q ∈ c.X ++ news, q.1 ≠ Ia) → forP Bd k i σ K → RangeRest PR c.w c.A E c.h₀ c.env x body Q s Ia 0 N k i m (c.X ++ news)
  | 0, i, m, ρ, σ, news, h₁, t₁, R, hI, h => RangeRest.zero fun h' tk F N => kf m ρ σ _ ⟨news, R.re (f.loc ▸ F) (f.loc ▸ N)⟩ h
  | k + 1, i, m, ρ, σ, news, h₁, t₁, R, hI, h => by
    refine RangeRest.succ fun t h' tk F Nw => ?_
    rw [f.loc] at F Nw
    have e0 : (0 + (i : Int)) = (i : Int) := Int.zero_add _
    rw [e0] at F
    have R1 : RelA (c.at fun y => if y = x then some (.int (i : Int) t) else m y) ρ { σ with loc := putS σ.loc x (.int (Int.ofNat i)) } news { s with heap := h', toks := tk } :=
      ⟨F, fun q hq => Nw q (.tail _ hq), R.nm, LocIs.put R.loc ⟨t, rfl⟩, R.cel, by have := R.sh; exact (by
        show ({ s with heap := h', toks := tk } : Shared) = _
        have e : ({ s with heap := h₁, toks := t₁ } : Shared) = { c.s₀ with heap := h₁, toks := t₁ } := this
        have : ({ ({ s with heap := h₁, toks := t₁ } : Shared) with heap := h', toks := tk } : Shared) = { ({ c.s₀ with heap := h₁, toks := t₁ } : Shared) with heap := h', toks := tk } := by rw [e]
        exact this)⟩
    have R2 := R1.on (Nw _ (.head _)) hI
    refine hB _ i σ _ h _ ρ _ _ _ hE ⟨news, R2⟩ (fun m2 ρ2 σ2 fl w s2 R4 fi h2 => ?_)
    obtain ⟨news2, R4⟩ := R4
    have step : forP Bd k (i + 1) σ2 K → UnrEnd c.h₀ c.env.locals { s with heap := h', toks := tk } Ia (itR (0 + ((i + 1 : Nat) : Int)) ((N : Int) - ((i + 1 : Nat) : Int))) (RangeRest PR c.w c.A E c.h₀ c.env x body Q s Ia 0 N k (i + 1)) s2 := fun hv => by
      have e1 := R1.sh
      have e2 := R4.sh
      have e3 : s2 = { s with heap := s2.heap, toks := s2.toks } := by
        rw [e2]
        have : ({ s with heap := h', toks := tk } : Shared) = { c.s₀ with heap := h', toks := tk } := e1
        show ({ c.s₀ with heap := s2.heap, toks := s2.toks } : Shared) = { ({ s with heap := h', toks := tk } : Shared) with heap := s2.heap, toks := s2.toks }
        rw [this]
      refine ⟨s2.heap, s2.toks, m2, c.X ++ news2, e3, by rw [f.loc]; exact R4.F, by rw [f.loc]; exact R4.N, R4.apart (c := c.at m2), ?_⟩
      exact for_rangeL c sc x body C f hx hB hE kf kr k (i + 1) m2 ρ2 σ2 news2 s2.heap s2.toks (by rw [← e3]; exact R4.un (c := c.at m2)) (R4.apart (c := c.at m2)) hv
    cases fi with
    | next => exact step h2
    | cont => exact step h2
    | brk => exact kf m2 ρ2 σ2 s2 ⟨news2, R4.un (c := c.at m2)⟩ h2
    | ret dv => exact kr m2 ρ2 σ2 _ _ s2 ⟨news2, R4.un (c := c.at m2)⟩ dv h2
theorem forL_ok {T : Tab} (I : Snd T n) (hq : T.q = false) (c : Cd) (sc : Names) {x : Str} {px : Pos} {it : Expr} {body : List Stmt} {pos : Pos} (TT : TabOk T c.w) (C' : Ck false c n) (f : Fk c) (hs : c.env.scope.names = sc) (hx : lkS sc x = some .local) (pi : plainIter it = true) {e : Expr} (hr : rangeOf T sc it = some e)
    {Bd : Nat → St → KS → Prop} (hB : ∀ p i σ K, Bd i σ K → SemL (c.it p) (execs body (c.it p).env) { σ with loc := putS σ.loc x (.int (Int.ofNat i)) } K) {σ : St} {K : KS}
    (h : vcE T n sc e σ (fun v σ1 => ∃ k : Nat, k ≤ 1000 ∧ v = .int (Int.ofNat k) ∧ forP Bd k 0 σ1 K) fun _ _ => False) : SemL c (execs [.For (.Name x px) it body [] pos] c.env) σ K := by
  intro m ρ s Q E hE R q
  have CT : Ck T.q c n := hq.symm ▸ C'
  have Cm := CT.at f m
  have F0 : Fr c.h₀ c.env.locals s.heap m := by obtain ⟨_, RA⟩ := R; exact f.loc ▸ RA.F
  obtain ⟨g, gp, cp, hit, hb, hk, pa, hd⟩ := range_some hr
  have hx' : c.env.kindOf x = some .local := by unfold Env.kindOf; rw [hs]; exact lkS_lookup hx
  refine wpAny_execs_cons (For_invVF F0 hx' (by rw [C'.hk]; rfl) ?_ (fun v => fold_plain pi) hE)
  rw [hit]
  refine Call_ (name_blt (c.at m) TT Cm hb (by show c.env.kindOf g = _; unfold Env.kindOf; rw [hs]; exact lkS_lookup hk) hd R ?_) (by rfl)
  have pa' : [e].all plainArg = true := by simp [pa]
  refine callWith_blt (code := 4) rfl pa' (one_ok I (c.at m) sc TT Cm hs pa R h (fun ρ1 σ1 v u s1 le1 R1 D1 h1 => ?_) fun _ _ _ _ _ _ _ z => z.elim)
  obtain ⟨k, hk1, rfl, h1⟩ := h1
  obtain ⟨t, rfl⟩ := D1
  obtain ⟨news1, RA1⟩ := R1
  refine range1_rows RA1.F RA1.N fun h' tk t₁ u₁ v₁ hr F' N' _ => ?_
  have F' : Fr c.h₀ c.L h' m := F'
  have N' : News c.h₀ c.L h' (c.X ++ news1) := N'
  have R2 : RelA (c.at m) ρ1 σ1 news1 { s1 with heap := h', toks := tk } := RA1.re F' N'
  refine iter_rangeUnr (m₀ := m) (n := k) (C'.hh rfl) hr (range_small hk1) (range_size k) (h₀ := c.h₀) (f.loc ▸ F') (news := c.X ++ news1) (f.loc ▸ N') (fun Ia hI => ?_)
  refine for_rangeL c sc x body C' f hx hB (s := { s1 with heap := h', toks := tk }) hE ?_ ?_ k 0 m ρ1 σ1 news1 h' tk R2 (fun q hq => Nat.ne_of_lt (hI q hq)) h1
  · exact fun m2 ρ2 σ2 s2 R2 h2 => wpAny_execs_nil (q m2 ρ2 σ2 .next .next s2 R2 .next h2)
  · exact fun m2 ρ2 σ2 v u s2 R2 D2 h2 => q m2 ρ2 σ2 (.ret v) (.ret u) s2 R2 (.ret D2) h2
end
end Mine
namespace Mine
noncomputable def cE0 : Expr := .Constant .none 0 ⟨0, 0, 0, 0⟩
noncomputable def fP : Stmt → Pos × Expr × List Stmt × Pos
  | .For t it body _ pos => (match t with
    | .Name _ px => (px, it, body, pos)
    | _ => (pos, cE0, [], pos))
  | _ => (⟨0, 0, 0, 0⟩, cE0, [], ⟨0, 0, 0, 0⟩)
noncomputable def hd1 : List Stmt → Stmt
  | st :: _ => st
  | [] => .Pass ⟨0, 0, 0, 0⟩
noncomputable def fL : Pos × Expr × List Stmt × Pos := fP (hd1 (pcL 6 1))
theorem for_shape : pcL 6 1 = [.For (.Name (s "turn") fL.1) fL.2.1 fL.2.2.1 [] fL.2.2.2] := by kernel_rfl
noncomputable def nmP : Expr → Pos
  | .Name _ p => p
  | _ => ⟨0, 0, 0, 0⟩
noncomputable def tupP : Expr → List Expr × Nat × Pos
  | .Tuple es k p => (es, k, p)
  | _ => ([], 0, ⟨0, 0, 0, 0⟩)
noncomputable def calP : Expr → Expr × List Expr × Pos
  | .Call f es _ p => (f, es, p)
  | _ => (cE0, [], ⟨0, 0, 0, 0⟩)
noncomputable def asP : Stmt → List Expr × Expr × Pos
  | .Assign ts e p => (ts, e, p)
  | _ => ([], cE0, ⟨0, 0, 0, 0⟩)
noncomputable def hdE : List Expr → Expr
  | e :: _ => e
  | [] => cE0
noncomputable def aL : List Expr × Expr × Pos := asP (hd1 fL.2.2.1)
noncomputable def tL : List Expr × Nat × Pos := tupP (hdE aL.1)
noncomputable def gL : Expr × List Expr × Pos := calP aL.2.1
theorem asg_shape : fL.2.2.1 = [.Assign [.Tuple [.Name (s "goes") (nmP (hdE tL.1)), .Name (s "is_right") (nmP (hdE tL.1.tail))] tL.2.1 tL.2.2] (.Call (.Name (s "_law_sub_right") (nmP gL.1)) gL.2.1 [] gL.2.2) aL.2.2] ++ fL.2.2.1.tail := by kernel_rfl
theorem plain_shape (P : Params) : plainIter fL.2.1 = true ∧ rangeOf (tab3 P) scL fL.2.1 = some (hdE (calP fL.2.1).2.1) ∧ gL.2.1.all plainArg = true ∧ isCal (tab3 P) 416 = true ∧ lkS scL (s "turn") = some .local := by
  refine ⟨by kernel_rfl, by kernel_rfl, by kernel_rfl, by kernel_rfl, by kernel_rfl⟩
noncomputable def runI (P : Params) (ns : List Int) (n : Int) (loc : List (Str × V)) (R : Hp) (K : KV) (X : KX) : Prop := vcE (tab3 P) 70 scL (hdE (calP fL.2.1).2.1) ⟨loc, celL, lawC ++ (poolH ns n ++ R), 40⟩ K X
noncomputable def outI (ns : List Int) (n : Int) (loc : List (Str × V)) (R : Hp) (K : KV) : Prop :=
  let f := fun k : Int => K (.int k) ⟨loc, celL, poolH ns (n + 1) ++ (lawC ++ R), 40⟩
  bdP ns n ∧ f 1 ∧ f 2 ∧ f 3 ∧ f 4
theorem run_I (P : Params) (ns : List Int) (n : Int) (loc : List (Str × V)) (R : Hp) (K : KV) (X : KX) : runI P ns n loc R K X = outI ns n loc R K := by kernel_rfl
noncomputable def locS (so i : V) : List (Str × V) := [(s "place", .ref 11), (s "scope", .ref 32), (s "kinds", .ref 36), (s "sort", so), (s "turn", i)]
noncomputable def runF (P : Params) (so : V) (i : V) (H : Hp) (nx : Nat) (K : KV) (X : KX) : Prop := vcE (tab3 P) 70 scL (.Name (s "_law_sub_right") (nmP gL.1)) ⟨locS so i, celL, lawC ++ H, nx⟩ K X
noncomputable def runA (P : Params) (so : V) (i : V) (H : Hp) (nx : Nat) (K : List V → St → Prop) (X : KX) : Prop := vcList (fun e σ K => vcE (tab3 P) 70 scL e σ K X) gL.2.1 [] ⟨locS so i, celL, lawC ++ H, nx⟩ K
noncomputable def locT (so i a b : V) : List (Str × V) := [(s "place", .ref 11), (s "scope", .ref 32), (s "kinds", .ref 36), (s "sort", so), (s "turn", i), (s "goes", a), (s "is_right", b)]
noncomputable def runG (P : Params) (so i b : V) (g : Bool) (H : Hp) (nx : Nat) (K : KS) (X : KX) : Prop := vcSs (tab3 P) 70 scL fL.2.2.1.tail ⟨locT so i (.bool g) b, celL, H, nx⟩ K X
theorem run_F (P : Params) (so i : V) (H : Hp) (nx : Nat) (K : KV) (X : KX) : runF P so i H nx K X = K (.k (.ref 416)) ⟨locS so i, celL, lawC ++ H, nx⟩ := by kernel_rfl
theorem run_A (P : Params) (so i : V) (H : Hp) (nx : Nat) (K : List V → St → Prop) (X : KX) : runA P so i H nx K X = K [.ref 0, .ref 32, so, .ref 10, i, .ref 36] ⟨locS so i, celL, lawC ++ H, nx⟩ := by kernel_rfl
theorem run_G0 (P : Params) (so i : V) (b : Bool) (H : Hp) (nx : Nat) (K : KS) (X : KX) : runG P so i (.sb b) false H nx K X = K (.ret (.sb b)) ⟨locT so i (.bool false) (.sb b), celL, H, nx⟩ := by kernel_rfl
theorem run_G1 (P : Params) (so i : V) (H : Hp) (nx : Nat) (K : KS) (X : KX) : runG P so i (.bool true) true H nx K X = K .next ⟨locT so i (.bool true) (.bool true), celL, H, nx⟩ := by kernel_rfl
end Mine
namespace Mine
section
variable {T : Tab} {n : Nat} {c : Cd}
theorem SemL.pair (hq : T.q = false) {sc : Names} (TT : TabOk T c.w) (C : Ck false c n) (f : Fk c) (hs : c.env.scope.names = sc) {a : Nat} {x y g : Str} {p1 p2 tp gp ep pos : Pos} {tk : Nat} {es : List Expr} {σ : St} {K : KS} {args : List V} (pa : es.all plainArg = true) (ne : es ≠ [])
    (hn : ∀ K X, K (.k (.ref a)) σ → vcE T n sc (.Name g gp) σ K X) (ic : isCal T a = true) (ha : ∀ K X, K args σ → vcList (fun e σ K => vcE T n sc e σ K X) es [] σ K)
    (hc : ∀ m ρ s us (Q E : Value → Shared → Prop), Rel (c.at m) ρ σ s → All2 (Den ρ) args us → (∀ ρ' σ' p u s' v1 v2, Rel (c.at m) ρ' σ' s' → Den ρ' (.ref p) u → get σ'.H p = some (.tup [v1, v2]) → (stN sc x v1 σ' fun σ2 => stN sc y v2 σ2 (K .next)) → Q u s') → wpAny (MM c.w) (c.at m).A (call (.ref a) us) Q E s) :
    SemL c (exec (.Assign [.Tuple [.Name x p1, .Name y p2] tk tp] (.Call (.Name g gp) es [] ep) pos) c.env) σ K := by
  intro m ρ s Q E hE R k
  have CT : Ck T.q c n := hq.symm ▸ C
  have Cm := CT.at f m
  have I := snd T n
  refine Assign_Tuple (Call_ (I.e (c.at m) sc (.Name g gp) TT Cm hs ρ σ s _ (fun _ _ => False) _ _ R (hn (fun v σ' => v = .k (.ref a) ∧ σ' = σ) _ ⟨rfl, rfl⟩) (fun ρ1 σ1 v u s1 le1 R1 D1 h1 => ?_) fun _ _ _ _ _ _ _ z => z.elim) (by rfl)) rfl rfl
  obtain ⟨rfl, rfl⟩ := h1
  cases D1
  have hk := keep_cal TT ic
  cases es with
  | nil => exact absurd rfl ne
  | cons e rest =>
  have pa' := pa
  rw [List.all_cons, Bool.and_eq_true] at pa'
  refine callWith_K (h₀ := c.h₀) C.X hk (list_ok I (c.at m) sc TT Cm hs pa R1 (ha (fun xs σ' => xs = args ∧ σ' = σ1) (fun _ _ => False) ⟨rfl, rfl⟩) (fun ρ2 σ2 xs us s2 le2 R2 D2 h2 => ?_) fun _ _ _ _ _ _ _ z => z.elim) (star_plain pa'.1) (star_none pa'.2)
  obtain ⟨rfl, rfl⟩ := h2
  refine ⟨(let ⟨_, RA2⟩ := R2; C.X.keeps RA2.F.keep), ?_⟩
  refine hc m ρ2 s2 us _ _ R2 D2 fun ρ3 σ3 p u s3 v1 v2 R3 D3 hg h3 => ?_
  obtain ⟨ad, ea, rfl⟩ := D3
  obtain ⟨news1, RA1⟩ := R3
  obtain ⟨ad', ob, e1', m1, g1, vs, nn, rfl, al⟩ := RA1.ld hg
  obtain rfl : ad = ad' := Option.some.inj (ea.symm.trans e1')
  obtain ⟨u1, u2, hv, d1, d2⟩ := al.get2
  have ht' : IsTup s3.heap ad vs := ⟨_, g1, rfl, nn, rfl⟩
  refine assign_Tuple_tuple (C.hh rfl) ht' (by rw [← Array.length_toList, hv]; rfl) rfl fun h' he => ?_
  have R2 : Rel (c.at m) ρ3 σ3 { s3 with heap := h' } := ⟨news1, RA1.re (t := s3.toks) (RA1.F.extBut he (Nat.le_refl _)) fun q hq => ⟨he q.1 q.2 (Nat.ne_of_lt (Heap.lt_size (RA1.N q hq).1)) (RA1.N q hq).1, (RA1.N q hq).2⟩⟩
  rw [hv]
  show wpAny _ _ (do holding [u2] (assign (.Name x p1) c.env u1); (do holding [] (assign (.Name y p2) c.env u2); pure ())) _ _ _
  refine wpAny_bind (wpAny_holding (wpAny_assign_Name (stN_ok CT f hs R2 d1 h3 fun m3 σ3 s3 R3 h3 => ?_)))
  refine wpAny_bind (wpAny_holding (wpAny_assign_Name (stN_ok CT f hs R3 d2 h3 fun m4 σ4 s4 R4 h4 => ?_)))
  exact wpAny_pure (k m4 ρ3 σ4 .next .next s4 R4 .next h4)
theorem SemL.one {st : Stmt} {σ : St} {K : KS} (h : SemL c (exec st c.env) σ K) : SemL c (execs [st] c.env) σ K := fun m ρ s Q E hE R q => by
  refine wpAny_execs_cons (h m ρ s _ E hE R fun m' ρ' σ' fl w s' R' f z => ?_)
  cases f with
  | next => exact wpAny_execs_nil (q m' ρ' σ' .next .next s' R' .next z)
  | cont => exact q m' ρ' σ' .cont .cont s' R' .cont z
  | brk => exact q m' ρ' σ' .brk .brk s' R' .brk z
  | ret d => exact q m' ρ' σ' _ _ s' R' (.ret d) z
theorem SemL.unloc {t : Sem Flow} {σ : St} {K : KS} {loc : List (Str × V)} (h1 : ∀ x v, lkS loc x = some v → lkS σ.loc x = some v) (h : SemL c t { σ with loc := loc } K) : SemL c t σ K := fun m ρ s Q E hE R q =>
  h m ρ s Q E hE (let ⟨news, R⟩ := R; ⟨news, R.F, R.N, R.nm, fun x v e => R.loc x v (h1 x v e), R.cel, R.sh⟩) q
theorem SemL.mono {t : Sem Flow} {σ : St} {K K' : KS} (h : SemL c t σ K) (k : ∀ fl σ', K fl σ' → K' fl σ') : SemL c t σ K' := fun m ρ s Q E hE R q =>
  h m ρ s Q E hE R fun m' ρ' σ' fl w s' R' f z => q m' ρ' σ' fl w s' R' f (k _ _ z)
end
theorem no_place : dcfgs.map (fun c => allN (fun a => !memN [eN c.hs.length + 5] a) (core2 eN (lisN (c.hs ++ [c.x])) c.kd c.ord (c.hs ++ [c.x]) ++ lisH eN (lisN (c.hs ++ [c.x])) (c.hs ++ [c.x]) (presOf (c.hs ++ [c.x])) ++ histE (c.hs ++ [c.x]) 0)) = dcfgs.map fun _ => true := by kernel_rfl
theorem allN_mono {f g : Nat → Bool} (h : ∀ a, f a = true → g a = true) {H : Hp} (e : allN f H = true) : allN g H = true := allB_of fun a ha => h a (allB_mem e a ha)
theorem low_no {i a : Nat} (h : Nat.blt a 40 = true) : (!memN [eN i + 5] a) = true := by
  cases e : memN [eN i + 5] a with
  | false => rfl
  | true =>
    have := memN_of e
    rw [List.mem_singleton] at this
    have := blt_lt.mp h
    unfold eN at *
    omega
noncomputable def lawT (p : TPar) (n l : Int) (kv0 kv1 : List (Str × Str)) (hs : List Nat) : Hp := flat (restT p n l kv0 kv1) ++ (core1 p.kd p.part (5 + hs.length : Nat) ++ (core2 eN (lisN hs) p.kd (ordOf p.h0 p.h1) hs ++ (lisH eN (lisN hs) hs (presOf hs) ++ histE hs 0)))
theorem lawT_perm (p : TPar) (n l : Int) (kv0 kv1 : List (Str × Str)) (hs : List Nat) : (flatB (lawB p n l kv0 kv1 hs)).Perm (lawT p n l kv0 kv1 hs) := by
  have := pickB_perm (is := [0, 1, 2, 3, 4, 5, 6, 7, 8, 13, 14, 15, 16, 17, 18, 9, 10, 11, 12]) (bs := lawB p n l kv0 kv1 hs) (by rfl)
  refine this.trans (.of_eq ?_)
  unfold lawT
  simp only [flat, flatB, restT, List.append_assoc, List.append_nil]
theorem allN_app2 {f : Nat → Bool} {A B : Hp} (h : allN f A = true) (h' : allN f B = true) : allN f (A ++ B) = true := by
  have := allN_flat (fm h (fm h' fun _ h => absurd h List.not_mem_nil))
  rwa [show flat [A, B] = A ++ B by unfold flat flat flat; rw [List.append_nil]] at this
theorem law_no {p : TPar} (T : TOk p) {n l : Int} {kv0 kv1 : List (Str × Str)} {hs : List Nat} (hh : hs ∈ hists) {x : Nat} (hx : x ∈ [0, 1]) : allN (fun a => !memN [eN hs.length + 5] a) (lawT p n l kv0 kv1 (hs ++ [x])) = true := by
  have h := of_map no_place (dcfg_mem T hh hx)
  obtain ⟨h, h3⟩ := allN_app h
  obtain ⟨h1, h2⟩ := allN_app h
  have r := allN_mono (fun a => low_no (i := hs.length)) (rest_ok T (n := n) (l := l) (kv0 := kv0) (kv1 := kv1)).2
  have c1 : allN (fun a => !memN [eN hs.length + 5] a) (core1 p.kd p.part (5 + (hs ++ [x]).length : Nat)) = true := allN_mono (fun a => low_no (i := hs.length)) (by kernel_rfl)
  exact allN_app2 r (allN_app2 c1 (allN_app2 h1 (allN_app2 h2 h3)))
end Mine
namespace Mine
noncomputable def LInv (p : TPar) (i : Nat) (σ : St) : Prop := ∃ loc H n l kv0 kv1 hs, σ = ⟨loc, celL, H, eN hs.length⟩ ∧ H.Perm (flatB (lawB p n l kv0 kv1 hs)) ∧ (∀ x v, lkS (loopLoc p) x = some v → lkS loc x = some v) ∧
  hs.length = i ∧ (∀ x ∈ hs, x ∈ [0, 1]) ∧ 0 ≤ n ∧ n ≤ 12 + 6 * (i : Int) ∧ kv0.length ≤ 3 + i ∧ kv1.length ≤ 3 + i
theorem hists_mem {hs : List Nat} (h : ∀ x ∈ hs, x ∈ [0, 1]) (hl : hs.length ≤ 3) : hs ∈ hists := by
  have two : ∀ {x : Nat}, x ∈ [0, 1] → x = 0 ∨ x = 1 := fun h => by simpa using h
  match hs, h, hl with
  | [], _, _ => decide
  | [a], h, _ => rcases two (h a (by simp)) with rfl | rfl <;> decide
  | [a, b], h, _ => rcases two (h a (by simp)) with rfl | rfl <;> rcases two (h b (by simp)) with rfl | rfl <;> decide
  | [a, b, d], h, _ => rcases two (h a (by simp)) with rfl | rfl <;> rcases two (h b (by simp)) with rfl | rfl <;> rcases two (h d (by simp)) with rfl | rfl <;> decide
  | _ :: _ :: _ :: _ :: _, _, hl => exact absurd hl (by simp)
theorem loop_lk {p : TPar} {loc : List (Str × V)} {i : Nat} (h : ∀ x v, lkS (loopLoc p) x = some v → lkS loc x = some v) : ∀ x v, lkS (locS (.int p.sort) (.int (Int.ofNat i))) x = some v → lkS (putS loc (s "turn") (.int (Int.ofNat i))) x = some v := by
  intro x v e
  have m := lkS_mem e
  have nt : ∀ y w, lkS (loopLoc p) y = some w → y ≠ s "turn" → lkS (putS loc (s "turn") (.int (Int.ofNat i))) y = some w := fun y w e hne => by
    rw [lkS_put, if_neg (Ne.symm hne)]; exact h y w e
  simp only [locS, List.mem_cons, List.not_mem_nil, or_false, Prod.mk.injEq] at m
  rcases m with ⟨rfl, rfl⟩ | ⟨rfl, rfl⟩ | ⟨rfl, rfl⟩ | ⟨rfl, rfl⟩ | ⟨rfl, rfl⟩
  · exact nt _ _ (by kernel_rfl) (by decide +kernel)
  · exact nt _ _ (by kernel_rfl) (by decide +kernel)
  · exact nt _ _ (by kernel_rfl) (by decide +kernel)
  · exact nt _ _ (by kernel_rfl) (by decide +kernel)
  · rw [lkS_put, if_pos rfl]
theorem locT_lk {p : TPar} {i a b : V} : ∀ x v, lkS (loopLoc p) x = some v → lkS (locT (.int p.sort) i a b) x = some v := by
  intro x v e
  have m := lkS_mem e
  simp only [loopLoc, List.mem_cons, List.not_mem_nil, or_false, Prod.mk.injEq] at m
  rcases m with ⟨rfl, rfl⟩ | ⟨rfl, rfl⟩ | ⟨rfl, rfl⟩ | ⟨rfl, rfl⟩ <;> kernel_rfl
theorem ne_args : gL.2.1 ≠ [] := fun e => by
  have h : List.length gL.2.1 = 6 := by kernel_rfl
  rw [e] at h
  cases h
theorem args_si {ρ : Rho} {a b d e : V} {i j : Int} {us : List Value} : All2 (Den ρ) [a, b, .int i, d, .int j, e] us → All2 (Den ρ) [a, b, .si i, d, .si j, e] us :=
  fun h => all2_er h rfl
theorem pair_st (so i a b : V) (H : Hp) (nx : Nat) (K : St → Prop) : (stN scL (s "goes") a ⟨locS so i, celL, H, nx⟩ fun σ2 => stN scL (s "is_right") b σ2 K) = K ⟨locT so i a b, celL, H, nx⟩ := by kernel_rfl
theorem get_hd (a : Nat) (o : O) (r : Hp) : get ((a, o) :: r) a = some o := by rw [get_cons, Nat.beq_refl]
section
variable {c : Cd} {p : TPar}
theorem go_ok (C : Ck false c 70) (f : Fk c) (hn : c.env.scope.names = scL) (T : TOk p) {hs : List Nat} (hh : hs ∈ hists) {x : Nat} (hx : x ∈ [0, 1]) {n l : Int} {kv0 kv1 : List (Str × Str)} {K : KS}
    (h : K .next ⟨locT (.int p.sort) (.int (Int.ofNat hs.length)) (.bool true) (.bool true), celL, flatB (lawB p n l kv0 kv1 (hs ++ [x])), eN (hs.length + 1)⟩) :
    SemL c (execs fL.2.2.1.tail c.env) ⟨locT (.int p.sort) (.int (Int.ofNat hs.length)) (.bool true) (.bool true), celL, flatB ((40, retH true true (eN hs.length + 5)) :: lawB p n l kv0 kv1 (hs ++ [x])), eN (hs.length + 1)⟩ K := by
  have pm : (flatB ((40, retH true true (eN hs.length + 5)) :: lawB p n l kv0 kv1 (hs ++ [x]))).Perm (lawT p n l kv0 kv1 (hs ++ [x]) ++ retH true true (eN hs.length + 5)) :=
    (List.perm_append_comm (l₁ := retH true true (eN hs.length + 5)) (l₂ := flatB (lawB p n l kv0 kv1 (hs ++ [x])))).trans ((lawT_perm p n l kv0 kv1 (hs ++ [x])).append_right _)
  refine SemL.drop pm (law_no T hh hx) (allB_of fun a ha => low_no ?_) (allB_of fun a ha => low_no ?_) ?_
  · have : ∀ a ∈ refsK (locT (.int p.sort) (.int (Int.ofNat hs.length)) (.bool true) (.bool true)), a ∈ [11, 32, 36] := fun a ha => ha
    have := this a ha
    simp only [List.mem_cons, List.not_mem_nil, or_false] at this
    rcases this with rfl | rfl | rfl <;> rfl
  · simp only [celL, List.mem_cons, List.not_mem_nil, or_false] at ha
    rcases ha with rfl | rfl <;> rfl
  refine SemL.perm (H1 := flatB (lawB p n l kv0 kv1 (hs ++ [x]))) (lawT_perm p n l kv0 kv1 (hs ++ [x])).symm rfl (SemS.toL (SemS.run (tab3_ok c.w) C f ?_))
  rw [hn]
  show runG c.w.params _ _ _ _ _ _ _ _
  rw [run_G1]
  exact h
theorem stop_ok (C : Ck false c 70) (f : Fk c) (hn : c.env.scope.names = scL) {so i : V} {H : Hp} {nx : Nat} {a : Int} {K : KS} (h : ∀ v σ', isT v → K (.ret v) σ') :
    SemL c (execs fL.2.2.1.tail c.env) ⟨locT so i (.bool false) (.sb (eqInt a a)), celL, H, nx⟩ K := by
  refine SemS.toL (SemS.run (tab3_ok c.w) C f ?_)
  rw [hn]
  show runG c.w.params _ _ _ _ _ _ _ _
  rw [run_G0]
  exact h _ _ (by unfold isT eqInt; rw [decide_eq_true rfl]; rfl)
theorem turn1 (C : Ck false c 70) (f : Fk c) (hn : c.env.scope.names = scL) (ho : c.outer = []) (XB : (KK c.w).In c.base) (TB : Top view0 (looseW view0 lo) c.mean c.mg c.mb c.base) (T : TOk p) {i : Nat} {σ : St} {K : KS} (hi : i ≤ 3) (I : LInv p i σ)
    (k : ∀ σ', LInv p (i + 1) σ' → K .next σ') (kr : ∀ v σ', isT v → K (.ret v) σ') : SemL c (execs fL.2.2.1 c.env) { σ with loc := putS σ.loc (s "turn") (.int (Int.ofNat i)) } K := by
  obtain ⟨loc, H0, n, l, kv0, kv1, hs, rfl, pm, hl, rfl, hx, n0, n1, l0, l1⟩ := I
  obtain ⟨_, _, pa, ic, _⟩ := plain_shape c.w.params
  have hh := hists_mem hx hi
  refine SemL.perm (H1 := flatB (lawB p n l kv0 kv1 hs)) pm rfl (SemL.unloc (loc := locS (.int p.sort) (.int (Int.ofNat hs.length))) (loop_lk hl) ?_)
  rw [asg_shape]
  refine SemL.app (SemL.one (SemL.pair (a := 416) (sc := scL) rfl (tab3_ok c.w) C f hn pa ne_args (args := [.ref 0, .ref 32, .int p.sort, .ref 10, .int (Int.ofNat hs.length), .ref 36]) (fun K X h => ?_) ic (fun K X h => ?_) ?_))
  · show runF c.w.params (.int p.sort) (.int (Int.ofNat hs.length)) _ _ K X
    rw [run_F]; exact h
  · show runA c.w.params (.int p.sort) (.int (Int.ofNat hs.length)) _ _ K X
    rw [run_A]; exact h
  intro m ρ s us Q E R D kq
  refine turn_ok (c := c.at m) (m := 9) ho (C.at f m) XB TB T hh n0 (by omega) (by omega) (by omega) R (args_si D) (fun ρ' H u s' a le R' D' hg => ?_) (fun ρ' u s' x hx' n' l' kv0' kv1' q1 q2 q3 q4 le R' D' => ?_)
  · refine kq ρ' _ 129 u s' _ _ R' D' hg ?_
    exact cast (pair_st (.int p.sort) (.int (Int.ofNat hs.length)) _ _ _ _ _).symm (stop_ok C f hn kr)
  · have R2 := R'.retag (H1 := flatB ((40, [(eN hs.length + 5, .tup [.bool true, .bool true])]) :: lawB p n' l' kv0' kv1' (hs ++ [x]))) (.refl _) (by rfl)
    refine kq ρ' _ (eN hs.length + 5) u s' (.bool true) (.bool true) R2 D' (get_hd _ _ _) ?_
    refine cast (pair_st (.int p.sort) (.int (Int.ofNat hs.length)) _ _ _ _ _).symm ?_
    refine SemL.perm (H1 := flatB ((40, retH true true (eN hs.length + 5)) :: lawB p n' l' kv0' kv1' (hs ++ [x]))) (.refl _) (by rfl) (go_ok C f hn T hh hx' (k _ ?_))
    refine ⟨locT (.int p.sort) (.int (Int.ofNat hs.length)) (.bool true) (.bool true), _, n', l', kv0', kv1', hs ++ [x], ?_, .refl _, locT_lk (p := p), by simp, ?_, by omega, by omega, by omega, by omega⟩
    · rw [List.length_append]; rfl
    · intro y hy
      rcases List.mem_append.mp hy with hy | hy
      · exact hx y hy
      · rw [List.mem_singleton] at hy; rw [hy]; exact hx'
theorem forP_inv {Bd : Nat → St → KS → Prop} (hB : Bd = fun i σ K => i ≤ 3 ∧ LInv p i σ ∧ (∀ σ', LInv p (i + 1) σ' → K .next σ') ∧ ∀ v σ', isT v → K (.ret v) σ') {K : KS} (k : ∀ i σ', i ≤ 4 → LInv p i σ' → K .next σ') (kr : ∀ v σ', isT v → K (.ret v) σ') :
    ∀ (j i : Nat) (σ : St), i + j ≤ 4 → LInv p i σ → forP Bd j i σ K
  | 0, i, σ, h, I => k i σ (by omega) I
  | j + 1, i, σ, h, I => by
    show Bd i σ _
    rw [hB]
    exact ⟨by omega, I, fun σ' I' => by rw [← hB]; exact forP_inv hB k kr j (i + 1) σ' (by omega) I', kr⟩
theorem loop_ok (C : Ck false c 70) (f : Fk c) (hn : c.env.scope.names = scL) (ho : c.outer = []) (XB : (KK c.w).In c.base) (TB : Top view0 (looseW view0 lo) c.mean c.mg c.mb c.base) (T : TOk p) {n : Int} {kv0 kv1 : List (Str × Str)} (n0 : 0 ≤ n) (n1 : n ≤ 11) (l0 : kv0.length ≤ 3) (l1 : kv1.length ≤ 3) {b : List Stmt}
    (h : ∀ i σ', i ≤ 4 → LInv p i σ' → LawS c (execs b c.env) σ') : LawS c (execs (pcL 6 1 ++ b) c.env) ⟨loopLoc p, celL, flatB (lawB p n 1 kv0 kv1 []), 40⟩ := by
  obtain ⟨pi, hr, _, _, hx⟩ := plain_shape c.w.params
  rw [for_shape]
  refine LawS.stepL (forL_ok (T := tab3 c.w.params) (snd _ 70) rfl c scL (tab3_ok c.w) C f hn hx pi hr (Bd := fun i σ K => i ≤ 3 ∧ LInv p i σ ∧ (∀ σ', LInv p (i + 1) σ' → K .next σ') ∧ ∀ v σ', isT v → K (.ret v) σ')
    (fun q i σ K hb => turn1 (C.it q) (f.it q) hn ho XB TB T hb.1 hb.2.1 hb.2.2.1 hb.2.2.2) ?_)
  obtain ⟨R, e⟩ : ∃ R, flatB (lawB p n 1 kv0 kv1 []) = lawC ++ (poolH p.ns n ++ R) := ⟨_, rfl⟩
  have e2 : flatB (lawB p (n + 1) 1 kv0 kv1 []) = lawC ++ (poolH p.ns (n + 1) ++ R) := by
    have : flatB (lawB p n 1 kv0 kv1 []) = lawC ++ (poolH p.ns n ++ flatB ((lawB p n 1 kv0 kv1 []).drop 2)) := rfl
    have h2 : flatB (lawB p (n + 1) 1 kv0 kv1 []) = lawC ++ (poolH p.ns (n + 1) ++ flatB ((lawB p n 1 kv0 kv1 []).drop 2)) := rfl
    rw [this] at e
    rw [h2, List.append_cancel_left (List.append_cancel_left e)]
  rw [e]
  show runI c.w.params p.ns n (loopLoc p) R _ _
  rw [run_I]
  have go : ∀ k : Nat, k ≤ 4 → ∃ k' : Nat, k' ≤ 1000 ∧ V.int (k : Int) = .int (Int.ofNat k') ∧ forP (fun i σ K => i ≤ 3 ∧ LInv p i σ ∧ (∀ σ', LInv p (i + 1) σ' → K .next σ') ∧ ∀ v σ', isT v → K (.ret v) σ') k' 0 ⟨loopLoc p, celL, poolH p.ns (n + 1) ++ (lawC ++ R), 40⟩ (fun fl σ' => match fl with | .next => LawS c (execs b c.env) σ' | .ret v => isT v | _ => False) := fun k hk =>
    ⟨k, by omega, rfl, forP_inv rfl (fun i σ' hi I => h i σ' hi I) (fun v σ' z => z) k 0 _ (by omega) ⟨loopLoc p, _, n + 1, 1, kv0, kv1, [], rfl, by
      rw [e2, ← List.append_assoc, ← List.append_assoc lawC]
      exact List.perm_append_comm.append_right R, fun x v z => z, rfl, fun x hx => absurd hx List.not_mem_nil, by omega, by omega, l0, l1⟩⟩
  exact ⟨⟨n0, by omega, T.ns⟩, go 1 (by decide), go 2 (by decide), go 3 (by decide), go 4 (by decide)⟩
end
end Mine
namespace Mine
section
open LCg LCt
abbrev two (elt iter1 iter2 ct : PySem.Expr) (x1 x2 : Str) (p1 p2 : Pos) (scope : Scope) (pos : Pos) : PySem.Expr := .ListComp elt [⟨.Name x1 p1, iter1, [], 0⟩, ⟨.Name x2 p2, iter2, [ct], 0⟩] scope pos
section
variable {elt iter1 iter2 ct : PySem.Expr} {x1 x2 : Str} {p1 p2 : Pos} {scope : Scope} {pos : Pos} {it acc : Value} {env : Env} {prog : Program} {w : World} {A : Around} {R : Result → Shared → Prop} {s : Shared}
theorem two_turn0 : compTurn (two elt iter1 iter2 ct x1 x2 p1 p2 scope pos) 0 it acc env = (do
      standAt iter1.pos
      match ← pyNext it with
      | none => pure (.done .next)
      | some v =>
        letOwnedTupleGo (.Name x1 p1) it v
        assign (.Name x1 p1) env v
        let x ← eval iter2 env
        standAt iter2.pos
        let x ← foldedSetIterable iter2 env x
        let _ ← runOwn (.compStart (two elt iter1 iter2 ct x1 x2 p1 p2 scope pos) 1 (← holding [x] (pyIter x)) acc env) env
        again (.compLoop (two elt iter1 iter2 ct x1 x2 p1 p2 scope pos) 0 it acc env)) := by rfl
theorem two_turn1 : compTurn (two elt iter1 iter2 ct x1 x2 p1 p2 scope pos) 1 it acc env = (do
      standAt iter2.pos
      match ← pyNext it with
      | none => pure (.done .next)
      | some v =>
        letOwnedTupleGo (.Name x2 p2) it v
        assign (.Name x2 p2) env v
        let mut ok := true
        for c in [ct] do
          if ok then ok ← isTrue c env (eval c env)
        if ok then
          (do let _ ← call (.builtin "list.append") [acc, ← eval elt env])
        again (.compLoop (two elt iter1 iter2 ct x1 x2 p1 p2 scope pos) 1 it acc env)) := by rfl
theorem two_loop1 (I : Nat → Shared → Prop)
    (turn : ∀ n s, I n s → wpAny (model prog w) A (pyNext it) (fun r s₁ => match r with
      | none => R (.ok .next) s₁
      | some v => wpAny (model prog w) A (assign (.Name x2 p2) env v) (fun _ s₂ =>
          wpAny (model prog w) A (isTrue ct env (eval ct env)) (fun ok s₃ =>
            if ok = true then wpAny (model prog w) A (eval elt env) (fun x s₄ =>
              wpAny (model prog w) A (call (.builtin "list.append") [acc, x]) (fun _ s₅ => ∃ m, m < n ∧ I m s₅) (notedBy (model prog w) A env fun e s' => R (.error e) s') s₄) (notedBy (model prog w) A env fun e s' => R (.error e) s') s₃
            else ∃ m, m < n ∧ I m s₃) (notedBy (model prog w) A env fun e s' => R (.error e) s') s₂) (notedBy (model prog w) A env fun e s' => R (.error e) s') s₁) (notedBy (model prog w) A env fun e s' => R (.error e) s') s)
    (n : Nat) (h : I n s) : codeAny (model prog w) A (.compLoop (two elt iter1 iter2 ct x1 x2 p1 p2 scope pos) 1 it acc env) R s := by
  refine codeAny_loop rfl I (fun n s hI => ?_) n h
  show wpAny _ A ((compTurn (two elt iter1 iter2 ct x1 x2 p1 p2 scope pos) 1 it acc env).onRaise (fun x => do noteFrame x env; theTreesLotGoes x)) _ _ s
  refine wpAny_noted ?_
  rw [two_turn1]
  refine wpAny_bind (wpAny_standAt (wpAny_bind (wpAny_mono (turn n s hI) (fun r s₁ h₁ => ?_) fun _ _ h' => h')))
  cases r with
  | none => exact wpAny_pure h₁
  | some v =>
    refine wpAny_bind (wpAny_of_eq (show letOwnedTupleGo (.Name x2 p2) it v = pure () by rfl) ?_)
    refine wpAny_bind (wpAny_mono h₁ (fun _ s₂ h₂ => wpAny_bind (wpAny_mono (wpAny_tests_one h₂) (fun ok s₃ h₃ => ?_) fun _ _ h' => h')) fun _ _ h' => h')
    cases ok with
    | false => exact wpAny_pure ⟨rfl, h₃⟩
    | true =>
      exact wpAny_bind (wpAny_bind (wpAny_mono h₃ (fun x s₄ h₄ => wpAny_bind (wpAny_mono h₄ (fun _ s₅ h₅ => wpAny_pure (wpAny_pure ⟨rfl, h₅⟩)) fun _ _ h' => h')) fun _ _ h' => h'))
theorem two_start1 (h0 : codeAny (model prog w) A (.compLoop (two elt iter1 iter2 ct x1 x2 p1 p2 scope pos) 1 it acc env) R s)
    (h : wpAny (model prog w) A (pyIter it) (fun it' s' => codeAny (model prog w) A (.compLoop (two elt iter1 iter2 ct x1 x2 p1 p2 scope pos) 1 it' acc env) R s')
      (notedBy (model prog w) A env fun x s' => R (.error x) s') s) :
    codeAny (model prog w) A (.compStart (two elt iter1 iter2 ct x1 x2 p1 p2 scope pos) 1 it acc env) R s := by
  refine codeAny_of_tree ?_
  show wpAny _ _ ((compStart (two elt iter1 iter2 ct x1 x2 p1 p2 scope pos) 1 it acc env).onRaise (fun x => do noteFrame x env; standAt theWindowsPlace)) _ _ s
  refine wpAny_notedAt ?_
  unfold compStart
  show wpAny _ _ (ask >>= _) _ _ s
  refine wpAny_bind (wpAny_askSetting (wpAny_ite ?_))
  split
  · first
      | exact wpAny_bind (wpAny_pure (wpAny_pure (And.intro rfl h0)))
      | exact wpAny_pure (And.intro rfl h0)
  · refine wpAny_bind (wpAny_rule ?_)
    show wpAny _ _ (standAt iter2.pos >>= _) _ _ s
    exact wpAny_bind (wpAny_standAt (wpAny_bind (wpAny_mono h (fun it' s' h' => wpAny_pure (And.intro rfl h')) fun _ _ x => x)))
theorem two_loop0 (I : Nat → Shared → Prop) (hs : ∀ x, foldedSetIterable iter2 env x = pure x)
    (turn : ∀ n s, I n s → wpAny (model prog w) A (pyNext it) (fun r s₁ => match r with
      | none => R (.ok .next) s₁
      | some v => wpAny (model prog w) A (assign (.Name x1 p1) env v) (fun _ s₂ =>
          wpAny (model prog w) A (eval iter2 env) (fun x s₃ => wpAny (model prog w) A (pyIter x) (fun it2 s₄ =>
            codeAny (model prog w) A (.compStart (two elt iter1 iter2 ct x1 x2 p1 p2 scope pos) 1 it2 acc env) (fun r s' => match r with | .ok _ => ∃ m, m < n ∧ I m s' | .error e => cameBackBy (model prog w) A env (notedBy (model prog w) A env fun e s' => R (.error e) s') e s') s₄)
            (notedBy (model prog w) A env fun e s' => R (.error e) s') s₃) (notedBy (model prog w) A env fun e s' => R (.error e) s') s₂) (notedBy (model prog w) A env fun e s' => R (.error e) s') s₁) (notedBy (model prog w) A env fun e s' => R (.error e) s') s)
    (n : Nat) (h : I n s) : codeAny (model prog w) A (.compLoop (two elt iter1 iter2 ct x1 x2 p1 p2 scope pos) 0 it acc env) R s := by
  refine codeAny_loop rfl I (fun n s hI => ?_) n h
  show wpAny _ A ((compTurn (two elt iter1 iter2 ct x1 x2 p1 p2 scope pos) 0 it acc env).onRaise (fun x => do noteFrame x env; theTreesLotGoes x)) _ _ s
  refine wpAny_noted ?_
  rw [two_turn0]
  refine wpAny_bind (wpAny_standAt (wpAny_bind (wpAny_mono (turn n s hI) (fun r s₁ h₁ => ?_) fun _ _ h' => h')))
  cases r with
  | none => exact wpAny_pure h₁
  | some v =>
    refine wpAny_bind (wpAny_of_eq (show letOwnedTupleGo (.Name x1 p1) it v = pure () by rfl) ?_)
    refine wpAny_bind (wpAny_mono h₁ (fun _ s₂ h₂ => wpAny_bind (wpAny_mono h₂ (fun x s₃ h₃ => wpAny_bind (wpAny_standAt (wpAny_bind (wpAny_of_eq (hs x) (wpAny_bind (wpAny_holding (wpAny_mono h₃ (fun it2 s₄ h₄ => ?_) fun _ _ h' => h'))))))) fun _ _ h' => h')) fun _ _ h' => h')
    exact wpAny_bind (wpAny_runOwn (codeAny_mono h₄ fun r s' hr => by
      cases r with
      | ok f => exact wpAny_pure ⟨rfl, hr⟩
      | error e => exact hr))
end
section
variable {prog : Program} {w : World} {A : Around} {E : Value → Shared → Prop} {h₀ h h' : Heap} {L a : Addr} {m : Str → Option Value} {o o' : Obj} {l pre post : List (Addr × Obj)}
theorem news_upd (N : News h₀ L h (pre ++ (a, o) :: post)) (hk : ∀ b o, b ≠ a → h.get? b = some o → h'.get? b = some o) (ha : h'.get? a = some o') (off : ∀ p ∈ pre ++ post, p.1 ≠ a) : News h₀ L h' (pre ++ (a, o') :: post) := by
  intro p hp
  rcases List.mem_append.mp hp with q | q
  · have z := N p (List.mem_append_left _ q)
    exact ⟨hk _ _ (off p (List.mem_append_left _ q)) z.1, z.2⟩
  · rcases List.mem_cons.mp q with rfl | q
    · exact ⟨ha, (N (a, o) (List.mem_append_right _ (.head _))).2⟩
    · have z := N p (List.mem_append_right _ (.tail _ q))
      exact ⟨hk _ _ (off p (List.mem_append_right _ q)) z.1, z.2⟩
theorem fr_upd (F : Fr h₀ L h m) (N : News h₀ L h l) (hm : (a, o) ∈ l) (hk : ∀ b o, b ≠ a → h.get? b = some o → h'.get? b = some o) : Fr h₀ L h' m :=
  fr_but F (fun b o hb e => hk b o (by simpa using hb) e) (Ne.symm (N _ hm).2.1) (N _ hm).2.2
noncomputable def End2 (h₀ : Heap) (L : Addr) (m : Str → Option Value) (s₂ : Shared) (led : List (Addr × Obj)) {α : Type} (P : α → Prop) (x : α) (s' : Shared) : Prop :=
  ∃ h' tk', s' = { s₂ with heap := h', toks := tk' } ∧ Fr h₀ L h' m ∧ News h₀ L h' led ∧ P x
theorem End2.mk {s₂ : Shared} {led news : List (Addr × Obj)} {α : Type} {P : α → Prop} {x : α} {tk' : Nat} (F : Fr h₀ L h' m) (N : News h₀ L h' news) (hs : ∀ q ∈ led, q ∈ news) (p : P x) : End2 h₀ L m s₂ led P x { s₂ with heap := h', toks := tk' } := ⟨h', tk', rfl, F, fun q hq => N q (hs q hq), p⟩
inductive TwoI0 (h₀ : Heap) (L : Addr) (m : Str → Option Value) (s₂ : Shared) (n : Nat) (I0 C D ax : Addr) (J : Nat → Nat → List Value → List (Addr × Obj) → Prop) (k : Nat) (s' : Shared) : Prop
  | mk (h' : Heap) (tk i : Nat) (ys : List Value) (m' : Str → Option Value) (oI0 oC : Obj) (nw : List (Addr × Obj)) (e : s' = { s₂ with heap := h', toks := tk }) (hi : i ≤ n) (hk : k = n + 1 - i) (F : Fr h₀ L h' m) (N : News h₀ L h' ((I0, oI0) :: (C, oC) :: (D, lst ys) :: nw)) (hC : NsObj oC m')
    (hc : oI0.cls = .type "tuple_iterator") (hd : oI0.data = .fields #[.ref ax, .int i 0]) (off : Off3 I0 C D nw) (hJ : J i 0 ys nw)
inductive TwoI1 (h₀ : Heap) (L : Addr) (m : Str → Option Value) (s₂ : Shared) (n : Nat) (I0 C D I1 lt : Addr) (oI2 : Obj) (x1 : Str) (v : Value) (J : Nat → List Value → List (Addr × Obj) → Prop) (k : Nat) (s' : Shared) : Prop
  | mk (h' : Heap) (tk j : Nat) (ys : List Value) (m' : Str → Option Value) (oI1 oC : Obj) (nw : List (Addr × Obj)) (e : s' = { s₂ with heap := h', toks := tk }) (hj : j ≤ n) (hk : k = n + 1 - j) (F : Fr h₀ L h' m) (N : News h₀ L h' ((I0, oI2) :: (C, oC) :: (D, lst ys) :: (I1, oI1) :: nw)) (hC : NsObj oC m') (hm : m' x1 = some v)
    (hc : oI1.cls = .type "list_iterator") (hd : oI1.data = .fields #[.ref lt, .int j 0]) (off : Off3 I0 C D nw) (lt5 : ∀ p ∈ nw, p.1 ≠ I1) (hJ : J j ys nw)
theorem two_block {iter1 iter2 ct : PySem.Expr} {x1 x2 : Str} {p1 p2 pe : Pos} {scope : Scope} {cl : List (Str × Addr)} {pos : Pos} {env : Env} {s₂ : Shared} {I0 ax lt : Addr} {items1 items2 : Array Value} {k1 k2 : Nat} {news₀ : List (Addr × Obj)} {J : Nat → Nat → List Value → List (Addr × Obj) → Prop} {RR : Value → Addr → Result → Shared → Prop}
    (hh : A.handled = none) (hcell : ∀ y ∈ scope.names, y.2 ≠ .cell) (hkind : scope.kind = .function) (hx1 : scope.names.lookup x1 = some .local) (hx2 : scope.names.lookup x2 = some .local) (hne : x1 ≠ x2) (hdb : (x2 == ("__debug__" : Str)) = false)
    (hit : s₂.heap.IsTupleIter I0 ax 0) (hS : ∀ i j ys nw, J i j ys nw → (ax, ({ cls := .type "tuple", data := .seq items1 k1 } : Obj)) ∈ nw ∧ (lt, ({ cls := .type "list", data := .seq items2 k2 } : Obj)) ∈ nw)
    (F : Fr h₀ L s₂.heap m) (N : News h₀ L s₂.heap news₀) (hIL : I0 ≠ L) (hI₀ : h₀.get? I0 = none) (off : ∀ p ∈ news₀, p.1 ≠ I0) (hs : ∀ env x, foldedSetIterable iter2 env x = pure x)
    (it2 : ∀ i ys nw v1 oI0 C oC D m₂ h tk (E' : Value → Shared → Prop), J i 0 ys nw → items1[i]? = some v1 → NsObj oC m₂ → m₂ x1 = some v1 → Fr h₀ L h m → News h₀ L h ((I0, oI0) :: (C, oC) :: (D, lst ys) :: nw) → Off3 I0 C D nw → ((@Ne Nat I0 C) ∧ (@Ne Nat I0 D) ∧ (@Ne Nat C D)) →
      wpAny (model prog w) A (eval iter2 (compEnvC scope cl C env)) (fun v s' => v = .ref lt ∧ ∃ h' tk' nw', s' = { s₂ with heap := h', toks := tk' } ∧ Fr h₀ L h' m ∧ News h₀ L h' ((I0, oI0) :: (C, oC) :: (D, lst ys) :: nw') ∧ Off3 I0 C D nw' ∧ J i 0 ys nw') E' { s₂ with heap := h, toks := tk })
    (start : J 0 0 [] news₀) (step : ∀ i ys nw, J i items2.size ys nw → J (i + 1) 0 ys nw) (hsz : ∀ i j ys nw, J i j ys nw → ys.length ≤ sizeLine)
    (turn : ∀ i j ys nw v1 v2 I1 oI1 oI0 C oC D m₂ h tk (E' : Value → Shared → Prop), J i j ys nw → items1[i]? = some v1 → items2[j]? = some v2 → NsObj oC m₂ → m₂ x1 = some v1 → m₂ x2 = some v2 → Fr h₀ L h m → News h₀ L h ((I0, oI0) :: (C, oC) :: (D, lst ys) :: (I1, oI1) :: nw) → Off3 I0 C D ((I1, oI1) :: nw) → ((@Ne Nat I0 C) ∧ (@Ne Nat I0 D) ∧ (@Ne Nat C D)) → (∀ p ∈ nw, p.1 ≠ I1) →
      wpAny (model prog w) A (isTrue ct (compEnvC scope cl C env) (eval ct (compEnvC scope cl C env))) (fun ok s' => ∃ h' tk' nw', s' = { s₂ with heap := h', toks := tk' } ∧ Fr h₀ L h' m ∧ News h₀ L h' ((I0, oI0) :: (C, oC) :: (D, lst ys) :: (I1, oI1) :: nw') ∧ Off3 I0 C D nw' ∧ (∀ p ∈ nw', p.1 ≠ I1) ∧ J i (j + 1) (if ok = true then ys ++ [v2] else ys) nw') E' { s₂ with heap := h, toks := tk })
    (hRR : ∀ D C h tk m' ys nw, Fr h₀ L h m → News h₀ L h ((D, lst ys) :: nw) → Off1 D nw → h.Ns C m' → h₀.get? C = none → h₀.get? D = none → C ≠ L → D ≠ L → C ≠ D → (∀ p ∈ nw, p.1 ≠ C) → J items1.size 0 ys nw → RR (.ref D) C (.ok .next) { s₂ with heap := h, toks := tk }) :
    wpAny (model prog w) A (newList []) (fun acc s₃ => wpAny (model prog w) A (newFunctionEnv scope env.globals cl [] env.qual none .none (some env)) (fun cenv s₄ =>
      codeAny (model prog w) A (.compStart (two (.Name x2 pe) iter1 iter2 ct x1 x2 p1 p2 scope pos) 0 (.ref I0) acc { cenv with scope := relabel scope env }) (RR acc cenv.locals) s₄) E s₃) E s₂ := by
  refine wpAny_newObj_type (wpAny_newFunctionEnv hcell (by intro y hy; simp at hy) (fun h₁ hns₁ hsb₁ => ?_) hkind)
  dsimp only at hns₁ hsb₁ ⊢
  generalize hH2 : s₂.heap.push { cls := .type "list", dict := none, data := .seq ([] : List Value).toArray } = H2 at hns₁ hsb₁ ⊢
  have hC : H2.objs.size = s₂.heap.objs.size + 1 := by rw [← hH2, Heap.size_push]
  have hIlt : I0 < s₂.heap.objs.size := by obtain ⟨_, e, _⟩ := hit; exact Heap.lt_size e
  have hLlt : L < s₂.heap.objs.size := F.ns.lt
  obtain ⟨C, hCe⟩ : ∃ C, C = H2.objs.size := ⟨_, rfl⟩
  obtain ⟨D, hDe⟩ : ∃ D, D = s₂.heap.objs.size := ⟨_, rfl⟩
  rw [← hCe] at hns₁ hsb₁ ⊢
  rw [← hDe] at hC hIlt hLlt ⊢
  have hCD : C ≠ D := by rw [hCe, hC]; exact Nat.succ_ne_self _
  have below : ∀ b, b < D → b ≠ C ∧ b ≠ D := fun b hb => ⟨by rw [hCe, hC]; exact Nat.ne_of_lt (Nat.lt_succ_of_lt hb), Nat.ne_of_lt hb⟩
  have old : ∀ b o, s₂.heap.get? b = some o → h₁.get? b = some o := fun b o e => hsb₁.extBut b o (below b (hDe ▸ Heap.lt_size e)).1 (Heap.get?_push_of_some _ (hH2 ▸ Heap.get?_push_of_some _ e))
  have hacc : h₁.get? D = some (lst []) := hsb₁.extBut _ _ (Ne.symm hCD) (Heap.get?_push_of_some _ (by rw [hDe, ← hH2]; exact Heap.get?_push_size _ rfl))
  have fresh₀ : ∀ a, D ≤ a → h₀.get? a = none := fun a ha => by
    cases e : h₀.get? a with
    | none => rfl
    | some o' => have := Heap.lt_size (F.keep a o' e); rw [← hDe] at this; exact absurd this (Nat.not_lt.mpr ha)
  have hD₀ : h₀.get? D = none := fresh₀ _ (Nat.le_refl _)
  have hC₀ : h₀.get? C = none := fresh₀ _ (by rw [hCe, hC]; exact Nat.le_succ _)
  have hDL : D ≠ L := Ne.symm (below L hLlt).2
  have hCL : C ≠ L := Ne.symm (below L hLlt).1
  have hIC : I0 ≠ C := (below I0 hIlt).1
  have hID : I0 ≠ D := (below I0 hIlt).2
  have off₀' : Off3 I0 C D news₀ := Off3.of fun p hp => ⟨off p hp, (below _ (hDe ▸ Heap.lt_size (N p hp).1)).1, (below _ (hDe ▸ Heap.lt_size (N p hp).1)).2⟩
  obtain ⟨oC1, heC, hoC1⟩ := ns_obj hns₁
  obtain ⟨oI1, heI, hcI, hdI⟩ := id hit
  have N1 : News h₀ L h₁ ((I0, oI1) :: (C, oC1) :: (D, lst []) :: news₀) := fm ⟨old _ _ heI, hIL, hI₀⟩ (fm ⟨heC, hCL, hC₀⟩ (fm ⟨hacc, hDL, hD₀⟩ (N.grown old)))
  have loop : ∀ s₃ : Shared, s₃ = { s₂ with heap := h₁, toks := s₂.toks + ([] : List (Str × Value)).length } →
      codeAny (model prog w) A (.compLoop (two (.Name x2 pe) iter1 iter2 ct x1 x2 p1 p2 scope pos) 0 (.ref I0) (.ref D) (compEnvC scope cl C env)) (RR (.ref D) C) s₃ := by
    rintro s₃ rfl
    refine two_loop0
      (TwoI0 h₀ L m s₂ items1.size I0 C D ax J) (hs _) ?_ (items1.size + 1)
      ⟨h₁, _, 0, [], _, _, _, news₀, rfl, Nat.zero_le _, rfl, F.keeps old, N1, hoC1, hcI, hdI, off₀', start⟩
    rintro k s' ⟨h', tk, i, ys, m', oI0, oC, nw, rfl, hi, rfl, F', N', hoC, hcI, hdI, off₀, hJ⟩
    have off3 := off₀.mem
    obtain ⟨hax, hlt⟩ := hS _ _ _ _ hJ
    have W := Walks.tuple (prog := prog) (w := w) hh I0 ax (off3 _ hax).1 items1
    have gI : (I0, oI0) ∈ (I0, oI0) :: (C, oC) :: (D, lst ys) :: nw := .head _
    have gax := (N' _ (.tail _ (.tail _ (.tail _ hax)))).1
    have hst : h'.IsTupleIter I0 ax i ∧ h'.IsTuple ax items1 := ⟨⟨_, (N' _ gI).1, hcI, hdI⟩, ⟨_, gax, rfl, _, rfl⟩⟩
    by_cases hlt' : i < items1.size
    · refine W.item i _ _ _ hlt' hst fun v h₂ tk₂ hPv hst₂ hk₂ => ?_
      replace hk₂ : ∀ b o, b ≠ I0 → h'.get? b = some o → h₂.get? b = some o := fun b o hb e => hk₂ b o (by simpa using hb) e
      obtain ⟨oI2, he2, hc2, hd2⟩ := hst₂.1
      have F₂ := fr_upd F' N' gI hk₂
      have N₂ : News h₀ L h₂ ((I0, oI2) :: (C, oC) :: (D, lst ys) :: nw) := news_upd (pre := []) N' hk₂ he2 (fm (P := fun p : Addr × Obj => p.1 ≠ I0) (Ne.symm hIC) (fm (Ne.symm hID) fun p hp => (off3 p hp).1))
      refine wpAny_assign_Name (wpAny_storeName_local (m := m') (lookup_relabel_local hx1) (hoC.ns (N₂ (C, oC) (.tail _ (.head _))).1) (fun h₃ hn₃ hs₃ => ?_) (by simp [compEnvC, relabel, hkind]))
      obtain ⟨oC3, he3, hoC3⟩ := ns_obj hn₃
      have hk₃ : ∀ b o, b ≠ C → h₂.get? b = some o → h₃.get? b = some o := fun b o hb e => hs₃.extBut b o hb e
      have F₃ := fr_upd F₂ N₂ (.tail _ (.head _)) hk₃
      have N₃ := news_upd (pre := [(I0, oI2)]) N₂ hk₃ he3 (fm (P := fun p : Addr × Obj => p.1 ≠ C) hIC (fm (Ne.symm hCD) fun p hp => (off3 p hp).2.1))
      refine wpAny_mono (it2 i ys nw v oI2 C oC3 D _ h₃ _ _ hJ hPv hoC3 (by simp) F₃ N₃ off₀ ⟨hIC, hID, hCD⟩) (fun x s₄ hx => ?_) fun _ _ e => e
      obtain ⟨rfl, h₄, tk₄, nw4, rfl, F₄, N₄, off4, hJ⟩ := hx
      obtain ⟨hax, hlt⟩ := hS _ _ _ _ hJ
      have glt := (N₄ _ (.tail _ (.tail _ (.tail _ hlt)))).1
      refine wpAny_pyIter_list ⟨_, glt, rfl, _, rfl⟩ ?_
      obtain ⟨I1, hI1⟩ : ∃ I1, I1 = h₄.objs.size := ⟨_, rfl⟩
      have ltN : ∀ p ∈ (I0, oI2) :: (C, oC3) :: (D, lst ys) :: nw4, p.1 ≠ I1 := fun p hp => by rw [hI1]; exact Nat.ne_of_lt (Heap.lt_size (N₄ p hp).1)
      have nDI : D ≠ I1 := ltN (D, lst ys) (.tail _ (.tail _ (.head _)))
      have hI1L : I1 ≠ L := by rw [hI1]; exact Ne.symm (Nat.ne_of_lt F₄.ns.lt)
      have hI10 : h₀.get? I1 = none := by rw [hI1]; exact next_is_new F₄
      dsimp only
      rw [← hI1]
      obtain ⟨h₅, hh5⟩ : ∃ h₅, h₅ = h₄.push { cls := .type "list_iterator", data := .fields #[.ref lt, .int 0 0] } := ⟨_, rfl⟩
      have up : ∀ b o, h₄.get? b = some o → h₅.get? b = some o := fun b o e => hh5 ▸ Heap.get?_push_of_some _ e
      have heI5 : h₅.get? I1 = some { cls := .type "list_iterator", data := .fields #[.ref lt, .int 0 0] } := by rw [hh5, hI1]; exact Heap.get?_push_size _ rfl
      rw [← hh5]
      have hfull : codeAny (model prog w) A (.compLoop (two (.Name x2 pe) iter1 iter2 ct x1 x2 p1 p2 scope pos) 1 (.ref I1) (.ref D) (compEnvC scope cl C env)) (fun r s' => match r with
          | .ok _ => ∃ m_1, m_1 < items1.size + 1 - i ∧ TwoI0 h₀ L m s₂ items1.size I0 C D ax J m_1 s'
          | .error e => cameBackBy (model prog w) A (compEnvC scope cl C env) (notedBy (model prog w) A (compEnvC scope cl C env) fun e s' => RR (.ref D) C (.error e) s') e s') { s₂ with heap := h₅, toks := tk₄ } := by
        have g4 := N₄.grown up
        have N5 : News h₀ L h₅ ((I0, oI2) :: (C, oC3) :: (D, lst ys) :: (I1, { cls := .type "list_iterator", data := .fields #[.ref lt, .int 0 0] }) :: nw4) := fm (g4 _ (.head _)) (fm (g4 _ (.tail _ (.head _))) (fm (g4 _ (.tail _ (.tail _ (.head _)))) (fm ⟨heI5, hI1L, hI10⟩ fun p hp => g4 p (.tail _ (.tail _ (.tail _ hp))))))
        refine two_loop1 (TwoI1 h₀ L m s₂ items2.size I0 C D I1 lt oI2 x1 v (J i)) ?_ (items2.size + 1)
          ⟨h₅, _, 0, ys, _, { cls := .type "list_iterator", data := .fields #[.ref lt, .int 0 0] }, _, nw4, rfl, Nat.zero_le _, rfl, F₄.keeps up, N5, hoC3, (by simp), rfl, rfl, off4, fun p hp => ltN p (.tail _ (.tail _ (.tail _ hp))), hJ⟩
        · rintro k s' ⟨h', tk, j, ys, m', oI1, oC, nw5, rfl, hj, rfl, F', N', hoC, hm1, hcI, hdI, off5, ltN5, hJ⟩
          obtain ⟨hax, hlt⟩ := hS _ _ _ _ hJ
          have off3 := off5.mem
          have W1 := Walks.list (prog := prog) (w := w) hh I1 lt (ltN5 (lt, _) hlt) items2
          have gI : (I1, oI1) ∈ (I0, oI2) :: (C, oC) :: (D, lst ys) :: (I1, oI1) :: nw5 := .tail _ (.tail _ (.tail _ (.head _)))
          have glt := (N' _ (.tail _ (.tail _ (.tail _ (.tail _ hlt))))).1
          have hst : h'.IsListIter I1 lt j ∧ h'.IsList lt items2 := ⟨⟨_, (N' _ gI).1, hcI, hdI⟩, ⟨_, glt, rfl, _, rfl⟩⟩
          by_cases hjl : j < items2.size
          · refine W1.item j _ _ _ hjl hst fun v2 h₂ tk₂ hPv2 hst₂ hk₂ => ?_
            replace hk₂ : ∀ b o, b ≠ I1 → h'.get? b = some o → h₂.get? b = some o := fun b o hb e => hk₂ b o (by simpa using hb) e
            obtain ⟨oI3, he2, hc3, hd3⟩ := hst₂.1
            have F₂ := fr_upd F' N' gI hk₂
            have N₂ := news_upd (pre := [(I0, oI2), (C, oC), (D, lst ys)]) N' hk₂ he2 (fm (P := fun p : Addr × Obj => p.1 ≠ I1) (ltN (I0, oI2) (.head _)) (fm (ltN (C, oC3) (.tail _ (.head _))) (fm nDI ltN5)))
            refine wpAny_assign_Name (wpAny_storeName_local (m := m') (lookup_relabel_local hx2) (hoC.ns (N₂ (C, oC) (.tail _ (.head _))).1) (fun h₃ hn₃ hs₃ => ?_) (by simp [compEnvC, relabel, hkind]))
            obtain ⟨oC4, he3, hoC4⟩ := ns_obj hn₃
            have hk₃ : ∀ b o, b ≠ C → h₂.get? b = some o → h₃.get? b = some o := fun b o hb e => hs₃.extBut b o hb e
            have F₃ := fr_upd F₂ N₂ (.tail _ (.head _)) hk₃
            have N₃ := news_upd (pre := [(I0, oI2)]) N₂ hk₃ he3 (fm (P := fun p : Addr × Obj => p.1 ≠ C) hIC (fm (Ne.symm hCD) (fm (Ne.symm (ltN (C, oC3) (.tail _ (.head _)))) fun p hp => (off3 p hp).2.1)))
            refine wpAny_mono (turn i j ys nw5 v v2 I1 oI3 oI2 C oC4 D _ h₃ _ _ hJ hPv hPv2 hoC4 (by simpa [hne] using hm1) (by simp) F₃ N₃ ⟨⟨Ne.symm (ltN (I0, oI2) (.head _)), Ne.symm (ltN (C, oC3) (.tail _ (.head _))), Ne.symm nDI⟩, off5⟩ ⟨hIC, hID, hCD⟩ ltN5) (fun ok s₄ h₄' => ?_) fun _ _ e => e
            obtain ⟨h₄, tk₄, nw6, rfl, F₄, N₄, off6, ltN6, hJ4⟩ := h₄'
            cases ok with
            | true =>
              simp only [if_true] at hJ4 ⊢
              refine wpAny_Name (wpAny_loadName_local (v := v2) (m := fun x => if x = x2 then some v2 else m' x) (by simp [compEnvC, relabel, hkind]) (lookup_relabel_local hx2) (hoC4.ns (N₄ (C, oC4) (.tail _ (.head _))).1) (by simp) ?_) hdb
              have gD : (D, lst ys) ∈ (I0, oI2) :: (C, oC4) :: (D, lst ys) :: (I1, oI3) :: nw6 := .tail _ (.tail _ (.head _))
              refine append_at (hsz := by show ys.toArray.size ≤ sizeLine; rw [List.size_toArray]; exact hsz _ _ _ _ hJ) (N₄ _ gD).1 fun h₅ hs₅ hD₅ => ?_
              have hk₅ : ∀ b o, b ≠ D → h₄.get? b = some o → h₅.get? b = some o := fun b o hb e => hs₅.extBut b o hb e
              refine ⟨items2.size + 1 - (j + 1), by omega, h₅, tk₄, j + 1, ys ++ [v2], _, oI3, oC4, nw6, rfl, hjl, rfl, fr_upd F₄ N₄ gD hk₅, ?_, hoC4, (by simpa [hne] using hm1), hc3, hd3, off6, ltN6, hJ4⟩
              have := news_upd (pre := [(I0, oI2), (C, oC4)]) N₄ hk₅ hD₅ (fm (P := fun p : Addr × Obj => p.1 ≠ D) hID (fm hCD (fm (Ne.symm nDI) fun p hp => (off6.mem p hp).2.2)))
              rw [lst_snoc] at this
              exact this
            | false =>
              simp only [Bool.false_eq_true, if_false] at hJ4 ⊢
              exact ⟨items2.size + 1 - (j + 1), by omega, h₄, tk₄, j + 1, ys, _, oI3, oC4, nw6, rfl, hjl, rfl, F₄, N₄, hoC4, (by simpa [hne] using hm1), hc3, hd3, off6, ltN6, hJ4⟩
          · obtain rfl : j = items2.size := Nat.le_antisymm hj (Nat.not_lt.mp hjl)
            refine W1.done _ _ _ hst fun h₂ tk₂ hk₂ => ?_
            replace hk₂ : ∀ b o, b ≠ I1 → h'.get? b = some o → h₂.get? b = some o := fun b o hb e => hk₂ b o (by simpa using hb) e
            have k2 : ∀ p ∈ (I0, oI2) :: (C, oC) :: (D, lst ys) :: (I1, oI1) :: nw5, p.1 ≠ I1 → h₂.get? p.1 = some p.2 ∧ p.1 ≠ L ∧ h₀.get? p.1 = none := fun p hp hn => ⟨hk₂ _ _ hn (N' p hp).1, (N' p hp).2⟩
            exact ⟨items1.size + 1 - (i + 1), by omega, h₂, tk₂, i + 1, ys, _, oI2, oC, nw5, rfl, hlt', rfl, fr_upd F' N' gI hk₂, fm (k2 (I0, oI2) (.head _) (ltN (I0, oI2) (.head _))) (fm (k2 (C, oC) (.tail _ (.head _)) (ltN (C, oC3) (.tail _ (.head _)))) (fm (k2 (D, lst ys) (.tail _ (.tail _ (.head _))) nDI) fun p hp => k2 p (.tail _ (.tail _ (.tail _ (.tail _ hp)))) (ltN5 p hp))), hoC, hc2, hd2, off5, step i ys nw5 hJ⟩
      exact two_start1 hfull (wpAny_pyIter_listiter (l := lt) (i := 0) ⟨_, heI5, rfl, rfl⟩ hfull)
    · obtain rfl : i = items1.size := Nat.le_antisymm hi (Nat.not_lt.mp hlt')
      refine W.done _ _ _ hst fun h₂ tk₂ hk₂ => ?_
      replace hk₂ : ∀ b o, b ≠ I0 → h'.get? b = some o → h₂.get? b = some o := fun b o hb e => hk₂ b o (by simpa using hb) e
      have gC := (N' (C, oC) (.tail _ (.head _))).1
      refine hRR D C h₂ tk₂ m' ys nw (fr_upd F' N' gI hk₂) (fm ⟨hk₂ _ _ (Ne.symm hID) (N' _ (.tail _ (.tail _ (.head _)))).1, hDL, hD₀⟩ fun p hp => ⟨hk₂ _ _ (off3 p hp).1 (N' _ (.tail _ (.tail _ (.tail _ hp)))).1, (N' _ (.tail _ (.tail _ (.tail _ hp)))).2⟩) off₀.one (hoC.ns (hk₂ _ _ (Ne.symm hIC) gC)) hC₀ hD₀ hCL hDL hCD (fun p hp => (off3 p hp).2.1) hJ
  exact codeAny_compStart_list (loop _ rfl) (wpAny_pyIter_tupleiter (t := ax) (i := 0) (hit.at fun o e => old _ _ e) (loop _ rfl))
end
end
end Mine
namespace Mine
open LCg LCt
theorem all2_at {α β : Type} {r : α → β → Prop} {l : List α} {k : List β} (a : All2 r l k) : ∀ {i : Nat} {v : β}, k[i]? = some v → ∃ z, l[i]? = some z ∧ r z v := by
  induction a with
  | nil => exact fun e => nomatch e
  | cons x y ih =>
    intro i v e
    cases i with
    | zero => exact ⟨_, rfl, Option.some.inj e ▸ x⟩
    | succ i => exact ih e
noncomputable def Cd.cm2 (c : Cd) (scope : Scope) (cl : List (Str × Addr)) (m₂ : Str → Option Value) (pI pC pD pJ : Addr × Obj) : Cd := (c.it pJ).cm scope cl m₂ pI pC pD
theorem RelA.setloc {c : Cd} {ρ : Rho} {σ : St} {news : List (Addr × Obj)} {s : Shared} {loc : List (Str × V)} (R : RelA c ρ σ news s) (h : LocIs ρ loc c.ml) : RelA c ρ { σ with loc := loc } news s := ⟨R.F, R.N, R.nm, h, R.cel, R.sh⟩
theorem locIs2 {ρ : Rho} {m : Str → Option Value} {x1 x2 : Str} {z1 z2 : V} {u1 u2 : Value} (h1 : m x1 = some u1) (h2 : m x2 = some u2) (d1 : Den ρ z1 u1) (d2 : Den ρ z2 u2) : LocIs ρ [(x2, z2), (x1, z1)] m := fun y w e => by
  rw [lkS_cons] at e
  split at e
  · rename_i q
    cases e
    exact ⟨u2, Fast.sEq_iff.mp q ▸ h2, d2⟩
  · rw [lkS_cons] at e
    split at e
    · rename_i q
      cases e
      exact ⟨u1, Fast.sEq_iff.mp q ▸ h1, d1⟩
    · cases e
theorem cm_facts {c : Cd} {scope : Scope} {cl : List (Str × Addr)} {m₂ : Str → Option Value} {pI pC pD : Addr × Obj} {ρ : Rho} {σ : St} {news : List (Addr × Obj)} {s : Shared} (R : RelA (c.cm scope cl m₂ pI pC pD) ρ σ news s) : News c.h₀ c.L s.heap (pI :: pC :: pD :: (c.X ++ news)) ∧ Off3 pI.1 pC.1 pD.1 (c.X ++ news) := ⟨R.N, off_of R.nd⟩
section
variable {T : Tab} {n : Nat}
theorem two_core (I : Snd T n) (hq : T.q = false) (c : Cd) {sc : Names} (TT : TabOk T c.w) (C : Ck T.q c n) (hs : c.env.scope.names = sc) {iter1 iter2 ct : PySem.Expr} {x1 x2 : Str} {p1 p2 pe : Pos} {scope : Scope} {pos : Pos} {σ : St} {s₂ : Shared} {ρ1 : Rho}
    (hkind : scope.kind = .function) (hcell : ∀ y ∈ scope.names, y.2 ≠ .cell) (hx1 : scope.names.lookup x1 = some .local) (hx2 : scope.names.lookup x2 = some .local) (hne : x1 ≠ x2) (hdb : (x2 == ("__debug__" : Str)) = false)
    (hs2 : ∀ env x, foldedSetIterable iter2 env x = pure x) {zs xs : List V} {I0 ax lt : Addr} {b : Nat} {items1 items2 : Array Value} {k1 k2 : Nat} {nr : List (Addr × Obj)}
    (hit : s₂.heap.IsTupleIter I0 ax 0) (hax : (ax, ({ cls := .type "tuple", data := .seq items1 k1 } : Obj)) ∈ c.X) (hlt : (lt, ({ cls := .type "list", data := .seq items2 k2 } : Obj)) ∈ c.X) (el : ρ1 b = some lt)
    (al1 : All2 (Den ρ1) zs items1.toList) (al2 : All2 (Den ρ1) xs items2.toList) (R0 : RelA c ρ1 σ nr s₂) (hIL : I0 ≠ c.L) (hI₀ : c.h₀.get? I0 = none) (off : ∀ p ∈ c.X ++ nr, p.1 ≠ I0)
    {Acc : Nat → Nat → List V → Prop} (a0 : Acc 0 0 []) (aS : ∀ i acc, Acc i xs.length acc → Acc (i + 1) 0 acc) (aL : ∀ i j acc, Acc i j acc → acc.length ≤ 1000)
    (hi : ∀ (i : Nat) z, zs[i]? = some z → ∀ K X, K (.ref b) { σ with loc := [(x1, z)], cel := celOf σ.cel scope.names } → vcE T n (relN sc scope.names) iter2 { σ with loc := [(x1, z)], cel := celOf σ.cel scope.names } K X)
    (ht : ∀ (i j : Nat) z x acc, zs[i]? = some z → xs[j]? = some x → Acc i j acc → ∃ ok : Bool, Acc i (j + 1) (if ok = true then acc ++ [x] else acc) ∧ ∀ K X, K ok { σ with loc := [(x2, x), (x1, z)], cel := celOf σ.cel scope.names } → vcT T n (relN sc scope.names) ct { σ with loc := [(x2, x), (x1, z)], cel := celOf σ.cel scope.names } K X)
    {RR : Value → Addr → Result → Shared → Prop} {E : Value → Shared → Prop}
    (hRR : ∀ D Ca h tk m' ys ρ2 news acc, ρ1.le ρ2 → Acc zs.length 0 acc → All2 (Den ρ2) acc ys → Fr c.h₀ c.L h c.m → News c.h₀ c.L h ((D, lst ys) :: (c.X ++ news)) → Off1 D (c.X ++ news) → h.Ns Ca m' → Ca ≠ c.L → c.h₀.get? Ca = none → Ca ≠ D → (∀ p ∈ c.X ++ news, p.1 ≠ Ca) → RelA c ρ2 σ news { s₂ with heap := h, toks := tk } → RR (.ref D) Ca (.ok .next) { s₂ with heap := h, toks := tk }) :
    wpAny (MM c.w) c.A (newList []) (fun acc s₃ => wpAny (MM c.w) c.A (newFunctionEnv scope c.env.globals (closL scope.names (cellsAt c.env) []) [] c.env.qual none .none (some c.env)) (fun cenv s₄ =>
      codeAny (MM c.w) c.A (.compStart (two (.Name x2 pe) iter1 iter2 ct x1 x2 p1 p2 scope pos) 0 (.ref I0) acc { cenv with scope := relabel scope c.env }) (RR acc cenv.locals) s₄) E s₃) E s₂ := by
  let J : Nat → Nat → List Value → List (Addr × Obj) → Prop := fun i j ys nw => ∃ ρ2 news acc, nw = c.X ++ news ∧ ρ1.le ρ2 ∧ Acc i j acc ∧ All2 (Den ρ2) acc ys ∧
    ∀ h tk, Fr c.h₀ c.L h c.m → News c.h₀ c.L h nw → RelA c ρ2 σ news { s₂ with heap := h, toks := tk }
  refine two_block (J := J) (news₀ := c.X ++ nr) (ax := ax) (lt := lt) (items1 := items1) (items2 := items2) (k1 := k1) (k2 := k2) (C.hh hq) hcell hkind hx1 hx2 hne hdb hit ?_ R0.F R0.N hIL hI₀ off hs2 ?_ ⟨ρ1, nr, [], rfl, ρ1.le_refl, a0, .nil, fun h tk F N => R0.re F N⟩ ?_ ?_ ?_ ?_
  · rintro i j ys nw ⟨ρ2, news, acc, rfl, _⟩
    exact ⟨List.mem_append_left _ hax, List.mem_append_left _ hlt⟩
  · rintro i ys nw v1 oI0 Ca oC D m₂ h tk E' ⟨ρ2, news, acc, rfl, le2, h2, D2, hR⟩ hv hoC hm1 F N off ne
    obtain ⟨z, hz, dz⟩ := all2_at al1 (by simpa using hv)
    have R1 := hR h tk F fun q hq => N q (.tail _ (.tail _ (.tail _ hq)))
    have R2 := R1.comp (pI := (I0, oI0)) (pC := (Ca, oC)) (pD := (D, lst ys)) (x := x1) (v := z) (cel' := celOf σ.cel scope.names) (scope := scope) (cl := closL scope.names (cellsAt c.env) []) N off ne hm1 (dz.mono le2) (cel_block R1.cel)
    refine I.e (c.cm scope (closL scope.names (cellsAt c.env) []) m₂ (I0, oI0) (Ca, oC) (D, lst ys)) (relN sc scope.names) iter2 TT (C.cm hoC hkind) (relabel_names hs C.hk scope) ρ2 _ _ _ (fun _ _ => False) _ E' ⟨news, R2⟩ (hi i z hz (fun v σ2 => v = .ref b ∧ σ2 = { σ with loc := [(x1, z)], cel := celOf σ.cel scope.names }) _ ⟨rfl, rfl⟩) (fun ρ3 σ3 v u s2 le3 R3 D3 e => ?_) fun _ _ _ _ _ _ _ z => z.elim
    obtain ⟨rfl, rfl⟩ := e
    obtain ⟨lt', e4, rfl⟩ := D3
    obtain rfl : lt = lt' := Option.some.inj ((le3 _ _ (le2 _ _ el)).symm.trans e4)
    obtain ⟨news2, R3⟩ := R3
    have R4 := R3.uncomp (loc0 := σ.loc) (cel0 := σ.cel) (R0.loc.mono (Rho.le_trans le2 le3)) (R0.cel.mono (Rho.le_trans le2 le3))
    have e3 := state_eq (s := s₂) R1.sh R3.sh
    refine ⟨rfl, s2.heap, s2.toks, _, e3, R3.F, R3.N, off_of R3.nd, ρ3, news2, acc, rfl, Rho.le_trans le2 le3, h2, D2.mono fun _ _ z => z.mono le3, fun h' tk' F' N' => ?_⟩
    have R5 := R4.re (t := tk') F' N'
    rw [e3] at R5
    exact R5
  · rintro i ys nw ⟨ρ2, news, acc, e, le2, h2, D2, hR⟩
    have := al2.length
    exact ⟨ρ2, news, acc, e, le2, aS i acc (by rw [this]; exact h2), D2, hR⟩
  · rintro i j ys nw ⟨ρ2, news, acc, e, le2, h2, D2, hR⟩
    rw [← D2.length]
    exact Nat.le_trans (aL _ _ _ h2) (by decide)
  · rintro i j ys nw v1 v2 I1 oI1 oI0 Ca oC D m₂ h tk E' ⟨ρ2, news, acc, rfl, le2, h2, D2, hR⟩ hv1 hv2 hoC hm1 hm2 F N off ne ltN
    obtain ⟨z, hz, dz⟩ := all2_at al1 (by simpa using hv1)
    obtain ⟨x, hx, dx⟩ := all2_at al2 (by simpa using hv2)
    obtain ⟨ok, hok, hT⟩ := ht i j z x acc hz hx h2
    have Rh := hR h tk F fun q hq => N q (.tail _ (.tail _ (.tail _ (.tail _ hq))))
    obtain ⟨c2, hc2⟩ : ∃ c2, c2 = c.it (I1, oI1) := ⟨_, rfl⟩
    have hw : c2.w = c.w := by rw [hc2]; rfl
    have hA : c2.A = c.A := by rw [hc2]; rfl
    have he : c2.env = c.env := by rw [hc2]; rfl
    have C2 : Ck T.q c2 n := by rw [hc2]; exact C.it (I1, oI1)
    have R1 : RelA c2 ρ2 σ news { s₂ with heap := h, toks := tk } := by rw [hc2]; exact Rh.on (p := (I1, oI1)) (N _ (.tail _ (.tail _ (.tail _ (.head _))))) ltN
    have N2 : News c2.h₀ c2.L h ((I0, oI0) :: (Ca, oC) :: (D, lst ys) :: (c2.X ++ news)) := by rw [hc2]; exact N
    have off2 : Off3 I0 Ca D (c2.X ++ news) := by rw [hc2]; exact off
    have R2 := (R1.comp (pI := (I0, oI0)) (pC := (Ca, oC)) (pD := (D, lst ys)) (x := x2) (v := x) (cel' := celOf σ.cel scope.names) (scope := scope) (cl := closL scope.names (cellsAt c.env) []) N2 off2 ne hm2 (dx.mono le2) (he ▸ cel_block R1.cel)).setloc (loc := [(x2, x), (x1, z)]) (locIs2 hm1 hm2 (dz.mono le2) (dx.mono le2))
    have key : ∀ Q : Bool → Shared → Prop, (∀ ρ3 σ3 v s2, ρ2.le ρ3 → Rel (c2.cm scope (closL scope.names (cellsAt c.env) []) m₂ (I0, oI0) (Ca, oC) (D, lst ys)) ρ3 σ3 s2 → (v = ok ∧ σ3 = { σ with loc := [(x2, x), (x1, z)], cel := celOf σ.cel scope.names }) → Q v s2) → wpAny (MM c2.w) c2.A (isTrue ct (compEnvC scope (closL scope.names (cellsAt c.env) []) Ca c2.env) (eval ct (compEnvC scope (closL scope.names (cellsAt c.env) []) Ca c2.env))) Q E' { s₂ with heap := h, toks := tk } := fun Q hQ =>
      I.t (c2.cm scope (closL scope.names (cellsAt c.env) []) m₂ (I0, oI0) (Ca, oC) (D, lst ys)) (relN sc scope.names) ct (hw ▸ TT) (C2.cm hoC hkind) (relabel_names (he ▸ hs) C2.hk scope) ρ2 _ _ _ (fun _ _ => False) Q E' ⟨news, R2⟩ (hT (fun v σ2 => v = ok ∧ σ2 = { σ with loc := [(x2, x), (x1, z)], cel := celOf σ.cel scope.names }) _ ⟨rfl, rfl⟩) (fun ρ3 σ3 v s2 le3 R3 e => hQ ρ3 σ3 v s2 le3 R3 e) fun _ _ _ _ _ _ _ z => z.elim
    rw [hw, hA, he] at key
    refine key _ (fun ρ3 σ3 v s2 le3 R3 e => ?_)
    obtain ⟨rfl, rfl⟩ := e
    obtain ⟨news2, R3⟩ := R3
    obtain ⟨N3, off3⟩ := cm_facts R3
    have R4 := R3.uncomp (loc0 := σ.loc) (cel0 := σ.cel) (c := c2) (by rw [hc2]; exact R0.loc.mono (Rho.le_trans le2 le3)) (by rw [hc2]; exact R0.cel.mono (Rho.le_trans le2 le3))
    subst hc2
    have e3 := state_eq (s := s₂) R1.sh R4.sh
    have N3 : News c.h₀ c.L s2.heap ((I0, oI0) :: (Ca, oC) :: (D, lst ys) :: (I1, oI1) :: (c.X ++ news2)) := N3
    have off4 : Off3 I0 Ca D ((I1, oI1) :: (c.X ++ news2)) := off3
    have nd4 := List.nodup_cons.mp (show ((I1, oI1).1 :: (c.X ++ news2).map (·.1)).Nodup from R4.nd)
    have R6 := R4.un
    refine ⟨s2.heap, s2.toks, _, e3, R6.F, N3, off4.2, fun p hp e => nd4.1 (show I1 ∈ _ from e ▸ List.mem_map_of_mem (f := Prod.fst) hp), ρ3, news2, _, rfl, Rho.le_trans le2 le3, hok, ?_, fun h' tk' F' N' => ?_⟩
    · have D3 : All2 (Den ρ3) acc ys := D2.mono fun _ _ z => z.mono le3
      cases v with
      | true => exact D3.append (.cons (dx.mono (Rho.le_trans le2 le3)) .nil)
      | false => exact D3
    have R5 := R6.re (t := tk') F' N'
    rw [e3] at R5
    exact R5
  · rintro D Ca h' tk m' ys nw F' N' o1 hn hC₀ hD₀ hCL hDL hCD offC ⟨ρ2, news, acc, rfl, le2, h2, D2, hR⟩
    rw [← Array.length_toList, ← al1.length] at h2
    exact hRR D Ca h' tk m' ys ρ2 news acc le2 h2 D2 F' N' o1 hn hCL hC₀ hCD offC (hR h' tk F' fun q hq => N' q (.tail _ hq))
end
end Mine
namespace Mine
open LCg LCt
section
variable {T : Tab} {n : Nat}
theorem two_asg (hq : T.q = false) (c : Cd) {sc : Names} (TT : TabOk T c.w) (C : Ck false c n) (f : Fk c) (hs : c.env.scope.names = sc) {iter1 iter2 ct : PySem.Expr} {x1 x2 y : Str} {p1 p2 pe py : Pos} {scope : Scope} {pos spos : Pos} {σ σ1 : St} {K : KS}
    (hsw : swapsWith (two (.Name x2 pe) iter1 iter2 ct x1 x2 p1 p2 scope pos) (some (.Name y py)) spos.line c.env = pure true)
    (co : compOk sc σ.cel x1 scope = true) (hx2 : scope.names.lookup x2 = some .local) (hne : x1 ≠ x2) (hdb : (x2 == ("__debug__" : Str)) = false) (hy : lkS sc y = some .local)
    (hs1 : ∀ x, foldedSetIterable iter1 c.env x = pure x) (hs2 : ∀ env x, foldedSetIterable iter2 env x = pure x)
    {a b : Nat} {zs xs : List V}
    (h1 : ∀ K X, K (.ref a) σ1 → vcE T n sc iter1 σ K X) (ga : get σ1.H a = some (.tup zs)) (gb : get (drop σ1.H a) b = some (.list xs))
    {Acc : Nat → Nat → List V → Prop} (a0 : Acc 0 0 []) (aS : ∀ i acc, Acc i xs.length acc → Acc (i + 1) 0 acc) (aL : ∀ i j acc, Acc i j acc → acc.length ≤ 1000)
    (hi : ∀ (i : Nat) z, zs[i]? = some z → ∀ K X, K (.ref b) ⟨[(x1, z)], celOf σ1.cel scope.names, drop (drop σ1.H a) b, σ1.nx⟩ → vcE T n (relN sc scope.names) iter2 ⟨[(x1, z)], celOf σ1.cel scope.names, drop (drop σ1.H a) b, σ1.nx⟩ K X)
    (ht : ∀ (i j : Nat) z x acc, zs[i]? = some z → xs[j]? = some x → Acc i j acc → ∃ ok : Bool, Acc i (j + 1) (if ok = true then acc ++ [x] else acc) ∧ ∀ K X, K ok ⟨[(x2, x), (x1, z)], celOf σ1.cel scope.names, drop (drop σ1.H a) b, σ1.nx⟩ → vcT T n (relN sc scope.names) ct ⟨[(x2, x), (x1, z)], celOf σ1.cel scope.names, drop (drop σ1.H a) b, σ1.nx⟩ K X)
    (hK : ∀ acc, Acc zs.length 0 acc → K .next ⟨putS σ1.loc y (.ref σ1.nx), σ1.cel, (σ1.nx, .list acc) :: (a, .tup zs) :: (b, .list xs) :: drop (drop σ1.H a) b, σ1.nx + 1⟩) :
    SemL c (exec (.Assign [.Name y py] (two (.Name x2 pe) iter1 iter2 ct x1 x2 p1 p2 scope pos) spos) c.env) σ K := by
  intro m ρ s Q E hE R k
  have CT : Ck T.q c n := hq.symm ▸ C
  have Cm := CT.at f m
  have I := snd T n
  obtain ⟨hkind, hcell, hnames, hx1, _⟩ := comp_facts co
  have hcl := clos_at (c := c.at m) R co
  have hy' : c.env.kindOf y = some .local := by unfold Env.kindOf; rw [hs]; exact lkS_lookup hy
  have hp : (c.env.scope.kind == .class || (c.env.scope.kind == .module && c.env.locals != c.env.globals)) = false := by rw [C.hk]; rfl
  have hL := f.loc
  rw [exec_Assign_Name_used _ _ _ _ hsw]
  refine wpAny_bind (wpAny_standAt (wpAny_bind ?_))
  show wpAny _ c.A (do let _ ← comprehension (two (.Name x2 pe) iter1 iter2 ct x1 x2 p1 p2 scope pos) scope c.env _ (newList []) false (eval iter1 c.env) (some (assign (.Name y py) c.env))) _ _ s
  have F0 : Fr c.h₀ c.env.locals s.heap m := by obtain ⟨_, RA⟩ := R; exact f.loc ▸ RA.F
  refine wpAny_bind (wpAny_mono (wpAny_comprehension_free (use := some (assign (.Name y py) c.env)) (Q := fun _ s' => Q .next s') rfl hs1 hcl hkind hnames
    (I.e (c.at m) sc iter1 TT Cm hs ρ σ s _ (fun _ _ => False) _ _ R (h1 (fun v σ' => v = .ref a ∧ σ' = σ1) _ ⟨rfl, rfl⟩) (fun ρ1 σ' v u s₁ le1 R1 D1 e => ?_) fun _ _ _ _ _ _ _ z => z.elim)) (fun _ s' hq => wpAny_pure (wpAny_pure hq)) fun _ _ e => e)
  obtain ⟨rfl, rfl⟩ := e
  obtain ⟨ax, ea, rfl⟩ := D1
  obtain ⟨news1, RA1⟩ := R1
  obtain ⟨ax', ob1, nr1, ex, o1', sm1, RF1⟩ := RA1.freeze ga
  obtain rfl : ax = ax' := Option.some.inj (ea.symm.trans ex)
  obtain ⟨lt, ob2, nr2, el, o2, sm2, RF2⟩ := RF1.freeze gb
  obtain ⟨items1, k1, rfl, al1⟩ := id o1'
  obtain ⟨items2, k2, rfl, al2⟩ := id o2
  obtain ⟨pb, hpb⟩ : ∃ pb : Addr × Obj, pb = (lt, W.listOf items2 k2) := ⟨_, rfl⟩
  obtain ⟨pa, hpa⟩ : ∃ pa : Addr × Obj, pa = (ax, ⟨.type "tuple", none, .seq items1 k1, #[]⟩) := ⟨_, rfl⟩
  rw [← hpa] at RF2
  rw [← hpb] at RF2
  have C1 : Ck T.q (((c.at m).fz pa).fz pb) n := (Cm.fz pa).fz pb
  have gax := (RF2.N pa (.tail _ (.head _))).1
  rw [hpa] at gax
  refine wpAny_pyIter_tuple ⟨_, gax, rfl, _, rfl⟩ ?_
  obtain ⟨c1, hc1⟩ : ∃ c1, c1 = ((c.at m).fz pa).fz pb := ⟨_, rfl⟩
  have hw : c1.w = c.w := by rw [hc1]; rfl
  have hA : c1.A = c.A := by rw [hc1]; rfl
  have he : c1.env = c.env := by rw [hc1]; rfl
  have ma : pa ∈ c1.X := by rw [hc1]; exact .tail _ (.head _)
  have mb : pb ∈ c1.X := by rw [hc1]; exact .head _
  rw [← hc1] at RF2 C1
  have F1 : Fr c.h₀ c.L s₁.heap m := RA1.F
  have F2 := RF2.F
  have N2 := RF2.N
  have up : ∀ b o, s₁.heap.get? b = some o → (s₁.heap.push { cls := .type "tuple_iterator", data := .fields #[.ref ax, .int 0 0] }).get? b = some o := fun b o e => Heap.get?_push_of_some _ e
  have Rg : RelA c1 ρ1 ⟨σ'.loc, σ'.cel, drop (drop σ'.H a) b, σ'.nx⟩ nr2 { s₁ with heap := s₁.heap.push { cls := .type "tuple_iterator", data := .fields #[.ref ax, .int 0 0] } } := RF2.re (t := s₁.toks) (F2.keeps up) (News.grown N2 up)
  have core := fun (RR : Value → Addr → Result → Shared → Prop) (E : Value → Shared → Prop) => two_core (iter1 := iter1) (pe := pe) (p1 := p1) (p2 := p2) (pos := pos) I hq c1 (hw ▸ TT) C1 (he ▸ hs) hkind hcell hx1 hx2 hne hdb hs2 (b := b) ⟨_, Heap.get?_push_size _ rfl, rfl, rfl⟩ (hpa ▸ ma) (by rw [hpb] at mb; exact mb) el al1 al2 Rg (Ne.symm (Nat.ne_of_lt F2.ns.lt)) (next_is_new F2) (fun p hp => Nat.ne_of_lt (Heap.lt_size (N2 p hp).1)) a0 aS aL hi ht (RR := RR) (E := E)
  rw [hw, hA, he] at core
  refine core _ _ ?_
  intro D Ca h' tk m' ys ρ2 news acc le2 h2 D2 F' N' o1 hn hCL hC₀ hCD offC Rf
  subst hc1
  show wpAny _ c.A (assign (.Name y py) c.env (.ref D)) _ _ _
  have F' : Fr c.h₀ c.L h' m := F'
  refine wpAny_assign_Name (wpAny_storeName_local hy' (hL ▸ F'.ns) (fun h₂ hn₂ hs₂ => ?_) hp)
  rw [hL] at hn₂ hs₂
  have hL₀ : c.h₀.get? c.L = none := Heap.get?_none_of_le F'.above
  have F₂ : Fr c.h₀ c.L h₂ (fun z => if z = y then some (.ref D) else m z) := ⟨hn₂, fun b o e => hs₂.extBut b o (fun q => by rw [q, hL₀] at e; cases e) (F'.keep b o e), F'.above⟩
  refine ⟨m', hn.sameBut hs₂ hCL, fun h'' hs'' => ?_⟩
  have Nall : News c.h₀ c.L h'' ((D, lst ys) :: (pb :: pa :: (c.X ++ news))) := fun p hp => by
    have z : h₂.get? p.1 = some p.2 := hs₂.extBut _ _ (N' p hp).2.1 (N' p hp).1
    refine ⟨hs''.extBut _ _ ?_ z, (N' p hp).2⟩
    rcases List.mem_cons.mp hp with rfl | hp
    · exact Ne.symm hCD
    · exact offC p hp
  have T1 := Rf.thaw (c := (c.at m).fz pa) (ad := pb.1) (ob := pb.2) (a := b) (o := .list xs) (by rw [hpb]; exact le2 _ _ el) (by rw [hpb]; exact o2.mono le2) (by rw [hpb]; exact sm2)
  have T2 := T1.thaw (c := c.at m) (ad := pa.1) (ob := pa.2) (a := a) (o := .tup zs) (by rw [hpa]; exact le2 _ _ ea) (by rw [hpa]; exact o1'.mono le2) (by rw [hpa]; exact sm1)
  obtain ⟨ρ4, σ4, m4, le4, R4, h4⟩ := Done.asg (c := c) (m := m) (ρ := ρ1) (y := y) (K := K .next) (s₂ := { s₁ with heap := s₁.heap.push { cls := .type "tuple_iterator", data := .fields #[.ref ax, .int 0 0] } }) (us := ys) (all := pb :: pa :: (c.X ++ news)) (tk := tk + 1) ⟨Cm.xs.ne, Cm.xs.ys⟩
    ⟨ρ2, ⟨σ'.loc, σ'.cel, (a, .tup zs) :: (b, .list xs) :: drop (drop σ'.H a) b, σ'.nx⟩, acc, pa :: pb :: news, h', tk, le2, D2, hK acc h2, (fun q hq => by
      rcases List.mem_append.mp hq with hq | hq
      · exact .tail _ (.tail _ (List.mem_append_left _ hq))
      · rcases List.mem_cons.mp hq with rfl | hq
        · exact .tail _ (.head _)
        · rcases List.mem_cons.mp hq with rfl | hq
          · exact .head _
          · exact .tail _ (.tail _ (List.mem_append_right _ hq))), T2⟩ (fun h d => LocIs.put h d) (D := D) (h := h'') (F₂.change hs'' hCL hC₀) Nall o1
  exact k m4 ρ4 σ4 .next .next _ R4 .next h4
end
end Mine
namespace Mine
open LCg LCt
noncomputable def lcP : Expr → Expr × List Comprehension × Scope × Pos
  | .ListComp e gs sc p => (e, gs, sc, p)
  | _ => (cE0, [], ⟨.function, [], false, false, []⟩, ⟨0, 0, 0, 0⟩)
noncomputable def g1P : List Comprehension → Expr × Expr × List Expr
  | g :: _ => (g.target, g.iter, g.ifs)
  | [] => (cE0, cE0, [])
noncomputable def st7 : List Expr × Expr × Pos := asP (hd1 (pcL 7 1))
noncomputable def lc7 : Expr × List Comprehension × Scope × Pos := lcP st7.2.1
noncomputable def ga7 : Expr × Expr × List Expr := g1P lc7.2.1
noncomputable def gb7 : Expr × Expr × List Expr := g1P lc7.2.1.tail
noncomputable def ct7 : Expr := hdE gb7.2.2
theorem shape7 : pcL 7 1 = [.Assign [.Name (s "lacking") (nmP (hdE st7.1))] (two (.Name (s "pair") (nmP lc7.1)) ga7.2.1 gb7.2.1 ct7 (s "time") (s "pair") (nmP ga7.1) (nmP gb7.1) lc7.2.2.1 lc7.2.2.2) st7.2.2] := by kernel_rfl
noncomputable def sc7 : Names := lc7.2.2.1.names
noncomputable def blk7 (h0 h1 : Int) (ab0 ab1 : Bool) (R : Hp) : Hp := (2, .tup [.ref 3, .si h0]) :: (6, .tup [.ref 7, .si h1]) :: (tyAB ab0 ++ (tyBB ab1 ++ R))
noncomputable def runC1 (P : Params) (loc : List (Str × V)) (H : Hp) (K : KV) (X : KX) : Prop := vcE (tab3 P) 70 scL ga7.2.1 ⟨loc, celL, lawC ++ ((10, .list [.ref 2, .ref 6]) :: H), 70⟩ K X
noncomputable def runC2 (P : Params) (z : V) (H : Hp) (K : KV) (X : KX) : Prop := vcE (tab3 P) 70 (relN scL sc7) gb7.2.1 ⟨[(s "time", z)], celOf celL sc7, lawC ++ H, 71⟩ K X
noncomputable def runC3 (P : Params) (z x : V) (h0 h1 : Int) (ab0 ab1 : Bool) (R : Hp) (K : Bool → St → Prop) (X : KX) : Prop := vcT (tab3 P) 70 (relN scL sc7) ct7 ⟨[(s "pair", x), (s "time", z)], celOf celL sc7, lawC ++ blk7 h0 h1 ab0 ab1 R, 71⟩ K X
noncomputable def outC3 (t : Int) (x : Nat) (h h0 h1 : Int) (ab ab0 ab1 : Bool) (R : Hp) (K : Bool → St → Prop) : Prop :=
  let f := fun b => K b ⟨[(s "pair", .ref x), (s "time", .int t)], celOf celL sc7, lawC ++ blk7 h0 h1 ab0 ab1 R, 71⟩
  (eqInt h t = true → (ab = true → f false) ∧ (ab = false → f true)) ∧ (eqInt h t = false → f false)
theorem run_C1 (P : Params) (loc : List (Str × V)) (H : Hp) (K : KV) (X : KX) : runC1 P loc H K X = K (.ref 70) ⟨loc, celL, (70, .tup [.int 1, .int 2]) :: (lawC ++ ((10, .list [.ref 2, .ref 6]) :: H)), 71⟩ := by kernel_rfl
theorem run_C2 (P : Params) (z : V) (H : Hp) (K : KV) (X : KX) : runC2 P z H K X = K (.ref 10) ⟨[(s "time", z)], celOf celL sc7, lawC ++ H, 71⟩ := by kernel_rfl
theorem run_C3a (P : Params) (h0 h1 : Int) (ab0 ab1 : Bool) (R : Hp) (K : Bool → St → Prop) (X : KX) : runC3 P (.int 1) (.ref 2) h0 h1 ab0 ab1 R K X = outC3 1 2 h0 h0 h1 ab0 ab0 ab1 R K := by kernel_rfl
theorem run_C3b (P : Params) (h0 h1 : Int) (ab0 ab1 : Bool) (R : Hp) (K : Bool → St → Prop) (X : KX) : runC3 P (.int 1) (.ref 6) h0 h1 ab0 ab1 R K X = outC3 1 6 h1 h0 h1 ab1 ab0 ab1 R K := by kernel_rfl
theorem run_C3c (P : Params) (h0 h1 : Int) (ab0 ab1 : Bool) (R : Hp) (K : Bool → St → Prop) (X : KX) : runC3 P (.int 2) (.ref 2) h0 h1 ab0 ab1 R K X = outC3 2 2 h0 h0 h1 ab0 ab0 ab1 R K := by kernel_rfl
theorem run_C3d (P : Params) (h0 h1 : Int) (ab0 ab1 : Bool) (R : Hp) (K : Bool → St → Prop) (X : KX) : runC3 P (.int 2) (.ref 6) h0 h1 ab0 ab1 R K X = outC3 2 6 h1 h0 h1 ab1 ab0 ab1 R K := by kernel_rfl
end Mine
namespace Mine
noncomputable def absH (a : Nat) (nm : Str) (num : Int) (ab : Bool) (kv : List (Str × Str)) : Hp := [(a, .inst 316 (a + 1)), (a + 1, tyD nm num ab (a + 2)), (a + 2, .odict kv)]
noncomputable def hdS : List Stmt → Stmt
  | st :: _ => st
  | [] => .Pass ⟨0, 0, 0, 0⟩
noncomputable def cE1 : Expr := .Constant .none 0 ⟨0, 0, 0, 0⟩
noncomputable def retE : Stmt → Expr
  | .Return e _ => (match e with
    | some e => e
    | none => cE1)
  | _ => cE1
noncomputable def lcP1 : Expr → Expr × List Comprehension × Scope × Pos
  | .ListComp e gs sc p => (e, gs, sc, p)
  | _ => (cE1, [], ⟨.function, [], false, false, []⟩, ⟨0, 0, 0, 0⟩)
noncomputable def ifsP : List Comprehension → Expr
  | g :: _ => (match g.ifs with
    | e :: _ => e
    | [] => cE1)
  | [] => cE1
noncomputable def lcA (P : Params) : Expr × List Comprehension × Scope × Pos := lcP1 (retE (hdS (ii P 86).body))
noncomputable def absT (P : Params) : St → (Bool → St → Prop) → Prop := fun σ K => vcT (tab2 P) 15 (relN (ii P 86).sc.names (lcA P).2.2.1.names) (ifsP (lcA P).2.1) σ K fun _ _ => False
noncomputable def absL (P : Params) : St → KV → Prop := fun σ K => vcE (tab2 P) 15 (relN (ii P 86).sc.names (lcA P).2.2.1.names) (lcA P).1 σ K fun _ _ => False
noncomputable def runA86 (P : Params) (a N : Nat) (nm : Str) (num : Int) (ab : Bool) (kv : List (Str × Str)) (K : KV) (X : KX) : Prop := vcC (tab2 P) 20 86 [.ref a] ⟨[], [], absH a nm num ab kv, N⟩ K X
noncomputable def stA (a N : Nat) (nm : Str) (num : Int) (ab : Bool) (kv : List (Str × Str)) : St := ⟨[], [(s "kind", N)], (N, .cell (some (.ref a))) :: absH a nm num ab kv, N + 2⟩
noncomputable def outA86 (P : Params) (a N : Nat) (nm : Str) (num : Int) (ab : Bool) (kv : List (Str × Str)) (K : KV) : Prop := ∀ ks : List Str, (∀ k, memS ks k = isSome' (lkS kv k)) → ks.length ≤ 60 → (ks.length ≤ 1000 ∧
  vcLC (absT P) (absL P) (s "key") [(s "kind", N)] [] [(s "kind", N)] (ks.map .ss) [] (stA a N nm num ab kv) fun ys σ2 => K (.ref σ2.nx) ⟨[], [], (σ2.nx, .list ys) :: (N + 1, .tlist ks) :: σ2.H, σ2.nx + 1⟩)
theorem run_A3 (P : Params) (ab : Bool) (kv : List (Str × Str)) (K : KV) (X : KX) : runA86 P 3 80 (s "a") 80 ab kv K X = outA86 P 3 80 (s "a") 80 ab kv K := by kernel_rfl
theorem run_A3' (P : Params) (ab : Bool) (kv : List (Str × Str)) (K : KV) (X : KX) : runA86 P 3 90 (s "a") 80 ab kv K X = outA86 P 3 90 (s "a") 80 ab kv K := by kernel_rfl
theorem run_A7 (P : Params) (ab : Bool) (kv : List (Str × Str)) (K : KV) (X : KX) : runA86 P 7 80 (s "b") 81 ab kv K X = outA86 P 7 80 (s "b") 81 ab kv K := by kernel_rfl
theorem run_A7' (P : Params) (ab : Bool) (kv : List (Str × Str)) (K : KV) (X : KX) : runA86 P 7 90 (s "b") 81 ab kv K X = outA86 P 7 90 (s "b") 81 ab kv K := by kernel_rfl
noncomputable def outT (kv : List (Str × Str)) (k : Str) (σ : St) (K : Bool → St → Prop) : Prop := match lkS kv k with
  | some v => (Fast.sEq v (s "") = true → K true σ) ∧ (Fast.sEq v (s "") = false → K false σ)
  | none => False
noncomputable def atK (a N : Nat) (nm : Str) (num : Int) (ab : Bool) (kv : List (Str × Str)) (k : Str) : St := ⟨[(s "key", .ss k)], [(s "kind", N)], (N, .cell (some (.ref a))) :: absH a nm num ab kv, N + 2⟩
noncomputable def turnOk (a N : Nat) (nm : Str) (num : Int) : Prop := ∀ (P : Params) (ab : Bool) (kv : List (Str × Str)) (k : Str), (∀ K, absT P (atK a N nm num ab kv k) K = outT kv k (atK a N nm num ab kv k) K) ∧ ∀ K, absL P (atK a N nm num ab kv k) K = K (.ss k) (atK a N nm num ab kv k)
theorem turn_A3 : turnOk 3 80 (s "a") 80 := fun P ab kv k => ⟨fun K => by kernel_rfl, fun K => by kernel_rfl⟩
theorem turn_A3' : turnOk 3 90 (s "a") 80 := fun P ab kv k => ⟨fun K => by kernel_rfl, fun K => by kernel_rfl⟩
theorem turn_A7 : turnOk 7 80 (s "b") 81 := fun P ab kv k => ⟨fun K => by kernel_rfl, fun K => by kernel_rfl⟩
theorem turn_A7' : turnOk 7 90 (s "b") 81 := fun P ab kv k => ⟨fun K => by kernel_rfl, fun K => by kernel_rfl⟩
noncomputable def isNil (kv : List (Str × Str)) (k : Str) : Bool := match lkS kv k with
  | some v => Fast.sEq v (s "")
  | none => false
theorem abs_turns {a N : Nat} {nm : Str} {num : Int} (T : turnOk a N nm num) (P : Params) (ab : Bool) (kv : List (Str × Str)) {K : List V → St → Prop} : ∀ (ks : List Str) (acc : List V), (∀ k ∈ ks, isSome' (lkS kv k) = true) →
    K (acc.reverse ++ (ks.filter (isNil kv)).map .ss) (stA a N nm num ab kv) → vcLC (absT P) (absL P) (s "key") [(s "kind", N)] [] [(s "kind", N)] (ks.map .ss) acc (stA a N nm num ab kv) K
  | [], acc, _, h => by
    rw [List.filter_nil, List.map_nil, List.append_nil] at h
    exact h
  | k :: r, acc, hk, h => by
    show absT P (atK a N nm num ab kv k) _
    rw [(T P ab kv k).1]
    have h1 := hk k (.head _)
    unfold outT
    cases e : lkS kv k with
    | none => rw [e] at h1; cases h1
    | some v =>
      dsimp only
      have e2 : isNil kv k = Fast.sEq v (s "") := by unfold isNil; rw [e]
      rw [List.filter_cons, e2] at h
      refine ⟨fun ev => ?_, fun ev => ?_⟩
      · rw [ev] at h
        show absL P (atK a N nm num ab kv k) _
        rw [(T P ab kv k).2]
        refine abs_turns T P ab kv r (.ss k :: acc) (fun x hx => hk x (.tail _ hx)) ?_
        rw [List.reverse_cons, List.append_assoc]
        exact h
      · rw [ev] at h
        exact abs_turns T P ab kv r acc (fun x hx => hk x (.tail _ hx)) h
theorem lkS_ndS {v : Str} {k : Str} : ∀ {kv : List (Str × Str)}, (kv.map (·.1)).Nodup → (k, v) ∈ kv → lkS kv k = some v
  | p :: r, nd, h => by
    rw [List.map_cons, List.nodup_cons] at nd
    rw [lkS_cons]
    rcases List.mem_cons.mp h with rfl | h
    · rw [Fast.sEq_iff.mpr rfl]
    · cases e : Fast.sEq p.1 k with
      | true => exact absurd (List.mem_map_of_mem (f := (·.1)) h) (by rw [← Fast.sEq_iff.mp e]; exact nd.1)
      | false => exact lkS_ndS nd.2 h
theorem nil_iff {kv : List (Str × Str)} {ks : List Str} (nd : (kv.map (·.1)).Nodup) (hk : ∀ k, memS ks k = isSome' (lkS kv k)) : nilL (ks.filter (isNil kv)) = !(memS (kv.map (·.2)) (s "")) := by
  cases e : memS (kv.map (·.2)) (s "") with
  | true =>
    obtain ⟨⟨k, v⟩, hp, rfl⟩ := List.mem_map.mp (memS_of e)
    have e1 : lkS kv k = some (s "") := lkS_ndS nd hp
    have m : k ∈ ks.filter (isNil kv) := List.mem_filter.mpr ⟨memS_of (by rw [hk, e1]; rfl), by unfold isNil; rw [e1]; exact Fast.sEq_iff.mpr rfl⟩
    cases z : ks.filter (isNil kv) with
    | nil => rw [z] at m; cases m
    | cons _ _ => rfl
  | false =>
    cases z : ks.filter (isNil kv) with
    | nil => rfl
    | cons k r =>
      exfalso
      have m : k ∈ ks.filter (isNil kv) := by rw [z]; exact .head _
      obtain ⟨_, h2⟩ := List.mem_filter.mp m
      unfold isNil at h2
      cases e1 : lkS kv k with
      | none => rw [e1] at h2; cases h2
      | some v =>
        rw [e1] at h2
        have := Fast.sEq_iff.mp h2
        subst this
        have := memS_in (List.mem_map_of_mem (f := (·.2)) (lkS_mem e1))
        rw [e] at this; cases this
noncomputable def absK (a N : Nat) (nm : Str) (num : Int) (σ : St) (K : KV) : Prop := match get σ.H (a + 1), get σ.H (a + 2) with
  | some o, some (.odict kv) => get σ.H a = some (.inst 316 (a + 1)) ∧ (∃ ab, o = tyD nm num ab (a + 2)) ∧
      ∀ ks ss : List Str, nilL ss = (!(memS (kv.map (·.2)) (s ""))) → K (.ref (N + 2)) ⟨σ.loc, σ.cel, ((N + 2, .tlist ss) :: (N + 1, .tlist ks) :: (N, .cell (some (.ref a))) :: (a, .inst 316 (a + 1)) :: (a + 1, o) :: (a + 2, .odict kv) :: []) ++ drop (drop (drop σ.H a) (a + 1)) (a + 2), N + 3⟩
  | _, _ => False
noncomputable def absN (a : Nat) (nm : Str) (num : Int) (σ : St) (K : KV) : Prop := match Nat.ble σ.nx 80 with
  | true => absK a 80 nm num σ K
  | false => (match Nat.ble σ.nx 90 with
    | true => absK a 90 nm num σ K
    | false => False)
noncomputable def absS : Spec := fun vs σ K _ => match vs with
  | [.ref a] => (match Nat.beq a 3 with
    | true => absN 3 (s "a") 80 σ K
    | false => (match Nat.beq a 7 with
      | true => absN 7 (s "b") 81 σ K
      | false => False))
  | _ => False
theorem Rel.tlist {c : Cd} {ρ : Rho} {loc : List (Str × V)} {cel : List (Str × Nat)} {a : Nat} {us : List Str} {H : Hp} {nx : Nat} {s : Shared} (R : Rel c ρ ⟨loc, cel, (a, .list (us.map .ss)) :: H, nx⟩ s) : Rel c ρ ⟨loc, cel, (a, .tlist us) :: H, nx⟩ s := by
  refine R.elim fun news R => ⟨news, R.F, R.N, ⟨R.nd, ?_, R.rng, R.inj, R.fresh, R.nm.sm, R.nm.off⟩, R.loc, R.cel, R.sh⟩
  exact All2.cons_d R.led fun b r x y => .cons ⟨x.1, (x.2 : ListIs ρ (us.map .ss) b.2).rec fun vs n e al => ⟨vs, n, e, ss_den.mp al⟩⟩ y
theorem abs_ok {a N : Nat} {nm : Str} {num : Int} (hrun : ∀ P ab kv K X, runA86 P a N nm num ab kv K X = outA86 P a N nm num ab kv K) (hT : turnOk a N nm num)
    {c : Cd} {σ : St} {us : List Value} {K : KV} {ρ : Rho} {s : Shared} {Q E : Value → Shared → Prop} (C : Ck false c 20) (R : Rel c ρ σ s) (D : All2 (Den ρ) [.ref a] us) (hn : σ.nx ≤ N) (h : absK a N nm num σ K)
    (k : ∀ ρ' σ' v u s', ρ.le ρ' → Rel c ρ' σ' s' → Den ρ' v u → K v σ' → Q u s') : wpAny (MM c.w) c.A (call (.ref 86) us) Q E s := by
  unfold absK at h
  split at h
  · rename_i o kv e1 e2
    obtain ⟨e0, ⟨ab, rfl⟩, hK⟩ := h
    have pm : σ.H.Perm (absH a nm num ab kv ++ drop (drop (drop σ.H a) (a + 1)) (a + 2)) := by
      refine (get_perm e0).trans (.cons _ ?_)
      refine (get_perm (by rw [get_drop (by omega)]; exact e1)).trans (.cons _ ?_)
      exact get_perm (by rw [get_drop (by omega), get_drop (by omega)]; exact e2)
    have nd : (kv.map (·.1)).Nodup := by
      obtain ⟨news, RA⟩ := R
      obtain ⟨ad, ob, _, _, _, ⟨es, n, _, _, nd, _⟩⟩ := RA.ld e2
      rw [tkv_keys] at nd
      exact nd
    refine frame C R pm hn fun c1 C1 ew eA R1 up _ => ?_
    have := (snd (tab2 c.w.params) 20).c c1 86 [.ref a] us (by rw [ew]; exact tab2_ok c.w) C1 ρ _ s (fun v σ2 => ∃ ks ss, nilL ss = (!(memS (kv.map (·.2)) (Mine.s ""))) ∧ v = .ref (N + 2) ∧ σ2 = ⟨[], [], (N + 2, .list (ss.map .ss)) :: (N + 1, .tlist ks) :: (N, .cell (some (.ref a))) :: absH a nm num ab kv, N + 3⟩) (fun _ _ => False) Q E R1 D ?_ ?_ ?_
    · rw [ew, eA] at this
      exact this
    · show runA86 c.w.params a N nm num ab kv _ _
      rw [hrun]
      intro ks h1 h2
      refine ⟨Nat.le_trans h2 (by decide), abs_turns hT c.w.params ab kv ks [] (fun k hk => by rw [← h1]; exact memS_in hk) ?_⟩
      exact ⟨ks, ks.filter (isNil kv), nil_iff nd h1, rfl, rfl⟩
    · rintro ρ' σ' v u s' le R' D' ⟨ks, ss, hn, rfl, rfl⟩
      exact k ρ' _ (.ref (N + 2)) u s' le (up _ _ _ le R'.tlist) D' (hK ks ss hn)
    · exact fun _ _ _ _ _ _ _ z => z.elim
  · exact h.elim
theorem abs_spec : SpecOk 86 absS 20 := fun c σ vs us K X ρ s Q E C R D h k _ => by
  unfold absS at h
  split at h
  · rename_i a
    split at h
    · rename_i ha
      obtain rfl := Nat.eq_of_beq_eq_true ha
      unfold absN at h
      split at h
      · rename_i hn
        exact abs_ok run_A3 turn_A3 C R D (Nat.le_of_ble_eq_true hn) h k
      · split at h
        · rename_i hn
          exact abs_ok run_A3' turn_A3' C R D (Nat.le_of_ble_eq_true hn) h k
        · exact h.elim
    · split at h
      · rename_i ha
        obtain rfl := Nat.eq_of_beq_eq_true ha
        unfold absN at h
        split at h
        · rename_i hn
          exact abs_ok run_A7 turn_A7 C R D (Nat.le_of_ble_eq_true hn) h k
        · split at h
          · rename_i hn
            exact abs_ok run_A7' turn_A7' C R D (Nat.le_of_ble_eq_true hn) h k
          · exact h.elim
      · exact h.elim
  · exact h.elim
end Mine
namespace Mine
open LCg LCt
noncomputable def lkO (p : TPar) : Nat → Bool
  | 0 => eqInt (p.h0 : Int) 1 && !p.ab0
  | 1 => eqInt (p.h1 : Int) 1 && !p.ab1
  | 2 => eqInt (p.h0 : Int) 2 && !p.ab0
  | 3 => eqInt (p.h1 : Int) 2 && !p.ab1
  | _ => false
noncomputable def lkX : Nat → V
  | 0 => .ref 2
  | 1 => .ref 6
  | 2 => .ref 2
  | _ => .ref 6
noncomputable def lackUp (p : TPar) : Nat → List V
  | 0 => []
  | k + 1 => if lkO p k = true then lackUp p k ++ [lkX k] else lackUp p k
theorem lackUp_len (p : TPar) : ∀ k, (lackUp p k).length ≤ k
  | 0 => Nat.le_refl _
  | k + 1 => by
    have := lackUp_len p k
    unfold lackUp
    split
    · rw [List.length_append]; exact Nat.succ_le_succ this
    · omega
theorem SemL.bump {c : Cd} {t : Sem Flow} {σ : St} {K : KS} {N : Nat} (hN : σ.nx ≤ N) (h : SemL c t { σ with nx := N } K) : SemL c t σ K := fun m ρ s Q E hE R q => h m ρ s Q E hE (Rel.bump R hN) q
noncomputable def loc7 (l : Nat) : List (Str × V) := [(s "place", .ref 11), (s "scope", .ref 32), (s "lacking", .ref l)]
noncomputable def rest7 (p : TPar) (n l : Int) (kv0 kv1 : List (Str × Str)) (hs : List Nat) : List (Nat × Hp) :=
  [(0, poolH p.ns n), (4, [(5, .odict kv0)]), (7, [(9, .odict kv1)]), (8, scH (.si l)),
    (9, core1 p.kd p.part (5 + hs.length : Nat)), (10, core2 eN (lisN hs) p.kd (ordOf p.h0 p.h1) hs), (11, lisH eN (lisN hs) hs (presOf hs)), (12, histE hs 0), (13, homB (Nat.blt 0 p.h0) (Nat.blt 0 p.h1) (part1 p.sort p.h0) (part1 p.sort p.h1)), (14, othH (homW p.h0 p.h1)), (17, p.ents), (15, nTy), (16, kinH)]
theorem law_blk7 (p : TPar) (n l : Int) (kv0 kv1 : List (Str × Str)) (hs : List Nat) : (flatB (lawB p n l kv0 kv1 hs)).Perm (lawC ++ ((10, .list [.ref 2, .ref 6]) :: blk7 p.h0 p.h1 p.ab0 p.ab1 (flatB (rest7 p n l kv0 kv1 hs)))) := by
  have := pickB_perm (is := [18, 1, 2, 5, 3, 6]) (bs := lawB p n l kv0 kv1 hs) (by rfl)
  refine this.trans (.of_eq ?_)
  simp only [flat, blk7, rest7, List.append_assoc, List.append_nil]
  rfl
theorem sw7 {c : Cd} (C : Ck false c 70) (hn : c.env.scope.names = scL) : swapsWith (two (.Name (s "pair") (nmP lc7.1)) ga7.2.1 gb7.2.1 ct7 (s "time") (s "pair") (nmP ga7.1) (nmP gb7.1) lc7.2.2.1 lc7.2.2.2) (some (.Name (s "lacking") (nmP (hdE st7.1)))) st7.2.2.line c.env = pure true := by
  show (pure (c.env.blockKind == .function && c.env.kindOf (s "lacking") == some .local && (nmP (hdE st7.1)).line == lc7.2.2.2.line && !(lc7.2.2.1.names.any fun (n, k) => n == s "lacking" && (k == .local || k == .cell))) : Sem Bool) = pure true
  have e1 : c.env.blockKind = .function := by unfold Env.blockKind; rw [C.hk]; rfl
  have e2 : c.env.kindOf (s "lacking") = some .local := by
    unfold Env.kindOf
    rw [hn]
    exact lkS_lookup (by kernel_rfl)
  rw [e1, e2]
  have e3 : ((nmP (hdE st7.1)).line == lc7.2.2.2.line) = true := by kernel_rfl
  have e4 : (!(lc7.2.2.1.names.any fun (n, k) => n == s "lacking" && (k == .local || k == .cell))) = true := by kernel_rfl
  rw [e3, e4]
  rfl
theorem outC3_of {t : Int} {x : Nat} {h h0 h1 : Int} {ab ab0 ab1 : Bool} {R : Hp} {K : Bool → St → Prop} (hk : K (eqInt h t && !ab) ⟨[(s "pair", .ref x), (s "time", .int t)], celOf celL sc7, lawC ++ blk7 h0 h1 ab0 ab1 R, 71⟩) : outC3 t x h h0 h1 ab ab0 ab1 R K := by
  refine ⟨fun e => ⟨fun a => ?_, fun a => ?_⟩, fun e => ?_⟩
  · rw [e, a] at hk; exact hk
  · rw [e, a] at hk; exact hk
  · rw [e] at hk; exact hk
theorem LawS.unloc {c : Cd} {t : Sem Flow} {σ : St} {loc : List (Str × V)} (h1 : ∀ x v, lkS loc x = some v → lkS σ.loc x = some v) (h : LawS c t { σ with loc := loc }) : LawS c t σ := fun m ρ s Q E hE R q =>
  h m ρ s Q E hE (let ⟨news, R⟩ := R; ⟨news, R.F, R.N, R.nm, fun x v e => R.loc x v (h1 x v e), R.cel, R.sh⟩) q
theorem lack_lk {p : TPar} {loc : List (Str × V)} {l : Nat} (h : ∀ x v, lkS (loopLoc p) x = some v → lkS loc x = some v) : ∀ x v, lkS (loc7 l) x = some v → lkS (putS loc (s "lacking") (.ref l)) x = some v := by
  intro x v e
  have m := lkS_mem e
  have nt : ∀ y w, lkS (loopLoc p) y = some w → y ≠ s "lacking" → lkS (putS loc (s "lacking") (.ref l)) y = some w := fun y w e hne => by
    rw [lkS_put, if_neg (Ne.symm hne)]; exact h y w e
  simp only [loc7, List.mem_cons, List.not_mem_nil, or_false, Prod.mk.injEq] at m
  rcases m with ⟨rfl, rfl⟩ | ⟨rfl, rfl⟩ | ⟨rfl, rfl⟩
  · exact nt _ _ (by kernel_rfl) (by decide +kernel)
  · exact nt _ _ (by kernel_rfl) (by decide +kernel)
  · rw [lkS_put, if_pos rfl]
section
variable {c : Cd} {p : TPar} {b : List Stmt}
theorem stepL7 (C : Ck false c 70) (f : Fk c) (hn : c.env.scope.names = scL) {i : Nat} {σ : St} (hi : i ≤ 4) (I : LInv p i σ)
    (h : ∀ n l kv0 kv1 hs, hs.length ≤ 4 → (∀ x ∈ hs, x ∈ [0, 1]) → LawS c (execs b c.env) ⟨loc7 71, celL, flatB ((60, [(71, .list (lackUp p 4))]) :: (61, [(70, .tup [.int 1, .int 2])]) :: lawB p n l kv0 kv1 hs), 72⟩) : LawS c (execs (pcL 7 1 ++ b) c.env) σ := by
  obtain ⟨loc, H0, n, l, kv0, kv1, hs, rfl, pm, hl, rfl, hx, n0, n1, l0, l1⟩ := I
  rw [shape7]
  refine LawS.stepL (SemL.perm (pm.trans (law_blk7 p n l kv0 kv1 hs)) rfl (SemL.bump (N := 70) (show 40 + 6 * hs.length ≤ 70 by omega) (SemL.one (two_asg (T := tab3 c.w.params) (n := 70) (a := 70) (b := 10) (zs := [.int 1, .int 2]) (xs := [.ref 2, .ref 6]) (σ1 := ⟨loc, celL, (70, .tup [.int 1, .int 2]) :: (lawC ++ ((10, .list [.ref 2, .ref 6]) :: blk7 p.h0 p.h1 p.ab0 p.ab1 (flatB (rest7 p n l kv0 kv1 hs)))), 71⟩)
    (Acc := fun i j acc => acc = lackUp p (2 * i + j) ∧ i ≤ 2 ∧ j ≤ 2 ∧ (i = 2 → j = 0)) rfl c (tab3_ok c.w) C f hn (sw7 C hn) ?_ ?_ ?_ ?_ ?_ ?_ ?_ ?_ ?_ ?_ ?_ ?_ ?_ ?_ ?_ ?_))))
  · kernel_rfl
  · exact lkS_lookup (by kernel_rfl)
  · decide +kernel
  · decide +kernel
  · kernel_rfl
  · intro x; rfl
  · intro env x; rfl
  · intro K X h
    show runC1 c.w.params loc (blk7 p.h0 p.h1 p.ab0 p.ab1 (flatB (rest7 p n l kv0 kv1 hs))) K X
    rw [run_C1]; exact h
  · exact get_hd _ _ _
  · rfl
  · exact ⟨rfl, by decide, by decide, fun _ => rfl⟩
  · rintro i acc ⟨rfl, h1, h2, h3⟩
    refine ⟨rfl, ?_, by decide, fun _ => rfl⟩
    rcases Nat.lt_or_ge i 2 with q | q
    · omega
    · exact absurd (h3 (by omega)) (show ¬ (2 : Nat) = 0 by decide)
  · rintro i j acc ⟨rfl, h1, h2, h3⟩
    have := lackUp_len p (2 * i + j)
    omega
  · intro i z hz K X h
    show runC2 c.w.params z (blk7 p.h0 p.h1 p.ab0 p.ab1 (flatB (rest7 p n l kv0 kv1 hs))) K X
    rw [run_C2]; exact h
  · rintro i j z x acc hz hx ⟨rfl, h1, h2, h3⟩
    rcases i with _ | _ | i
    · cases hz
      rcases j with _ | _ | j
      · cases hx
        refine ⟨lkO p 0, ⟨rfl, by decide, by decide, fun e => nomatch e⟩, fun K X hk => ?_⟩
        show runC3 c.w.params (.int 1) (.ref 2) p.h0 p.h1 p.ab0 p.ab1 (flatB (rest7 p n l kv0 kv1 hs)) K X
        rw [run_C3a]; exact outC3_of hk
      · cases hx
        refine ⟨lkO p 1, ⟨rfl, by decide, by decide, fun e => nomatch e⟩, fun K X hk => ?_⟩
        show runC3 c.w.params (.int 1) (.ref 6) p.h0 p.h1 p.ab0 p.ab1 (flatB (rest7 p n l kv0 kv1 hs)) K X
        rw [run_C3b]; exact outC3_of hk
      · cases hx
    · cases hz
      rcases j with _ | _ | j
      · cases hx
        refine ⟨lkO p 2, ⟨rfl, by decide, by decide, fun e => nomatch e⟩, fun K X hk => ?_⟩
        show runC3 c.w.params (.int 2) (.ref 2) p.h0 p.h1 p.ab0 p.ab1 (flatB (rest7 p n l kv0 kv1 hs)) K X
        rw [run_C3c]; exact outC3_of hk
      · cases hx
        refine ⟨lkO p 3, ⟨rfl, by decide, by decide, fun e => nomatch e⟩, fun K X hk => ?_⟩
        show runC3 c.w.params (.int 2) (.ref 6) p.h0 p.h1 p.ab0 p.ab1 (flatB (rest7 p n l kv0 kv1 hs)) K X
        rw [run_C3d]; exact outC3_of hk
      · cases hx
    · cases hz
  · rintro acc ⟨rfl, h1, h2, h3⟩
    refine LawS.unloc (loc := loc7 71) (lack_lk hl) ?_
    refine LawS.perm (H0 := flatB ((60, [(71, .list (lackUp p 4))]) :: (61, [(70, .tup [.int 1, .int 2])]) :: lawB p n l kv0 kv1 hs)) ?_ rfl (h n l kv0 kv1 hs hi hx)
    refine .cons _ (.cons _ ?_)
    refine List.Perm.trans ?_ (law_blk7 p n l kv0 kv1 hs).symm
    exact (List.perm_middle (l₁ := lawC)).symm
end
end Mine
namespace Mine
noncomputable def in8 (L : List Nat) (h0 h1 : Int) (ab0 ab1 : Bool) (kv0 kv1 : List (Str × Str)) : Hp := [(71, .list (L.map .ref))] ++ ([(2, .tup [.ref 3, .si h0])] ++ (tyAB ab0 ++ ([(5, .odict kv0)] ++ ([(6, .tup [.ref 7, .si h1])] ++ (tyBB ab1 ++ [(9, .odict kv1)])))))
noncomputable def run8 (P : Params) (h0 h1 : Int) (ab0 ab1 : Bool) (kv0 kv1 : List (Str × Str)) (KK : List (Str × V) → Hp → Nat → Prop) (KR : V → Hp → Nat → Prop) (X : KX) (L : List Nat) : Prop :=
  vcSs (tab3 P) 70 scL (pcL 8 1) ⟨loc7 71, celL, in8 L h0 h1 ab0 ab1 kv0 kv1, 72⟩ (finS 72 73 [71, 2, 3, 4, 5, 6, 7, 8, 9] [72] [] [s "lacking"] [s "place", s "scope"] KK KR) X
noncomputable def nilK (kv : List (Str × Str)) : Bool := memS (kv.map (·.2)) (s "")
noncomputable def brK (b : Bool) (f g : Prop) : Prop := (b = true → f) ∧ (b = false → g)
noncomputable def go8 (n0 n1 : Bool) (K : List Nat → Prop) : List Nat → List Nat → Prop
  | [], acc => K acc
  | a :: r, acc => brK (match Nat.beq a 2 with | true => n0 | false => n1) (go8 n0 n1 K r (acc ++ [a])) (go8 n0 n1 K r acc)
noncomputable def out8 (h0 h1 : Int) (ab0 ab1 : Bool) (kv0 kv1 : List (Str × Str)) (KK : List (Str × V) → Hp → Nat → Prop) (L : List Nat) : Prop :=
  go8 (nilK kv0) (nilK kv1) (fun acc => ltP 72 [.ref 11, .ref 32] (KK [(s "lacking", .ref 72), (s "place", .ref 11), (s "scope", .ref 32)] (in8 L h0 h1 ab0 ab1 kv0 kv1 ++ [(72, .list (acc.map .ref))]) 73)) L []
noncomputable def lks : List (List Nat) := [[], [2], [6], [2, 6], [6, 2]]
theorem run_8 (P : Params) (h0 h1 : Int) (ab0 ab1 : Bool) (kv0 kv1 : List (Str × Str)) (KK : List (Str × V) → Hp → Nat → Prop) (KR : V → Hp → Nat → Prop) (X : KX) : lks.map (run8 P h0 h1 ab0 ab1 kv0 kv1 KK KR X) = lks.map (out8 h0 h1 ab0 ab1 kv0 kv1 KK) := by kernel_rfl
noncomputable def sel8 (n0 n1 : Bool) (a : Nat) : Bool := match Nat.beq a 2 with
  | true => n0
  | false => n1
theorem go8_of {n0 n1 : Bool} {K : List Nat → Prop} : ∀ (L acc : List Nat), K (acc ++ L.filter (sel8 n0 n1)) → go8 n0 n1 K L acc
  | [], acc, h => by rw [List.filter_nil, List.append_nil] at h; exact h
  | a :: r, acc, h => by
    rw [List.filter_cons] at h
    refine ⟨fun e => go8_of r (acc ++ [a]) ?_, fun e => go8_of r acc ?_⟩
    · have e : sel8 n0 n1 a = true := e
      rw [e] at h
      rw [List.append_assoc]
      exact h
    · have e : sel8 n0 n1 a = false := e
      rw [e] at h
      exact h
noncomputable def loc8 : List (Str × V) := [(s "lacking", .ref 72), (s "place", .ref 11), (s "scope", .ref 32)]
section
variable {c : Cd} {p : TPar} {b : List Stmt}
theorem stepL8 (C : Ck false c 70) (f : Fk c) (hn : c.env.scope.names = scL) {L : List Nat} (hL : L ∈ lks) (eL : lackUp p 4 = L.map .ref) {n l : Int} {kv0 kv1 : List (Str × Str)} {hs : List Nat}
    (h : LawS c (execs b c.env) ⟨loc8, celL, flatB ((62, [(72, .list ((L.filter (sel8 (nilK kv0) (nilK kv1))).map .ref))]) :: (60, [(71, .list (L.map .ref))]) :: (61, [(70, .tup [.int 1, .int 2])]) :: lawB p n l kv0 kv1 hs), 73⟩) :
    LawS c (execs (pcL 8 1 ++ b) c.env) ⟨loc7 71, celL, flatB ((60, [(71, .list (lackUp p 4))]) :: (61, [(70, .tup [.int 1, .int 2])]) :: lawB p n l kv0 kv1 hs), 72⟩ := by
  rw [eL]
  refine LawS.step (SemS.blk (tab3_ok c.w) C f (is := [60, 2, 3, 4, 5, 6, 7]) (tm := in8 L p.h0 p.h1 p.ab0 p.ab1 kv0 kv1) (N := 72) (nx := 73) (ks := [71, 2, 3, 4, 5, 6, 7, 8, 9]) (nms := [72]) (rt := []) (rx := []) (xs := [s "lacking"]) (ps := [s "place", s "scope"]) (xx := []) (px := []) (loc := loc7 71) (by rfl) (by rfl) (by
    show erH (flat [_, _, _, _, _, _, _]) = _
    simp only [flat, in8, List.append_nil]) rfl (Nat.le_refl _) ?_)
  rw [hn]
  show run8 c.w.params p.h0 p.h1 p.ab0 p.ab1 kv0 kv1 _ _ _ L
  rw [of_map (run_8 c.w.params p.h0 p.h1 p.ab0 p.ab1 kv0 kv1 _ _ _) hL]
  refine go8_of L [] ?_
  refine ⟨fun a h => by have h : 11 = a := h; omega, fun a h => by have h : 32 = a := h; omega, ?_⟩
  refine LawS.perm (H0 := flatB ((62, [(72, .list ((L.filter (sel8 (nilK kv0) (nilK kv1))).map .ref))]) :: (60, [(71, .list (L.map .ref))]) :: (61, [(70, .tup [.int 1, .int 2])]) :: lawB p n l kv0 kv1 hs)) ?_ rfl h
  refine List.Perm.symm ((pickB_perm (is := [60, 2, 3, 4, 5, 6, 7, 62]) (by rfl)).trans (.of_eq ?_))
  simp only [flat, in8, List.append_assoc, List.append_nil]
  rfl
end
end Mine
namespace Mine
noncomputable def tab4 (P : Params) : Tab := (tab3 P).add 86 20 absS
theorem tab4_ok (w : World) : TabOk (tab4 w.params) w := add_ok (tab3_ok w) abs_spec (keep_fn w rfl)
noncomputable def entsO (ord : List Nat) : Hp := ord.flatMap fun e => match e with
  | 24 => entH 24 3 11
  | _ => entH 28 7 12
noncomputable def ordO (ord hs : List Nat) : O := .olist ((ord ++ (List.range hs.length).map eN).map .ref)
noncomputable def in9 (kd part : Str) (ab0 ab1 : Bool) (kv0 kv1 : List (Str × Str)) (hs ord : List Nat) : Hp := [(11, .inst 234 12), (12, placeD kd part)] ++ ([(15, ordO ord hs)] ++ (tyAB ab0 ++ ([(5, .odict kv0)] ++ (tyBB ab1 ++ ([(9, .odict kv1)] ++ (entsO ord ++ histE hs 0))))))
noncomputable def ks9 (hs ord : List Nat) : List Nat := [11, 12, 15, 3, 4, 5, 7, 8, 9] ++ (ord.flatMap fun e => [e, e + 1, e + 2, e + 3]) ++ ((List.range hs.length).flatMap fun i => [eN i, eN i + 1, eN i + 2, eN i + 3])
noncomputable def run9 (P : Params) (kd part : Str) (ab0 ab1 : Bool) (kv0 kv1 : List (Str × Str)) (hs : List Nat) (KK : List (Str × V) → Hp → Nat → Prop) (KR : V → Hp → Nat → Prop) (KX : Int → List (Str × V) → Hp → Nat → Prop) (ord : List Nat) : Prop :=
  vcSs (tab4 P) 70 scL (tryBody (pcL 9 1)) ⟨loc8, celL, in9 kd part ab0 ab1 kv0 kv1 hs ord, 73⟩ (finS 73 73 (ks9 hs ord) [] [] [] [s "lacking", s "place", s "scope"] KK KR) fun l => finX 73 73 (ks9 hs ord) [] [] [] [s "lacking", s "place", s "scope"] (KX l)
noncomputable def stepC (ab n : Bool) (a : Nat) (nm : Str) (num : Int) (fault next : Prop) : Prop :=
  (ab = true → next) ∧ (ab = false → ((some (O.inst 316 (a + 1)) = some (O.inst 316 (a + 1))) ∧ (∃ ab', tyD nm num ab (a + 2) = tyD nm num ab' (a + 2)) ∧ ∀ ks ss : List Str, nilL ss = (!n) → ((!(nilL ss)) = true → fault) ∧ ((!(nilL ss)) = false → next)))
noncomputable def go9 (ab0 ab1 n0 n1 : Bool) (KF : Int → Prop) (KN : Prop) : List Nat → Prop
  | [] => KN
  | e :: r => match Nat.beq e 24 with
    | true => stepC ab0 n0 3 (s "a") 80 (KF 11) (go9 ab0 ab1 n0 n1 KF KN r)
    | false => stepC ab1 n1 7 (s "b") 81 (KF 12) (go9 ab0 ab1 n0 n1 KF KN r)
noncomputable def out9 (kd part : Str) (ab0 ab1 : Bool) (kv0 kv1 : List (Str × Str)) (hs : List Nat) (KK : List (Str × V) → Hp → Nat → Prop) (KX : Int → List (Str × V) → Hp → Nat → Prop) (ord : List Nat) : Prop :=
  go9 ab0 ab1 (nilK kv0) (nilK kv1) (fun l => ltP 73 [.ref 72, .ref 11, .ref 32] (KX l loc8 (in9 kd part ab0 ab1 kv0 kv1 hs ord) 73)) (ltP 73 [.ref 72, .ref 11, .ref 32] (KK loc8 (in9 kd part ab0 ab1 kv0 kv1 hs ord) 73)) ord
end Mine
namespace Mine
section
variable (P : Params) (kd part : Str) (ab0 ab1 : Bool) (kv0 kv1 : List (Str × Str)) (KK : List (Str × V) → Hp → Nat → Prop) (KR : V → Hp → Nat → Prop) (KX : Int → List (Str × V) → Hp → Nat → Prop) (x0 x1 x2 x3 : Nat)
theorem run_90 : ords.map (run9 P kd part ab0 ab1 kv0 kv1 [] KK KR KX) = ords.map (out9 kd part ab0 ab1 kv0 kv1 [] KK KX) := by kernel_rfl
theorem run_91 : ords.map (run9 P kd part ab0 ab1 kv0 kv1 [x0] KK KR KX) = ords.map (out9 kd part ab0 ab1 kv0 kv1 [x0] KK KX) := by kernel_rfl
theorem run_92 : ords.map (run9 P kd part ab0 ab1 kv0 kv1 [x0, x1] KK KR KX) = ords.map (out9 kd part ab0 ab1 kv0 kv1 [x0, x1] KK KX) := by kernel_rfl
theorem run_93 : ords.map (run9 P kd part ab0 ab1 kv0 kv1 [x0, x1, x2] KK KR KX) = ords.map (out9 kd part ab0 ab1 kv0 kv1 [x0, x1, x2] KK KX) := by kernel_rfl
theorem run_94 : ords.map (run9 P kd part ab0 ab1 kv0 kv1 [x0, x1, x2, x3] KK KR KX) = ords.map (out9 kd part ab0 ab1 kv0 kv1 [x0, x1, x2, x3] KK KX) := by kernel_rfl
theorem run_9 : ∀ hs : List Nat, hs.length ≤ 4 → ords.map (run9 P kd part ab0 ab1 kv0 kv1 hs KK KR KX) = ords.map (out9 kd part ab0 ab1 kv0 kv1 hs KK KX)
  | [], _ => run_90 ..
  | [_], _ => run_91 ..
  | [_, _], _ => run_92 ..
  | [_, _, _], _ => run_93 ..
  | [_, _, _, _], _ => run_94 ..
  | _ :: _ :: _ :: _ :: _ :: _, h => absurd h (by simp)
end
noncomputable def in10 (L : List Nat) (h0 h1 : Int) (ab0 ab1 : Bool) (l : Int) (R : Hp) : Hp := (74, .exc 73) :: (73, .pdict [(lineS, .si l)] [] 60) :: ([(72, .list (L.map .ref))] ++ ([(2, .tup [.ref 3, .si h0])] ++ (tyAB ab0 ++ ([(6, .tup [.ref 7, .si h1])] ++ (tyBB ab1 ++ R)))))
noncomputable def locH : List (Str × V) := [(s "lacking", .ref 72), (s "place", .ref 11), (s "scope", .ref 32), (s "fault", .ref 74)]
noncomputable def runH (P : Params) (h0 h1 : Int) (ab0 ab1 : Bool) (R : Hp) (K : KS) (X : KX) (q : List Nat × Int) : Prop := vcSs (tab2q P) 70 scL (hdlBody (pcL 9 1)) ⟨locH, celL, in10 q.1 h0 h1 ab0 ab1 q.2 R, 75⟩ K X
noncomputable def outH (h0 h1 : Int) (ab0 ab1 : Bool) (R : Hp) (K : KS) (q : List Nat × Int) : Prop := K (.ret (.sb true)) ⟨locH, celL, (75, .list []) :: in10 q.1 h0 h1 ab0 ab1 q.2 R, 76⟩
noncomputable def qs : List (List Nat × Int) := [([2], 11), ([2, 6], 11), ([6], 12), ([6, 2], 12)]
theorem run_H (P : Params) (h0 h1 : Int) (ab0 ab1 : Bool) (R : Hp) (K : KS) (X : KX) : qs.map (runH P h0 h1 ab0 ab1 R K X) = qs.map (outH h0 h1 ab0 ab1 R K) := by kernel_rfl
noncomputable def runR (P : Params) (H : Hp) (K : KS) (X : KX) : Prop := vcSs (tab4 P) 70 scL (pcL 10 1) ⟨loc8, celL, (72, .list []) :: H, 73⟩ K X
theorem run_R (P : Params) (H : Hp) (K : KS) (X : KX) : runR P H K X = K (.ret (.bool true)) ⟨loc8, celL, (73, .list []) :: (72, .list []) :: H, 74⟩ := by kernel_rfl
theorem try9 : isTry (s "fault") (pcL 9 1) = true := by kernel_rfl
theorem kn9 : (lkS scL (s "fault"), lkS scL (Str.ofString "CheckFault")) = (some .local, some .globalImplicit) := by kernel_rfl
noncomputable def lackN (h0 h1 : Nat) (ab0 ab1 : Bool) : List Nat :=
  (if (h0 == 1 && !ab0) = true then [2] else []) ++ (if (h1 == 1 && !ab1) = true then [6] else []) ++ (if (h0 == 2 && !ab0) = true then [2] else []) ++ (if (h1 == 2 && !ab1) = true then [6] else [])
noncomputable def fault9 (ab0 ab1 n0 n1 : Bool) : List Nat → Option Int
  | [] => none
  | e :: r => match Nat.beq e 24 with
    | true => (match !ab0 && n0 with
      | true => some 11
      | false => fault9 ab0 ab1 n0 n1 r)
    | false => (match !ab1 && n1 with
      | true => some 12
      | false => fault9 ab0 ab1 n0 n1 r)
theorem stepC_of {ab n : Bool} {a : Nat} {nm : Str} {num : Int} {fault next : Prop} (h1 : (!ab && n) = true → fault) (h2 : (!ab && n) = false → next) : stepC ab n a nm num fault next := by
  refine ⟨fun e => h2 (by rw [e]; rfl), fun e => ⟨rfl, ⟨ab, rfl⟩, fun ks ss z => ⟨fun y => h1 ?_, fun y => h2 ?_⟩⟩⟩
  · rw [z, Bool.not_not] at y; rw [e, y]; rfl
  · rw [z, Bool.not_not] at y; rw [e, y]; rfl
theorem go9_of {ab0 ab1 n0 n1 : Bool} {KF : Int → Prop} {KN : Prop} : ∀ (ord : List Nat), (match fault9 ab0 ab1 n0 n1 ord with | some l => KF l | none => KN) → go9 ab0 ab1 n0 n1 KF KN ord
  | [], h => h
  | e :: r, h => by
    unfold go9
    unfold fault9 at h
    cases ee : Nat.beq e 24 with
    | true =>
      rw [ee] at h
      refine stepC_of (fun q => ?_) fun q => go9_of r ?_
      · rw [q] at h; exact h
      · rw [q] at h; exact h
    | false =>
      rw [ee] at h
      refine stepC_of (fun q => ?_) fun q => go9_of r ?_
      · rw [q] at h; exact h
      · rw [q] at h; exact h
noncomputable def okQ (o : Option Int) (L : List Nat) : Bool := match o with
  | some l => qs.contains (L, l)
  | none => L.isEmpty
theorem plain9 : ∀ h0 ∈ [0, 1, 2], ∀ h1 ∈ [0, 1, 2], ∀ ab0 ab1 n0 n1 : Bool, okQ (fault9 ab0 ab1 n0 n1 (ordOf h0 h1)) ((lackN h0 h1 ab0 ab1).filter (sel8 n0 n1)) = true := by decide
theorem lackN_mem : ∀ h0 ∈ [0, 1, 2], ∀ h1 ∈ [0, 1, 2], ∀ ab0 ab1 : Bool, lackN h0 h1 ab0 ab1 ∈ lks := by decide
theorem lackN_eq {p : TPar} (T : TOk p) : lackUp p 4 = (lackN p.h0 p.h1 p.ab0 p.ab1).map .ref := by
  obtain ⟨ns, so, h0, h1, ab0, ab1⟩ := p
  obtain ⟨_, _, m0, m1⟩ := T
  simp only [List.mem_cons, List.not_mem_nil, or_false] at m0 m1
  rcases m0 with rfl | rfl | rfl <;> rcases m1 with rfl | rfl | rfl <;> cases ab0 <;> cases ab1 <;> rfl
end Mine
namespace Mine
theorem SemS.perm {c : Cd} {t : Sem Flow} {σ : St} {K : KS} {X : KX} {H0 H1 : Hp} (pm : σ.H.Perm H0) (he : erH H0 = erH H1) (h : SemS c t { σ with H := H1 } K X) : SemS c t σ K X := fun m ρ s Q E hE R q qx => h m ρ s Q E hE (R.retag pm he) q qx
noncomputable def bs9 (L2 L : List Nat) (p : TPar) (n l : Int) (kv0 kv1 : List (Str × Str)) (hs : List Nat) : List (Nat × Hp) :=
  [(62, [(72, .list (L2.map .ref))]), (60, [(71, .list (L.map .ref))]), (61, [(70, .tup [.int 1, .int 2])]), (18, lawC), (0, poolH p.ns n), (1, [(10, .list [.ref 2, .ref 6])]), (2, [(2, .tup [.ref 3, .si (p.h0 : Int)])]), (3, tyAB p.ab0), (4, [(5, .odict kv0)]), (5, [(6, .tup [.ref 7, .si (p.h1 : Int)])]), (6, tyBB p.ab1), (7, [(9, .odict kv1)]), (8, scH (.si l)),
    (91, [(11, .inst 234 12), (12, placeD (kdOf p.kd) p.part)]), (92, [(13, .inst 234 17), (17, rootD (5 + hs.length : Nat))]), (93, [(18, cntO (match isSub p.kd with | true => [] | false => hs)), (16, cntO (match isSub p.kd with | true => hs | false => [])), (14, namesO (lisN hs) hs)]), (94, [(15, ordO (ordOf p.h0 p.h1) hs)]), (11, lisH eN (lisN hs) hs (presOf hs)), (12, histE hs 0), (13, homB (Nat.blt 0 p.h0) (Nat.blt 0 p.h1) (part1 p.sort p.h0) (part1 p.sort p.h1)), (14, othH (homW p.h0 p.h1)), (17, p.ents), (15, nTy), (16, kinH)]
noncomputable def is9 : List Nat := [91, 94, 3, 4, 6, 7, 17, 12]
noncomputable def rs9 (L2 L : List Nat) (p : TPar) (n l : Int) (kv0 kv1 : List (Str × Str)) (hs : List Nat) : List (Nat × Hp) :=
  [(62, [(72, .list (L2.map .ref))]), (60, [(71, .list (L.map .ref))]), (61, [(70, .tup [.int 1, .int 2])]), (18, lawC), (0, poolH p.ns n), (1, [(10, .list [.ref 2, .ref 6])]), (2, [(2, .tup [.ref 3, .si (p.h0 : Int)])]), (5, [(6, .tup [.ref 7, .si (p.h1 : Int)])]), (8, scH (.si l)),
    (92, [(13, .inst 234 17), (17, rootD (5 + hs.length : Nat))]), (93, [(18, cntO (match isSub p.kd with | true => [] | false => hs)), (16, cntO (match isSub p.kd with | true => hs | false => [])), (14, namesO (lisN hs) hs)]), (11, lisH eN (lisN hs) hs (presOf hs)), (13, homB (Nat.blt 0 p.h0) (Nat.blt 0 p.h1) (part1 p.sort p.h0) (part1 p.sort p.h1)), (14, othH (homW p.h0 p.h1)), (15, nTy), (16, kinH)]
theorem bs9_eq (L2 L : List Nat) (p : TPar) (n l : Int) (kv0 kv1 : List (Str × Str)) (hs : List Nat) : flatB ((62, [(72, .list (L2.map .ref))]) :: (60, [(71, .list (L.map .ref))]) :: (61, [(70, .tup [.int 1, .int 2])]) :: lawB p n l kv0 kv1 hs) = flatB (bs9 L2 L p n l kv0 kv1 hs) := rfl
theorem pick9 (L2 L : List Nat) (p : TPar) (n l : Int) (kv0 kv1 : List (Str × Str)) (hs : List Nat) : pickB is9 (bs9 L2 L p n l kv0 kv1 hs) = some ([[(11, .inst 234 12), (12, placeD (kdOf p.kd) p.part)], [(15, ordO (ordOf p.h0 p.h1) hs)], tyAB p.ab0, [(5, .odict kv0)], tyBB p.ab1, [(9, .odict kv1)], p.ents, histE hs 0], rs9 L2 L p n l kv0 kv1 hs) := by rfl
section
variable {c : Cd} {p : TPar}
theorem stepL9 (C : Ck false c 70) (f : Fx c) (hn : c.env.scope.names = scL) (T : TOk p) {n l : Int} {kv0 kv1 : List (Str × Str)} {hs : List Nat} (hh : hs.length ≤ 4) {L : List Nat} (eL : L = lackN p.h0 p.h1 p.ab0 p.ab1) :
    LawS c (execs (pcL 9 1 ++ pcL 10 1) c.env) ⟨loc8, celL, flatB ((62, [(72, .list ((L.filter (sel8 (nilK kv0) (nilK kv1))).map .ref))]) :: (60, [(71, .list (L.map .ref))]) :: (61, [(70, .tup [.int 1, .int 2])]) :: lawB p n l kv0 kv1 hs), 73⟩ := by
  have pl := plain9 p.h0 T.h0 p.h1 T.h1 p.ab0 p.ab1 (nilK kv0) (nilK kv1)
  rw [← eL] at pl
  generalize L.filter (sel8 (nilK kv0) (nilK kv1)) = L2 at pl ⊢
  obtain ⟨b1, np, b₀, su, hpp, tp, e⟩ := isTry_ok try9
  have e1 : tryBody (pcL 9 1) = b1 := by rw [e]; rfl
  have e2 : hdlBody (pcL 9 1) = b₀ :: su := by rw [e]; rfl
  rw [e]
  refine LawS.ofT (KR := fun v _ => isT v) (SemT.try (T := tab2 c.w.params) (n := 70) (tab2_ok c.w) (glob65 c.w.params) C f (by rw [hn]; exact (Prod.mk.inj kn9).1) (by rw [hn]; exact (Prod.mk.inj kn9).2)
    (Kb := fun fl σ' => fl = .next ∧ L2 = [] ∧ σ' = ⟨loc8, celL, in9 (kdOf p.kd) p.part p.ab0 p.ab1 kv0 kv1 hs (ordOf p.h0 p.h1) ++ flatB (rs9 L2 L p n l kv0 kv1 hs), 73⟩)
    (Xb := fun l' σ' => (L2, l') ∈ qs ∧ σ' = ⟨loc8, celL, in9 (kdOf p.kd) p.part p.ab0 p.ab1 kv0 kv1 hs (ordOf p.h0 p.h1) ++ flatB (rs9 L2 L p n l kv0 kv1 hs), 73⟩) ?_ ?_ ?_) fun v _ z => z
  · refine SemS.blk (tab4_ok c.w) C f.f (hH := bs9_eq L2 L p n l kv0 kv1 hs) (hp := pick9 L2 L p n l kv0 kv1 hs) (loc := loc8) (tm := in9 (kdOf p.kd) p.part p.ab0 p.ab1 kv0 kv1 hs (ordOf p.h0 p.h1)) (N := 73) (nx := 73) (ks := ks9 hs (ordOf p.h0 p.h1)) (nms := []) (rt := []) (rx := []) (xs := []) (ps := [s "lacking", s "place", s "scope"]) (xx := []) (px := [s "lacking", s "place", s "scope"]) ?_ rfl (Nat.le_refl _) ?_
    · simp only [flat, in9, List.append_nil]; rfl
    rw [hn, ← e1]
    show run9 c.w.params (kdOf p.kd) p.part p.ab0 p.ab1 kv0 kv1 hs _ _ _ (ordOf p.h0 p.h1)
    rw [of_map (run_9 c.w.params (kdOf p.kd) p.part p.ab0 p.ab1 kv0 kv1 _ _ _ hs hh) (ord_mem _ T.h0 _ T.h1)]
    refine go9_of _ ?_
    have lt3 : ∀ (G : Prop), G → ltP 73 [.ref 72, .ref 11, .ref 32] G := fun G g => ⟨fun a h => by have h : 72 = a := h; omega, fun a h => by have h : 11 = a := h; omega, fun a h => by have h : 32 = a := h; omega, g⟩
    cases z : fault9 p.ab0 p.ab1 (nilK kv0) (nilK kv1) (ordOf p.h0 p.h1) with
    | some l' =>
      rw [z] at pl
      exact lt3 _ ⟨List.contains_iff_mem.mp pl, rfl⟩
    | none =>
      rw [z] at pl
      exact lt3 _ ⟨rfl, List.isEmpty_iff.mp pl, rfl⟩
  · rintro fl σ' ⟨rfl, rfl, rfl⟩
    refine SemT.of (K := fun fl _ => match fl with | .ret v => isT v | _ => False) (X := fun _ _ => False) (SemS.perm (H0 := (72, .list []) :: (in9 (kdOf p.kd) p.part p.ab0 p.ab1 kv0 kv1 hs (ordOf p.h0 p.h1) ++ flatB (rs9 [] L p n l kv0 kv1 hs).tail)) List.perm_middle rfl (SemS.run (tab4_ok c.w) C f.f ?_)) (fun fl σ' z => ?_) fun _ _ z => z
    · rw [hn]
      show runR c.w.params _ _ _
      rw [run_R]
      exact (show V.er (.bool true) = .sb true from rfl)
    · cases fl with
      | ret v => exact z
      | next => exact z
      | cont => exact z
      | brk => exact z
  · rintro l' σ' ⟨hq, rfl⟩ c' C' f' hw he
    obtain ⟨bX, hbX⟩ : ∃ bX : List (Nat × Hp), bX = (91, [(11, .inst 234 12), (12, placeD (kdOf p.kd) p.part)]) :: (94, [(15, ordO (ordOf p.h0 p.h1) hs)]) :: (3, tyAB p.ab0) :: (4, [(5, .odict kv0)]) :: (6, tyBB p.ab1) :: (7, [(9, .odict kv1)]) :: (17, p.ents) :: (12, histE hs 0) :: rs9 L2 L p n l kv0 kv1 hs := ⟨_, rfl⟩
    have eX : in9 (kdOf p.kd) p.part p.ab0 p.ab1 kv0 kv1 hs (ordOf p.h0 p.h1) ++ flatB (rs9 L2 L p n l kv0 kv1 hs) = flatB bX := by
      rw [hbX]
      simp only [in9, flatB, List.append_assoc]
      rfl
    have pX : ∃ R, (flatB bX).Perm ([(72, .list (L2.map .ref))] ++ ([(2, .tup [.ref 3, .si (p.h0 : Int)])] ++ (tyAB p.ab0 ++ ([(6, .tup [.ref 7, .si (p.h1 : Int)])] ++ (tyBB p.ab1 ++ R))))) := by
      rw [hbX]
      obtain ⟨r, hr⟩ : ∃ r, pickB [62, 2, 3, 5, 6] ((91, [(11, .inst 234 12), (12, placeD (kdOf p.kd) p.part)]) :: (94, [(15, ordO (ordOf p.h0 p.h1) hs)]) :: (3, tyAB p.ab0) :: (4, [(5, .odict kv0)]) :: (6, tyBB p.ab1) :: (7, [(9, .odict kv1)]) :: (17, p.ents) :: (12, histE hs 0) :: rs9 L2 L p n l kv0 kv1 hs) = some ([[(72, .list (L2.map .ref))], [(2, .tup [.ref 3, .si (p.h0 : Int)])], tyAB p.ab0, [(6, .tup [.ref 7, .si (p.h1 : Int)])], tyBB p.ab1], r) := ⟨_, rfl⟩
      refine ⟨flatB r, (pickB_perm hr).trans (.of_eq ?_)⟩
      simp only [flat, List.append_assoc, List.append_nil]
    obtain ⟨R, pR⟩ := pX
    refine SemS.perm (H0 := in10 L2 p.h0 p.h1 p.ab0 p.ab1 l' R) (by
      show ((74, O.exc 73) :: (73, O.pdict [(lineS, .si l')] [] 60) :: (in9 (kdOf p.kd) p.part p.ab0 p.ab1 kv0 kv1 hs (ordOf p.h0 p.h1) ++ flatB (rs9 L2 L p n l kv0 kv1 hs))).Perm _
      rw [eX]
      exact .cons _ (.cons _ pR)) rfl (SemS.run (tab2q_ok c'.w) C' f' ?_)
    rw [he, hn, ← e2]
    show runH c'.w.params p.h0 p.h1 p.ab0 p.ab1 R _ _ (L2, l')
    rw [of_map (run_H c'.w.params p.h0 p.h1 p.ab0 p.ab1 R _ _) hq]
    exact (show V.er (.sb true) = .sb true from rfl)
end
end Mine
namespace Mine
theorem bodyL_len : dL.body.length = 11 := by kernel_rfl
theorem bodyL : dL.body = pcL 0 1 ++ (pcL 1 2 ++ (pcL 3 1 ++ (pcL 4 2 ++ (pcL 6 1 ++ (pcL 7 1 ++ (pcL 8 1 ++ (pcL 9 1 ++ pcL 10 1))))))) := by
  have e : ∀ a n, pcL a n ++ dL.body.drop (a + n) = dL.body.drop a := fun a n => by
    unfold pcL
    rw [← List.drop_drop]
    exact List.take_append_drop n _
  have e7 : pcL 10 1 = dL.body.drop 10 := List.take_of_length_le (by rw [List.length_drop, bodyL_len]; decide)
  rw [e7, e 9 1, e 8 1, e 7 1, e 6 1, e 4 2, e 3 1, e 1 2, e 0 1]
  rfl
theorem law_all {c : Cd} (C : Ck false c 70) (fx : Fx c) (hn : c.env.scope.names = scL) (ho : c.outer = []) (hX : c.X = []) {m : Str → Option Value} {ρ : Rho} {st : Shared} (R : Rel (c.at m) ρ ⟨[], celL, lawC0, 39⟩ st) {l : Addr} {vs : List Value} {ns : List Int}
    (hm : m (s "script") = some (.ref l)) (hl : c.h₀.IsList l vs.toArray) (hi : IntsAre vs ns) (hz : vs.length ≤ 1000) {Q : Flow → Shared → Prop} {E : Value → Shared → Prop} (hE : PassesOwn (MM c.w) c.A c.env E)
    (q : ∀ g m' ρ' σ' s', KtsTurn (c.outer.filterMap (·.frame)) c.h₀ g → Rel ((c.gr g).at m') ρ' σ' s' → Q (.ret (.bool true)) s') : wpAny (MM c.w) c.A (execs dL.body c.env) Q E st := by
  rw [bodyL]
  exact pool0 C fx.f hn hX R hm hl hi hz (setup C fx.f hn hX (by rw [List.length_take]; omega) fun p T n kv0 kv1 n0 n1 l0 l1 =>
    loop_ok C fx.f hn ho fx.XB fx.TB T n0 n1 l0 l1 fun i σ' hi I => stepL7 C fx.f hn hi I fun n l kv0 kv1 hs hh hx =>
      stepL8 C fx.f hn (lackN_mem p.h0 T.h0 p.h1 T.h1 p.ab0 p.ab1) (lackN_eq T) (stepL9 C fx hn T hh rfl)) hE q
end Mine
namespace Mine
theorem cellsL : mkC (cellNames scL []) (fun _ => none) ⟨[], [], [], 37⟩ = (⟨[], [], [(38, .cell none), (37, .cell none)], 39⟩, [(s "told", 38), (s "pool", 37)]) := by kernel_rfl
theorem factsL : dL.scope.isCoroutine = false ∧ dL.scope.isGenerator = false ∧ dL.scope.kind = .function ∧ dL.params.args.map (·.arg) = [s "script"] ∧ dL.params = { posonlyargs := [], args := dL.params.args, vararg := none, kwonlyargs := [], kw_defaults := [], kwarg := none, defaults := [] } := by
  refine ⟨by kernel_rfl, by kernel_rfl, by kernel_rfl, by kernel_rfl, by kernel_rfl⟩
theorem lawKinds : (lkS scL (s "script") == some .local) = true ∧ ((cellNames scL []) = [s "told", s "pool"]) ∧ (cellNames scL []).Nodup := by
  refine ⟨by kernel_rfl, by kernel_rfl, by decide +kernel⟩
theorem noImp : importsNone view0 = true := by decide +kernel
noncomputable def fdL (pm cd doc : Value) : FuncData := { docDef dL.name dL.params dL.body dL.scope pm cd doc with defaults := .none, kwdefaults := .none }
set_option maxHeartbeats 2000000 in
theorem enter_law {w : World} {s₁ : Shared} {fa l : Addr} {o : Obj} {pm cd doc : Value} {mean : ExcName → Option Value} {mg mb : Str → Option Value} {vs : List Value} {ns : List Int} {R : Result → Shared → Prop}
    (ho : s₁.heap.get? fa = some o) (hd : o.data = .func (fdL pm cd doc)) (hcd : s₁.heap.CodeRec cd dL.name) (KX : (KK w).In s₁.heap) (T : Top view0 (looseW view0 lo) mean mg mb s₁.heap)
    (hl : s₁.heap.IsList l vs.toArray) (hi : IntsAre vs ns) (hz : vs.length ≤ 1000)
    (hR : ∀ h tk, (∀ b o, s₁.heap.get? b = some o → h.get? b = some o) → R (.ok (.ret (.bool true))) { s₁ with heap := h, toks := tk }) :
    codeAny (MM w) callerA (.call (.ref fa) ⟨[.ref l], []⟩) R s₁ := by
  obtain ⟨co, gen, kd, hp, hp2⟩ := factsL
  obtain ⟨hsc, hcn, hnd⟩ := lawKinds
  have hsc : lkS scL (s "script") = some .local := by
    cases e : lkS scL (s "script") with
    | none => rw [e] at hsc; exact absurd hsc (by decide)
    | some k => rw [e] at hsc; cases k <;> first | rfl | exact absurd hsc (by decide)
  have hb : BindsTo s₁ (fdL pm cd doc) ⟨[.ref l], []⟩ [(s "script", .ref l)] := BindsTo.of_eq (by
    have := bind_plain (fd := fdL pm cd doc) (vs := [.ref l]) (ps := dL.params.args) hp2 rfl (by rw [hp]; exact List.nodup_cons.mpr ⟨List.not_mem_nil, List.nodup_nil⟩) (by have := congrArg List.length hp; rw [List.length_map] at this; exact this.symm)
    rw [hp] at this
    exact this)
  refine codeAny_call_function (by decide +kernel) ho hd co gen rfl hcd (hb _ _ _ _ ?_)
  refine wpAny_newFunctionEnv_cells kd (kindsX (by
    show (dL.scope.names.lookup (s "script") == some .local || _) && true = true
    rw [show dL.scope.names.lookup (s "script") = some .local from lkS_lookup hsc]; rfl) _) fun env' he s' x => ?_
  subst he
  refine ⟨T.nolimit.keeps x.toInCall.keep, codeAny_func ?_⟩
  obtain ⟨h₁, tk, rfl, _⟩ := x.done
  have hk₁ := x.toInCall.keep
  have cn : ∀ k, (cellsFrom k dL.scope.names []).map (·.1) = cellNames scL [] := fun k => cells_names dL.scope.names k []
  obtain ⟨cells, NC, Y⟩ := Cl.news (h₀ := s₁.heap) (Nat.le_refl _) fun n c hm => ⟨x.cell n c (lookup_of_mem_nodup (show ((cellsFrom (s₁.heap.objs.size + 1) dL.scope.names []).map (·.1)).Nodup by rw [cn]; exact hnd) hm), x.above n c hm⟩
  have Y : CellsAre (bindC (envOfC dL.name dL.scope s₁.heap.objs.size fa cd).kindOf [(s "script", .ref l)] fun _ => none) (cellsFrom (s₁.heap.objs.size + 1) dL.scope.names []) cells := Y
  have Fm : Fr s₁.heap s₁.heap.objs.size h₁ (bindL (envOfC dL.name dL.scope s₁.heap.objs.size fa cd).kindOf [(s "script", .ref l)] fun _ => none) := ⟨x.toInCall.ns, hk₁, Nat.le_refl _⟩
  let c : Cd := ⟨w, mean, mg, mb, callerA.deeper (envOfC dL.name dL.scope s₁.heap.objs.size fa cd), callerA, s₁.heap, s₁.heap, [], envOfC dL.name dL.scope s₁.heap.objs.size fa cd, envOfC dL.name dL.scope s₁.heap.objs.size fa cd, s₁.heap.objs.size, bindL (envOfC dL.name dL.scope s₁.heap.objs.size fa cd).kindOf [(s "script", .ref l)] fun _ => none, bindL (envOfC dL.name dL.scope s₁.heap.objs.size fa cd).kindOf [(s "script", .ref l)] fun _ => none, [], [], s₁⟩
  have sy : ∃ o, s₁.heap.get? sysModules = some o := by
    obtain ⟨mm, ⟨o, _, _, e, _⟩, _⟩ := (T.seer noImp).mods
    exact ⟨o, e⟩
  have C : Ck false c 70 := ⟨below_caller s₁.heap, KX, T, rfl, rfl, kd, fun _ => rfl, rfl, rfl, kd, fun h F _ => F.ns, by show callerA.depth + 1 + 5 * 70 < recursionLimit; decide +kernel, by show callerA.units + 3 + 30 * 70 + 100 < cLine; decide +kernel, ⟨sy, (fun _ h => nomatch h)⟩⟩
  have fx : Fx c := ⟨⟨rfl, rfl⟩, rfl, ⟨_, _, _, _, _, rfl⟩, KX, T⟩
  have ki : ∀ y, c.env.kindOf y = lkS scL y := fun y => by unfold Env.kindOf; rw [lkS_eq]; rfl
  have nm0 : NmA w.params [] [] (fun _ => none) [] 37 [] := ⟨List.nodup_nil, .nil, fun _ _ e => nS e, fun _ _ _ e _ => nS e, fun _ _ => rfl, fun p hp => absurd hp List.not_mem_nil, fun _ _ e => nS e⟩
  obtain ⟨ρc, lec, nmc, Cel⟩ := cells_nm (X := []) (Y := []) (f := fun _ => none) (σ := ⟨[], [], [], 37⟩) (fun _ h => absurd h List.not_mem_nil) Y (fun _ _ v e => nS e) nm0 (by
    show (((cells ++ ([] ++ [])) : List (Addr × Obj)).map (·.1)).Nodup
    rw [List.append_nil, List.append_nil, cells_keys Y]
    exact (cells_addr dL.scope.names _ [] (fun q hq => nomatch hq) List.nodup_nil).1)
  rw [cn, cellsL] at nmc Cel
  have R1 : Rel (c.at c.m) ρc ⟨[], celL, lawC0, 39⟩ { s₁ with heap := h₁, toks := tk } := Rel.retag (H0 := lawC0) (H1 := lawC0) (σ := ⟨[], celL, [(38, .cell none), (37, .cell none)], 39⟩) ⟨cells ++ [], Fm, fun q hq => NC q ((List.append_nil cells) ▸ hq), nmc, fun _ _ e => nS e, fun y a e => Cel y a (by
    have m := lkS_mem e
    simp only [celL, List.mem_cons, List.not_mem_nil, or_false, Prod.mk.injEq] at m
    rcases m with ⟨rfl, rfl⟩ | ⟨rfl, rfl⟩ <;> kernel_rfl), rfl⟩ (.swap _ _ _) rfl
  refine law_all C fx rfl rfl rfl R1 (l := l) (bindL_mem (by rw [ki]; exact hsc) (List.nodup_cons.mpr ⟨List.not_mem_nil, List.nodup_nil⟩) (.head _)) hl hi hz PassesOwn.leaving fun g m' ρ' σ' s' T' R2 => ?_
  obtain ⟨news2, R2⟩ := R2
  have e : s' = { s₁ with heap := s'.heap, toks := s'.toks } := R2.sh
  show R (.ok (.ret (.bool true))) s'
  rw [e]
  exact hR _ _ fun b o e => R2.F.keep b o (T'.other b o e fun h => nomatch h)
end Mine
set_option maxHeartbeats 8000000
namespace Mine
noncomputable def kwL : List (Str × Expr) := match defOf view0 (Str.ofString "law") with
  | some p => p.2
  | none => []
theorem kwL_nil : kwL = [] := by kernel_rfl
theorem defL : defOf view0 (Str.ofString "law") = some (dL, kwL) := by
  unfold dL kwL
  cases e : defOf view0 (Str.ofString "law") with
  | none =>
    have h : (match defOf view0 (Str.ofString "law") with | some _ => true | none => false) = true := by kernel_rfl
    rw [e] at h; cases h
  | some p => rfl
theorem intsAre_len {vs : List Value} {ns : List Int} (h : IntsAre vs ns) : vs.length = ns.length := by
  induction h with
  | nil => rfl
  | cons _ _ _ ih => rw [List.length_cons, List.length_cons, ih]
theorem postT (l : List Int) : (OpenRow.toRowW row).claim.post [ofPy (PyData.list (l.map PyData.int))] (.bool true) [ofPy (PyData.list (l.map PyData.int))] = true := by
  first | kernel_rfl | wrow_post
theorem goodT {l : List Int} {cl : Str → Option Addr} {mean : ExcName → Option Value} {s₁ s' : Shared} (keep : ∀ b o, s₁.heap.get? b = some o → s'.heap.get? b = some o) (ho : s'.os = s₁.os) (hg : s'.gens = #[]) :
    GoodW (OpenRow.toRowW row).claim cl mean [ofPy (PyData.list (l.map PyData.int))] s₁ (.ok (.ret (.bool true))) s' :=
  ⟨.inl ⟨.bool true, .bool true, [], rfl, fun _ => rfl, .bool true, postT l, fun _ => ⟨List.nodup_nil, fun a h => nomatch h⟩⟩, keep, ho, hg⟩
theorem we : WalkO view0 lo (XL view0 []) (Hook.says Hk) (OpenRow.toRowW row) dL kwL fun f vs => PySem.call f vs := by
  intro w s₀ s₁ mg mb G Y fa o pm cd doc dV kV ho hd hcd hD hmg hg args vals as hpre hlay hrd hwl hlo
  have KX := kIn_of Y
  refine Ground.open G ?_
  intro T B D TE TW
  wrow_args hpre hlay hrd hwl hlo
  rename_i ns hs0 hlay0 hL1 hr1 hl2 w4 w3 l vs w0 hL ra w1 r0 hI hr hc1 hc2
  have hdV : dV = .none := by
    rcases hD.pos with ⟨_, e⟩ | ⟨e, _⟩
    · exact e
    · exact absurd (by rw [factsL.2.2.2.2]) e
  have hkV : kV = .none := by
    rcases hD.kw with ⟨_, e⟩ | ⟨e, _⟩
    · exact e
    · exact absurd kwL_nil e
  subst hdV hkV
  refine enter_call (codeAny_mono (enter_law (ns := ns) ho hd hcd KX T hL hI ?_ fun h tk keep => goodT keep rfl hg) fun r s' g => GoodW.toG g)
  have := intsAre_len hI
  have h2 : ¬ ((63 : Int) < (ns.length : Int)) := hc1
  omega
theorem holdsX : PySem.Challenge.rw_pp0010_01.Holds := by
  refine holds_law (by kernel_rfl) fun said => ?_
  refine PySem.W.holds_open (d := dL) (kwd := kwL) (q := view0) (loose := lo) (Xt := Xt0) (XP := XL view0 []) (Yf := Hook.obs Hk) (Ya := Hook.val Hk) (YP := Hook.says Hk) (N := 6786) left (Hook.of Hk) (Hook.keeps Hk) (fun s e => xl_of s (Bool.and_eq_true_iff.mp e).1) XL.keeps defL (by kernel_rfl) (by kernel_rfl) (fun s e => recFacts_of (Bool.and_eq_true_iff.mp e).2) (by rfl) (by assumption) (by decide +kernel) ⟨rfl, rfl, rfl, rfl, rfl, by decide +kernel⟩ ?hw ?hc
  case hw => exact ⟨[.list []], by kernel_rfl, by kernel_rfl⟩
  case hc => exact we
end Mine
theorem PySem.Challenge.cw_pp0010_01_holds : PySem.Challenge.rw_pp0010_01.Holds :=
  Mine.holdsX
