import PyProof.Rows.All
import Wide.All
import OpenK.AllK
import Wide.FinOn
import PySem.Challenge.RW_qz0100_01
set_option Elab.async false
set_option maxRecDepth 100000
set_option maxHeartbeats 0
namespace MineHd
section THB
open PySem PySem.W PyProof.Rows
/-- the top's run over a tree of objects, by any step and any look ahead of a step -/
noncomputable def runR (ok : Thread → Bool) (st : SharedT → Thread → Option (SharedT × Thread)) (n : Nat) : SharedT → Thread → Option SharedT :=
  Nat.rec (motive := fun _ => SharedT → Thread → Option SharedT) (fun _ _ => none)
    (fun _ ih s t => match through t with
      | true => some s
      | false => match ok t with
        | false => none
        | true => match st s t with
          | some (s', t') => ih s' t'
          | none => none) n
theorem runR_of {tb : String → Option Builtin} {p : Program} {w : World} {n₀ : Nat} {ann : Option Value} : ∀ (n : Nat) (s s' : SharedT) (t : Thread), runR (stepOk n₀ ann) (stepT (denote tb) p w) n s t = some s' → topRun tb p w n₀ ann n s.abs t = some s'.abs
  | 0, _, _, _, h => by cases h
  | n + 1, s, s', t, h => by
    have e : runR (stepOk n₀ ann) (stepT (denote tb) p w) (n + 1) s t = (match through t with
      | true => some s
      | false => match stepOk n₀ ann t with
        | false => none
        | true => match stepT (denote tb) p w s t with
          | some (s', t') => runR (stepOk n₀ ann) (stepT (denote tb) p w) n s' t'
          | none => none) := rfl
    rw [e] at h
    unfold topRun
    cases ht : through t with
    | true => rw [ht] at h; cases h; rfl
    | false =>
      rw [ht] at h
      cases hk : stepOk n₀ ann t with
      | false => rw [hk] at h; cases h
      | true =>
        rw [hk] at h
        cases hs : stepT (denote tb) p w s t with
        | none => rw [hs] at h; cases h
        | some r => obtain ⟨s₂, t₂⟩ := r; rw [hs] at h; dsimp only at h ⊢; rw [stepT_spec hs]; exact runR_of n _ _ _ h
theorem left_tree {p q : Program} {loose : List PySem.Str} {Xt : Shared → Bool} {α : Type} {Yf : Shared → α} {Ya : World → α} {N : Nat} {g0 : Bool} {H₀ : Params → Heap} {gs₀ : Array GenState} {d₀ : Drawn} {k₀ : Nat} {m₀ : Nat} {ann : Option Value} {S₀ : World → OsState → SharedT}
    (open_ : ∀ w : World, (fencedOpening treeTable p w N).map (fun s => (s.heap, s.gens, s.drawn, s.toks)) = some (H₀ w.params, gs₀, d₀, k₀))
    (size : ∀ w : World, ((H₀ w.params).isNs mainGlobals && gs₀.size == 0, (H₀ w.params).objs.size, (H₀ w.params).nsMap mainGlobals "__annotations__") = (true, m₀, ann))
    (hS : ∀ w os, (S₀ w os).abs = ⟨H₀ w.params, gs₀, d₀, k₀, os⟩)
    (looks : ∀ (w : World), (fun os => (runR (stepOk m₀ ann) (stepT (denote treeTable) p w) N (S₀ w os) (topStub p)).map fun s => ((staticsOk (importedModules p.main.body) (H₀ w.params) s.abs.heap && namesBound p s.abs.heap && gensDone s.abs && laidKept (H₀ w.params) s.abs.heap),
        openSeen q loose (importedModules p.main.body) Xt g0 s.abs, Yf s.abs)) = fun _ => some (true, openGood q loose, Ya w)) : LeftO p q loose Xt Yf Ya N g0 := fun w => by
  obtain ⟨⟨h, gs, d, k, os⟩, e, e'⟩ := Option.map_eq_some_iff.mp (open_ w)
  obtain ⟨rfl, rfl, rfl, rfl⟩ : h = H₀ w.params ∧ gs = gs₀ ∧ d = d₀ ∧ k = k₀ := by simpa using e'
  obtain ⟨z1, z2, z3⟩ : _ ∧ _ ∧ _ := by simpa only [Prod.mk.injEq] using size w
  obtain ⟨s₁, hr, hl⟩ := Option.map_eq_some_iff.mp (congrFun (looks w) os)
  obtain ⟨l1, l2, l3⟩ : _ ∧ _ ∧ _ := by simpa only [Prod.mk.injEq] using hl
  have r := runR_of _ _ _ _ hr
  rw [hS w os] at r
  have t : topFrom treeTable p w N ⟨H₀ w.params, gs, d, k, os⟩ = some s₁.abs := by
    unfold topFrom
    dsimp only
    rw [z1, z2, z3, r]
    show (match staticsOk (importedModules p.main.body) (H₀ w.params) s₁.abs.heap && namesBound p s₁.abs.heap && gensDone s₁.abs && laidKept (H₀ w.params) s₁.abs.heap with | true => _ | false => _) = _
    rw [l1]
  unfold openEnds
  rw [e]
  show (topFrom treeTable p w N _).map _ = _
  rw [t]
  exact congrArg some (Prod.ext l2 l3)
theorem left_quick {p q : Program} {loose : List PySem.Str} {Xt : Shared → Bool} {α : Type} {Yf : Shared → α} {Ya : World → α} {N : Nat} {g0 : Bool} {H₀ : Params → Heap} {gs₀ : Array GenState} {d₀ : Drawn} {k₀ : Nat} {m₀ : Nat} {ann : Option Value} {S₀ : World → OsState → SharedT}
    (open_ : ∀ w : World, (fencedOpening treeTable p w N).map (fun s => (s.heap, s.gens, s.drawn, s.toks)) = some (H₀ w.params, gs₀, d₀, k₀))
    (size : ∀ w : World, ((H₀ w.params).isNs mainGlobals && gs₀.size == 0, (H₀ w.params).objs.size, (H₀ w.params).nsMap mainGlobals "__annotations__") = (true, m₀, ann))
    (hS : ∀ w os, (S₀ w os).abs = ⟨H₀ w.params, gs₀, d₀, k₀, os⟩)
    (looks : ∀ (w : World), (fun os => (runR (PySem.W.Fast.tw6613529449190102663 m₀ ann) (PySem.W.Fast.tw10156331382660048174 (PySem.W.Fast.tw11892475500146522536 PySem.W.Fast.tw14364793385576792824) p w) N (S₀ w os) (topStub p)).map fun s => ((staticsOk (importedModules p.main.body) (H₀ w.params) s.abs.heap && namesBound p s.abs.heap && gensDone s.abs && laidKept (H₀ w.params) s.abs.heap),
        PySem.W.Fast.tw4187177175401517315 q loose (importedModules p.main.body) Xt g0 s.abs, Yf s.abs)) = fun _ => some (true, openGood q loose, Ya w)) : LeftO p q loose Xt Yf Ya N g0 := by
  refine left_tree open_ size hS fun w => ?_
  rw [PySem.W.Fast.te6613529449190102663, PySem.W.Fast.te10156331382660048174, PySem.W.Fast.te11892475500146522536, PySem.W.Fast.te14364793385576792824, PySem.W.Fast.te4187177175401517315]
  exact looks w
noncomputable def treeOf (l : List Obj) : BT × Nat := l.foldl (fun x o => (x.1.ins x.2 o, x.2 + 1)) (.nil, 0)
end THB
end MineHd
namespace MineHd
section THC
open PySem PySem.W PyProof.Rows
noncomputable def bootT (P : Params) : BT := (treeOf [boot_o_0 P, boot_o_1 P, boot_o_2 P, boot_o_3 P, boot_o_4 P, boot_o_5 P, boot_o_6 P, boot_o_7 P, boot_o_8 P, boot_o_9 P, boot_o_10 P]).1
noncomputable abbrev pw : Program := PySem.Challenge.pw_qz0100_01
noncomputable def S0 (w : World) (os : OsState) : SharedT := ⟨bootT w.params, 11, {}, #[], boot_drawn, boot_toks, os⟩
theorem boot_abs (w : World) (os : OsState) : (S0 w os).abs = ⟨boot_heap w.params, #[], boot_drawn, boot_toks, os⟩ := by with_unfolding_all rfl
theorem open_boot : ∀ w : World, (fencedOpening treeTable pw w 6000).map (fun s => (s.heap, s.gens, s.drawn, s.toks)) = some (boot_heap w.params, Array.mk [], boot_drawn, boot_toks) :=
  boot_open (by rfl) (by decide) (fun s => by rfl)
theorem size_boot (w : World) : ((boot_heap w.params).isNs mainGlobals && (#[] : Array GenState).size == 0, (boot_heap w.params).objs.size, (boot_heap w.params).nsMap mainGlobals "__annotations__") = (true, 11, some (.ref 6)) := by with_unfolding_all rfl
end THC
end MineHd
namespace MineHd
section THK
open PySem PySem.W PyProof.Rows
noncomputable def stm (i : Nat) : Stmt := pw.main.body.getD i (.Pass default)
noncomputable def sub (i j : Nat) : Stmt := match stm i with | .ClassDef _ _ _ b _ _ _ _ _ _ _ => b.getD j (.Pass default) | s => s
def parOf : Stmt → Arguments | .FunctionDef _ p _ _ _ _ _ _ _ _ => p | _ => default
def bodOf : Stmt → List Stmt | .FunctionDef _ _ b _ _ _ _ _ _ _ => b | _ => []
def scoOf : Stmt → Scope | .FunctionDef _ _ _ _ _ _ s _ _ _ => s | _ => default
noncomputable def b0 : List Stmt := by
  refine' (?f : (b : List Stmt) → bodOf (stm 0) = b → List Stmt) ?b ?h
  case' f => exact fun b _ => b
  case h => (conv => lhs; whnf)
noncomputable def b10_0 : List Stmt := by
  refine' (?f : (b : List Stmt) → bodOf (sub 10 0) = b → List Stmt) ?b ?h
  case' f => exact fun b _ => b
  case h => (conv => lhs; whnf)
noncomputable def b11_0 : List Stmt := by
  refine' (?f : (b : List Stmt) → bodOf (sub 11 0) = b → List Stmt) ?b ?h
  case' f => exact fun b _ => b
  case h => (conv => lhs; whnf)
noncomputable def b12_0 : List Stmt := by
  refine' (?f : (b : List Stmt) → bodOf (sub 12 0) = b → List Stmt) ?b ?h
  case' f => exact fun b _ => b
  case h => (conv => lhs; whnf)
noncomputable def b13_0 : List Stmt := by
  refine' (?f : (b : List Stmt) → bodOf (sub 13 0) = b → List Stmt) ?b ?h
  case' f => exact fun b _ => b
  case h => (conv => lhs; whnf)
noncomputable def b14_0 : List Stmt := by
  refine' (?f : (b : List Stmt) → bodOf (sub 14 0) = b → List Stmt) ?b ?h
  case' f => exact fun b _ => b
  case h => (conv => lhs; whnf)
noncomputable def b15_0 : List Stmt := by
  refine' (?f : (b : List Stmt) → bodOf (sub 15 0) = b → List Stmt) ?b ?h
  case' f => exact fun b _ => b
  case h => (conv => lhs; whnf)
noncomputable def b16_0 : List Stmt := by
  refine' (?f : (b : List Stmt) → bodOf (sub 16 0) = b → List Stmt) ?b ?h
  case' f => exact fun b _ => b
  case h => (conv => lhs; whnf)
noncomputable def b16_1 : List Stmt := by
  refine' (?f : (b : List Stmt) → bodOf (sub 16 1) = b → List Stmt) ?b ?h
  case' f => exact fun b _ => b
  case h => (conv => lhs; whnf)
noncomputable def b16_2 : List Stmt := by
  refine' (?f : (b : List Stmt) → bodOf (sub 16 2) = b → List Stmt) ?b ?h
  case' f => exact fun b _ => b
  case h => (conv => lhs; whnf)
noncomputable def b16_3 : List Stmt := by
  refine' (?f : (b : List Stmt) → bodOf (sub 16 3) = b → List Stmt) ?b ?h
  case' f => exact fun b _ => b
  case h => (conv => lhs; whnf)
noncomputable def b16_4 : List Stmt := by
  refine' (?f : (b : List Stmt) → bodOf (sub 16 4) = b → List Stmt) ?b ?h
  case' f => exact fun b _ => b
  case h => (conv => lhs; whnf)
noncomputable def b16_5 : List Stmt := by
  refine' (?f : (b : List Stmt) → bodOf (sub 16 5) = b → List Stmt) ?b ?h
  case' f => exact fun b _ => b
  case h => (conv => lhs; whnf)
noncomputable def b16_6 : List Stmt := by
  refine' (?f : (b : List Stmt) → bodOf (sub 16 6) = b → List Stmt) ?b ?h
  case' f => exact fun b _ => b
  case h => (conv => lhs; whnf)
noncomputable def b17 : List Stmt := by
  refine' (?f : (b : List Stmt) → bodOf (stm 17) = b → List Stmt) ?b ?h
  case' f => exact fun b _ => b
  case h => (conv => lhs; whnf)
noncomputable def b18 : List Stmt := by
  refine' (?f : (b : List Stmt) → bodOf (stm 18) = b → List Stmt) ?b ?h
  case' f => exact fun b _ => b
  case h => (conv => lhs; whnf)
noncomputable def b19 : List Stmt := by
  refine' (?f : (b : List Stmt) → bodOf (stm 19) = b → List Stmt) ?b ?h
  case' f => exact fun b _ => b
  case h => (conv => lhs; whnf)
noncomputable def b21 : List Stmt := by
  refine' (?f : (b : List Stmt) → bodOf (stm 21) = b → List Stmt) ?b ?h
  case' f => exact fun b _ => b
  case h => (conv => lhs; whnf)
noncomputable def b22 : List Stmt := by
  refine' (?f : (b : List Stmt) → bodOf (stm 22) = b → List Stmt) ?b ?h
  case' f => exact fun b _ => b
  case h => (conv => lhs; whnf)
noncomputable def b23 : List Stmt := by
  refine' (?f : (b : List Stmt) → bodOf (stm 23) = b → List Stmt) ?b ?h
  case' f => exact fun b _ => b
  case h => (conv => lhs; whnf)
noncomputable def b25 : List Stmt := by
  refine' (?f : (b : List Stmt) → bodOf (stm 25) = b → List Stmt) ?b ?h
  case' f => exact fun b _ => b
  case h => (conv => lhs; whnf)
noncomputable def b29 : List Stmt := by
  refine' (?f : (b : List Stmt) → bodOf (stm 29) = b → List Stmt) ?b ?h
  case' f => exact fun b _ => b
  case h => (conv => lhs; whnf)
noncomputable def b2_0 : List Stmt := by
  refine' (?f : (b : List Stmt) → bodOf (sub 2 0) = b → List Stmt) ?b ?h
  case' f => exact fun b _ => b
  case h => (conv => lhs; whnf)
noncomputable def b30 : List Stmt := by
  refine' (?f : (b : List Stmt) → bodOf (stm 30) = b → List Stmt) ?b ?h
  case' f => exact fun b _ => b
  case h => (conv => lhs; whnf)
noncomputable def b32_0 : List Stmt := by
  refine' (?f : (b : List Stmt) → bodOf (sub 32 0) = b → List Stmt) ?b ?h
  case' f => exact fun b _ => b
  case h => (conv => lhs; whnf)
noncomputable def b32_1 : List Stmt := by
  refine' (?f : (b : List Stmt) → bodOf (sub 32 1) = b → List Stmt) ?b ?h
  case' f => exact fun b _ => b
  case h => (conv => lhs; whnf)
noncomputable def b32_10 : List Stmt := by
  refine' (?f : (b : List Stmt) → bodOf (sub 32 10) = b → List Stmt) ?b ?h
  case' f => exact fun b _ => b
  case h => (conv => lhs; whnf)
noncomputable def b32_11 : List Stmt := by
  refine' (?f : (b : List Stmt) → bodOf (sub 32 11) = b → List Stmt) ?b ?h
  case' f => exact fun b _ => b
  case h => (conv => lhs; whnf)
noncomputable def b32_2 : List Stmt := by
  refine' (?f : (b : List Stmt) → bodOf (sub 32 2) = b → List Stmt) ?b ?h
  case' f => exact fun b _ => b
  case h => (conv => lhs; whnf)
noncomputable def b32_3 : List Stmt := by
  refine' (?f : (b : List Stmt) → bodOf (sub 32 3) = b → List Stmt) ?b ?h
  case' f => exact fun b _ => b
  case h => (conv => lhs; whnf)
noncomputable def b32_4 : List Stmt := by
  refine' (?f : (b : List Stmt) → bodOf (sub 32 4) = b → List Stmt) ?b ?h
  case' f => exact fun b _ => b
  case h => (conv => lhs; whnf)
noncomputable def b32_5 : List Stmt := by
  refine' (?f : (b : List Stmt) → bodOf (sub 32 5) = b → List Stmt) ?b ?h
  case' f => exact fun b _ => b
  case h => (conv => lhs; whnf)
noncomputable def b32_6 : List Stmt := by
  refine' (?f : (b : List Stmt) → bodOf (sub 32 6) = b → List Stmt) ?b ?h
  case' f => exact fun b _ => b
  case h => (conv => lhs; whnf)
noncomputable def b32_7 : List Stmt := by
  refine' (?f : (b : List Stmt) → bodOf (sub 32 7) = b → List Stmt) ?b ?h
  case' f => exact fun b _ => b
  case h => (conv => lhs; whnf)
noncomputable def b32_8 : List Stmt := by
  refine' (?f : (b : List Stmt) → bodOf (sub 32 8) = b → List Stmt) ?b ?h
  case' f => exact fun b _ => b
  case h => (conv => lhs; whnf)
noncomputable def b32_9 : List Stmt := by
  refine' (?f : (b : List Stmt) → bodOf (sub 32 9) = b → List Stmt) ?b ?h
  case' f => exact fun b _ => b
  case h => (conv => lhs; whnf)
noncomputable def b34_0 : List Stmt := by
  refine' (?f : (b : List Stmt) → bodOf (sub 34 0) = b → List Stmt) ?b ?h
  case' f => exact fun b _ => b
  case h => (conv => lhs; whnf)
noncomputable def b35_0 : List Stmt := by
  refine' (?f : (b : List Stmt) → bodOf (sub 35 0) = b → List Stmt) ?b ?h
  case' f => exact fun b _ => b
  case h => (conv => lhs; whnf)
noncomputable def b37_0 : List Stmt := by
  refine' (?f : (b : List Stmt) → bodOf (sub 37 0) = b → List Stmt) ?b ?h
  case' f => exact fun b _ => b
  case h => (conv => lhs; whnf)
noncomputable def b39 : List Stmt := by
  refine' (?f : (b : List Stmt) → bodOf (stm 39) = b → List Stmt) ?b ?h
  case' f => exact fun b _ => b
  case h => (conv => lhs; whnf)
noncomputable def b3_0 : List Stmt := by
  refine' (?f : (b : List Stmt) → bodOf (sub 3 0) = b → List Stmt) ?b ?h
  case' f => exact fun b _ => b
  case h => (conv => lhs; whnf)
noncomputable def b42 : List Stmt := by
  refine' (?f : (b : List Stmt) → bodOf (stm 42) = b → List Stmt) ?b ?h
  case' f => exact fun b _ => b
  case h => (conv => lhs; whnf)
noncomputable def b43 : List Stmt := by
  refine' (?f : (b : List Stmt) → bodOf (stm 43) = b → List Stmt) ?b ?h
  case' f => exact fun b _ => b
  case h => (conv => lhs; whnf)
noncomputable def b44 : List Stmt := by
  refine' (?f : (b : List Stmt) → bodOf (stm 44) = b → List Stmt) ?b ?h
  case' f => exact fun b _ => b
  case h => (conv => lhs; whnf)
noncomputable def b46_0 : List Stmt := by
  refine' (?f : (b : List Stmt) → bodOf (sub 46 0) = b → List Stmt) ?b ?h
  case' f => exact fun b _ => b
  case h => (conv => lhs; whnf)
noncomputable def b46_1 : List Stmt := by
  refine' (?f : (b : List Stmt) → bodOf (sub 46 1) = b → List Stmt) ?b ?h
  case' f => exact fun b _ => b
  case h => (conv => lhs; whnf)
noncomputable def b46_2 : List Stmt := by
  refine' (?f : (b : List Stmt) → bodOf (sub 46 2) = b → List Stmt) ?b ?h
  case' f => exact fun b _ => b
  case h => (conv => lhs; whnf)
noncomputable def b46_3 : List Stmt := by
  refine' (?f : (b : List Stmt) → bodOf (sub 46 3) = b → List Stmt) ?b ?h
  case' f => exact fun b _ => b
  case h => (conv => lhs; whnf)
noncomputable def b46_4 : List Stmt := by
  refine' (?f : (b : List Stmt) → bodOf (sub 46 4) = b → List Stmt) ?b ?h
  case' f => exact fun b _ => b
  case h => (conv => lhs; whnf)
noncomputable def b46_5 : List Stmt := by
  refine' (?f : (b : List Stmt) → bodOf (sub 46 5) = b → List Stmt) ?b ?h
  case' f => exact fun b _ => b
  case h => (conv => lhs; whnf)
noncomputable def b46_6 : List Stmt := by
  refine' (?f : (b : List Stmt) → bodOf (sub 46 6) = b → List Stmt) ?b ?h
  case' f => exact fun b _ => b
  case h => (conv => lhs; whnf)
noncomputable def b49 : List Stmt := by
  refine' (?f : (b : List Stmt) → bodOf (stm 49) = b → List Stmt) ?b ?h
  case' f => exact fun b _ => b
  case h => (conv => lhs; whnf)
noncomputable def b50 : List Stmt := by
  refine' (?f : (b : List Stmt) → bodOf (stm 50) = b → List Stmt) ?b ?h
  case' f => exact fun b _ => b
  case h => (conv => lhs; whnf)
noncomputable def b51 : List Stmt := by
  refine' (?f : (b : List Stmt) → bodOf (stm 51) = b → List Stmt) ?b ?h
  case' f => exact fun b _ => b
  case h => (conv => lhs; whnf)
noncomputable def b52 : List Stmt := by
  refine' (?f : (b : List Stmt) → bodOf (stm 52) = b → List Stmt) ?b ?h
  case' f => exact fun b _ => b
  case h => (conv => lhs; whnf)
noncomputable def b53 : List Stmt := by
  refine' (?f : (b : List Stmt) → bodOf (stm 53) = b → List Stmt) ?b ?h
  case' f => exact fun b _ => b
  case h => (conv => lhs; whnf)
noncomputable def b54 : List Stmt := by
  refine' (?f : (b : List Stmt) → bodOf (stm 54) = b → List Stmt) ?b ?h
  case' f => exact fun b _ => b
  case h => (conv => lhs; whnf)
noncomputable def b55 : List Stmt := by
  refine' (?f : (b : List Stmt) → bodOf (stm 55) = b → List Stmt) ?b ?h
  case' f => exact fun b _ => b
  case h => (conv => lhs; whnf)
noncomputable def b6 : List Stmt := by
  refine' (?f : (b : List Stmt) → bodOf (stm 6) = b → List Stmt) ?b ?h
  case' f => exact fun b _ => b
  case h => (conv => lhs; whnf)
noncomputable def b9_0 : List Stmt := by
  refine' (?f : (b : List Stmt) → bodOf (sub 9 0) = b → List Stmt) ?b ?h
  case' f => exact fun b _ => b
  case h => (conv => lhs; whnf)
noncomputable def p0 : Arguments := by
  refine' (?f : (b : Arguments) → parOf (stm 0) = b → Arguments) ?b ?h
  case' f => exact fun b _ => b
  case h => (conv => lhs; whnf)
noncomputable def p10_0 : Arguments := by
  refine' (?f : (b : Arguments) → parOf (sub 10 0) = b → Arguments) ?b ?h
  case' f => exact fun b _ => b
  case h => (conv => lhs; whnf)
noncomputable def p11_0 : Arguments := by
  refine' (?f : (b : Arguments) → parOf (sub 11 0) = b → Arguments) ?b ?h
  case' f => exact fun b _ => b
  case h => (conv => lhs; whnf)
noncomputable def p12_0 : Arguments := by
  refine' (?f : (b : Arguments) → parOf (sub 12 0) = b → Arguments) ?b ?h
  case' f => exact fun b _ => b
  case h => (conv => lhs; whnf)
noncomputable def p13_0 : Arguments := by
  refine' (?f : (b : Arguments) → parOf (sub 13 0) = b → Arguments) ?b ?h
  case' f => exact fun b _ => b
  case h => (conv => lhs; whnf)
noncomputable def p14_0 : Arguments := by
  refine' (?f : (b : Arguments) → parOf (sub 14 0) = b → Arguments) ?b ?h
  case' f => exact fun b _ => b
  case h => (conv => lhs; whnf)
noncomputable def p15_0 : Arguments := by
  refine' (?f : (b : Arguments) → parOf (sub 15 0) = b → Arguments) ?b ?h
  case' f => exact fun b _ => b
  case h => (conv => lhs; whnf)
noncomputable def p16_0 : Arguments := by
  refine' (?f : (b : Arguments) → parOf (sub 16 0) = b → Arguments) ?b ?h
  case' f => exact fun b _ => b
  case h => (conv => lhs; whnf)
noncomputable def p16_1 : Arguments := by
  refine' (?f : (b : Arguments) → parOf (sub 16 1) = b → Arguments) ?b ?h
  case' f => exact fun b _ => b
  case h => (conv => lhs; whnf)
noncomputable def p16_2 : Arguments := by
  refine' (?f : (b : Arguments) → parOf (sub 16 2) = b → Arguments) ?b ?h
  case' f => exact fun b _ => b
  case h => (conv => lhs; whnf)
noncomputable def p16_3 : Arguments := by
  refine' (?f : (b : Arguments) → parOf (sub 16 3) = b → Arguments) ?b ?h
  case' f => exact fun b _ => b
  case h => (conv => lhs; whnf)
noncomputable def p16_4 : Arguments := by
  refine' (?f : (b : Arguments) → parOf (sub 16 4) = b → Arguments) ?b ?h
  case' f => exact fun b _ => b
  case h => (conv => lhs; whnf)
noncomputable def p16_5 : Arguments := by
  refine' (?f : (b : Arguments) → parOf (sub 16 5) = b → Arguments) ?b ?h
  case' f => exact fun b _ => b
  case h => (conv => lhs; whnf)
noncomputable def p16_6 : Arguments := by
  refine' (?f : (b : Arguments) → parOf (sub 16 6) = b → Arguments) ?b ?h
  case' f => exact fun b _ => b
  case h => (conv => lhs; whnf)
noncomputable def p17 : Arguments := by
  refine' (?f : (b : Arguments) → parOf (stm 17) = b → Arguments) ?b ?h
  case' f => exact fun b _ => b
  case h => (conv => lhs; whnf)
noncomputable def p18 : Arguments := by
  refine' (?f : (b : Arguments) → parOf (stm 18) = b → Arguments) ?b ?h
  case' f => exact fun b _ => b
  case h => (conv => lhs; whnf)
noncomputable def p19 : Arguments := by
  refine' (?f : (b : Arguments) → parOf (stm 19) = b → Arguments) ?b ?h
  case' f => exact fun b _ => b
  case h => (conv => lhs; whnf)
noncomputable def p21 : Arguments := by
  refine' (?f : (b : Arguments) → parOf (stm 21) = b → Arguments) ?b ?h
  case' f => exact fun b _ => b
  case h => (conv => lhs; whnf)
noncomputable def p22 : Arguments := by
  refine' (?f : (b : Arguments) → parOf (stm 22) = b → Arguments) ?b ?h
  case' f => exact fun b _ => b
  case h => (conv => lhs; whnf)
noncomputable def p23 : Arguments := by
  refine' (?f : (b : Arguments) → parOf (stm 23) = b → Arguments) ?b ?h
  case' f => exact fun b _ => b
  case h => (conv => lhs; whnf)
noncomputable def p25 : Arguments := by
  refine' (?f : (b : Arguments) → parOf (stm 25) = b → Arguments) ?b ?h
  case' f => exact fun b _ => b
  case h => (conv => lhs; whnf)
noncomputable def p29 : Arguments := by
  refine' (?f : (b : Arguments) → parOf (stm 29) = b → Arguments) ?b ?h
  case' f => exact fun b _ => b
  case h => (conv => lhs; whnf)
noncomputable def p2_0 : Arguments := by
  refine' (?f : (b : Arguments) → parOf (sub 2 0) = b → Arguments) ?b ?h
  case' f => exact fun b _ => b
  case h => (conv => lhs; whnf)
noncomputable def p30 : Arguments := by
  refine' (?f : (b : Arguments) → parOf (stm 30) = b → Arguments) ?b ?h
  case' f => exact fun b _ => b
  case h => (conv => lhs; whnf)
noncomputable def p32_0 : Arguments := by
  refine' (?f : (b : Arguments) → parOf (sub 32 0) = b → Arguments) ?b ?h
  case' f => exact fun b _ => b
  case h => (conv => lhs; whnf)
noncomputable def p32_1 : Arguments := by
  refine' (?f : (b : Arguments) → parOf (sub 32 1) = b → Arguments) ?b ?h
  case' f => exact fun b _ => b
  case h => (conv => lhs; whnf)
noncomputable def p32_10 : Arguments := by
  refine' (?f : (b : Arguments) → parOf (sub 32 10) = b → Arguments) ?b ?h
  case' f => exact fun b _ => b
  case h => (conv => lhs; whnf)
noncomputable def p32_11 : Arguments := by
  refine' (?f : (b : Arguments) → parOf (sub 32 11) = b → Arguments) ?b ?h
  case' f => exact fun b _ => b
  case h => (conv => lhs; whnf)
noncomputable def p32_2 : Arguments := by
  refine' (?f : (b : Arguments) → parOf (sub 32 2) = b → Arguments) ?b ?h
  case' f => exact fun b _ => b
  case h => (conv => lhs; whnf)
noncomputable def p32_3 : Arguments := by
  refine' (?f : (b : Arguments) → parOf (sub 32 3) = b → Arguments) ?b ?h
  case' f => exact fun b _ => b
  case h => (conv => lhs; whnf)
noncomputable def p32_4 : Arguments := by
  refine' (?f : (b : Arguments) → parOf (sub 32 4) = b → Arguments) ?b ?h
  case' f => exact fun b _ => b
  case h => (conv => lhs; whnf)
noncomputable def p32_5 : Arguments := by
  refine' (?f : (b : Arguments) → parOf (sub 32 5) = b → Arguments) ?b ?h
  case' f => exact fun b _ => b
  case h => (conv => lhs; whnf)
noncomputable def p32_6 : Arguments := by
  refine' (?f : (b : Arguments) → parOf (sub 32 6) = b → Arguments) ?b ?h
  case' f => exact fun b _ => b
  case h => (conv => lhs; whnf)
noncomputable def p32_7 : Arguments := by
  refine' (?f : (b : Arguments) → parOf (sub 32 7) = b → Arguments) ?b ?h
  case' f => exact fun b _ => b
  case h => (conv => lhs; whnf)
noncomputable def p32_8 : Arguments := by
  refine' (?f : (b : Arguments) → parOf (sub 32 8) = b → Arguments) ?b ?h
  case' f => exact fun b _ => b
  case h => (conv => lhs; whnf)
noncomputable def p32_9 : Arguments := by
  refine' (?f : (b : Arguments) → parOf (sub 32 9) = b → Arguments) ?b ?h
  case' f => exact fun b _ => b
  case h => (conv => lhs; whnf)
noncomputable def p34_0 : Arguments := by
  refine' (?f : (b : Arguments) → parOf (sub 34 0) = b → Arguments) ?b ?h
  case' f => exact fun b _ => b
  case h => (conv => lhs; whnf)
noncomputable def p35_0 : Arguments := by
  refine' (?f : (b : Arguments) → parOf (sub 35 0) = b → Arguments) ?b ?h
  case' f => exact fun b _ => b
  case h => (conv => lhs; whnf)
noncomputable def p37_0 : Arguments := by
  refine' (?f : (b : Arguments) → parOf (sub 37 0) = b → Arguments) ?b ?h
  case' f => exact fun b _ => b
  case h => (conv => lhs; whnf)
noncomputable def p39 : Arguments := by
  refine' (?f : (b : Arguments) → parOf (stm 39) = b → Arguments) ?b ?h
  case' f => exact fun b _ => b
  case h => (conv => lhs; whnf)
noncomputable def p3_0 : Arguments := by
  refine' (?f : (b : Arguments) → parOf (sub 3 0) = b → Arguments) ?b ?h
  case' f => exact fun b _ => b
  case h => (conv => lhs; whnf)
noncomputable def p42 : Arguments := by
  refine' (?f : (b : Arguments) → parOf (stm 42) = b → Arguments) ?b ?h
  case' f => exact fun b _ => b
  case h => (conv => lhs; whnf)
noncomputable def p43 : Arguments := by
  refine' (?f : (b : Arguments) → parOf (stm 43) = b → Arguments) ?b ?h
  case' f => exact fun b _ => b
  case h => (conv => lhs; whnf)
noncomputable def p44 : Arguments := by
  refine' (?f : (b : Arguments) → parOf (stm 44) = b → Arguments) ?b ?h
  case' f => exact fun b _ => b
  case h => (conv => lhs; whnf)
noncomputable def p46_0 : Arguments := by
  refine' (?f : (b : Arguments) → parOf (sub 46 0) = b → Arguments) ?b ?h
  case' f => exact fun b _ => b
  case h => (conv => lhs; whnf)
noncomputable def p46_1 : Arguments := by
  refine' (?f : (b : Arguments) → parOf (sub 46 1) = b → Arguments) ?b ?h
  case' f => exact fun b _ => b
  case h => (conv => lhs; whnf)
noncomputable def p46_2 : Arguments := by
  refine' (?f : (b : Arguments) → parOf (sub 46 2) = b → Arguments) ?b ?h
  case' f => exact fun b _ => b
  case h => (conv => lhs; whnf)
noncomputable def p46_3 : Arguments := by
  refine' (?f : (b : Arguments) → parOf (sub 46 3) = b → Arguments) ?b ?h
  case' f => exact fun b _ => b
  case h => (conv => lhs; whnf)
noncomputable def p46_4 : Arguments := by
  refine' (?f : (b : Arguments) → parOf (sub 46 4) = b → Arguments) ?b ?h
  case' f => exact fun b _ => b
  case h => (conv => lhs; whnf)
noncomputable def p46_5 : Arguments := by
  refine' (?f : (b : Arguments) → parOf (sub 46 5) = b → Arguments) ?b ?h
  case' f => exact fun b _ => b
  case h => (conv => lhs; whnf)
noncomputable def p46_6 : Arguments := by
  refine' (?f : (b : Arguments) → parOf (sub 46 6) = b → Arguments) ?b ?h
  case' f => exact fun b _ => b
  case h => (conv => lhs; whnf)
noncomputable def p49 : Arguments := by
  refine' (?f : (b : Arguments) → parOf (stm 49) = b → Arguments) ?b ?h
  case' f => exact fun b _ => b
  case h => (conv => lhs; whnf)
noncomputable def p50 : Arguments := by
  refine' (?f : (b : Arguments) → parOf (stm 50) = b → Arguments) ?b ?h
  case' f => exact fun b _ => b
  case h => (conv => lhs; whnf)
noncomputable def p51 : Arguments := by
  refine' (?f : (b : Arguments) → parOf (stm 51) = b → Arguments) ?b ?h
  case' f => exact fun b _ => b
  case h => (conv => lhs; whnf)
noncomputable def p52 : Arguments := by
  refine' (?f : (b : Arguments) → parOf (stm 52) = b → Arguments) ?b ?h
  case' f => exact fun b _ => b
  case h => (conv => lhs; whnf)
noncomputable def p53 : Arguments := by
  refine' (?f : (b : Arguments) → parOf (stm 53) = b → Arguments) ?b ?h
  case' f => exact fun b _ => b
  case h => (conv => lhs; whnf)
noncomputable def p54 : Arguments := by
  refine' (?f : (b : Arguments) → parOf (stm 54) = b → Arguments) ?b ?h
  case' f => exact fun b _ => b
  case h => (conv => lhs; whnf)
noncomputable def p55 : Arguments := by
  refine' (?f : (b : Arguments) → parOf (stm 55) = b → Arguments) ?b ?h
  case' f => exact fun b _ => b
  case h => (conv => lhs; whnf)
noncomputable def p6 : Arguments := by
  refine' (?f : (b : Arguments) → parOf (stm 6) = b → Arguments) ?b ?h
  case' f => exact fun b _ => b
  case h => (conv => lhs; whnf)
noncomputable def p9_0 : Arguments := by
  refine' (?f : (b : Arguments) → parOf (sub 9 0) = b → Arguments) ?b ?h
  case' f => exact fun b _ => b
  case h => (conv => lhs; whnf)
noncomputable def s0 : Scope := by
  refine' (?f : (b : Scope) → scoOf (stm 0) = b → Scope) ?b ?h
  case' f => exact fun b _ => b
  case h => (conv => lhs; whnf)
noncomputable def s10_0 : Scope := by
  refine' (?f : (b : Scope) → scoOf (sub 10 0) = b → Scope) ?b ?h
  case' f => exact fun b _ => b
  case h => (conv => lhs; whnf)
noncomputable def s11_0 : Scope := by
  refine' (?f : (b : Scope) → scoOf (sub 11 0) = b → Scope) ?b ?h
  case' f => exact fun b _ => b
  case h => (conv => lhs; whnf)
noncomputable def s12_0 : Scope := by
  refine' (?f : (b : Scope) → scoOf (sub 12 0) = b → Scope) ?b ?h
  case' f => exact fun b _ => b
  case h => (conv => lhs; whnf)
noncomputable def s13_0 : Scope := by
  refine' (?f : (b : Scope) → scoOf (sub 13 0) = b → Scope) ?b ?h
  case' f => exact fun b _ => b
  case h => (conv => lhs; whnf)
noncomputable def s14_0 : Scope := by
  refine' (?f : (b : Scope) → scoOf (sub 14 0) = b → Scope) ?b ?h
  case' f => exact fun b _ => b
  case h => (conv => lhs; whnf)
noncomputable def s15_0 : Scope := by
  refine' (?f : (b : Scope) → scoOf (sub 15 0) = b → Scope) ?b ?h
  case' f => exact fun b _ => b
  case h => (conv => lhs; whnf)
noncomputable def s16_0 : Scope := by
  refine' (?f : (b : Scope) → scoOf (sub 16 0) = b → Scope) ?b ?h
  case' f => exact fun b _ => b
  case h => (conv => lhs; whnf)
noncomputable def s16_1 : Scope := by
  refine' (?f : (b : Scope) → scoOf (sub 16 1) = b → Scope) ?b ?h
  case' f => exact fun b _ => b
  case h => (conv => lhs; whnf)
noncomputable def s16_2 : Scope := by
  refine' (?f : (b : Scope) → scoOf (sub 16 2) = b → Scope) ?b ?h
  case' f => exact fun b _ => b
  case h => (conv => lhs; whnf)
noncomputable def s16_3 : Scope := by
  refine' (?f : (b : Scope) → scoOf (sub 16 3) = b → Scope) ?b ?h
  case' f => exact fun b _ => b
  case h => (conv => lhs; whnf)
noncomputable def s16_4 : Scope := by
  refine' (?f : (b : Scope) → scoOf (sub 16 4) = b → Scope) ?b ?h
  case' f => exact fun b _ => b
  case h => (conv => lhs; whnf)
noncomputable def s16_5 : Scope := by
  refine' (?f : (b : Scope) → scoOf (sub 16 5) = b → Scope) ?b ?h
  case' f => exact fun b _ => b
  case h => (conv => lhs; whnf)
noncomputable def s16_6 : Scope := by
  refine' (?f : (b : Scope) → scoOf (sub 16 6) = b → Scope) ?b ?h
  case' f => exact fun b _ => b
  case h => (conv => lhs; whnf)
noncomputable def s17 : Scope := by
  refine' (?f : (b : Scope) → scoOf (stm 17) = b → Scope) ?b ?h
  case' f => exact fun b _ => b
  case h => (conv => lhs; whnf)
noncomputable def s18 : Scope := by
  refine' (?f : (b : Scope) → scoOf (stm 18) = b → Scope) ?b ?h
  case' f => exact fun b _ => b
  case h => (conv => lhs; whnf)
noncomputable def s19 : Scope := by
  refine' (?f : (b : Scope) → scoOf (stm 19) = b → Scope) ?b ?h
  case' f => exact fun b _ => b
  case h => (conv => lhs; whnf)
noncomputable def s21 : Scope := by
  refine' (?f : (b : Scope) → scoOf (stm 21) = b → Scope) ?b ?h
  case' f => exact fun b _ => b
  case h => (conv => lhs; whnf)
noncomputable def s22 : Scope := by
  refine' (?f : (b : Scope) → scoOf (stm 22) = b → Scope) ?b ?h
  case' f => exact fun b _ => b
  case h => (conv => lhs; whnf)
noncomputable def s23 : Scope := by
  refine' (?f : (b : Scope) → scoOf (stm 23) = b → Scope) ?b ?h
  case' f => exact fun b _ => b
  case h => (conv => lhs; whnf)
noncomputable def s25 : Scope := by
  refine' (?f : (b : Scope) → scoOf (stm 25) = b → Scope) ?b ?h
  case' f => exact fun b _ => b
  case h => (conv => lhs; whnf)
noncomputable def s29 : Scope := by
  refine' (?f : (b : Scope) → scoOf (stm 29) = b → Scope) ?b ?h
  case' f => exact fun b _ => b
  case h => (conv => lhs; whnf)
noncomputable def s2_0 : Scope := by
  refine' (?f : (b : Scope) → scoOf (sub 2 0) = b → Scope) ?b ?h
  case' f => exact fun b _ => b
  case h => (conv => lhs; whnf)
noncomputable def s30 : Scope := by
  refine' (?f : (b : Scope) → scoOf (stm 30) = b → Scope) ?b ?h
  case' f => exact fun b _ => b
  case h => (conv => lhs; whnf)
noncomputable def s32_0 : Scope := by
  refine' (?f : (b : Scope) → scoOf (sub 32 0) = b → Scope) ?b ?h
  case' f => exact fun b _ => b
  case h => (conv => lhs; whnf)
noncomputable def s32_1 : Scope := by
  refine' (?f : (b : Scope) → scoOf (sub 32 1) = b → Scope) ?b ?h
  case' f => exact fun b _ => b
  case h => (conv => lhs; whnf)
noncomputable def s32_10 : Scope := by
  refine' (?f : (b : Scope) → scoOf (sub 32 10) = b → Scope) ?b ?h
  case' f => exact fun b _ => b
  case h => (conv => lhs; whnf)
noncomputable def s32_11 : Scope := by
  refine' (?f : (b : Scope) → scoOf (sub 32 11) = b → Scope) ?b ?h
  case' f => exact fun b _ => b
  case h => (conv => lhs; whnf)
noncomputable def s32_2 : Scope := by
  refine' (?f : (b : Scope) → scoOf (sub 32 2) = b → Scope) ?b ?h
  case' f => exact fun b _ => b
  case h => (conv => lhs; whnf)
noncomputable def s32_3 : Scope := by
  refine' (?f : (b : Scope) → scoOf (sub 32 3) = b → Scope) ?b ?h
  case' f => exact fun b _ => b
  case h => (conv => lhs; whnf)
noncomputable def s32_4 : Scope := by
  refine' (?f : (b : Scope) → scoOf (sub 32 4) = b → Scope) ?b ?h
  case' f => exact fun b _ => b
  case h => (conv => lhs; whnf)
noncomputable def s32_5 : Scope := by
  refine' (?f : (b : Scope) → scoOf (sub 32 5) = b → Scope) ?b ?h
  case' f => exact fun b _ => b
  case h => (conv => lhs; whnf)
noncomputable def s32_6 : Scope := by
  refine' (?f : (b : Scope) → scoOf (sub 32 6) = b → Scope) ?b ?h
  case' f => exact fun b _ => b
  case h => (conv => lhs; whnf)
noncomputable def s32_7 : Scope := by
  refine' (?f : (b : Scope) → scoOf (sub 32 7) = b → Scope) ?b ?h
  case' f => exact fun b _ => b
  case h => (conv => lhs; whnf)
noncomputable def s32_8 : Scope := by
  refine' (?f : (b : Scope) → scoOf (sub 32 8) = b → Scope) ?b ?h
  case' f => exact fun b _ => b
  case h => (conv => lhs; whnf)
noncomputable def s32_9 : Scope := by
  refine' (?f : (b : Scope) → scoOf (sub 32 9) = b → Scope) ?b ?h
  case' f => exact fun b _ => b
  case h => (conv => lhs; whnf)
noncomputable def s34_0 : Scope := by
  refine' (?f : (b : Scope) → scoOf (sub 34 0) = b → Scope) ?b ?h
  case' f => exact fun b _ => b
  case h => (conv => lhs; whnf)
noncomputable def s35_0 : Scope := by
  refine' (?f : (b : Scope) → scoOf (sub 35 0) = b → Scope) ?b ?h
  case' f => exact fun b _ => b
  case h => (conv => lhs; whnf)
noncomputable def s37_0 : Scope := by
  refine' (?f : (b : Scope) → scoOf (sub 37 0) = b → Scope) ?b ?h
  case' f => exact fun b _ => b
  case h => (conv => lhs; whnf)
noncomputable def s39 : Scope := by
  refine' (?f : (b : Scope) → scoOf (stm 39) = b → Scope) ?b ?h
  case' f => exact fun b _ => b
  case h => (conv => lhs; whnf)
noncomputable def s3_0 : Scope := by
  refine' (?f : (b : Scope) → scoOf (sub 3 0) = b → Scope) ?b ?h
  case' f => exact fun b _ => b
  case h => (conv => lhs; whnf)
noncomputable def s42 : Scope := by
  refine' (?f : (b : Scope) → scoOf (stm 42) = b → Scope) ?b ?h
  case' f => exact fun b _ => b
  case h => (conv => lhs; whnf)
noncomputable def s43 : Scope := by
  refine' (?f : (b : Scope) → scoOf (stm 43) = b → Scope) ?b ?h
  case' f => exact fun b _ => b
  case h => (conv => lhs; whnf)
noncomputable def s44 : Scope := by
  refine' (?f : (b : Scope) → scoOf (stm 44) = b → Scope) ?b ?h
  case' f => exact fun b _ => b
  case h => (conv => lhs; whnf)
noncomputable def s46_0 : Scope := by
  refine' (?f : (b : Scope) → scoOf (sub 46 0) = b → Scope) ?b ?h
  case' f => exact fun b _ => b
  case h => (conv => lhs; whnf)
noncomputable def s46_1 : Scope := by
  refine' (?f : (b : Scope) → scoOf (sub 46 1) = b → Scope) ?b ?h
  case' f => exact fun b _ => b
  case h => (conv => lhs; whnf)
noncomputable def s46_2 : Scope := by
  refine' (?f : (b : Scope) → scoOf (sub 46 2) = b → Scope) ?b ?h
  case' f => exact fun b _ => b
  case h => (conv => lhs; whnf)
noncomputable def s46_3 : Scope := by
  refine' (?f : (b : Scope) → scoOf (sub 46 3) = b → Scope) ?b ?h
  case' f => exact fun b _ => b
  case h => (conv => lhs; whnf)
noncomputable def s46_4 : Scope := by
  refine' (?f : (b : Scope) → scoOf (sub 46 4) = b → Scope) ?b ?h
  case' f => exact fun b _ => b
  case h => (conv => lhs; whnf)
noncomputable def s46_5 : Scope := by
  refine' (?f : (b : Scope) → scoOf (sub 46 5) = b → Scope) ?b ?h
  case' f => exact fun b _ => b
  case h => (conv => lhs; whnf)
noncomputable def s46_6 : Scope := by
  refine' (?f : (b : Scope) → scoOf (sub 46 6) = b → Scope) ?b ?h
  case' f => exact fun b _ => b
  case h => (conv => lhs; whnf)
noncomputable def s49 : Scope := by
  refine' (?f : (b : Scope) → scoOf (stm 49) = b → Scope) ?b ?h
  case' f => exact fun b _ => b
  case h => (conv => lhs; whnf)
noncomputable def s50 : Scope := by
  refine' (?f : (b : Scope) → scoOf (stm 50) = b → Scope) ?b ?h
  case' f => exact fun b _ => b
  case h => (conv => lhs; whnf)
noncomputable def s51 : Scope := by
  refine' (?f : (b : Scope) → scoOf (stm 51) = b → Scope) ?b ?h
  case' f => exact fun b _ => b
  case h => (conv => lhs; whnf)
noncomputable def s52 : Scope := by
  refine' (?f : (b : Scope) → scoOf (stm 52) = b → Scope) ?b ?h
  case' f => exact fun b _ => b
  case h => (conv => lhs; whnf)
noncomputable def s53 : Scope := by
  refine' (?f : (b : Scope) → scoOf (stm 53) = b → Scope) ?b ?h
  case' f => exact fun b _ => b
  case h => (conv => lhs; whnf)
noncomputable def s54 : Scope := by
  refine' (?f : (b : Scope) → scoOf (stm 54) = b → Scope) ?b ?h
  case' f => exact fun b _ => b
  case h => (conv => lhs; whnf)
noncomputable def s55 : Scope := by
  refine' (?f : (b : Scope) → scoOf (stm 55) = b → Scope) ?b ?h
  case' f => exact fun b _ => b
  case h => (conv => lhs; whnf)
noncomputable def s6 : Scope := by
  refine' (?f : (b : Scope) → scoOf (stm 6) = b → Scope) ?b ?h
  case' f => exact fun b _ => b
  case h => (conv => lhs; whnf)
noncomputable def s9_0 : Scope := by
  refine' (?f : (b : Scope) → scoOf (sub 9 0) = b → Scope) ?b ?h
  case' f => exact fun b _ => b
  case h => (conv => lhs; whnf)
abbrev S := PySem.Str.ofString
abbrev H := PyData.keyHash
noncomputable def KKs : Params → Frag := fun P =>
  ((nat_lit 2),⟨Value.none,none,(Data.dict (List.toArray (⟨(H P (S "type.__subclasses__.Exception.0")),(Value.str (S "type.__subclasses__.Exception.0") 221),(Value.int 38 0)⟩ :: ⟨(H P (S "type.__subclasses__.Exception.n")),(Value.str (S "type.__subclasses__.Exception.n") 222),(Value.int 1 0)⟩ :: [])) 2),(List.toArray [])⟩) ::
  ((nat_lit 3),⟨(Value.type "dict"),none,(Data.dict (List.toArray (⟨(H P (S "__name__")),(Value.str (S "__name__") 165),(Value.str (S "law_qz0100_01") 1016)⟩ :: ⟨(H P (S "__doc__")),(Value.str (S "__doc__") 166),Value.none⟩ :: ⟨(H P (S "__package__")),(Value.str (S "__package__") 167),Value.none⟩ :: ⟨(H P (S "__loader__")),(Value.str (S "__loader__") 168),(Value.builtin "__main__.__loader__#opaque")⟩ :: ⟨(H P (S "__spec__")),(Value.str (S "__spec__") 169),Value.none⟩ :: ⟨(H P (S "__annotations__")),(Value.str (S "__annotations__") 170),(Value.ref 6)⟩ :: ⟨(H P (S "__builtins__")),(Value.str (S "__builtins__") 171),(Value.ref 4)⟩ :: ⟨(H P (S "__file__")),(Value.str (S "__file__") 173),(Value.str (S "/claim/cut.py") 172)⟩ :: ⟨(H P (S "__cached__")),(Value.str (S "__cached__") 174),Value.none⟩ :: ⟨(H P (S "_wall")),(Value.str (S "_wall") 193),(Value.ref 21)⟩ :: ⟨(H P (S "PerlError")),(Value.str (S "PerlError") 224),(Value.ref 38)⟩ :: ⟨(H P (S "Die")),(Value.str (S "Die") 249),(Value.ref 58)⟩ :: ⟨(H P (S "FIGURES")),(Value.str (S "FIGURES") 253),(Value.str (S "0123456789") 252)⟩ :: ⟨(H P (S "number_text")),(Value.str (S "number_text") 261),(Value.ref 67)⟩ :: ⟨(H P (S "HEX_FIGURES")),(Value.str (S "HEX_FIGURES") 265),(Value.str (S "0123456789abcdef") 264)⟩ :: ⟨(H P (S "Thing")),(Value.str (S "Thing") 299),(Value.ref 84)⟩ :: ⟨(H P (S "Scalar")),(Value.str (S "Scalar") 326),(Value.ref 105)⟩ :: ⟨(H P (S "Array")),(Value.str (S "Array") 352),(Value.ref 124)⟩ :: ⟨(H P (S "Hash")),(Value.str (S "Hash") 379),(Value.ref 143)⟩ :: ⟨(H P (S "Code")),(Value.str (S "Code") 409),(Value.ref 162)⟩ :: ⟨(H P (S "Glob")),(Value.str (S "Glob") 439),(Value.ref 181)⟩ :: ⟨(H P (S "Ref")),(Value.str (S "Ref") 470),(Value.ref 201)⟩ :: ⟨(H P (S "Heap")),(Value.str (S "Heap") 547),(Value.ref 264)⟩ :: ⟨(H P (S "thing_word")),(Value.str (S "thing_word") 554),(Value.ref 275)⟩ :: ⟨(H P (S "hex_of")),(Value.str (S "hex_of") 562),(Value.ref 282)⟩ :: ⟨(H P (S "ref_text")),(Value.str (S "ref_text") 570),(Value.ref 289)⟩ :: ⟨(H P (S "value_of")),(Value.str (S "value_of") 579),(Value.ref 296)⟩ :: ⟨(H P (S "to_text")),(Value.str (S "to_text") 586),(Value.ref 303)⟩ :: ⟨(H P (S "concat_values")),(Value.str (S "concat_values") 596),(Value.ref 310)⟩ :: ⟨(H P (S "join_texts")),(Value.str (S "join_texts") 609),(Value.ref 317)⟩ :: ⟨(H P (S "MOST_TEXTS")),(Value.str (S "MOST_TEXTS") 613),(Value.int 100 612)⟩ :: ⟨(H P (S "MOST_ROWS")),(Value.str (S "MOST_ROWS") 615),(Value.int 1000 614)⟩ :: ⟨(H P (S "put_text")),(Value.str (S "put_text") 624),(Value.ref 324)⟩ :: ⟨(H P (S "print_func")),(Value.str (S "print_func") 630),(Value.ref 329)⟩ :: ⟨(H P (S "Counter")),(Value.str (S "Counter") 753),(Value.ref 421)⟩ :: ⟨(H P (S "Frame")),(Value.str (S "Frame") 794),(Value.ref 442)⟩ :: ⟨(H P (S "Run")),(Value.str (S "Run") 844),(Value.ref 463)⟩ :: ⟨(H P (S "Limits")),(Value.str (S "Limits") 894),(Value.ref 485)⟩ :: ⟨(H P (S "with_line")),(Value.str (S "with_line") 904),(Value.ref 496)⟩ :: ⟨(H P (S "ERROR_NAME")),(Value.str (S "ERROR_NAME") 908),(Value.str (S "main::@") 907)⟩ :: ⟨(H P (S "message_of")),(Value.str (S "message_of") 914),(Value.ref 501)⟩ :: ⟨(H P (S "die_func")),(Value.str (S "die_func") 923),(Value.ref 508)⟩ :: ⟨(H P (S "warn_func")),(Value.str (S "warn_func") 933),(Value.ref 515)⟩ :: ⟨(H P (S "Stash")),(Value.str (S "Stash") 1015),(Value.ref 574)⟩ :: ⟨(H P (S "_law_words")),(Value.str (S "_law_words") 1022),(Value.ref 579)⟩ :: ⟨(H P (S "_law_take")),(Value.str (S "_law_take") 1030),(Value.ref 586)⟩ :: ⟨(H P (S "_law_run")),(Value.str (S "_law_run") 1041),(Value.ref 593)⟩ :: ⟨(H P (S "_law_heard")),(Value.str (S "_law_heard") 1049),(Value.ref 600)⟩ :: ⟨(H P (S "_law_message")),(Value.str (S "_law_message") 1060),(Value.ref 607)⟩ :: ⟨(H P (S "_law_put")),(Value.str (S "_law_put") 1069),(Value.ref 614)⟩ :: ⟨(H P (S "_law_due")),(Value.str (S "_law_due") 1081),(Value.ref 621)⟩ :: ⟨(H P (S "law")),(Value.str (S "law") 1087),(Value.ref 626)⟩ :: [])) 52),(List.toArray [])⟩) ::
  ((nat_lit 15),⟨(Value.type "tuple"),none,(Data.seq (List.toArray []) 0),(List.toArray [])⟩) ::
  ((nat_lit 17),⟨(Value.type "tuple"),none,(Data.seq (List.toArray ((Value.str (S "k") 190) :: [])) 0),(List.toArray [])⟩) ::
  ((nat_lit 18),⟨(Value.type "tuple"),none,(Data.seq (List.toArray []) 0),(List.toArray [])⟩) ::
  ((nat_lit 20),⟨(Value.type "code"),none,(Data.fields (List.toArray ((Value.str (S "_wall") 187) :: (Value.str (S "_wall") 188) :: (Value.str (S "/claim/cut.py") 189) :: (Value.int 1 0) :: (Value.int 1 0) :: (Value.int 0 0) :: (Value.int 0 0) :: (Value.int 3 0) :: (Value.ref 15) :: (Value.bool Bool.true) :: (Value.int 181 0) :: (Value.ref 16) :: Value.none :: (Value.ref 17) :: (Value.ref 18) :: (Value.ref 19) :: (Value.int 191 0) :: (Value.int 1 0) :: (Value.str (S "/claim/cut.py") 192) :: []))),(List.toArray [])⟩) ::
  ((nat_lit 21),⟨(Value.type "function"),none,(Data.func ⟨(S "_wall"),(S "_wall"),p0,(FuncBody.stmts b0),s0,3,[],Value.none,Value.none,Value.none,(Value.str (S "__main__") 164),none,(Value.ref 20),Value.none,0⟩),(List.toArray [])⟩) ::
  ((nat_lit 22),⟨(Value.type "tuple"),none,(Data.seq (List.toArray ((Value.type "Exception") :: [])) 0),(List.toArray [])⟩) ::
  ((nat_lit 29),⟨(Value.type "tuple"),none,(Data.seq (List.toArray []) 0),(List.toArray [])⟩) ::
  ((nat_lit 31),⟨(Value.type "tuple"),none,(Data.seq (List.toArray ((Value.str (S "self") 211) :: (Value.str (S "text") 212) :: [])) 0),(List.toArray [])⟩) ::
  ((nat_lit 32),⟨(Value.type "tuple"),none,(Data.seq (List.toArray []) 0),(List.toArray [])⟩) ::
  ((nat_lit 34),⟨(Value.type "code"),none,(Data.fields (List.toArray ((Value.str (S "__init__") 208) :: (Value.str (S "PerlError.__init__") 209) :: (Value.str (S "/claim/cut.py") 210) :: (Value.int 7 0) :: (Value.int 2 0) :: (Value.int 0 0) :: (Value.int 0 0) :: (Value.int 3 0) :: (Value.ref 29) :: (Value.bool Bool.true) :: (Value.int 181 0) :: (Value.ref 30) :: Value.none :: (Value.ref 31) :: (Value.ref 32) :: (Value.ref 33) :: (Value.int 213 0) :: (Value.int 7 0) :: (Value.str (S "/claim/cut.py") 214) :: []))),(List.toArray [])⟩) ::
  ((nat_lit 35),⟨(Value.type "function"),none,(Data.func ⟨(S "__init__"),(S "PerlError.__init__"),p2_0,(FuncBody.stmts b2_0),s2_0,3,[],Value.none,Value.none,Value.none,(Value.str (S "perlcore.errors") 194),none,(Value.ref 34),Value.none,0⟩),(List.toArray [])⟩) ::
  ((nat_lit 36),⟨(Value.type "tuple"),none,(Data.seq (List.toArray ((Value.str (S "text") 216) :: [])) 0),(List.toArray [])⟩) ::
  ((nat_lit 37),⟨(Value.type "dict"),none,(Data.dict (List.toArray (⟨(H P (S "__module__")),(Value.str (S "__module__") 203),(Value.str (S "perlcore.errors") 194)⟩ :: ⟨(H P (S "__firstlineno__")),(Value.str (S "__firstlineno__") 207),(Value.int 5 206)⟩ :: ⟨(H P (S "__init__")),(Value.str (S "__init__") 215),(Value.ref 35)⟩ :: ⟨(H P (S "__static_attributes__")),(Value.str (S "__static_attributes__") 217),(Value.ref 36)⟩ :: ⟨(H P (S "__weakref__")),(Value.str (S "__weakref__") 219),(Value.ref 39)⟩ :: ⟨(H P (S "__doc__")),(Value.str (S "__doc__") 220),Value.none⟩ :: [])) 3),(List.toArray [])⟩) ::
  ((nat_lit 38),⟨(Value.type "type"),none,(Data.cls ⟨(S "PerlError"),((Value.type "Exception") :: []),((Value.ref 38) :: (Value.type "Exception") :: (Value.type "BaseException") :: (Value.type "object") :: []),37,(S "PerlError"),Bool.true,[],((Value.ref 58) :: []),Bool.false,none,Bool.false⟩),(List.toArray ((some (Value.ref 22)) :: none :: (some (Value.str (S "PerlError") 196)) :: (some (Value.str (S "PerlError") 204)) :: (some (Value.builtin "Exception.__new__")) :: (some (Value.bool Bool.true)) :: []))⟩) ::
  ((nat_lit 39),⟨(Value.type "getset_descriptor"),none,(Data.fields (List.toArray ((Value.str (S "__weakref__") 218) :: (Value.ref 38) :: (Value.builtin "ExceptionGroup.__weakref__") :: Value.none :: []))),(List.toArray [])⟩) ::
  ((nat_lit 42),⟨(Value.type "tuple"),none,(Data.seq (List.toArray ((Value.ref 38) :: [])) 0),(List.toArray [])⟩) ::
  ((nat_lit 49),⟨(Value.type "tuple"),none,(Data.seq (List.toArray []) 0),(List.toArray [])⟩) ::
  ((nat_lit 51),⟨(Value.type "tuple"),none,(Data.seq (List.toArray ((Value.str (S "self") 240) :: (Value.str (S "value") 241) :: [])) 0),(List.toArray [])⟩) ::
  ((nat_lit 52),⟨(Value.type "tuple"),none,(Data.seq (List.toArray []) 0),(List.toArray [])⟩) ::
  ((nat_lit 54),⟨(Value.type "code"),none,(Data.fields (List.toArray ((Value.str (S "__init__") 237) :: (Value.str (S "Die.__init__") 238) :: (Value.str (S "/claim/cut.py") 239) :: (Value.int 12 0) :: (Value.int 2 0) :: (Value.int 0 0) :: (Value.int 0 0) :: (Value.int 3 0) :: (Value.ref 49) :: (Value.bool Bool.true) :: (Value.int 181 0) :: (Value.ref 50) :: Value.none :: (Value.ref 51) :: (Value.ref 52) :: (Value.ref 53) :: (Value.int 242 0) :: (Value.int 12 0) :: (Value.str (S "/claim/cut.py") 243) :: []))),(List.toArray [])⟩) ::
  ((nat_lit 55),⟨(Value.type "function"),none,(Data.func ⟨(S "__init__"),(S "Die.__init__"),p3_0,(FuncBody.stmts b3_0),s3_0,3,[],Value.none,Value.none,Value.none,(Value.str (S "perlcore.errors") 194),none,(Value.ref 54),Value.none,0⟩),(List.toArray [])⟩) ::
  ((nat_lit 56),⟨(Value.type "tuple"),none,(Data.seq (List.toArray ((Value.str (S "value") 245) :: [])) 0),(List.toArray [])⟩) ::
  ((nat_lit 57),⟨(Value.type "dict"),none,(Data.dict (List.toArray (⟨(H P (S "__module__")),(Value.str (S "__module__") 232),(Value.str (S "perlcore.errors") 194)⟩ :: ⟨(H P (S "__firstlineno__")),(Value.str (S "__firstlineno__") 236),(Value.int 10 235)⟩ :: ⟨(H P (S "__init__")),(Value.str (S "__init__") 244),(Value.ref 55)⟩ :: ⟨(H P (S "__static_attributes__")),(Value.str (S "__static_attributes__") 246),(Value.ref 56)⟩ :: ⟨(H P (S "__doc__")),(Value.str (S "__doc__") 247),Value.none⟩ :: [])) 2),(List.toArray [])⟩) ::
  ((nat_lit 58),⟨(Value.type "type"),none,(Data.cls ⟨(S "Die"),((Value.ref 38) :: []),((Value.ref 58) :: (Value.ref 38) :: (Value.type "Exception") :: (Value.type "BaseException") :: (Value.type "object") :: []),57,(S "Die"),Bool.true,[],[],Bool.false,none,Bool.false⟩),(List.toArray ((some (Value.ref 42)) :: none :: (some (Value.str (S "Die") 225)) :: (some (Value.str (S "Die") 233)) :: (some (Value.builtin "Exception.__new__")) :: (some (Value.bool Bool.true)) :: []))⟩) ::
  ((nat_lit 61),⟨(Value.type "tuple"),none,(Data.seq (List.toArray []) 0),(List.toArray [])⟩) ::
  ((nat_lit 63),⟨(Value.type "tuple"),none,(Data.seq (List.toArray ((Value.str (S "n") 257) :: (Value.str (S "text") 258) :: [])) 0),(List.toArray [])⟩) ::
  ((nat_lit 64),⟨(Value.type "tuple"),none,(Data.seq (List.toArray []) 0),(List.toArray [])⟩) ::
  ((nat_lit 66),⟨(Value.type "code"),none,(Data.fields (List.toArray ((Value.str (S "number_text") 254) :: (Value.str (S "number_text") 255) :: (Value.str (S "/claim/cut.py") 256) :: (Value.int 17 0) :: (Value.int 1 0) :: (Value.int 0 0) :: (Value.int 0 0) :: (Value.int 3 0) :: (Value.ref 61) :: (Value.bool Bool.true) :: (Value.int 181 0) :: (Value.ref 62) :: Value.none :: (Value.ref 63) :: (Value.ref 64) :: (Value.ref 65) :: (Value.int 259 0) :: (Value.int 17 0) :: (Value.str (S "/claim/cut.py") 260) :: []))),(List.toArray [])⟩) ::
  ((nat_lit 67),⟨(Value.type "function"),none,(Data.func ⟨(S "number_text"),(S "number_text"),p6,(FuncBody.stmts b6),s6,3,[],Value.none,Value.none,Value.none,(Value.str (S "perlcore.numbers") 250),none,(Value.ref 66),Value.none,0⟩),(List.toArray [])⟩) ::
  ((nat_lit 75),⟨(Value.type "tuple"),none,(Data.seq (List.toArray []) 0),(List.toArray [])⟩) ::
  ((nat_lit 77),⟨(Value.type "tuple"),none,(Data.seq (List.toArray ((Value.str (S "self") 281) :: (Value.str (S "number") 282) :: [])) 0),(List.toArray [])⟩) ::
  ((nat_lit 78),⟨(Value.type "tuple"),none,(Data.seq (List.toArray []) 0),(List.toArray [])⟩) ::
  ((nat_lit 80),⟨(Value.type "code"),none,(Data.fields (List.toArray ((Value.str (S "__init__") 278) :: (Value.str (S "Thing.__init__") 279) :: (Value.str (S "/claim/cut.py") 280) :: (Value.int 29 0) :: (Value.int 2 0) :: (Value.int 0 0) :: (Value.int 0 0) :: (Value.int 3 0) :: (Value.ref 75) :: (Value.bool Bool.true) :: (Value.int 181 0) :: (Value.ref 76) :: Value.none :: (Value.ref 77) :: (Value.ref 78) :: (Value.ref 79) :: (Value.int 283 0) :: (Value.int 29 0) :: (Value.str (S "/claim/cut.py") 284) :: []))),(List.toArray [])⟩) ::
  ((nat_lit 81),⟨(Value.type "function"),none,(Data.func ⟨(S "__init__"),(S "Thing.__init__"),p9_0,(FuncBody.stmts b9_0),s9_0,3,[],Value.none,Value.none,Value.none,(Value.str (S "perlcore.values") 262),none,(Value.ref 80),Value.none,0⟩),(List.toArray [])⟩) ::
  ((nat_lit 82),⟨(Value.type "tuple"),none,(Data.seq (List.toArray ((Value.str (S "blessed") 286) :: (Value.str (S "count") 287) :: (Value.str (S "is_destroyed") 288) :: (Value.str (S "is_freed") 289) :: (Value.str (S "number") 290) :: (Value.str (S "weak") 291) :: [])) 0),(List.toArray [])⟩) ::
  ((nat_lit 83),⟨(Value.type "dict"),none,(Data.dict (List.toArray (⟨(H P (S "__module__")),(Value.str (S "__module__") 273),(Value.str (S "perlcore.values") 262)⟩ :: ⟨(H P (S "__firstlineno__")),(Value.str (S "__firstlineno__") 277),(Value.int 27 276)⟩ :: ⟨(H P (S "__init__")),(Value.str (S "__init__") 285),(Value.ref 81)⟩ :: ⟨(H P (S "__static_attributes__")),(Value.str (S "__static_attributes__") 292),(Value.ref 82)⟩ :: ⟨(H P (S "__dict__")),(Value.str (S "__dict__") 294),(Value.ref 85)⟩ :: ⟨(H P (S "__weakref__")),(Value.str (S "__weakref__") 296),(Value.ref 86)⟩ :: ⟨(H P (S "__doc__")),(Value.str (S "__doc__") 297),Value.none⟩ :: [])) 4),(List.toArray [])⟩) ::
  ((nat_lit 84),⟨(Value.type "type"),none,(Data.cls ⟨(S "Thing"),((Value.type "object") :: []),((Value.ref 84) :: (Value.type "object") :: []),83,(S "Thing"),Bool.true,[],((Value.ref 105) :: (Value.ref 124) :: (Value.ref 143) :: (Value.ref 162) :: (Value.ref 181) :: []),Bool.false,none,Bool.false⟩),(List.toArray (none :: none :: (some (Value.str (S "Thing") 266)) :: (some (Value.str (S "Thing") 274)) :: (some (Value.builtin "object.__new__")) :: (some (Value.bool Bool.true)) :: []))⟩) ::
  ((nat_lit 85),⟨(Value.type "getset_descriptor"),none,(Data.fields (List.toArray ((Value.str (S "__dict__") 293) :: (Value.ref 84) :: (Value.builtin "function.__dict__") :: (Value.builtin "function.__dict__#set") :: []))),(List.toArray [])⟩) ::
  ((nat_lit 86),⟨(Value.type "getset_descriptor"),none,(Data.fields (List.toArray ((Value.str (S "__weakref__") 295) :: (Value.ref 84) :: (Value.builtin "ExceptionGroup.__weakref__") :: Value.none :: []))),(List.toArray [])⟩) ::
  ((nat_lit 89),⟨(Value.type "tuple"),none,(Data.seq (List.toArray ((Value.ref 84) :: [])) 0),(List.toArray [])⟩) ::
  ((nat_lit 96),⟨(Value.type "tuple"),none,(Data.seq (List.toArray []) 0),(List.toArray [])⟩) ::
  ((nat_lit 98),⟨(Value.type "tuple"),none,(Data.seq (List.toArray ((Value.str (S "self") 315) :: (Value.str (S "number") 316) :: (Value.str (S "value") 317) :: [])) 0),(List.toArray [])⟩) ::
  ((nat_lit 99),⟨(Value.type "tuple"),none,(Data.seq (List.toArray []) 0),(List.toArray [])⟩) ::
  ((nat_lit 101),⟨(Value.type "code"),none,(Data.fields (List.toArray ((Value.str (S "__init__") 312) :: (Value.str (S "Scalar.__init__") 313) :: (Value.str (S "/claim/cut.py") 314) :: (Value.int 38 0) :: (Value.int 3 0) :: (Value.int 0 0) :: (Value.int 0 0) :: (Value.int 3 0) :: (Value.ref 96) :: (Value.bool Bool.true) :: (Value.int 181 0) :: (Value.ref 97) :: Value.none :: (Value.ref 98) :: (Value.ref 99) :: (Value.ref 100) :: (Value.int 318 0) :: (Value.int 38 0) :: (Value.str (S "/claim/cut.py") 319) :: []))),(List.toArray [])⟩) ::
  ((nat_lit 102),⟨(Value.type "function"),none,(Data.func ⟨(S "__init__"),(S "Scalar.__init__"),p10_0,(FuncBody.stmts b10_0),s10_0,3,[],Value.none,Value.none,Value.none,(Value.str (S "perlcore.values") 262),none,(Value.ref 101),Value.none,0⟩),(List.toArray [])⟩) ::
  ((nat_lit 103),⟨(Value.type "tuple"),none,(Data.seq (List.toArray ((Value.str (S "magic") 321) :: (Value.str (S "value") 322) :: [])) 0),(List.toArray [])⟩) ::
  ((nat_lit 104),⟨(Value.type "dict"),none,(Data.dict (List.toArray (⟨(H P (S "__module__")),(Value.str (S "__module__") 307),(Value.str (S "perlcore.values") 262)⟩ :: ⟨(H P (S "__firstlineno__")),(Value.str (S "__firstlineno__") 311),(Value.int 36 310)⟩ :: ⟨(H P (S "__init__")),(Value.str (S "__init__") 320),(Value.ref 102)⟩ :: ⟨(H P (S "__static_attributes__")),(Value.str (S "__static_attributes__") 323),(Value.ref 103)⟩ :: ⟨(H P (S "__doc__")),(Value.str (S "__doc__") 324),Value.none⟩ :: [])) 2),(List.toArray [])⟩) ::
  ((nat_lit 105),⟨(Value.type "type"),none,(Data.cls ⟨(S "Scalar"),((Value.ref 84) :: []),((Value.ref 105) :: (Value.ref 84) :: (Value.type "object") :: []),104,(S "Scalar"),Bool.true,[],[],Bool.false,none,Bool.false⟩),(List.toArray ((some (Value.ref 89)) :: none :: (some (Value.str (S "Scalar") 300)) :: (some (Value.str (S "Scalar") 308)) :: (some (Value.builtin "object.__new__")) :: (some (Value.bool Bool.true)) :: []))⟩) ::
  ((nat_lit 108),⟨(Value.type "tuple"),none,(Data.seq (List.toArray ((Value.ref 84) :: [])) 0),(List.toArray [])⟩) ::
  ((nat_lit 115),⟨(Value.type "tuple"),none,(Data.seq (List.toArray []) 0),(List.toArray [])⟩) ::
  ((nat_lit 117),⟨(Value.type "tuple"),none,(Data.seq (List.toArray ((Value.str (S "self") 342) :: (Value.str (S "number") 343) :: [])) 0),(List.toArray [])⟩) ::
  ((nat_lit 118),⟨(Value.type "tuple"),none,(Data.seq (List.toArray []) 0),(List.toArray [])⟩) ::
  ((nat_lit 120),⟨(Value.type "code"),none,(Data.fields (List.toArray ((Value.str (S "__init__") 339) :: (Value.str (S "Array.__init__") 340) :: (Value.str (S "/claim/cut.py") 341) :: (Value.int 44 0) :: (Value.int 2 0) :: (Value.int 0 0) :: (Value.int 0 0) :: (Value.int 3 0) :: (Value.ref 115) :: (Value.bool Bool.true) :: (Value.int 181 0) :: (Value.ref 116) :: Value.none :: (Value.ref 117) :: (Value.ref 118) :: (Value.ref 119) :: (Value.int 344 0) :: (Value.int 44 0) :: (Value.str (S "/claim/cut.py") 345) :: []))),(List.toArray [])⟩) ::
  ((nat_lit 121),⟨(Value.type "function"),none,(Data.func ⟨(S "__init__"),(S "Array.__init__"),p11_0,(FuncBody.stmts b11_0),s11_0,3,[],Value.none,Value.none,Value.none,(Value.str (S "perlcore.values") 262),none,(Value.ref 120),Value.none,0⟩),(List.toArray [])⟩) ::
  ((nat_lit 122),⟨(Value.type "tuple"),none,(Data.seq (List.toArray ((Value.str (S "items") 347) :: (Value.str (S "tied") 348) :: [])) 0),(List.toArray [])⟩) ::
  ((nat_lit 123),⟨(Value.type "dict"),none,(Data.dict (List.toArray (⟨(H P (S "__module__")),(Value.str (S "__module__") 334),(Value.str (S "perlcore.values") 262)⟩ :: ⟨(H P (S "__firstlineno__")),(Value.str (S "__firstlineno__") 338),(Value.int 42 337)⟩ :: ⟨(H P (S "__init__")),(Value.str (S "__init__") 346),(Value.ref 121)⟩ :: ⟨(H P (S "__static_attributes__")),(Value.str (S "__static_attributes__") 349),(Value.ref 122)⟩ :: ⟨(H P (S "__doc__")),(Value.str (S "__doc__") 350),Value.none⟩ :: [])) 2),(List.toArray [])⟩) ::
  ((nat_lit 124),⟨(Value.type "type"),none,(Data.cls ⟨(S "Array"),((Value.ref 84) :: []),((Value.ref 124) :: (Value.ref 84) :: (Value.type "object") :: []),123,(S "Array"),Bool.true,[],[],Bool.false,none,Bool.false⟩),(List.toArray ((some (Value.ref 108)) :: none :: (some (Value.str (S "Array") 327)) :: (some (Value.str (S "Array") 335)) :: (some (Value.builtin "object.__new__")) :: (some (Value.bool Bool.true)) :: []))⟩) ::
  ((nat_lit 127),⟨(Value.type "tuple"),none,(Data.seq (List.toArray ((Value.ref 84) :: [])) 0),(List.toArray [])⟩) ::
  ((nat_lit 134),⟨(Value.type "tuple"),none,(Data.seq (List.toArray []) 0),(List.toArray [])⟩) ::
  ((nat_lit 136),⟨(Value.type "tuple"),none,(Data.seq (List.toArray ((Value.str (S "self") 368) :: (Value.str (S "number") 369) :: [])) 0),(List.toArray [])⟩) ::
  ((nat_lit 137),⟨(Value.type "tuple"),none,(Data.seq (List.toArray []) 0),(List.toArray [])⟩) ::
  ((nat_lit 139),⟨(Value.type "code"),none,(Data.fields (List.toArray ((Value.str (S "__init__") 365) :: (Value.str (S "Hash.__init__") 366) :: (Value.str (S "/claim/cut.py") 367) :: (Value.int 50 0) :: (Value.int 2 0) :: (Value.int 0 0) :: (Value.int 0 0) :: (Value.int 3 0) :: (Value.ref 134) :: (Value.bool Bool.true) :: (Value.int 181 0) :: (Value.ref 135) :: Value.none :: (Value.ref 136) :: (Value.ref 137) :: (Value.ref 138) :: (Value.int 370 0) :: (Value.int 50 0) :: (Value.str (S "/claim/cut.py") 371) :: []))),(List.toArray [])⟩) ::
  ((nat_lit 140),⟨(Value.type "function"),none,(Data.func ⟨(S "__init__"),(S "Hash.__init__"),p12_0,(FuncBody.stmts b12_0),s12_0,3,[],Value.none,Value.none,Value.none,(Value.str (S "perlcore.values") 262),none,(Value.ref 139),Value.none,0⟩),(List.toArray [])⟩) ::
  ((nat_lit 141),⟨(Value.type "tuple"),none,(Data.seq (List.toArray ((Value.str (S "at") 373) :: (Value.str (S "table") 374) :: (Value.str (S "tied") 375) :: [])) 0),(List.toArray [])⟩) ::
  ((nat_lit 142),⟨(Value.type "dict"),none,(Data.dict (List.toArray (⟨(H P (S "__module__")),(Value.str (S "__module__") 360),(Value.str (S "perlcore.values") 262)⟩ :: ⟨(H P (S "__firstlineno__")),(Value.str (S "__firstlineno__") 364),(Value.int 48 363)⟩ :: ⟨(H P (S "__init__")),(Value.str (S "__init__") 372),(Value.ref 140)⟩ :: ⟨(H P (S "__static_attributes__")),(Value.str (S "__static_attributes__") 376),(Value.ref 141)⟩ :: ⟨(H P (S "__doc__")),(Value.str (S "__doc__") 377),Value.none⟩ :: [])) 2),(List.toArray [])⟩) ::
  ((nat_lit 143),⟨(Value.type "type"),none,(Data.cls ⟨(S "Hash"),((Value.ref 84) :: []),((Value.ref 143) :: (Value.ref 84) :: (Value.type "object") :: []),142,(S "Hash"),Bool.true,[],[],Bool.false,none,Bool.false⟩),(List.toArray ((some (Value.ref 127)) :: none :: (some (Value.str (S "Hash") 353)) :: (some (Value.str (S "Hash") 361)) :: (some (Value.builtin "object.__new__")) :: (some (Value.bool Bool.true)) :: []))⟩) ::
  ((nat_lit 146),⟨(Value.type "tuple"),none,(Data.seq (List.toArray ((Value.ref 84) :: [])) 0),(List.toArray [])⟩) ::
  ((nat_lit 153),⟨(Value.type "tuple"),none,(Data.seq (List.toArray []) 0),(List.toArray [])⟩) ::
  ((nat_lit 155),⟨(Value.type "tuple"),none,(Data.seq (List.toArray ((Value.str (S "self") 395) :: (Value.str (S "number") 396) :: (Value.str (S "sub") 397) :: (Value.str (S "captures") 398) :: [])) 0),(List.toArray [])⟩) ::
  ((nat_lit 156),⟨(Value.type "tuple"),none,(Data.seq (List.toArray []) 0),(List.toArray [])⟩) ::
  ((nat_lit 158),⟨(Value.type "code"),none,(Data.fields (List.toArray ((Value.str (S "__init__") 392) :: (Value.str (S "Code.__init__") 393) :: (Value.str (S "/claim/cut.py") 394) :: (Value.int 57 0) :: (Value.int 4 0) :: (Value.int 0 0) :: (Value.int 0 0) :: (Value.int 3 0) :: (Value.ref 153) :: (Value.bool Bool.true) :: (Value.int 181 0) :: (Value.ref 154) :: Value.none :: (Value.ref 155) :: (Value.ref 156) :: (Value.ref 157) :: (Value.int 399 0) :: (Value.int 57 0) :: (Value.str (S "/claim/cut.py") 400) :: []))),(List.toArray [])⟩) ::
  ((nat_lit 159),⟨(Value.type "function"),none,(Data.func ⟨(S "__init__"),(S "Code.__init__"),p13_0,(FuncBody.stmts b13_0),s13_0,3,[],Value.none,Value.none,Value.none,(Value.str (S "perlcore.values") 262),none,(Value.ref 158),Value.none,0⟩),(List.toArray [])⟩) ::
  ((nat_lit 160),⟨(Value.type "tuple"),none,(Data.seq (List.toArray ((Value.str (S "builtin") 402) :: (Value.str (S "captures") 403) :: (Value.str (S "package") 404) :: (Value.str (S "sub") 405) :: [])) 0),(List.toArray [])⟩) ::
  ((nat_lit 161),⟨(Value.type "dict"),none,(Data.dict (List.toArray (⟨(H P (S "__module__")),(Value.str (S "__module__") 387),(Value.str (S "perlcore.values") 262)⟩ :: ⟨(H P (S "__firstlineno__")),(Value.str (S "__firstlineno__") 391),(Value.int 55 390)⟩ :: ⟨(H P (S "__init__")),(Value.str (S "__init__") 401),(Value.ref 159)⟩ :: ⟨(H P (S "__static_attributes__")),(Value.str (S "__static_attributes__") 406),(Value.ref 160)⟩ :: ⟨(H P (S "__doc__")),(Value.str (S "__doc__") 407),Value.none⟩ :: [])) 2),(List.toArray [])⟩) ::
  ((nat_lit 162),⟨(Value.type "type"),none,(Data.cls ⟨(S "Code"),((Value.ref 84) :: []),((Value.ref 162) :: (Value.ref 84) :: (Value.type "object") :: []),161,(S "Code"),Bool.true,[],[],Bool.false,none,Bool.false⟩),(List.toArray ((some (Value.ref 146)) :: none :: (some (Value.str (S "Code") 380)) :: (some (Value.str (S "Code") 388)) :: (some (Value.builtin "object.__new__")) :: (some (Value.bool Bool.true)) :: []))⟩) ::
  ((nat_lit 165),⟨(Value.type "tuple"),none,(Data.seq (List.toArray ((Value.ref 84) :: [])) 0),(List.toArray [])⟩) ::
  ((nat_lit 172),⟨(Value.type "tuple"),none,(Data.seq (List.toArray []) 0),(List.toArray [])⟩) ::
  ((nat_lit 174),⟨(Value.type "tuple"),none,(Data.seq (List.toArray ((Value.str (S "self") 425) :: (Value.str (S "number") 426) :: (Value.str (S "name") 427) :: [])) 0),(List.toArray [])⟩) ::
  ((nat_lit 175),⟨(Value.type "tuple"),none,(Data.seq (List.toArray []) 0),(List.toArray [])⟩) ::
  ((nat_lit 177),⟨(Value.type "code"),none,(Data.fields (List.toArray ((Value.str (S "__init__") 422) :: (Value.str (S "Glob.__init__") 423) :: (Value.str (S "/claim/cut.py") 424) :: (Value.int 65 0) :: (Value.int 3 0) :: (Value.int 0 0) :: (Value.int 0 0) :: (Value.int 3 0) :: (Value.ref 172) :: (Value.bool Bool.true) :: (Value.int 181 0) :: (Value.ref 173) :: Value.none :: (Value.ref 174) :: (Value.ref 175) :: (Value.ref 176) :: (Value.int 428 0) :: (Value.int 65 0) :: (Value.str (S "/claim/cut.py") 429) :: []))),(List.toArray [])⟩) ::
  ((nat_lit 178),⟨(Value.type "function"),none,(Data.func ⟨(S "__init__"),(S "Glob.__init__"),p14_0,(FuncBody.stmts b14_0),s14_0,3,[],Value.none,Value.none,Value.none,(Value.str (S "perlcore.values") 262),none,(Value.ref 177),Value.none,0⟩),(List.toArray [])⟩) ::
  ((nat_lit 179),⟨(Value.type "tuple"),none,(Data.seq (List.toArray ((Value.str (S "array") 431) :: (Value.str (S "code") 432) :: (Value.str (S "hash") 433) :: (Value.str (S "name") 434) :: (Value.str (S "scalar") 435) :: [])) 0),(List.toArray [])⟩) ::
  ((nat_lit 180),⟨(Value.type "dict"),none,(Data.dict (List.toArray (⟨(H P (S "__module__")),(Value.str (S "__module__") 417),(Value.str (S "perlcore.values") 262)⟩ :: ⟨(H P (S "__firstlineno__")),(Value.str (S "__firstlineno__") 421),(Value.int 63 420)⟩ :: ⟨(H P (S "__init__")),(Value.str (S "__init__") 430),(Value.ref 178)⟩ :: ⟨(H P (S "__static_attributes__")),(Value.str (S "__static_attributes__") 436),(Value.ref 179)⟩ :: ⟨(H P (S "__doc__")),(Value.str (S "__doc__") 437),Value.none⟩ :: [])) 2),(List.toArray [])⟩) ::
  ((nat_lit 181),⟨(Value.type "type"),none,(Data.cls ⟨(S "Glob"),((Value.ref 84) :: []),((Value.ref 181) :: (Value.ref 84) :: (Value.type "object") :: []),180,(S "Glob"),Bool.true,[],[],Bool.false,none,Bool.false⟩),(List.toArray ((some (Value.ref 165)) :: none :: (some (Value.str (S "Glob") 410)) :: (some (Value.str (S "Glob") 418)) :: (some (Value.builtin "object.__new__")) :: (some (Value.bool Bool.true)) :: []))⟩) ::
  ((nat_lit 191),⟨(Value.type "tuple"),none,(Data.seq (List.toArray ((Value.bool Bool.false) :: [])) 0),(List.toArray [])⟩) ::
  ((nat_lit 192),⟨(Value.type "tuple"),none,(Data.seq (List.toArray []) 0),(List.toArray [])⟩) ::
  ((nat_lit 194),⟨(Value.type "tuple"),none,(Data.seq (List.toArray ((Value.str (S "self") 455) :: (Value.str (S "target") 456) :: (Value.str (S "is_weak") 457) :: [])) 0),(List.toArray [])⟩) ::
  ((nat_lit 195),⟨(Value.type "tuple"),none,(Data.seq (List.toArray []) 0),(List.toArray [])⟩) ::
  ((nat_lit 197),⟨(Value.type "code"),none,(Data.fields (List.toArray ((Value.str (S "__init__") 452) :: (Value.str (S "Ref.__init__") 453) :: (Value.str (S "/claim/cut.py") 454) :: (Value.int 74 0) :: (Value.int 3 0) :: (Value.int 0 0) :: (Value.int 0 0) :: (Value.int 3 0) :: (Value.ref 192) :: (Value.bool Bool.true) :: (Value.int 181 0) :: (Value.ref 193) :: Value.none :: (Value.ref 194) :: (Value.ref 195) :: (Value.ref 196) :: (Value.int 458 0) :: (Value.int 74 0) :: (Value.str (S "/claim/cut.py") 459) :: []))),(List.toArray [])⟩) ::
  ((nat_lit 198),⟨(Value.type "function"),none,(Data.func ⟨(S "__init__"),(S "Ref.__init__"),p15_0,(FuncBody.stmts b15_0),s15_0,3,[],(Value.ref 191),Value.none,Value.none,(Value.str (S "perlcore.values") 262),none,(Value.ref 197),Value.none,0⟩),(List.toArray [])⟩) ::
  ((nat_lit 199),⟨(Value.type "tuple"),none,(Data.seq (List.toArray ((Value.str (S "is_weak") 461) :: (Value.str (S "target") 462) :: [])) 0),(List.toArray [])⟩) ::
  ((nat_lit 200),⟨(Value.type "dict"),none,(Data.dict (List.toArray (⟨(H P (S "__module__")),(Value.str (S "__module__") 447),(Value.str (S "perlcore.values") 262)⟩ :: ⟨(H P (S "__firstlineno__")),(Value.str (S "__firstlineno__") 451),(Value.int 72 450)⟩ :: ⟨(H P (S "__init__")),(Value.str (S "__init__") 460),(Value.ref 198)⟩ :: ⟨(H P (S "__static_attributes__")),(Value.str (S "__static_attributes__") 463),(Value.ref 199)⟩ :: ⟨(H P (S "__dict__")),(Value.str (S "__dict__") 465),(Value.ref 202)⟩ :: ⟨(H P (S "__weakref__")),(Value.str (S "__weakref__") 467),(Value.ref 203)⟩ :: ⟨(H P (S "__doc__")),(Value.str (S "__doc__") 468),Value.none⟩ :: [])) 4),(List.toArray [])⟩) ::
  ((nat_lit 201),⟨(Value.type "type"),none,(Data.cls ⟨(S "Ref"),((Value.type "object") :: []),((Value.ref 201) :: (Value.type "object") :: []),200,(S "Ref"),Bool.true,[],[],Bool.false,none,Bool.false⟩),(List.toArray (none :: none :: (some (Value.str (S "Ref") 440)) :: (some (Value.str (S "Ref") 448)) :: (some (Value.builtin "object.__new__")) :: (some (Value.bool Bool.true)) :: []))⟩) ::
  ((nat_lit 202),⟨(Value.type "getset_descriptor"),none,(Data.fields (List.toArray ((Value.str (S "__dict__") 464) :: (Value.ref 201) :: (Value.builtin "function.__dict__") :: (Value.builtin "function.__dict__#set") :: []))),(List.toArray [])⟩) ::
  ((nat_lit 203),⟨(Value.type "getset_descriptor"),none,(Data.fields (List.toArray ((Value.str (S "__weakref__") 466) :: (Value.ref 201) :: (Value.builtin "ExceptionGroup.__weakref__") :: Value.none :: []))),(List.toArray [])⟩) ::
  ((nat_lit 213),⟨(Value.type "tuple"),none,(Data.seq (List.toArray []) 0),(List.toArray [])⟩) ::
  ((nat_lit 215),⟨(Value.type "tuple"),none,(Data.seq (List.toArray ((Value.str (S "self") 486) :: (Value.str (S "limits") 487) :: [])) 0),(List.toArray [])⟩) ::
  ((nat_lit 216),⟨(Value.type "tuple"),none,(Data.seq (List.toArray []) 0),(List.toArray [])⟩) ::
  ((nat_lit 218),⟨(Value.type "code"),none,(Data.fields (List.toArray ((Value.str (S "__init__") 483) :: (Value.str (S "Heap.__init__") 484) :: (Value.str (S "/claim/cut.py") 485) :: (Value.int 79 0) :: (Value.int 2 0) :: (Value.int 0 0) :: (Value.int 0 0) :: (Value.int 3 0) :: (Value.ref 213) :: (Value.bool Bool.true) :: (Value.int 181 0) :: (Value.ref 214) :: Value.none :: (Value.ref 215) :: (Value.ref 216) :: (Value.ref 217) :: (Value.int 488 0) :: (Value.int 79 0) :: (Value.str (S "/claim/cut.py") 489) :: []))),(List.toArray [])⟩) ::
  ((nat_lit 219),⟨(Value.type "function"),none,(Data.func ⟨(S "__init__"),(S "Heap.__init__"),p16_0,(FuncBody.stmts b16_0),s16_0,3,[],Value.none,Value.none,Value.none,(Value.str (S "perlcore.values") 262),none,(Value.ref 218),Value.none,0⟩),(List.toArray [])⟩) ::
  ((nat_lit 220),⟨(Value.type "tuple"),none,(Data.seq (List.toArray []) 0),(List.toArray [])⟩) ::
  ((nat_lit 222),⟨(Value.type "tuple"),none,(Data.seq (List.toArray ((Value.str (S "self") 494) :: [])) 0),(List.toArray [])⟩) ::
  ((nat_lit 223),⟨(Value.type "tuple"),none,(Data.seq (List.toArray []) 0),(List.toArray [])⟩) ::
  ((nat_lit 225),⟨(Value.type "code"),none,(Data.fields (List.toArray ((Value.str (S "next_number") 491) :: (Value.str (S "Heap.next_number") 492) :: (Value.str (S "/claim/cut.py") 493) :: (Value.int 84 0) :: (Value.int 1 0) :: (Value.int 0 0) :: (Value.int 0 0) :: (Value.int 3 0) :: (Value.ref 220) :: (Value.bool Bool.true) :: (Value.int 181 0) :: (Value.ref 221) :: Value.none :: (Value.ref 222) :: (Value.ref 223) :: (Value.ref 224) :: (Value.int 495 0) :: (Value.int 84 0) :: (Value.str (S "/claim/cut.py") 496) :: []))),(List.toArray [])⟩) ::
  ((nat_lit 226),⟨(Value.type "function"),none,(Data.func ⟨(S "next_number"),(S "Heap.next_number"),p16_1,(FuncBody.stmts b16_1),s16_1,3,[],Value.none,Value.none,Value.none,(Value.str (S "perlcore.values") 262),none,(Value.ref 225),Value.none,0⟩),(List.toArray [])⟩) ::
  ((nat_lit 227),⟨(Value.type "tuple"),none,(Data.seq (List.toArray []) 0),(List.toArray [])⟩) ::
  ((nat_lit 229),⟨(Value.type "tuple"),none,(Data.seq (List.toArray ((Value.str (S "self") 501) :: (Value.str (S "value") 502) :: [])) 0),(List.toArray [])⟩) ::
  ((nat_lit 230),⟨(Value.type "tuple"),none,(Data.seq (List.toArray []) 0),(List.toArray [])⟩) ::
  ((nat_lit 232),⟨(Value.type "code"),none,(Data.fields (List.toArray ((Value.str (S "new_scalar") 498) :: (Value.str (S "Heap.new_scalar") 499) :: (Value.str (S "/claim/cut.py") 500) :: (Value.int 88 0) :: (Value.int 2 0) :: (Value.int 0 0) :: (Value.int 0 0) :: (Value.int 3 0) :: (Value.ref 227) :: (Value.bool Bool.true) :: (Value.int 181 0) :: (Value.ref 228) :: Value.none :: (Value.ref 229) :: (Value.ref 230) :: (Value.ref 231) :: (Value.int 503 0) :: (Value.int 88 0) :: (Value.str (S "/claim/cut.py") 504) :: []))),(List.toArray [])⟩) ::
  ((nat_lit 233),⟨(Value.type "function"),none,(Data.func ⟨(S "new_scalar"),(S "Heap.new_scalar"),p16_2,(FuncBody.stmts b16_2),s16_2,3,[],Value.none,Value.none,Value.none,(Value.str (S "perlcore.values") 262),none,(Value.ref 232),Value.none,0⟩),(List.toArray [])⟩) ::
  ((nat_lit 234),⟨(Value.type "tuple"),none,(Data.seq (List.toArray []) 0),(List.toArray [])⟩) ::
  ((nat_lit 236),⟨(Value.type "tuple"),none,(Data.seq (List.toArray ((Value.str (S "self") 509) :: [])) 0),(List.toArray [])⟩) ::
  ((nat_lit 237),⟨(Value.type "tuple"),none,(Data.seq (List.toArray []) 0),(List.toArray [])⟩) ::
  ((nat_lit 239),⟨(Value.type "code"),none,(Data.fields (List.toArray ((Value.str (S "new_array") 506) :: (Value.str (S "Heap.new_array") 507) :: (Value.str (S "/claim/cut.py") 508) :: (Value.int 91 0) :: (Value.int 1 0) :: (Value.int 0 0) :: (Value.int 0 0) :: (Value.int 3 0) :: (Value.ref 234) :: (Value.bool Bool.true) :: (Value.int 181 0) :: (Value.ref 235) :: Value.none :: (Value.ref 236) :: (Value.ref 237) :: (Value.ref 238) :: (Value.int 510 0) :: (Value.int 91 0) :: (Value.str (S "/claim/cut.py") 511) :: []))),(List.toArray [])⟩) ::
  ((nat_lit 240),⟨(Value.type "function"),none,(Data.func ⟨(S "new_array"),(S "Heap.new_array"),p16_3,(FuncBody.stmts b16_3),s16_3,3,[],Value.none,Value.none,Value.none,(Value.str (S "perlcore.values") 262),none,(Value.ref 239),Value.none,0⟩),(List.toArray [])⟩) ::
  ((nat_lit 241),⟨(Value.type "tuple"),none,(Data.seq (List.toArray []) 0),(List.toArray [])⟩) ::
  ((nat_lit 243),⟨(Value.type "tuple"),none,(Data.seq (List.toArray ((Value.str (S "self") 516) :: [])) 0),(List.toArray [])⟩) ::
  ((nat_lit 244),⟨(Value.type "tuple"),none,(Data.seq (List.toArray []) 0),(List.toArray [])⟩) ::
  ((nat_lit 246),⟨(Value.type "code"),none,(Data.fields (List.toArray ((Value.str (S "new_hash") 513) :: (Value.str (S "Heap.new_hash") 514) :: (Value.str (S "/claim/cut.py") 515) :: (Value.int 94 0) :: (Value.int 1 0) :: (Value.int 0 0) :: (Value.int 0 0) :: (Value.int 3 0) :: (Value.ref 241) :: (Value.bool Bool.true) :: (Value.int 181 0) :: (Value.ref 242) :: Value.none :: (Value.ref 243) :: (Value.ref 244) :: (Value.ref 245) :: (Value.int 517 0) :: (Value.int 94 0) :: (Value.str (S "/claim/cut.py") 518) :: []))),(List.toArray [])⟩) ::
  ((nat_lit 247),⟨(Value.type "function"),none,(Data.func ⟨(S "new_hash"),(S "Heap.new_hash"),p16_4,(FuncBody.stmts b16_4),s16_4,3,[],Value.none,Value.none,Value.none,(Value.str (S "perlcore.values") 262),none,(Value.ref 246),Value.none,0⟩),(List.toArray [])⟩) ::
  ((nat_lit 248),⟨(Value.type "tuple"),none,(Data.seq (List.toArray []) 0),(List.toArray [])⟩) ::
  ((nat_lit 250),⟨(Value.type "tuple"),none,(Data.seq (List.toArray ((Value.str (S "self") 523) :: (Value.str (S "sub") 524) :: (Value.str (S "captures") 525) :: [])) 0),(List.toArray [])⟩) ::
  ((nat_lit 251),⟨(Value.type "tuple"),none,(Data.seq (List.toArray []) 0),(List.toArray [])⟩) ::
  ((nat_lit 253),⟨(Value.type "code"),none,(Data.fields (List.toArray ((Value.str (S "new_code") 520) :: (Value.str (S "Heap.new_code") 521) :: (Value.str (S "/claim/cut.py") 522) :: (Value.int 97 0) :: (Value.int 3 0) :: (Value.int 0 0) :: (Value.int 0 0) :: (Value.int 3 0) :: (Value.ref 248) :: (Value.bool Bool.true) :: (Value.int 181 0) :: (Value.ref 249) :: Value.none :: (Value.ref 250) :: (Value.ref 251) :: (Value.ref 252) :: (Value.int 526 0) :: (Value.int 97 0) :: (Value.str (S "/claim/cut.py") 527) :: []))),(List.toArray [])⟩) ::
  ((nat_lit 254),⟨(Value.type "function"),none,(Data.func ⟨(S "new_code"),(S "Heap.new_code"),p16_5,(FuncBody.stmts b16_5),s16_5,3,[],Value.none,Value.none,Value.none,(Value.str (S "perlcore.values") 262),none,(Value.ref 253),Value.none,0⟩),(List.toArray [])⟩) ::
  ((nat_lit 255),⟨(Value.type "tuple"),none,(Data.seq (List.toArray []) 0),(List.toArray [])⟩) ::
  ((nat_lit 257),⟨(Value.type "tuple"),none,(Data.seq (List.toArray ((Value.str (S "self") 532) :: (Value.str (S "name") 533) :: [])) 0),(List.toArray [])⟩) ::
  ((nat_lit 258),⟨(Value.type "tuple"),none,(Data.seq (List.toArray []) 0),(List.toArray [])⟩) ::
  ((nat_lit 260),⟨(Value.type "code"),none,(Data.fields (List.toArray ((Value.str (S "new_glob") 529) :: (Value.str (S "Heap.new_glob") 530) :: (Value.str (S "/claim/cut.py") 531) :: (Value.int 100 0) :: (Value.int 2 0) :: (Value.int 0 0) :: (Value.int 0 0) :: (Value.int 3 0) :: (Value.ref 255) :: (Value.bool Bool.true) :: (Value.int 181 0) :: (Value.ref 256) :: Value.none :: (Value.ref 257) :: (Value.ref 258) :: (Value.ref 259) :: (Value.int 534 0) :: (Value.int 100 0) :: (Value.str (S "/claim/cut.py") 535) :: []))),(List.toArray [])⟩) ::
  ((nat_lit 261),⟨(Value.type "function"),none,(Data.func ⟨(S "new_glob"),(S "Heap.new_glob"),p16_6,(FuncBody.stmts b16_6),s16_6,3,[],Value.none,Value.none,Value.none,(Value.str (S "perlcore.values") 262),none,(Value.ref 260),Value.none,0⟩),(List.toArray [])⟩) ::
  ((nat_lit 262),⟨(Value.type "tuple"),none,(Data.seq (List.toArray ((Value.str (S "last") 537) :: (Value.str (S "limits") 538) :: (Value.str (S "zero") 539) :: [])) 0),(List.toArray [])⟩) ::
  ((nat_lit 263),⟨(Value.type "dict"),none,(Data.dict (List.toArray (⟨(H P (S "__module__")),(Value.str (S "__module__") 478),(Value.str (S "perlcore.values") 262)⟩ :: ⟨(H P (S "__firstlineno__")),(Value.str (S "__firstlineno__") 482),(Value.int 77 481)⟩ :: ⟨(H P (S "__init__")),(Value.str (S "__init__") 490),(Value.ref 219)⟩ :: ⟨(H P (S "next_number")),(Value.str (S "next_number") 497),(Value.ref 226)⟩ :: ⟨(H P (S "new_scalar")),(Value.str (S "new_scalar") 505),(Value.ref 233)⟩ :: ⟨(H P (S "new_array")),(Value.str (S "new_array") 512),(Value.ref 240)⟩ :: ⟨(H P (S "new_hash")),(Value.str (S "new_hash") 519),(Value.ref 247)⟩ :: ⟨(H P (S "new_code")),(Value.str (S "new_code") 528),(Value.ref 254)⟩ :: ⟨(H P (S "new_glob")),(Value.str (S "new_glob") 536),(Value.ref 261)⟩ :: ⟨(H P (S "__static_attributes__")),(Value.str (S "__static_attributes__") 540),(Value.ref 262)⟩ :: ⟨(H P (S "__dict__")),(Value.str (S "__dict__") 542),(Value.ref 265)⟩ :: ⟨(H P (S "__weakref__")),(Value.str (S "__weakref__") 544),(Value.ref 266)⟩ :: ⟨(H P (S "__doc__")),(Value.str (S "__doc__") 545),Value.none⟩ :: [])) 4),(List.toArray [])⟩) ::
  ((nat_lit 264),⟨(Value.type "type"),none,(Data.cls ⟨(S "Heap"),((Value.type "object") :: []),((Value.ref 264) :: (Value.type "object") :: []),263,(S "Heap"),Bool.true,[],[],Bool.false,none,Bool.false⟩),(List.toArray (none :: none :: (some (Value.str (S "Heap") 471)) :: (some (Value.str (S "Heap") 479)) :: (some (Value.builtin "object.__new__")) :: (some (Value.bool Bool.true)) :: []))⟩) ::
  ((nat_lit 265),⟨(Value.type "getset_descriptor"),none,(Data.fields (List.toArray ((Value.str (S "__dict__") 541) :: (Value.ref 264) :: (Value.builtin "function.__dict__") :: (Value.builtin "function.__dict__#set") :: []))),(List.toArray [])⟩) ::
  ((nat_lit 266),⟨(Value.type "getset_descriptor"),none,(Data.fields (List.toArray ((Value.str (S "__weakref__") 543) :: (Value.ref 264) :: (Value.builtin "ExceptionGroup.__weakref__") :: Value.none :: []))),(List.toArray [])⟩) ::
  ((nat_lit 269),⟨(Value.type "tuple"),none,(Data.seq (List.toArray []) 0),(List.toArray [])⟩) ::
  ((nat_lit 271),⟨(Value.type "tuple"),none,(Data.seq (List.toArray ((Value.str (S "thing") 551) :: [])) 0),(List.toArray [])⟩) ::
  ((nat_lit 272),⟨(Value.type "tuple"),none,(Data.seq (List.toArray []) 0),(List.toArray [])⟩) ::
  ((nat_lit 274),⟨(Value.type "code"),none,(Data.fields (List.toArray ((Value.str (S "thing_word") 548) :: (Value.str (S "thing_word") 549) :: (Value.str (S "/claim/cut.py") 550) :: (Value.int 102 0) :: (Value.int 1 0) :: (Value.int 0 0) :: (Value.int 0 0) :: (Value.int 3 0) :: (Value.ref 269) :: (Value.bool Bool.true) :: (Value.int 181 0) :: (Value.ref 270) :: Value.none :: (Value.ref 271) :: (Value.ref 272) :: (Value.ref 273) :: (Value.int 552 0) :: (Value.int 102 0) :: (Value.str (S "/claim/cut.py") 553) :: []))),(List.toArray [])⟩) ::
  ((nat_lit 275),⟨(Value.type "function"),none,(Data.func ⟨(S "thing_word"),(S "thing_word"),p17,(FuncBody.stmts b17),s17,3,[],Value.none,Value.none,Value.none,(Value.str (S "perlcore.values") 262),none,(Value.ref 274),Value.none,0⟩),(List.toArray [])⟩) ::
  ((nat_lit 276),⟨(Value.type "tuple"),none,(Data.seq (List.toArray []) 0),(List.toArray [])⟩) ::
  ((nat_lit 278),⟨(Value.type "tuple"),none,(Data.seq (List.toArray ((Value.str (S "number") 558) :: (Value.str (S "text") 559) :: [])) 0),(List.toArray [])⟩) ::
  ((nat_lit 279),⟨(Value.type "tuple"),none,(Data.seq (List.toArray []) 0),(List.toArray [])⟩) ::
  ((nat_lit 281),⟨(Value.type "code"),none,(Data.fields (List.toArray ((Value.str (S "hex_of") 555) :: (Value.str (S "hex_of") 556) :: (Value.str (S "/claim/cut.py") 557) :: (Value.int 114 0) :: (Value.int 1 0) :: (Value.int 0 0) :: (Value.int 0 0) :: (Value.int 3 0) :: (Value.ref 276) :: (Value.bool Bool.true) :: (Value.int 181 0) :: (Value.ref 277) :: Value.none :: (Value.ref 278) :: (Value.ref 279) :: (Value.ref 280) :: (Value.int 560 0) :: (Value.int 114 0) :: (Value.str (S "/claim/cut.py") 561) :: []))),(List.toArray [])⟩) ::
  ((nat_lit 282),⟨(Value.type "function"),none,(Data.func ⟨(S "hex_of"),(S "hex_of"),p18,(FuncBody.stmts b18),s18,3,[],Value.none,Value.none,Value.none,(Value.str (S "perlcore.values") 262),none,(Value.ref 281),Value.none,0⟩),(List.toArray [])⟩) ::
  ((nat_lit 283),⟨(Value.type "tuple"),none,(Data.seq (List.toArray []) 0),(List.toArray [])⟩) ::
  ((nat_lit 285),⟨(Value.type "tuple"),none,(Data.seq (List.toArray ((Value.str (S "ref") 566) :: (Value.str (S "text") 567) :: [])) 0),(List.toArray [])⟩) ::
  ((nat_lit 286),⟨(Value.type "tuple"),none,(Data.seq (List.toArray []) 0),(List.toArray [])⟩) ::
  ((nat_lit 288),⟨(Value.type "code"),none,(Data.fields (List.toArray ((Value.str (S "ref_text") 563) :: (Value.str (S "ref_text") 564) :: (Value.str (S "/claim/cut.py") 565) :: (Value.int 120 0) :: (Value.int 1 0) :: (Value.int 0 0) :: (Value.int 0 0) :: (Value.int 3 0) :: (Value.ref 283) :: (Value.bool Bool.true) :: (Value.int 181 0) :: (Value.ref 284) :: Value.none :: (Value.ref 285) :: (Value.ref 286) :: (Value.ref 287) :: (Value.int 568 0) :: (Value.int 120 0) :: (Value.str (S "/claim/cut.py") 569) :: []))),(List.toArray [])⟩) ::
  ((nat_lit 289),⟨(Value.type "function"),none,(Data.func ⟨(S "ref_text"),(S "ref_text"),p19,(FuncBody.stmts b19),s19,3,[],Value.none,Value.none,Value.none,(Value.str (S "perlcore.values") 262),none,(Value.ref 288),Value.none,0⟩),(List.toArray [])⟩) ::
  ((nat_lit 290),⟨(Value.type "tuple"),none,(Data.seq (List.toArray []) 0),(List.toArray [])⟩) ::
  ((nat_lit 292),⟨(Value.type "tuple"),none,(Data.seq (List.toArray ((Value.str (S "x") 576) :: [])) 0),(List.toArray [])⟩) ::
  ((nat_lit 293),⟨(Value.type "tuple"),none,(Data.seq (List.toArray []) 0),(List.toArray [])⟩) ::
  ((nat_lit 295),⟨(Value.type "code"),none,(Data.fields (List.toArray ((Value.str (S "value_of") 573) :: (Value.str (S "value_of") 574) :: (Value.str (S "/claim/cut.py") 575) :: (Value.int 126 0) :: (Value.int 1 0) :: (Value.int 0 0) :: (Value.int 0 0) :: (Value.int 3 0) :: (Value.ref 290) :: (Value.bool Bool.true) :: (Value.int 181 0) :: (Value.ref 291) :: Value.none :: (Value.ref 292) :: (Value.ref 293) :: (Value.ref 294) :: (Value.int 577 0) :: (Value.int 126 0) :: (Value.str (S "/claim/cut.py") 578) :: []))),(List.toArray [])⟩) ::
  ((nat_lit 296),⟨(Value.type "function"),none,(Data.func ⟨(S "value_of"),(S "value_of"),p21,(FuncBody.stmts b21),s21,3,[],Value.none,Value.none,Value.none,(Value.str (S "perlcore.convert") 571),none,(Value.ref 295),Value.none,0⟩),(List.toArray [])⟩) ::
  ((nat_lit 297),⟨(Value.type "tuple"),none,(Data.seq (List.toArray []) 0),(List.toArray [])⟩) ::
  ((nat_lit 299),⟨(Value.type "tuple"),none,(Data.seq (List.toArray ((Value.str (S "value") 583) :: [])) 0),(List.toArray [])⟩) ::
  ((nat_lit 300),⟨(Value.type "tuple"),none,(Data.seq (List.toArray []) 0),(List.toArray [])⟩) ::
  ((nat_lit 302),⟨(Value.type "code"),none,(Data.fields (List.toArray ((Value.str (S "to_text") 580) :: (Value.str (S "to_text") 581) :: (Value.str (S "/claim/cut.py") 582) :: (Value.int 132 0) :: (Value.int 1 0) :: (Value.int 0 0) :: (Value.int 0 0) :: (Value.int 3 0) :: (Value.ref 297) :: (Value.bool Bool.true) :: (Value.int 181 0) :: (Value.ref 298) :: Value.none :: (Value.ref 299) :: (Value.ref 300) :: (Value.ref 301) :: (Value.int 584 0) :: (Value.int 132 0) :: (Value.str (S "/claim/cut.py") 585) :: []))),(List.toArray [])⟩) ::
  ((nat_lit 303),⟨(Value.type "function"),none,(Data.func ⟨(S "to_text"),(S "to_text"),p22,(FuncBody.stmts b22),s22,3,[],Value.none,Value.none,Value.none,(Value.str (S "perlcore.convert") 571),none,(Value.ref 302),Value.none,0⟩),(List.toArray [])⟩) ::
  ((nat_lit 304),⟨(Value.type "tuple"),none,(Data.seq (List.toArray []) 0),(List.toArray [])⟩) ::
  ((nat_lit 306),⟨(Value.type "tuple"),none,(Data.seq (List.toArray ((Value.str (S "x") 590) :: (Value.str (S "y") 591) :: (Value.str (S "limits") 592) :: (Value.str (S "text") 593) :: [])) 0),(List.toArray [])⟩) ::
  ((nat_lit 307),⟨(Value.type "tuple"),none,(Data.seq (List.toArray []) 0),(List.toArray [])⟩) ::
  ((nat_lit 309),⟨(Value.type "code"),none,(Data.fields (List.toArray ((Value.str (S "concat_values") 587) :: (Value.str (S "concat_values") 588) :: (Value.str (S "/claim/cut.py") 589) :: (Value.int 140 0) :: (Value.int 3 0) :: (Value.int 0 0) :: (Value.int 0 0) :: (Value.int 3 0) :: (Value.ref 304) :: (Value.bool Bool.true) :: (Value.int 181 0) :: (Value.ref 305) :: Value.none :: (Value.ref 306) :: (Value.ref 307) :: (Value.ref 308) :: (Value.int 594 0) :: (Value.int 140 0) :: (Value.str (S "/claim/cut.py") 595) :: []))),(List.toArray [])⟩) ::
  ((nat_lit 310),⟨(Value.type "function"),none,(Data.func ⟨(S "concat_values"),(S "concat_values"),p23,(FuncBody.stmts b23),s23,3,[],Value.none,Value.none,Value.none,(Value.str (S "perlcore.convert") 571),none,(Value.ref 309),Value.none,0⟩),(List.toArray [])⟩) ::
  ((nat_lit 311),⟨(Value.type "tuple"),none,(Data.seq (List.toArray []) 0),(List.toArray [])⟩) ::
  ((nat_lit 313),⟨(Value.type "tuple"),none,(Data.seq (List.toArray ((Value.str (S "between") 602) :: (Value.str (S "texts") 603) :: (Value.str (S "limits") 604) :: (Value.str (S "size") 605) :: (Value.str (S "text") 606) :: [])) 0),(List.toArray [])⟩) ::
  ((nat_lit 314),⟨(Value.type "tuple"),none,(Data.seq (List.toArray []) 0),(List.toArray [])⟩) ::
  ((nat_lit 316),⟨(Value.type "code"),none,(Data.fields (List.toArray ((Value.str (S "join_texts") 599) :: (Value.str (S "join_texts") 600) :: (Value.str (S "/claim/cut.py") 601) :: (Value.int 146 0) :: (Value.int 3 0) :: (Value.int 0 0) :: (Value.int 0 0) :: (Value.int 3 0) :: (Value.ref 311) :: (Value.bool Bool.true) :: (Value.int 181 0) :: (Value.ref 312) :: Value.none :: (Value.ref 313) :: (Value.ref 314) :: (Value.ref 315) :: (Value.int 607 0) :: (Value.int 146 0) :: (Value.str (S "/claim/cut.py") 608) :: []))),(List.toArray [])⟩) ::
  ((nat_lit 317),⟨(Value.type "function"),none,(Data.func ⟨(S "join_texts"),(S "join_texts"),p25,(FuncBody.stmts b25),s25,3,[],Value.none,Value.none,Value.none,(Value.str (S "perlcore.textops") 597),none,(Value.ref 316),Value.none,0⟩),(List.toArray [])⟩) ::
  ((nat_lit 318),⟨(Value.type "tuple"),none,(Data.seq (List.toArray []) 0),(List.toArray [])⟩) ::
  ((nat_lit 320),⟨(Value.type "tuple"),none,(Data.seq (List.toArray ((Value.str (S "run") 619) :: (Value.str (S "row") 620) :: (Value.str (S "text") 621) :: [])) 0),(List.toArray [])⟩) ::
  ((nat_lit 321),⟨(Value.type "tuple"),none,(Data.seq (List.toArray []) 0),(List.toArray [])⟩) ::
  ((nat_lit 323),⟨(Value.type "code"),none,(Data.fields (List.toArray ((Value.str (S "put_text") 616) :: (Value.str (S "put_text") 617) :: (Value.str (S "/claim/cut.py") 618) :: (Value.int 156 0) :: (Value.int 3 0) :: (Value.int 0 0) :: (Value.int 0 0) :: (Value.int 3 0) :: (Value.ref 318) :: (Value.bool Bool.true) :: (Value.int 181 0) :: (Value.ref 319) :: Value.none :: (Value.ref 320) :: (Value.ref 321) :: (Value.ref 322) :: (Value.int 622 0) :: (Value.int 156 0) :: (Value.str (S "/claim/cut.py") 623) :: []))),(List.toArray [])⟩) ::
  ((nat_lit 324),⟨(Value.type "function"),none,(Data.func ⟨(S "put_text"),(S "put_text"),p29,(FuncBody.stmts b29),s29,3,[],Value.none,Value.none,Value.none,(Value.str (S "perlcore.runfuncs") 610),none,(Value.ref 323),Value.none,0⟩),(List.toArray [])⟩) ::
  ((nat_lit 325),⟨(Value.type "tuple"),none,(Data.seq (List.toArray []) 0),(List.toArray [])⟩) ::
  ((nat_lit 328),⟨(Value.type "code"),none,(Data.fields (List.toArray ((Value.str (S "print_func") 625) :: (Value.str (S "print_func") 626) :: (Value.str (S "/claim/cut.py") 627) :: (Value.int 162 0) :: (Value.int 3 0) :: (Value.int 0 0) :: (Value.int 0 0) :: (Value.int 3 0) :: (Value.ref 325) :: (Value.bool Bool.true) :: (Value.int 181 0) :: (Value.ref 326) :: Value.none :: Value.none :: Value.none :: (Value.ref 327) :: (Value.int 628 0) :: (Value.int 162 0) :: (Value.str (S "/claim/cut.py") 629) :: []))),(List.toArray [])⟩) ::
  ((nat_lit 329),⟨(Value.type "function"),none,(Data.func ⟨(S "print_func"),(S "print_func"),p30,(FuncBody.stmts b30),s30,3,[],Value.none,Value.none,Value.none,(Value.str (S "perlcore.runfuncs") 610),none,(Value.ref 328),Value.none,0⟩),(List.toArray [])⟩) ::
  ((nat_lit 337),⟨(Value.type "tuple"),none,(Data.seq (List.toArray []) 0),(List.toArray [])⟩) ::
  ((nat_lit 339),⟨(Value.type "tuple"),none,(Data.seq (List.toArray ((Value.str (S "self") 648) :: (Value.str (S "heap") 649) :: (Value.str (S "destroy") 650) :: [])) 0),(List.toArray [])⟩) ::
  ((nat_lit 340),⟨(Value.type "tuple"),none,(Data.seq (List.toArray []) 0),(List.toArray [])⟩) ::
  ((nat_lit 342),⟨(Value.type "code"),none,(Data.fields (List.toArray ((Value.str (S "__init__") 645) :: (Value.str (S "Counter.__init__") 646) :: (Value.str (S "/claim/cut.py") 647) :: (Value.int 170 0) :: (Value.int 3 0) :: (Value.int 0 0) :: (Value.int 0 0) :: (Value.int 3 0) :: (Value.ref 337) :: (Value.bool Bool.true) :: (Value.int 181 0) :: (Value.ref 338) :: Value.none :: (Value.ref 339) :: (Value.ref 340) :: (Value.ref 341) :: (Value.int 651 0) :: (Value.int 170 0) :: (Value.str (S "/claim/cut.py") 652) :: []))),(List.toArray [])⟩) ::
  ((nat_lit 343),⟨(Value.type "function"),none,(Data.func ⟨(S "__init__"),(S "Counter.__init__"),p32_0,(FuncBody.stmts b32_0),s32_0,3,[],Value.none,Value.none,Value.none,(Value.str (S "perlcore.counts") 631),none,(Value.ref 342),Value.none,0⟩),(List.toArray [])⟩) ::
  ((nat_lit 344),⟨(Value.type "tuple"),none,(Data.seq (List.toArray []) 0),(List.toArray [])⟩) ::
  ((nat_lit 346),⟨(Value.type "tuple"),none,(Data.seq (List.toArray ((Value.str (S "self") 657) :: (Value.str (S "thing") 658) :: [])) 0),(List.toArray [])⟩) ::
  ((nat_lit 347),⟨(Value.type "tuple"),none,(Data.seq (List.toArray []) 0),(List.toArray [])⟩) ::
  ((nat_lit 349),⟨(Value.type "code"),none,(Data.fields (List.toArray ((Value.str (S "hold") 654) :: (Value.str (S "Counter.hold") 655) :: (Value.str (S "/claim/cut.py") 656) :: (Value.int 176 0) :: (Value.int 2 0) :: (Value.int 0 0) :: (Value.int 0 0) :: (Value.int 3 0) :: (Value.ref 344) :: (Value.bool Bool.true) :: (Value.int 181 0) :: (Value.ref 345) :: Value.none :: (Value.ref 346) :: (Value.ref 347) :: (Value.ref 348) :: (Value.int 659 0) :: (Value.int 176 0) :: (Value.str (S "/claim/cut.py") 660) :: []))),(List.toArray [])⟩) ::
  ((nat_lit 350),⟨(Value.type "function"),none,(Data.func ⟨(S "hold"),(S "Counter.hold"),p32_1,(FuncBody.stmts b32_1),s32_1,3,[],Value.none,Value.none,Value.none,(Value.str (S "perlcore.counts") 631),none,(Value.ref 349),Value.none,0⟩),(List.toArray [])⟩) ::
  ((nat_lit 351),⟨(Value.type "tuple"),none,(Data.seq (List.toArray []) 0),(List.toArray [])⟩) ::
  ((nat_lit 353),⟨(Value.type "tuple"),none,(Data.seq (List.toArray ((Value.str (S "self") 665) :: (Value.str (S "thing") 666) :: [])) 0),(List.toArray [])⟩) ::
  ((nat_lit 354),⟨(Value.type "tuple"),none,(Data.seq (List.toArray []) 0),(List.toArray [])⟩) ::
  ((nat_lit 356),⟨(Value.type "code"),none,(Data.fields (List.toArray ((Value.str (S "let_go") 662) :: (Value.str (S "Counter.let_go") 663) :: (Value.str (S "/claim/cut.py") 664) :: (Value.int 179 0) :: (Value.int 2 0) :: (Value.int 0 0) :: (Value.int 0 0) :: (Value.int 3 0) :: (Value.ref 351) :: (Value.bool Bool.true) :: (Value.int 181 0) :: (Value.ref 352) :: Value.none :: (Value.ref 353) :: (Value.ref 354) :: (Value.ref 355) :: (Value.int 667 0) :: (Value.int 179 0) :: (Value.str (S "/claim/cut.py") 668) :: []))),(List.toArray [])⟩) ::
  ((nat_lit 357),⟨(Value.type "function"),none,(Data.func ⟨(S "let_go"),(S "Counter.let_go"),p32_2,(FuncBody.stmts b32_2),s32_2,3,[],Value.none,Value.none,Value.none,(Value.str (S "perlcore.counts") 631),none,(Value.ref 356),Value.none,0⟩),(List.toArray [])⟩) ::
  ((nat_lit 358),⟨(Value.type "tuple"),none,(Data.seq (List.toArray []) 0),(List.toArray [])⟩) ::
  ((nat_lit 360),⟨(Value.type "tuple"),none,(Data.seq (List.toArray ((Value.str (S "self") 673) :: (Value.str (S "thing") 674) :: [])) 0),(List.toArray [])⟩) ::
  ((nat_lit 361),⟨(Value.type "tuple"),none,(Data.seq (List.toArray []) 0),(List.toArray [])⟩) ::
  ((nat_lit 363),⟨(Value.type "code"),none,(Data.fields (List.toArray ((Value.str (S "note") 670) :: (Value.str (S "Counter.note") 671) :: (Value.str (S "/claim/cut.py") 672) :: (Value.int 184 0) :: (Value.int 2 0) :: (Value.int 0 0) :: (Value.int 0 0) :: (Value.int 3 0) :: (Value.ref 358) :: (Value.bool Bool.true) :: (Value.int 181 0) :: (Value.ref 359) :: Value.none :: (Value.ref 360) :: (Value.ref 361) :: (Value.ref 362) :: (Value.int 675 0) :: (Value.int 184 0) :: (Value.str (S "/claim/cut.py") 676) :: []))),(List.toArray [])⟩) ::
  ((nat_lit 364),⟨(Value.type "function"),none,(Data.func ⟨(S "note"),(S "Counter.note"),p32_3,(FuncBody.stmts b32_3),s32_3,3,[],Value.none,Value.none,Value.none,(Value.str (S "perlcore.counts") 631),none,(Value.ref 363),Value.none,0⟩),(List.toArray [])⟩) ::
  ((nat_lit 365),⟨(Value.type "tuple"),none,(Data.seq (List.toArray []) 0),(List.toArray [])⟩) ::
  ((nat_lit 367),⟨(Value.type "tuple"),none,(Data.seq (List.toArray ((Value.str (S "self") 681) :: (Value.str (S "value") 682) :: [])) 0),(List.toArray [])⟩) ::
  ((nat_lit 368),⟨(Value.type "tuple"),none,(Data.seq (List.toArray []) 0),(List.toArray [])⟩) ::
  ((nat_lit 370),⟨(Value.type "code"),none,(Data.fields (List.toArray ((Value.str (S "take") 678) :: (Value.str (S "Counter.take") 679) :: (Value.str (S "/claim/cut.py") 680) :: (Value.int 187 0) :: (Value.int 2 0) :: (Value.int 0 0) :: (Value.int 0 0) :: (Value.int 3 0) :: (Value.ref 365) :: (Value.bool Bool.true) :: (Value.int 181 0) :: (Value.ref 366) :: Value.none :: (Value.ref 367) :: (Value.ref 368) :: (Value.ref 369) :: (Value.int 683 0) :: (Value.int 187 0) :: (Value.str (S "/claim/cut.py") 684) :: []))),(List.toArray [])⟩) ::
  ((nat_lit 371),⟨(Value.type "function"),none,(Data.func ⟨(S "take"),(S "Counter.take"),p32_4,(FuncBody.stmts b32_4),s32_4,3,[],Value.none,Value.none,Value.none,(Value.str (S "perlcore.counts") 631),none,(Value.ref 370),Value.none,0⟩),(List.toArray [])⟩) ::
  ((nat_lit 372),⟨(Value.type "tuple"),none,(Data.seq (List.toArray []) 0),(List.toArray [])⟩) ::
  ((nat_lit 375),⟨(Value.type "code"),none,(Data.fields (List.toArray ((Value.str (S "put_off") 686) :: (Value.str (S "Counter.put_off") 687) :: (Value.str (S "/claim/cut.py") 688) :: (Value.int 195 0) :: (Value.int 3 0) :: (Value.int 0 0) :: (Value.int 0 0) :: (Value.int 3 0) :: (Value.ref 372) :: (Value.bool Bool.true) :: (Value.int 181 0) :: (Value.ref 373) :: Value.none :: Value.none :: Value.none :: (Value.ref 374) :: (Value.int 689 0) :: (Value.int 195 0) :: (Value.str (S "/claim/cut.py") 690) :: []))),(List.toArray [])⟩) ::
  ((nat_lit 376),⟨(Value.type "function"),none,(Data.func ⟨(S "put_off"),(S "Counter.put_off"),p32_5,(FuncBody.stmts b32_5),s32_5,3,[],Value.none,Value.none,Value.none,(Value.str (S "perlcore.counts") 631),none,(Value.ref 375),Value.none,0⟩),(List.toArray [])⟩) ::
  ((nat_lit 377),⟨(Value.type "tuple"),none,(Data.seq (List.toArray []) 0),(List.toArray [])⟩) ::
  ((nat_lit 379),⟨(Value.type "tuple"),none,(Data.seq (List.toArray ((Value.str (S "self") 695) :: (Value.str (S "scalar") 696) :: (Value.str (S "value") 697) :: (Value.str (S "old") 698) :: [])) 0),(List.toArray [])⟩) ::
  ((nat_lit 380),⟨(Value.type "tuple"),none,(Data.seq (List.toArray []) 0),(List.toArray [])⟩) ::
  ((nat_lit 382),⟨(Value.type "code"),none,(Data.fields (List.toArray ((Value.str (S "store") 692) :: (Value.str (S "Counter.store") 693) :: (Value.str (S "/claim/cut.py") 694) :: (Value.int 203 0) :: (Value.int 3 0) :: (Value.int 0 0) :: (Value.int 0 0) :: (Value.int 3 0) :: (Value.ref 377) :: (Value.bool Bool.true) :: (Value.int 181 0) :: (Value.ref 378) :: Value.none :: (Value.ref 379) :: (Value.ref 380) :: (Value.ref 381) :: (Value.int 699 0) :: (Value.int 203 0) :: (Value.str (S "/claim/cut.py") 700) :: []))),(List.toArray [])⟩) ::
  ((nat_lit 383),⟨(Value.type "function"),none,(Data.func ⟨(S "store"),(S "Counter.store"),p32_6,(FuncBody.stmts b32_6),s32_6,3,[],Value.none,Value.none,Value.none,(Value.str (S "perlcore.counts") 631),none,(Value.ref 382),Value.none,0⟩),(List.toArray [])⟩) ::
  ((nat_lit 384),⟨(Value.type "tuple"),none,(Data.seq (List.toArray []) 0),(List.toArray [])⟩) ::
  ((nat_lit 386),⟨(Value.type "tuple"),none,(Data.seq (List.toArray ((Value.str (S "self") 705) :: (Value.str (S "value") 706) :: [])) 0),(List.toArray [])⟩) ::
  ((nat_lit 387),⟨(Value.type "tuple"),none,(Data.seq (List.toArray []) 0),(List.toArray [])⟩) ::
  ((nat_lit 389),⟨(Value.type "code"),none,(Data.fields (List.toArray ((Value.str (S "fresh") 702) :: (Value.str (S "Counter.fresh") 703) :: (Value.str (S "/claim/cut.py") 704) :: (Value.int 213 0) :: (Value.int 2 0) :: (Value.int 0 0) :: (Value.int 0 0) :: (Value.int 3 0) :: (Value.ref 384) :: (Value.bool Bool.true) :: (Value.int 181 0) :: (Value.ref 385) :: Value.none :: (Value.ref 386) :: (Value.ref 387) :: (Value.ref 388) :: (Value.int 707 0) :: (Value.int 213 0) :: (Value.str (S "/claim/cut.py") 708) :: []))),(List.toArray [])⟩) ::
  ((nat_lit 390),⟨(Value.type "function"),none,(Data.func ⟨(S "fresh"),(S "Counter.fresh"),p32_7,(FuncBody.stmts b32_7),s32_7,3,[],Value.none,Value.none,Value.none,(Value.str (S "perlcore.counts") 631),none,(Value.ref 389),Value.none,0⟩),(List.toArray [])⟩) ::
  ((nat_lit 391),⟨(Value.type "tuple"),none,(Data.seq (List.toArray []) 0),(List.toArray [])⟩) ::
  ((nat_lit 393),⟨(Value.type "tuple"),none,(Data.seq (List.toArray ((Value.str (S "self") 713) :: (Value.str (S "scalar") 714) :: [])) 0),(List.toArray [])⟩) ::
  ((nat_lit 394),⟨(Value.type "tuple"),none,(Data.seq (List.toArray []) 0),(List.toArray [])⟩) ::
  ((nat_lit 396),⟨(Value.type "code"),none,(Data.fields (List.toArray ((Value.str (S "drop") 710) :: (Value.str (S "Counter.drop") 711) :: (Value.str (S "/claim/cut.py") 712) :: (Value.int 216 0) :: (Value.int 2 0) :: (Value.int 0 0) :: (Value.int 0 0) :: (Value.int 3 0) :: (Value.ref 391) :: (Value.bool Bool.true) :: (Value.int 181 0) :: (Value.ref 392) :: Value.none :: (Value.ref 393) :: (Value.ref 394) :: (Value.ref 395) :: (Value.int 715 0) :: (Value.int 216 0) :: (Value.str (S "/claim/cut.py") 716) :: []))),(List.toArray [])⟩) ::
  ((nat_lit 397),⟨(Value.type "function"),none,(Data.func ⟨(S "drop"),(S "Counter.drop"),p32_8,(FuncBody.stmts b32_8),s32_8,3,[],Value.none,Value.none,Value.none,(Value.str (S "perlcore.counts") 631),none,(Value.ref 396),Value.none,0⟩),(List.toArray [])⟩) ::
  ((nat_lit 398),⟨(Value.type "tuple"),none,(Data.seq (List.toArray []) 0),(List.toArray [])⟩) ::
  ((nat_lit 400),⟨(Value.type "tuple"),none,(Data.seq (List.toArray ((Value.str (S "self") 721) :: (Value.str (S "start") 722) :: [])) 0),(List.toArray [])⟩) ::
  ((nat_lit 401),⟨(Value.type "tuple"),none,(Data.seq (List.toArray []) 0),(List.toArray [])⟩) ::
  ((nat_lit 403),⟨(Value.type "code"),none,(Data.fields (List.toArray ((Value.str (S "settle") 718) :: (Value.str (S "Counter.settle") 719) :: (Value.str (S "/claim/cut.py") 720) :: (Value.int 219 0) :: (Value.int 2 0) :: (Value.int 0 0) :: (Value.int 0 0) :: (Value.int 3 0) :: (Value.ref 398) :: (Value.bool Bool.true) :: (Value.int 181 0) :: (Value.ref 399) :: Value.none :: (Value.ref 400) :: (Value.ref 401) :: (Value.ref 402) :: (Value.int 723 0) :: (Value.int 219 0) :: (Value.str (S "/claim/cut.py") 724) :: []))),(List.toArray [])⟩) ::
  ((nat_lit 404),⟨(Value.type "function"),none,(Data.func ⟨(S "settle"),(S "Counter.settle"),p32_9,(FuncBody.stmts b32_9),s32_9,3,[],Value.none,Value.none,Value.none,(Value.str (S "perlcore.counts") 631),none,(Value.ref 403),Value.none,0⟩),(List.toArray [])⟩) ::
  ((nat_lit 405),⟨(Value.type "tuple"),none,(Data.seq (List.toArray []) 0),(List.toArray [])⟩) ::
  ((nat_lit 407),⟨(Value.type "tuple"),none,(Data.seq (List.toArray ((Value.str (S "self") 729) :: (Value.str (S "thing") 730) :: [])) 0),(List.toArray [])⟩) ::
  ((nat_lit 408),⟨(Value.type "tuple"),none,(Data.seq (List.toArray []) 0),(List.toArray [])⟩) ::
  ((nat_lit 410),⟨(Value.type "code"),none,(Data.fields (List.toArray ((Value.str (S "finish") 726) :: (Value.str (S "Counter.finish") 727) :: (Value.str (S "/claim/cut.py") 728) :: (Value.int 222 0) :: (Value.int 2 0) :: (Value.int 0 0) :: (Value.int 0 0) :: (Value.int 3 0) :: (Value.ref 405) :: (Value.bool Bool.true) :: (Value.int 181 0) :: (Value.ref 406) :: Value.none :: (Value.ref 407) :: (Value.ref 408) :: (Value.ref 409) :: (Value.int 731 0) :: (Value.int 222 0) :: (Value.str (S "/claim/cut.py") 732) :: []))),(List.toArray [])⟩) ::
  ((nat_lit 411),⟨(Value.type "function"),none,(Data.func ⟨(S "finish"),(S "Counter.finish"),p32_10,(FuncBody.stmts b32_10),s32_10,3,[],Value.none,Value.none,Value.none,(Value.str (S "perlcore.counts") 631),none,(Value.ref 410),Value.none,0⟩),(List.toArray [])⟩) ::
  ((nat_lit 412),⟨(Value.type "tuple"),none,(Data.seq (List.toArray []) 0),(List.toArray [])⟩) ::
  ((nat_lit 414),⟨(Value.type "tuple"),none,(Data.seq (List.toArray ((Value.str (S "self") 737) :: (Value.str (S "thing") 738) :: [])) 0),(List.toArray [])⟩) ::
  ((nat_lit 415),⟨(Value.type "tuple"),none,(Data.seq (List.toArray []) 0),(List.toArray [])⟩) ::
  ((nat_lit 417),⟨(Value.type "code"),none,(Data.fields (List.toArray ((Value.str (S "free") 734) :: (Value.str (S "Counter.free") 735) :: (Value.str (S "/claim/cut.py") 736) :: (Value.int 225 0) :: (Value.int 2 0) :: (Value.int 0 0) :: (Value.int 0 0) :: (Value.int 3 0) :: (Value.ref 412) :: (Value.bool Bool.true) :: (Value.int 181 0) :: (Value.ref 413) :: Value.none :: (Value.ref 414) :: (Value.ref 415) :: (Value.ref 416) :: (Value.int 739 0) :: (Value.int 225 0) :: (Value.str (S "/claim/cut.py") 740) :: []))),(List.toArray [])⟩) ::
  ((nat_lit 418),⟨(Value.type "function"),none,(Data.func ⟨(S "free"),(S "Counter.free"),p32_11,(FuncBody.stmts b32_11),s32_11,3,[],Value.none,Value.none,Value.none,(Value.str (S "perlcore.counts") 631),none,(Value.ref 417),Value.none,0⟩),(List.toArray [])⟩) ::
  ((nat_lit 419),⟨(Value.type "tuple"),none,(Data.seq (List.toArray ((Value.str (S "destroy") 742) :: (Value.str (S "empties") 743) :: (Value.str (S "heap") 744) :: (Value.str (S "places") 745) :: [])) 0),(List.toArray [])⟩) ::
  ((nat_lit 420),⟨(Value.type "dict"),none,(Data.dict (List.toArray (⟨(H P (S "__module__")),(Value.str (S "__module__") 640),(Value.str (S "perlcore.counts") 631)⟩ :: ⟨(H P (S "__firstlineno__")),(Value.str (S "__firstlineno__") 644),(Value.int 168 643)⟩ :: ⟨(H P (S "__init__")),(Value.str (S "__init__") 653),(Value.ref 343)⟩ :: ⟨(H P (S "hold")),(Value.str (S "hold") 661),(Value.ref 350)⟩ :: ⟨(H P (S "let_go")),(Value.str (S "let_go") 669),(Value.ref 357)⟩ :: ⟨(H P (S "note")),(Value.str (S "note") 677),(Value.ref 364)⟩ :: ⟨(H P (S "take")),(Value.str (S "take") 685),(Value.ref 371)⟩ :: ⟨(H P (S "put_off")),(Value.str (S "put_off") 691),(Value.ref 376)⟩ :: ⟨(H P (S "store")),(Value.str (S "store") 701),(Value.ref 383)⟩ :: ⟨(H P (S "fresh")),(Value.str (S "fresh") 709),(Value.ref 390)⟩ :: ⟨(H P (S "drop")),(Value.str (S "drop") 717),(Value.ref 397)⟩ :: ⟨(H P (S "settle")),(Value.str (S "settle") 725),(Value.ref 404)⟩ :: ⟨(H P (S "finish")),(Value.str (S "finish") 733),(Value.ref 411)⟩ :: ⟨(H P (S "free")),(Value.str (S "free") 741),(Value.ref 418)⟩ :: ⟨(H P (S "__static_attributes__")),(Value.str (S "__static_attributes__") 746),(Value.ref 419)⟩ :: ⟨(H P (S "__dict__")),(Value.str (S "__dict__") 748),(Value.ref 422)⟩ :: ⟨(H P (S "__weakref__")),(Value.str (S "__weakref__") 750),(Value.ref 423)⟩ :: ⟨(H P (S "__doc__")),(Value.str (S "__doc__") 751),Value.none⟩ :: [])) 4),(List.toArray [])⟩) ::
  ((nat_lit 421),⟨(Value.type "type"),none,(Data.cls ⟨(S "Counter"),((Value.type "object") :: []),((Value.ref 421) :: (Value.type "object") :: []),420,(S "Counter"),Bool.true,[],[],Bool.false,none,Bool.false⟩),(List.toArray (none :: none :: (some (Value.str (S "Counter") 633)) :: (some (Value.str (S "Counter") 641)) :: (some (Value.builtin "object.__new__")) :: (some (Value.bool Bool.true)) :: []))⟩) ::
  ((nat_lit 422),⟨(Value.type "getset_descriptor"),none,(Data.fields (List.toArray ((Value.str (S "__dict__") 747) :: (Value.ref 421) :: (Value.builtin "function.__dict__") :: (Value.builtin "function.__dict__#set") :: []))),(List.toArray [])⟩) ::
  ((nat_lit 423),⟨(Value.type "getset_descriptor"),none,(Data.fields (List.toArray ((Value.str (S "__weakref__") 749) :: (Value.ref 421) :: (Value.builtin "ExceptionGroup.__weakref__") :: Value.none :: []))),(List.toArray [])⟩) ::
  ((nat_lit 433),⟨(Value.type "tuple"),none,(Data.seq (List.toArray []) 0),(List.toArray [])⟩) ::
  ((nat_lit 435),⟨(Value.type "tuple"),none,(Data.seq (List.toArray ((Value.str (S "self") 771) :: (Value.str (S "pad") 772) :: (Value.str (S "args") 773) :: (Value.str (S "want") 774) :: (Value.str (S "code") 775) :: (Value.str (S "package") 776) :: (Value.str (S "line") 777) :: [])) 0),(List.toArray [])⟩) ::
  ((nat_lit 436),⟨(Value.type "tuple"),none,(Data.seq (List.toArray []) 0),(List.toArray [])⟩) ::
  ((nat_lit 438),⟨(Value.type "code"),none,(Data.fields (List.toArray ((Value.str (S "__init__") 768) :: (Value.str (S "Frame.__init__") 769) :: (Value.str (S "/claim/cut.py") 770) :: (Value.int 230 0) :: (Value.int 7 0) :: (Value.int 0 0) :: (Value.int 0 0) :: (Value.int 3 0) :: (Value.ref 433) :: (Value.bool Bool.true) :: (Value.int 181 0) :: (Value.ref 434) :: Value.none :: (Value.ref 435) :: (Value.ref 436) :: (Value.ref 437) :: (Value.int 778 0) :: (Value.int 230 0) :: (Value.str (S "/claim/cut.py") 779) :: []))),(List.toArray [])⟩) ::
  ((nat_lit 439),⟨(Value.type "function"),none,(Data.func ⟨(S "__init__"),(S "Frame.__init__"),p34_0,(FuncBody.stmts b34_0),s34_0,3,[],Value.none,Value.none,Value.none,(Value.str (S "perlcore.frames") 754),none,(Value.ref 438),Value.none,0⟩),(List.toArray [])⟩) ::
  ((nat_lit 440),⟨(Value.type "tuple"),none,(Data.seq (List.toArray ((Value.str (S "args") 781) :: (Value.str (S "code") 782) :: (Value.str (S "line") 783) :: (Value.str (S "package") 784) :: (Value.str (S "pad") 785) :: (Value.str (S "want") 786) :: [])) 0),(List.toArray [])⟩) ::
  ((nat_lit 441),⟨(Value.type "dict"),none,(Data.dict (List.toArray (⟨(H P (S "__module__")),(Value.str (S "__module__") 763),(Value.str (S "perlcore.frames") 754)⟩ :: ⟨(H P (S "__firstlineno__")),(Value.str (S "__firstlineno__") 767),(Value.int 228 766)⟩ :: ⟨(H P (S "__init__")),(Value.str (S "__init__") 780),(Value.ref 439)⟩ :: ⟨(H P (S "__static_attributes__")),(Value.str (S "__static_attributes__") 787),(Value.ref 440)⟩ :: ⟨(H P (S "__dict__")),(Value.str (S "__dict__") 789),(Value.ref 443)⟩ :: ⟨(H P (S "__weakref__")),(Value.str (S "__weakref__") 791),(Value.ref 444)⟩ :: ⟨(H P (S "__doc__")),(Value.str (S "__doc__") 792),Value.none⟩ :: [])) 4),(List.toArray [])⟩) ::
  ((nat_lit 442),⟨(Value.type "type"),none,(Data.cls ⟨(S "Frame"),((Value.type "object") :: []),((Value.ref 442) :: (Value.type "object") :: []),441,(S "Frame"),Bool.true,[],[],Bool.false,none,Bool.false⟩),(List.toArray (none :: none :: (some (Value.str (S "Frame") 756)) :: (some (Value.str (S "Frame") 764)) :: (some (Value.builtin "object.__new__")) :: (some (Value.bool Bool.true)) :: []))⟩) ::
  ((nat_lit 443),⟨(Value.type "getset_descriptor"),none,(Data.fields (List.toArray ((Value.str (S "__dict__") 788) :: (Value.ref 442) :: (Value.builtin "function.__dict__") :: (Value.builtin "function.__dict__#set") :: []))),(List.toArray [])⟩) ::
  ((nat_lit 444),⟨(Value.type "getset_descriptor"),none,(Data.fields (List.toArray ((Value.str (S "__weakref__") 790) :: (Value.ref 442) :: (Value.builtin "ExceptionGroup.__weakref__") :: Value.none :: []))),(List.toArray [])⟩) ::
  ((nat_lit 454),⟨(Value.type "tuple"),none,(Data.seq (List.toArray []) 0),(List.toArray [])⟩) ::
  ((nat_lit 456),⟨(Value.type "tuple"),none,(Data.seq (List.toArray ((Value.str (S "self") 810) :: (Value.str (S "heap") 811) :: (Value.str (S "counter") 812) :: (Value.str (S "stash") 813) :: (Value.str (S "limits") 814) :: [])) 0),(List.toArray [])⟩) ::
  ((nat_lit 457),⟨(Value.type "tuple"),none,(Data.seq (List.toArray []) 0),(List.toArray [])⟩) ::
  ((nat_lit 459),⟨(Value.type "code"),none,(Data.fields (List.toArray ((Value.str (S "__init__") 807) :: (Value.str (S "Run.__init__") 808) :: (Value.str (S "/claim/cut.py") 809) :: (Value.int 239 0) :: (Value.int 5 0) :: (Value.int 0 0) :: (Value.int 0 0) :: (Value.int 3 0) :: (Value.ref 454) :: (Value.bool Bool.true) :: (Value.int 181 0) :: (Value.ref 455) :: Value.none :: (Value.ref 456) :: (Value.ref 457) :: (Value.ref 458) :: (Value.int 815 0) :: (Value.int 239 0) :: (Value.str (S "/claim/cut.py") 816) :: []))),(List.toArray [])⟩) ::
  ((nat_lit 460),⟨(Value.type "function"),none,(Data.func ⟨(S "__init__"),(S "Run.__init__"),p35_0,(FuncBody.stmts b35_0),s35_0,3,[],Value.none,Value.none,Value.none,(Value.str (S "perlcore.frames") 754),none,(Value.ref 459),Value.none,0⟩),(List.toArray [])⟩) ::
  ((nat_lit 461),⟨(Value.type "tuple"),none,(Data.seq (List.toArray ((Value.str (S "call_code") 818) :: (Value.str (S "compile_text") 819) :: (Value.str (S "counter") 820) :: (Value.str (S "err") 821) :: (Value.str (S "frames") 822) :: (Value.str (S "funcs") 823) :: (Value.str (S "heap") 824) :: (Value.str (S "limits") 825) :: (Value.str (S "lvs") 826) :: (Value.str (S "match") 827) :: (Value.str (S "methods") 828) :: (Value.str (S "nodes") 829) :: (Value.str (S "operators") 830) :: (Value.str (S "out") 831) :: (Value.str (S "patterns") 832) :: (Value.str (S "saves") 833) :: (Value.str (S "stash") 834) :: (Value.str (S "statements") 835) :: (Value.str (S "steps") 836) :: [])) 0),(List.toArray [])⟩) ::
  ((nat_lit 462),⟨(Value.type "dict"),none,(Data.dict (List.toArray (⟨(H P (S "__module__")),(Value.str (S "__module__") 802),(Value.str (S "perlcore.frames") 754)⟩ :: ⟨(H P (S "__firstlineno__")),(Value.str (S "__firstlineno__") 806),(Value.int 237 805)⟩ :: ⟨(H P (S "__init__")),(Value.str (S "__init__") 817),(Value.ref 460)⟩ :: ⟨(H P (S "__static_attributes__")),(Value.str (S "__static_attributes__") 837),(Value.ref 461)⟩ :: ⟨(H P (S "__dict__")),(Value.str (S "__dict__") 839),(Value.ref 464)⟩ :: ⟨(H P (S "__weakref__")),(Value.str (S "__weakref__") 841),(Value.ref 465)⟩ :: ⟨(H P (S "__doc__")),(Value.str (S "__doc__") 842),Value.none⟩ :: [])) 4),(List.toArray [])⟩) ::
  ((nat_lit 463),⟨(Value.type "type"),none,(Data.cls ⟨(S "Run"),((Value.type "object") :: []),((Value.ref 463) :: (Value.type "object") :: []),462,(S "Run"),Bool.true,[],[],Bool.false,none,Bool.false⟩),(List.toArray (none :: none :: (some (Value.str (S "Run") 795)) :: (some (Value.str (S "Run") 803)) :: (some (Value.builtin "object.__new__")) :: (some (Value.bool Bool.true)) :: []))⟩) ::
  ((nat_lit 464),⟨(Value.type "getset_descriptor"),none,(Data.fields (List.toArray ((Value.str (S "__dict__") 838) :: (Value.ref 463) :: (Value.builtin "function.__dict__") :: (Value.builtin "function.__dict__#set") :: []))),(List.toArray [])⟩) ::
  ((nat_lit 465),⟨(Value.type "getset_descriptor"),none,(Data.fields (List.toArray ((Value.str (S "__weakref__") 840) :: (Value.ref 463) :: (Value.builtin "ExceptionGroup.__weakref__") :: Value.none :: []))),(List.toArray [])⟩) ::
  ((nat_lit 475),⟨(Value.type "tuple"),none,(Data.seq (List.toArray ((Value.int 64 859) :: (Value.int 50 860) :: (Value.int 1000000 863) :: (Value.int 100000 866) :: (Value.int 10000 869) :: [])) 0),(List.toArray [])⟩) ::
  ((nat_lit 476),⟨(Value.type "tuple"),none,(Data.seq (List.toArray []) 0),(List.toArray [])⟩) ::
  ((nat_lit 478),⟨(Value.type "tuple"),none,(Data.seq (List.toArray ((Value.str (S "self") 873) :: (Value.str (S "width") 874) :: (Value.str (S "depth") 875) :: (Value.str (S "steps") 876) :: (Value.str (S "text") 877) :: (Value.str (S "items") 878) :: [])) 0),(List.toArray [])⟩) ::
  ((nat_lit 479),⟨(Value.type "tuple"),none,(Data.seq (List.toArray []) 0),(List.toArray [])⟩) ::
  ((nat_lit 481),⟨(Value.type "code"),none,(Data.fields (List.toArray ((Value.str (S "__init__") 870) :: (Value.str (S "Limits.__init__") 871) :: (Value.str (S "/claim/cut.py") 872) :: (Value.int 262 0) :: (Value.int 6 0) :: (Value.int 0 0) :: (Value.int 0 0) :: (Value.int 3 0) :: (Value.ref 476) :: (Value.bool Bool.true) :: (Value.int 181 0) :: (Value.ref 477) :: Value.none :: (Value.ref 478) :: (Value.ref 479) :: (Value.ref 480) :: (Value.int 879 0) :: (Value.int 262 0) :: (Value.str (S "/claim/cut.py") 880) :: []))),(List.toArray [])⟩) ::
  ((nat_lit 482),⟨(Value.type "function"),none,(Data.func ⟨(S "__init__"),(S "Limits.__init__"),p37_0,(FuncBody.stmts b37_0),s37_0,3,[],(Value.ref 475),Value.none,Value.none,(Value.str (S "perlcore.limits") 845),none,(Value.ref 481),Value.none,0⟩),(List.toArray [])⟩) ::
  ((nat_lit 483),⟨(Value.type "tuple"),none,(Data.seq (List.toArray ((Value.str (S "depth") 882) :: (Value.str (S "items") 883) :: (Value.str (S "steps") 884) :: (Value.str (S "text") 885) :: (Value.str (S "width") 886) :: [])) 0),(List.toArray [])⟩) ::
  ((nat_lit 484),⟨(Value.type "dict"),none,(Data.dict (List.toArray (⟨(H P (S "__module__")),(Value.str (S "__module__") 854),(Value.str (S "perlcore.limits") 845)⟩ :: ⟨(H P (S "__firstlineno__")),(Value.str (S "__firstlineno__") 858),(Value.int 260 857)⟩ :: ⟨(H P (S "__init__")),(Value.str (S "__init__") 881),(Value.ref 482)⟩ :: ⟨(H P (S "__static_attributes__")),(Value.str (S "__static_attributes__") 887),(Value.ref 483)⟩ :: ⟨(H P (S "__dict__")),(Value.str (S "__dict__") 889),(Value.ref 486)⟩ :: ⟨(H P (S "__weakref__")),(Value.str (S "__weakref__") 891),(Value.ref 487)⟩ :: ⟨(H P (S "__doc__")),(Value.str (S "__doc__") 892),Value.none⟩ :: [])) 4),(List.toArray [])⟩) ::
  ((nat_lit 485),⟨(Value.type "type"),none,(Data.cls ⟨(S "Limits"),((Value.type "object") :: []),((Value.ref 485) :: (Value.type "object") :: []),484,(S "Limits"),Bool.true,[],[],Bool.false,none,Bool.false⟩),(List.toArray (none :: none :: (some (Value.str (S "Limits") 847)) :: (some (Value.str (S "Limits") 855)) :: (some (Value.builtin "object.__new__")) :: (some (Value.bool Bool.true)) :: []))⟩) ::
  ((nat_lit 486),⟨(Value.type "getset_descriptor"),none,(Data.fields (List.toArray ((Value.str (S "__dict__") 888) :: (Value.ref 485) :: (Value.builtin "function.__dict__") :: (Value.builtin "function.__dict__#set") :: []))),(List.toArray [])⟩) ::
  ((nat_lit 487),⟨(Value.type "getset_descriptor"),none,(Data.fields (List.toArray ((Value.str (S "__weakref__") 890) :: (Value.ref 485) :: (Value.builtin "ExceptionGroup.__weakref__") :: Value.none :: []))),(List.toArray [])⟩) ::
  ((nat_lit 490),⟨(Value.type "tuple"),none,(Data.seq (List.toArray []) 0),(List.toArray [])⟩) ::
  ((nat_lit 492),⟨(Value.type "tuple"),none,(Data.seq (List.toArray ((Value.str (S "value") 900) :: (Value.str (S "line") 901) :: [])) 0),(List.toArray [])⟩) ::
  ((nat_lit 493),⟨(Value.type "tuple"),none,(Data.seq (List.toArray []) 0),(List.toArray [])⟩) ::
  ((nat_lit 495),⟨(Value.type "code"),none,(Data.fields (List.toArray ((Value.str (S "with_line") 897) :: (Value.str (S "with_line") 898) :: (Value.str (S "/claim/cut.py") 899) :: (Value.int 269 0) :: (Value.int 2 0) :: (Value.int 0 0) :: (Value.int 0 0) :: (Value.int 3 0) :: (Value.ref 490) :: (Value.bool Bool.true) :: (Value.int 181 0) :: (Value.ref 491) :: Value.none :: (Value.ref 492) :: (Value.ref 493) :: (Value.ref 494) :: (Value.int 902 0) :: (Value.int 269 0) :: (Value.str (S "/claim/cut.py") 903) :: []))),(List.toArray [])⟩) ::
  ((nat_lit 496),⟨(Value.type "function"),none,(Data.func ⟨(S "with_line"),(S "with_line"),p39,(FuncBody.stmts b39),s39,3,[],Value.none,Value.none,Value.none,(Value.str (S "perlcore.runstmt") 895),none,(Value.ref 495),Value.none,0⟩),(List.toArray [])⟩) ::
  ((nat_lit 497),⟨(Value.type "tuple"),none,(Data.seq (List.toArray []) 0),(List.toArray [])⟩) ::
  ((nat_lit 500),⟨(Value.type "code"),none,(Data.fields (List.toArray ((Value.str (S "message_of") 909) :: (Value.str (S "message_of") 910) :: (Value.str (S "/claim/cut.py") 911) :: (Value.int 275 0) :: (Value.int 4 0) :: (Value.int 0 0) :: (Value.int 0 0) :: (Value.int 3 0) :: (Value.ref 497) :: (Value.bool Bool.true) :: (Value.int 181 0) :: (Value.ref 498) :: Value.none :: Value.none :: Value.none :: (Value.ref 499) :: (Value.int 912 0) :: (Value.int 275 0) :: (Value.str (S "/claim/cut.py") 913) :: []))),(List.toArray [])⟩) ::
  ((nat_lit 501),⟨(Value.type "function"),none,(Data.func ⟨(S "message_of"),(S "message_of"),p42,(FuncBody.stmts b42),s42,3,[],Value.none,Value.none,Value.none,(Value.str (S "perlcore.runeval") 905),none,(Value.ref 500),Value.none,0⟩),(List.toArray [])⟩) ::
  ((nat_lit 502),⟨(Value.type "tuple"),none,(Data.seq (List.toArray []) 0),(List.toArray [])⟩) ::
  ((nat_lit 504),⟨(Value.type "tuple"),none,(Data.seq (List.toArray ((Value.str (S "run") 918) :: (Value.str (S "values") 919) :: (Value.str (S "want") 920) :: [])) 0),(List.toArray [])⟩) ::
  ((nat_lit 505),⟨(Value.type "tuple"),none,(Data.seq (List.toArray []) 0),(List.toArray [])⟩) ::
  ((nat_lit 507),⟨(Value.type "code"),none,(Data.fields (List.toArray ((Value.str (S "die_func") 915) :: (Value.str (S "die_func") 916) :: (Value.str (S "/claim/cut.py") 917) :: (Value.int 285 0) :: (Value.int 3 0) :: (Value.int 0 0) :: (Value.int 0 0) :: (Value.int 3 0) :: (Value.ref 502) :: (Value.bool Bool.true) :: (Value.int 181 0) :: (Value.ref 503) :: Value.none :: (Value.ref 504) :: (Value.ref 505) :: (Value.ref 506) :: (Value.int 921 0) :: (Value.int 285 0) :: (Value.str (S "/claim/cut.py") 922) :: []))),(List.toArray [])⟩) ::
  ((nat_lit 508),⟨(Value.type "function"),none,(Data.func ⟨(S "die_func"),(S "die_func"),p43,(FuncBody.stmts b43),s43,3,[],Value.none,Value.none,Value.none,(Value.str (S "perlcore.runeval") 905),none,(Value.ref 507),Value.none,0⟩),(List.toArray [])⟩) ::
  ((nat_lit 509),⟨(Value.type "tuple"),none,(Data.seq (List.toArray []) 0),(List.toArray [])⟩) ::
  ((nat_lit 511),⟨(Value.type "tuple"),none,(Data.seq (List.toArray ((Value.str (S "run") 927) :: (Value.str (S "values") 928) :: (Value.str (S "want") 929) :: (Value.str (S "value") 930) :: [])) 0),(List.toArray [])⟩) ::
  ((nat_lit 512),⟨(Value.type "tuple"),none,(Data.seq (List.toArray []) 0),(List.toArray [])⟩) ::
  ((nat_lit 514),⟨(Value.type "code"),none,(Data.fields (List.toArray ((Value.str (S "warn_func") 924) :: (Value.str (S "warn_func") 925) :: (Value.str (S "/claim/cut.py") 926) :: (Value.int 287 0) :: (Value.int 3 0) :: (Value.int 0 0) :: (Value.int 0 0) :: (Value.int 3 0) :: (Value.ref 509) :: (Value.bool Bool.true) :: (Value.int 181 0) :: (Value.ref 510) :: Value.none :: (Value.ref 511) :: (Value.ref 512) :: (Value.ref 513) :: (Value.int 931 0) :: (Value.int 287 0) :: (Value.str (S "/claim/cut.py") 932) :: []))),(List.toArray [])⟩) ::
  ((nat_lit 515),⟨(Value.type "function"),none,(Data.func ⟨(S "warn_func"),(S "warn_func"),p44,(FuncBody.stmts b44),s44,3,[],Value.none,Value.none,Value.none,(Value.str (S "perlcore.runeval") 905),none,(Value.ref 514),Value.none,0⟩),(List.toArray [])⟩) ::
  ((nat_lit 523),⟨(Value.type "tuple"),none,(Data.seq (List.toArray []) 0),(List.toArray [])⟩) ::
  ((nat_lit 525),⟨(Value.type "tuple"),none,(Data.seq (List.toArray ((Value.str (S "self") 951) :: (Value.str (S "heap") 952) :: [])) 0),(List.toArray [])⟩) ::
  ((nat_lit 526),⟨(Value.type "tuple"),none,(Data.seq (List.toArray []) 0),(List.toArray [])⟩) ::
  ((nat_lit 528),⟨(Value.type "code"),none,(Data.fields (List.toArray ((Value.str (S "__init__") 948) :: (Value.str (S "Stash.__init__") 949) :: (Value.str (S "/claim/cut.py") 950) :: (Value.int 294 0) :: (Value.int 2 0) :: (Value.int 0 0) :: (Value.int 0 0) :: (Value.int 3 0) :: (Value.ref 523) :: (Value.bool Bool.true) :: (Value.int 181 0) :: (Value.ref 524) :: Value.none :: (Value.ref 525) :: (Value.ref 526) :: (Value.ref 527) :: (Value.int 953 0) :: (Value.int 294 0) :: (Value.str (S "/claim/cut.py") 954) :: []))),(List.toArray [])⟩) ::
  ((nat_lit 529),⟨(Value.type "function"),none,(Data.func ⟨(S "__init__"),(S "Stash.__init__"),p46_0,(FuncBody.stmts b46_0),s46_0,3,[],Value.none,Value.none,Value.none,(Value.str (S "perlcore.stash") 934),none,(Value.ref 528),Value.none,0⟩),(List.toArray [])⟩) ::
  ((nat_lit 530),⟨(Value.type "tuple"),none,(Data.seq (List.toArray []) 0),(List.toArray [])⟩) ::
  ((nat_lit 532),⟨(Value.type "tuple"),none,(Data.seq (List.toArray ((Value.str (S "self") 959) :: (Value.str (S "name") 960) :: [])) 0),(List.toArray [])⟩) ::
  ((nat_lit 533),⟨(Value.type "tuple"),none,(Data.seq (List.toArray []) 0),(List.toArray [])⟩) ::
  ((nat_lit 535),⟨(Value.type "code"),none,(Data.fields (List.toArray ((Value.str (S "glob_of") 956) :: (Value.str (S "Stash.glob_of") 957) :: (Value.str (S "/claim/cut.py") 958) :: (Value.int 299 0) :: (Value.int 2 0) :: (Value.int 0 0) :: (Value.int 0 0) :: (Value.int 3 0) :: (Value.ref 530) :: (Value.bool Bool.true) :: (Value.int 181 0) :: (Value.ref 531) :: Value.none :: (Value.ref 532) :: (Value.ref 533) :: (Value.ref 534) :: (Value.int 961 0) :: (Value.int 299 0) :: (Value.str (S "/claim/cut.py") 962) :: []))),(List.toArray [])⟩) ::
  ((nat_lit 536),⟨(Value.type "function"),none,(Data.func ⟨(S "glob_of"),(S "Stash.glob_of"),p46_1,(FuncBody.stmts b46_1),s46_1,3,[],Value.none,Value.none,Value.none,(Value.str (S "perlcore.stash") 934),none,(Value.ref 535),Value.none,0⟩),(List.toArray [])⟩) ::
  ((nat_lit 537),⟨(Value.type "tuple"),none,(Data.seq (List.toArray []) 0),(List.toArray [])⟩) ::
  ((nat_lit 539),⟨(Value.type "tuple"),none,(Data.seq (List.toArray ((Value.str (S "self") 967) :: (Value.str (S "name") 968) :: (Value.str (S "glob") 969) :: [])) 0),(List.toArray [])⟩) ::
  ((nat_lit 540),⟨(Value.type "tuple"),none,(Data.seq (List.toArray []) 0),(List.toArray [])⟩) ::
  ((nat_lit 542),⟨(Value.type "code"),none,(Data.fields (List.toArray ((Value.str (S "scalar_of") 964) :: (Value.str (S "Stash.scalar_of") 965) :: (Value.str (S "/claim/cut.py") 966) :: (Value.int 304 0) :: (Value.int 2 0) :: (Value.int 0 0) :: (Value.int 0 0) :: (Value.int 3 0) :: (Value.ref 537) :: (Value.bool Bool.true) :: (Value.int 181 0) :: (Value.ref 538) :: Value.none :: (Value.ref 539) :: (Value.ref 540) :: (Value.ref 541) :: (Value.int 970 0) :: (Value.int 304 0) :: (Value.str (S "/claim/cut.py") 971) :: []))),(List.toArray [])⟩) ::
  ((nat_lit 543),⟨(Value.type "function"),none,(Data.func ⟨(S "scalar_of"),(S "Stash.scalar_of"),p46_2,(FuncBody.stmts b46_2),s46_2,3,[],Value.none,Value.none,Value.none,(Value.str (S "perlcore.stash") 934),none,(Value.ref 542),Value.none,0⟩),(List.toArray [])⟩) ::
  ((nat_lit 544),⟨(Value.type "tuple"),none,(Data.seq (List.toArray []) 0),(List.toArray [])⟩) ::
  ((nat_lit 546),⟨(Value.type "tuple"),none,(Data.seq (List.toArray ((Value.str (S "self") 976) :: (Value.str (S "name") 977) :: [])) 0),(List.toArray [])⟩) ::
  ((nat_lit 547),⟨(Value.type "tuple"),none,(Data.seq (List.toArray []) 0),(List.toArray [])⟩) ::
  ((nat_lit 549),⟨(Value.type "code"),none,(Data.fields (List.toArray ((Value.str (S "array_of") 973) :: (Value.str (S "Stash.array_of") 974) :: (Value.str (S "/claim/cut.py") 975) :: (Value.int 311 0) :: (Value.int 2 0) :: (Value.int 0 0) :: (Value.int 0 0) :: (Value.int 3 0) :: (Value.ref 544) :: (Value.bool Bool.true) :: (Value.int 181 0) :: (Value.ref 545) :: Value.none :: (Value.ref 546) :: (Value.ref 547) :: (Value.ref 548) :: (Value.int 978 0) :: (Value.int 311 0) :: (Value.str (S "/claim/cut.py") 979) :: []))),(List.toArray [])⟩) ::
  ((nat_lit 550),⟨(Value.type "function"),none,(Data.func ⟨(S "array_of"),(S "Stash.array_of"),p46_3,(FuncBody.stmts b46_3),s46_3,3,[],Value.none,Value.none,Value.none,(Value.str (S "perlcore.stash") 934),none,(Value.ref 549),Value.none,0⟩),(List.toArray [])⟩) ::
  ((nat_lit 551),⟨(Value.type "tuple"),none,(Data.seq (List.toArray []) 0),(List.toArray [])⟩) ::
  ((nat_lit 553),⟨(Value.type "tuple"),none,(Data.seq (List.toArray ((Value.str (S "self") 984) :: (Value.str (S "name") 985) :: [])) 0),(List.toArray [])⟩) ::
  ((nat_lit 554),⟨(Value.type "tuple"),none,(Data.seq (List.toArray []) 0),(List.toArray [])⟩) ::
  ((nat_lit 556),⟨(Value.type "code"),none,(Data.fields (List.toArray ((Value.str (S "hash_of") 981) :: (Value.str (S "Stash.hash_of") 982) :: (Value.str (S "/claim/cut.py") 983) :: (Value.int 314 0) :: (Value.int 2 0) :: (Value.int 0 0) :: (Value.int 0 0) :: (Value.int 3 0) :: (Value.ref 551) :: (Value.bool Bool.true) :: (Value.int 181 0) :: (Value.ref 552) :: Value.none :: (Value.ref 553) :: (Value.ref 554) :: (Value.ref 555) :: (Value.int 986 0) :: (Value.int 314 0) :: (Value.str (S "/claim/cut.py") 987) :: []))),(List.toArray [])⟩) ::
  ((nat_lit 557),⟨(Value.type "function"),none,(Data.func ⟨(S "hash_of"),(S "Stash.hash_of"),p46_4,(FuncBody.stmts b46_4),s46_4,3,[],Value.none,Value.none,Value.none,(Value.str (S "perlcore.stash") 934),none,(Value.ref 556),Value.none,0⟩),(List.toArray [])⟩) ::
  ((nat_lit 558),⟨(Value.type "tuple"),none,(Data.seq (List.toArray []) 0),(List.toArray [])⟩) ::
  ((nat_lit 560),⟨(Value.type "tuple"),none,(Data.seq (List.toArray ((Value.str (S "self") 992) :: (Value.str (S "name") 993) :: [])) 0),(List.toArray [])⟩) ::
  ((nat_lit 561),⟨(Value.type "tuple"),none,(Data.seq (List.toArray []) 0),(List.toArray [])⟩) ::
  ((nat_lit 563),⟨(Value.type "code"),none,(Data.fields (List.toArray ((Value.str (S "code_of") 989) :: (Value.str (S "Stash.code_of") 990) :: (Value.str (S "/claim/cut.py") 991) :: (Value.int 317 0) :: (Value.int 2 0) :: (Value.int 0 0) :: (Value.int 0 0) :: (Value.int 3 0) :: (Value.ref 558) :: (Value.bool Bool.true) :: (Value.int 181 0) :: (Value.ref 559) :: Value.none :: (Value.ref 560) :: (Value.ref 561) :: (Value.ref 562) :: (Value.int 994 0) :: (Value.int 317 0) :: (Value.str (S "/claim/cut.py") 995) :: []))),(List.toArray [])⟩) ::
  ((nat_lit 564),⟨(Value.type "function"),none,(Data.func ⟨(S "code_of"),(S "Stash.code_of"),p46_5,(FuncBody.stmts b46_5),s46_5,3,[],Value.none,Value.none,Value.none,(Value.str (S "perlcore.stash") 934),none,(Value.ref 563),Value.none,0⟩),(List.toArray [])⟩) ::
  ((nat_lit 565),⟨(Value.type "tuple"),none,(Data.seq (List.toArray []) 0),(List.toArray [])⟩) ::
  ((nat_lit 567),⟨(Value.type "tuple"),none,(Data.seq (List.toArray ((Value.str (S "self") 1000) :: (Value.str (S "name") 1001) :: [])) 0),(List.toArray [])⟩) ::
  ((nat_lit 568),⟨(Value.type "tuple"),none,(Data.seq (List.toArray []) 0),(List.toArray [])⟩) ::
  ((nat_lit 570),⟨(Value.type "code"),none,(Data.fields (List.toArray ((Value.str (S "find_array") 997) :: (Value.str (S "Stash.find_array") 998) :: (Value.str (S "/claim/cut.py") 999) :: (Value.int 320 0) :: (Value.int 2 0) :: (Value.int 0 0) :: (Value.int 0 0) :: (Value.int 3 0) :: (Value.ref 565) :: (Value.bool Bool.true) :: (Value.int 181 0) :: (Value.ref 566) :: Value.none :: (Value.ref 567) :: (Value.ref 568) :: (Value.ref 569) :: (Value.int 1002 0) :: (Value.int 320 0) :: (Value.str (S "/claim/cut.py") 1003) :: []))),(List.toArray [])⟩) ::
  ((nat_lit 571),⟨(Value.type "function"),none,(Data.func ⟨(S "find_array"),(S "Stash.find_array"),p46_6,(FuncBody.stmts b46_6),s46_6,3,[],Value.none,Value.none,Value.none,(Value.str (S "perlcore.stash") 934),none,(Value.ref 570),Value.none,0⟩),(List.toArray [])⟩) ::
  ((nat_lit 572),⟨(Value.type "tuple"),none,(Data.seq (List.toArray ((Value.str (S "generation") 1005) :: (Value.str (S "globs") 1006) :: (Value.str (S "heap") 1007) :: [])) 0),(List.toArray [])⟩) ::
  ((nat_lit 573),⟨(Value.type "dict"),none,(Data.dict (List.toArray (⟨(H P (S "__module__")),(Value.str (S "__module__") 943),(Value.str (S "perlcore.stash") 934)⟩ :: ⟨(H P (S "__firstlineno__")),(Value.str (S "__firstlineno__") 947),(Value.int 292 946)⟩ :: ⟨(H P (S "__init__")),(Value.str (S "__init__") 955),(Value.ref 529)⟩ :: ⟨(H P (S "glob_of")),(Value.str (S "glob_of") 963),(Value.ref 536)⟩ :: ⟨(H P (S "scalar_of")),(Value.str (S "scalar_of") 972),(Value.ref 543)⟩ :: ⟨(H P (S "array_of")),(Value.str (S "array_of") 980),(Value.ref 550)⟩ :: ⟨(H P (S "hash_of")),(Value.str (S "hash_of") 988),(Value.ref 557)⟩ :: ⟨(H P (S "code_of")),(Value.str (S "code_of") 996),(Value.ref 564)⟩ :: ⟨(H P (S "find_array")),(Value.str (S "find_array") 1004),(Value.ref 571)⟩ :: ⟨(H P (S "__static_attributes__")),(Value.str (S "__static_attributes__") 1008),(Value.ref 572)⟩ :: ⟨(H P (S "__dict__")),(Value.str (S "__dict__") 1010),(Value.ref 575)⟩ :: ⟨(H P (S "__weakref__")),(Value.str (S "__weakref__") 1012),(Value.ref 576)⟩ :: ⟨(H P (S "__doc__")),(Value.str (S "__doc__") 1013),Value.none⟩ :: [])) 4),(List.toArray [])⟩) ::
  ((nat_lit 574),⟨(Value.type "type"),none,(Data.cls ⟨(S "Stash"),((Value.type "object") :: []),((Value.ref 574) :: (Value.type "object") :: []),573,(S "Stash"),Bool.true,[],[],Bool.false,none,Bool.false⟩),(List.toArray (none :: none :: (some (Value.str (S "Stash") 936)) :: (some (Value.str (S "Stash") 944)) :: (some (Value.builtin "object.__new__")) :: (some (Value.bool Bool.true)) :: []))⟩) ::
  ((nat_lit 575),⟨(Value.type "getset_descriptor"),none,(Data.fields (List.toArray ((Value.str (S "__dict__") 1009) :: (Value.ref 574) :: (Value.builtin "function.__dict__") :: (Value.builtin "function.__dict__#set") :: []))),(List.toArray [])⟩) ::
  ((nat_lit 576),⟨(Value.type "getset_descriptor"),none,(Data.fields (List.toArray ((Value.str (S "__weakref__") 1011) :: (Value.ref 574) :: (Value.builtin "ExceptionGroup.__weakref__") :: Value.none :: []))),(List.toArray [])⟩) ::
  ((nat_lit 579),⟨(Value.type "list"),none,(Data.seq (List.toArray ((Value.str (S "abc") 1018) :: (Value.str (S "d\n") 1019) :: (Value.str (S "") 1020) :: (Value.str (S "efghijklmnopqrstuvw") 1021) :: [])) 0),(List.toArray [])⟩) ::
  ((nat_lit 580),⟨(Value.type "tuple"),none,(Data.seq (List.toArray []) 0),(List.toArray [])⟩) ::
  ((nat_lit 582),⟨(Value.type "tuple"),none,(Data.seq (List.toArray ((Value.str (S "tin") 1026) :: (Value.str (S "many") 1027) :: [])) 0),(List.toArray [])⟩) ::
  ((nat_lit 583),⟨(Value.type "tuple"),none,(Data.seq (List.toArray []) 0),(List.toArray [])⟩) ::
  ((nat_lit 585),⟨(Value.type "code"),none,(Data.fields (List.toArray ((Value.str (S "_law_take") 1023) :: (Value.str (S "_law_take") 1024) :: (Value.str (S "/claim/cut.py") 1025) :: (Value.int 324 0) :: (Value.int 2 0) :: (Value.int 0 0) :: (Value.int 0 0) :: (Value.int 3 0) :: (Value.ref 580) :: (Value.bool Bool.true) :: (Value.int 181 0) :: (Value.ref 581) :: Value.none :: (Value.ref 582) :: (Value.ref 583) :: (Value.ref 584) :: (Value.int 1028 0) :: (Value.int 324 0) :: (Value.str (S "/claim/cut.py") 1029) :: []))),(List.toArray [])⟩) ::
  ((nat_lit 586),⟨(Value.type "function"),none,(Data.func ⟨(S "_law_take"),(S "_law_take"),p49,(FuncBody.stmts b49),s49,3,[],Value.none,Value.none,Value.none,(Value.str (S "law_qz0100_01") 1016),none,(Value.ref 585),Value.none,0⟩),(List.toArray [])⟩) ::
  ((nat_lit 587),⟨(Value.type "tuple"),none,(Data.seq (List.toArray []) 0),(List.toArray [])⟩) ::
  ((nat_lit 589),⟨(Value.type "tuple"),none,(Data.seq (List.toArray ((Value.str (S "own") 1034) :: (Value.str (S "heap") 1035) :: (Value.str (S "run") 1036) :: (Value.str (S "name") 1037) :: (Value.str (S "value") 1038) :: [])) 0),(List.toArray [])⟩) ::
  ((nat_lit 590),⟨(Value.type "tuple"),none,(Data.seq (List.toArray []) 0),(List.toArray [])⟩) ::
  ((nat_lit 592),⟨(Value.type "code"),none,(Data.fields (List.toArray ((Value.str (S "_law_run") 1031) :: (Value.str (S "_law_run") 1032) :: (Value.str (S "/claim/cut.py") 1033) :: (Value.int 329 0) :: (Value.int 1 0) :: (Value.int 0 0) :: (Value.int 0 0) :: (Value.int 3 0) :: (Value.ref 587) :: (Value.bool Bool.true) :: (Value.int 181 0) :: (Value.ref 588) :: Value.none :: (Value.ref 589) :: (Value.ref 590) :: (Value.ref 591) :: (Value.int 1039 0) :: (Value.int 329 0) :: (Value.str (S "/claim/cut.py") 1040) :: []))),(List.toArray [])⟩) ::
  ((nat_lit 593),⟨(Value.type "function"),none,(Data.func ⟨(S "_law_run"),(S "_law_run"),p50,(FuncBody.stmts b50),s50,3,[],Value.none,Value.none,Value.none,(Value.str (S "law_qz0100_01") 1016),none,(Value.ref 592),Value.none,0⟩),(List.toArray [])⟩) ::
  ((nat_lit 594),⟨(Value.type "tuple"),none,(Data.seq (List.toArray []) 0),(List.toArray [])⟩) ::
  ((nat_lit 596),⟨(Value.type "tuple"),none,(Data.seq (List.toArray ((Value.str (S "work") 1045) :: (Value.str (S "fault") 1046) :: [])) 0),(List.toArray [])⟩) ::
  ((nat_lit 597),⟨(Value.type "tuple"),none,(Data.seq (List.toArray []) 0),(List.toArray [])⟩) ::
  ((nat_lit 599),⟨(Value.type "code"),none,(Data.fields (List.toArray ((Value.str (S "_law_heard") 1042) :: (Value.str (S "_law_heard") 1043) :: (Value.str (S "/claim/cut.py") 1044) :: (Value.int 337 0) :: (Value.int 1 0) :: (Value.int 0 0) :: (Value.int 0 0) :: (Value.int 3 0) :: (Value.ref 594) :: (Value.bool Bool.true) :: (Value.int 181 0) :: (Value.ref 595) :: Value.none :: (Value.ref 596) :: (Value.ref 597) :: (Value.ref 598) :: (Value.int 1047 0) :: (Value.int 337 0) :: (Value.str (S "/claim/cut.py") 1048) :: []))),(List.toArray [])⟩) ::
  ((nat_lit 600),⟨(Value.type "function"),none,(Data.func ⟨(S "_law_heard"),(S "_law_heard"),p51,(FuncBody.stmts b51),s51,3,[],Value.none,Value.none,Value.none,(Value.str (S "law_qz0100_01") 1016),none,(Value.ref 599),Value.none,0⟩),(List.toArray [])⟩) ::
  ((nat_lit 601),⟨(Value.type "tuple"),none,(Data.seq (List.toArray []) 0),(List.toArray [])⟩) ::
  ((nat_lit 603),⟨(Value.type "tuple"),none,(Data.seq (List.toArray ((Value.str (S "own") 1053) :: (Value.str (S "texts") 1054) :: (Value.str (S "tail") 1055) :: (Value.str (S "default") 1056) :: (Value.str (S "text") 1057) :: [])) 0),(List.toArray [])⟩) ::
  ((nat_lit 604),⟨(Value.type "tuple"),none,(Data.seq (List.toArray []) 0),(List.toArray [])⟩) ::
  ((nat_lit 606),⟨(Value.type "code"),none,(Data.fields (List.toArray ((Value.str (S "_law_message") 1050) :: (Value.str (S "_law_message") 1051) :: (Value.str (S "/claim/cut.py") 1052) :: (Value.int 342 0) :: (Value.int 4 0) :: (Value.int 0 0) :: (Value.int 0 0) :: (Value.int 3 0) :: (Value.ref 601) :: (Value.bool Bool.true) :: (Value.int 181 0) :: (Value.ref 602) :: Value.none :: (Value.ref 603) :: (Value.ref 604) :: (Value.ref 605) :: (Value.int 1058 0) :: (Value.int 342 0) :: (Value.str (S "/claim/cut.py") 1059) :: []))),(List.toArray [])⟩) ::
  ((nat_lit 607),⟨(Value.type "function"),none,(Data.func ⟨(S "_law_message"),(S "_law_message"),p52,(FuncBody.stmts b52),s52,3,[],Value.none,Value.none,Value.none,(Value.str (S "law_qz0100_01") 1016),none,(Value.ref 606),Value.none,0⟩),(List.toArray [])⟩) ::
  ((nat_lit 608),⟨(Value.type "tuple"),none,(Data.seq (List.toArray []) 0),(List.toArray [])⟩) ::
  ((nat_lit 610),⟨(Value.type "tuple"),none,(Data.seq (List.toArray ((Value.str (S "own") 1064) :: (Value.str (S "place") 1065) :: (Value.str (S "text") 1066) :: [])) 0),(List.toArray [])⟩) ::
  ((nat_lit 611),⟨(Value.type "tuple"),none,(Data.seq (List.toArray []) 0),(List.toArray [])⟩) ::
  ((nat_lit 613),⟨(Value.type "code"),none,(Data.fields (List.toArray ((Value.str (S "_law_put") 1061) :: (Value.str (S "_law_put") 1062) :: (Value.str (S "/claim/cut.py") 1063) :: (Value.int 351 0) :: (Value.int 3 0) :: (Value.int 0 0) :: (Value.int 0 0) :: (Value.int 3 0) :: (Value.ref 608) :: (Value.bool Bool.true) :: (Value.int 181 0) :: (Value.ref 609) :: Value.none :: (Value.ref 610) :: (Value.ref 611) :: (Value.ref 612) :: (Value.int 1067 0) :: (Value.int 351 0) :: (Value.str (S "/claim/cut.py") 1068) :: []))),(List.toArray [])⟩) ::
  ((nat_lit 614),⟨(Value.type "function"),none,(Data.func ⟨(S "_law_put"),(S "_law_put"),p53,(FuncBody.stmts b53),s53,3,[],Value.none,Value.none,Value.none,(Value.str (S "law_qz0100_01") 1016),none,(Value.ref 613),Value.none,0⟩),(List.toArray [])⟩) ::
  ((nat_lit 615),⟨(Value.type "tuple"),none,(Data.seq (List.toArray []) 0),(List.toArray [])⟩) ::
  ((nat_lit 617),⟨(Value.type "tuple"),none,(Data.seq (List.toArray ((Value.str (S "own") 1073) :: (Value.str (S "way") 1074) :: (Value.str (S "texts") 1075) :: (Value.str (S "line") 1076) :: (Value.str (S "whole") 1077) :: (Value.str (S "message") 1078) :: [])) 0),(List.toArray [])⟩) ::
  ((nat_lit 618),⟨(Value.type "tuple"),none,(Data.seq (List.toArray []) 0),(List.toArray [])⟩) ::
  ((nat_lit 620),⟨(Value.type "code"),none,(Data.fields (List.toArray ((Value.str (S "_law_due") 1070) :: (Value.str (S "_law_due") 1071) :: (Value.str (S "/claim/cut.py") 1072) :: (Value.int 358 0) :: (Value.int 3 0) :: (Value.int 0 0) :: (Value.int 0 0) :: (Value.int 3 0) :: (Value.ref 615) :: (Value.bool Bool.true) :: (Value.int 181 0) :: (Value.ref 616) :: Value.none :: (Value.ref 617) :: (Value.ref 618) :: (Value.ref 619) :: (Value.int 1079 0) :: (Value.int 358 0) :: (Value.str (S "/claim/cut.py") 1080) :: []))),(List.toArray [])⟩) ::
  ((nat_lit 621),⟨(Value.type "function"),none,(Data.func ⟨(S "_law_due"),(S "_law_due"),p54,(FuncBody.stmts b54),s54,3,[],Value.none,Value.none,Value.none,(Value.str (S "law_qz0100_01") 1016),none,(Value.ref 620),Value.none,0⟩),(List.toArray [])⟩) ::
  ((nat_lit 622),⟨(Value.type "tuple"),none,(Data.seq (List.toArray []) 0),(List.toArray [])⟩) ::
  ((nat_lit 625),⟨(Value.type "code"),none,(Data.fields (List.toArray ((Value.str (S "law") 1082) :: (Value.str (S "law") 1083) :: (Value.str (S "/claim/cut.py") 1084) :: (Value.int 373 0) :: (Value.int 1 0) :: (Value.int 0 0) :: (Value.int 0 0) :: (Value.int 3 0) :: (Value.ref 622) :: (Value.bool Bool.true) :: (Value.int 181 0) :: (Value.ref 623) :: Value.none :: Value.none :: Value.none :: (Value.ref 624) :: (Value.int 1085 0) :: (Value.int 373 0) :: (Value.str (S "/claim/cut.py") 1086) :: []))),(List.toArray [])⟩) ::
  ((nat_lit 626),⟨(Value.type "function"),none,(Data.func ⟨(S "law"),(S "law"),p55,(FuncBody.stmts b55),s55,3,[],Value.none,Value.none,Value.none,(Value.str (S "law_qz0100_01") 1016),none,(Value.ref 625),Value.none,0⟩),(List.toArray [])⟩) :: []
noncomputable def hpK : Params → Frag := by
  refine' (?f : (b : Params → Frag) → KKs = b → (Params → Frag)) ?b ?h
  case' f => exact fun b _ => b
  case h => delta KKs S H b0 b10_0 b11_0 b12_0 b13_0 b14_0 b15_0 b16_0 b16_1 b16_2 b16_3 b16_4 b16_5 b16_6 b17 b18 b19 b21 b22 b23 b25 b29 b2_0 b30 b32_0 b32_1 b32_10 b32_11 b32_2 b32_3 b32_4 b32_5 b32_6 b32_7 b32_8 b32_9 b34_0 b35_0 b37_0 b39 b3_0 b42 b43 b44 b46_0 b46_1 b46_2 b46_3 b46_4 b46_5 b46_6 b49 b50 b51 b52 b53 b54 b55 b6 b9_0 p0 p10_0 p11_0 p12_0 p13_0 p14_0 p15_0 p16_0 p16_1 p16_2 p16_3 p16_4 p16_5 p16_6 p17 p18 p19 p21 p22 p23 p25 p29 p2_0 p30 p32_0 p32_1 p32_10 p32_11 p32_2 p32_3 p32_4 p32_5 p32_6 p32_7 p32_8 p32_9 p34_0 p35_0 p37_0 p39 p3_0 p42 p43 p44 p46_0 p46_1 p46_2 p46_3 p46_4 p46_5 p46_6 p49 p50 p51 p52 p53 p54 p55 p6 p9_0 s0 s10_0 s11_0 s12_0 s13_0 s14_0 s15_0 s16_0 s16_1 s16_2 s16_3 s16_4 s16_5 s16_6 s17 s18 s19 s21 s22 s23 s25 s29 s2_0 s30 s32_0 s32_1 s32_10 s32_11 s32_2 s32_3 s32_4 s32_5 s32_6 s32_7 s32_8 s32_9 s34_0 s35_0 s37_0 s39 s3_0 s42 s43 s44 s46_0 s46_1 s46_2 s46_3 s46_4 s46_5 s46_6 s49 s50 s51 s52 s53 s54 s55 s6 s9_0; exact rfl
abbrev ads : List Addr := 2 :: 3 :: 15 :: 17 :: 18 :: 20 :: 21 :: 22 :: 29 :: 31 :: 32 :: 34 :: 35 :: 36 :: 37 :: 38 :: 39 :: 42 :: 49 :: 51 :: 52 :: 54 :: 55 :: 56 :: 57 :: 58 :: 61 :: 63 :: 64 :: 66 :: 67 :: 75 :: 77 :: 78 :: 80 :: 81 :: 82 :: 83 :: 84 :: 85 :: 86 :: 89 :: 96 :: 98 :: 99 :: 101 :: 102 :: 103 :: 104 :: 105 :: 108 :: 115 :: 117 :: 118 :: 120 :: 121 :: 122 :: 123 :: 124 :: 127 :: 134 :: 136 :: 137 :: 139 :: 140 :: 141 :: 142 :: 143 :: 146 :: 153 :: 155 :: 156 :: 158 :: 159 :: 160 :: 161 :: 162 :: 165 :: 172 :: 174 :: 175 :: 177 :: 178 :: 179 :: 180 :: 181 :: 191 :: 192 :: 194 :: 195 :: 197 :: 198 :: 199 :: 200 :: 201 :: 202 :: 203 :: 213 :: 215 :: 216 :: 218 :: 219 :: 220 :: 222 :: 223 :: 225 :: 226 :: 227 :: 229 :: 230 :: 232 :: 233 :: 234 :: 236 :: 237 :: 239 :: 240 :: 241 :: 243 :: 244 :: 246 :: 247 :: 248 :: 250 :: 251 :: 253 :: 254 :: 255 :: 257 :: 258 :: 260 :: 261 :: 262 :: 263 :: 264 :: 265 :: 266 :: 269 :: 271 :: 272 :: 274 :: 275 :: 276 :: 278 :: 279 :: 281 :: 282 :: 283 :: 285 :: 286 :: 288 :: 289 :: 290 :: 292 :: 293 :: 295 :: 296 :: 297 :: 299 :: 300 :: 302 :: 303 :: 304 :: 306 :: 307 :: 309 :: 310 :: 311 :: 313 :: 314 :: 316 :: 317 :: 318 :: 320 :: 321 :: 323 :: 324 :: 325 :: 328 :: 329 :: 337 :: 339 :: 340 :: 342 :: 343 :: 344 :: 346 :: 347 :: 349 :: 350 :: 351 :: 353 :: 354 :: 356 :: 357 :: 358 :: 360 :: 361 :: 363 :: 364 :: 365 :: 367 :: 368 :: 370 :: 371 :: 372 :: 375 :: 376 :: 377 :: 379 :: 380 :: 382 :: 383 :: 384 :: 386 :: 387 :: 389 :: 390 :: 391 :: 393 :: 394 :: 396 :: 397 :: 398 :: 400 :: 401 :: 403 :: 404 :: 405 :: 407 :: 408 :: 410 :: 411 :: 412 :: 414 :: 415 :: 417 :: 418 :: 419 :: 420 :: 421 :: 422 :: 423 :: 433 :: 435 :: 436 :: 438 :: 439 :: 440 :: 441 :: 442 :: 443 :: 444 :: 454 :: 456 :: 457 :: 459 :: 460 :: 461 :: 462 :: 463 :: 464 :: 465 :: 475 :: 476 :: 478 :: 479 :: 481 :: 482 :: 483 :: 484 :: 485 :: 486 :: 487 :: 490 :: 492 :: 493 :: 495 :: 496 :: 497 :: 500 :: 501 :: 502 :: 504 :: 505 :: 507 :: 508 :: 509 :: 511 :: 512 :: 514 :: 515 :: 523 :: 525 :: 526 :: 528 :: 529 :: 530 :: 532 :: 533 :: 535 :: 536 :: 537 :: 539 :: 540 :: 542 :: 543 :: 544 :: 546 :: 547 :: 549 :: 550 :: 551 :: 553 :: 554 :: 556 :: 557 :: 558 :: 560 :: 561 :: 563 :: 564 :: 565 :: 567 :: 568 :: 570 :: 571 :: 572 :: 573 :: 574 :: 575 :: 576 :: 579 :: 580 :: 582 :: 583 :: 585 :: 586 :: 587 :: 589 :: 590 :: 592 :: 593 :: 594 :: 596 :: 597 :: 599 :: 600 :: 601 :: 603 :: 604 :: 606 :: 607 :: 608 :: 610 :: 611 :: 613 :: 614 :: 615 :: 617 :: 618 :: 620 :: 621 :: 622 :: 625 :: 626 :: []
theorem ads_eq : ∀ P, ads = (hpK P).map (·.1) := fun _ => by kernel_rfl
end THK
end MineHd
namespace MineHd
section THL
open PySem PySem.W PyProof.Rows
noncomputable def vwK : Program := view pw [0,2,3,5,6,8,9,10,11,12,13,14,15,16,17,18,19,21,22,23,25,27,28,29,30,32,34,35,37,39,41,42,43,44,46,48,49,50,51,52,53,54,55]
abbrev LV : List PySem.Str := [PySem.Str.ofString "Limits", PySem.Str.ofString "_law_words"]
noncomputable abbrev HH : Hook := kmHook hpK ads ads_eq [623]
noncomputable abbrev XX (s : Shared) : Bool := xlAt vwK [] s && recOk (RowW.records PySem.Challenge.rw_qz0100_01.row.toRowW) s
theorem looks (w : World) : (fun os => (runR (PySem.W.Fast.tw6613529449190102663 11 (some (.ref 6))) (PySem.W.Fast.tw10156331382660048174 (PySem.W.Fast.tw11892475500146522536 PySem.W.Fast.tw14364793385576792824) pw w) 6000 (S0 w os) (topStub pw)).map fun s => ((staticsOk (importedModules pw.main.body) (boot_heap w.params) s.abs.heap && namesBound pw s.abs.heap && gensDone s.abs && laidKept (boot_heap w.params) s.abs.heap),
        PySem.W.Fast.tw4187177175401517315 vwK LV (importedModules pw.main.body) XX true s.abs, HH.obs s.abs)) = fun _ => some (true, openGood vwK LV, HH.val w) := by kernel_rfl
theorem left : LeftO pw vwK LV XX HH.obs HH.val 6000 := left_quick open_boot size_boot boot_abs looks
end THL
end MineHd
namespace MineHd
section THM
open PySem PySem.W PyProof.Rows
theorem well : OpenLaw.wellSaid PySem.Challenge.rw_qz0100_01 = true := by kernel_rfl
noncomputable abbrev RR : RowW := PySem.Challenge.rw_qz0100_01.row.toRowW
noncomputable def dk : DefRec × List (PySem.Str × PySem.Expr) := by
  refine' (?f : (b : DefRec × List (PySem.Str × PySem.Expr)) → defOf vwK RR.name = some b → DefRec × List (PySem.Str × PySem.Expr)) ?b ?h
  case' f => exact fun b _ => b
  case h => (conv => lhs; whnf)
end THM
end MineHd
namespace MineHd
section THN
open PySem PySem.W PyProof.Rows
noncomputable def lawD : DefRec := by
  refine' (?f : (b : DefRec) → dk.1 = b → DefRec) ?b ?h
  case' f => exact fun b _ => b
  case h => (conv => lhs; whnf)
theorem hdT (walk : WalkO vwK LV (XL vwK []) HH.says RR lawD [] fun f vs => PySem.call f vs) : PySem.Challenge.rw_qz0100_01.Holds := by
  refine holds_law well fun said => ?_
  refine holds_open (q := vwK) (loose := LV) (Xt := XX) (XP := XL vwK []) (Yf := Hook.obs HH) (Ya := Hook.val HH) (YP := Hook.says HH) (N := 6000) left (Hook.of HH) (Hook.keeps HH) (fun s e => xl_of s (Bool.and_eq_true_iff.mp e).1) XL.keeps (by kernel_rfl) (by kernel_rfl) (by kernel_rfl) (fun s e => recFacts_of (Bool.and_eq_true_iff.mp e).2) (by rfl) said (by decide +kernel) ⟨rfl, rfl, rfl, rfl, rfl, by decide +kernel⟩ ?hw walk
  w_witness2
end THN
end MineHd
namespace Mine
section TQBase
open PySem PySem.W PyProof.Rows PySem.Spec PySem.Calls
open MineHd (hpK vwK hdT)
theorem warm_QBase : (fun (_ : OpenLaw) => hpK = hpK) PySem.Challenge.rw_qz0100_01 := by k_fill; rfl
noncomputable abbrev PR : PySem.Program := PySem.Challenge.rw_qz0100_01.row.prog
noncomputable abbrev LO : List PySem.Str := looseW vwK [PySem.Str.ofString "Limits", PySem.Str.ofString "_law_words"]
local macro_rules | `(tactic| k_all) => `(tactic| assumption)
open PyProof.V PySem.SeqAt
def OkS (x : PySem.Str) : Prop := PyData.strOk x = true
theorem readsAll_of_strs {h : Heap} {vs : List Value} {ns : List PySem.Str} (H : PyProof.Rows.StrsAre vs ns) : ReadsAll h vs (ns.map PyData.str) [] := by
  induction H with
  | nil => exact .nil
  | cons y t r ih =>
    have := ReadsAll.cons (Reads.str (h := h) y t) ih
    simpa using this
theorem reads_of_strs {h : Heap} {a : Addr} {vs : List Value} {ns : List PySem.Str} (hl : h.IsList a vs.toArray) (hi : PyProof.Rows.StrsAre vs ns) : Reads h (.ref a) (.list (ns.map PyData.str)) [a] := by
  obtain ⟨o, ho, hc, n, hd⟩ := hl
  exact Reads.list ho hc hd (by simpa using readsAll_of_strs hi)
theorem canLayAll0_strs : ∀ ns : List PySem.Str, (∀ x ∈ ns, OkS x) → PyData.canLayAll0 (ns.map PyData.str) = true
  | [], _ => by simp [PyData.canLayAll0]
  | n :: r, h => by
    have h1 : PyData.strOk n = true := h n (.head _)
    simp [PyData.canLayAll0, PyData.canLay0, h1, canLayAll0_strs r fun x hx => h x (.tail _ hx)]
theorem depthAll_strs : ∀ ns : List PySem.Str, PyData.depthAll (ns.map PyData.str) ≤ 1
  | [] => by simp [PyData.depthAll]
  | n :: r => by
    have := depthAll_strs r
    simp only [List.map_cons, PyData.depthAll, PyData.depth]
    omega
theorem shaped_strs (ns : List PySem.Str) (h : ∀ x ∈ ns, OkS x) : shaped (.list (ns.map PyData.str)) = true := by
  have h1 := depthAll_strs ns
  have h2 : PyData.depth (.list (ns.map PyData.str)) ≤ 64 := by simp only [PyData.depth]; omega
  show (PyData.canLay0 (.list (ns.map PyData.str)) && decide (PyData.depth (.list (ns.map PyData.str)) ≤ 64)) = true
  rw [Bool.and_eq_true]
  exact ⟨by simp only [PyData.canLay0]; exact canLayAll0_strs ns h, decide_eq_true h2⟩
theorem noMix_strs : ∀ ns ms : List PySem.Str, noMixAll (ns.map PyData.str) (ms.map PyData.str) = true
  | [], [] => by simp [noMixAll]
  | [], _ :: _ => by simp [noMixAll]
  | _ :: _, [] => by simp [noMixAll]
  | _ :: r, _ :: q => by simp [noMixAll, noMix, noMix_strs r q]
theorem same_strs : ∀ ns ms : List PySem.Str, PySem.Spec.sameAll (ns.map PyData.str) (ms.map PyData.str) = decide (ns = ms)
  | [], [] => by simp [PySem.Spec.sameAll]
  | [], _ :: _ => by simp [PySem.Spec.sameAll]
  | _ :: _, [] => by simp [PySem.Spec.sameAll]
  | n :: r, k :: q => by
    simp only [List.map_cons, PySem.Spec.sameAll, PySem.Spec.same, same_strs r q]
    by_cases h : n = k <;> simp [h]
section
variable {prog : Program} {w : World} {A : Around} {E : Value → Shared → Prop} {s : Shared}
theorem eq_strs {a b : Addr} {vs us : List Value} {ns ms : List PySem.Str} {Q : Value → Shared → Prop} (hl : s.heap.IsList a vs.toArray) (hi : PyProof.Rows.StrsAre vs ns) (hl' : s.heap.IsList b us.toArray) (hi' : PyProof.Rows.StrsAre us ms) (h1 : ∀ x ∈ ns, OkS x) (h2 : ∀ x ∈ ms, OkS x) (hu : A.units + 64 < cLine)
    (h : Q (.bool (decide (ns = ms))) s) : wpAny (model prog w) A (compareOp .Eq (.ref a) (.ref b)) Q E s :=
  eq_dataH_same (reads_of_strs hl hi) (reads_of_strs hl' hi') (shaped_strs ns h1) (shaped_strs ms h2) hu (by simp only [noMix]; exact noMix_strs ns ms) (by simp only [PySem.Spec.same]; rw [same_strs]; exact h)
theorem ne_strs {a b : Addr} {vs us : List Value} {ns ms : List PySem.Str} {Q : Value → Shared → Prop} (hl : s.heap.IsList a vs.toArray) (hi : PyProof.Rows.StrsAre vs ns) (hl' : s.heap.IsList b us.toArray) (hi' : PyProof.Rows.StrsAre us ms) (h1 : ∀ x ∈ ns, OkS x) (h2 : ∀ x ∈ ms, OkS x) (hu : A.units + 64 < cLine)
    (h : Q (.bool (!decide (ns = ms))) s) : wpAny (model prog w) A (compareOp .NotEq (.ref a) (.ref b)) Q E s :=
  ne_dataH_same (reads_of_strs hl hi) (reads_of_strs hl' hi') (shaped_strs ns h1) (shaped_strs ms h2) hu (by simp only [noMix]; exact noMix_strs ns ms) (by simp only [PySem.Spec.same]; rw [same_strs]; exact h)
end
section
variable {prog : Program} {w : World} {A : Around} {E : Value → Shared → Prop} {s : Shared} {h₀ : Heap} {L l : Addr}
theorem strsAre_length {vs : List Value} {ns : List PySem.Str} (H : PyProof.Rows.StrsAre vs ns) : vs.length = ns.length := by
  induction H with
  | nil => rfl
  | cons y t r ih => simp [ih]
theorem len_strs {news : List (Addr × Obj)} {us : List Value} {ns : List PySem.Str} {c : Nat} {Q : Value → Shared → Prop} (N : News h₀ L s.heap news) (hm : (l, W.listOf us.toArray c) ∈ news) (e : PyProof.Rows.StrsAre us ns) (hfit : ns.length ≤ 100000)
    (h : Q (.int (ns.length : Int) (s.toks + 1)) { s with toks := s.toks + 1 + 1 }) : wpAny (model prog w) A (call (.builtin "len") [.ref l]) Q E s :=
  kst_len N hm (strsAre_length e) (by omega) h
end
theorem StrsAre.snoc {vs : List Value} {ns : List PySem.Str} (H : PyProof.Rows.StrsAre vs ns) (y : PySem.Str) (t : Tok) : PyProof.Rows.StrsAre (vs ++ [.str y t]) (ns ++ [y]) := by
  induction H with
  | nil => exact .cons y t .nil
  | cons z u _ ih => exact .cons z u ih
theorem decide_cons_nil {y : PySem.Str} {ys : List PySem.Str} : (!decide (y :: ys = [])) = true := by simp
theorem decide_nil_nil : (!decide (([] : List PySem.Str) = [])) = false := by simp
section
variable {prog : Program} {w : World} {A : Around} {E : Value → Shared → Prop} {s : Shared} {h₀ : Heap} {L l : Addr}
theorem join_strs {news : List (Addr × Obj)} {us : List Value} {ns : List PySem.Str} {c : Nat} {x : PySem.Str} {t : Tok} {Q : Value → Shared → Prop} (N : News h₀ L s.heap news) (hm : (l, W.listOf us.toArray c) ∈ news) (e : PyProof.Rows.StrsAre us ns)
    (hx : x.length ≤ 64) (hn : ns.length ≤ 2000) (hs : (ns.map (·.length)).sum ≤ 2000000)
    (h : ∀ t' k, Q (.str (Txt.join x ns) t') { s with toks := k }) : wpAny (model prog w) A (call (.builtin "str.join") [.str x t, .ref l]) Q E s := by
  have hl : s.heap.IsList l us.toArray := ⟨_, (N _ hm).1, rfl, c, rfl⟩
  exact PyProof.Rows.join_listC hl (by simpa using e) hx (by omega) h
end
/-! exceptions of a class of the text, with a word P of the exception object that no change of its fields touches -/
section
open PySem
structure FieldsFree (P : Obj → Prop) : Prop where
  map : ∀ o f, P o → P (o.mapFields f)
def TracedP (P : Obj → Prop) (h base : Heap) (e : Addr) (fl : Value) : Prop :=
  ∃ oe vs T oT ts, h.get? e = some oe ∧ P oe ∧ oe.data = .fields vs ∧ vs[1]? = some (.ref T) ∧ base.get? T = none ∧ T ≠ e ∧ h.get? T = some oT ∧ oT.data = .fields ts ∧ ts[3]? = some fl
def LeftP (P : Obj → Prop) (base : Heap) (l : List Env) (e : Addr) (fl : Value) (h h' : Heap) : Prop :=
  base.StaysIn h' ∧ h'.FunFrames base l ∧ TracedP P h' base e fl ∧ h.UpToSlots h'
def FlyP (P : Obj → Prop) (base : Heap) (l : List Env) (e : Addr) (h : Heap) : Prop :=
  base.StaysIn h ∧ base.get? e = none ∧ h.FunFrames base l ∧ TracedP P h base e .none
def HeldP (P : Obj → Prop) (base : Heap) (l : List Env) (e L : Addr) (h : Heap) : Prop :=
  base.StaysIn h ∧ base.get? e = none ∧ h.FunFrames base l ∧ TracedP P h base e (rawInt L)
variable {M : Model} {A : Around} {E : Value → Shared → Prop} {s : Shared} {P : Obj → Prop} {base : Heap} {env : Env} {outer l : List Env} {L e : Addr}
theorem entryP (hP : FieldsFree P) {oe : Obj} {vs : Array Value} {head : Value} {hadNext : Bool} {Q : Unit → Shared → Prop}
    (hfr : A.frames = some (env :: outer)) (hl : s.heap.FunFrames base (env :: outer)) (hf : env.frame = some L)
    (he : s.heap.get? e = some oe) (hpe : P oe) (hkb : base.StaysIn s.heap) (hen : base.get? e = none) (hd : oe.data = .fields vs) (hsz : 1 < vs.size)
    (h : ∀ h', LeftP P base (env :: outer) e (rawInt L) s.heap h' → Q () { s with heap := h' }) :
    wpAny M A (do let a ← frameOf env; let pl ← entryPlaceOf L hadNext; let b ← EntryCells.newEntry head a .none (rawInt L) .none pl; setField (.ref e) 1 b) Q E s := by
  have hene : e ∉ (env :: outer).filterMap (·.frame) := fun hm => by
    obtain ⟨_, o, ho, hnf⟩ := hl.mem hm
    rw [he] at ho; injection ho with ho; subst ho; exact hnf vs hd
  refine wpAny_bind (wpAny_frameOf_fun hfr hl hf fun h₁ hs₁ => ?_)
  refine wpAny_bind (wpAny_entryPlaceOf fun pl hpl => ?_)
  unfold EntryCells.newEntry newFields
  refine wpAny_bind (wpAny_newObj_type ?_ (hpl.sizeOk5 _ _ _ _ _))
  have he₁ : h₁.get? e = some oe := (hs₁.2.1 e hene).trans he
  have kb₁ : base.StaysIn h₁ := fun b o hbo => (hs₁.2.1 b fun hm => by rw [(hl.mem hm).1] at hbo; cases hbo).trans (hkb b o hbo)
  generalize hob : ({ cls := .type "traceback", dict := none, data := .fields ([head, .ref L, .none, rawInt L, .none] ++ (if pl.isEmpty then List.replicate 6 Value.none else pl)).toArray } : Obj) = ob
  have hobd : ob.data = .fields ([head, .ref L, .none, rawInt L, .none] ++ (if pl.isEmpty then List.replicate 6 Value.none else pl)).toArray := by rw [← hob]
  have he₂ := Heap.get?_push_of_some (h := h₁) ob he₁
  refine wpAny_setField he₂ hd hsz (h _ ?_)
  have hTe : h₁.objs.size ≠ e := Nat.ne_of_gt (Heap.lt_size he₁)
  have hd₃ := Obj.data_mapFields hd (·.setIfInBounds 1 (Value.ref h₁.objs.size))
  have he₃ := Heap.get?_update_self (Obj.mapFields (·.setIfInBounds 1 (Value.ref h₁.objs.size))) he₂ (Obj.isFreed_of_fields hd₃)
  have hT₃ := (Heap.get?_update_other (h₁.push ob) (Obj.mapFields (·.setIfInBounds 1 (Value.ref h₁.objs.size))) (Ne.symm hTe)).trans (Heap.get?_push_size h₁ (by rw [← hob]; rfl))
  have keep : ∀ b o, b ≠ e → h₁.get? b = some o → ((h₁.push ob).update e (Obj.mapFields (·.setIfInBounds 1 (Value.ref h₁.objs.size)))).get? b = some o := fun b o hbe hb => by
    rw [Heap.get?_update_other _ _ (Ne.symm hbe)]
    exact Heap.get?_push_of_some _ hb
  have noRecord : ∀ b o, s.heap.get? b = some o → (∀ vs, o.data ≠ .fields vs) → b ≠ e := fun b o hb hnf q => by
    rw [q, he] at hb; injection hb with hb; subst hb; exact hnf vs hd
  refine ⟨fun b o hbo => keep b o (fun q => by rw [q, hen] at hbo; cases hbo) (kb₁ b o hbo), hl.of_keeps fun b o hb hnf => ?_, ?_, fun b o hb hnf => ?_⟩
  · obtain ⟨sl, hs⟩ := hs₁.2.2 b o hb
    exact ⟨_, keep b _ (noRecord b o hb hnf) hs, rfl⟩
  · exact ⟨_, _, h₁.objs.size, _, _, he₃, hP.map _ _ hpe, hd₃, by simp [hsz], kb₁.fresh, hTe, hT₃, hobd, by first | (simp; done) | (rcases hpl with rfl | ⟨_, _, _, _, _, _, _, rfl⟩ <;> simp)⟩
  · obtain ⟨sl, hs⟩ := hs₁.2.2 b o hb
    exact ⟨sl, keep b _ (noRecord b o hb hnf) hs⟩
theorem setFlightP (hP : FieldsFree P) {fl : Value} {Q : Unit → Shared → Prop}
    (hkb : base.StaysIn s.heap) (hl : s.heap.FunFrames base l) (ht : TracedP P s.heap base e fl)
    (h : ∀ h', base.StaysIn h' → h'.FunFrames base l → TracedP P h' base e .none → s.heap.UpToSlots h' → Q () { s with heap := h' }) :
    wpAny M A (setFlight (.ref e) none) Q E s := by
  obtain ⟨oe, vs, T, oT, ts, he, hcls, hd, h1, hnT, hTe, hT, hdT, h3⟩ := ht
  have hsz3 : 3 < ts.size := (Array.getElem?_eq_some_iff.mp h3).1
  have other : ∀ b, b ≠ T → (s.heap.update T (Obj.mapFields (·.setIfInBounds 3 ((none : Option Addr).elim Value.none fun f => rawInt f)))).get? b = s.heap.get? b :=
    fun b hb => Heap.get?_update_other _ _ (Ne.symm hb)
  have noRecord : ∀ b o, s.heap.get? b = some o → (∀ vs, o.data ≠ .fields vs) → b ≠ T := fun b o hb hnf q => by
    rw [q, hT] at hb; injection hb with hb; subst hb; exact hnf ts hdT
  unfold setFlight
  refine wpAny_bind (wpAny_field he hd h1 ?_)
  rw [if_pos (show (Value.ref T != Value.none) = true from by simp)]
  refine wpAny_setField hT hdT hsz3 (h _ (fun b o hbo => (other b fun q => by rw [q, hnT] at hbo; cases hbo).trans (hkb b o hbo))
    (hl.of_keeps fun b o hb hnf => ⟨o, (other b (noRecord b o hb hnf)).trans hb, rfl⟩) ?_ fun b o hb hnf => ⟨o.slots, (other b (noRecord b o hb hnf)).trans hb⟩)
  exact ⟨oe, vs, T, _, _, (other e (Ne.symm hTe)).trans he, hcls, hd, h1, hnT, hTe, Heap.get?_update_self _ hT (Obj.isFreed_of_fields (Obj.data_mapFields hdT _)), Obj.data_mapFields hdT _, by simp [hsz3]⟩
theorem noteFrame_newP (hP : FieldsFree P) {oe : Obj} {vs : Array Value} {Q : Unit → Shared → Prop}
    (hfr : A.frames = some (env :: outer)) (hl : s.heap.FunFrames base (env :: outer)) (hf : env.frame = some L)
    (he : s.heap.get? e = some oe) (hpe : P oe) (hkb : base.StaysIn s.heap) (hen : base.get? e = none) (hd : oe.data = .fields vs) (h1 : vs[1]? = some .none)
    (h : ∀ h', LeftP P base (env :: outer) e (rawInt L) s.heap h' → Q () { s with heap := h' }) : wpAny M A (noteFrame (.ref e) env) Q E s := by
  unfold noteFrame
  simp only [hf]
  refine wpAny_bind (wpAny_field he hd h1 ?_)
  rw [if_neg (by decide)]
  exact entryP hP hfr hl hf he hpe hkb hen hd (Array.getElem?_eq_some_iff.mp h1).1 h
theorem noteFrame_onP (hP : FieldsFree P) {Q : Unit → Shared → Prop}
    (hfr : A.frames = some (env :: outer)) (hf : env.frame = some L) (hfl : FlyP P base (env :: outer) e s.heap)
    (h : ∀ h', HeldP P base (env :: outer) e L h' → s.heap.UpToSlots h' → Q () { s with heap := h' }) : wpAny M A (noteFrame (.ref e) env) Q E s := by
  obtain ⟨hkb, hen, hl, oe, vs, T, oT, ts, he, hpe, hd, h1, hnT, hTe, hT, hdT, h3⟩ := hfl
  unfold noteFrame
  simp only [hf]
  refine wpAny_bind (wpAny_field he hd h1 ?_)
  rw [if_pos (show (Value.ref T != Value.none) = true from by simp)]
  refine wpAny_bind (wpAny_field hT hdT h3 ?_)
  rw [if_neg (show ¬ ((Value.none == rawInt L) = true) from by simp [rawInt])]
  refine wpAny_bind (wpAny_setField hT hdT (Array.getElem?_eq_some_iff.mp h3).1 ?_)
  have other : ∀ b, b ≠ T → (s.heap.update T (Obj.mapFields (·.setIfInBounds 3 Value.none))).get? b = s.heap.get? b := fun b hb => Heap.get?_update_other _ _ (Ne.symm hb)
  have noRecord : ∀ b o, s.heap.get? b = some o → (∀ vs, o.data ≠ .fields vs) → b ≠ T := fun b o hb hnf q => by
    rw [q, hT] at hb; injection hb with hb; subst hb; exact hnf ts hdT
  refine entryP hP hfr (hl.of_keeps fun b o hb hnf => ⟨o, (other b (noRecord b o hb hnf)).trans hb, rfl⟩) hf ((other e (Ne.symm hTe)).trans he) hpe
    (fun b o hbo => (other b fun q => by rw [q, hnT] at hbo; cases hbo).trans (hkb b o hbo)) hen hd (Array.getElem?_eq_some_iff.mp h1).1
    fun h' ⟨x1, x2, x3, x4⟩ => h h' ⟨x1, hen, x2, x3⟩ fun b o hb hnf => x4 b o ((other b (noRecord b o hb hnf)).trans hb) hnf
theorem landsP (hP : FieldsFree P) {Q : Unit → Shared → Prop} (hh : HeldP P base l e L s.heap)
    (hQ : ∀ h', FlyP P base l e h' → s.heap.UpToSlots h' → Q () { s with heap := h' }) : wpAny M A (setFlight (.ref e) none) Q E s := by
  obtain ⟨f1, f2, f3, f4⟩ := hh
  exact setFlightP hP f1 f3 f4 fun h' k1 k2 k3 k4 => hQ h' ⟨k1, f2, k2, k3⟩ k4
theorem landsAgainP (hP : FieldsFree P) {Q : Unit → Shared → Prop} (hh : FlyP P base l e s.heap)
    (hQ : ∀ h', FlyP P base l e h' → s.heap.UpToSlots h' → Q () { s with heap := h' }) : wpAny M A (setFlight (.ref e) none) Q E s := by
  obtain ⟨f1, f2, f3, f4⟩ := hh
  exact setFlightP hP f1 f3 f4 fun h' k1 k2 k3 k4 => hQ h' ⟨k1, f2, k2, k3⟩ k4
theorem leaves_onP (hP : FieldsFree P) {Q : Unit → Shared → Prop} (hfr : A.frames = some (env :: outer)) (hf : env.frame = some L) (hfl : FlyP P base (env :: outer) e s.heap)
    (hQ : ∀ h', FlyP P base outer e h' → s.heap.UpToSlots h' → Q () { s with heap := h' }) : wpAny M A (leaving env (.ref e)) Q E s := by
  unfold leaving
  refine wpAny_bind (noteFrame_onP hP hfr hf hfl fun h' hh hs => ?_)
  exact landsP hP hh fun h'' ⟨k1, k2, ⟨_, _, k3⟩, k4⟩ hs' => hQ h'' ⟨k1, k2, k3, k4⟩ (hs.trans hs')
theorem leaves_newP (hP : FieldsFree P) {oe : Obj} {vs : Array Value} {Q : Unit → Shared → Prop}
    (hfr : A.frames = some (env :: outer)) (hl : s.heap.FunFrames base (env :: outer)) (hf : env.frame = some L)
    (he : s.heap.get? e = some oe) (hpe : P oe) (hkb : base.StaysIn s.heap) (hen : base.get? e = none) (hd : oe.data = .fields vs) (h1 : vs[1]? = some .none)
    (hQ : ∀ h', FlyP P base outer e h' → s.heap.UpToSlots h' → Q () { s with heap := h' }) : wpAny M A (leaving env (.ref e)) Q E s := by
  unfold leaving
  refine wpAny_bind (noteFrame_newP hP hfr hl hf he hpe hkb hen hd h1 fun h' ⟨x1, x2, x3, x4⟩ => ?_)
  exact landsP hP ⟨x1, hen, x2, x3⟩ fun h'' ⟨k1, k2, ⟨_, _, k3⟩, k4⟩ hs' => hQ h'' ⟨k1, k2, k3, k4⟩ (x4.trans hs')
end
section
open PySem Builtin Builtin.ObjectAttr
theorem refuse_die (self : Value) : refuseLoop self "__setattr__" [.ref 58, .ref 38, .type "Exception", .type "BaseException", .type "object"] = pure () := by
  rw [refuseLoop_ref, refuseLoop_ref]; exact PySem.F.store_Exception.passes self
theorem die_cls (w : World) : ∃ cd, clsIn (hpK w.params) 58 = some cd ∧ cd.mro = [.ref 58, .ref 38, .type "Exception", .type "BaseException", .type "object"] ∧ cd.hasDict = true := ⟨_, rfl, rfl, rfl⟩
variable {w : World} {A : Around} {E : Value → Shared → Prop} {s : Shared} {x : Addr} {ox : Obj} {od : Option Obj} {name : PySem.Str} {tk : Tok} {v : Value} {R : Result → Shared → Prop} {h₀ : Heap} {L : Addr} {m : PySem.Str → Option Value}
theorem osaE (X : (hpK w.params).In s.heap) (I : InstAt s.heap x ox 58 od) (ha : findIn (hpK w.params) (.ref 58) name = some none)
    (h : wpAny (model PR w) A.in1 (storeInOwnDict (.ref x) (.ref 58) (.str name tk) name v false)
      (fun fin s' => match fin with | .done f => R (.ok f) s' | .again c' => c'.quiet = true ∧ codeAny (model PR w) A c' R s') (fun e s' => R (.error e) s') s) :
    codeAny (model PR w) A (.call (.builtin "object.__setattr__") ⟨[.ref x, .str name tk, v], []⟩) R s := by
  have SF := PySem.F.store_object
  obtain ⟨cd, hc, hm, _⟩ := die_cls w
  have sub : Looks (model PR w) s.heap (isInstance (.ref x) (.type "object")) true := I.type.andThen (looks_mroIn X (by unfold mroIn; rw [hc, Option.bind_some, hm]; rfl))
  refine codeAny_call_builtin SF.slot.plain SF.entry (@check_slot (model PR w) _ _ s "object.__setattr__" "object" "__setattr__" (.ref x) [.str name tk, v] [] _ SF.kind SF.split sub (SF.args (.ref x) (.str name tk) v) ?_)
  have hmo : Looks (model PR w) s.heap (mroOf (.ref 58)) cd.mro := (looks_clsIn X hc).andThen .now
  rw [osa_eq, refuse_eq]
  refine wpAny_bind (wpAny_bind (I.type.here (wpAny_bind (hmo.here ?_))))
  rw [hm, refuse_die]
  exact wpAny_pure (wpAny_bind (I.type.here (wpAny_bind ((looks_findIn X ha).here (wpAny_bind (wpAny_pure h))))))
theorem storeIn (F : Fr h₀ L s.heap m) {dx : Addr} {pre post : List (Addr × Obj)} {es es' : List DictEntry} {n n' : Nat} {Q : PySem.Fin → Shared → Prop} (N : News h₀ L s.heap (pre ++ (dx, dictOf es n) :: post))
    (hl : (getL name es).isSome = true) (h1 : ∀ p ∈ pre, p.1 ≠ dx) (h2 : ∀ p ∈ post, p.1 ≠ dx)
    (e : (putL name (PyData.keyHash w.params name) (.str name s.toks) v es, putN name es n) = (es', n')) (hz : es'.length ≤ 1000)
    (h : ∀ h', Fr h₀ L h' m → News h₀ L h' (pre ++ (dx, dictOf es' n') :: post) → Q (.done (.ret .none)) { s with heap := h', toks := s.toks + 1 }) :
    wpAny (model PR w) A (storeInDict dx (.str name tk) name v) Q E s := by
  obtain ⟨e1, e2⟩ := Prod.mk.inj e
  have e' : Obj.putName name (PyData.keyHash w.params name) (.str name s.toks) v (dictOf es n) = dictOf es' n' := by rw [putName_dict, e1, e2]
  obtain ⟨U1, U2⟩ := news_upd (f := Obj.putName name (PyData.keyHash w.params name) (.str name s.toks) v) F N h1 h2 e' rfl
  have D := (N (dx, dictOf es n) (by simp)).1
  have D' := (U2 (dx, dictOf es' n') (by simp)).1
  unfold storeInDict newKeyGuard
  refine wpAny_bind (wpAny_pure (wpAny_bind ?_))
  unfold nsSet
  refine wpAny_bind (wpAny_bind (wpAny_askSetting (wpAny_pure (wpAny_bind (wpAny_mkText (wpAny_bind (wpAny_loadPart D ?_)))))))
  have c : (!es.toArray.any (·.key.isStr name) && es.toArray.any (·.refKey)) = false := by
    rw [← Array.any_toList, ← Array.any_toList]
    unfold getL at hl
    split at hl
    · rename_i en he
      rw [List.any_eq_true.mpr ⟨en, List.mem_of_find?_eq_some he, List.find?_some he⟩]; rfl
    · split at hl
      · cases hl
      · rename_i z; rw [Bool.not_eq_true] at z; rw [z, Bool.and_false]
  dsimp only
  rw [aRefKeyMayBeTheName_at, c]
  refine wpAny_updatePart D ?_
  refine wpAny_bind (wpAny_lookBehind D' (by show Data.pastItsLine (.dict es'.toArray n') = none; exact pastItsLine_dict (by rw [List.size_toArray, sizeLine_eq]; omega)) ?_)
  exact wpAny_pure (h _ U1 U2)
theorem setE_some (F : Fr h₀ L s.heap m) (X₀ : (hpK w.params).In h₀) {dx : Addr} {pre post : List (Addr × Obj)} {es es' : List DictEntry} {n n' : Nat} {Q : Unit → Shared → Prop} (N : News h₀ L s.heap (pre ++ (dx, dictOf es n) :: post))
    (hx : s.heap.get? x = some ox) (hc : ox.cls = .ref 58) (hn : notCls ox = true) (hdx : ox.dict = some dx)
    (ha : findIn (hpK w.params) (.ref 58) name = some none) (hs : findIn (hpK w.params) (.ref 58) "__setattr__" = some (some (.builtin "object.__setattr__")))
    (hl : (getL name es).isSome = true) (h1 : ∀ p ∈ pre, p.1 ≠ dx) (h2 : ∀ p ∈ post, p.1 ≠ dx)
    (e : (putL name (PyData.keyHash w.params name) (.str name (s.toks + 1)) v es, putN name es n) = (es', n')) (hz : es'.length ≤ 1000)
    (h : ∀ h', Fr h₀ L h' m → News h₀ L h' (pre ++ (dx, dictOf es' n') :: post) → Q () { s with heap := h', toks := s.toks + 2 }) :
    wpAny (model PR w) A (setAttr (.ref x) name v) Q E s := by
  have D := (N (dx, dictOf es n) (by simp)).1
  have I : InstAt s.heap x ox 58 (some (dictOf es n)) := ⟨hx, hc, hn, by rw [hdx]; exact D⟩
  have X := X₀.keeps F.keep
  obtain ⟨cd, hcd, _, hd'⟩ := die_cls w
  refine set_plain X I hs (osaE X I ha ?_)
  unfold storeInOwnDict ownStreamTells
  refine wpAny_bind (wpAny_pure ?_)
  refine wpAny_bind ?_
  unfold ownDictForStores instanceDict
  refine wpAny_bind (wpAny_loadPart hx ?_)
  rw [hc]
  refine wpAny_bind (Looks.here (s := { s with toks := s.toks + 1 }) (looks_clsIn X hcd) ?_)
  rw [hd', hdx]
  refine wpAny_pure ?_
  exact storeIn (s := { s with toks := s.toks + 1 }) F N hl h1 h2 e hz fun h' F' N' => h h' F' N'
theorem setE_none (F : Fr h₀ L s.heap m) (X₀ : (hpK w.params).In h₀) {vs : Array Value} {news : List (Addr × Obj)} {es' : List DictEntry} {n' : Nat} {Q : Unit → Shared → Prop}
    (N : News h₀ L s.heap ((x, { cls := .ref 58, data := .fields vs }) :: news)) (hap : ∀ p ∈ news, p.1 ≠ x)
    (ha : findIn (hpK w.params) (.ref 58) name = some none) (hs : findIn (hpK w.params) (.ref 58) "__setattr__" = some (some (.builtin "object.__setattr__")))
    (e : (putL name (PyData.keyHash w.params name) (.str name (s.toks + 1)) v [], putN name [] 0) = (es', n')) (hz : es'.length ≤ 1000)
    (h : ∀ h' dx, Fr h₀ L h' m → News h₀ L h' ((dx, dictOf es' n') :: (x, { cls := .ref 58, dict := some dx, data := .fields vs }) :: news) → (∀ p ∈ (x, ({ cls := .ref 58, dict := some dx, data := .fields vs } : Obj)) :: news, p.1 < dx) → Q () { s with heap := h', toks := s.toks + 2 }) :
    wpAny (model PR w) A (setAttr (.ref x) name v) Q E s := by
  have hx := (N _ (.head _)).1
  have I : InstAt s.heap x { cls := .ref 58, data := .fields vs } 58 none := ⟨hx, rfl, rfl, trivial⟩
  have X := X₀.keeps F.keep
  obtain ⟨cd, hcd, _, hd'⟩ := die_cls w
  refine set_plain X I hs (osaE X I ha ?_)
  unfold storeInOwnDict ownStreamTells
  refine wpAny_bind (wpAny_pure ?_)
  refine wpAny_bind ?_
  unfold ownDictForStores instanceDict
  refine wpAny_bind (wpAny_loadPart hx ?_)
  refine wpAny_bind (Looks.here (s := { s with toks := s.toks + 1 }) (looks_clsIn X hcd) ?_)
  rw [hd']
  refine wpAny_bind (wpAny_alloc ?_)
  have F₁ := F.push { cls := .type "dict", data := .dict #[] }
  have N₁ := News.push F N { cls := .type "dict", data := .dict #[] }
  have hx₁ := (N₁ _ (.tail _ (.head _))).1
  have lt : ∀ p ∈ (x, ({ cls := .ref 58, data := .fields vs } : Obj)) :: news, p.1 < s.heap.objs.size := fun p hp => Heap.lt_size (N p hp).1
  obtain ⟨F₂, N₂⟩ := news_upd (f := fun o : Obj => { o with dict := some s.heap.objs.size }) (o' := { cls := .ref 58, dict := some s.heap.objs.size, data := .fields vs }) (pre := [(s.heap.objs.size, { cls := .type "dict", data := .dict #[] })]) (post := news) F₁ N₁ (by intro p hp; rw [List.mem_singleton.mp hp]; exact Nat.ne_of_gt (lt _ (.head _))) hap rfl rfl
  refine wpAny_bind (wpAny_update hx₁ ?_)
  refine wpAny_pure ?_
  refine storeIn (pre := []) (post := (x, { cls := .ref 58, dict := some s.heap.objs.size, data := .fields vs }) :: news) (es := []) (n := 0) F₂ N₂ rfl (fun _ h => nomatch h) ?_ e hz fun h' F' N' => h h' _ F' N' ?_
  · intro p hp
    rcases List.mem_cons.mp hp with rfl | hp
    · exact Nat.ne_of_lt (lt (x, { cls := .ref 58, data := .fields vs }) (.head _))
    · exact Nat.ne_of_lt (lt _ (.tail _ hp))
  · intro p hp
    rcases List.mem_cons.mp hp with rfl | hp
    · exact lt (x, { cls := .ref 58, data := .fields vs }) (.head _)
    · exact lt _ (.tail _ hp)
end
section
open PySem
abbrev dieBm : List Value := [.ref 38, .type "Exception", .type "BaseException", .type "object"]
abbrev dieObj : Obj := excClassObj (PySem.Str.ofString "Die") (PySem.Str.ofString "Die") 58 57 [.ref 38] dieBm true [] [] false none none (some (.ref 42)) none (some (.str (PySem.Str.ofString "Die") 225)) (some (.str (PySem.Str.ofString "Die") 233)) (some (.bool true)) "Exception.__new__"
theorem die_at {w : World} {h : Heap} (X : (hpK w.params).In h) : h.get? 58 = some dieObj := X 58 _ rfl
abbrev excObj (t : Addr) : Obj := { cls := .ref 58, data := .fields #[.ref t, .none, .none, .none, .bool false, .none] }
theorem die_hasE : (Value.ref 58 :: dieBm).contains (.type "Exception") = true := by decide
theorem die_hasA : (Value.ref 58 :: dieBm).contains (.type "AttributeError") = false := by decide
theorem die_hasN : (Value.ref 58 :: dieBm).contains (.type "NameError") = false := by decide
theorem die_hasB : (Value.ref 58 :: dieBm).contains (.type "BaseException") = true := by decide
theorem die_hasD : (Value.ref 58 :: dieBm).contains (.ref 58) = true := by decide
section
variable {M : Model} {A : Around} {E : Value → Shared → Prop} {h : Heap} {g : Array GenState} {d : Drawn} {t : Nat} {os : OsState}
theorem check_new_die {rest : List Value} {Q : Unit → Shared → Prop} (hC : h.get? 58 = some dieObj) (hq : Q () ⟨h, g, d, t, os⟩) :
    wpAny M A (checkBuiltinCall "Exception.__new__" ⟨.ref 58 :: rest, []⟩) Q E ⟨h, g, d, t, os⟩ := by
  have F := PySem.F.excBase_Exception
  have hcont := die_hasE
  have hstar := F.noStar
  simp only [checkBuiltinCall, F.newKind, F.newSplit, F.newRow]
  repeat (first | refine wpAny_loadPart_at hC ?_ | (refine wpAny_isSubtype_exc hC ?_; rw [hcont]) | refine wpAny_staticBase_exc hC ?_ | refine wpAny_madeBy_exc hC ?_ | simp only [bne_self_eq_false, Bool.false_eq_true, if_false] | wp_step)
  exact hq
end
section
variable {prog : Program} {w : World} {A : Around} {R : Result → Shared → Prop} {h : Heap} {g : Array GenState} {d : Drawn} {t : Nat} {os : OsState}
theorem new_die {rest : List Value} (hC : h.get? 58 = some dieObj)
    (hq : R (.ok (.ret (.ref (h.objs.size + 1)))) ⟨(h.push { cls := .type "tuple", data := .seq rest.toArray }).push (excObj h.objs.size), g, d, t, os⟩) (hrest : rest.length ≤ sizeLine) :
    codeAny (model prog w) A (.builtin "Exception.__new__" ⟨.ref 58 :: rest, []⟩) R ⟨h, g, d, t, os⟩ := by
  have F := PySem.F.excBase_Exception
  have hends := F.ends
  have hcB := die_hasE
  have hcA := die_hasA
  have hcN := die_hasN
  refine codeAny_builtinAt F.entry ?_
  unfold Builtin.«BaseException.__new__»
  refine PySem.wpAt_bind ?_
  show PySem.wpAt _ _ _ (stack >>= _) _ _ _
  refine PySem.wpAt_bind (PySem.wpAt_stack fun p below => PySem.wpAt_of_wpAny ?_)
  wp_walk
  refine PySem.wpAt_of_wpAny ?_
  rw [F.owner]
  repeat (first | with_reducible refine wpAny_madeHere_exc F.canon hC ?_ | with_reducible refine wpAny_loadPart_at hC ?_ | (with_reducible refine wpAny_isSubtype_exc hC ?_; first | rw [hcB] | rw [hcA] | rw [hcN]) | wp_step)
  show R _ _
  rw [Heap.size_push]
  exact hq
end
section
variable {prog : Program} {w : World} {A : Around} {E : Value → Shared → Prop} {h : Heap} {g : Array GenState} {d : Drawn} {t : Nat} {os : OsState}
theorem check_init_die {M : Model} {e : Addr} {oe : Obj} {rest : List Value} {Q : Unit → Shared → Prop}
    (hC : h.get? 58 = some dieObj) (he : h.get? e = some oe) (hcls : oe.cls = .ref 58) (hq : Q () ⟨h, g, d, t, os⟩) :
    wpAny M A (checkBuiltinCall "Exception.__init__" ⟨.ref e :: rest, []⟩) Q E ⟨h, g, d, t, os⟩ := by
  have F := PySem.F.excBase_Exception
  have hcB := die_hasE
  have hshort := F.noStar
  simp only [checkBuiltinCall, F.initKind, F.initSplit, F.initRow]
  repeat (first | (with_reducible refine wpAny_loadPart_at he ?_; rw [hcls]) | with_reducible refine wpAny_loadPart_at hC ?_ | (with_reducible refine wpAny_isSubtype_exc hC ?_; rw [hcB]) | wp_step)
  refine wpAny_onRaise ?_
  rw [show ∀ (a b : String) (n : Nat), Bind.check ⟨.positional, "*", "Exception", .self, [⟨"args", .varPos, false⟩]⟩ a b n (List.map (fun x => x.fst) ({ pos := Value.ref e :: rest } : Args).kw) = pure () from
    fun a b n => check_star_args _ _ _ _ _ _]
  exact wpAny_pure hq
theorem type_call_die {rest : List Value} {fI : Addr} {oI : Obj} {mN : PySem.Str → Option Value} {Q : PySem.Fin → Shared → Prop}
    (hC : h.get? 58 = some dieObj) (hn : h.Ns 57 mN) (hi : mN "__init__" = some (.ref fI)) (hfI : h.get? fI = some oI) (hfc : oI.cls = .type "function")
    (hq : wpAny (model prog w) A (call (.ref fI) (.ref (h.objs.size + 1) :: rest)) (fun r s' => r = .none ∧ Q (.done (.ret (.ref (h.objs.size + 1)))) s') E ⟨(h.push { cls := .type "tuple", data := .seq rest.toArray }).push (excObj h.objs.size), g, d, t, os⟩) (hrest : rest.length ≤ sizeLine) :
    wpAny (model prog w) A (Builtin.«type.__call__» ⟨.ref 58 :: rest, []⟩) Q E ⟨h, g, d, t, os⟩ := by
  have F := PySem.F.excBase_Exception
  repeat (first | with_reducible refine wpAny_loadPart_at hC ?_ | with_reducible refine wpAny_madeBy_exc hC ?_ | wp_step)
  refine codeAny_call_builtin_code (Code.quiet_builtin _ F.quiet) (check_new_die hC ?_)
  refine new_die hC ?_ hrest
  show wpAny _ _ _ _ _ _
  have hC₁ := Heap.get?_push_of_some (excObj h.objs.size) (Heap.get?_push_of_some { cls := .type "tuple", data := .seq rest.toArray } hC)
  have hfI₁ := Heap.get?_push_of_some (excObj h.objs.size) (Heap.get?_push_of_some { cls := .type "tuple", data := .seq rest.toArray } hfI)
  have hn₁ : ((h.push { cls := .type "tuple", data := .seq rest.toArray }).push (excObj h.objs.size)).Ns 57 mN :=
    let ⟨o, es, ep, e, r⟩ := hn; ⟨o, es, ep, Heap.get?_push_of_some _ (Heap.get?_push_of_some _ e), r⟩
  have hget : ((h.push { cls := .type "tuple", data := .seq rest.toArray }).push (excObj h.objs.size)).get? (h.objs.size + 1) = some (excObj h.objs.size) := by heap_get
  have hcC := die_hasD
  unfold isInstance
  repeat (first | with_reducible refine wpAny_loadPart_at hget ?_ | (with_reducible refine wpAny_isSubtype_exc hC₁ ?_; rw [hcC]) | wp_step)
  show wpAny _ _ (typeLookup (.ref 58) _) _ _ _
  rw [typeLookup_eq]
  refine wpAny_bind (wpAny_mroOf_exc hC₁ ?_)
  rw [lookupAlong_cons]
  refine wpAny_bind (wpAny_classOwn_exc hC₁ hn₁ ?_)
  rw [hi]
  refine wpAny_pure (wpAny_holding (wpAny_bind ?_))
  unfold bindSpecial
  refine wpAny_bind (wpAny_typeOf (T := "function") ⟨_, hfI₁, hfc⟩ ?_)
  rw [if_pos (by decide)]
  refine wpAny_pure (wpAny_bind (wpAny_mono hq (fun r s' hr => ?_) fun _ _ x => x))
  obtain ⟨rfl, hQ⟩ := hr
  wp_walk
  exact hQ
theorem call_die {rest : List Value} {fI : Addr} {oI : Obj} {mN : PySem.Str → Option Value} {Q : Value → Shared → Prop}
    (hC : h.get? 58 = some dieObj) (hn : h.Ns 57 mN) (hi : mN "__init__" = some (.ref fI)) (hfI : h.get? fI = some oI) (hfc : oI.cls = .type "function")
    (hq : wpAny (model prog w) (A.under (.builtin "type.__call__" ⟨.ref 58 :: rest, []⟩)) (call (.ref fI) (.ref (h.objs.size + 1) :: rest)) (fun r s' => r = .none ∧ Q (.ref (h.objs.size + 1)) s') E ⟨(h.push { cls := .type "tuple", data := .seq rest.toArray }).push (excObj h.objs.size), g, d, t, os⟩) (hrest : rest.length ≤ sizeLine) :
    wpAny (model prog w) A (call (.ref 58) rest) Q E ⟨h, g, d, t, os⟩ := by
  have f1 := tc_lookup
  have f2 := tc_bind (.ref 58)
  have hT : (⟨h, g, d, t, os⟩ : Shared).TypeIs (.ref 58) "type" := ⟨_, hC, rfl⟩
  refine wpAny_call (codeAny_of_tree ?_)
  show wpAny _ _ (callAny (.ref 58) _) _ _ _
  repeat (any_goals (first | assumption | with_reducible refine wpAny_loadPart_at hC ?_ | wp_step))
  refine ⟨rfl, ?_⟩
  exact codeAny_call_builtin_at (Code.quiet_builtin _ (by decide +kernel)) entry_typeCall (wpAny_check_type_call_sub hC (type_call_die hC hn hi hfI hfc hq hrest))
theorem excInit {x : Addr} {h₀ : Heap} {L : Addr} {m : PySem.Str → Option Value} {t0 : Addr} {news : List (Addr × Obj)} {v : Value} {Q : Value → Shared → Prop}
    (F : Fr h₀ L h m) (X₀ : (hpK w.params).In h₀) (N : News h₀ L h ((x, excObj t0) :: news)) (hap : ∀ p ∈ news, p.1 ≠ x)
    (hq : ∀ h' t', Fr h₀ L h' m → News h₀ L h' ((x, excObj t') :: (t', { cls := .type "tuple", data := .seq #[v] }) :: news) → (∀ p ∈ (x, excObj t') :: news, p.1 < t') → Q .none ⟨h', g, d, t, os⟩) :
    wpAny (model PR w) A (call (.builtin "Exception.__init__") [.ref x, v]) Q E ⟨h, g, d, t, os⟩ := by
  have FE := PySem.F.excBase_Exception
  have hC := die_at (X₀.keeps F.keep)
  have hget := (N _ (.head _)).1
  refine wpAny_call (codeAny_call_builtin FE.init.plain FE.initEntry (check_init_die hC hget rfl ?_))
  have lt : ∀ p ∈ (x, excObj t0) :: news, p.1 < h.objs.size := fun p hp => Heap.lt_size (N p hp).1
  have F₁ := F.push { cls := .type "tuple", data := .seq #[v] }
  have N₁ := News.push F N { cls := .type "tuple", data := .seq #[v] }
  obtain ⟨F₂, N₂⟩ := news_upd (f := Obj.mapFields fun fs => fs.setIfInBounds 0 (.ref h.objs.size)) (o' := excObj h.objs.size) (pre := [(h.objs.size, { cls := .type "tuple", data := .seq #[v] })]) (post := news) F₁ N₁ (by intro p hp; rw [List.mem_singleton.mp hp]; exact Nat.ne_of_gt (lt (x, excObj t0) (.head _))) hap rfl rfl
  wp_walk
  refine hq _ _ F₂ (fun p hp => N₂ p (by
    rcases List.mem_cons.mp hp with rfl | hp
    · exact .tail _ (.head _)
    · rcases List.mem_cons.mp hp with rfl | hp
      · exact .head _
      · exact .tail _ (.tail _ hp))) ?_
  intro p hp
  rcases List.mem_cons.mp hp with rfl | hp
  · exact lt (x, excObj t0) (.head _)
  · exact lt _ (.tail _ hp)
end
end
theorem meta_exc : typeOf (.type "Exception") = pure (.type "type") := by
  show (pure (Value.type ((Manifest.find? "Exception").elim "type" fun y => y.metatype)) : Sem Value) = _
  rw [show ((Manifest.find? "Exception").elim "type" fun x => x.metatype) = "type" from by kernel_rfl]
abbrev dieInst (t dx : Addr) : Obj := { cls := .ref 58, dict := some dx, data := .fields #[.ref t, .none, .none, .none, .bool false, .none] }
def DieP (dx : Addr) (o : Obj) : Prop := o.cls = .ref 58 ∧ o.dict = some dx
theorem dieP_free (dx : Addr) : FieldsFree (DieP dx) := ⟨fun o f ⟨h1, h2⟩ => by obtain ⟨c, d, dt, sl⟩ := o; cases dt <;> exact ⟨h1, h2⟩⟩
def RaisableDie (E : Value → Shared → Prop) (v : Value) (s₁ : Shared) : Prop :=
  ∃ a t dx, v = .ref a ∧ s₁.heap.get? 58 = some dieObj ∧ s₁.heap.get? a = some (dieInst t dx) ∧ E (.ref a) s₁
section
open PySem
variable {M : Model} {A : Around} {E : Value → Shared → Prop} {env : Env}
theorem raiseStmt_die {s : Shared} {x : Sem Value} {Q : Flow → Shared → Prop} (hh : A.handled = none) (h : wpAny M A x (RaisableDie E) E s) :
    wpAny M A (raiseStmt env (some x) none) Q E s := by
  have hcB := die_hasB
  unfold raiseStmt
  refine wpAny_bind (wpAny_mono h (fun v s₁ h₁ => ?_) fun _ _ x => x)
  obtain ⟨e, t, dx, rfl, hC, he, hE⟩ := h₁
  obtain ⟨hp, g, d, tk, os⟩ := s₁
  repeat (first | with_reducible refine wpAny_loadPart_at he ?_ | with_reducible refine wpAny_loadPart_at hC ?_ | (with_reducible refine wpAny_isSubtype_exc hC ?_; rw [hcB]) | wp_step)
  exact wpAny_raiseNew_none hh hE
theorem Raise_die {s : Shared} {e : PySem.Expr} {pos : Pos} {Q : Flow → Shared → Prop} (hh : A.handled = none) (h : wpAny M A (eval e env) (RaisableDie E) E s) :
    wpAny M A (exec (.Raise (some e) none pos) env) Q E s := by
  rw [arm_exec_Raise]
  exact wpAny_bind (wpAny_standAt (raiseStmt_die hh (wpAny_bind (wpAny_mono h (fun _ _ h₁ => wpAny_bind (wpAny_standAt (wpAny_pure h₁))) fun _ _ x => x))))
end
def RaisedV (base G : Heap) (l : List Env) (e : Addr) (x : PySem.Str) (tx : Tok) (news : List (Addr × Obj)) (h : Heap) : Prop :=
  ∃ B dx es n, base.StaysIn B ∧ (∀ b o, G.get? b = some o → b ∉ l.filterMap (·.frame) → B.get? b = some o) ∧
    (∀ q ∈ (dx, dictOf es n) :: news, B.get? q.1 = some q.2 ∧ G.get? q.1 = none ∧ base.get? q.1 = none) ∧ getL (PySem.Str.ofString "value") es = some (some (.str x tx)) ∧ FlyP (DieP dx) B l e h
section
variable {M : Model} {A : Around} {E : Value → Shared → Prop} {s' : Shared} {base g g₂ h : Heap} {outer : List Env} {L a e : Addr} {m : PySem.Str → Option Value} {name : PySem.Str} {scope : Scope} {cd : Value} {cl : List (PySem.Str × Addr)} {Q : Unit → Shared → Prop} {news : List (Addr × Obj)} {x : PySem.Str} {tx : Tok}
theorem envX_mem {b : Addr} (hm : b ∈ (envX name scope L a cd cl :: outer).filterMap (·.frame)) : b = L ∨ b ∈ outer.filterMap (·.frame) := by
  obtain ⟨env, he, hf⟩ := List.mem_filterMap.mp hm
  rcases List.mem_cons.mp he with rfl | he
  · exact .inl (Option.some.inj hf).symm
  · exact .inr (List.mem_filterMap.mpr ⟨env, he, hf⟩)
theorem leave_newV {t dx : Addr} {es : List DictEntry} {n : Nat} (K : Below A base outer g) (F : Fr g L s'.heap m) (N : News g L s'.heap ((dx, dictOf es n) :: (e, dieInst t dx) :: news)) (hoff : ∀ p ∈ news, p.1 ≠ e)
    (hv : getL (PySem.Str.ofString "value") es = some (some (.str x tx)))
    (hQ : ∀ h', RaisedV base g outer e x tx news h' → g.UpToSlots h' → Q () { s' with heap := h' }) (hk : scope.kind = .function := by rfl) :
    wpAny M (A.deeper (envX name scope L a cd cl)) (leaving (envX name scope L a cd cl) (.ref e)) Q E s' := by
  have K' := pushX (env := envX name scope L a cd cl) K F rfl hk
  have ze := N _ (.tail _ (.head _))
  have zd := N _ (.head _)
  have hde : dx ≠ e := fun q => by
    have z := zd.1
    dsimp only at z
    rw [q, ze.1] at z
    cases z
  have beN : base.get? e = none := fresh_of_stays K.stays ze.2.2
  generalize has : (envX name scope L a cd cl :: outer).filterMap (·.frame) ++ [e] = as
  have hin : ∀ env ∈ (envX name scope L a cd cl :: outer), ∀ b, env.frame = some b → b ∈ as := fun env he b hb => by
    rw [← has]; exact List.mem_append.mpr (.inl (List.mem_filterMap.mpr ⟨env, he, hb⟩))
  have mem_as : ∀ b, b ∈ as → b = L ∨ b ∈ outer.filterMap (·.frame) ∨ b = e := fun b hb => by
    rw [← has] at hb
    rcases List.mem_append.mp hb with hb | hb
    · rcases envX_mem hb with z | z
      · exact .inl z
      · exact .inr (.inl z)
    · exact .inr (.inr (List.mem_singleton.mp hb))
  have st : base.StaysIn (hideAll s'.heap as) := fun b o q => hideAll_get _ (K'.stays b o q) fun hm => by
    rcases mem_as b hm with z | z | z
    · rw [z] at q
      have := K.stays _ _ q
      rw [kts_self F] at this; cases this
    · rw [(K.frames.mem z).1] at q; cases q
    · rw [z, beN] at q; cases q
  have sg : ∀ b o, g.get? b = some o → b ∉ outer.filterMap (·.frame) → (hideAll s'.heap as).get? b = some o := fun b o q nm => hideAll_get _ (F.keep b o q) fun hm => by
    rcases mem_as b hm with z | z | z
    · rw [z, kts_self F] at q; cases q
    · exact nm z
    · rw [z, ze.2.2] at q; cases q
  have hl : ∀ q ∈ (dx, dictOf es n) :: news, (hideAll s'.heap as).get? q.1 = some q.2 ∧ g.get? q.1 = none ∧ base.get? q.1 = none := fun q hq => by
    have hq' : q ∈ (dx, dictOf es n) :: (e, dieInst t dx) :: news := by
      rcases List.mem_cons.mp hq with rfl | hq
      · exact .head _
      · exact .tail _ (.tail _ hq)
    refine ⟨hideAll_get _ (N q hq').1 fun hm => ?_, (N q hq').2.2, fresh_of_stays K.stays (N q hq').2.2⟩
    rcases mem_as q.1 hm with z | z | z
    · exact (N q hq').2.1 z
    · obtain ⟨o, ho, _⟩ := (K.frames.mem z).2
      rw [(N q hq').2.2] at ho; cases ho
    · rcases List.mem_cons.mp hq with rfl | hq
      · exact hde z
      · exact hoff q hq z
  exact leaves_newP (dieP_free dx) K'.stack (funFrames_hide K'.frames hin) rfl ze.1 ⟨rfl, rfl⟩ (fun b o q => of_hideAll _ q) (hideAll_none _ (by rw [← has]; exact List.mem_append.mpr (.inr (.head _)))) rfl rfl
    fun h' hf hs => hQ h' ⟨_, dx, es, n, st, sg, hl, hv, hf⟩ ((Heap.UpToSlots.of_keeps F.keep).trans hs)
theorem leave_onV (K : Below A base outer g) (F : Fr g L g₂ m) (R : RaisedV base g₂ (envX name scope L a cd cl :: outer) e x tx news s'.heap) (hsm : g₂.UpToSlots s'.heap)
    (hQ : ∀ h', RaisedV base g outer e x tx news h' → g.UpToSlots h' → Q () { s' with heap := h' }) :
    wpAny M (A.deeper (envX name scope L a cd cl)) (leaving (envX name scope L a cd cl) (.ref e)) Q E s' := by
  obtain ⟨B, dx, es, n, hB, hBG, hl, hv, hfl⟩ := R
  exact leaves_onP (dieP_free dx) (Around.frames_deeper K.stack) rfl hfl fun h' x1 x2 =>
    hQ h' ⟨B, dx, es, n, hB, fun b o q nm => hBG b o (F.keep b o q) (fun hm => by
      rcases envX_mem hm with z | z
      · rw [z, kts_self F] at q; cases q
      · exact nm z), fun q hq => ⟨(hl q hq).1, kts_none F.keep (hl q hq).2.1, (hl q hq).2.2⟩, hv, x1⟩ ((Heap.UpToSlots.of_keeps F.keep).trans (hsm.trans x2))
theorem raisableDie_of {w : World} {h₀ : Heap} {t dx : Addr} {es : List DictEntry} {n : Nat} (F : Fr h₀ L s'.heap m) (X : (hpK w.params).In h₀) (N : News h₀ L s'.heap ((dx, dictOf es n) :: (e, dieInst t dx) :: news)) (h : E (.ref e) s') : RaisableDie E (.ref e) s' :=
  ⟨e, t, dx, rfl, die_at (X.keeps F.keep), (N _ (.tail _ (.head _))).1, h⟩
end
theorem RaisedV.sub {base G h : Heap} {l : List Env} {e : Addr} {x : PySem.Str} {tx : Tok} {news news' : List (Addr × Obj)} (R : RaisedV base G l e x tx news h) (hs : ∀ q ∈ news', q ∈ news) : RaisedV base G l e x tx news' h := by
  obtain ⟨B, dx, es, n, hB, hBG, hl, hv, hfl⟩ := R
  exact ⟨B, dx, es, n, hB, hBG, fun q hq => hl q (by
    rcases List.mem_cons.mp hq with rfl | hq
    · exact .head _
    · exact .tail _ (hs q hq)), hv, hfl⟩
theorem newsDup {h₀ h : Heap} {L : Addr} {p : Addr × Obj} {news : List (Addr × Obj)} (N : News h₀ L h news) (hp : p ∈ news) : News h₀ L h (p :: news) := fun q hq => by
  rcases List.mem_cons.mp hq with rfl | hq
  · exact N _ hp
  · exact N _ hq
theorem newsTail {h₀ h : Heap} {L : Addr} {p : Addr × Obj} {news : List (Addr × Obj)} (N : News h₀ L h (p :: news)) : News h₀ L h news := fun q hq => N q (.tail _ hq)
theorem newsSub {h₀ h : Heap} {L : Addr} {news news' : List (Addr × Obj)} (N : News h₀ L h news) (hs : ∀ p ∈ news', p ∈ news) : News h₀ L h news' := fun q hq => N q (hs q hq)
theorem cons_sub {α : Type} {p : α} {l : List α} : ∀ q ∈ l, q ∈ p :: l := fun _ h => .tail _ h
theorem len_ofString (s : String) (n : Nat) (h : (PySem.Str.ofString s).length = n := by decide +kernel) : (PySem.Str.ofString s).length = n := h
/-! the plain law -/
def joinLen (be : PySem.Str) : List PySem.Str → Nat
  | [] => 0
  | [t] => t.length
  | t :: r => t.length + be.length + joinLen be r
def putR (T : Int) (rows : List PySem.Str) (x : PySem.Str) : Option (List PySem.Str) :=
  match rows with
  | [] => some [x]
  | r :: rs => if 100 * T < (r.length : Int) then none else if 1000 < ((r :: rs) ++ [x]).length then some [Txt.join PySem.Str.empty ((r :: rs) ++ [x])] else some ((r :: rs) ++ [x])
inductive Res (α : Type) where
  | ok (a : α)
  | no (msg : PySem.Str)
def printR (T : Int) (be en : PySem.Str) (rows ts : List PySem.Str) : Res (List PySem.Str) :=
  if T < ((Txt.join be ts).length : Int) then .no (PySem.Str.ofString "Out of memory") else
  match putR T rows (Txt.join be ts ++ en) with
  | none => .no (PySem.Str.ofString "Out of memory!")
  | some r => .ok r
theorem iter_nil {prog : Program} {w : World} {A : Around} {E : Value → Shared → Prop} {s : Shared} {env : Env} {h₀ : Heap} {x : PySem.Str} {body : List Stmt} {Q : Flow → Shared → Prop} {l : Addr} {nn : Nat} {m₀ : PySem.Str → Option Value} {news : List (Addr × Obj)}
    (hh : A.handled = none) (hl : (l, W.listOf (([] : List Value)).toArray nn) ∈ news) (F : Fr h₀ env.locals s.heap m₀) (N : News h₀ env.locals s.heap news)
    (done : ∀ h tk, Fr h₀ env.locals h m₀ → News h₀ env.locals h news → Q .next { s with heap := h, toks := tk }) :
    wpAny (model prog w) A (pyIter (.ref l)) (fun it s₂ => LoopAtV prog w A h₀ env x body Q E it s₂) E s := by
  refine iter_invNL (ns := []) (fun _ m nx => m = m₀ ∧ nx = news) hh hl .nil F N ⟨rfl, rfl⟩ ?_ ?_
  · intro i n t m₁ news₁ h tk own hn
    simp at hn
  · rintro m₁ news₁ h tk _ ⟨rfl, rfl⟩ F' N'
    exact done h tk F' N'
end TQBase
end Mine
namespace Mine
section TQComp
open PySem PySem.W PyProof.Rows PySem.Spec PySem.Calls
open MineHd (hpK vwK hdT)
local macro_rules | `(tactic| k_all) => `(tactic| assumption)
/-- one turn's end of a comprehension over texts: the ledger is the one it began with, the element is the text itself -/
def KSEl (news : List (Addr × Obj)) (r : PySem.Str) (y : Value) (news' : List (Addr × Obj)) : Prop := news' = news ∧ ∃ t : Tok, y = .str r t
section
variable {prog : Program} {w : World} {A : Around} {h₀ : Heap} {L : Addr} {m : PySem.Str → Option Value} {env : Env} {elt : PySem.Expr} {x : PySem.Str} {scope : Scope} {cl : List (PySem.Str × Addr)} {s : Shared} {S : List (Addr × Obj) → Prop} {Fin : List Value → List (Addr × Obj) → Prop} {news : List (Addr × Obj)}
theorem strsAre_at : ∀ {us : List Value} {ts : List PySem.Str}, StrsAre us ts → ∀ (i : Nat) (v : Value), us[i]? = some v → ∃ y t, ts[i]? = some y ∧ v = Value.str y t
  | _, _, .nil, _, _, e => by simp at e
  | _, _, .cons y t r, 0, v, e => ⟨y, t, by simp, by simpa using e.symm⟩
  | _, _, .cons y t r, i + 1, v, e => by
    obtain ⟨z, u, h1, h2⟩ := strsAre_at r i v (by simpa using e)
    exact ⟨z, u, by simpa using h1, h2⟩
theorem ks_list {us : List Value} {ts : List PySem.Str} (hi : StrsAre us ts)
    (turn : ∀ y t I oI C oC D m₂ ys h tk (E' : Value → Shared → Prop), y ∈ ts → LCg.NsObj oC m₂ → m₂ x = some (.str y t) → Fr h₀ L h m → News h₀ L h ((I, oI) :: (C, oC) :: (D, LCg.lst ys) :: news) → LCg.Off3 I C D news → ((@Ne Nat I C) ∧ (@Ne Nat I D) ∧ (@Ne Nat C D)) → S news →
      wpAny (model prog w) A (eval elt (compEnvC scope cl C env)) (LCg.CompEnd h₀ L m { s with heap := h, toks := tk } I oI C oC D (LCg.lst ys) S (fun y' news' => KSEl news y y' news')) E' { s with heap := h, toks := tk })
    (hS : S news)
    (fin : ∀ ys, StrsAre ys ts → Fin ys news) : LCg.CompRest prog w A h₀ L m env elt x scope cl s S (fun i v => us.toArray[i]? = some v) Fin us.toArray.size 0 [] news := by
  have hl : us.length = ts.length := strsAre_length hi
  have key : ∀ (j i : Nat) (ys : List Value), i + j = us.toArray.size → StrsAre ys (ts.take i) → LCg.CompRest prog w A h₀ L m env elt x scope cl s S (fun i v => us.toArray[i]? = some v) Fin j i ys news := by
    intro j
    induction j with
    | zero =>
      intro i ys hij hy
      have e : i = ts.length := by simp only [List.size_toArray] at hij; omega
      subst e
      rw [List.take_length] at hy
      exact LCg.CompRest.zero (fin ys hy)
    | succ j ih =>
      intro i ys hij hy
      refine LCg.CompRest.succ ?_
      intro v I oI C oC D m₂ h tk E' hv hC hx F N off ne
      obtain ⟨y, t, hk, hv'⟩ := strsAre_at hi i v (by simpa using hv)
      rw [hv'] at hx
      refine wpAny_mono (turn y t I oI C oC D m₂ ys h tk E' (List.mem_of_getElem? hk) hC hx F N off ne hS) (fun y s₂ hq => ?_) fun _ _ e => e
      obtain ⟨h', tk', nw, e, F', N', off', hS, hn, t', hy'⟩ := hq
      rw [hn] at N' off' hS
      refine ⟨h', tk', news, e, F', N', off', hS, ?_⟩
      rw [hy']
      refine ih (i + 1) _ (by omega) ?_
      rw [List.take_add_one, hk]
      simpa using StrsAre.snoc hy _ t'
  exact key _ 0 [] (by omega) (by simp only [List.take_zero]; exact .nil)
end
end TQComp
end Mine
namespace Mine
section TQImp
open PySem PySem.W PyProof.Rows PySem.Spec PySem.Calls
abbrev en (w : World) (n : String) (t : Tok) (v : Value) : DictEntry := ⟨PyData.keyHash w.params (PySem.Str.ofString n), .str (PySem.Str.ofString n) t, v⟩
theorem tok_gen {M : Model} {A : Around} {α : Type} {E : Value → Shared → Prop} {t : Sem α} {Q : α → Shared → Prop} {hp : Heap} {gns : Array GenState} {drw : Drawn} {k : Nat} {osx : OsState}
    (h : ∀ k, wpAny M A t Q E ⟨hp, gns, drw, k, osx⟩) : wpAny M A t Q E ⟨hp, gns, drw, k + 1, osx⟩ := h _
theorem bcons {n n' : PySem.Str} {v : Value} {r r' : List (PySem.Str × Value)} (e : n = n') (h : r = r') : (n, v) :: r = (n', v) :: r' := by rw [e, h]
theorem binds_of {s : Shared} {fd : FuncData} {args : Args} {b0 binds : List (PySem.Str × Value)} (h : bindArgs fd args = pure b0) (e : b0 = binds) : BindsTo s fd args binds := e ▸ BindsTo.of_eq h
theorem lt_of_allK {K : List (Addr × Obj)} {a d : Nat} {o : Obj} (h : ∀ p ∈ K, p.1 < d) (hm : (a, o) ∈ K) : a < d := h _ hm
theorem binds_zip {s : Shared} {fd : FuncData} {args : Args} {binds : List (PySem.Str × Value)} (_g1 : args.kw = []) (_g2 : fd.params.args.length = args.pos.length) (_e : List.zip (fd.params.args.map Arg.arg) args.pos = binds) (h : bindArgs fd args = pure binds) : BindsTo s fd args binds := BindsTo.of_eq h
theorem all_ne_of {r : List (Addr × Obj)} {d : Addr} (h : ∀ p ∈ r, p.1 < d) : ∀ p ∈ r, p.1 ≠ d := fun p hp => Nat.ne_of_lt (h p hp)
theorem all_ne_sub {K r : List (Addr × Obj)} {d : Addr} (h : ∀ p ∈ K, p.1 < d) (s : ∀ p ∈ r, p ∈ K) : ∀ p ∈ r, p.1 ≠ d := fun p hp => Nat.ne_of_lt (h p (s p hp))
theorem ne_up {K : List (Addr × Obj)} {x d a : Nat} {o : Obj} (h2 : d < x) (h : ∀ p ∈ K, p.1 < d) (hm : (a, o) ∈ K) : x ≠ a := Nat.ne_of_gt (Nat.lt_trans (h _ hm) h2)
theorem val_k {t0 : Addr} {nm : PySem.Str} {i : Int} {u : Nat} {A : Around} {M : Model} {E : Value → Shared → Prop} {Q : Unit → Shared → Prop} {s : Shared} (h : ∀ u, wpAny M A (setAttr (.ref t0) nm (.int i u)) Q E s) : wpAny M A (setAttr (.ref t0) nm (.int i (u + 1))) Q E s := h _
theorem val_p {t0 : Addr} {nm : PySem.Str} {i : Int} {r : Shared} {A : Around} {M : Model} {E : Value → Shared → Prop} {Q : Unit → Shared → Prop} {s : Shared} (h : ∀ u, wpAny M A (setAttr (.ref t0) nm (.int i u)) Q E s) : wpAny M A (setAttr (.ref t0) nm (.int i r.toks)) Q E s := h _
section
variable {prog : Program} {w : World} {M : Model} {A : Around} {E : Value → Shared → Prop} {s : Shared} {h₀ : Heap} {L : Addr} {m : PySem.Str → Option Value} {news : List (Addr × Obj)}
theorem newDict_drop {env : Env} {pos : Pos} {Q : Value → Shared → Prop} (F : Fr h₀ L s.heap m) (N : News h₀ L s.heap news) (hbig : h₀.NoLimit)
    (k : ∀ d h', Fr h₀ L h' m → News h₀ L h' news → Q (.ref d) { s with heap := h' }) : wpAny (model prog w) A (eval (.Dict [] [] pos) env) Q E s :=
  newDict_K F N hbig fun d h' _ F' N' _ _ _ _ _ _ => k d h' F' fun p hp => N' p (.tail _ hp)
theorem newList_drop {vs : List Value} {Q : Value → Shared → Prop} (F : Fr h₀ L s.heap m) (N : News h₀ L s.heap news)
    (h : ∀ l h', Fr h₀ L h' m → News h₀ L h' news → Q (.ref l) { s with heap := h' }) (hsz : vs.length ≤ sizeLine := by size_fits) : wpAny M A (newList vs) Q E s :=
  newList_K F N (fun l h' F' N' _ => h l h' F' fun p hp => N' p (.tail _ hp)) hsz
theorem tok_k {α : Type} {t : Sem α} {Q : α → Shared → Prop} {hp : Heap} {gns : Array GenState} {drw : Drawn} {k : Nat} {osx : OsState}
    (h : ∀ k, wpAny M A t Q E ⟨hp, gns, drw, k, osx⟩) : wpAny M A t Q E ⟨hp, gns, drw, k + 1, osx⟩ := h _
theorem tok_p {α : Type} {t : Sem α} {Q : α → Shared → Prop} {hp : Heap} {gns : Array GenState} {drw : Drawn} {s : Shared} {osx : OsState}
    (h : ∀ k, wpAny M A t Q E ⟨hp, gns, drw, k, osx⟩) : wpAny M A t Q E ⟨hp, gns, drw, s.toks, osx⟩ := h _
def SetTo (w : World) (name : PySem.Str) (v : Value) (es : List DictEntry) (n : Nat) (dx : Addr) (news : List (Addr × Obj)) (h₀ : Heap) (L : Addr) (m : PySem.Str → Option Value) (Q : Unit → Shared → Prop) (gns : Array GenState) (drw : Drawn) (osx : OsState) (t : Tok) : Prop :=
  ∀ P : Prop, (∀ es' n' news', (putL name (PyData.keyHash w.params name) (.str name t) v es, putN name es n) = (es', n') → Upd dx (dictOf es n) (dictOf es' n') news news' → es'.length ≤ 1000 → (∀ h' tk, Fr h₀ L h' m → News h₀ L h' news' → Q () ⟨h', gns, drw, tk, osx⟩) → P) → P
theorem SetTo.mk {name : PySem.Str} {v : Value} {es : List DictEntry} {n : Nat} {dx : Addr} {Q : Unit → Shared → Prop} {gns : Array GenState} {drw : Drawn} {osx : OsState} {t : Tok} {es' : List DictEntry} {n' : Nat} {news' : List (Addr × Obj)}
    (e : (putL name (PyData.keyHash w.params name) (.str name t) v es, putN name es n) = (es', n')) (U : Upd dx (dictOf es n) (dictOf es' n') news news') (hz : es'.length ≤ 1000)
    (h : ∀ h' tk, Fr h₀ L h' m → News h₀ L h' news' → Q () ⟨h', gns, drw, tk, osx⟩) : SetTo w name v es n dx news h₀ L m Q gns drw osx t := fun _ k => k _ _ _ e U hz h
theorem set_dictP {K : Frag} {x C dx : Addr} {ox : Obj} {es : List DictEntry} {n : Nat} {name : PySem.Str} {v : Value} {Q : Unit → Shared → Prop} {hp : Heap} {gns : Array GenState} {drw : Drawn} {tks : Nat} {osx : OsState}
    (F : Fr h₀ L hp m) (X₀ : K.In h₀) (N : News h₀ L hp news) (I : InstAt hp x ox C (some (dictOf es n))) (hd : ox.dict = some dx)
    (hs : findIn K (.ref C) "__setattr__" = some (some (.builtin "object.__setattr__"))) (hpl : plainOver K C = true) (ht : takerIn K C name = some none) (hh : hasDictIn K C = true) (hl : (getL name es).isSome = true)
    (k : ∀ t, SetTo w name v es n dx news h₀ L m Q gns drw osx t) :
    wpAny (model prog w) A (setAttr (.ref x) name v) Q E ⟨hp, gns, drw, tks, osx⟩ :=
  k (tks + 1) _ fun _ _ _ e U hz h => set_dict (s := ⟨hp, gns, drw, tks, osx⟩) F X₀ N I hd hs hpl ht hh hl e U hz fun h' F' N' => h h' _ F' N'
end
end TQImp
end Mine
namespace Mine
section TQTake
open PySem PySem.W PyProof.Rows PySem.Spec PySem.Calls
open MineHd (hpK vwK hdT)
local macro_rules | `(tactic| k_all) => `(tactic| assumption)
local macro_rules | `(tactic| walk_at $s:str) => `(tactic| k_extra $s)
theorem said_QTake_0 : True := by
  k_with_none
  k_with "execs cons" => (k_here; (with_reducible first | refine tok_k (gns := gns) (drw := drw) (osx := osx) ?_ | refine tok_p (gns := gns) (drw := drw) (osx := osx) ?_); intro tk9)
  k_with "setAttr ref" => (k_here; k_dflt (refine' set_dictP (gns := gns) (drw := drw) (osx := osx) ?k1 ?k2 ?k3 ?k4 ?k5 ?k6 ?k7 ?k8 ?k9 ?k10 ?_; (case k1 => k_asm); (case k2 => k_asm); (case k3 => k_asm); (case k4 => k_inst); (case k5 => exact rfl); (case k6 => k_is); (case k7 => k_is); (case k8 => k_is); (case k9 => k_is); (case k10 => k_get)); intro t'; k_dflt (refine' SetTo.mk ?k11 ?k12 ?k13 ?_; (case k11 => k_put); (case k12 => k_upd); (case k13 => exact Nat.le_of_ble_eq_true rfl)); intro h' tk' F' N'; (try k_sweep))
  k_with "setAttr ref" => (k_here; (with_reducible first | refine val_k ?_ | refine val_p ?_); intro tk9)
  k_with "call ref" => (k_here; refine wpAny_call ?_; k_dflt (refine' code_def ?k1 ?k2 ?k3 ?k4 ?k5 ?kA ?kF ?kK ?k6 ?k7 ?k8 ?k9 ?kB ?_ ?c2 ?c3 ?c4 ?c5; (case kA => exact rfl); (case kF => exact rfl); (case kK => first | exact rfl | assumption); (case k1 => k_asm); (case k2 => k_asm); (case k3 => k_asm); (case k4 => k_asm); (case k5 => k_asm); (case k6 => k_is); (case k7 => k_is); (case k8 => ktr_room); (case k9 => first | (refine' binds_zip ?g1 ?g2 ?q1 ?q2; (case g1 => exact rfl); (case g2 => exact rfl); (case q1 => ((repeat (refine' bcons ?_ ?_; rotate_left 2; focus (first | (dsimp only; done) | exact rfl))); first | exact (rfl : ([] : List (PySem.Str × Value)) = []) | exact rfl)); (case q2 => kernel_rfl)) | exact BindsTo.of_eq rfl); (case c5 => decide); (case kB => exact locs rfl); (case c2 => exact rfl); (case c3 => exact rfl); (case c4 => exact rfl); k_whole; intro g' L' h' FG' F' N' B' X' T'; (try dsimp only); (try k_lift B'); (try k_fold)))
  trivial
theorem newsDup2 {h₀ h : Heap} {L : Addr} {p q : Addr × Obj} {news : List (Addr × Obj)} (N : News h₀ L h (p :: news)) (hq : q ∈ news) : News h₀ L h (p :: q :: news) := fun x hx => by
  rcases List.mem_cons.mp hx with rfl | hx
  · exact N _ (.head _)
  · rcases List.mem_cons.mp hx with rfl | hx
    · exact N _ (.tail _ hq)
    · exact N _ (.tail _ hx)
theorem skip2 {α : Type} {p p2 : α} {l : List α} : ∀ q ∈ p :: l, q ∈ p :: p2 :: l := fun q h => by
  rcases List.mem_cons.mp h with rfl | h
  · exact .head _
  · exact .tail _ (.tail _ h)
section
variable {PV : PySem.Program} {LZ : List PySem.Str} {w : World} {mean : ExcName → Option Value} {mg mb : PySem.Str → Option Value} (dp un : Nat) (gd : Option (List Code)) (cn : PySem.Str) (cs : Scope) (a : Addr) (ccd : Value) (cl : List (PySem.Str × Addr)) (outer : List Env) (A₀ : Around) (base h₀ : Heap) (L : Addr) (m : PySem.Str → Option Value) (s : Shared) (Q E : Value → Shared → Prop) (rest : List (Addr × Obj))
  (B : Below A₀ base outer h₀) (F : Fr h₀ L s.heap m) (X : (hpK w.params).In h₀) (T : Top PV LZ mean mg mb h₀) (hk : cs.kind = .function)
include B F X T hk
theorem take_spec (d l : Addr) (o : Obj) (g : Int) (tg : Tok) (vs : List Value) (ns : List Int) (c : Nat) (many : Int) (tk : Tok)
    (N : News h₀ L s.heap ((d, o) :: rest)) (m1 : (l, W.listOf vs.toArray c) ∈ rest)
    (ho : Obj.IsDictOf (PySem.strKind PR w) o [(PySem.Str.ofString "got", .int g tg), (PySem.Str.ofString "all", .ref l)])
    (hoff : ∀ p ∈ rest, p.1 ≠ d) (hi : IntsAre vs ns) (hlen : ns.length ≤ 63) (hg : 0 ≤ g) (hg2 : g < 2 ^ 40) (hm : 0 < many) (hm2 : many < 100)
    (hdp : dp + 1 < recursionLimit) (hun : un + 8 < cLine)
    (ret : ∀ r t h' tk' o' tg', 0 ≤ r → r < many → Fr h₀ L h' m → News h₀ L h' ((d, o') :: rest) →
      Obj.IsDictOf (PySem.strKind PR w) o' [(PySem.Str.ofString "got", .int (g + 1) tg'), (PySem.Str.ofString "all", .ref l)] → Q (.int r t) { s with heap := h', toks := tk' }) :
    wpAny (model PR w) (ktrTop dp un gd cn cs L a ccd cl outer) (call (.ref 586) [.ref d, .int many tk]) Q E s := by
  obtain ⟨hp, gns, drw, tks, osx⟩ := s
  have hld : l ≠ d := hoff _ m1
  have N := newsDup2 N m1
  dsimp only at F N ret ⊢
  k_steps
  all_goals (try dsimp only)
  all_goals exact ret _ _ _ _ _ _ (Int.fmod_nonneg_of_pos _ hm) (Int.fmod_lt_of_pos _ hm) (by assumption) (newsSub (by assumption) skip2) (by assumption)
end
end TQTake
end Mine
namespace Mine
section TQRun
open PySem PySem.W PyProof.Rows PySem.Spec PySem.Calls
open MineHd (hpK vwK hdT)
local macro_rules | `(tactic| k_all) => `(tactic| assumption)
/-- the names of the run's objects -/
structure RunA where
  (run runD lim limD st stD gl g1 g1D g2 g2D g3 g3D s1 s1D s2 s2D s3 s3D fr frD frL : Addr)
  (glO : Obj)
  (es les stes g1es g2es g3es s1es s2es s3es fes : List DictEntry)
  (c1 c2 c3 c4 c5 c6 c7 c8 c9 c10 c11 : Nat)
  (tt tb te tr tl : Tok)
noncomputable def RunA.mems (x : RunA) : List (Addr × Obj) :=
  [(x.run, instObj 463 x.runD), (x.runD, dictOf x.es x.c1), (x.lim, instObj 485 x.limD), (x.limD, dictOf x.les x.c2),
   (x.st, instObj 574 x.stD), (x.stD, dictOf x.stes x.c3), (x.gl, x.glO),
   (x.g1, instObj 181 x.g1D), (x.g1D, dictOf x.g1es x.c4), (x.s1, instObj 105 x.s1D), (x.s1D, dictOf x.s1es x.c5),
   (x.g2, instObj 181 x.g2D), (x.g2D, dictOf x.g2es x.c6), (x.s2, instObj 105 x.s2D), (x.s2D, dictOf x.s2es x.c7),
   (x.g3, instObj 181 x.g3D), (x.g3D, dictOf x.g3es x.c8), (x.s3, instObj 105 x.s3D), (x.s3D, dictOf x.s3es x.c9),
   (x.frL, W.listOf #[.ref x.fr] x.c10), (x.fr, instObj 442 x.frD), (x.frD, dictOf x.fes x.c11)]
structure RunA.Facts (w : World) (x : RunA) (ro re : Addr) (be en er : PySem.Str) (TT : Int) : Prop where
  d7 : Obj.IsDictOf (PySem.strKind PR w) x.glO [(PySem.Str.ofString "main::,", .ref x.g1), (PySem.Str.ofString "main::\\", .ref x.g2), (PySem.Str.ofString "main::@", .ref x.g3)]
  lo : (x.gl == sysModules) = false
  e1 : getL "limits" x.es = some (some (.ref x.lim))
  e2 : getL "text" x.les = some (some (.int TT x.tt))
  e3 : getL "stash" x.es = some (some (.ref x.st))
  e4 : getL "out" x.es = some (some (.ref ro))
  e5 : getL "err" x.es = some (some (.ref re))
  e6 : getL "frames" x.es = some (some (.ref x.frL))
  e7 : getL "globs" x.stes = some (some (.ref x.gl))
  e8 : getL "glob_of" x.stes = some none
  e9 : getL "scalar_of" x.stes = some none
  e10 : getL "scalar" x.g1es = some (some (.ref x.s1))
  e11 : getL "scalar" x.g2es = some (some (.ref x.s2))
  e12 : getL "scalar" x.g3es = some (some (.ref x.s3))
  e13 : getL "magic" x.s1es = some (some .none)
  e14 : getL "value" x.s1es = some (some (.str be x.tb))
  e15 : getL "magic" x.s2es = some (some .none)
  e16 : getL "value" x.s2es = some (some (.str en x.te))
  e17 : getL "magic" x.s3es = some (some .none)
  e18 : getL "value" x.s3es = some (some (.str er x.tr))
  e19 : getL "line" x.fes = some (some (.int 6 x.tl))
/-- what the ledger holds of the run: its objects, each with what the given functions read of it -/
def RunIs (w : World) (rest : List (Addr × Obj)) (run ro re : Addr) (be en er : PySem.Str) (TT : Int) : Prop :=
  ∃ x : RunA, x.run = run ∧ (∀ p ∈ x.mems, p ∈ rest) ∧ x.Facts w ro re be en er TT
theorem RunIs.mono {w : World} {rest rest' : List (Addr × Obj)} {run ro re : Addr} {be en er : PySem.Str} {TT : Int} (R : RunIs w rest run ro re be en er TT) (hs : ∀ p ∈ rest, p ∈ rest') : RunIs w rest' run ro re be en er TT := by
  obtain ⟨x, hx, hm, hf⟩ := R
  exact ⟨x, hx, fun p hp => hs p (hm p hp), hf⟩
def RowsOk (rows : List PySem.Str) : Prop := rows.length ≤ 1000 ∧ (rows.map (·.length)).sum ≤ 1000000 ∧ ∀ z ∈ rows, OkS z
theorem printR_out {T : Int} {be en : PySem.Str} {rows ts : List PySem.Str} (h : T < ((Txt.join be ts).length : Int)) : printR T be en rows ts = .no (PySem.Str.ofString "Out of memory") := by
  unfold printR; rw [if_pos h]
theorem printR_no {T : Int} {be en : PySem.Str} {rows ts : List PySem.Str} (h : ¬ T < ((Txt.join be ts).length : Int)) (h2 : putR T rows (Txt.join be ts ++ en) = none) : printR T be en rows ts = .no (PySem.Str.ofString "Out of memory!") := by
  unfold printR; rw [if_neg h, h2]
theorem printR_ok {T : Int} {be en : PySem.Str} {rows ts r : List PySem.Str} (h : ¬ T < ((Txt.join be ts).length : Int)) (h2 : putR T rows (Txt.join be ts ++ en) = some r) : printR T be en rows ts = .ok r := by
  unfold printR; rw [if_neg h, h2]
end TQRun
end Mine
namespace Mine
section TQBase2
open PySem PySem.W PyProof.Rows PySem.Spec PySem.Calls
open MineHd (hpK vwK hdT)
local macro_rules | `(tactic| k_all) => `(tactic| assumption)
section
open PySem
variable {prog : Program} {w : World} {A : Around} {E : Value → Shared → Prop} {s : Shared}
theorem setWhole {l sl v : Addr} {items new : Array Value} {c : Nat} {Q : Unit → Shared → Prop} (ho : s.heap.get? l = some (W.listOf items c))
    (hs : s.heap.IsSliceOf sl .none .none .none) (hv : s.heap.IsList v new) (hne : l ≠ v) (hz : items.size + new.size ≤ 100000)
    (h : Q () { s with heap := s.heap.update l (Obj.mapSeq fun xs => xs.extract 0 (0 : Int).toNat ++ new ++ xs.extract (max 0 (items.size : Int)).toNat xs.size) }) :
    wpAny (model prog w) A (setItem (.ref l) (.ref sl) (.ref v)) Q E s := by
  have hl : s.heap.IsList l items := ⟨_, ho, rfl, c, rfl⟩
  obtain ⟨ov, hov, hcv, nv, hdv⟩ := id hv
  obtain ⟨os, hos, hcs, hds⟩ := id hs
  have hTs : s.TypeIs (.ref sl) "slice" := ⟨os, hos, hcs⟩
  have hTv : s.TypeIs (.ref v) "list" := ⟨ov, hov, hcv⟩
  unfold setItem
  try with_reducible refine wpAny_holding ?_
  first | refine wpAny_bind (wpAny_pure ?_) | skip
  refine wpAny_bind (wpAny_sequenceKey hl.typeIs (by decide) ?_)
  refine wpAny_bind (wpAny_callSpecial?_slot (name := PySem.Str.ofString "__setitem__") hl.typeIs slot_list_setitem
    (wpAny_call_entry slot_list_setitem hl.typeIs entry_list_setitem ?_ (args_list_setitem _ _ _)))
  show wpAny _ _ (Builtin.List.listSubscript? (.ref sl) >>= _) _ _ s
  refine wpAny_bind ?_
  unfold Builtin.List.listSubscript?
  refine wpAny_bind (wpAny_specialOf hTs slice_no_index ?_)
  simp only [Option.isNone_none, if_true]
  refine wpAny_pure ?_
  show wpAny _ _ (typeOf (.ref sl) >>= _) _ _ s
  refine wpAny_bind (wpAny_typeOf hTs ?_)
  rw [if_neg (by decide)]
  rw [listSliceParts_eq]
  refine wpAny_bind (wpAny_bind (wpAny_field hos hds (x := .none) rfl (wpAny_bind (wpAny_listPart .none ?_))))
  rw [if_neg (by decide)]
  refine wpAny_bind (wpAny_field hos hds (x := .none) rfl (wpAny_bind (wpAny_listPart .none ?_)))
  refine wpAny_bind (wpAny_field hos hds (x := .none) rfl (wpAny_bind (wpAny_listPart .none (wpAny_pure ?_))))
  dsimp only
  have hsame : Builtin.List.listSameRef (.ref l) (.ref v) = false := by
    show (l == v) = false
    simpa using hne
  rw [if_neg (by rw [hsame]; decide)]
  refine wpAny_bind (m := Builtin.List.listAllItems (.ref v) _) ?_
  unfold Builtin.List.listAllItems
  refine wpAny_bind (wpAny_typeOf hTv ?_)
  rw [if_pos (by decide)]
  unfold Builtin.List.listItems
  refine wpAny_bind (wpAny_seqItems hov hdv (wpAny_pure ?_))
  refine wpAny_bind (wpAny_bind (wpAny_seqItems ho rfl (wpAny_pure ?_)))
  refine wpAny_bind (wpAny_of_eq (sliceIndices_raw none none none items.size (by simp)) ?_)
  show wpAny _ _ (if ((1 : Int) == 1) = true then _ else _) _ _ _
  rw [if_pos (by decide)]
  refine wpAny_bind (wpAny_rule ?_)
  rw [if_neg (by simp only [Builtin.List.listTooLong, decide_eq_true_eq, sizeLine_eq]; omega)]
  refine wpAny_bind (m := updateSeq l _) (wpAny_updateSeq ho rfl ?_ ?_ ?_)
  · refine wpAny_bind (wpAny_letGo ?_)
    exact wpAny_pure ⟨_, rfl, wpAny_pure h⟩
  · rw [sizeLine_eq]; omega
  · show (items.extract 0 0 ++ new ++ items.extract (max 0 (items.size : Int)).toNat items.size).size ≤ sizeLine + 1
    rw [sizeLine_eq]
    simp only [Array.size_append, Array.size_extract]
    omega
theorem setWhole_arr (items new : Array Value) : items.extract 0 (0 : Int).toNat ++ new ++ items.extract (max 0 (items.size : Int)).toNat items.size = new := by
  apply Array.ext'
  simp
theorem setWhole_N {h₀ hp : Heap} {L : Addr} {m : PySem.Str → Option Value} {news : List (Addr × Obj)} {g : Obj → List (Addr × Obj)} {l v : Addr} {items new : Array Value} {c c2 : Nat} {gn : Array GenState} {dr : Drawn} {tk : Nat} {os : OsState} {Q : Unit → Shared → Prop}
    (F : Fr h₀ L hp m) (N : News h₀ L hp news) (U : UpdF l (W.listOf items c) news g) (hv : (v, W.listOf new c2) ∈ news) (hne : l ≠ v) (hz : items.size + new.size ≤ 100000)
    (h : ∀ h' c', Fr h₀ L h' m → News h₀ L h' (g (W.listOf new c')) → Q () ⟨h', gn, dr, tk, os⟩) :
    wpAny (model prog w) A (setItem (.ref l) (.ref hp.objs.size) (.ref v)) Q E ⟨hp.push { cls := .type "slice", data := .fields #[.none, .none, .none] }, gn, dr, tk, os⟩ := by
  obtain ⟨pre, post, rfl, hg, h1, h2⟩ := U.split
  have F₁ := F.push { cls := .type "slice", data := .fields #[.none, .none, .none] }
  have N₁ := newsTail (News.push F N { cls := .type "slice", data := .fields #[.none, .none, .none] })
  have zl := N₁ (l, W.listOf items c) (List.mem_append_right _ (.head _))
  have zv := N₁ _ hv
  refine setWhole zl.1 (Heap.IsSliceOf.new ..) ⟨_, zv.1, rfl, c2, rfl⟩ hne hz ?_
  obtain ⟨F₂, N₂⟩ := news_upd (f := Obj.mapSeq fun xs => xs.extract 0 (0 : Int).toNat ++ new ++ xs.extract (max 0 (items.size : Int)).toNat xs.size) F₁ N₁ h1 h2 rfl rfl
  have e : (Obj.mapSeq fun xs => xs.extract 0 (0 : Int).toNat ++ new ++ xs.extract (max 0 (items.size : Int)).toNat xs.size) (W.listOf items c) = W.listOf new (if new.size == items.size then c else c + 1) := by
    show ({ cls := .type "list", data := .seq (items.extract 0 (0 : Int).toNat ++ new ++ items.extract (max 0 (items.size : Int)).toNat items.size) (if (items.extract 0 (0 : Int).toNat ++ new ++ items.extract (max 0 (items.size : Int)).toNat items.size).size == items.size then c else c + 1) } : Obj) = _
    rw [setWhole_arr]
  rw [e] at N₂
  exact h _ _ F₂ (hg _ ▸ N₂)
end
end TQBase2
end Mine
namespace Mine
section TQDie
open PySem PySem.W PyProof.Rows PySem.Spec PySem.Calls
open MineHd (hpK vwK hdT)
local macro_rules | `(tactic| k_all) => `(tactic| assumption)
local macro_rules | `(tactic| walk_at $s:str) => `(tactic| k_extra $s)
theorem said_QDie_0 : True := by
  k_with_none
  k_with "execs cons" => (k_here; (with_reducible first | refine tok_k (gns := gns) (drw := drw) (osx := osx) ?_ | refine tok_p (gns := gns) (drw := drw) (osx := osx) ?_); intro tk9)
  k_with "setAttr ref" => (k_here; k_dflt (refine' set_dictP (gns := gns) (drw := drw) (osx := osx) ?k1 ?k2 ?k3 ?k4 ?k5 ?k6 ?k7 ?k8 ?k9 ?k10 ?_; (case k1 => k_asm); (case k2 => k_asm); (case k3 => k_asm); (case k4 => k_inst); (case k5 => exact rfl); (case k6 => k_is); (case k7 => k_is); (case k8 => k_is); (case k9 => k_is); (case k10 => k_get)); intro t'; k_dflt (refine' SetTo.mk ?k11 ?k12 ?k13 ?_; (case k11 => k_put); (case k12 => k_upd); (case k13 => exact Nat.le_of_ble_eq_true rfl)); intro h' tk' F' N'; (try k_sweep))
  k_with "setAttr ref" => (k_here; (with_reducible first | refine val_k ?_ | refine val_p ?_); intro tk9)
  k_with "call ref" => (k_here; refine wpAny_call ?_; k_dflt (refine' code_def ?k1 ?k2 ?k3 ?k4 ?k5 ?kA ?kF ?kK ?k6 ?k7 ?k8 ?k9 ?kB ?_ ?c2 ?c3 ?c4 ?c5; (case kA => exact rfl); (case kF => exact rfl); (case kK => first | exact rfl | assumption); (case k1 => k_asm); (case k2 => k_asm); (case k3 => k_asm); (case k4 => k_asm); (case k5 => k_asm); (case k6 => k_is); (case k7 => k_is); (case k8 => ktr_room); (case k9 => first | (refine' binds_zip ?g1 ?g2 ?q1 ?q2; (case g1 => exact rfl); (case g2 => exact rfl); (case q1 => ((repeat (refine' bcons ?_ ?_; rotate_left 2; focus (first | (dsimp only; done) | exact rfl))); first | exact (rfl : ([] : List (PySem.Str × Value)) = []) | exact rfl)); (case q2 => kernel_rfl)) | exact BindsTo.of_eq rfl); (case c5 => decide); (case kB => exact locs rfl); (case c2 => exact rfl); (case c3 => exact rfl); (case c4 => exact rfl); k_whole; intro g' L' h' FG' F' N' B' X' T'; (try dsimp only); (try k_lift B'); (try k_fold)))
  k_with "getMethod type:Exception" => (k_here; refine' method_type ?F ?X ?m (by decide +kernel) ?e ?h ?_; (case F => k_asm); (case X => k_asm); (case m => exact meta_exc); (case e => k_dflt k_is); (case h => k_handed))
  k_with "call builtin:Exception.__init__" => (k_here; k_dflt (refine' excInit ?F ?X ?N ?ap ?_; (case F => k_asm); (case X => k_asm); (case N => k_asm); (case ap => k_all); k_whole); intro h' t' F' N' l1; (try k_lt l1); (try k_sweep))
  k_with "setAttr ref" => (k_here; k_dflt (first
  | (refine' setE_none ?F ?X ?N ?ap ?ha ?hs ?e ?z ?_; (case F => k_asm); (case X => k_asm); (case N => k_asm); (case ap => k_all); (case ha => k_is); (case hs => k_is); (case e => k_put); (case z => exact Nat.le_of_ble_eq_true rfl); k_whole; intro h' dx' F' N' l1; (try k_lt l1); (try k_sweep))
  | (refine' setE_some (pre := []) ?F ?X ?N ?x ?c ?n ?dx ?ha ?hs ?l ?h1 ?h2 ?e ?z ?_; (case F => k_asm); (case X => k_asm); (case N => k_asm); (case x => exact News.get (by k_asm) (by k_mem)); (case c => exact rfl); (case n => exact rfl); (case dx => exact rfl); (case ha => k_is); (case hs => k_is); (case l => rfl); (case h1 => exact List.forall_mem_nil _); (case h2 => k_all); (case e => k_put); (case z => exact Nat.le_of_ble_eq_true rfl); k_whole; intro h' F' N'; (try simp only [List.nil_append] at N'); (try k_sweep))))
  trivial
theorem ns57 {w : World} {h : Heap} (X : (hpK w.params).In h) : ∃ mN, h.Ns 57 mN ∧ mN (PySem.Str.ofString "__init__") = some (.ref 55) :=
  ⟨fun name => nsFind _ name, ⟨_, _, _, X 57 _ rfl, rfl, by simp [StrKeys], fun _ => rfl⟩, rfl⟩
theorem newsDrop2 {h₀ h : Heap} {L : Addr} {a b c d : Addr × Obj} {rest : List (Addr × Obj)} (N : News h₀ L h (a :: b :: c :: d :: rest)) : News h₀ L h (a :: b :: rest) := fun p hp => N p (by
  rcases List.mem_cons.mp hp with rfl | hp
  · exact .head _
  rcases List.mem_cons.mp hp with rfl | hp
  · exact .tail _ (.head _)
  exact .tail _ (.tail _ (.tail _ (.tail _ hp))))
section
variable {PV : PySem.Program} {LZ : List PySem.Str} {w : World} {mean : ExcName → Option Value} {mg mb : PySem.Str → Option Value} (dp un : Nat) (gd : Option (List Code)) (cn : PySem.Str) (cs : Scope) (a : Addr) (ccd : Value) (cl : List (PySem.Str × Addr)) (outer : List Env) (A₀ : Around) (base h₀ : Heap) (L : Addr) (m : PySem.Str → Option Value) (s : Shared) (Q E : Value → Shared → Prop) (rest : List (Addr × Obj))
  (B : Below A₀ base outer h₀) (F : Fr h₀ L s.heap m) (X : (hpK w.params).In h₀) (T : Top PV LZ mean mg mb h₀) (hk : cs.kind = .function)
include B F X T hk
theorem die_new (x : PySem.Str) (tx : Tok)
  (N : News h₀ L s.heap rest)
   (hdp : dp + 6 < recursionLimit) (hun : un + 100 < cLine)
   (ret : ∀ e t dx es n h' tk', Fr h₀ L h' m → News h₀ L h' ((dx, dictOf es n) :: (e, dieInst t dx) :: rest) → getL (PySem.Str.ofString "value") es = some (some (.str x tx)) → (∀ p ∈ rest, p.1 ≠ e) → Q (.ref e) { s with heap := h', toks := tk' }) :
   wpAny (model PR w) (ktrTop dp un gd cn cs L a ccd cl outer) (call (.ref 58) [.str x tx]) Q E s := by
  obtain ⟨hp, gns, drw, tks, osx⟩ := s
  dsimp only at F N ret ⊢
  have lt : ∀ p ∈ rest, p.1 < hp.objs.size := fun p hpm => Heap.lt_size (N p hpm).1
  have XX := X.keeps F.keep
  obtain ⟨mN, hN1, hN2⟩ := ns57 XX
  refine call_die (fI := 55) (mN := mN) (die_at XX) hN1 hN2 (XX 55 _ rfl) rfl ?_ (by simp [sizeLine_eq])
  clear hN1 hN2 mN
  have F₁ := (F.push { cls := .type "tuple", data := .seq [Value.str x tx].toArray }).push (excObj hp.objs.size)
  have N₁ := News.push (F.push { cls := .type "tuple", data := .seq [Value.str x tx].toArray }) (News.push F N { cls := .type "tuple", data := .seq [Value.str x tx].toArray }) (excObj hp.objs.size)
  simp only [Heap.size_push] at N₁ F₁ ⊢
  generalize hp.objs.size = n0 at *
  generalize ((hp.push { cls := .type "tuple", data := .seq [Value.str x tx].toArray }).push (excObj n0)) = hp1 at *
  have hoff : ∀ p ∈ rest, p.1 ≠ n0 + 1 := fun p hpm => Nat.ne_of_lt (Nat.lt_succ_of_lt (lt p hpm))
  clear F N XX
  k_steps
  rename News h₀ L _ _ => kN
  exact ret (n0 + 1) _ _ _ _ _ _ (by assumption) (newsDrop2 kN) rfl hoff
end
end TQDie
end Mine
namespace Mine
section TQSmall
open PySem PySem.W PyProof.Rows PySem.Spec PySem.Calls
open MineHd (hpK vwK hdT)
local macro_rules | `(tactic| k_all) => `(tactic| assumption)
local macro_rules | `(tactic| walk_at $s:str) => `(tactic| k_extra $s)
local macro_rules | `(tactic| k_get) => `(tactic| assumption)
local macro_rules | `(tactic| k_mem) => `(tactic| first | assumption | exact List.Mem.head _ | (refine List.mem_cons_of_mem _ ?_; k_mem))
local macro_rules | `(tactic| k_memK) => `(tactic| k_mem)
theorem said_QSmall_0 : True := by
  k_with_none
  k_with "execs cons" => (k_here; (with_reducible first | refine tok_k (gns := gns) (drw := drw) (osx := osx) ?_ | refine tok_p (gns := gns) (drw := drw) (osx := osx) ?_); intro tk9)
  k_with "setAttr ref" => (k_here; k_dflt (refine' set_dictP (gns := gns) (drw := drw) (osx := osx) ?k1 ?k2 ?k3 ?k4 ?k5 ?k6 ?k7 ?k8 ?k9 ?k10 ?_; (case k1 => k_asm); (case k2 => k_asm); (case k3 => k_asm); (case k4 => k_inst); (case k5 => exact rfl); (case k6 => k_is); (case k7 => k_is); (case k8 => k_is); (case k9 => k_is); (case k10 => k_get)); intro t'; k_dflt (refine' SetTo.mk ?k11 ?k12 ?k13 ?_; (case k11 => k_put); (case k12 => k_upd); (case k13 => exact Nat.le_of_ble_eq_true rfl)); intro h' tk' F' N'; (try k_sweep))
  k_with "setAttr ref" => (k_here; (with_reducible first | refine val_k ?_ | refine val_p ?_); intro tk9)
  k_with "call ref" => (k_here; refine wpAny_call ?_; k_dflt (refine' code_def ?k1 ?k2 ?k3 ?k4 ?k5 ?kA ?kF ?kK ?k6 ?k7 ?k8 ?k9 ?kB ?_ ?c2 ?c3 ?c4 ?c5; (case kA => exact rfl); (case kF => exact rfl); (case kK => first | exact rfl | assumption); (case k1 => k_asm); (case k2 => k_asm); (case k3 => k_asm); (case k4 => k_asm); (case k5 => k_asm); (case k6 => k_is); (case k7 => k_is); (case k8 => ktr_room); (case k9 => first | (refine' binds_zip ?g1 ?g2 ?q1 ?q2; (case g1 => exact rfl); (case g2 => exact rfl); (case q1 => ((repeat (refine' bcons ?_ ?_; rotate_left 2; focus (first | (dsimp only; done) | exact rfl))); first | exact (rfl : ([] : List (PySem.Str × Value)) = []) | exact rfl)); (case q2 => kernel_rfl)) | exact BindsTo.of_eq rfl); (case c5 => decide); (case kB => exact locs rfl); (case c2 => exact rfl); (case c3 => exact rfl); (case c4 => exact rfl); k_whole; intro g' L' h' FG' F' N' B' X' T'; (try dsimp only); (try k_lift B'); (try k_fold)))
  k_with "exec Raise some none" => (k_here; refine Raise_die rfl ?_)
  k_with "RaisableDie" => (k_here; k_dflt (refine' raisableDie_of ?F ?X ?N ?_; (case F => k_asm); (case X => k_asm); (case N => k_asm); k_whole))
  k_with "leaving ref" => (k_here; first
  | (k_dflt (refine' leave_onV ?k1 ?k2 ?k3 ?k4 ?_; (case k3 => assumption); (case k1 => assumption); (case k4 => assumption); (case k2 => assumption); k_whole); intro h' R' U'; (try dsimp only at R' U' ⊢))
  | (k_dflt (refine' leave_newV ?k1 ?k2 ?k3 ?k4 ?k5 ?_; (case k1 => assumption); (case k2 => k_asm); (case k3 => k_asm); (case k4 => assumption); (case k5 => assumption); k_whole); intro h' R' U'; (try dsimp only at R' U' ⊢)))
  k_with "call ref" => (k_here; (with_reducible show wpAny _ _ (call (Value.ref 58) _) _ _ _); k_dflt (refine' die_new _ _ _ _ _ _ _ _ _ _ _ _ _ _ _ _ _ _ ?B ?F ?X ?T ?hk _ _ ?N ?hd ?hu ?_; (case B => k_asm); (case F => k_asm); (case X => k_asm); (case T => k_asm); (case hk => first | exact rfl | assumption); (case N => k_asm); (case hd => ktr_room); (case hu => ktr_units); k_whole); intro e' t' dx' es' n' h' tk' F' N' hv' l1)
  k_with "compareOp NotIn str ref" => (k_here; k_dflt (refine' kdg_notin (knd := PySem.strKind _ _) ?N ?m ?d ?lo (strKind_is _ _ _ _) true ?b ?_; (case N => k_asm); (case m => k_mem); (case d => assumption); (case lo => assumption); (case b => first | assumption | rfl); k_whole))
  k_with "subscriptTail" => (k_here; (with_reducible show wpAny _ _ (subscriptTail _ _ (Value.ref _) (Value.str _ _)) _ _ _); k_dflt (refine' kda_item (knd := PySem.strKind _ _) ?N ?m ?d (strKind_is _ _ _ _) ?v ?_; (case N => k_asm); (case m => k_mem); (case d => assumption); (case v => first | assumption | rfl); k_whole))
  trivial
section
variable {PV : PySem.Program} {LZ : List PySem.Str} {w : World} {mean : ExcName → Option Value} {mg mb : PySem.Str → Option Value} (dp un : Nat) (gd : Option (List Code)) (cn : PySem.Str) (cs : Scope) (a : Addr) (ccd : Value) (cl : List (PySem.Str × Addr)) (outer : List Env) (A₀ : Around) (base h₀ : Heap) (L : Addr) (m : PySem.Str → Option Value) (s : Shared) (Q E : Value → Shared → Prop) (rest : List (Addr × Obj))
  (B : Below A₀ base outer h₀) (F : Fr h₀ L s.heap m) (X : (hpK w.params).In h₀) (T : Top PV LZ mean mg mb h₀) (hk : cs.kind = .function)
include B F X T hk
theorem valstr (x : PySem.Str) (tx : Tok) (N : News h₀ L s.heap rest) (hdp : dp + 2 < recursionLimit) (hun : un + 30 < cLine)
   (ret : ∀ h' tk', Fr h₀ L h' m → News h₀ L h' rest → Q (.str x tx) { s with heap := h', toks := tk' }) :
   wpAny (model PR w) (ktrTop dp un gd cn cs L a ccd cl outer) (call (.ref 296) [.str x tx]) Q E s := by
  obtain ⟨hp, gns, drw, tks, osx⟩ := s
  dsimp only at F N ret ⊢
  k_steps
  all_goals exact ret _ _ (by assumption) (by assumption)
theorem valsc (sc scD : Addr) (es : List DictEntry) (c : Nat) (x : PySem.Str) (tx : Tok) (N : News h₀ L s.heap rest) (m1 : (sc, instObj 105 scD) ∈ rest) (m2 : (scD, dictOf es c) ∈ rest)
   (e1 : getL "magic" es = some (some .none)) (e2 : getL "value" es = some (some (.str x tx))) (hdp : dp + 2 < recursionLimit) (hun : un + 30 < cLine)
   (ret : ∀ h' tk', Fr h₀ L h' m → News h₀ L h' rest → Q (.str x tx) { s with heap := h', toks := tk' }) :
   wpAny (model PR w) (ktrTop dp un gd cn cs L a ccd cl outer) (call (.ref 296) [.ref sc]) Q E s := by
  obtain ⟨hp, gns, drw, tks, osx⟩ := s
  dsimp only at F N ret ⊢
  k_steps
  all_goals exact ret _ _ (by assumption) (by assumption)
theorem totext (x : PySem.Str) (tx : Tok) (N : News h₀ L s.heap rest) (hdp : dp + 2 < recursionLimit) (hun : un + 30 < cLine)
   (ret : ∀ h' tk', Fr h₀ L h' m → News h₀ L h' rest → Q (.str x tx) { s with heap := h', toks := tk' }) :
   wpAny (model PR w) (ktrTop dp un gd cn cs L a ccd cl outer) (call (.ref 303) [.str x tx]) Q E s := by
  obtain ⟨hp, gns, drw, tks, osx⟩ := s
  dsimp only at F N ret ⊢
  k_steps
  all_goals exact ret _ _ (by assumption) (by assumption)
theorem scalarof (st stD gl g gD sc : Addr) (glO : Obj) (es ges : List DictEntry) (c c2 : Nat) (kvs : List (PySem.Str × Value)) (name : PySem.Str) (tn : Tok) (N : News h₀ L s.heap rest) (m1 : (st, instObj 574 stD) ∈ rest) (m2 : (stD, dictOf es c) ∈ rest)
   (e0 : getL "glob_of" es = some none) (e1 : getL "globs" es = some (some (.ref gl))) (m3 : (gl, glO) ∈ rest) (d3 : Obj.IsDictOf (PySem.strKind PR w) glO kvs) (hv : PySem.valueAt kvs name = some (.ref g)) (m4 : (g, instObj 181 gD) ∈ rest) (m5 : (gD, dictOf ges c2) ∈ rest) (e2 : getL "scalar" ges = some (some (.ref sc)))
   (lo : (gl == sysModules) = false) (hdp : dp + 4 < recursionLimit) (hun : un + 50 < cLine)
   (ret : ∀ h' tk', Fr h₀ L h' m → News h₀ L h' rest → Q (.ref sc) { s with heap := h', toks := tk' }) :
   wpAny (model PR w) (ktrTop dp un gd cn cs L a ccd cl outer) (call (.ref 543) [.ref st, .str name tn]) Q E s := by
  obtain ⟨hp, gns, drw, tks, osx⟩ := s
  dsimp only at F N ret ⊢
  have hs : (PySem.valueAt kvs name).isSome = true := by rw [hv]; rfl
  k_steps
  all_goals exact ret _ _ (by assumption) (by assumption)
end
end TQSmall
end Mine
namespace Mine
section TQJoin
open PySem PySem.W PyProof.Rows PySem.Spec PySem.Calls
open MineHd (hpK vwK hdT)
local macro_rules | `(tactic| k_all) => `(tactic| assumption)
local macro_rules | `(tactic| walk_at $s:str) => `(tactic| k_extra $s)
local macro_rules | `(tactic| k_get) => `(tactic| assumption)
local macro_rules | `(tactic| k_mem) => `(tactic| first | assumption | exact List.Mem.head _ | (refine List.mem_cons_of_mem _ ?_; k_mem))
local macro_rules | `(tactic| k_memK) => `(tactic| k_mem)
theorem said_QJoin_0 : True := by
  k_with_none
  k_with "execs cons" => (k_here; (with_reducible first | refine tok_k (gns := gns) (drw := drw) (osx := osx) ?_ | refine tok_p (gns := gns) (drw := drw) (osx := osx) ?_); intro tk9)
  k_with "setAttr ref" => (k_here; k_dflt (refine' set_dictP (gns := gns) (drw := drw) (osx := osx) ?k1 ?k2 ?k3 ?k4 ?k5 ?k6 ?k7 ?k8 ?k9 ?k10 ?_; (case k1 => k_asm); (case k2 => k_asm); (case k3 => k_asm); (case k4 => k_inst); (case k5 => exact rfl); (case k6 => k_is); (case k7 => k_is); (case k8 => k_is); (case k9 => k_is); (case k10 => k_get)); intro t'; k_dflt (refine' SetTo.mk ?k11 ?k12 ?k13 ?_; (case k11 => k_put); (case k12 => k_upd); (case k13 => exact Nat.le_of_ble_eq_true rfl)); intro h' tk' F' N'; (try k_sweep))
  k_with "setAttr ref" => (k_here; (with_reducible first | refine val_k ?_ | refine val_p ?_); intro tk9)
  k_with "call ref" => (k_here; refine wpAny_call ?_; k_dflt (refine' code_def ?k1 ?k2 ?k3 ?k4 ?k5 ?kA ?kF ?kK ?k6 ?k7 ?k8 ?k9 ?kB ?_ ?c2 ?c3 ?c4 ?c5; (case kA => exact rfl); (case kF => exact rfl); (case kK => first | exact rfl | assumption); (case k1 => k_asm); (case k2 => k_asm); (case k3 => k_asm); (case k4 => k_asm); (case k5 => k_asm); (case k6 => k_is); (case k7 => k_is); (case k8 => ktr_room); (case k9 => first | (refine' binds_zip ?g1 ?g2 ?q1 ?q2; (case g1 => exact rfl); (case g2 => exact rfl); (case q1 => ((repeat (refine' bcons ?_ ?_; rotate_left 2; focus (first | (dsimp only; done) | exact rfl))); first | exact (rfl : ([] : List (PySem.Str × Value)) = []) | exact rfl)); (case q2 => kernel_rfl)) | exact BindsTo.of_eq rfl); (case c5 => decide); (case kB => exact locs rfl); (case c2 => exact rfl); (case c3 => exact rfl); (case c4 => exact rfl); k_whole; intro g' L' h' FG' F' N' B' X' T'; (try dsimp only); (try k_lift B'); (try k_fold)))
  k_with "exec Raise some none" => (k_here; refine Raise_die rfl ?_)
  k_with "RaisableDie" => (k_here; k_dflt (refine' raisableDie_of ?F ?X ?N ?_; (case F => k_asm); (case X => k_asm); (case N => k_asm); k_whole))
  k_with "leaving ref" => (k_here; first
  | (k_dflt (refine' leave_onV ?k1 ?k2 ?k3 ?k4 ?_; (case k3 => assumption); (case k1 => assumption); (case k4 => assumption); (case k2 => assumption); k_whole); intro h' R' U'; (try dsimp only at R' U' ⊢))
  | (k_dflt (refine' leave_newV ?k1 ?k2 ?k3 ?k4 ?k5 ?_; (case k1 => assumption); (case k2 => k_asm); (case k3 => k_asm); (case k4 => assumption); (case k5 => assumption); k_whole); intro h' R' U'; (try dsimp only at R' U' ⊢)))
  k_with "call ref" => (k_here; (with_reducible show wpAny _ _ (call (Value.ref 58) _) _ _ _); k_dflt (refine' die_new _ _ _ _ _ _ _ _ _ _ _ _ _ _ _ _ _ _ ?B ?F ?X ?T ?hk _ _ ?N ?hd ?hu ?_; (case B => k_asm); (case F => k_asm); (case X => k_asm); (case T => k_asm); (case hk => first | exact rfl | assumption); (case N => k_asm); (case hd => ktr_room); (case hu => ktr_units); k_whole); intro e' t' dx' es' n' h' tk' F' N' hv' l1)
  k_with "compareOp NotIn str ref" => (k_here; k_dflt (refine' kdg_notin (knd := PySem.strKind _ _) ?N ?m ?d ?lo (strKind_is _ _ _ _) true ?b ?_; (case N => k_asm); (case m => k_mem); (case d => assumption); (case lo => assumption); (case b => first | assumption | rfl); k_whole))
  k_with "subscriptTail" => (k_here; (with_reducible show wpAny _ _ (subscriptTail _ _ (Value.ref _) (Value.str _ _)) _ _ _); k_dflt (refine' kda_item (knd := PySem.strKind _ _) ?N ?m ?d (strKind_is _ _ _ _) ?v ?_; (case N => k_asm); (case m => k_mem); (case d => assumption); (case v => first | assumption | rfl); k_whole))
  k_with "last exec For Name Name" => (k_here; (rename Fr _ _ _ _ => lF'); (with_unfolding_all refine' For_invVF lF' ?k1 ?k2 ?_; (case k1 => exact rfl); (case k2 => exact rfl); k_whole))
  k_with "last pyIter ref" => ((with_reducible show wpAny _ _ (pyIter (Value.ref _)) (fun it s₂ => LoopAtV _ _ _ _ _ _ _ _ _ it s₂) _ _); (rename Fr _ _ _ _ => lF'); (rename News _ _ _ _ => lN'); (with_unfolding_all refine' iter_nil ?k1 ?k2 lF' lN' ?_; (case k1 => rfl); (case k2 => k_mem); k_whole); (try clear lF' lN'); intro h' tk' F' N')
  trivial
theorem join_len2 (be t1 t2 : PySem.Str) : (Txt.join be [t1, t2]).length = t1.length + be.length + t2.length := by
  show (PySem.Builtin.Str.glued be [t1, t2]).length = _
  rw [StrLaws.glued_eq_join]
  show (t1 ++ be ++ t2).length = _
  rw [PySem.Str.length_append, PySem.Str.length_append]
theorem join_len3 (be t1 t2 t3 : PySem.Str) : (Txt.join be [t1, t2, t3]).length = t1.length + be.length + (t2.length + be.length + t3.length) := by
  show (PySem.Builtin.Str.glued be [t1, t2, t3]).length = _
  rw [StrLaws.glued_eq_join]
  show (t1 ++ be ++ (t2 ++ be ++ t3)).length = _
  rw [PySem.Str.length_append, PySem.Str.length_append, PySem.Str.length_append, PySem.Str.length_append]
theorem join_len1 (be t1 : PySem.Str) : (Txt.join be [t1]).length = t1.length := by
  show (PySem.Builtin.Str.glued be [t1]).length = _
  rw [StrLaws.glued_eq_join]
  rfl
theorem join_len0 (be : PySem.Str) : (Txt.join be []).length = 0 := by
  show (PySem.Builtin.Str.glued be []).length = _
  rw [StrLaws.glued_eq_join]
  rfl
section
variable {PV : PySem.Program} {LZ : List PySem.Str} {w : World} {mean : ExcName → Option Value} {mg mb : PySem.Str → Option Value} (dp un : Nat) (gd : Option (List Code)) (cn : PySem.Str) (cs : Scope) (a : Addr) (ccd : Value) (cl : List (PySem.Str × Addr)) (outer : List Env) (A₀ : Around) (base h₀ : Heap) (L : Addr) (m : PySem.Str → Option Value) (s : Shared) (Q E : Value → Shared → Prop) (rest : List (Addr × Obj))
  (B : Below A₀ base outer h₀) (F : Fr h₀ L s.heap m) (X : (hpK w.params).In h₀) (T : Top PV LZ mean mg mb h₀) (hk : cs.kind = .function)
include B F X T hk
theorem join_spec (be : PySem.Str) (tb : Tok) (tx : Addr) (us : List Value) (ts : List PySem.Str) (c c2 : Nat) (lim limD : Addr) (TT : Int) (les : List DictEntry) (tt : Tok)
   (N : News h₀ L s.heap rest) (m1 : (tx, W.listOf us.toArray c) ∈ rest) (hts : PyProof.Rows.StrsAre us ts) (hn : ts.length ≤ 3) (hl : ∀ t ∈ ts, t.length ≤ 19) (hbe : be.length ≤ 1)
   (m2 : (lim, instObj 485 limD) ∈ rest) (m3 : (limD, dictOf les c2) ∈ rest) (e1 : getL "text" les = some (some (.int TT tt))) (hTT : TT ≤ 40)
   (hdp : dp + 8 < recursionLimit) (hun : un + 200 < cLine)
   (ret : ∀ t h' tk', ¬ TT < ((Txt.join be ts).length : Int) → Fr h₀ L h' m → News h₀ L h' rest → Q (.str (Txt.join be ts) t) { s with heap := h', toks := tk' })
   (rai : ∀ e t g h' tk', TT < ((Txt.join be ts).length : Int) → Fr h₀ L g m → g.UpToSlots h' → RaisedV base g (envX cn cs L a ccd cl :: outer) e (PySem.Str.ofString "Out of memory") t rest h' → E (.ref e) { s with heap := h', toks := tk' }) :
   wpAny (model PR w) (ktrTop dp un gd cn cs L a ccd cl outer) (call (.ref 317) [.str be tb, .ref tx, .ref lim]) Q E s := by
  obtain ⟨hp, gns, drw, tks, osx⟩ := s
  dsimp only at F N ret rai ⊢
  have N0 := newsDup N m1
  clear N m1
  cases hts with
  | nil =>
    rw [join_len0] at ret rai
    k_steps
    all_goals (try dsimp only)
    all_goals (first
          | ((with_reducible rename TT < _ => hc); refine rai _ _ _ _ _ ?_ (by assumption) (by assumption) (RaisedV.sub (by assumption) cons_sub); (simp at hc); omega)
          | ((with_reducible rename ¬ (TT < _) => hc); refine ret _ _ _ ?_ (by assumption) (newsTail (by assumption)); (simp at hc); omega)
          | skip)
    all_goals (try trace_state)
    all_goals w_report
  | cons t1 k1 hts =>
    have h1 := hl t1 (.head _)
    cases hts with
    | nil =>
      rw [join_len1] at ret rai
      k_steps
      all_goals (try dsimp only)
      all_goals (first
          | ((with_reducible rename TT < _ => hc); refine rai _ _ _ _ _ ?_ (by assumption) (by assumption) (RaisedV.sub (by assumption) cons_sub); (simp at hc); omega)
          | ((with_reducible rename ¬ (TT < _) => hc); refine ret _ _ _ ?_ (by assumption) (newsTail (by assumption)); (simp at hc); omega)
          | skip)
      all_goals (try trace_state)
      all_goals w_report
    | cons t2 k2 hts =>
      have h2 := hl t2 (.tail _ (.head _))
      cases hts with
      | nil =>
        rw [join_len2] at ret rai
        k_steps
        all_goals (try dsimp only)
        all_goals (first
          | ((with_reducible rename TT < _ => hc); refine rai _ _ _ _ _ ?_ (by assumption) (by assumption) (RaisedV.sub (by assumption) cons_sub); (simp at hc); omega)
          | ((with_reducible rename ¬ (TT < _) => hc); refine ret _ _ _ ?_ (by assumption) (newsTail (by assumption)); (simp at hc); omega)
          | skip)
        all_goals (try trace_state)
        all_goals w_report
      | cons t3 k3 hts =>
        have h3 := hl t3 (.tail _ (.tail _ (.head _)))
        cases hts with
        | nil =>
          rw [join_len3] at ret rai
          k_steps
          all_goals (try dsimp only)
          all_goals (first
          | ((with_reducible rename TT < _ => hc); refine rai _ _ _ _ _ ?_ (by assumption) (by assumption) (RaisedV.sub (by assumption) cons_sub); (simp at hc); omega)
          | ((with_reducible rename ¬ (TT < _) => hc); refine ret _ _ _ ?_ (by assumption) (newsTail (by assumption)); (simp at hc); omega)
          | skip)
          all_goals (try trace_state)
          all_goals w_report
        | cons t4 k4 hts => exact absurd hn (by simp only [List.length_cons]; omega)
end
end TQJoin
end Mine
namespace Mine
section TQPut
open PySem PySem.W PyProof.Rows PySem.Spec PySem.Calls
open MineHd (hpK vwK hdT)
local macro_rules | `(tactic| k_all) => `(tactic| assumption)
local macro_rules | `(tactic| walk_at $s:str) => `(tactic| k_extra $s)
local macro_rules | `(tactic| k_get) => `(tactic| assumption)
local macro_rules | `(tactic| k_mem) => `(tactic| first | assumption | exact List.Mem.head _ | (refine List.mem_cons_of_mem _ ?_; k_mem))
local macro_rules | `(tactic| k_memK) => `(tactic| k_mem)
theorem said_QPut_0 : True := by
  k_with_none
  k_with "execs cons" => (k_here; (with_reducible first | refine tok_k (gns := gns) (drw := drw) (osx := osx) ?_ | refine tok_p (gns := gns) (drw := drw) (osx := osx) ?_); intro tk9)
  k_with "setAttr ref" => (k_here; k_dflt (refine' set_dictP (gns := gns) (drw := drw) (osx := osx) ?k1 ?k2 ?k3 ?k4 ?k5 ?k6 ?k7 ?k8 ?k9 ?k10 ?_; (case k1 => k_asm); (case k2 => k_asm); (case k3 => k_asm); (case k4 => k_inst); (case k5 => exact rfl); (case k6 => k_is); (case k7 => k_is); (case k8 => k_is); (case k9 => k_is); (case k10 => k_get)); intro t'; k_dflt (refine' SetTo.mk ?k11 ?k12 ?k13 ?_; (case k11 => k_put); (case k12 => k_upd); (case k13 => exact Nat.le_of_ble_eq_true rfl)); intro h' tk' F' N'; (try k_sweep))
  k_with "setAttr ref" => (k_here; (with_reducible first | refine val_k ?_ | refine val_p ?_); intro tk9)
  k_with "call ref" => (k_here; refine wpAny_call ?_; k_dflt (refine' code_def ?k1 ?k2 ?k3 ?k4 ?k5 ?kA ?kF ?kK ?k6 ?k7 ?k8 ?k9 ?kB ?_ ?c2 ?c3 ?c4 ?c5; (case kA => exact rfl); (case kF => exact rfl); (case kK => first | exact rfl | assumption); (case k1 => k_asm); (case k2 => k_asm); (case k3 => k_asm); (case k4 => k_asm); (case k5 => k_asm); (case k6 => k_is); (case k7 => k_is); (case k8 => ktr_room); (case k9 => first | (refine' binds_zip ?g1 ?g2 ?q1 ?q2; (case g1 => exact rfl); (case g2 => exact rfl); (case q1 => ((repeat (refine' bcons ?_ ?_; rotate_left 2; focus (first | (dsimp only; done) | exact rfl))); first | exact (rfl : ([] : List (PySem.Str × Value)) = []) | exact rfl)); (case q2 => kernel_rfl)) | exact BindsTo.of_eq rfl); (case c5 => decide); (case kB => exact locs rfl); (case c2 => exact rfl); (case c3 => exact rfl); (case c4 => exact rfl); k_whole; intro g' L' h' FG' F' N' B' X' T'; (try dsimp only); (try k_lift B'); (try k_fold)))
  k_with "exec Raise some none" => (k_here; refine Raise_die rfl ?_)
  k_with "RaisableDie" => (k_here; k_dflt (refine' raisableDie_of ?F ?X ?N ?_; (case F => k_asm); (case X => k_asm); (case N => k_asm); k_whole))
  k_with "leaving ref" => (k_here; first
  | (k_dflt (refine' leave_onV ?k1 ?k2 ?k3 ?k4 ?_; (case k3 => assumption); (case k1 => assumption); (case k4 => assumption); (case k2 => assumption); k_whole); intro h' R' U'; (try dsimp only at R' U' ⊢))
  | (k_dflt (refine' leave_newV ?k1 ?k2 ?k3 ?k4 ?k5 ?_; (case k1 => assumption); (case k2 => k_asm); (case k3 => k_asm); (case k4 => assumption); (case k5 => assumption); k_whole); intro h' R' U'; (try dsimp only at R' U' ⊢)))
  k_with "call ref" => (k_here; (with_reducible show wpAny _ _ (call (Value.ref 58) _) _ _ _); k_dflt (refine' die_new _ _ _ _ _ _ _ _ _ _ _ _ _ _ _ _ _ _ ?B ?F ?X ?T ?hk _ _ ?N ?hd ?hu ?_; (case B => k_asm); (case F => k_asm); (case X => k_asm); (case T => k_asm); (case hk => first | exact rfl | assumption); (case N => k_asm); (case hd => ktr_room); (case hu => ktr_units); k_whole); intro e' t' dx' es' n' h' tk' F' N' hv' l1)
  k_with "compareOp NotIn str ref" => (k_here; k_dflt (refine' kdg_notin (knd := PySem.strKind _ _) ?N ?m ?d ?lo (strKind_is _ _ _ _) true ?b ?_; (case N => k_asm); (case m => k_mem); (case d => assumption); (case lo => assumption); (case b => first | assumption | rfl); k_whole))
  k_with "subscriptTail" => (k_here; (with_reducible show wpAny _ _ (subscriptTail _ _ (Value.ref _) (Value.str _ _)) _ _ _); k_dflt (refine' kda_item (knd := PySem.strKind _ _) ?N ?m ?d (strKind_is _ _ _ _) ?v ?_; (case N => k_asm); (case m => k_mem); (case d => assumption); (case v => first | assumption | rfl); k_whole))
  k_with "call builtin:len" => (k_here; (with_reducible show wpAny _ _ (call (Value.builtin "len") [Value.ref _]) _ _ _); k_dflt (refine' len_strs ?k1 ?k2 ?k3 ?k4 ?_; (case k1 => k_asm); (case k2 => k_mem); (case k3 => (repeat (first | assumption | exact PyProof.Rows.StrsAre.nil | apply PyProof.Rows.StrsAre.cons | apply StrsAre.snoc))); (case k4 => (simp only [List.length_cons, List.length_append, List.length_nil] at *; omega)); k_whole))
  k_with "compareOp NotEq ref ref" => (k_here; (with_reducible show wpAny _ _ (compareOp CmpOp.NotEq (Value.ref _) (Value.ref _)) _ _ _); (with_unfolding_all refine' ne_strs ?k1 ?k2 ?k3 ?k4 ?k6 ?k7 ?k5 ?_; (case k1 => is_list); (case k2 => first | assumption | exact PyProof.Rows.StrsAre.nil | exact PyProof.Rows.StrsAre.cons _ _ (by assumption)); (case k3 => is_list); (case k4 => first | assumption | exact PyProof.Rows.StrsAre.nil); (case k6 => first | assumption | exact (fun _ h => nomatch h)); (case k7 => first | assumption | exact (fun _ h => nomatch h)); (case k5 => first | units_room | ktr_units); k_whole); (try rw [decide_cons_nil]); (try rw [decide_nil_nil]))
  k_with "call builtin:str.join" => (k_here; (with_reducible show wpAny _ _ (call (Value.builtin "str.join") [Value.str _ _, Value.ref _]) _ _ _); k_dflt (refine' join_strs ?N ?m ?e ?x ?n ?s ?_; (case N => k_asm); (case m => k_mem); (case e => (repeat (first | assumption | exact PyProof.Rows.StrsAre.nil | apply PyProof.Rows.StrsAre.cons | apply StrsAre.snoc))); (case x => first | assumption | omega | decide +kernel); (case n => (simp only [List.length_cons, List.length_append, List.length_nil] at *; omega)); (case s => (simp only [List.map_cons, List.map_append, List.map_nil, List.sum_cons, List.sum_append, List.sum_nil] at *; omega)); k_whole); intro t' k')
  k_with "setItem ref ref" => (k_here; k_dflt (refine' setWhole_N ?F ?N ?U ?v ?ne ?z ?_; (case F => k_asm); (case N => k_asm); (case U => k_updF); (case v => k_mem); (case ne => k_ne); (case z => (simp only [List.size_toArray, List.length_cons, List.length_append, List.length_nil]; omega)); k_whole); intro h' c' F' N'; (try dsimp only at N'))
  trivial
theorem putR_no {T : Int} {y : PySem.Str} {ys : List PySem.Str} {x : PySem.Str} (h : 100 * T < (y.length : Int)) : putR T (y :: ys) x = none := by
  simp only [putR]; rw [if_pos h]
theorem putR_join {T : Int} {y : PySem.Str} {ys : List PySem.Str} {x : PySem.Str} (h : ¬ 100 * T < (y.length : Int)) (h2 : (1000 : Int) < ((y :: (ys ++ [x])).length : Nat)) : putR T (y :: ys) x = some [Txt.join PySem.Str.empty (y :: (ys ++ [x]))] := by
  simp only [putR]; rw [if_neg h, if_pos (by simp only [List.cons_append]; omega)]; rfl
theorem putR_add {T : Int} {y : PySem.Str} {ys : List PySem.Str} {x : PySem.Str} (h : ¬ 100 * T < (y.length : Int)) (h2 : ¬ (1000 : Int) < ((y :: (ys ++ [x])).length : Nat)) : putR T (y :: ys) x = some (y :: (ys ++ [x])) := by
  simp only [putR]; rw [if_neg h, if_neg (by simp only [List.cons_append]; omega)]; rfl
theorem len_le_sum : ∀ {ns : List PySem.Str} {y : PySem.Str}, y ∈ ns → y.length ≤ (ns.map (·.length)).sum
  | _ :: r, y, .head _ => by simp only [List.map_cons, List.sum_cons]; omega
  | z :: r, y, .tail _ h => by have := len_le_sum h; simp only [List.map_cons, List.sum_cons]; omega
section
variable {PV : PySem.Program} {LZ : List PySem.Str} {w : World} {mean : ExcName → Option Value} {mg mb : PySem.Str → Option Value} (dp un : Nat) (gd : Option (List Code)) (cn : PySem.Str) (cs : Scope) (a : Addr) (ccd : Value) (cl : List (PySem.Str × Addr)) (outer : List Env) (A₀ : Around) (base h₀ : Heap) (L : Addr) (m : PySem.Str → Option Value) (s : Shared) (Q E : Value → Shared → Prop) (rest : List (Addr × Obj))
  (B : Below A₀ base outer h₀) (F : Fr h₀ L s.heap m) (X : (hpK w.params).In h₀) (T : Top PV LZ mean mg mb h₀) (hk : cs.kind = .function)
include B F X T hk
theorem put_spec (ro : Addr) (us : List Value) (rows : List PySem.Str) (c : Nat) (x : PySem.Str) (tx : Tok) (run runD lim limD : Addr) (TT : Int) (t1 : Tok) (c1 c2 : Nat) (es les : List DictEntry)
  (N : News h₀ L s.heap ((ro, W.listOf us.toArray c) :: rest)) (hoff : ∀ p ∈ rest, p.1 ≠ ro)
  (m1 : (run, instObj 463 runD) ∈ rest) (m2 : (runD, dictOf es c1) ∈ rest) (m3 : (lim, instObj 485 limD) ∈ rest) (m4 : (limD, dictOf les c2) ∈ rest)
  (hv : PyProof.Rows.StrsAre us rows) (hl : rows.length ≤ 1000) (hx : x.length ≤ 1000) (hsum : (rows.map (·.length)).sum ≤ 1000000) (hok : ∀ z ∈ rows, OkS z)
   (hTT : 0 ≤ TT ∧ TT ≤ 40)
   (e1 : getL "limits" es = some (some (.ref lim))) (e2 : getL "text" les = some (some (.int TT t1)))
   (hdp : dp + 8 < recursionLimit) (hun : un + 300 < cLine)
   (ret : ∀ rows' us' c' h' tk', putR TT rows x = some rows' → PyProof.Rows.StrsAre us' rows' → Fr h₀ L h' m → News h₀ L h' ((ro, W.listOf us'.toArray c') :: rest) → Q .none { s with heap := h', toks := tk' })
   (rai : ∀ e t g h' tk', putR TT rows x = none → Fr h₀ L g m → g.UpToSlots h' → RaisedV base g (envX cn cs L a ccd cl :: outer) e (PySem.Str.ofString "Out of memory!") t ((ro, W.listOf us.toArray c) :: rest) h' → E (.ref e) { s with heap := h', toks := tk' }) :
   wpAny (model PR w) (ktrTop dp un gd cn cs L a ccd cl outer) (call (.ref 324) [.ref run, .ref ro, .str x tx]) Q E s := by
  obtain ⟨hp, gns, drw, tks, osx⟩ := s
  dsimp only at F N ret rai ⊢
  cases hv with
  | nil =>
    k_steps
    all_goals (try dsimp only)
    all_goals first
      | (exfalso; (with_reducible rename (1000 : Int) < _ => hd); simp at hd; done)
      | exact ret _ _ _ _ _ rfl (.cons x tx .nil) (by assumption) (newsSub (by assumption : News h₀ L _ ((_, _) :: (ro, W.listOf _ _) :: rest)) fun p hp => .tail _ hp)
  | @cons y ty us ys hv =>
    simp only [List.length_cons, List.map_cons, List.sum_cons] at hl hsum
    have hus : us.length ≤ 999 := by rw [strsAre_length hv]; omega
    have hy : y.length ≤ 1000000 := by omega
    k_steps
    all_goals (try dsimp only)
    · (with_reducible rename 100 * TT < _ => hc)
      exact rai _ _ _ _ _ (putR_no hc) (by assumption) (by assumption) (RaisedV.sub (by assumption) cons_sub)
    · (with_reducible rename ¬ (100 * TT < _) => hc)
      (with_reducible rename (1000 : Int) < _ => hd)
      rename News h₀ L _ _ => kN
      exact ret _ _ _ _ _ (putR_join hc hd) (.cons _ _ .nil) (by assumption) (newsSub kN fun p hp => .tail _ (.tail _ hp))
    · (with_reducible rename ¬ (100 * TT < _) => hc)
      (with_reducible rename ¬ ((1000 : Int) < _) => hd)
      rename News h₀ L _ _ => kN
      exact ret _ _ _ _ _ (putR_add hc hd) (.cons _ _ (StrsAre.snoc hv x tx)) (by assumption) (newsSub kN fun p hp => .tail _ hp)
end
end TQPut
end Mine
namespace Mine
section TQPrint
open PySem PySem.W PyProof.Rows PySem.Spec PySem.Calls
open MineHd (hpK vwK hdT)
local macro_rules | `(tactic| k_all) => `(tactic| assumption)
local macro_rules | `(tactic| walk_at $s:str) => `(tactic| k_extra $s)
local macro_rules | `(tactic| k_get) => `(tactic| assumption)
local macro_rules | `(tactic| k_mem) => `(tactic| first | assumption | exact List.Mem.head _ | (refine List.mem_cons_of_mem _ ?_; k_mem))
local macro_rules | `(tactic| k_memK) => `(tactic| k_mem)
theorem said_QPrint_0 : True := by
  k_with_none
  k_with "execs cons" => (k_here; (with_reducible first | refine tok_k (gns := gns) (drw := drw) (osx := osx) ?_ | refine tok_p (gns := gns) (drw := drw) (osx := osx) ?_); intro tk9)
  k_with "setAttr ref" => (k_here; k_dflt (refine' set_dictP (gns := gns) (drw := drw) (osx := osx) ?k1 ?k2 ?k3 ?k4 ?k5 ?k6 ?k7 ?k8 ?k9 ?k10 ?_; (case k1 => k_asm); (case k2 => k_asm); (case k3 => k_asm); (case k4 => k_inst); (case k5 => exact rfl); (case k6 => k_is); (case k7 => k_is); (case k8 => k_is); (case k9 => k_is); (case k10 => k_get)); intro t'; k_dflt (refine' SetTo.mk ?k11 ?k12 ?k13 ?_; (case k11 => k_put); (case k12 => k_upd); (case k13 => exact Nat.le_of_ble_eq_true rfl)); intro h' tk' F' N'; (try k_sweep))
  k_with "setAttr ref" => (k_here; (with_reducible first | refine val_k ?_ | refine val_p ?_); intro tk9)
  k_with "call ref" => (k_here; refine wpAny_call ?_; k_dflt (refine' code_def ?k1 ?k2 ?k3 ?k4 ?k5 ?kA ?kF ?kK ?k6 ?k7 ?k8 ?k9 ?kB ?_ ?c2 ?c3 ?c4 ?c5; (case kA => exact rfl); (case kF => exact rfl); (case kK => first | exact rfl | assumption); (case k1 => k_asm); (case k2 => k_asm); (case k3 => k_asm); (case k4 => k_asm); (case k5 => k_asm); (case k6 => k_is); (case k7 => k_is); (case k8 => ktr_room); (case k9 => first | (refine' binds_zip ?g1 ?g2 ?q1 ?q2; (case g1 => exact rfl); (case g2 => exact rfl); (case q1 => ((repeat (refine' bcons ?_ ?_; rotate_left 2; focus (first | (dsimp only; done) | exact rfl))); first | exact (rfl : ([] : List (PySem.Str × Value)) = []) | exact rfl)); (case q2 => kernel_rfl)) | exact BindsTo.of_eq rfl); (case c5 => decide); (case kB => exact locs rfl); (case c2 => exact rfl); (case c3 => exact rfl); (case c4 => exact rfl); k_whole; intro g' L' h' FG' F' N' B' X' T'; (try dsimp only); (try k_lift B'); (try k_fold)))
  k_with "exec Raise some none" => (k_here; refine Raise_die rfl ?_)
  k_with "RaisableDie" => (k_here; k_dflt (refine' raisableDie_of ?F ?X ?N ?_; (case F => k_asm); (case X => k_asm); (case N => k_asm); k_whole))
  k_with "leaving ref" => (k_here; first
  | (k_dflt (refine' leave_onV ?k1 ?k2 ?k3 ?k4 ?_; (case k3 => assumption); (case k1 => assumption); (case k4 => assumption); (case k2 => assumption); k_whole); intro h' R' U'; (try dsimp only at R' U' ⊢))
  | (k_dflt (refine' leave_newV ?k1 ?k2 ?k3 ?k4 ?k5 ?_; (case k1 => assumption); (case k2 => k_asm); (case k3 => k_asm); (case k4 => assumption); (case k5 => assumption); k_whole); intro h' R' U'; (try dsimp only at R' U' ⊢)))
  k_with "call ref" => (k_here; (with_reducible show wpAny _ _ (call (Value.ref 58) _) _ _ _); k_dflt (refine' die_new _ _ _ _ _ _ _ _ _ _ _ _ _ _ _ _ _ _ ?B ?F ?X ?T ?hk _ _ ?N ?hd ?hu ?_; (case B => k_asm); (case F => k_asm); (case X => k_asm); (case T => k_asm); (case hk => first | exact rfl | assumption); (case N => k_asm); (case hd => ktr_room); (case hu => ktr_units); k_whole); intro e' t' dx' es' n' h' tk' F' N' hv' l1)
  k_with "compareOp NotIn str ref" => (k_here; k_dflt (refine' kdg_notin (knd := PySem.strKind _ _) ?N ?m ?d ?lo (strKind_is _ _ _ _) true ?b ?_; (case N => k_asm); (case m => k_mem); (case d => assumption); (case lo => assumption); (case b => first | assumption | rfl); k_whole))
  k_with "subscriptTail" => (k_here; (with_reducible show wpAny _ _ (subscriptTail _ _ (Value.ref _) (Value.str _ _)) _ _ _); k_dflt (refine' kda_item (knd := PySem.strKind _ _) ?N ?m ?d (strKind_is _ _ _ _) ?v ?_; (case N => k_asm); (case m => k_mem); (case d => assumption); (case v => first | assumption | rfl); k_whole))
  k_with "eval ListComp" => (k_here; k_dflt (refine LCg.ListComp_U (F₀ := by k_asm) (by with_unfolding_all rfl) (by decide) (by rfl) (by decide) (by rfl) ?_))
  k_with "CompSrc" => (k_here; k_dflt (refine LCg.CompSrc.ledger (by rfl) (by k_asm) (by k_asm) (by k_mem) (by rw [PySem.sizeLine_eq]; simp only [List.size_toArray]; omega) ?_; intro g'; refine' ks_list (by assumption) (fun y' t' I' oI' C' oC' D' m' ys' h' tk' E' hk' hC' hx' F' N' off' ne' hS' => ?_) (Or.inr ⟨_, by k_mem, rfl, _, rfl⟩) (fun ys' hys' => ?_)))
  k_with "CompEnd" => (k_here; refine LCg.CompEnd.intro (by k_asm) (by k_asm) _ ?sub ?off ?hS ⟨rfl, _, rfl⟩; (case sub => exact fun _ hp => hp); (case off => assumption); (case hS => assumption))
  k_with "call ref" => (k_here; (with_reducible show wpAny _ _ (call (Value.ref 296) [Value.str _ _]) _ _ _); k_dflt ((refine' valstr _ _ _ _ _ _ _ _ _ _ _ _ _ _ _ _ _ _ ?B ?F ?X ?T ?hk _ _ ?N ?hd ?hu ?_); (case B => k_asm); (case F => k_asm); (case X => k_asm); (case T => k_asm); (case hk => first | exact rfl | assumption); (case N => k_asm); (case hd => ktr_room); (case hu => ktr_units); intro h' tk' F' N'; (try dsimp only)))
  k_with "call ref" => (k_here; (with_reducible show wpAny _ _ (call (Value.ref 296) [Value.ref _]) _ _ _); k_dflt ((refine' valsc _ _ _ _ _ _ _ _ _ _ _ _ _ _ _ _ _ _ ?B ?F ?X ?T ?hk _ _ _ _ _ _ ?N ?m1 ?m2 ?e1 ?e2 ?hd ?hu ?_); (case B => k_asm); (case F => k_asm); (case X => k_asm); (case T => k_asm); (case hk => first | exact rfl | assumption); (case N => k_asm); (case m1 => k_mem); (case m2 => k_mem); (case e1 => assumption); (case e2 => assumption); (case hd => ktr_room); (case hu => ktr_units); intro h' tk' F' N'; (try dsimp only)))
  k_with "call ref" => (k_here; (with_reducible show wpAny _ _ (call (Value.ref 303) _) _ _ _); k_dflt ((refine' totext _ _ _ _ _ _ _ _ _ _ _ _ _ _ _ _ _ _ ?B ?F ?X ?T ?hk _ _ ?N ?hd ?hu ?_); (case B => k_asm); (case F => k_asm); (case X => k_asm); (case T => k_asm); (case hk => first | exact rfl | assumption); (case N => k_asm); (case hd => ktr_room); (case hu => ktr_units); intro h' tk' F' N'; (try dsimp only)))
  k_with "call ref" => (k_here; (with_reducible show wpAny _ _ (call (Value.ref 543) _) _ _ _); k_dflt ((refine' scalarof _ _ _ _ _ _ _ _ _ _ _ _ _ _ _ _ _ _ ?B ?F ?X ?T ?hk _ _ _ _ _ _ _ _ _ _ _ _ _ _ ?N ?m1 ?m2 ?e0 ?e1 ?m3 ?d3 ?hv ?m4 ?m5 ?e2 ?lo ?hd ?hu ?_); (case B => k_asm); (case F => k_asm); (case X => k_asm); (case T => k_asm); (case hk => first | exact rfl | assumption); (case N => k_asm); (case m1 => k_mem); (case m2 => k_mem); (case e0 => assumption); (case e1 => assumption); (case m3 => k_mem); (case d3 => assumption); (case hv => first | assumption | rfl); (case m4 => k_mem); (case m5 => k_mem); (case e2 => assumption); (case lo => assumption); (case hd => ktr_room); (case hu => ktr_units); intro h' tk' F' N'; (try dsimp only)))
  k_with "call ref" => (k_here; (with_reducible show wpAny _ _ (call (Value.ref 317) _) _ _ _); k_dflt ((refine' join_spec _ _ _ _ _ _ _ _ _ _ _ _ _ _ _ _ _ _ ?B ?F ?X ?T ?hk _ _ _ _ _ _ _ _ _ _ _ _ ?N ?m1 ?hts ?hn ?hl ?hbe ?m2 ?m3 ?e1 ?hTT ?hd ?hu ?_ ?_); (case B => k_asm); (case F => k_asm); (case X => k_asm); (case T => k_asm); (case hk => first | exact rfl | assumption); (case N => k_asm); (case m1 => k_mem); (case hts => (repeat (first | assumption | exact PyProof.Rows.StrsAre.nil | apply PyProof.Rows.StrsAre.cons | apply StrsAre.snoc))); (case hn => first | assumption | (simp only [List.length_cons, List.length_nil]; omega) | decide); (case hl => first | assumption | (intro z hz; simp only [List.mem_cons, List.not_mem_nil, or_false] at hz; first | omega | (rcases hz with rfl|rfl|rfl <;> assumption) | (rcases hz with rfl|rfl <;> assumption) | (subst hz; assumption))); (case hbe => first | assumption | decide +kernel); (case m2 => k_mem); (case m3 => k_mem); (case e1 => assumption); (case hTT => first | assumption | omega); (case hd => ktr_room); (case hu => ktr_units); intro t' h' tk' hc' F' N'; (try dsimp only); rotate_left; intro e' t' g' h' tk' hc' F' U' R'; (try dsimp only); rotate_left))
  k_with "call ref" => (k_here; (with_reducible show wpAny _ _ (call (Value.ref 324) _) _ _ _); k_dflt ((refine' put_spec _ _ _ _ _ _ _ _ _ _ _ _ _ _ _ _ _ _ ?B ?F ?X ?T ?hk _ _ _ _ _ _ _ _ _ _ _ _ _ _ _ _ ?N ?hoff ?m1 ?m2 ?m3 ?m4 ?hv ?hl ?hx ?hs ?hok ?hTT ?e1 ?e2 ?hd ?hu ?_ ?_); (case B => k_asm); (case F => k_asm); (case X => k_asm); (case T => k_asm); (case hk => first | exact rfl | assumption); (case N => first | k_asm | exact newsTail (by k_asm)); (case hoff => first | assumption | k_all); (case m1 => k_mem); (case m2 => k_mem); (case m3 => k_mem); (case m4 => k_mem); (case hv => assumption); (case hl => assumption); (case hx => first | assumption |  omega | (simp only [PySem.Str.length_append] at *; omega)); (case hs => assumption); (case hok => assumption); (case hTT => first | assumption | exact And.intro (by omega) (by omega)); (case e1 => assumption); (case e2 => assumption); (case hd => ktr_room); (case hu => ktr_units); intro rs' us' c' h' tk' hc' hv' F' N'; (try dsimp only); rotate_left; intro e' t' g' h' tk' hc' F' U' R'; (try dsimp only); rotate_left))
  trivial
section
variable {PV : PySem.Program} {LZ : List PySem.Str} {w : World} {mean : ExcName → Option Value} {mg mb : PySem.Str → Option Value} (dp un : Nat) (gd : Option (List Code)) (cn : PySem.Str) (cs : Scope) (a : Addr) (ccd : Value) (cl : List (PySem.Str × Addr)) (outer : List Env) (A₀ : Around) (base h₀ : Heap) (L : Addr) (m : PySem.Str → Option Value) (s : Shared) (Q E : Value → Shared → Prop) (rest : List (Addr × Obj))
  (B : Below A₀ base outer h₀) (F : Fr h₀ L s.heap m) (X : (hpK w.params).In h₀) (T : Top PV LZ mean mg mb h₀) (hk : cs.kind = .function)
include B F X T hk
theorem print_spec (ro re : Addr) (us : List Value) (rows : List PySem.Str) (c c0 : Nat) (tx : Addr) (vs : List Value) (ts : List PySem.Str) (wt : Tok) (run : Addr) (be en er : PySem.Str) (TT : Int)
  (N : News h₀ L s.heap ((ro, W.listOf us.toArray c) :: rest)) (hoff : ∀ p ∈ rest, p.1 ≠ ro) (R : RunIs w rest run ro re be en er TT)
  (m0 : (tx, W.listOf vs.toArray c0) ∈ rest) (hts : PyProof.Rows.StrsAre vs ts) (hn : ts.length ≤ 3) (hl : ∀ t ∈ ts, t.length ≤ 19)
  (hv : PyProof.Rows.StrsAre us rows) (hr : RowsOk rows)
  (hbe : be.length ≤ 1) (hen : en.length ≤ 1)
   (hTT : 0 ≤ TT ∧ TT ≤ 40)
   (hdp : dp + 12 < recursionLimit) (hun : un + 400 < cLine)
   (ret : ∀ rows' us' c' h' tk' t', printR TT be en rows ts = .ok rows' → PyProof.Rows.StrsAre us' rows' → Fr h₀ L h' m → News h₀ L h' ((ro, W.listOf us'.toArray c') :: rest) → Q (.int 1 t') { s with heap := h', toks := tk' })
   (rai : ∀ x e t g h' tk', printR TT be en rows ts = .no x → Fr h₀ L g m → g.UpToSlots h' → RaisedV base g (envX cn cs L a ccd cl :: outer) e x t ((ro, W.listOf us.toArray c) :: rest) h' → E (.ref e) { s with heap := h', toks := tk' }) :
   wpAny (model PR w) (ktrTop dp un gd cn cs L a ccd cl outer) (call (.ref 329) [.ref run, .ref tx, .int 1 wt]) Q E s := by
  obtain ⟨hp, gns, drw, tks, osx⟩ := s
  obtain ⟨⟨run, runD, lim, limD, st, stD, gl, g1, g1D, g2, g2D, g3, g3D, s1, s1D, s2, s2D, s3, s3D, fr, frD, frL, glO, es, les, stes, g1es, g2es, g3es, s1es, s2es, s3es, fes, c1, c2, c3, c4, c5, c6, c7, c8, c9, c10, c11, tt, tb, te, tr, tl⟩, rfl, hm, d7, lo, e1, e2, e3, e4, e5, e6, e7, e8, e9, e10, e11, e12, e13, e14, e15, e16, e17, e18, e19⟩ := R
  simp only [RunA.mems, List.forall_mem_cons, List.forall_mem_nil, and_true] at hm
  obtain ⟨m1, m2, m3, m4, m5, m6, m7, m8, m9, m10, m11, m12, m13, m14, m15, m16, m17, m18, m19, m20, m21, m22⟩ := hm
  dsimp only at d7 lo e1 e2 e3 e4 e5 e6 e7 e8 e9 e10 e11 e12 e13 e14 e15 e16 e17 e18 e19 N hoff ⊢
  obtain ⟨hr1, hr2, hr3⟩ := hr
  have hvs : vs.length ≤ 3 := by rw [strsAre_length hts]; exact hn
  dsimp only at F N ret rai ⊢
  k_steps
  all_goals (try dsimp only)
  all_goals first
    | ((with_reducible rename printR _ _ _ _ _ = _ => hh); fail)
    | ((with_reducible rename putR TT rows _ = none => h2); (with_reducible rename ¬ TT < _ => h1); exact rai _ _ _ _ _ _ (printR_no h1 h2) (by assumption) (by assumption) (by assumption))
    | ((with_reducible rename putR TT rows _ = some _ => h2); (with_reducible rename ¬ TT < _ => h1); exact ret _ _ _ _ _ _ (printR_ok h1 h2) (by assumption) (by assumption) (by assumption))
    | ((with_reducible rename TT < _ => h1); exact rai _ _ _ _ _ _ (printR_out h1) (by assumption) (by assumption) (RaisedV.sub (by assumption) cons_sub))
    | trace_state
end
end TQPrint
end Mine
namespace Mine
section TQMsg
open PySem PySem.W PyProof.Rows PySem.Spec PySem.Calls
open MineHd (hpK vwK hdT)
local macro_rules | `(tactic| k_all) => `(tactic| assumption)
local macro_rules | `(tactic| walk_at $s:str) => `(tactic| k_extra $s)
local macro_rules | `(tactic| k_get) => `(tactic| assumption)
local macro_rules | `(tactic| k_mem) => `(tactic| first | assumption | exact List.Mem.head _ | (refine List.mem_cons_of_mem _ ?_; k_mem))
local macro_rules | `(tactic| k_memK) => `(tactic| k_mem)
theorem said_QMsg_0 : True := by
  k_with_none
  k_with "execs cons" => (k_here; (with_reducible first | refine tok_k (gns := gns) (drw := drw) (osx := osx) ?_ | refine tok_p (gns := gns) (drw := drw) (osx := osx) ?_); intro tk9)
  k_with "setAttr ref" => (k_here; k_dflt (refine' set_dictP (gns := gns) (drw := drw) (osx := osx) ?k1 ?k2 ?k3 ?k4 ?k5 ?k6 ?k7 ?k8 ?k9 ?k10 ?_; (case k1 => k_asm); (case k2 => k_asm); (case k3 => k_asm); (case k4 => k_inst); (case k5 => exact rfl); (case k6 => k_is); (case k7 => k_is); (case k8 => k_is); (case k9 => k_is); (case k10 => k_get)); intro t'; k_dflt (refine' SetTo.mk ?k11 ?k12 ?k13 ?_; (case k11 => k_put); (case k12 => k_upd); (case k13 => exact Nat.le_of_ble_eq_true rfl)); intro h' tk' F' N'; (try k_sweep))
  k_with "setAttr ref" => (k_here; (with_reducible first | refine val_k ?_ | refine val_p ?_); intro tk9)
  k_with "call ref" => (k_here; refine wpAny_call ?_; k_dflt (refine' code_def ?k1 ?k2 ?k3 ?k4 ?k5 ?kA ?kF ?kK ?k6 ?k7 ?k8 ?k9 ?kB ?_ ?c2 ?c3 ?c4 ?c5; (case kA => exact rfl); (case kF => exact rfl); (case kK => first | exact rfl | assumption); (case k1 => k_asm); (case k2 => k_asm); (case k3 => k_asm); (case k4 => k_asm); (case k5 => k_asm); (case k6 => k_is); (case k7 => k_is); (case k8 => ktr_room); (case k9 => first | (refine' binds_zip ?g1 ?g2 ?q1 ?q2; (case g1 => exact rfl); (case g2 => exact rfl); (case q1 => ((repeat (refine' bcons ?_ ?_; rotate_left 2; focus (first | (dsimp only; done) | exact rfl))); first | exact (rfl : ([] : List (PySem.Str × Value)) = []) | exact rfl)); (case q2 => kernel_rfl)) | exact BindsTo.of_eq rfl); (case c5 => decide); (case kB => exact locs rfl); (case c2 => exact rfl); (case c3 => exact rfl); (case c4 => exact rfl); k_whole; intro g' L' h' FG' F' N' B' X' T'; (try dsimp only); (try k_lift B'); (try k_fold)))
  k_with "exec Raise some none" => (k_here; refine Raise_die rfl ?_)
  k_with "RaisableDie" => (k_here; k_dflt (refine' raisableDie_of ?F ?X ?N ?_; (case F => k_asm); (case X => k_asm); (case N => k_asm); k_whole))
  k_with "leaving ref" => (k_here; first
  | (k_dflt (refine' leave_onV ?k1 ?k2 ?k3 ?k4 ?_; (case k3 => assumption); (case k1 => assumption); (case k4 => assumption); (case k2 => assumption); k_whole); intro h' R' U'; (try dsimp only at R' U' ⊢))
  | (k_dflt (refine' leave_newV ?k1 ?k2 ?k3 ?k4 ?k5 ?_; (case k1 => assumption); (case k2 => k_asm); (case k3 => k_asm); (case k4 => assumption); (case k5 => assumption); k_whole); intro h' R' U'; (try dsimp only at R' U' ⊢)))
  k_with "call ref" => (k_here; (with_reducible show wpAny _ _ (call (Value.ref 58) _) _ _ _); k_dflt (refine' die_new _ _ _ _ _ _ _ _ _ _ _ _ _ _ _ _ _ _ ?B ?F ?X ?T ?hk _ _ ?N ?hd ?hu ?_; (case B => k_asm); (case F => k_asm); (case X => k_asm); (case T => k_asm); (case hk => first | exact rfl | assumption); (case N => k_asm); (case hd => ktr_room); (case hu => ktr_units); k_whole); intro e' t' dx' es' n' h' tk' F' N' hv' l1)
  k_with "compareOp NotIn str ref" => (k_here; k_dflt (refine' kdg_notin (knd := PySem.strKind _ _) ?N ?m ?d ?lo (strKind_is _ _ _ _) true ?b ?_; (case N => k_asm); (case m => k_mem); (case d => assumption); (case lo => assumption); (case b => first | assumption | rfl); k_whole))
  k_with "subscriptTail" => (k_here; (with_reducible show wpAny _ _ (subscriptTail _ _ (Value.ref _) (Value.str _ _)) _ _ _); k_dflt (refine' kda_item (knd := PySem.strKind _ _) ?N ?m ?d (strKind_is _ _ _ _) ?v ?_; (case N => k_asm); (case m => k_mem); (case d => assumption); (case v => first | assumption | rfl); k_whole))
  k_with "eval ListComp" => (k_here; k_dflt (refine LCg.ListComp_U (F₀ := by k_asm) (by with_unfolding_all rfl) (by decide) (by rfl) (by decide) (by rfl) ?_))
  k_with "CompSrc" => (k_here; k_dflt (refine LCg.CompSrc.ledger (by rfl) (by k_asm) (by k_asm) (by k_mem) (by rw [PySem.sizeLine_eq]; simp only [List.size_toArray]; omega) ?_; intro g'; refine' ks_list (by assumption) (fun y' t' I' oI' C' oC' D' m' ys' h' tk' E' hk' hC' hx' F' N' off' ne' hS' => ?_) (Or.inr ⟨_, by k_mem, rfl, _, rfl⟩) (fun ys' hys' => ?_)))
  k_with "CompEnd" => (k_here; refine LCg.CompEnd.intro (by k_asm) (by k_asm) _ ?sub ?off ?hS ⟨rfl, _, rfl⟩; (case sub => exact fun _ hp => hp); (case off => assumption); (case hS => assumption))
  k_with "call ref" => (k_here; (with_reducible show wpAny _ _ (call (Value.ref 296) [Value.str _ _]) _ _ _); k_dflt ((refine' valstr _ _ _ _ _ _ _ _ _ _ _ _ _ _ _ _ _ _ ?B ?F ?X ?T ?hk _ _ ?N ?hd ?hu ?_); (case B => k_asm); (case F => k_asm); (case X => k_asm); (case T => k_asm); (case hk => first | exact rfl | assumption); (case N => k_asm); (case hd => ktr_room); (case hu => ktr_units); intro h' tk' F' N'; (try dsimp only)))
  k_with "call ref" => (k_here; (with_reducible show wpAny _ _ (call (Value.ref 296) [Value.ref _]) _ _ _); k_dflt ((refine' valsc _ _ _ _ _ _ _ _ _ _ _ _ _ _ _ _ _ _ ?B ?F ?X ?T ?hk _ _ _ _ _ _ ?N ?m1 ?m2 ?e1 ?e2 ?hd ?hu ?_); (case B => k_asm); (case F => k_asm); (case X => k_asm); (case T => k_asm); (case hk => first | exact rfl | assumption); (case N => k_asm); (case m1 => k_mem); (case m2 => k_mem); (case e1 => assumption); (case e2 => assumption); (case hd => ktr_room); (case hu => ktr_units); intro h' tk' F' N'; (try dsimp only)))
  k_with "call ref" => (k_here; (with_reducible show wpAny _ _ (call (Value.ref 303) _) _ _ _); k_dflt ((refine' totext _ _ _ _ _ _ _ _ _ _ _ _ _ _ _ _ _ _ ?B ?F ?X ?T ?hk _ _ ?N ?hd ?hu ?_); (case B => k_asm); (case F => k_asm); (case X => k_asm); (case T => k_asm); (case hk => first | exact rfl | assumption); (case N => k_asm); (case hd => ktr_room); (case hu => ktr_units); intro h' tk' F' N'; (try dsimp only)))
  k_with "call ref" => (k_here; (with_reducible show wpAny _ _ (call (Value.ref 543) _) _ _ _); k_dflt ((refine' scalarof _ _ _ _ _ _ _ _ _ _ _ _ _ _ _ _ _ _ ?B ?F ?X ?T ?hk _ _ _ _ _ _ _ _ _ _ _ _ _ _ ?N ?m1 ?m2 ?e0 ?e1 ?m3 ?d3 ?hv ?m4 ?m5 ?e2 ?lo ?hd ?hu ?_); (case B => k_asm); (case F => k_asm); (case X => k_asm); (case T => k_asm); (case hk => first | exact rfl | assumption); (case N => k_asm); (case m1 => k_mem); (case m2 => k_mem); (case e0 => assumption); (case e1 => assumption); (case m3 => k_mem); (case d3 => assumption); (case hv => first | assumption | rfl); (case m4 => k_mem); (case m5 => k_mem); (case e2 => assumption); (case lo => assumption); (case hd => ktr_room); (case hu => ktr_units); intro h' tk' F' N'; (try dsimp only)))
  k_with "call ref" => (k_here; (with_reducible show wpAny _ _ (call (Value.ref 317) _) _ _ _); k_dflt ((refine' join_spec _ _ _ _ _ _ _ _ _ _ _ _ _ _ _ _ _ _ ?B ?F ?X ?T ?hk _ _ _ _ _ _ _ _ _ _ _ _ ?N ?m1 ?hts ?hn ?hl ?hbe ?m2 ?m3 ?e1 ?hTT ?hd ?hu ?_ ?_); (case B => k_asm); (case F => k_asm); (case X => k_asm); (case T => k_asm); (case hk => first | exact rfl | assumption); (case N => k_asm); (case m1 => k_mem); (case hts => (repeat (first | assumption | exact PyProof.Rows.StrsAre.nil | apply PyProof.Rows.StrsAre.cons | apply StrsAre.snoc))); (case hn => first | assumption | (simp only [List.length_cons, List.length_nil]; omega) | decide); (case hl => first | assumption | (intro z hz; simp only [List.mem_cons, List.not_mem_nil, or_false] at hz; first | omega | (rcases hz with rfl|rfl|rfl <;> assumption) | (rcases hz with rfl|rfl <;> assumption) | (subst hz; assumption))); (case hbe => first | assumption | decide +kernel); (case m2 => k_mem); (case m3 => k_mem); (case e1 => assumption); (case hTT => first | assumption | omega); (case hd => ktr_room); (case hu => ktr_units); intro t' h' tk' hc' F' N'; (try dsimp only); rotate_left; intro e' t' g' h' tk' hc' F' U' R'; (try dsimp only); rotate_left))
  k_with "call ref" => (k_here; (with_reducible show wpAny _ _ (call (Value.ref 324) _) _ _ _); k_dflt ((refine' put_spec _ _ _ _ _ _ _ _ _ _ _ _ _ _ _ _ _ _ ?B ?F ?X ?T ?hk _ _ _ _ _ _ _ _ _ _ _ _ _ _ _ _ ?N ?hoff ?m1 ?m2 ?m3 ?m4 ?hv ?hl ?hx ?hs ?hok ?hTT ?e1 ?e2 ?hd ?hu ?_ ?_); (case B => k_asm); (case F => k_asm); (case X => k_asm); (case T => k_asm); (case hk => first | exact rfl | assumption); (case N => first | k_asm | exact newsTail (by k_asm)); (case hoff => first | assumption | k_all); (case m1 => k_mem); (case m2 => k_mem); (case m3 => k_mem); (case m4 => k_mem); (case hv => assumption); (case hl => assumption); (case hx => first | assumption |  omega | (simp only [PySem.Str.length_append] at *; omega)); (case hs => assumption); (case hok => assumption); (case hTT => first | assumption | exact And.intro (by omega) (by omega)); (case e1 => assumption); (case e2 => assumption); (case hd => ktr_room); (case hu => ktr_units); intro rs' us' c' h' tk' hc' hv' F' N'; (try dsimp only); rotate_left; intro e' t' g' h' tk' hc' F' U' R'; (try dsimp only); rotate_left))
  trivial
def msgR (T : Int) (er : PySem.Str) (ts : List PySem.Str) (tail dft : PySem.Str) : Res PySem.Str :=
  if T < ((Txt.join (PySem.Str.ofString "") ts).length : Int) then .no (PySem.Str.ofString "Out of memory")
  else if Txt.join (PySem.Str.ofString "") ts ≠ PySem.Str.ofString "" then .ok (Txt.join (PySem.Str.ofString "") ts)
  else if er = PySem.Str.ofString "" then .ok dft
  else if T < ((er ++ tail).length : Int) then .no (PySem.Str.ofString "Out of memory!") else .ok (er ++ tail)
noncomputable def lineR (x : PySem.Str) : PySem.Str := if (Txt.slice x (some (-1)) none != PySem.Str.ofString "\n") = true then x ++ PySem.Str.ofString " at line " ++ PySem.Str.ofString "6" ++ PySem.Str.ofString ".\n" else x
theorem lineR_add {x : PySem.Str} (h : (Txt.slice x (some (-1)) none != PySem.Str.ofString "\n") = true) : lineR x = x ++ PySem.Str.ofString " at line " ++ PySem.Str.ofString "6" ++ PySem.Str.ofString ".\n" := by unfold lineR; rw [if_pos h]
theorem lineR_not {x : PySem.Str} (h : (Txt.slice x (some (-1)) none != PySem.Str.ofString "\n") = false) : lineR x = x := by unfold lineR; rw [if_neg (by rw [h]; decide)]
section
variable {PV : PySem.Program} {LZ : List PySem.Str} {w : World} {mean : ExcName → Option Value} {mg mb : PySem.Str → Option Value} (dp un : Nat) (gd : Option (List Code)) (cn : PySem.Str) (cs : Scope) (a : Addr) (ccd : Value) (cl : List (PySem.Str × Addr)) (outer : List Env) (A₀ : Around) (base h₀ : Heap) (L : Addr) (m : PySem.Str → Option Value) (s : Shared) (Q E : Value → Shared → Prop) (rest : List (Addr × Obj))
  (B : Below A₀ base outer h₀) (F : Fr h₀ L s.heap m) (X : (hpK w.params).In h₀) (T : Top PV LZ mean mg mb h₀) (hk : cs.kind = .function)
include B F X T hk
theorem concat_spec (x y : PySem.Str) (tx ty : Tok) (lim limD : Addr) (TT : Int) (les : List DictEntry) (c2 : Nat) (tt : Tok)
  (N : News h₀ L s.heap rest) (m2 : (lim, instObj 485 limD) ∈ rest) (m3 : (limD, dictOf les c2) ∈ rest) (e1 : getL "text" les = some (some (.int TT tt)))
   (hx : x.length ≤ 1000) (hy : y.length ≤ 1000)
   (hdp : dp + 10 < recursionLimit) (hun : un + 200 < cLine)
   (ret : ∀ h' tk' t', ¬ TT < ((x ++ y).length : Int) → Fr h₀ L h' m → News h₀ L h' rest → Q (.str (x ++ y) t') { s with heap := h', toks := tk' })
   (rai : ∀ e t g h' tk', TT < ((x ++ y).length : Int) → Fr h₀ L g m → g.UpToSlots h' → RaisedV base g (envX cn cs L a ccd cl :: outer) e (PySem.Str.ofString "Out of memory!") t rest h' → E (.ref e) { s with heap := h', toks := tk' }) :
   wpAny (model PR w) (ktrTop dp un gd cn cs L a ccd cl outer) (call (.ref 310) [.str x tx, .str y ty, .ref lim]) Q E s := by
  obtain ⟨hp, gns, drw, tks, osx⟩ := s
  dsimp only at F N ret rai ⊢
  k_steps
  all_goals (try dsimp only)
  all_goals first
    | ((with_reducible rename TT < _ => h1); exact rai _ _ _ _ _ h1 (by assumption) (by assumption) (by assumption))
    | ((with_reducible rename ¬ TT < _ => h1); exact ret _ _ _ h1 (by assumption) (by assumption))
    | trace_state
theorem with_line_spec (x : PySem.Str) (tx : Tok) (tl : Tok)
  (N : News h₀ L s.heap rest) 
   (hx : x.length ≤ 1000)
   (hdp : dp + 10 < recursionLimit) (hun : un + 200 < cLine)
   (ret : ∀ h' tk' t', Fr h₀ L h' m → News h₀ L h' rest → Q (.str (lineR x) t') { s with heap := h', toks := tk' }) :
   wpAny (model PR w) (ktrTop dp un gd cn cs L a ccd cl outer) (call (.ref 496) [.str x tx, .int 6 tl]) Q E s := by
  obtain ⟨hp, gns, drw, tks, osx⟩ := s
  dsimp only at F N ret ⊢
  k_steps
  all_goals (try dsimp only)
  all_goals first
    | ((with_reducible rename (_ != _) = true => h1); rw [lineR_add h1] at ret; exact ret _ _ _ (by assumption) (by assumption))
    | ((with_reducible rename (_ != _) = false => h1); rw [lineR_not h1] at ret; exact ret _ _ _ (by assumption) (by assumption))
end
end TQMsg
end Mine
namespace Mine
section TQMsg2
open PySem PySem.W PyProof.Rows PySem.Spec PySem.Calls
open MineHd (hpK vwK hdT)
local macro_rules | `(tactic| k_all) => `(tactic| assumption)
local macro_rules | `(tactic| walk_at $s:str) => `(tactic| k_extra $s)
section
variable {prog : Program} {w : World} {A : Around} {E : Value → Shared → Prop} {s : Shared} {value slice : PySem.Expr} {l : Addr} {u : Tok} {v : Value} {vs : List Value} {Q : Value → Shared → Prop}
theorem item_first (hl : s.heap.IsList l (v :: vs).toArray) (h : Q v s)
    (hs : subscripted slice false (.ref l) (.int 0 u) = operate [.ref l, .int 0 u] (getItem (.ref l) (.int 0 u)) := by with_unfolding_all rfl) :
    wpAny (model prog w) A (subscriptTail value slice (.ref l) (.int 0 u)) Q E s := item_listR hl (by decide) (by decide) (by simp) h hs
theorem item_last1 (hl : s.heap.IsList l [v].toArray) (h : Q v s)
    (hs : subscripted slice false (.ref l) (.int (-1) u) = operate [.ref l, .int (-1) u] (getItem (.ref l) (.int (-1) u)) := by with_unfolding_all rfl) :
    wpAny (model prog w) A (subscriptTail value slice (.ref l) (.int (-1) u)) Q E s := kde_neg hl (by decide) (by decide) rfl rfl h hs
end
local macro_rules | `(tactic| k_get) => `(tactic| assumption)
local macro_rules | `(tactic| k_mem) => `(tactic| first | assumption | exact List.Mem.head _ | (refine List.mem_cons_of_mem _ ?_; k_mem))
local macro_rules | `(tactic| k_memK) => `(tactic| k_mem)
theorem said_QMsg2_0 : True := by
  k_with_none
  k_with "execs cons" => (k_here; (with_reducible first | refine tok_k (gns := gns) (drw := drw) (osx := osx) ?_ | refine tok_p (gns := gns) (drw := drw) (osx := osx) ?_); intro tk9)
  k_with "setAttr ref" => (k_here; k_dflt (refine' set_dictP (gns := gns) (drw := drw) (osx := osx) ?k1 ?k2 ?k3 ?k4 ?k5 ?k6 ?k7 ?k8 ?k9 ?k10 ?_; (case k1 => k_asm); (case k2 => k_asm); (case k3 => k_asm); (case k4 => k_inst); (case k5 => exact rfl); (case k6 => k_is); (case k7 => k_is); (case k8 => k_is); (case k9 => k_is); (case k10 => k_get)); intro t'; k_dflt (refine' SetTo.mk ?k11 ?k12 ?k13 ?_; (case k11 => k_put); (case k12 => k_upd); (case k13 => exact Nat.le_of_ble_eq_true rfl)); intro h' tk' F' N'; (try k_sweep))
  k_with "setAttr ref" => (k_here; (with_reducible first | refine val_k ?_ | refine val_p ?_); intro tk9)
  k_with "call ref" => (k_here; refine wpAny_call ?_; k_dflt (refine' code_def ?k1 ?k2 ?k3 ?k4 ?k5 ?kA ?kF ?kK ?k6 ?k7 ?k8 ?k9 ?kB ?_ ?c2 ?c3 ?c4 ?c5; (case kA => exact rfl); (case kF => exact rfl); (case kK => first | exact rfl | assumption); (case k1 => k_asm); (case k2 => k_asm); (case k3 => k_asm); (case k4 => k_asm); (case k5 => k_asm); (case k6 => k_is); (case k7 => k_is); (case k8 => ktr_room); (case k9 => first | (refine' binds_zip ?g1 ?g2 ?q1 ?q2; (case g1 => exact rfl); (case g2 => exact rfl); (case q1 => ((repeat (refine' bcons ?_ ?_; rotate_left 2; focus (first | (dsimp only; done) | exact rfl))); first | exact (rfl : ([] : List (PySem.Str × Value)) = []) | exact rfl)); (case q2 => kernel_rfl)) | exact BindsTo.of_eq rfl); (case c5 => decide); (case kB => exact locs rfl); (case c2 => exact rfl); (case c3 => exact rfl); (case c4 => exact rfl); k_whole; intro g' L' h' FG' F' N' B' X' T'; (try dsimp only); (try k_lift B'); (try k_fold)))
  k_with "exec Raise some none" => (k_here; refine Raise_die rfl ?_)
  k_with "RaisableDie" => (k_here; k_dflt (refine' raisableDie_of ?F ?X ?N ?_; (case F => k_asm); (case X => k_asm); (case N => k_asm); k_whole))
  k_with "leaving ref" => (k_here; first
  | (k_dflt (refine' leave_onV ?k1 ?k2 ?k3 ?k4 ?_; (case k3 => assumption); (case k1 => assumption); (case k4 => assumption); (case k2 => assumption); k_whole); intro h' R' U'; (try dsimp only at R' U' ⊢))
  | (k_dflt (refine' leave_newV ?k1 ?k2 ?k3 ?k4 ?k5 ?_; (case k1 => assumption); (case k2 => k_asm); (case k3 => k_asm); (case k4 => assumption); (case k5 => assumption); k_whole); intro h' R' U'; (try dsimp only at R' U' ⊢)))
  k_with "call ref" => (k_here; (with_reducible show wpAny _ _ (call (Value.ref 58) _) _ _ _); k_dflt (refine' die_new _ _ _ _ _ _ _ _ _ _ _ _ _ _ _ _ _ _ ?B ?F ?X ?T ?hk _ _ ?N ?hd ?hu ?_; (case B => k_asm); (case F => k_asm); (case X => k_asm); (case T => k_asm); (case hk => first | exact rfl | assumption); (case N => k_asm); (case hd => ktr_room); (case hu => ktr_units); k_whole); intro e' t' dx' es' n' h' tk' F' N' hv' l1)
  k_with "compareOp NotIn str ref" => (k_here; k_dflt (refine' kdg_notin (knd := PySem.strKind _ _) ?N ?m ?d ?lo (strKind_is _ _ _ _) true ?b ?_; (case N => k_asm); (case m => k_mem); (case d => assumption); (case lo => assumption); (case b => first | assumption | rfl); k_whole))
  k_with "subscriptTail" => (k_here; (with_reducible show wpAny _ _ (subscriptTail _ _ (Value.ref _) (Value.str _ _)) _ _ _); k_dflt (refine' kda_item (knd := PySem.strKind _ _) ?N ?m ?d (strKind_is _ _ _ _) ?v ?_; (case N => k_asm); (case m => k_mem); (case d => assumption); (case v => first | assumption | rfl); k_whole))
  k_with "call builtin:len" => (k_here; (with_reducible show wpAny _ _ (call (Value.builtin "len") [Value.ref _]) _ _ _); k_dflt (refine' len_strs ?k1 ?k2 ?k3 ?k4 ?_; (case k1 => k_asm); (case k2 => k_mem); (case k3 => (repeat (first | assumption | exact PyProof.Rows.StrsAre.nil | apply PyProof.Rows.StrsAre.cons | apply StrsAre.snoc))); (case k4 => (simp only [List.length_cons, List.length_append, List.length_nil] at *; omega)); k_whole))
  k_with "compareOp NotEq ref ref" => (k_here; (with_reducible show wpAny _ _ (compareOp CmpOp.NotEq (Value.ref _) (Value.ref _)) _ _ _); (with_unfolding_all refine' ne_strs ?k1 ?k2 ?k3 ?k4 ?k6 ?k7 ?k5 ?_; (case k1 => is_list); (case k2 => first | assumption | exact PyProof.Rows.StrsAre.nil | exact PyProof.Rows.StrsAre.cons _ _ (by assumption)); (case k3 => is_list); (case k4 => first | assumption | exact PyProof.Rows.StrsAre.nil); (case k6 => first | assumption | exact (fun _ h => nomatch h)); (case k7 => first | assumption | exact (fun _ h => nomatch h)); (case k5 => first | units_room | ktr_units); k_whole); (try rw [decide_cons_nil]); (try rw [decide_nil_nil]))
  k_with "call builtin:str.join" => (k_here; (with_reducible show wpAny _ _ (call (Value.builtin "str.join") [Value.str _ _, Value.ref _]) _ _ _); k_dflt (refine' join_strs ?N ?m ?e ?x ?n ?s ?_; (case N => k_asm); (case m => k_mem); (case e => (repeat (first | assumption | exact PyProof.Rows.StrsAre.nil | apply PyProof.Rows.StrsAre.cons | apply StrsAre.snoc))); (case x => first | assumption | omega | decide +kernel); (case n => (simp only [List.length_cons, List.length_append, List.length_nil] at *; omega)); (case s => (simp only [List.map_cons, List.map_append, List.map_nil, List.sum_cons, List.sum_append, List.sum_nil] at *; omega)); k_whole); intro t' k')
  k_with "eval ListComp" => (k_here; k_dflt (refine LCg.ListComp_U (F₀ := by k_asm) (by with_unfolding_all rfl) (by decide) (by rfl) (by decide) (by rfl) ?_))
  k_with "CompSrc" => (k_here; k_dflt (refine LCg.CompSrc.ledger (by rfl) (by k_asm) (by k_asm) (by k_mem) (by rw [PySem.sizeLine_eq]; simp only [List.size_toArray]; omega) ?_; intro g'; refine' ks_list (by assumption) (fun y' t' I' oI' C' oC' D' m' ys' h' tk' E' hk' hC' hx' F' N' off' ne' hS' => ?_) (Or.inr ⟨_, by k_mem, rfl, _, rfl⟩) (fun ys' hys' => ?_)))
  k_with "CompEnd" => (k_here; refine LCg.CompEnd.intro (by k_asm) (by k_asm) _ ?sub ?off ?hS ⟨rfl, _, rfl⟩; (case sub => exact fun _ hp => hp); (case off => assumption); (case hS => assumption))
  k_with "subscriptTail" => (k_here; (with_reducible show wpAny _ _ (subscriptTail _ _ (Value.ref _) (Value.int 0 _)) _ _ _); k_dflt (refine' item_first (News.isList ?N ?m) ?_ ?k6; (case N => k_asm); (case m => k_mem); (case k6 => with_unfolding_all rfl); k_whole))
  k_with "subscriptTail" => (k_here; (with_reducible show wpAny _ _ (subscriptTail _ _ (Value.ref _) (Value.int (-1) _)) _ _ _); k_dflt (refine' item_last1 (News.isList ?N ?m) ?_ ?k6; (case N => k_asm); (case m => k_mem); (case k6 => with_unfolding_all rfl); k_whole))
  k_with "call ref" => (k_here; (with_reducible show wpAny _ _ (call (Value.ref 296) [Value.str _ _]) _ _ _); k_dflt ((refine' valstr _ _ _ _ _ _ _ _ _ _ _ _ _ _ _ _ _ _ ?B ?F ?X ?T ?hk _ _ ?N ?hd ?hu ?_); (case B => k_asm); (case F => k_asm); (case X => k_asm); (case T => k_asm); (case hk => first | exact rfl | assumption); (case N => k_asm); (case hd => ktr_room); (case hu => ktr_units); intro h' tk' F' N'; (try dsimp only)))
  k_with "call ref" => (k_here; (with_reducible show wpAny _ _ (call (Value.ref 296) [Value.ref _]) _ _ _); k_dflt ((refine' valsc _ _ _ _ _ _ _ _ _ _ _ _ _ _ _ _ _ _ ?B ?F ?X ?T ?hk _ _ _ _ _ _ ?N ?m1 ?m2 ?e1 ?e2 ?hd ?hu ?_); (case B => k_asm); (case F => k_asm); (case X => k_asm); (case T => k_asm); (case hk => first | exact rfl | assumption); (case N => k_asm); (case m1 => k_mem); (case m2 => k_mem); (case e1 => assumption); (case e2 => assumption); (case hd => ktr_room); (case hu => ktr_units); intro h' tk' F' N'; (try dsimp only)))
  k_with "call ref" => (k_here; (with_reducible show wpAny _ _ (call (Value.ref 303) _) _ _ _); k_dflt ((refine' totext _ _ _ _ _ _ _ _ _ _ _ _ _ _ _ _ _ _ ?B ?F ?X ?T ?hk _ _ ?N ?hd ?hu ?_); (case B => k_asm); (case F => k_asm); (case X => k_asm); (case T => k_asm); (case hk => first | exact rfl | assumption); (case N => k_asm); (case hd => ktr_room); (case hu => ktr_units); intro h' tk' F' N'; (try dsimp only)))
  k_with "call ref" => (k_here; (with_reducible show wpAny _ _ (call (Value.ref 543) _) _ _ _); k_dflt ((refine' scalarof _ _ _ _ _ _ _ _ _ _ _ _ _ _ _ _ _ _ ?B ?F ?X ?T ?hk _ _ _ _ _ _ _ _ _ _ _ _ _ _ ?N ?m1 ?m2 ?e0 ?e1 ?m3 ?d3 ?hv ?m4 ?m5 ?e2 ?lo ?hd ?hu ?_); (case B => k_asm); (case F => k_asm); (case X => k_asm); (case T => k_asm); (case hk => first | exact rfl | assumption); (case N => k_asm); (case m1 => k_mem); (case m2 => k_mem); (case e0 => assumption); (case e1 => assumption); (case m3 => k_mem); (case d3 => assumption); (case hv => first | assumption | rfl); (case m4 => k_mem); (case m5 => k_mem); (case e2 => assumption); (case lo => assumption); (case hd => ktr_room); (case hu => ktr_units); intro h' tk' F' N'; (try dsimp only)))
  k_with "call ref" => (k_here; (with_reducible show wpAny _ _ (call (Value.ref 317) _) _ _ _); k_dflt ((refine' join_spec _ _ _ _ _ _ _ _ _ _ _ _ _ _ _ _ _ _ ?B ?F ?X ?T ?hk _ _ _ _ _ _ _ _ _ _ _ _ ?N ?m1 ?hts ?hn ?hl ?hbe ?m2 ?m3 ?e1 ?hTT ?hd ?hu ?_ ?_); (case B => k_asm); (case F => k_asm); (case X => k_asm); (case T => k_asm); (case hk => first | exact rfl | assumption); (case N => k_asm); (case m1 => k_mem); (case hts => (repeat (first | assumption | exact PyProof.Rows.StrsAre.nil | apply PyProof.Rows.StrsAre.cons | apply StrsAre.snoc))); (case hn => first | assumption | (simp only [List.length_cons, List.length_nil]; omega) | decide); (case hl => first | assumption | (intro z hz; simp only [List.mem_cons, List.not_mem_nil, or_false] at hz; first | omega | (rcases hz with rfl|rfl|rfl <;> assumption) | (rcases hz with rfl|rfl <;> assumption) | (subst hz; assumption))); (case hbe => first | assumption | decide +kernel); (case m2 => k_mem); (case m3 => k_mem); (case e1 => assumption); (case hTT => first | assumption | omega); (case hd => ktr_room); (case hu => ktr_units); intro t' h' tk' hc' F' N'; (try dsimp only); rotate_left; intro e' t' g' h' tk' hc' F' U' R'; (try dsimp only); rotate_left))
  k_with "call ref" => (k_here; (with_reducible show wpAny _ _ (call (Value.ref 324) _) _ _ _); k_dflt ((refine' put_spec _ _ _ _ _ _ _ _ _ _ _ _ _ _ _ _ _ _ ?B ?F ?X ?T ?hk _ _ _ _ _ _ _ _ _ _ _ _ _ _ _ _ ?N ?hoff ?m1 ?m2 ?m3 ?m4 ?hv ?hl ?hx ?hs ?hok ?hTT ?e1 ?e2 ?hd ?hu ?_ ?_); (case B => k_asm); (case F => k_asm); (case X => k_asm); (case T => k_asm); (case hk => first | exact rfl | assumption); (case N => first | k_asm | exact newsTail (by k_asm)); (case hoff => first | assumption | k_all); (case m1 => k_mem); (case m2 => k_mem); (case m3 => k_mem); (case m4 => k_mem); (case hv => assumption); (case hl => assumption); (case hx => first | assumption |  omega | (simp only [PySem.Str.length_append] at *; omega)); (case hs => assumption); (case hok => assumption); (case hTT => first | assumption | exact And.intro (by omega) (by omega)); (case e1 => assumption); (case e2 => assumption); (case hd => ktr_room); (case hu => ktr_units); intro rs' us' c' h' tk' hc' hv' F' N'; (try dsimp only); rotate_left; intro e' t' g' h' tk' hc' F' U' R'; (try dsimp only); rotate_left))
  k_with "call ref" => (k_here; (with_reducible show wpAny _ _ (call (Value.ref 310) _) _ _ _); k_dflt ((refine' concat_spec _ _ _ _ _ _ _ _ _ _ _ _ _ _ _ _ _ _ ?B ?F ?X ?T ?hk _ _ _ _ _ _ _ _ _ _ ?N ?m2 ?m3 ?e1 ?hx ?hy ?hd ?hu ?_ ?_); (case B => k_asm); (case F => k_asm); (case X => k_asm); (case T => k_asm); (case hk => first | exact rfl | assumption); (case N => k_asm); (case m2 => k_mem); (case m3 => k_mem); (case e1 => assumption); (case hx => first | assumption | omega); (case hy => first | assumption | omega); (case hd => ktr_room); (case hu => ktr_units); intro h' tk' t' hc' F' N'; (try dsimp only); rotate_left; intro e' t' g' h' tk' hc' F' U' R'; (try dsimp only); rotate_left))
  trivial
theorem ne_t {a b : PySem.Str} (h : (a != b) = true) : a ≠ b := by simpa using h
theorem ne_f {a b : PySem.Str} (h : (a != b) = false) : a = b := by simpa using h
section
variable {T : Int} {er tail dft : PySem.Str} {ts : List PySem.Str}
theorem msgR_out (h : T < ((Txt.join (PySem.Str.ofString "") ts).length : Int)) : msgR T er ts tail dft = .no (PySem.Str.ofString "Out of memory") := by unfold msgR; rw [if_pos h]
theorem msgR_text (h : ¬ T < ((Txt.join (PySem.Str.ofString "") ts).length : Int)) (h2 : (Txt.join (PySem.Str.ofString "") ts != PySem.Str.ofString "") = true) : msgR T er ts tail dft = .ok (Txt.join (PySem.Str.ofString "") ts) := by
  unfold msgR; rw [if_neg h, if_pos (ne_t h2)]
theorem msgR_dft (h : ¬ T < ((Txt.join (PySem.Str.ofString "") ts).length : Int)) (h2 : (Txt.join (PySem.Str.ofString "") ts != PySem.Str.ofString "") = false) (h3 : (er != PySem.Str.ofString "") = false) : msgR T er ts tail dft = .ok dft := by
  unfold msgR; rw [if_neg h, if_neg (not_not_intro (ne_f h2)), if_pos (ne_f h3)]
theorem msgR_app (h : ¬ T < ((Txt.join (PySem.Str.ofString "") ts).length : Int)) (h2 : (Txt.join (PySem.Str.ofString "") ts != PySem.Str.ofString "") = false) (h3 : (er != PySem.Str.ofString "") = true) (h4 : ¬ T < ((er ++ tail).length : Int)) : msgR T er ts tail dft = .ok (er ++ tail) := by
  unfold msgR; rw [if_neg h, if_neg (not_not_intro (ne_f h2)), if_neg (ne_t h3), if_neg h4]
theorem msgR_no (h : ¬ T < ((Txt.join (PySem.Str.ofString "") ts).length : Int)) (h2 : (Txt.join (PySem.Str.ofString "") ts != PySem.Str.ofString "") = false) (h3 : (er != PySem.Str.ofString "") = true) (h4 : T < ((er ++ tail).length : Int)) : msgR T er ts tail dft = .no (PySem.Str.ofString "Out of memory!") := by
  unfold msgR; rw [if_neg h, if_neg (not_not_intro (ne_f h2)), if_neg (ne_t h3), if_pos h4]
end
section
variable {PV : PySem.Program} {LZ : List PySem.Str} {w : World} {mean : ExcName → Option Value} {mg mb : PySem.Str → Option Value} (dp un : Nat) (gd : Option (List Code)) (cn : PySem.Str) (cs : Scope) (a : Addr) (ccd : Value) (cl : List (PySem.Str × Addr)) (outer : List Env) (A₀ : Around) (base h₀ : Heap) (L : Addr) (m : PySem.Str → Option Value) (s : Shared) (Q E : Value → Shared → Prop) (rest : List (Addr × Obj))
  (B : Below A₀ base outer h₀) (F : Fr h₀ L s.heap m) (X : (hpK w.params).In h₀) (T : Top PV LZ mean mg mb h₀) (hk : cs.kind = .function)
include B F X T hk
theorem message_spec (ro re : Addr) (c0 : Nat) (tx : Addr) (vs : List Value) (ts : List PySem.Str) (run : Addr) (be en er : PySem.Str) (TT : Int) (tail dft : PySem.Str) (t1 t2 : Tok)
  (N : News h₀ L s.heap rest) (R : RunIs w rest run ro re be en er TT)
  (m0 : (tx, W.listOf vs.toArray c0) ∈ rest) (hts : PyProof.Rows.StrsAre vs ts) (hn : ts.length ≤ 3) (hl : ∀ t ∈ ts, t.length ≤ 19)
  (her : er.length ≤ 24) (htail : tail.length ≤ 16)
   (hTT : TT ≤ 40)
   (hdp : dp + 14 < recursionLimit) (hun : un + 400 < cLine)
   (ret : ∀ x h' tk' t', msgR TT er ts tail dft = .ok x → Fr h₀ L h' m → News h₀ L h' rest → Q (.str x t') { s with heap := h', toks := tk' })
   (rai : ∀ x e t g h' tk', msgR TT er ts tail dft = .no x → Fr h₀ L g m → g.UpToSlots h' → RaisedV base g (envX cn cs L a ccd cl :: outer) e x t rest h' → E (.ref e) { s with heap := h', toks := tk' }) :
   wpAny (model PR w) (ktrTop dp un gd cn cs L a ccd cl outer) (call (.ref 501) [.ref run, .ref tx, .str tail t1, .str dft t2]) Q E s := by
  obtain ⟨hp, gns, drw, tks, osx⟩ := s
  obtain ⟨⟨run, runD, lim, limD, st, stD, gl, g1, g1D, g2, g2D, g3, g3D, s1, s1D, s2, s2D, s3, s3D, fr, frD, frL, glO, es, les, stes, g1es, g2es, g3es, s1es, s2es, s3es, fes, c1, c2, c3, c4, c5, c6, c7, c8, c9, c10, c11, tt, tb, te, tr, tl⟩, rfl, hm, d7, lo, e1, e2, e3, e4, e5, e6, e7, e8, e9, e10, e11, e12, e13, e14, e15, e16, e17, e18, e19⟩ := R
  simp only [RunA.mems, List.forall_mem_cons] at hm
  obtain ⟨m1, m2, m3, m4, m5, m6, m7, m8, m9, m10, m11, m12, m13, m14, m15, m16, m17, m18, m19, m20, m21, m22, -⟩ := hm
  dsimp only at d7 lo e1 e2 e3 e4 e5 e6 e7 e8 e9 e10 e11 e12 e13 e14 e15 e16 e17 e18 e19 N ⊢
  have hvs : vs.length ≤ 3 := by rw [strsAre_length hts]; exact hn
  dsimp only at F N ret rai ⊢
  have hts' := hts
  cases hts' with
  | nil =>
    have hb0 : (Txt.join (PySem.Str.ofString "") [] != PySem.Str.ofString "") = false := by decide +kernel
    k_steps
    all_goals (try dsimp only)
    all_goals first
    | (exfalso; (with_reducible rename (_ : Int) ≠ (1 : Int) => hb); (simp at hb); done)
    | (exfalso; (with_reducible rename (_ : Int) = (1 : Int) => hb); (simp at hb); omega)
    | (exfalso; (with_reducible rename (_ : Int) = (1 : Int) => hb); (simp at hb); done)
    | exact rai _ _ _ _ _ _ (msgR_out (by assumption)) (by assumption) (by assumption) (RaisedV.sub (by assumption) cons_sub)
    | exact rai _ _ _ _ _ _ (msgR_no (by assumption) (by assumption) (by assumption) (by assumption)) (by assumption) (by assumption) (RaisedV.sub (by assumption) cons_sub)
    | exact ret _ _ _ _ (msgR_app (by assumption) (by assumption) (by assumption) (by assumption)) (by assumption) (newsTail (by assumption))
    | exact ret _ _ _ _ (msgR_dft (by assumption) (by assumption) (by assumption)) (by assumption) (newsTail (by assumption))
    | exact ret _ _ _ _ (msgR_text (by assumption) (by assumption)) (by assumption) (newsTail (by assumption))
  | cons y1 k1 hts' =>
    cases hts' with
    | nil =>
      k_steps
      all_goals (try dsimp only)
      all_goals first
      | (exfalso; (with_reducible rename (_ : Int) ≠ (1 : Int) => hb); (simp at hb); done)
      | (exfalso; (with_reducible rename (_ : Int) = (1 : Int) => hb); (simp at hb); omega)
      | (exfalso; (with_reducible rename (_ : Int) = (1 : Int) => hb); (simp at hb); done)
      | exact rai _ _ _ _ _ _ (msgR_out (by assumption)) (by assumption) (by assumption) (RaisedV.sub (by assumption) cons_sub)
      | exact rai _ _ _ _ _ _ (msgR_no (by assumption) (by assumption) (by assumption) (by assumption)) (by assumption) (by assumption) (RaisedV.sub (by assumption) cons_sub)
      | exact ret _ _ _ _ (msgR_app (by assumption) (by assumption) (by assumption) (by assumption)) (by assumption) (newsTail (by assumption))
      | exact ret _ _ _ _ (msgR_dft (by assumption) (by assumption) (by assumption)) (by assumption) (newsTail (by assumption))
      | exact ret _ _ _ _ (msgR_text (by assumption) (by assumption)) (by assumption) (newsTail (by assumption))
    | cons y2 k2 hts' =>
      k_steps
      all_goals (try dsimp only)
      all_goals first
      | (exfalso; (with_reducible rename (_ : Int) ≠ (1 : Int) => hb); (simp at hb); done)
      | (exfalso; (with_reducible rename (_ : Int) = (1 : Int) => hb); (simp at hb); omega)
      | (exfalso; (with_reducible rename (_ : Int) = (1 : Int) => hb); (simp at hb); done)
      | exact rai _ _ _ _ _ _ (msgR_out (by assumption)) (by assumption) (by assumption) (RaisedV.sub (by assumption) cons_sub)
      | exact rai _ _ _ _ _ _ (msgR_no (by assumption) (by assumption) (by assumption) (by assumption)) (by assumption) (by assumption) (RaisedV.sub (by assumption) cons_sub)
      | exact ret _ _ _ _ (msgR_app (by assumption) (by assumption) (by assumption) (by assumption)) (by assumption) (newsTail (by assumption))
      | exact ret _ _ _ _ (msgR_dft (by assumption) (by assumption) (by assumption)) (by assumption) (newsTail (by assumption))
      | exact ret _ _ _ _ (msgR_text (by assumption) (by assumption)) (by assumption) (newsTail (by assumption))
end
end TQMsg2
end Mine
namespace Mine
section TQLm
open PySem PySem.W PyProof.Rows PySem.Spec PySem.Calls
open MineHd (hpK vwK hdT)
local macro_rules | `(tactic| k_all) => `(tactic| assumption)
local macro_rules | `(tactic| walk_at $s:str) => `(tactic| k_extra $s)
/-- the law's own dict -/
def OwnIs (w : World) (oo : Obj) (TT : Int) (tt : Tok) (le : Addr) (be : PySem.Str) (tb : Tok) (en : PySem.Str) (te : Tok) (er : PySem.Str) (tr : Tok) (lo : Addr) : Prop :=
  Obj.IsDictOf (PySem.strKind PR w) oo [(PySem.Str.ofString "text", .int TT tt), (PySem.Str.ofString "err", .ref le), (PySem.Str.ofString "between", .str be tb), (PySem.Str.ofString "ending", .str en te), (PySem.Str.ofString "error", .str er tr), (PySem.Str.ofString "out", .ref lo)]
theorem sum3 : ∀ {ts : List PySem.Str}, ts.length ≤ 3 → (∀ t ∈ ts, t.length ≤ 19) → (ts.map (·.length)).sum ≤ 2000
  | [], _, _ => by simp
  | [a], _, h => by have := h a (.head _); simp only [List.map_cons, List.map_nil, List.sum_cons, List.sum_nil]; omega
  | [a, b], _, h => by have := h a (.head _); have := h b (.tail _ (.head _)); simp only [List.map_cons, List.map_nil, List.sum_cons, List.sum_nil]; omega
  | [a, b, c], _, h => by have := h a (.head _); have := h b (.tail _ (.head _)); have := h c (.tail _ (.tail _ (.head _))); simp only [List.map_cons, List.map_nil, List.sum_cons, List.sum_nil]; omega
  | _ :: _ :: _ :: _ :: _, h, _ => by simp only [List.length_cons] at h; omega
theorem joinB_len {be : PySem.Str} (hb : be.length ≤ 1) : ∀ {ts : List PySem.Str}, ts.length ≤ 3 → (∀ t ∈ ts, t.length ≤ 19) → (Txt.join be ts).length ≤ 59
  | [], _, _ => by rw [join_len0]; omega
  | [a], _, h => by have := h a (.head _); rw [join_len1]; omega
  | [a, b], _, h => by have := h a (.head _); have := h b (.tail _ (.head _)); rw [join_len2]; omega
  | [a, b, c], _, h => by have := h a (.head _); have := h b (.tail _ (.head _)); have := h c (.tail _ (.tail _ (.head _))); rw [join_len3]; omega
  | _ :: _ :: _ :: _ :: _, h, _ => by simp only [List.length_cons] at h; omega
theorem bne_f {a b : PySem.Str} (h : (a == b) = true) : (a != b) = false := by simp [bne, h]
theorem bne_t {a b : PySem.Str} (h : (a == b) = false) : (a != b) = true := by simp [bne, h]
local macro_rules | `(tactic| k_get) => `(tactic| assumption)
local macro_rules | `(tactic| k_mem) => `(tactic| first | assumption | exact List.Mem.head _ | (refine List.mem_cons_of_mem _ ?_; k_mem))
local macro_rules | `(tactic| k_memK) => `(tactic| k_mem)
theorem said_QLm_0 : True := by
  k_with_none
  k_with "call ref" => (k_here; refine wpAny_call ?_; k_dflt (refine' code_def ?k1 ?k2 ?k3 ?k4 ?k5 ?kA ?kF ?kK ?k6 ?k7 ?k8 ?k9 ?kB ?_ ?c2 ?c3 ?c4 ?c5; (case kA => exact rfl); (case kF => exact rfl); (case kK => first | exact rfl | assumption); (case k1 => k_asm); (case k2 => k_asm); (case k3 => k_asm); (case k4 => k_asm); (case k5 => k_asm); (case k6 => k_is); (case k7 => k_is); (case k8 => ktr_room); (case k9 => exact BindsTo.of_eq rfl); (case c5 => decide); (case kB => exact locs rfl); (case c2 => exact rfl); (case c3 => exact rfl); (case c4 => exact rfl); k_whole; intro g' L' h' FG' F' N' B' X' T'; (try dsimp only); (try k_lift B'); (try k_fold)))
  k_with "compareOp NotIn str ref" => (k_here; k_dflt (refine' kdg_notin (knd := PySem.strKind _ _) ?N ?m ?d ?lo (strKind_is _ _ _ _) true ?b ?_; (case N => k_asm); (case m => k_mem); (case d => assumption); (case lo => assumption); (case b => first | assumption | rfl); k_whole))
  k_with "subscriptTail" => (k_here; (with_reducible show wpAny _ _ (subscriptTail _ _ (Value.ref _) (Value.str _ _)) _ _ _); k_dflt (refine' kda_item (knd := PySem.strKind _ _) ?N ?m ?d (strKind_is _ _ _ _) ?v ?_; (case N => k_asm); (case m => k_mem); (case d => assumption); (case v => first | assumption | rfl); k_whole))
  k_with "call builtin:len" => (k_here; (with_reducible show wpAny _ _ (call (Value.builtin "len") [Value.ref _]) _ _ _); k_dflt (refine' len_strs ?k1 ?k2 ?k3 ?k4 ?_; (case k1 => k_asm); (case k2 => k_mem); (case k3 => (repeat (first | assumption | exact PyProof.Rows.StrsAre.nil | apply PyProof.Rows.StrsAre.cons | apply StrsAre.snoc))); (case k4 => (simp only [List.length_cons, List.length_append, List.length_nil] at *; omega)); k_whole))
  k_with "compareOp NotEq ref ref" => (k_here; (with_reducible show wpAny _ _ (compareOp CmpOp.NotEq (Value.ref _) (Value.ref _)) _ _ _); (with_unfolding_all refine' ne_strs ?k1 ?k2 ?k3 ?k4 ?k6 ?k7 ?k5 ?_; (case k1 => is_list); (case k2 => first | assumption | exact PyProof.Rows.StrsAre.nil | exact PyProof.Rows.StrsAre.cons _ _ (by assumption)); (case k3 => is_list); (case k4 => first | assumption | exact PyProof.Rows.StrsAre.nil); (case k6 => first | assumption | exact (fun _ h => nomatch h)); (case k7 => first | assumption | exact (fun _ h => nomatch h)); (case k5 => first | units_room | ktr_units); k_whole); (try rw [decide_cons_nil]); (try rw [decide_nil_nil]))
  k_with "call builtin:str.join" => (k_here; (with_reducible show wpAny _ _ (call (Value.builtin "str.join") [Value.str _ _, Value.ref _]) _ _ _); k_dflt (refine' join_strs ?N ?m ?e ?x ?n ?s ?_; (case N => k_asm); (case m => k_mem); (case e => (repeat (first | assumption | exact PyProof.Rows.StrsAre.nil | apply PyProof.Rows.StrsAre.cons | apply StrsAre.snoc))); (case x => first | assumption | omega | decide +kernel); (case n => (simp only [List.length_cons, List.length_append, List.length_nil] at *; omega)); (case s => (simp only [List.map_cons, List.map_append, List.map_nil, List.sum_cons, List.sum_append, List.sum_nil] at *; omega)); k_whole); intro t' k')
  trivial
section
variable {PV : PySem.Program} {LZ : List PySem.Str} {w : World} {mean : ExcName → Option Value} {mg mb : PySem.Str → Option Value} (dp un : Nat) (gd : Option (List Code)) (cn : PySem.Str) (cs : Scope) (a : Addr) (ccd : Value) (cl : List (PySem.Str × Addr)) (outer : List Env) (A₀ : Around) (base h₀ : Heap) (L : Addr) (m : PySem.Str → Option Value) (s : Shared) (Q E : Value → Shared → Prop) (rest : List (Addr × Obj))
  (B : Below A₀ base outer h₀) (F : Fr h₀ L s.heap m) (X : (hpK w.params).In h₀) (T : Top PV LZ mean mg mb h₀) (hk : cs.kind = .function)
include B F X T hk
theorem lmsg_spec (od tx : Addr) (oo : Obj) (TT : Int) (tt : Tok) (le : Addr) (be : PySem.Str) (tb : Tok) (en : PySem.Str) (te : Tok) (er : PySem.Str) (tr : Tok) (lo : Addr) (c0 : Nat) (vs : List Value) (ts : List PySem.Str) (tail dft : PySem.Str) (t1 t2 : Tok)
  (N : News h₀ L s.heap rest) (mo : (od, oo) ∈ rest) (ho : OwnIs w oo TT tt le be tb en te er tr lo)
  (m0 : (tx, W.listOf vs.toArray c0) ∈ rest) (hts : PyProof.Rows.StrsAre vs ts) (hn : ts.length ≤ 3) (hl : ∀ t ∈ ts, t.length ≤ 19)
  (her : er.length ≤ 24) (htail : tail.length ≤ 16)
   (hTT : TT ≤ 40)
   (hdp : dp + 14 < recursionLimit) (hun : un + 400 < cLine)
   (ret : ∀ x h' tk' t', msgR TT er ts tail dft = .ok x → Fr h₀ L h' m → News h₀ L h' rest → Q (.str x t') { s with heap := h', toks := tk' })
   (retN : ∀ x h' tk', msgR TT er ts tail dft = .no x → Fr h₀ L h' m → News h₀ L h' rest → Q .none { s with heap := h', toks := tk' }) :
   wpAny (model PR w) (ktrTop dp un gd cn cs L a ccd cl outer) (call (.ref 607) [.ref od, .ref tx, .str tail t1, .str dft t2]) Q E s := by
  obtain ⟨hp, gns, drw, tks, osx⟩ := s
  unfold OwnIs at ho
  have hvs : vs.length ≤ 3 := by rw [strsAre_length hts]; exact hn
  have hsum : (ts.map (·.length)).sum ≤ 2000 := sum3 hn hl
  have hjl : (Txt.join (PySem.Str.ofString "") ts).length ≤ 59 := joinB_len (by decide +kernel) hn hl
  dsimp only at F N ret retN ⊢
  k_steps
  all_goals (try dsimp only)
  all_goals first
    | exact retN _ _ _ (msgR_out (by assumption)) (by assumption) (by assumption)
    | exact ret _ _ _ _ (msgR_text (by assumption) (by assumption)) (by assumption) (by assumption)
    | exact ret _ _ _ _ (msgR_dft (by assumption) (by assumption) (bne_f (by assumption))) (by assumption) (by assumption)
    | exact ret _ _ _ _ (msgR_app (by assumption) (by assumption) (bne_t (by assumption)) (Int.not_lt.mpr (by assumption))) (by assumption) (by assumption)
    | exact retN _ _ _ (msgR_no (by assumption) (by assumption) (bne_t (by assumption)) (Int.not_le.mp (by assumption))) (by assumption) (by assumption)
end
end TQLm
end Mine
namespace Mine
section TQLp
open PySem PySem.W PyProof.Rows PySem.Spec PySem.Calls
open MineHd (hpK vwK hdT)
local macro_rules | `(tactic| k_all) => `(tactic| assumption)
local macro_rules | `(tactic| walk_at $s:str) => `(tactic| k_extra $s)
section
variable {prog : Program} {w : World} {A : Around} {E : Value → Shared → Prop} {s : Shared} {h₀ : Heap} {L a b : Addr} {m : PySem.Str → Option Value} {news : List (Addr × Obj)} {us : List Value} {v : Value} {c c2 : Nat} {Q : Value → Shared → Prop}
theorem add_snoc (F : Fr h₀ L s.heap m) (N : News h₀ L s.heap news) (ha : (a, W.listOf us.toArray c) ∈ news) (hb : (b, W.listOf [v].toArray c2) ∈ news) (hz : us.length ≤ 2000)
    (h : ∀ D h', Fr h₀ L h' m → News h₀ L h' ((D, W.listOf (us ++ [v]).toArray 0) :: news) → (∀ p ∈ news, p.1 < D) → Q (.ref D) { s with heap := h' }) :
    wpAny (model prog w) A (binaryOp .Add (.ref a) (.ref b)) Q E s :=
  add_lists F N (News.isList N ha) (News.isList N hb) (fun h' F' N' => h _ h' F' N' fun p hp => Heap.lt_size (N p hp).1) (by rw [PySem.sizeLine_eq]; simp only [List.length_cons, List.length_nil]; omega)
end
theorem offOf {a d : Addr} {o : Obj} {l : List (Addr × Obj)} (h : @LT.lt Nat _ a d) (h2 : AllLt d l) : ∀ p ∈ (a, o) :: l, p.1 ≠ d := fun p hp => by
  rcases List.mem_cons.mp hp with rfl | hp
  · exact Nat.ne_of_lt h
  · exact Nat.ne_of_lt (kst_ltOf h2 p hp)
local macro_rules | `(tactic| k_get) => `(tactic| assumption)
local macro_rules | `(tactic| k_mem) => `(tactic| first | assumption | exact List.Mem.head _ | (refine List.mem_cons_of_mem _ ?_; k_mem))
local macro_rules | `(tactic| k_memK) => `(tactic| k_mem)
theorem said_QLp_0 : True := by
  k_with_none
  k_with "execs cons" => (k_here; (with_reducible first | refine tok_k (gns := gns) (drw := drw) (osx := osx) ?_ | refine tok_p (gns := gns) (drw := drw) (osx := osx) ?_); intro tk9)
  k_with "setAttr ref" => (k_here; k_dflt (refine' set_dictP (gns := gns) (drw := drw) (osx := osx) ?k1 ?k2 ?k3 ?k4 ?k5 ?k6 ?k7 ?k8 ?k9 ?k10 ?_; (case k1 => k_asm); (case k2 => k_asm); (case k3 => k_asm); (case k4 => k_inst); (case k5 => exact rfl); (case k6 => k_is); (case k7 => k_is); (case k8 => k_is); (case k9 => k_is); (case k10 => k_get)); intro t'; k_dflt (refine' SetTo.mk ?k11 ?k12 ?k13 ?_; (case k11 => k_put); (case k12 => k_upd); (case k13 => exact Nat.le_of_ble_eq_true rfl)); intro h' tk' F' N'; (try k_sweep))
  k_with "setAttr ref" => (k_here; (with_reducible first | refine val_k ?_ | refine val_p ?_); intro tk9)
  k_with "call ref" => (k_here; refine wpAny_call ?_; k_dflt (refine' code_def ?k1 ?k2 ?k3 ?k4 ?k5 ?kA ?kF ?kK ?k6 ?k7 ?k8 ?k9 ?kB ?_ ?c2 ?c3 ?c4 ?c5; (case kA => exact rfl); (case kF => exact rfl); (case kK => first | exact rfl | assumption); (case k1 => k_asm); (case k2 => k_asm); (case k3 => k_asm); (case k4 => k_asm); (case k5 => k_asm); (case k6 => k_is); (case k7 => k_is); (case k8 => ktr_room); (case k9 => first | (refine' binds_zip ?g1 ?g2 ?q1 ?q2; (case g1 => exact rfl); (case g2 => exact rfl); (case q1 => ((repeat (refine' bcons ?_ ?_; rotate_left 2; focus (first | (dsimp only; done) | exact rfl))); first | exact (rfl : ([] : List (PySem.Str × Value)) = []) | exact rfl)); (case q2 => kernel_rfl)) | exact BindsTo.of_eq rfl); (case c5 => decide); (case kB => exact locs rfl); (case c2 => exact rfl); (case c3 => exact rfl); (case c4 => exact rfl); k_whole; intro g' L' h' FG' F' N' B' X' T'; (try dsimp only); (try k_lift B'); (try k_fold)))
  k_with "compareOp NotIn str ref" => (k_here; k_dflt (refine' kdg_notin (knd := PySem.strKind _ _) ?N ?m ?d ?lo (strKind_is _ _ _ _) true ?b ?_; (case N => k_asm); (case m => k_mem); (case d => assumption); (case lo => assumption); (case b => first | assumption | rfl); k_whole))
  k_with "subscriptTail" => (k_here; (with_reducible show wpAny _ _ (subscriptTail _ _ (Value.ref _) (Value.str _ _)) _ _ _); k_dflt (refine' kda_item (knd := PySem.strKind _ _) ?N ?m ?d (strKind_is _ _ _ _) ?v ?_; (case N => k_asm); (case m => k_mem); (case d => assumption); (case v => first | assumption | rfl); k_whole))
  k_with "call builtin:len" => (k_here; (with_reducible show wpAny _ _ (call (Value.builtin "len") [Value.ref _]) _ _ _); k_dflt (refine' len_strs ?k1 ?k2 ?k3 ?k4 ?_; (case k1 => k_asm); (case k2 => k_mem); (case k3 => (repeat (first | assumption | exact PyProof.Rows.StrsAre.nil | apply PyProof.Rows.StrsAre.cons | apply StrsAre.snoc))); (case k4 => (simp only [List.length_cons, List.length_append, List.length_nil] at *; omega)); k_whole))
  k_with "compareOp NotEq ref ref" => (k_here; (with_reducible show wpAny _ _ (compareOp CmpOp.NotEq (Value.ref _) (Value.ref _)) _ _ _); (with_unfolding_all refine' ne_strs ?k1 ?k2 ?k3 ?k4 ?k6 ?k7 ?k5 ?_; (case k1 => is_list); (case k2 => first | assumption | exact PyProof.Rows.StrsAre.nil | exact PyProof.Rows.StrsAre.cons _ _ (by assumption)); (case k3 => is_list); (case k4 => first | assumption | exact PyProof.Rows.StrsAre.nil); (case k6 => first | assumption | exact (fun _ h => nomatch h)); (case k7 => first | assumption | exact (fun _ h => nomatch h)); (case k5 => first | units_room | ktr_units); k_whole); (try rw [decide_cons_nil]); (try rw [decide_nil_nil]))
  k_with "call builtin:str.join" => (k_here; (with_reducible show wpAny _ _ (call (Value.builtin "str.join") [Value.str _ _, Value.ref _]) _ _ _); k_dflt (refine' join_strs ?N ?m ?e ?x ?n ?s ?_; (case N => k_asm); (case m => k_mem); (case e => (repeat (first | assumption | exact PyProof.Rows.StrsAre.nil | apply PyProof.Rows.StrsAre.cons | apply StrsAre.snoc))); (case x => first | assumption | omega | decide +kernel); (case n => (simp only [List.length_cons, List.length_append, List.length_nil] at *; omega)); (case s => (simp only [List.map_cons, List.map_append, List.map_nil, List.sum_cons, List.sum_append, List.sum_nil] at *; omega)); k_whole); intro t' k')
  k_with "subscriptTail" => (k_here; (with_reducible show wpAny _ _ (subscriptTail _ _ (Value.ref _) (Value.int 0 _)) _ _ _); k_dflt (refine' item_first (News.isList ?N ?m) ?_ ?k6; (case N => k_asm); (case m => k_mem); (case k6 => with_unfolding_all rfl); k_whole))
  k_with "subscriptTail" => (k_here; (with_reducible show wpAny _ _ (subscriptTail _ _ (Value.ref _) (Value.int (-1) _)) _ _ _); k_dflt (refine' item_last1 (News.isList ?N ?m) ?_ ?k6; (case N => k_asm); (case m => k_mem); (case k6 => with_unfolding_all rfl); k_whole))
  k_with "setItem ref ref" => (k_here; k_dflt (refine' setWhole_N ?F ?N ?U ?v ?ne ?z ?_; (case F => k_asm); (case N => k_asm); (case U => k_updF); (case v => k_mem); (case ne => k_ne); (case z => (simp only [List.size_toArray, List.length_cons, List.length_append, List.length_nil]; omega)); k_whole); intro h' c' F' N'; (try dsimp only at N'))
  k_with "binaryOp Add ref ref" => (k_here; (with_reducible show wpAny _ _ (binaryOp _ (Value.ref _) (Value.ref _)) _ _ _); k_dflt (refine' add_snoc ?F ?N ?a ?b ?z ?_; (case F => k_asm); (case N => k_asm); (case a => k_mem); (case b => k_mem); (case z => simp only [List.length_cons]; omega)); intro D' h' F' N' l1; (try k_lt l1))
  trivial
section
variable {PV : PySem.Program} {LZ : List PySem.Str} {w : World} {mean : ExcName → Option Value} {mg mb : PySem.Str → Option Value} (dp un : Nat) (gd : Option (List Code)) (cn : PySem.Str) (cs : Scope) (a : Addr) (ccd : Value) (cl : List (PySem.Str × Addr)) (outer : List Env) (A₀ : Around) (base h₀ : Heap) (L : Addr) (m : PySem.Str → Option Value) (s : Shared) (Q E : Value → Shared → Prop) (rest : List (Addr × Obj))
  (B : Below A₀ base outer h₀) (F : Fr h₀ L s.heap m) (X : (hpK w.params).In h₀) (T : Top PV LZ mean mg mb h₀) (hk : cs.kind = .function)
include B F X T hk
theorem lput_out (od : Addr) (oo : Obj) (TT : Int) (tt : Tok) (le : Addr) (be : PySem.Str) (tb : Tok) (en : PySem.Str) (te : Tok) (er : PySem.Str) (tr : Tok) (lo : Addr) (us : List Value) (rows : List PySem.Str) (c : Nat) (x : PySem.Str) (tx t1 : Tok)
  (N : News h₀ L s.heap ((od, oo) :: rest)) (hoff : ∀ p ∈ rest, p.1 ≠ od) (ho : OwnIs w oo TT tt le be tb en te er tr lo)
  (m0 : (lo, W.listOf us.toArray c) ∈ rest) (hv : PyProof.Rows.StrsAre us rows) (hr : RowsOk rows)
  (hx : x.length ≤ 1000)
   (hTT : 0 ≤ TT ∧ TT ≤ 40)
   (hdp : dp + 14 < recursionLimit) (hun : un + 400 < cLine)
   (ret : ∀ rows' us' c' oo' l' h' tk', putR TT rows x = some rows' → PyProof.Rows.StrsAre us' rows' → Fr h₀ L h' m → OwnIs w oo' TT tt le be tb en te er tr l' → News h₀ L h' ((l', W.listOf us'.toArray c') :: (od, oo') :: rest) → (∀ p ∈ (od, oo') :: rest, p.1 ≠ l') → Q (.bool true) { s with heap := h', toks := tk' })
   (retN : ∀ h' tk', putR TT rows x = none → Fr h₀ L h' m → News h₀ L h' ((od, oo) :: rest) → Q (.bool false) { s with heap := h', toks := tk' }) :
   wpAny (model PR w) (ktrTop dp un gd cn cs L a ccd cl outer) (call (.ref 614) [.ref od, .str (PySem.Str.ofString "out") t1, .str x tx]) Q E s := by
  obtain ⟨hp, gns, drw, tks, osx⟩ := s
  unfold OwnIs at ho ret
  obtain ⟨hr1, hr2, hr3⟩ := hr
  have N := newsDup2 N m0
  have hol : lo ≠ od := hoff _ m0
  dsimp only at F N ret retN ⊢
  cases hv with
  | nil =>
    k_steps
    all_goals (try dsimp only)
    all_goals first
      | (exfalso; (with_reducible rename ((List.length _ : Nat) : Int) = (1001 : Int) => hd); simp at hd; done)
      | ((with_reducible rename 100 * TT < _ => hc); rename News h₀ L _ _ => kN; exact retN _ _ (putR_no hc) (by assumption) (newsSub kN (List.forall_mem_cons.mpr ⟨by (repeat (first | assumption | exact List.Mem.head _ | refine List.mem_cons_of_mem _ ?_)), fun p hp => by (repeat (first | assumption | exact List.Mem.head _ | refine List.mem_cons_of_mem _ ?_))⟩)))
      | ((with_reducible rename ¬ (100 * TT < _) => hc); (with_reducible rename ((List.length _ : Nat) : Int) = (1001 : Int) => hd); rename News h₀ L _ _ => kN; rename _ ∧ _ ∧ _ ∧ _ ∧ _ ∧ AllLt _ _ => hl; exact ret _ _ _ _ _ _ _ (putR_join hc (by omega)) (.cons _ _ .nil) (by assumption) (by assumption) (newsSub kN (List.forall_mem_cons.mpr ⟨by (repeat (first | assumption | exact List.Mem.head _ | refine List.mem_cons_of_mem _ ?_)), List.forall_mem_cons.mpr ⟨by (repeat (first | assumption | exact List.Mem.head _ | refine List.mem_cons_of_mem _ ?_)), fun p hp => by (repeat (first | assumption | exact List.Mem.head _ | refine List.mem_cons_of_mem _ ?_))⟩⟩)) (offOf hl.2.2.2.1 hl.2.2.2.2.2))
      | ((with_reducible rename ¬ (100 * TT < _) => hc); (with_reducible rename ((List.length _ : Nat) : Int) ≠ (1001 : Int) => hd); rename News h₀ L _ _ => kN; rename _ ∧ _ ∧ _ ∧ _ ∧ AllLt _ _ => hl; exact ret _ _ _ _ _ _ _ (putR_add hc (by simp only [List.length_cons, List.length_append, List.length_nil] at hd ⊢; omega)) (.cons _ _ (StrsAre.snoc hv x tx)) (by assumption) (by assumption) (newsSub kN (List.forall_mem_cons.mpr ⟨by (repeat (first | assumption | exact List.Mem.head _ | refine List.mem_cons_of_mem _ ?_)), List.forall_mem_cons.mpr ⟨by (repeat (first | assumption | exact List.Mem.head _ | refine List.mem_cons_of_mem _ ?_)), fun p hp => by (repeat (first | assumption | exact List.Mem.head _ | refine List.mem_cons_of_mem _ ?_))⟩⟩)) (offOf hl.2.2.1 hl.2.2.2.2))
      | ((with_reducible rename ((List.length _ : Nat) : Int) ≠ (1001 : Int) => hd); rename News h₀ L _ _ => kN; rename _ ∧ _ ∧ _ ∧ _ ∧ AllLt _ _ => hl; exact ret _ _ _ _ _ _ _ rfl (.cons _ _ .nil) (by assumption) (by assumption) (newsSub kN (List.forall_mem_cons.mpr ⟨by (repeat (first | assumption | exact List.Mem.head _ | refine List.mem_cons_of_mem _ ?_)), List.forall_mem_cons.mpr ⟨by (repeat (first | assumption | exact List.Mem.head _ | refine List.mem_cons_of_mem _ ?_)), fun p hp => by (repeat (first | assumption | exact List.Mem.head _ | refine List.mem_cons_of_mem _ ?_))⟩⟩)) (offOf hl.2.2.1 hl.2.2.2.2))
  | @cons y ty us ys hv =>
    simp only [List.length_cons, List.map_cons, List.sum_cons] at hr1 hr2
    have hus : us.length ≤ 999 := by rw [strsAre_length hv]; omega
    have hy : y.length ≤ 1000000 := by omega
    k_steps
    all_goals (try dsimp only)
    all_goals first
      | (exfalso; (with_reducible rename ((List.length _ : Nat) : Int) = (1001 : Int) => hd); simp at hd; done)
      | ((with_reducible rename 100 * TT < _ => hc); rename News h₀ L _ _ => kN; exact retN _ _ (putR_no hc) (by assumption) (newsSub kN (List.forall_mem_cons.mpr ⟨by (repeat (first | assumption | exact List.Mem.head _ | refine List.mem_cons_of_mem _ ?_)), fun p hp => by (repeat (first | assumption | exact List.Mem.head _ | refine List.mem_cons_of_mem _ ?_))⟩)))
      | ((with_reducible rename ¬ (100 * TT < _) => hc); (with_reducible rename ((List.length _ : Nat) : Int) = (1001 : Int) => hd); rename News h₀ L _ _ => kN; rename _ ∧ _ ∧ _ ∧ _ ∧ _ ∧ AllLt _ _ => hl; exact ret _ _ _ _ _ _ _ (putR_join hc (by omega)) (.cons _ _ .nil) (by assumption) (by assumption) (newsSub kN (List.forall_mem_cons.mpr ⟨by (repeat (first | assumption | exact List.Mem.head _ | refine List.mem_cons_of_mem _ ?_)), List.forall_mem_cons.mpr ⟨by (repeat (first | assumption | exact List.Mem.head _ | refine List.mem_cons_of_mem _ ?_)), fun p hp => by (repeat (first | assumption | exact List.Mem.head _ | refine List.mem_cons_of_mem _ ?_))⟩⟩)) (offOf hl.2.2.2.1 hl.2.2.2.2.2))
      | ((with_reducible rename ¬ (100 * TT < _) => hc); (with_reducible rename ((List.length _ : Nat) : Int) ≠ (1001 : Int) => hd); rename News h₀ L _ _ => kN; rename _ ∧ _ ∧ _ ∧ _ ∧ AllLt _ _ => hl; exact ret _ _ _ _ _ _ _ (putR_add hc (by simp only [List.length_cons, List.length_append, List.length_nil] at hd ⊢; omega)) (.cons _ _ (StrsAre.snoc hv x tx)) (by assumption) (by assumption) (newsSub kN (List.forall_mem_cons.mpr ⟨by (repeat (first | assumption | exact List.Mem.head _ | refine List.mem_cons_of_mem _ ?_)), List.forall_mem_cons.mpr ⟨by (repeat (first | assumption | exact List.Mem.head _ | refine List.mem_cons_of_mem _ ?_)), fun p hp => by (repeat (first | assumption | exact List.Mem.head _ | refine List.mem_cons_of_mem _ ?_))⟩⟩)) (offOf hl.2.2.1 hl.2.2.2.2))
      | ((with_reducible rename ((List.length _ : Nat) : Int) ≠ (1001 : Int) => hd); rename News h₀ L _ _ => kN; rename _ ∧ _ ∧ _ ∧ _ ∧ AllLt _ _ => hl; exact ret _ _ _ _ _ _ _ rfl (.cons _ _ .nil) (by assumption) (by assumption) (newsSub kN (List.forall_mem_cons.mpr ⟨by (repeat (first | assumption | exact List.Mem.head _ | refine List.mem_cons_of_mem _ ?_)), List.forall_mem_cons.mpr ⟨by (repeat (first | assumption | exact List.Mem.head _ | refine List.mem_cons_of_mem _ ?_)), fun p hp => by (repeat (first | assumption | exact List.Mem.head _ | refine List.mem_cons_of_mem _ ?_))⟩⟩)) (offOf hl.2.2.1 hl.2.2.2.2))
theorem lput_err (od : Addr) (oo : Obj) (TT : Int) (tt : Tok) (le : Addr) (be : PySem.Str) (tb : Tok) (en : PySem.Str) (te : Tok) (er : PySem.Str) (tr : Tok) (lo : Addr) (us : List Value) (rows : List PySem.Str) (c : Nat) (x : PySem.Str) (tx t1 : Tok)
  (N : News h₀ L s.heap ((od, oo) :: rest)) (hoff : ∀ p ∈ rest, p.1 ≠ od) (ho : OwnIs w oo TT tt le be tb en te er tr lo)
  (m0 : (le, W.listOf us.toArray c) ∈ rest) (hv : PyProof.Rows.StrsAre us rows) (hr : RowsOk rows)
  (hx : x.length ≤ 1000)
   (hTT : 0 ≤ TT ∧ TT ≤ 40)
   (hdp : dp + 14 < recursionLimit) (hun : un + 400 < cLine)
   (ret : ∀ rows' us' c' oo' l' h' tk', putR TT rows x = some rows' → PyProof.Rows.StrsAre us' rows' → Fr h₀ L h' m → OwnIs w oo' TT tt l' be tb en te er tr lo → News h₀ L h' ((l', W.listOf us'.toArray c') :: (od, oo') :: rest) → (∀ p ∈ (od, oo') :: rest, p.1 ≠ l') → Q (.bool true) { s with heap := h', toks := tk' })
   (retN : ∀ h' tk', putR TT rows x = none → Fr h₀ L h' m → News h₀ L h' ((od, oo) :: rest) → Q (.bool false) { s with heap := h', toks := tk' }) :
   wpAny (model PR w) (ktrTop dp un gd cn cs L a ccd cl outer) (call (.ref 614) [.ref od, .str (PySem.Str.ofString "err") t1, .str x tx]) Q E s := by
  obtain ⟨hp, gns, drw, tks, osx⟩ := s
  unfold OwnIs at ho ret
  obtain ⟨hr1, hr2, hr3⟩ := hr
  have N := newsDup2 N m0
  have hol : le ≠ od := hoff _ m0
  dsimp only at F N ret retN ⊢
  cases hv with
  | nil =>
    k_steps
    all_goals (try dsimp only)
    all_goals first
      | (exfalso; (with_reducible rename ((List.length _ : Nat) : Int) = (1001 : Int) => hd); simp at hd; done)
      | ((with_reducible rename 100 * TT < _ => hc); rename News h₀ L _ _ => kN; exact retN _ _ (putR_no hc) (by assumption) (newsSub kN (List.forall_mem_cons.mpr ⟨by (repeat (first | assumption | exact List.Mem.head _ | refine List.mem_cons_of_mem _ ?_)), fun p hp => by (repeat (first | assumption | exact List.Mem.head _ | refine List.mem_cons_of_mem _ ?_))⟩)))
      | ((with_reducible rename ¬ (100 * TT < _) => hc); (with_reducible rename ((List.length _ : Nat) : Int) = (1001 : Int) => hd); rename News h₀ L _ _ => kN; rename _ ∧ _ ∧ _ ∧ _ ∧ _ ∧ AllLt _ _ => hl; exact ret _ _ _ _ _ _ _ (putR_join hc (by omega)) (.cons _ _ .nil) (by assumption) (by assumption) (newsSub kN (List.forall_mem_cons.mpr ⟨by (repeat (first | assumption | exact List.Mem.head _ | refine List.mem_cons_of_mem _ ?_)), List.forall_mem_cons.mpr ⟨by (repeat (first | assumption | exact List.Mem.head _ | refine List.mem_cons_of_mem _ ?_)), fun p hp => by (repeat (first | assumption | exact List.Mem.head _ | refine List.mem_cons_of_mem _ ?_))⟩⟩)) (offOf hl.2.2.2.1 hl.2.2.2.2.2))
      | ((with_reducible rename ¬ (100 * TT < _) => hc); (with_reducible rename ((List.length _ : Nat) : Int) ≠ (1001 : Int) => hd); rename News h₀ L _ _ => kN; rename _ ∧ _ ∧ _ ∧ _ ∧ AllLt _ _ => hl; exact ret _ _ _ _ _ _ _ (putR_add hc (by simp only [List.length_cons, List.length_append, List.length_nil] at hd ⊢; omega)) (.cons _ _ (StrsAre.snoc hv x tx)) (by assumption) (by assumption) (newsSub kN (List.forall_mem_cons.mpr ⟨by (repeat (first | assumption | exact List.Mem.head _ | refine List.mem_cons_of_mem _ ?_)), List.forall_mem_cons.mpr ⟨by (repeat (first | assumption | exact List.Mem.head _ | refine List.mem_cons_of_mem _ ?_)), fun p hp => by (repeat (first | assumption | exact List.Mem.head _ | refine List.mem_cons_of_mem _ ?_))⟩⟩)) (offOf hl.2.2.1 hl.2.2.2.2))
      | ((with_reducible rename ((List.length _ : Nat) : Int) ≠ (1001 : Int) => hd); rename News h₀ L _ _ => kN; rename _ ∧ _ ∧ _ ∧ _ ∧ AllLt _ _ => hl; exact ret _ _ _ _ _ _ _ rfl (.cons _ _ .nil) (by assumption) (by assumption) (newsSub kN (List.forall_mem_cons.mpr ⟨by (repeat (first | assumption | exact List.Mem.head _ | refine List.mem_cons_of_mem _ ?_)), List.forall_mem_cons.mpr ⟨by (repeat (first | assumption | exact List.Mem.head _ | refine List.mem_cons_of_mem _ ?_)), fun p hp => by (repeat (first | assumption | exact List.Mem.head _ | refine List.mem_cons_of_mem _ ?_))⟩⟩)) (offOf hl.2.2.1 hl.2.2.2.2))
  | @cons y ty us ys hv =>
    simp only [List.length_cons, List.map_cons, List.sum_cons] at hr1 hr2
    have hus : us.length ≤ 999 := by rw [strsAre_length hv]; omega
    have hy : y.length ≤ 1000000 := by omega
    k_steps
    all_goals (try dsimp only)
    all_goals first
      | (exfalso; (with_reducible rename ((List.length _ : Nat) : Int) = (1001 : Int) => hd); simp at hd; done)
      | ((with_reducible rename 100 * TT < _ => hc); rename News h₀ L _ _ => kN; exact retN _ _ (putR_no hc) (by assumption) (newsSub kN (List.forall_mem_cons.mpr ⟨by (repeat (first | assumption | exact List.Mem.head _ | refine List.mem_cons_of_mem _ ?_)), fun p hp => by (repeat (first | assumption | exact List.Mem.head _ | refine List.mem_cons_of_mem _ ?_))⟩)))
      | ((with_reducible rename ¬ (100 * TT < _) => hc); (with_reducible rename ((List.length _ : Nat) : Int) = (1001 : Int) => hd); rename News h₀ L _ _ => kN; rename _ ∧ _ ∧ _ ∧ _ ∧ _ ∧ AllLt _ _ => hl; exact ret _ _ _ _ _ _ _ (putR_join hc (by omega)) (.cons _ _ .nil) (by assumption) (by assumption) (newsSub kN (List.forall_mem_cons.mpr ⟨by (repeat (first | assumption | exact List.Mem.head _ | refine List.mem_cons_of_mem _ ?_)), List.forall_mem_cons.mpr ⟨by (repeat (first | assumption | exact List.Mem.head _ | refine List.mem_cons_of_mem _ ?_)), fun p hp => by (repeat (first | assumption | exact List.Mem.head _ | refine List.mem_cons_of_mem _ ?_))⟩⟩)) (offOf hl.2.2.2.1 hl.2.2.2.2.2))
      | ((with_reducible rename ¬ (100 * TT < _) => hc); (with_reducible rename ((List.length _ : Nat) : Int) ≠ (1001 : Int) => hd); rename News h₀ L _ _ => kN; rename _ ∧ _ ∧ _ ∧ _ ∧ AllLt _ _ => hl; exact ret _ _ _ _ _ _ _ (putR_add hc (by simp only [List.length_cons, List.length_append, List.length_nil] at hd ⊢; omega)) (.cons _ _ (StrsAre.snoc hv x tx)) (by assumption) (by assumption) (newsSub kN (List.forall_mem_cons.mpr ⟨by (repeat (first | assumption | exact List.Mem.head _ | refine List.mem_cons_of_mem _ ?_)), List.forall_mem_cons.mpr ⟨by (repeat (first | assumption | exact List.Mem.head _ | refine List.mem_cons_of_mem _ ?_)), fun p hp => by (repeat (first | assumption | exact List.Mem.head _ | refine List.mem_cons_of_mem _ ?_))⟩⟩)) (offOf hl.2.2.1 hl.2.2.2.2))
      | ((with_reducible rename ((List.length _ : Nat) : Int) ≠ (1001 : Int) => hd); rename News h₀ L _ _ => kN; rename _ ∧ _ ∧ _ ∧ _ ∧ AllLt _ _ => hl; exact ret _ _ _ _ _ _ _ rfl (.cons _ _ .nil) (by assumption) (by assumption) (newsSub kN (List.forall_mem_cons.mpr ⟨by (repeat (first | assumption | exact List.Mem.head _ | refine List.mem_cons_of_mem _ ?_)), List.forall_mem_cons.mpr ⟨by (repeat (first | assumption | exact List.Mem.head _ | refine List.mem_cons_of_mem _ ?_)), fun p hp => by (repeat (first | assumption | exact List.Mem.head _ | refine List.mem_cons_of_mem _ ?_))⟩⟩)) (offOf hl.2.2.1 hl.2.2.2.2))
end
end TQLp
end Mine
namespace Mine
section TQWd
open PySem PySem.W PyProof.Rows PySem.Spec PySem.Calls
open MineHd (hpK vwK hdT)
local macro_rules | `(tactic| k_all) => `(tactic| assumption)
local macro_rules | `(tactic| walk_at $s:str) => `(tactic| k_extra $s)
theorem cons_sub2 {α : Type} {p p2 : α} {l : List α} : ∀ q ∈ l, q ∈ p :: p2 :: l := fun _ h => .tail _ (.tail _ h)
noncomputable def warnR (T : Int) (er : PySem.Str) (rows ts : List PySem.Str) : Res (List PySem.Str) :=
  match msgR T er ts (PySem.Str.ofString "\t...caught") (PySem.Str.ofString "Warning: something's wrong") with
  | .no x => .no x
  | .ok x => match putR T rows (lineR x) with
    | none => .no (PySem.Str.ofString "Out of memory!")
    | some r => .ok r
def dieR (T : Int) (er : PySem.Str) (ts : List PySem.Str) : PySem.Str :=
  match msgR T er ts (PySem.Str.ofString "\t...propagated") (PySem.Str.ofString "Died") with
  | .no x => x
  | .ok x => x
section
variable {T : Int} {er x : PySem.Str} {rows ts r : List PySem.Str}
theorem warnR_msg (h : msgR T er ts (PySem.Str.ofString "\t...caught") (PySem.Str.ofString "Warning: something's wrong") = .no x) : warnR T er rows ts = .no x := by unfold warnR; rw [h]
theorem warnR_no (h : msgR T er ts (PySem.Str.ofString "\t...caught") (PySem.Str.ofString "Warning: something's wrong") = .ok x) (h2 : putR T rows (lineR x) = none) : warnR T er rows ts = .no (PySem.Str.ofString "Out of memory!") := by unfold warnR; rw [h]; simp only [h2]
theorem warnR_ok (h : msgR T er ts (PySem.Str.ofString "\t...caught") (PySem.Str.ofString "Warning: something's wrong") = .ok x) (h2 : putR T rows (lineR x) = some r) : warnR T er rows ts = .ok r := by unfold warnR; rw [h]; simp only [h2]
theorem dieR_no (h : msgR T er ts (PySem.Str.ofString "\t...propagated") (PySem.Str.ofString "Died") = .no x) : dieR T er ts = x := by unfold dieR; rw [h]
theorem dieR_ok (h : msgR T er ts (PySem.Str.ofString "\t...propagated") (PySem.Str.ofString "Died") = .ok x) : dieR T er ts = x := by unfold dieR; rw [h]
end
theorem msgR_len {T : Int} {er x tail dft : PySem.Str} {ts : List PySem.Str} (h : msgR T er ts tail dft = .ok x) (hT : T ≤ 40) (hd : dft.length ≤ 40) : x.length ≤ 1000 := by
  unfold msgR at h
  split at h
  · cases h
  · split at h
    · cases h; omega
    · split at h
      · cases h; omega
      · split at h
        · cases h
        · cases h; omega
theorem lineMsg_len {T : Int} {er x tail dft : PySem.Str} {ts : List PySem.Str} (h : msgR T er ts tail dft = .ok x) (hT : T ≤ 40) (hd : dft.length ≤ 40) : (lineR x).length ≤ 1000 := by
  have hx : x.length ≤ 40 := by
    unfold msgR at h
    split at h
    · cases h
    · split at h
      · cases h; omega
      · split at h
        · cases h; omega
        · split at h
          · cases h
          · cases h; omega
  unfold lineR
  split
  · rw [PySem.Str.length_append, PySem.Str.length_append, PySem.Str.length_append, len_ofString " at line " 9, len_ofString "6" 1, len_ofString ".\n" 2]; omega
  · omega
local macro_rules | `(tactic| k_get) => `(tactic| assumption)
local macro_rules | `(tactic| k_mem) => `(tactic| first | assumption | exact List.Mem.head _ | (refine List.mem_cons_of_mem _ ?_; k_mem))
local macro_rules | `(tactic| k_memK) => `(tactic| k_mem)
theorem said_QWd_0 : True := by
  k_with_none
  k_with "execs cons" => (k_here; (with_reducible first | refine tok_k (gns := gns) (drw := drw) (osx := osx) ?_ | refine tok_p (gns := gns) (drw := drw) (osx := osx) ?_); intro tk9)
  k_with "setAttr ref" => (k_here; k_dflt (refine' set_dictP (gns := gns) (drw := drw) (osx := osx) ?k1 ?k2 ?k3 ?k4 ?k5 ?k6 ?k7 ?k8 ?k9 ?k10 ?_; (case k1 => k_asm); (case k2 => k_asm); (case k3 => k_asm); (case k4 => k_inst); (case k5 => exact rfl); (case k6 => k_is); (case k7 => k_is); (case k8 => k_is); (case k9 => k_is); (case k10 => k_get)); intro t'; k_dflt (refine' SetTo.mk ?k11 ?k12 ?k13 ?_; (case k11 => k_put); (case k12 => k_upd); (case k13 => exact Nat.le_of_ble_eq_true rfl)); intro h' tk' F' N'; (try k_sweep))
  k_with "setAttr ref" => (k_here; (with_reducible first | refine val_k ?_ | refine val_p ?_); intro tk9)
  k_with "call ref" => (k_here; refine wpAny_call ?_; k_dflt (refine' code_def ?k1 ?k2 ?k3 ?k4 ?k5 ?kA ?kF ?kK ?k6 ?k7 ?k8 ?k9 ?kB ?_ ?c2 ?c3 ?c4 ?c5; (case kA => exact rfl); (case kF => exact rfl); (case kK => first | exact rfl | assumption); (case k1 => k_asm); (case k2 => k_asm); (case k3 => k_asm); (case k4 => k_asm); (case k5 => k_asm); (case k6 => k_is); (case k7 => k_is); (case k8 => ktr_room); (case k9 => first | (refine' binds_zip ?g1 ?g2 ?q1 ?q2; (case g1 => exact rfl); (case g2 => exact rfl); (case q1 => ((repeat (refine' bcons ?_ ?_; rotate_left 2; focus (first | (dsimp only; done) | exact rfl))); first | exact (rfl : ([] : List (PySem.Str × Value)) = []) | exact rfl)); (case q2 => kernel_rfl)) | exact BindsTo.of_eq rfl); (case c5 => decide); (case kB => exact locs rfl); (case c2 => exact rfl); (case c3 => exact rfl); (case c4 => exact rfl); k_whole; intro g' L' h' FG' F' N' B' X' T'; (try dsimp only); (try k_lift B'); (try k_fold)))
  k_with "exec Raise some none" => (k_here; refine Raise_die rfl ?_)
  k_with "RaisableDie" => (k_here; k_dflt (refine' raisableDie_of ?F ?X ?N ?_; (case F => k_asm); (case X => k_asm); (case N => k_asm); k_whole))
  k_with "leaving ref" => (k_here; first
  | (k_dflt (refine' leave_onV ?k1 ?k2 ?k3 ?k4 ?_; (case k3 => assumption); (case k1 => assumption); (case k4 => assumption); (case k2 => assumption); k_whole); intro h' R' U'; (try dsimp only at R' U' ⊢))
  | (k_dflt (refine' leave_newV ?k1 ?k2 ?k3 ?k4 ?k5 ?_; (case k1 => assumption); (case k2 => k_asm); (case k3 => k_asm); (case k4 => assumption); (case k5 => assumption); k_whole); intro h' R' U'; (try dsimp only at R' U' ⊢)))
  k_with "call ref" => (k_here; (with_reducible show wpAny _ _ (call (Value.ref 58) _) _ _ _); k_dflt (refine' die_new _ _ _ _ _ _ _ _ _ _ _ _ _ _ _ _ _ _ ?B ?F ?X ?T ?hk _ _ ?N ?hd ?hu ?_; (case B => k_asm); (case F => k_asm); (case X => k_asm); (case T => k_asm); (case hk => first | exact rfl | assumption); (case N => k_asm); (case hd => ktr_room); (case hu => ktr_units); k_whole); intro e' t' dx' es' n' h' tk' F' N' hv' l1)
  k_with "compareOp NotIn str ref" => (k_here; k_dflt (refine' kdg_notin (knd := PySem.strKind _ _) ?N ?m ?d ?lo (strKind_is _ _ _ _) true ?b ?_; (case N => k_asm); (case m => k_mem); (case d => assumption); (case lo => assumption); (case b => first | assumption | rfl); k_whole))
  k_with "subscriptTail" => (k_here; (with_reducible show wpAny _ _ (subscriptTail _ _ (Value.ref _) (Value.str _ _)) _ _ _); k_dflt (refine' kda_item (knd := PySem.strKind _ _) ?N ?m ?d (strKind_is _ _ _ _) ?v ?_; (case N => k_asm); (case m => k_mem); (case d => assumption); (case v => first | assumption | rfl); k_whole))
  k_with "eval ListComp" => (k_here; k_dflt (refine LCg.ListComp_U (F₀ := by k_asm) (by with_unfolding_all rfl) (by decide) (by rfl) (by decide) (by rfl) ?_))
  k_with "CompSrc" => (k_here; k_dflt (refine LCg.CompSrc.ledger (by rfl) (by k_asm) (by k_asm) (by k_mem) (by rw [PySem.sizeLine_eq]; simp only [List.size_toArray]; omega) ?_; intro g'; refine' ks_list (by assumption) (fun y' t' I' oI' C' oC' D' m' ys' h' tk' E' hk' hC' hx' F' N' off' ne' hS' => ?_) (Or.inr ⟨_, by k_mem, rfl, _, rfl⟩) (fun ys' hys' => ?_)))
  k_with "CompEnd" => (k_here; refine LCg.CompEnd.intro (by k_asm) (by k_asm) _ ?sub ?off ?hS ⟨rfl, _, rfl⟩; (case sub => exact fun _ hp => hp); (case off => assumption); (case hS => assumption))
  k_with "subscriptTail" => (k_here; (with_reducible show wpAny _ _ (subscriptTail _ _ (Value.ref _) (Value.int 0 _)) _ _ _); k_dflt (refine' item_first (News.isList ?N ?m) ?_ ?k6; (case N => k_asm); (case m => k_mem); (case k6 => with_unfolding_all rfl); k_whole))
  k_with "subscriptTail" => (k_here; (with_reducible show wpAny _ _ (subscriptTail _ _ (Value.ref _) (Value.int (-1) _)) _ _ _); k_dflt (refine' item_last1 (News.isList ?N ?m) ?_ ?k6; (case N => k_asm); (case m => k_mem); (case k6 => with_unfolding_all rfl); k_whole))
  k_with "call ref" => (k_here; (with_reducible show wpAny _ _ (call (Value.ref 296) [Value.str _ _]) _ _ _); k_dflt ((refine' valstr _ _ _ _ _ _ _ _ _ _ _ _ _ _ _ _ _ _ ?B ?F ?X ?T ?hk _ _ ?N ?hd ?hu ?_); (case B => k_asm); (case F => k_asm); (case X => k_asm); (case T => k_asm); (case hk => first | exact rfl | assumption); (case N => k_asm); (case hd => ktr_room); (case hu => ktr_units); intro h' tk' F' N'; (try dsimp only)))
  k_with "call ref" => (k_here; (with_reducible show wpAny _ _ (call (Value.ref 296) [Value.ref _]) _ _ _); k_dflt ((refine' valsc _ _ _ _ _ _ _ _ _ _ _ _ _ _ _ _ _ _ ?B ?F ?X ?T ?hk _ _ _ _ _ _ ?N ?m1 ?m2 ?e1 ?e2 ?hd ?hu ?_); (case B => k_asm); (case F => k_asm); (case X => k_asm); (case T => k_asm); (case hk => first | exact rfl | assumption); (case N => k_asm); (case m1 => k_mem); (case m2 => k_mem); (case e1 => assumption); (case e2 => assumption); (case hd => ktr_room); (case hu => ktr_units); intro h' tk' F' N'; (try dsimp only)))
  k_with "call ref" => (k_here; (with_reducible show wpAny _ _ (call (Value.ref 303) _) _ _ _); k_dflt ((refine' totext _ _ _ _ _ _ _ _ _ _ _ _ _ _ _ _ _ _ ?B ?F ?X ?T ?hk _ _ ?N ?hd ?hu ?_); (case B => k_asm); (case F => k_asm); (case X => k_asm); (case T => k_asm); (case hk => first | exact rfl | assumption); (case N => k_asm); (case hd => ktr_room); (case hu => ktr_units); intro h' tk' F' N'; (try dsimp only)))
  k_with "call ref" => (k_here; (with_reducible show wpAny _ _ (call (Value.ref 543) _) _ _ _); k_dflt ((refine' scalarof _ _ _ _ _ _ _ _ _ _ _ _ _ _ _ _ _ _ ?B ?F ?X ?T ?hk _ _ _ _ _ _ _ _ _ _ _ _ _ _ ?N ?m1 ?m2 ?e0 ?e1 ?m3 ?d3 ?hv ?m4 ?m5 ?e2 ?lo ?hd ?hu ?_); (case B => k_asm); (case F => k_asm); (case X => k_asm); (case T => k_asm); (case hk => first | exact rfl | assumption); (case N => k_asm); (case m1 => k_mem); (case m2 => k_mem); (case e0 => assumption); (case e1 => assumption); (case m3 => k_mem); (case d3 => assumption); (case hv => first | assumption | rfl); (case m4 => k_mem); (case m5 => k_mem); (case e2 => assumption); (case lo => assumption); (case hd => ktr_room); (case hu => ktr_units); intro h' tk' F' N'; (try dsimp only)))
  k_with "call ref" => (k_here; (with_reducible show wpAny _ _ (call (Value.ref 317) _) _ _ _); k_dflt ((refine' join_spec _ _ _ _ _ _ _ _ _ _ _ _ _ _ _ _ _ _ ?B ?F ?X ?T ?hk _ _ _ _ _ _ _ _ _ _ _ _ ?N ?m1 ?hts ?hn ?hl ?hbe ?m2 ?m3 ?e1 ?hTT ?hd ?hu ?_ ?_); (case B => k_asm); (case F => k_asm); (case X => k_asm); (case T => k_asm); (case hk => first | exact rfl | assumption); (case N => k_asm); (case m1 => k_mem); (case hts => (repeat (first | assumption | exact PyProof.Rows.StrsAre.nil | apply PyProof.Rows.StrsAre.cons | apply StrsAre.snoc))); (case hn => first | assumption | (simp only [List.length_cons, List.length_nil]; omega) | decide); (case hl => first | assumption | (intro z hz; simp only [List.mem_cons, List.not_mem_nil, or_false] at hz; first | omega | (rcases hz with rfl|rfl|rfl <;> assumption) | (rcases hz with rfl|rfl <;> assumption) | (subst hz; assumption))); (case hbe => first | assumption | decide +kernel); (case m2 => k_mem); (case m3 => k_mem); (case e1 => assumption); (case hTT => first | assumption | omega); (case hd => ktr_room); (case hu => ktr_units); intro t' h' tk' hc' F' N'; (try dsimp only); rotate_left; intro e' t' g' h' tk' hc' F' U' R'; (try dsimp only); rotate_left))
  k_with "call ref" => (k_here; (with_reducible show wpAny _ _ (call (Value.ref 324) _) _ _ _); k_dflt ((refine' put_spec _ _ _ _ _ _ _ _ _ _ _ _ _ _ _ _ _ _ ?B ?F ?X ?T ?hk _ _ _ _ _ _ _ _ _ _ _ _ _ _ _ _ ?N ?hoff ?m1 ?m2 ?m3 ?m4 ?hv ?hl ?hx ?hs ?hok ?hTT ?e1 ?e2 ?hd ?hu ?_ ?_); (case B => k_asm); (case F => k_asm); (case X => k_asm); (case T => k_asm); (case hk => first | exact rfl | assumption); (case N => first | k_asm | exact newsTail (by k_asm)); (case hoff => first | assumption | k_all); (case m1 => k_mem); (case m2 => k_mem); (case m3 => k_mem); (case m4 => k_mem); (case hv => assumption); (case hl => assumption); (case hx => first | assumption | exact lineMsg_len (by assumption) (by omega) (by decide +kernel) | omega | (simp only [PySem.Str.length_append] at *; omega)); (case hs => assumption); (case hok => assumption); (case hTT => first | assumption | exact And.intro (by omega) (by omega)); (case e1 => assumption); (case e2 => assumption); (case hd => ktr_room); (case hu => ktr_units); intro rs' us' c' h' tk' hc' hv' F' N'; (try dsimp only); rotate_left; intro e' t' g' h' tk' hc' F' U' R'; (try dsimp only); rotate_left))
  k_with "call ref" => (k_here; (with_reducible show wpAny _ _ (call (Value.ref 310) _) _ _ _); k_dflt ((refine' concat_spec _ _ _ _ _ _ _ _ _ _ _ _ _ _ _ _ _ _ ?B ?F ?X ?T ?hk _ _ _ _ _ _ _ _ _ _ ?N ?m2 ?m3 ?e1 ?hx ?hy ?hd ?hu ?_ ?_); (case B => k_asm); (case F => k_asm); (case X => k_asm); (case T => k_asm); (case hk => first | exact rfl | assumption); (case N => k_asm); (case m2 => k_mem); (case m3 => k_mem); (case e1 => assumption); (case hx => first | assumption | omega); (case hy => first | assumption | omega); (case hd => ktr_room); (case hu => ktr_units); intro h' tk' t' hc' F' N'; (try dsimp only); rotate_left; intro e' t' g' h' tk' hc' F' U' R'; (try dsimp only); rotate_left))
  k_with "call ref" => (k_here; (with_reducible show wpAny _ _ (call (Value.ref 496) _) _ _ _); k_dflt ((refine' with_line_spec _ _ _ _ _ _ _ _ _ _ _ _ _ _ _ _ _ _ ?B ?F ?X ?T ?hk _ _ _ ?N ?hx ?hd ?hu ?_); (case B => k_asm); (case F => k_asm); (case X => k_asm); (case T => k_asm); (case hk => first | exact rfl | assumption); (case N => k_asm); (case hx => first | assumption | exact msgR_len (by assumption) (by omega) (by decide +kernel) | omega); (case hd => ktr_room); (case hu => ktr_units); intro h' tk' t' F' N'; (try dsimp only)))
  k_with "call ref" => (k_here; (with_reducible show wpAny _ _ (call (Value.ref 501) _) _ _ _); k_dflt ((refine' message_spec _ _ _ _ _ _ _ _ _ _ _ _ _ _ _ _ _ _ ?B ?F ?X ?T ?hk _ _ _ _ _ _ _ _ _ _ _ _ _ _ _ ?N ?R ?m0 ?hts ?hn ?hl ?he ?ht ?hTT ?hd ?hu ?_ ?_); (case B => k_asm); (case F => k_asm); (case X => k_asm); (case T => k_asm); (case hk => first | exact rfl | assumption); (case N => k_asm); (case R => assumption); (case m0 => first | assumption | k_mem); (case hts => assumption); (case hn => assumption); (case hl => assumption); (case he => assumption); (case ht => first | assumption | decide +kernel); (case hTT => first | assumption | omega); (case hd => ktr_room); (case hu => ktr_units); intro x' h' tk' t' hc' F' N'; (try dsimp only); rotate_left; intro x' e' t' g' h' tk' hc' F' U' R'; (try dsimp only); rotate_left))
  trivial
section
variable {PV : PySem.Program} {LZ : List PySem.Str} {w : World} {mean : ExcName → Option Value} {mg mb : PySem.Str → Option Value} (dp un : Nat) (gd : Option (List Code)) (cn : PySem.Str) (cs : Scope) (a : Addr) (ccd : Value) (cl : List (PySem.Str × Addr)) (outer : List Env) (A₀ : Around) (base h₀ : Heap) (L : Addr) (m : PySem.Str → Option Value) (s : Shared) (Q E : Value → Shared → Prop) (rest : List (Addr × Obj))
  (B : Below A₀ base outer h₀) (F : Fr h₀ L s.heap m) (X : (hpK w.params).In h₀) (T : Top PV LZ mean mg mb h₀) (hk : cs.kind = .function)
include B F X T hk
theorem warn_spec (ro re : Addr) (us : List Value) (rows : List PySem.Str) (c c0 : Nat) (tx : Addr) (vs : List Value) (ts : List PySem.Str) (wt : Tok) (run : Addr) (be en er : PySem.Str) (TT : Int)
  (N : News h₀ L s.heap ((re, W.listOf us.toArray c) :: rest)) (hoff : ∀ p ∈ rest, p.1 ≠ re) (R : RunIs w rest run ro re be en er TT)
  (m0 : (tx, W.listOf vs.toArray c0) ∈ rest) (hts : PyProof.Rows.StrsAre vs ts) (hn : ts.length ≤ 3) (hl : ∀ t ∈ ts, t.length ≤ 19)
  (hv : PyProof.Rows.StrsAre us rows) (hr : RowsOk rows)
  (her : er.length ≤ 24)
   (hTT : 0 ≤ TT ∧ TT ≤ 40)
   (hdp : dp + 16 < recursionLimit) (hun : un + 500 < cLine)
   (ret : ∀ rows' us' c' h' tk' t', warnR TT er rows ts = .ok rows' → PyProof.Rows.StrsAre us' rows' → Fr h₀ L h' m → News h₀ L h' ((re, W.listOf us'.toArray c') :: rest) → Q (.int 1 t') { s with heap := h', toks := tk' })
   (rai : ∀ x e t g h' tk', warnR TT er rows ts = .no x → Fr h₀ L g m → g.UpToSlots h' → RaisedV base g (envX cn cs L a ccd cl :: outer) e x t ((re, W.listOf us.toArray c) :: rest) h' → E (.ref e) { s with heap := h', toks := tk' }) :
   wpAny (model PR w) (ktrTop dp un gd cn cs L a ccd cl outer) (call (.ref 515) [.ref run, .ref tx, .int 1 wt]) Q E s := by
  obtain ⟨hp, gns, drw, tks, osx⟩ := s
  obtain ⟨hr1, hr2, hr3⟩ := hr
  have R2 := R.mono (rest' := (re, W.listOf us.toArray c) :: rest) (fun _ h => .tail _ h)
  have m0' : (tx, W.listOf vs.toArray c0) ∈ (re, W.listOf us.toArray c) :: rest := .tail _ m0
  obtain ⟨⟨run, runD, lim, limD, st, stD, gl, g1, g1D, g2, g2D, g3, g3D, s1, s1D, s2, s2D, s3, s3D, fr, frD, frL, glO, es, les, stes, g1es, g2es, g3es, s1es, s2es, s3es, fes, c1, c2, c3, c4, c5, c6, c7, c8, c9, c10, c11, tt, tb, te, tr, tl⟩, rfl, hm, d7, lo, e1, e2, e3, e4, e5, e6, e7, e8, e9, e10, e11, e12, e13, e14, e15, e16, e17, e18, e19⟩ := R
  simp only [RunA.mems, List.forall_mem_cons] at hm
  obtain ⟨m1, m2, m3, m4, m5, m6, m7, m8, m9, m10, m11, m12, m13, m14, m15, m16, m17, m18, m19, m20, m21, m22, -⟩ := hm
  dsimp only at d7 lo e1 e2 e3 e4 e5 e6 e7 e8 e9 e10 e11 e12 e13 e14 e15 e16 e17 e18 e19 N hoff R2 ⊢
  dsimp only at F N ret rai ⊢
  k_steps
  all_goals (try dsimp only)
  all_goals first
    | exact rai _ _ _ _ _ _ (warnR_msg (by assumption)) (by assumption) (by assumption) (by assumption)
    | exact rai _ _ _ _ _ _ (warnR_no (by assumption) (by assumption)) (by assumption) (by assumption) (by assumption)
    | exact ret _ _ _ _ _ _ (warnR_ok (by assumption) (by assumption)) (by assumption) (by assumption) (by assumption)
theorem die_spec (ro re : Addr) (c0 : Nat) (tx : Addr) (vs : List Value) (ts : List PySem.Str) (wt : Tok) (run : Addr) (be en er : PySem.Str) (TT : Int)
  (N : News h₀ L s.heap rest) (R : RunIs w rest run ro re be en er TT)
  (m0 : (tx, W.listOf vs.toArray c0) ∈ rest) (hts : PyProof.Rows.StrsAre vs ts) (hn : ts.length ≤ 3) (hl : ∀ t ∈ ts, t.length ≤ 19)
  (her : er.length ≤ 24)
   (hTT : 0 ≤ TT ∧ TT ≤ 40)
   (hdp : dp + 16 < recursionLimit) (hun : un + 500 < cLine)
   (rai : ∀ e t g h' tk', Fr h₀ L g m → g.UpToSlots h' → RaisedV base g (envX cn cs L a ccd cl :: outer) e (dieR TT er ts) t rest h' → E (.ref e) { s with heap := h', toks := tk' }) :
   wpAny (model PR w) (ktrTop dp un gd cn cs L a ccd cl outer) (call (.ref 508) [.ref run, .ref tx, .int 1 wt]) Q E s := by
  obtain ⟨hp, gns, drw, tks, osx⟩ := s
  dsimp only at F N rai ⊢
  k_steps
  all_goals (try dsimp only)
  all_goals first
    | ((with_reducible rename msgR _ _ _ _ _ = Res.no _ => h1); rw [dieR_no h1] at rai; exact rai _ _ _ _ _ (by assumption) (by assumption) (by assumption))
    | ((with_reducible rename msgR _ _ _ _ _ = Res.ok _ => h1); rw [dieR_ok h1] at rai; exact rai _ _ _ _ _ (by assumption) (by assumption) (by assumption))
end
end TQWd
end Mine
namespace Mine
section TQDue
open PySem PySem.W PyProof.Rows PySem.Spec PySem.Calls
open MineHd (hpK vwK hdT)
local macro_rules | `(tactic| k_all) => `(tactic| assumption)
local macro_rules | `(tactic| walk_at $s:str) => `(tactic| k_extra $s)
noncomputable def tupO (vs : List Value) : Obj := { cls := .type "tuple", data := .seq vs.toArray }
theorem lineR_eqT {x : PySem.Str} (h : (Txt.slice x (some (-1)) none == PySem.Str.ofString "\n") = true) : lineR x = x := lineR_not (bne_f h)
theorem lineR_eqF {x : PySem.Str} (h : (Txt.slice x (some (-1)) none == PySem.Str.ofString "\n") = false) : lineR x = x ++ PySem.Str.ofString " at line 6.\n" := by
  rw [lineR_add (bne_t h)]
  rw [PySem.Str.append_assoc, PySem.Str.append_assoc]
  congr 1
theorem msgR_len40 {T : Int} {er x tail dft : PySem.Str} {ts : List PySem.Str} (h : msgR T er ts tail dft = .ok x) (hT : T ≤ 40) (hd : dft.length ≤ 40) : x.length ≤ 40 := by
  unfold msgR at h
  split at h
  · cases h
  · split at h
    · cases h; omega
    · split at h
      · cases h; omega
      · split at h
        · cases h
        · cases h; omega
local macro_rules | `(tactic| k_get) => `(tactic| assumption)
local macro_rules | `(tactic| k_mem) => `(tactic| first | assumption | exact List.Mem.head _ | (refine List.mem_cons_of_mem _ ?_; k_mem))
local macro_rules | `(tactic| k_memK) => `(tactic| k_mem)
theorem said_QDue_0 : True := by
  k_with_none
  k_with "call ref" => (k_here; refine wpAny_call ?_; k_dflt (refine' code_def ?k1 ?k2 ?k3 ?k4 ?k5 ?kA ?kF ?kK ?k6 ?k7 ?k8 ?k9 ?kB ?_ ?c2 ?c3 ?c4 ?c5; (case kA => exact rfl); (case kF => exact rfl); (case kK => first | exact rfl | assumption); (case k1 => k_asm); (case k2 => k_asm); (case k3 => k_asm); (case k4 => k_asm); (case k5 => k_asm); (case k6 => k_is); (case k7 => k_is); (case k8 => ktr_room); (case k9 => exact BindsTo.of_eq rfl); (case c5 => decide); (case kB => exact locs rfl); (case c2 => exact rfl); (case c3 => exact rfl); (case c4 => exact rfl); k_whole; intro g' L' h' FG' F' N' B' X' T'; (try dsimp only); (try k_lift B'); (try k_fold)))
  k_with "compareOp NotIn str ref" => (k_here; k_dflt (refine' kdg_notin (knd := PySem.strKind _ _) ?N ?m ?d ?lo (strKind_is _ _ _ _) true ?b ?_; (case N => k_asm); (case m => k_mem); (case d => assumption); (case lo => assumption); (case b => first | assumption | rfl); k_whole))
  k_with "subscriptTail" => (k_here; (with_reducible show wpAny _ _ (subscriptTail _ _ (Value.ref _) (Value.str _ _)) _ _ _); k_dflt (refine' kda_item (knd := PySem.strKind _ _) ?N ?m ?d (strKind_is _ _ _ _) ?v ?_; (case N => k_asm); (case m => k_mem); (case d => assumption); (case v => first | assumption | rfl); k_whole))
  k_with "call builtin:len" => (k_here; (with_reducible show wpAny _ _ (call (Value.builtin "len") [Value.ref _]) _ _ _); k_dflt (refine' len_strs ?k1 ?k2 ?k3 ?k4 ?_; (case k1 => k_asm); (case k2 => k_mem); (case k3 => (repeat (first | assumption | exact PyProof.Rows.StrsAre.nil | apply PyProof.Rows.StrsAre.cons | apply StrsAre.snoc))); (case k4 => (simp only [List.length_cons, List.length_append, List.length_nil] at *; omega)); k_whole))
  k_with "compareOp NotEq ref ref" => (k_here; (with_reducible show wpAny _ _ (compareOp CmpOp.NotEq (Value.ref _) (Value.ref _)) _ _ _); (with_unfolding_all refine' ne_strs ?k1 ?k2 ?k3 ?k4 ?k6 ?k7 ?k5 ?_; (case k1 => is_list); (case k2 => first | assumption | exact PyProof.Rows.StrsAre.nil | exact PyProof.Rows.StrsAre.cons _ _ (by assumption)); (case k3 => is_list); (case k4 => first | assumption | exact PyProof.Rows.StrsAre.nil); (case k6 => first | assumption | exact (fun _ h => nomatch h)); (case k7 => first | assumption | exact (fun _ h => nomatch h)); (case k5 => first | units_room | ktr_units); k_whole); (try rw [decide_cons_nil]); (try rw [decide_nil_nil]))
  k_with "call builtin:str.join" => (k_here; (with_reducible show wpAny _ _ (call (Value.builtin "str.join") [Value.str _ _, Value.ref _]) _ _ _); k_dflt (refine' join_strs ?N ?m ?e ?x ?n ?s ?_; (case N => k_asm); (case m => k_mem); (case e => (repeat (first | assumption | exact PyProof.Rows.StrsAre.nil | apply PyProof.Rows.StrsAre.cons | apply StrsAre.snoc))); (case x => first | assumption | omega | decide +kernel); (case n => (simp only [List.length_cons, List.length_append, List.length_nil] at *; omega)); (case s => (simp only [List.map_cons, List.map_append, List.map_nil, List.sum_cons, List.sum_append, List.sum_nil] at *; omega)); k_whole); intro t' k')
  k_with "subscriptTail" => (k_here; (with_reducible show wpAny _ _ (subscriptTail _ _ (Value.ref _) (Value.int 0 _)) _ _ _); k_dflt (refine' item_first (News.isList ?N ?m) ?_ ?k6; (case N => k_asm); (case m => k_mem); (case k6 => with_unfolding_all rfl); k_whole))
  k_with "subscriptTail" => (k_here; (with_reducible show wpAny _ _ (subscriptTail _ _ (Value.ref _) (Value.int (-1) _)) _ _ _); k_dflt (refine' item_last1 (News.isList ?N ?m) ?_ ?k6; (case N => k_asm); (case m => k_mem); (case k6 => with_unfolding_all rfl); k_whole))
  k_with "call ref" => (k_here; (with_reducible show wpAny _ _ (call (Value.ref 607) _) _ _ _); k_dflt ((refine' lmsg_spec _ _ _ _ _ _ _ _ _ _ _ _ _ _ _ _ _ _ ?B ?F ?X ?T ?hk _ _ _ _ _ _ _ _ _ _ _ _ _ _ _ _ _ _ _ _ ?N ?mo ?ho ?m0 ?hts ?hn ?hl ?he ?ht ?hTT ?hd ?hu ?_ ?_); (case B => k_asm); (case F => k_asm); (case X => k_asm); (case T => k_asm); (case hk => first | exact rfl | assumption); (case N => k_asm); (case mo => k_mem); (case ho => assumption); (case m0 => first | assumption | k_mem); (case hts => assumption); (case hn => assumption); (case hl => assumption); (case he => assumption); (case ht => first | assumption | decide +kernel); (case hTT => first | assumption | omega); (case hd => ktr_room); (case hu => ktr_units); intro x' h' tk' t' hc' F' N'; (have hxl' := msgR_len40 hc' (by omega) (by decide +kernel)); (try dsimp only); rotate_left; intro x' h' tk' hc' F' N'; (try dsimp only); rotate_left))
  k_with "call ref" => (k_here; (with_reducible show wpAny _ _ (call (Value.ref 614) [Value.ref _, Value.str (PySem.Str.ofString "out") _, Value.str _ _]) _ _ _); k_dflt ((refine' lput_out _ _ _ _ _ _ _ _ _ _ _ _ _ _ _ _ _ _ ?B ?F ?X ?T ?hk _ _ _ _ _ _ _ _ _ _ _ _ _ _ _ _ _ _ ?N ?hoff ?ho ?m0 ?hv ?hr ?hx ?hTT ?hd ?hu ?_ ?_); (case B => k_asm); (case F => k_asm); (case X => k_asm); (case T => k_asm); (case hk => first | exact rfl | assumption); (case N => first | k_asm | exact newsTail (by k_asm)); (case hoff => first | assumption | k_all); (case ho => assumption); (case m0 => k_mem); (case hv => assumption); (case hr => assumption); (case hx => first | assumption | omega | (rw [PySem.Str.length_append, len_ofString " at line 6.\n" 12]; omega) | (rw [PySem.Str.length_append]; omega)); (case hTT => first | assumption | exact And.intro (by omega) (by omega)); (case hd => ktr_room); (case hu => ktr_units); intro rows' us' c' oo' l' h' tk' hc' hv' F' ho' N' off'; (try dsimp only); rotate_left; intro h' tk' hc' F' N'; (try dsimp only); rotate_left))
  k_with "call ref" => (k_here; (with_reducible show wpAny _ _ (call (Value.ref 614) [Value.ref _, Value.str (PySem.Str.ofString "err") _, Value.str _ _]) _ _ _); k_dflt ((refine' lput_err _ _ _ _ _ _ _ _ _ _ _ _ _ _ _ _ _ _ ?B ?F ?X ?T ?hk _ _ _ _ _ _ _ _ _ _ _ _ _ _ _ _ _ _ ?N ?hoff ?ho ?m0 ?hv ?hr ?hx ?hTT ?hd ?hu ?_ ?_); (case B => k_asm); (case F => k_asm); (case X => k_asm); (case T => k_asm); (case hk => first | exact rfl | assumption); (case N => first | k_asm | exact newsTail (by k_asm)); (case hoff => first | assumption | k_all); (case ho => assumption); (case m0 => k_mem); (case hv => assumption); (case hr => assumption); (case hx => first | assumption | omega | (rw [PySem.Str.length_append, len_ofString " at line 6.\n" 12]; omega) | (rw [PySem.Str.length_append]; omega)); (case hTT => first | assumption | exact And.intro (by omega) (by omega)); (case hd => ktr_room); (case hu => ktr_units); intro rows' us' c' oo' l' h' tk' hc' hv' F' ho' N' off'; (try dsimp only); rotate_left; intro h' tk' hc' F' N'; (try dsimp only); rotate_left))
  trivial
section
variable {PV : PySem.Program} {LZ : List PySem.Str} {w : World} {mean : ExcName → Option Value} {mg mb : PySem.Str → Option Value} (dp un : Nat) (gd : Option (List Code)) (cn : PySem.Str) (cs : Scope) (a : Addr) (ccd : Value) (cl : List (PySem.Str × Addr)) (outer : List Env) (A₀ : Around) (base h₀ : Heap) (L : Addr) (m : PySem.Str → Option Value) (s : Shared) (Q E : Value → Shared → Prop) (rest : List (Addr × Obj))
  (B : Below A₀ base outer h₀) (F : Fr h₀ L s.heap m) (X : (hpK w.params).In h₀) (T : Top PV LZ mean mg mb h₀) (hk : cs.kind = .function)
include B F X T hk
theorem due0 (od tx : Addr) (oo : Obj) (TT : Int) (tt : Tok) (le : Addr) (be : PySem.Str) (tb : Tok) (en : PySem.Str) (te : Tok) (er : PySem.Str) (tr : Tok) (lo : Addr) (us : List Value) (rows : List PySem.Str) (c c0 : Nat) (vs : List Value) (ts : List PySem.Str) (t1 : Tok)
  (N : News h₀ L s.heap ((od, oo) :: rest)) (hoff : ∀ p ∈ rest, p.1 ≠ od) (ho : OwnIs w oo TT tt le be tb en te er tr lo)
  (m0 : (lo, W.listOf us.toArray c) ∈ rest) (hv : PyProof.Rows.StrsAre us rows) (hr : RowsOk rows)
  (m1 : (tx, W.listOf vs.toArray c0) ∈ rest) (hts : PyProof.Rows.StrsAre vs ts) (hn : ts.length ≤ 3) (hl : ∀ t ∈ ts, t.length ≤ 19)
  (hbe : be.length ≤ 1) (hen : en.length ≤ 1) (her : er.length ≤ 24)
   (hTT : 0 ≤ TT ∧ TT ≤ 40)
   (hdp : dp + 20 < recursionLimit) (hun : un + 600 < cLine)
   (ret : ∀ rows' us' c' oo' l' ta h' tk' t t2, printR TT be en rows ts = .ok rows' → PyProof.Rows.StrsAre us' rows' → Fr h₀ L h' m → OwnIs w oo' TT tt le be tb en te er tr l' → News h₀ L h' ((ta, tupO [.str (PySem.Str.ofString "gives") t, .int 1 t2]) :: (l', W.listOf us'.toArray c') :: (od, oo') :: rest) → (∀ p ∈ (od, oo') :: rest, p.1 ≠ l') → Q (.ref ta) { s with heap := h', toks := tk' })
   (retN : ∀ x ta h' tk' t t2, printR TT be en rows ts = .no x → Fr h₀ L h' m → News h₀ L h' ((ta, tupO [.str (PySem.Str.ofString "dies") t, .str (PySem.Str.ofString "refused") t2]) :: (od, oo) :: rest) → Q (.ref ta) { s with heap := h', toks := tk' }) :
   wpAny (model PR w) (ktrTop dp un gd cn cs L a ccd cl outer) (call (.ref 621) [.ref od, .int 0 t1, .ref tx]) Q E s := by
  obtain ⟨hp, gns, drw, tks, osx⟩ := s
  have ho0 := ho
  unfold OwnIs at ho0
  have hvs : vs.length ≤ 3 := by rw [strsAre_length hts]; exact hn
  have hsum : (ts.map (·.length)).sum ≤ 2000 := sum3 hn hl
  have hjl : (Txt.join be ts).length ≤ 59 := joinB_len hbe hn hl
  have m1' : (tx, W.listOf vs.toArray c0) ∈ (od, oo) :: rest := .tail _ m1
  dsimp only at F N ret retN ⊢
  k_steps
  all_goals (try dsimp only)
  all_goals first
    | exact retN _ _ _ _ _ _ (printR_out (by assumption)) (by assumption) (by assumption)
    | exact ret _ _ _ _ _ _ _ _ _ _ (printR_ok (by assumption) (by assumption)) (by assumption) (by assumption) (by assumption) (by assumption) (by assumption)
    | exact retN _ _ _ _ _ _ (printR_no (by assumption) (by assumption)) (by assumption) (by assumption)
theorem due1 (od tx : Addr) (oo : Obj) (TT : Int) (tt : Tok) (le : Addr) (be : PySem.Str) (tb : Tok) (en : PySem.Str) (te : Tok) (er : PySem.Str) (tr : Tok) (lo : Addr) (us : List Value) (rows : List PySem.Str) (c c0 : Nat) (vs : List Value) (ts : List PySem.Str) (t1 : Tok)
  (N : News h₀ L s.heap ((od, oo) :: rest)) (hoff : ∀ p ∈ rest, p.1 ≠ od) (ho : OwnIs w oo TT tt le be tb en te er tr lo)
  (m0 : (le, W.listOf us.toArray c) ∈ rest) (hv : PyProof.Rows.StrsAre us rows) (hr : RowsOk rows)
  (m1 : (tx, W.listOf vs.toArray c0) ∈ rest) (hts : PyProof.Rows.StrsAre vs ts) (hn : ts.length ≤ 3) (hl : ∀ t ∈ ts, t.length ≤ 19)
  (hbe : be.length ≤ 1) (hen : en.length ≤ 1) (her : er.length ≤ 24)
   (hTT : 0 ≤ TT ∧ TT ≤ 40)
   (hdp : dp + 20 < recursionLimit) (hun : un + 600 < cLine)
   (ret : ∀ rows' us' c' oo' l' ta h' tk' t t2, warnR TT er rows ts = .ok rows' → PyProof.Rows.StrsAre us' rows' → Fr h₀ L h' m → OwnIs w oo' TT tt l' be tb en te er tr lo → News h₀ L h' ((ta, tupO [.str (PySem.Str.ofString "gives") t, .int 1 t2]) :: (l', W.listOf us'.toArray c') :: (od, oo') :: rest) → (∀ p ∈ (od, oo') :: rest, p.1 ≠ l') → Q (.ref ta) { s with heap := h', toks := tk' })
   (retN : ∀ x ta h' tk' t t2, warnR TT er rows ts = .no x → Fr h₀ L h' m → News h₀ L h' ((ta, tupO [.str (PySem.Str.ofString "dies") t, .str (PySem.Str.ofString "refused") t2]) :: (od, oo) :: rest) → Q (.ref ta) { s with heap := h', toks := tk' }) :
   wpAny (model PR w) (ktrTop dp un gd cn cs L a ccd cl outer) (call (.ref 621) [.ref od, .int 1 t1, .ref tx]) Q E s := by
  obtain ⟨hp, gns, drw, tks, osx⟩ := s
  have ho0 := ho
  unfold OwnIs at ho0
  have hvs : vs.length ≤ 3 := by rw [strsAre_length hts]; exact hn
  have hsum : (ts.map (·.length)).sum ≤ 2000 := sum3 hn hl
  have hjl : (Txt.join be ts).length ≤ 59 := joinB_len hbe hn hl
  have m1' : (tx, W.listOf vs.toArray c0) ∈ (od, oo) :: rest := .tail _ m1
  dsimp only at F N ret retN ⊢
  k_steps
  all_goals (try dsimp only)
  all_goals first
    | exact retN _ _ _ _ _ _ (warnR_msg (by assumption)) (by assumption) (by assumption)
    | exact ret _ _ _ _ _ _ _ _ _ _ (warnR_ok (by assumption) (by rw [lineR_eqT (by assumption)]; assumption)) (by assumption) (by assumption) (by assumption) (by assumption) (by assumption)
    | exact ret _ _ _ _ _ _ _ _ _ _ (warnR_ok (by assumption) (by rw [lineR_eqF (by assumption)]; assumption)) (by assumption) (by assumption) (by assumption) (by assumption) (by assumption)
    | exact retN _ _ _ _ _ _ (warnR_no (by assumption) (by rw [lineR_eqT (by assumption)]; assumption)) (by assumption) (by assumption)
    | exact retN _ _ _ _ _ _ (warnR_no (by assumption) (by rw [lineR_eqF (by assumption)]; assumption)) (by assumption) (by assumption)
theorem due2 (od tx : Addr) (oo : Obj) (TT : Int) (tt : Tok) (le : Addr) (be : PySem.Str) (tb : Tok) (en : PySem.Str) (te : Tok) (er : PySem.Str) (tr : Tok) (lo : Addr) (us : List Value) (rows : List PySem.Str) (c c0 : Nat) (vs : List Value) (ts : List PySem.Str) (t1 : Tok)
  (N : News h₀ L s.heap ((od, oo) :: rest)) (hoff : ∀ p ∈ rest, p.1 ≠ od) (ho : OwnIs w oo TT tt le be tb en te er tr lo)
  (m0 : (lo, W.listOf us.toArray c) ∈ rest) (hv : PyProof.Rows.StrsAre us rows) (hr : RowsOk rows)
  (m1 : (tx, W.listOf vs.toArray c0) ∈ rest) (hts : PyProof.Rows.StrsAre vs ts) (hn : ts.length ≤ 3) (hl : ∀ t ∈ ts, t.length ≤ 19)
  (hbe : be.length ≤ 1) (hen : en.length ≤ 1) (her : er.length ≤ 24)
   (hTT : 0 ≤ TT ∧ TT ≤ 40)
   (hdp : dp + 20 < recursionLimit) (hun : un + 600 < cLine)
   (ret : ∀ x ta h' tk' t t2, msgR TT er ts (PySem.Str.ofString "\t...propagated") (PySem.Str.ofString "Died") = .ok x → Fr h₀ L h' m → News h₀ L h' ((ta, tupO [.str (PySem.Str.ofString "dies") t, .str x t2]) :: (od, oo) :: rest) → Q (.ref ta) { s with heap := h', toks := tk' })
   (retN : ∀ x ta h' tk' t t2, msgR TT er ts (PySem.Str.ofString "\t...propagated") (PySem.Str.ofString "Died") = .no x → Fr h₀ L h' m → News h₀ L h' ((ta, tupO [.str (PySem.Str.ofString "dies") t, .str (PySem.Str.ofString "refused") t2]) :: (od, oo) :: rest) → Q (.ref ta) { s with heap := h', toks := tk' }) :
   wpAny (model PR w) (ktrTop dp un gd cn cs L a ccd cl outer) (call (.ref 621) [.ref od, .int 2 t1, .ref tx]) Q E s := by
  obtain ⟨hp, gns, drw, tks, osx⟩ := s
  have ho0 := ho
  unfold OwnIs at ho0
  have hvs : vs.length ≤ 3 := by rw [strsAre_length hts]; exact hn
  have hsum : (ts.map (·.length)).sum ≤ 2000 := sum3 hn hl
  have hjl : (Txt.join be ts).length ≤ 59 := joinB_len hbe hn hl
  have m1' : (tx, W.listOf vs.toArray c0) ∈ (od, oo) :: rest := .tail _ m1
  dsimp only at F N ret retN ⊢
  k_steps
  all_goals (try dsimp only)
  all_goals first
    | exact ret _ _ _ _ _ _ (by assumption) (by assumption) (by assumption)
    | exact retN _ _ _ _ _ _ (by assumption) (by assumption) (by assumption)
end
end TQDue
end Mine
namespace Mine
section TQHear0
open PySem PySem.W PyProof.Rows PySem.Spec PySem.Calls
open MineHd (hpK vwK hdT)
local macro_rules | `(tactic| k_all) => `(tactic| assumption)
/-! a call that catches: the caller's frame may have cells, nothing stands below it -/
section
variable {w : World} {A₀ A : Around} {s : Shared} {base h₀ g₀ : Heap} {L a : Addr} {m : PySem.Str → Option Value} {cn : PySem.Str} {cs : Scope} {ccd : Value} {cl : List (PySem.Str × Addr)} {news : List (Addr × Obj)} {p : Program} {loose : List PySem.Str} {mean : ExcName → Option Value} {mg mb : PySem.Str → Option Value}
    {R : Result → Shared → Prop} {name qual : PySem.Str} {params : Arguments} {body : List Stmt} {scope : Scope} {dV kV doc pm cdv ct oc : Value} {an od : Option Addr} {osl : Array (Option Value)} {f : Addr} {args : Args} {binds : List (PySem.Str × Value)}
theorem memX {b : Addr} (hb : b ∈ [envX cn cs L a ccd cl].filterMap (·.frame)) : b = L := by
  rcases envX_mem hb with z | z
  · exact z
  · simp at z
theorem code_heard (B : Below A₀ base [] h₀) (F : Fr h₀ L s.heap m) (X₀ : (hpK w.params).In h₀) (N : News h₀ L s.heap news) (T : Top p loose mean mg mb h₀) (hA : A.frames = some [envX cn cs L a ccd cl])
    (ho : (hpK w.params).lookup f = some ⟨oc, od, .func (fnOf name qual params body scope dV kV doc pm an cdv ct), osl⟩) (hcd : codeIn (hpK w.params) cdv qual = true) (hroom : A.depth < recursionLimit)
    (hbind : BindsTo s (fnOf name qual params body scope dV kV doc pm an cdv ct) args binds) (hloc : ∀ y ∈ binds, scope.names.lookup y.1 = some .local)
    (h : ∀ g L' h₁, Fr h₀ L g m → Fr g L' h₁ (fun y => binds.reverse.lookup y) → News g L' h₁ news → Below A base [envX cn cs L a ccd cl] g → (hpK w.params).In g → Top p loose mean mg mb g → KtsDicts ([envX cn cs L a ccd cl].filterMap (·.frame)) g →
      wpAny (model PR w) (A.deeper (envOf qual scope L' f cdv)) (execs body (envOf qual scope L' f cdv))
        (fun fl s' => LeaveS0 ([envX cn cs L a ccd cl].filterMap (·.frame)) h₀ L m g R (match fl with | .ret v => v | _ => .none) s')
        (fun e s' => wpAny (model PR w) (A.deeper (envOf qual scope L' f cdv)) (leaving (envOf qual scope L' f cdv) e) (fun _ s'' => R (.error e) s'') (fun e' s'' => R (.error e') s'') s')
        { s with heap := h₁, toks := s.toks + binds.length })
    (hck : cs.kind = .function) (hco : scope.isCoroutine = false) (hgen : scope.isGenerator = false) (hk : scope.kind = .function)
    (hcell : ∀ x ∈ scope.names, x.2 ≠ .cell) : codeAny (model PR w) A (.call (.ref f) args) R s := by
  have X := X₀.keeps F.keep
  refine codeAny_call_def (fd := fnOf name qual params body scope dV kV doc pm an cdv ct) (body := body) (binds := binds) hroom (X _ _ ho) rfl (T.nolimit.keeps F.keep) (codeRec_of X hcd) rfl hbind hcell hloc (fun h₁ hns hk₁ => ?_) hco hgen hk
  obtain ⟨FG, B₂, st, -⟩ := groundX (R := R) B F N hA rfl hck
  obtain ⟨oL, es, ep, hLg, hLd, hLk, hLf⟩ := FG.ns
  have nL₀ : h₀.get? L = none := kts_self F
  refine wpAny_mono (h _ s.heap.objs.size h₁ FG ⟨hns, fun b o e => hk₁ b o (of_hideAll _ e), Nat.le_of_eq (hideAll_size _ _)⟩
    (fun p hp => ⟨hk₁ _ _ (N p hp).1, Nat.ne_of_lt (Heap.lt_size (N p hp).1), hideAll_none _ (List.mem_map_of_mem hp)⟩) B₂ (X₀.keeps st) (T.keeps st) (fun b hb => by
      rw [memX hb]; exact ⟨oL, es, ep, hLg, hLd⟩)) (fun fl s' hl => ?_) fun _ _ y => y
  obtain ⟨g', L', m', news', T', F', N', k⟩ := hl
  obtain ⟨sl, hs⟩ := T'.up hLg
  refine k ⟨⟨_, es, ep, F'.keep _ _ hs, hLd, hLk, hLf⟩, fun b o e => F'.keep b o (T'.other b o (st b o e) (fun q => by
    rw [memX q, nL₀] at e
    cases e)), F.above⟩ fun p hp => ⟨(N' p hp).1, fun q => ?_, ?_⟩
  · have := (N' p hp).2.2; rw [q, hs] at this; cases this
  · cases q : h₀.get? p.1 with
    | none => rfl
    | some o =>
      obtain ⟨sl', hs'⟩ := T'.up (st _ _ q)
      have := (N' p hp).2.2
      rw [hs'] at this
      cases this
end
def DieAt (oe : Obj) (dx : Addr) : Prop := oe.cls = .ref 58 ∧ notCls oe = true ∧ oe.dict = some dx
theorem instV {h₀ h : Heap} {L e dx : Addr} {news : List (Addr × Obj)} {oe : Obj} {es : List DictEntry} {n : Nat} (N : News h₀ L h news) (m1 : (e, oe) ∈ news) (m2 : (dx, dictOf es n) ∈ news) (hd : DieAt oe dx) : InstAt h e oe 58 (some (dictOf es n)) :=
  ⟨(N _ m1).1, hd.1, hd.2.1, by rw [hd.2.2]; exact (N _ m2).1⟩
section
variable {w : World} {A : Around} {E : Value → Shared → Prop} {s : Shared} {h₀ : Heap} {L e dx : Addr} {m : PySem.Str → Option Value} {news : List (Addr × Obj)} {oe : Obj} {es : List DictEntry} {n : Nat} {name : PySem.Str} {v : Value} {Q : Value → Shared → Prop} {expr : Bool} {attr : Option Value}
theorem ga_call {tk : Tok} {R : Result → Shared → Prop} {x C : Addr} {ox : Obj} {od : Option Obj} (X : (hpK w.params).In s.heap) (I : InstAt s.heap x ox C od) (hm : mroIn (hpK w.params) C (.type "BaseException") = some true)
    (hf : findObj (hpK w.params) C od name = some (.value v)) (h : R (.ok (.ret v)) s) :
    codeAny (model PR w) A (.call (.builtin "BaseException.__getattribute__") ⟨[.ref x, .str name tk], []⟩) R s := by
  have sub : Looks (model PR w) s.heap (isInstance (.ref x) (.type "BaseException")) true := I.type.andThen (looks_mroIn X hm)
  refine codeAny_call_builtin PySem.F.attr_Exception.ga.plain PySem.F.entry_bexc_ga (@check_slot (model PR w) _ _ s "BaseException.__getattribute__" "BaseException" "__getattribute__" (.ref x) [.str name tk] [] _ (by decide +kernel) (by decide +kernel) sub (PySem.F.args_bexc_ga _ _) ?_)
  obtain ⟨hh', g, d, t, os⟩ := s
  have L0 := I.type (M := model PR w)
  have L1 := looks_find (M := model PR w) X I hf
  refine wpAny_bind (wpAny_pure (wpAny_bind (wpAny_pure (wpAny_bind (L0.at (wpAny_bind (L1.at ?_)))))))
  exact wpAny_pure h
theorem get_dieV (F : Fr h₀ L s.heap m) (X₀ : (hpK w.params).In h₀) (N : News h₀ L s.heap news) (m1 : (e, oe) ∈ news) (hda : DieAt oe dx) (m2 : (dx, dictOf es n) ∈ news) (hl : getL name es = some (some v))
    (hga : findIn (hpK w.params) (.ref 58) "__getattribute__" = some (some (.builtin "BaseException.__getattribute__"))) (hgt : findIn (hpK w.params) (.ref 58) "__getattr__" = some none)
    (hm : mroIn (hpK w.params) 58 (.type "BaseException") = some true) (hh : hasDictIn (hpK w.params) 58 = true) (ha : findIn (hpK w.params) (.ref 58) name = some attr) (hn : noGet (hpK w.params) attr = true) (hv : handedIn v = true)
    (h : Q v { s with toks := s.toks + 1 }) : wpAny (model PR w) A (getAttr (.ref e) name expr) Q E s := by
  have X := X₀.keeps F.keep
  have I := instV N m1 m2 hda
  have hf : findObj (hpK w.params) 58 (some (dictOf es n)) name = some (.value v) := findObj_own hh ha hn hl
  obtain ⟨hh', g, d, t, os⟩ := s
  have L0 := I.type (M := model PR w)
  have L1 := looks_findIn (M := model PR w) X hga
  have L2 := looks_findIn (M := model PR w) X hgt
  unfold getAttr getAttrBy
  refine wpAny_bind (wpAny_mkText (wpAny_holding (wpAny_bind (L0.at (wpAny_bind (L1.at ?_))))))
  have hx2 : (Value.builtin "BaseException.__getattribute__" == Value.builtin "object.__getattribute__") = false := by decide +kernel
  have hx1 : (onTheHeap (Value.ref 58) && Value.builtin "BaseException.__getattribute__" == Value.builtin "object.__getattribute__") = false := by rw [hx2]; rfl
  have hx0 : (expr && onTheHeap (Value.builtin "BaseException.__getattribute__")) = false := by cases expr <;> rfl
  dsimp only
  rw [hx1]
  show wpAny _ _ (getAttrByItsOwn _ _ _ _ _ _) _ _ _
  unfold getAttrByItsOwn
  refine wpAny_bind (L2.at ?_)
  refine wpAny_bind (wpAny_attempt (wpAny_holding ?_))
  unfold callGetattribute
  rw [hx0]
  show wpAny _ _ (boundAndCalled _ _ _) _ _ _
  unfold boundAndCalled
  rw [PySem.F.attr_Exception.ga.bind (.ref e)]
  refine wpAny_bind (wpAny_pure (wpAny_call (ga_call X I hm hf ?_)))
  show wpAny _ _ (handedOut v) _ _ _
  rw [handedOut_of hv]; exact wpAny_pure h
end
section
variable {w : World} {A₀ : Around} {E : Value → Shared → Prop} {s' : Shared} {base g g₀ G : Heap} {outer : List Env} {L a e : Addr} {m : PySem.Str → Option Value} {name : PySem.Str} {scope : Scope} {cd : Value}
  {n : PySem.Str} {b₀ : Stmt} {suite : List Stmt} {pos np : Pos} {rest : List ExceptHandler} {Q : Flow → Shared → Prop} {news : List (Addr × Obj)}
  {p : Program} {loose : List PySem.Str} {mean : ExcName → Option Value} {mg mb : PySem.Str → Option Value} {x : PySem.Str} {tx : Tok} {y : PySem.Str}
theorem caught_V (R : RaisedV base G (envOf name scope L a cd :: outer) e x tx news s'.heap) (F : Fr g L G m) (K : Below A₀ base outer g) (hsm : G.UpToSlots s'.heap) (XB : (hpK w.params).In base) (TB : Top p loose mean mg mb base)
    (D : KtsDicts (outer.filterMap (·.frame)) g) (T0 : KtsTurn (outer.filterMap (·.frame)) g₀ g)
    (ex : nsIn (hpK w.params) mainGlobals y = some (some (.ref 58)))
    (k : ∀ h' g' oe dx es n' tk, KtsTurn (outer.filterMap (·.frame)) g₀ g' → Fr g' L h' (fun z => if z = n then some (.ref e) else m z) → News g' L h' ((e, oe) :: (dx, dictOf es n') :: news) → DieAt oe dx → getL (PySem.Str.ofString "value") es = some (some (.str x tx)) → Below A₀ base outer g' → (hpK w.params).In g' → Top p loose mean mg mb g' → KtsDicts (outer.filterMap (·.frame)) g' →
      wpAny (model PR w) ((A₀.deeper (envOf name scope L a cd)).mark (some (.ref e))) (execs (b₀ :: suite) (envOf name scope L a cd))
        (fun f s₄ => wpAny (model PR w) (A₀.deeper (envOf name scope L a cd)) (do bindName (envOf name scope L a cd) n .none; unbindBehindTheSuite (envOf name scope L a cd) n pos) (fun _ s₅ => Q f s₅) E s₄)
        (AsSuiteRaised (model PR w) ((A₀.deeper (envOf name scope L a cd)).mark (some (.ref e))) (envOf name scope L a cd) n pos (notedBy (model PR w) ((A₀.deeper (envOf name scope L a cd)).mark (some (.ref e))) (envOf name scope L a cd) (cameBackBy (model PR w) (A₀.deeper (envOf name scope L a cd)) (envOf name scope L a cd) E)))
        { s' with heap := h', toks := tk })
    (hk : scope.kind = .function := by rfl) (hlo : (envOf name scope L a cd).kindOf n = some .local := by rfl) (hx : (envOf name scope L a cd).kindOf y = some .globalImplicit := by rfl) (hdb : (y == PySem.Str.ofString "__debug__") = false := by decide) :
    wpAny (model PR w) (A₀.deeper (envOf name scope L a cd)) (noteFrame (.ref e) (envOf name scope L a cd))
      (fun _ s₂ => wpAny (model PR w) (A₀.deeper (envOf name scope L a cd)) (setFlight (.ref e) none) (fun _ s₃ =>
        wpAny (model PR w) (A₀.deeper (envOf name scope L a cd)) (handleBy (.ref e) (envOf name scope L a cd) (.ExceptHandler (some (.Name y np)) (some n) (b₀ :: suite) pos :: rest)) Q E s₃) E s₂) E s' := by
  obtain ⟨B, dx, es, n', hB, hBG, hl, hv, hfl⟩ := R
  have hL : B.get? L = none := by
    obtain ⟨_, ⟨L', _, hf, hn', _⟩, _⟩ := hfl.2.2.1
    obtain rfl : L = L' := Option.some.inj hf
    exact hn'
  refine noteFrame_onP (dieP_free dx) (Around.frames_deeper K.stack) rfl hfl fun h₄ hheld₄ hsm₄ => ?_
  refine landsP (dieP_free dx) hheld₄ fun h₅ hfl₅ hsm₅' => ?_
  have hsm₅ := hsm₄.trans hsm₅'
  obtain ⟨g₅, T₅, F₅, K₅⟩ := kts_ground K F hBG hfl₅.1 (hsm.trans hsm₅)
  have X₅ : (hpK w.params).In g₅ := XB.keeps K₅.stays
  have P₅ : TopRead p loose mg mb g₅ := topRead_of (TB.keeps K₅.stays)
  obtain ⟨ob, vs5, T5, oT5, ts5, hob, hobc, -⟩ := hfl₅.2.2.2
  have hC₅ := F₅.keep _ _ (die_at X₅)
  refine wpAny_handleBy_cons (codeAny_handlers_test (name_K F₅ X₅ P₅ ex ?_ hk hx hdb)) (by intro q; cases q)
  refine wpAny_excMatches_sub_self hC₅ hob hobc.1 (by decide) (codeAny_handlers_suite_as ?_)
  refine landsAgainP (dieP_free dx) hfl₅ fun h₆ hfl₆ hsm₆ => ?_
  obtain ⟨g₆, T₆, F₆, K₆⟩ := kts_ground K F hBG hfl₆.1 ((hsm.trans hsm₅).trans hsm₆)
  obtain ⟨oe, ws, T6, oT6, ts6, hoe, hoec, hoed, -⟩ := hfl₆.2.2.2
  have ne₆ : g₆.get? e = none := T₆.none_ _ (kts_fresh F hBG hfl₆.2.1 fun o ho m => by
    obtain ⟨_, o', ho', hd⟩ := K.frames.mem m
    rw [ho] at ho'
    cases ho'
    obtain ⟨sl, hs⟩ := ((hsm.trans hsm₅).trans hsm₆) _ _ (F.keep _ _ ho) hd
    rw [hoe] at hs
    cases hs
    exact hd _ hoed)
  have N₆ := News.more F₆ News.nil hoe (fun es n q => by rw [hoed] at q; cases q) ne₆
  have Nl : News g₆ L h₆ ((dx, dictOf es n') :: news) := fun q hq => ⟨hfl₆.1 _ _ (hl q hq).1, (fun z => by have := (hl q hq).1; rw [z, hL] at this; cases this), T₆.none_ _ (kts_none F.keep (hl q hq).2.1)⟩
  have X₆ : (hpK w.params).In g₆ := XB.keeps K₆.stays
  have P₆ : Top p loose mean mg mb g₆ := TB.keeps K₆.stays
  have D₆ : KtsDicts (outer.filterMap (·.frame)) g₆ := D.turn T₆
  have Na : News g₆ L h₆ ((e, oe) :: (dx, dictOf es n') :: news) := fun q hq => by
    rcases List.mem_cons.mp hq with rfl | hq
    · exact N₆ _ (.head _)
    · exact Nl _ hq
  have hno : notCls oe = true := by unfold notCls; rw [hoed]
  refine stN F₆ Na (fun h₇ F₇ N₇ => ?_) hk hlo
  exact k h₇ g₆ oe dx es n' _ (T0.trans T₆) F₇ N₇ ⟨hoec.1, hno, hoec.2⟩ hv K₆ X₆ P₆ D₆
end
/-- what a work of no arguments does upon a ledger: it gives a value and turns the ledger, or it dies of a text -/
def WorkIs (w : World) (f : Addr) (news : List (Addr × Obj)) (Ret : Value → List (Addr × Obj) → Prop) (Rai : PySem.Str → Prop) : Prop :=
  ∀ {PV : PySem.Program} {LZ : List PySem.Str} {mean : ExcName → Option Value} {mg mb : PySem.Str → Option Value} (dp un : Nat) (gd : Option (List Code)) (cn : PySem.Str) (cs : Scope) (a : Addr) (ccd : Value) (cl : List (PySem.Str × Addr)) (outer : List Env) (A₀ : Around) (base h₀ : Heap) (L : Addr) (m : PySem.Str → Option Value) (s : Shared) (Q E : Value → Shared → Prop)
    (_ : Below A₀ base outer h₀) (_ : Fr h₀ L s.heap m) (_ : (hpK w.params).In h₀) (_ : Top PV LZ mean mg mb h₀) (_ : cs.kind = .function) (_ : News h₀ L s.heap news) (_ : dp + 24 < recursionLimit) (_ : un + 700 < cLine)
    (_ : ∀ v news' h' tk', Ret v news' → Fr h₀ L h' m → News h₀ L h' news' → Q v { s with heap := h', toks := tk' })
    (_ : ∀ x e t g h' tk', Rai x → x.length ≤ 1000 → Fr h₀ L g m → g.UpToSlots h' → RaisedV base g (envX cn cs L a ccd cl :: outer) e x t news h' → E (.ref e) { s with heap := h', toks := tk' }),
    wpAny (model PR w) (ktrTop dp un gd cn cs L a ccd cl outer) (call (.ref f) []) Q E s
noncomputable def heardR (x : PySem.Str) : PySem.Str := if Txt.slice x none (some 13) == PySem.Str.ofString "Out of memory" then PySem.Str.ofString "refused" else x
theorem heardR_t {x : PySem.Str} (h : (Txt.slice x none (some 13) == PySem.Str.ofString "Out of memory") = true) : heardR x = PySem.Str.ofString "refused" := by unfold heardR; rw [if_pos h]
theorem heardR_f {x : PySem.Str} (h : (Txt.slice x none (some 13) == PySem.Str.ofString "Out of memory") = false) : heardR x = x := by unfold heardR; rw [if_neg (by rw [h]; decide)]
theorem newsDrop3 {h₀ h : Heap} {L : Addr} {a b c : Addr × Obj} {rest : List (Addr × Obj)} (N : News h₀ L h (a :: b :: c :: rest)) : News h₀ L h (a :: rest) := fun p hp => N p (by
  rcases List.mem_cons.mp hp with rfl | hp
  · exact .head _
  exact .tail _ (.tail _ (.tail _ hp)))
end TQHear0
end Mine
namespace Mine
section TQHear
open PySem PySem.W PyProof.Rows PySem.Spec PySem.Calls
open MineHd (hpK vwK hdT)
local macro_rules | `(tactic| k_all) => `(tactic| assumption)
local macro_rules | `(tactic| walk_at $s:str) => `(tactic| k_extra $s)
local macro_rules | `(tactic| k_get) => `(tactic| assumption)
local macro_rules | `(tactic| k_mem) => `(tactic| first | assumption | exact List.Mem.head _ | (refine List.mem_cons_of_mem _ ?_; k_mem))
local macro_rules | `(tactic| k_memK) => `(tactic| k_mem)
theorem said_QHear_0 : True := by
  k_with_none
  k_with "call ref" => (k_here; refine wpAny_call ?_; k_dflt (refine' code_def ?k1 ?k2 ?k3 ?k4 ?k5 ?kA ?kF ?kK ?k6 ?k7 ?k8 ?k9 ?kB ?_ ?c2 ?c3 ?c4 ?c5; (case kA => exact rfl); (case kF => exact rfl); (case kK => first | exact rfl | assumption); (case k1 => k_asm); (case k2 => k_asm); (case k3 => k_asm); (case k4 => k_asm); (case k5 => k_asm); (case k6 => k_is); (case k7 => k_is); (case k8 => ktr_room); (case k9 => exact BindsTo.of_eq rfl); (case c5 => decide); (case kB => exact locs rfl); (case c2 => exact rfl); (case c3 => exact rfl); (case c4 => exact rfl); k_whole; intro g' L' h' FG' F' N' B' X' T'; (try dsimp only); (try k_lift B'); (try k_fold)))
  k_with "call ref" => (k_here; (with_reducible show wpAny _ _ (call (Value.ref _) []) _ _ _); (with_reducible rename WorkIs _ _ _ _ _ => hW'); k_dflt ((refine' hW' _ _ _ _ _ _ _ _ _ _ _ _ _ _ _ _ _ ?B ?F ?X ?T ?hk ?N ?hd ?hu ?_ ?_); (case B => k_asm); (case F => k_asm); (case X => k_asm); (case T => k_asm); (case hk => first | exact rfl | assumption); (case N => k_asm); (case hd => ktr_room); (case hu => ktr_units); intro v' nw' h' tk' hr' F' N'; (try dsimp only); rotate_left; intro x' e' t' g' h' tk' hr' hx' F' U' R'; (try dsimp only); rotate_left))
  k_with "callWith ref" => (k_here; k_dflt (refine' callWith_F0 ?k1 ?_; (case k1 => exact FnAt.of (by k_asm) (by k_mem)); k_whole; try dsimp only [List.nil_append, List.cons_append]))
  trivial
theorem of_allLt {d : Addr} {l : List (Addr × Obj)} (h : AllLt d l) : ∀ p ∈ l, @LT.lt Nat _ p.1 d := by
  induction l with
  | nil => exact fun _ hp => nomatch hp
  | cons q r ih =>
    intro p hp
    rcases List.mem_cons.mp hp with e | hp
    · rw [e]; exact h.1
    · exact ih h.2 p hp
theorem said_QHear_1 : True := by
  k_with "call ref" => (k_here; (with_reducible show wpAny _ _ (call (Value.ref 600) _) _ _ _); refine wpAny_call ?_; k_dflt (refine' code_heard ?k1 ?k2 ?k3 ?k4 ?k5 ?kA ?k6 ?k7 ?k8 ?k9 ?kB ?_ ?cK ?c2 ?c3 ?c4 ?c5; (case kA => exact rfl); (case k2 => k_asm); (case k1 => k_asm); (case k3 => k_asm); (case k4 => k_asm); (case k5 => k_asm); (case k6 => k_is); (case k7 => k_is); (case k8 => ktr_room); (case k9 => exact BindsTo.of_eq rfl); (case kB => exact locs rfl); (case cK => first | exact rfl | assumption); (case c2 => exact rfl); (case c3 => exact rfl); (case c4 => exact rfl); (case c5 => decide); k_whole; intro g' L' h' FG' F' N' B' X' T' D'; (try dsimp only); (try k_lift B'); (try k_fold)))
  k_with "noteFrame ref" => (k_here; k_dflt (refine' caught_V ?R ?F ?K ?U ?XB ?TB ?D ?T0 ?ex ?_; (case R => assumption); (case F => assumption); (case K => assumption); (case U => assumption); (case XB => assumption); (case TB => assumption); (case D => assumption); (case T0 => first | assumption | exact KtsTurn.refl); (case ex => k_is); k_whole); intro h' g' oe' dx' es' n' tk' T' F' N' hd' hv' K' X' P' D'; (try k_lift K'); (try k_sweep))
  k_with "getAttr ref" => (k_here; k_dflt (refine' get_dieV ?F ?X ?N ?m1 ?hda ?m2 ?hl ?hg ?hgt ?hm ?hh ?ha ?hn ?hv ?_; (case F => k_asm); (case X => k_asm); (case hda => assumption); (case hl => assumption); (case N => k_asm); (case m1 => k_mem); (case m2 => k_mem); (case hg => k_is); (case hgt => k_is); (case hm => k_is); (case hh => k_is); (case ha => k_is); (case hn => k_is); (case hv => exact rfl); k_whole))
  trivial
section
variable {PV : PySem.Program} {LZ : List PySem.Str} {w : World} {mean : ExcName → Option Value} {mg mb : PySem.Str → Option Value} (dp un : Nat) (gd : Option (List Code)) (cn : PySem.Str) (cs : Scope) (a : Addr) (ccd : Value) (cl : List (PySem.Str × Addr)) (A₀ : Around) (base h₀ : Heap) (L : Addr) (m : PySem.Str → Option Value) (s : Shared) (Q E : Value → Shared → Prop) (rest : List (Addr × Obj))
  (B : Below A₀ base [] h₀) (F : Fr h₀ L s.heap m) (X : (hpK w.params).In h₀) (T : Top PV LZ mean mg mb h₀) (hk : cs.kind = .function)
include B F X T hk
theorem heard_spec (f : Addr) (Ret : Value → List (Addr × Obj) → Prop) (Rai : PySem.Str → Prop) (W : WorkIs w f rest Ret Rai)
   (foc : Value) (fod : Option Addr) (ffd : FuncData) (fsl : Array (Option Value)) (mf : (f, (⟨foc, fod, .func ffd, fsl⟩ : Obj)) ∈ rest)
   (XB : (hpK w.params).In base) (TB : Top PV LZ mean mg mb base)
   (N : News h₀ L s.heap rest)
   (hdp : dp + 28 < recursionLimit) (hun : un + 800 < cLine)
   (ret : ∀ v news' ta t h' tk', Ret v news' → Fr h₀ L h' m → News h₀ L h' ((ta, tupO [.str (PySem.Str.ofString "gives") t, v]) :: news') → (∀ p ∈ news', @LT.lt Nat _ p.1 ta) → Q (.ref ta) { s with heap := h', toks := tk' })
   (rai : ∀ x ta t t2 h' tk', Rai x → Fr h₀ L h' m → News h₀ L h' ((ta, tupO [.str (PySem.Str.ofString "dies") t, .str (heardR x) t2]) :: rest) → (∀ p ∈ rest, @LT.lt Nat _ p.1 ta) → Q (.ref ta) { s with heap := h', toks := tk' }) :
   wpAny (model PR w) (ktrTop dp un gd cn cs L a ccd cl []) (call (.ref 600) [.ref f]) Q E s := by
  obtain ⟨hp, gns, drw, tks, osx⟩ := s
  dsimp only at F N ret rai ⊢
  k_steps
  all_goals (try dsimp only)
  · exact ret _ _ _ _ _ _ (by assumption) (by assumption) (by assumption) (by assumption)
  all_goals first | (with_reducible rename AllLt _ _ => q9) | (with_reducible rename @LT.lt Nat _ _ _ ∧ _ => q9) | (with_reducible rename _ ∧ _ => q9)
  · exact rai _ _ _ _ _ _ (by assumption) (by assumption) (by rw [heardR_t (by assumption)]; exact newsDrop3 (by assumption)) (of_allLt q9.2.2)
  · exact rai _ _ _ _ _ _ (by assumption) (by assumption) (by rw [heardR_f (by assumption)]; exact newsDrop3 (by assumption)) (of_allLt q9.2.2)
end
end TQHear
end Mine
namespace Mine
section TQLrun0
open PySem PySem.W PyProof.Rows PySem.Spec PySem.Calls
open MineHd (hpK vwK hdT)
local macro_rules | `(tactic| k_all) => `(tactic| assumption)
/-! a call whose body sees a closed ledger: the rest of the caller's ledger goes to the ground -/
section
variable {w : World} {A₀ A : Around} {s : Shared} {base h₀ : Heap} {outer : List Env} {L a : Addr} {m : PySem.Str → Option Value} {cn : PySem.Str} {cs : Scope} {ccd : Value} {cl : List (PySem.Str × Addr)} {news rest : List (Addr × Obj)} {p : Program} {loose : List PySem.Str} {mean : ExcName → Option Value} {mg mb : PySem.Str → Option Value}
    {R : Result → Shared → Prop} {name qual : PySem.Str} {params : Arguments} {body : List Stmt} {scope : Scope} {dV kV doc pm cdv ct oc : Value} {an od : Option Addr} {osl : Array (Option Value)} {f : Addr} {args : Args} {binds : List (PySem.Str × Value)}
theorem code_run (B : Below A₀ base outer h₀) (F : Fr h₀ L s.heap m) (X₀ : (hpK w.params).In h₀) (N : News h₀ L s.heap news) (NR : News h₀ L s.heap rest) (hdis : ∀ p ∈ rest, p.1 ∉ news.map (·.1)) (T : Top p loose mean mg mb h₀) (hA : A.frames = some (envX cn cs L a ccd cl :: outer))
    (ho : (hpK w.params).lookup f = some ⟨oc, od, .func (fnOf name qual params body scope dV kV doc pm an cdv ct), osl⟩) (hcd : codeIn (hpK w.params) cdv qual = true) (hroom : A.depth < recursionLimit)
    (hbind : BindsTo s (fnOf name qual params body scope dV kV doc pm an cdv ct) args binds) (hloc : ∀ y ∈ binds, scope.names.lookup y.1 = some .local)
    (h : ∀ g L' h₁, Fr h₀ L g m → Fr g L' h₁ (fun y => binds.reverse.lookup y) → News g L' h₁ news → (∀ p ∈ rest, g.get? p.1 = some p.2) → Below A base (envX cn cs L a ccd cl :: outer) g → (hpK w.params).In g → Top p loose mean mg mb g →
      wpAny (model PR w) (A.deeper (envOf qual scope L' f cdv)) (execs body (envOf qual scope L' f cdv))
        (fun fl s' => LeaveK h₀ L m g (fun r s' => News h₀ L s'.heap rest → (∀ p ∈ rest, g.get? p.1 = some p.2) → R r s') (match fl with | .ret v => v | _ => .none) s')
        (fun e s' => wpAny (model PR w) (A.deeper (envOf qual scope L' f cdv)) (leaving (envOf qual scope L' f cdv) e) (fun _ s'' => R (.error e) s'') (fun e' s'' => R (.error e') s'') s')
        { s with heap := h₁, toks := s.toks + binds.length })
    (hck : cs.kind = .function) (hco : scope.isCoroutine = false) (hgen : scope.isGenerator = false) (hk : scope.kind = .function)
    (hcell : ∀ x ∈ scope.names, x.2 ≠ .cell) : codeAny (model PR w) A (.call (.ref f) args) R s := by
  have X := X₀.keeps F.keep
  refine codeAny_call_def (fd := fnOf name qual params body scope dV kV doc pm an cdv ct) (body := body) (binds := binds) hroom (X _ _ ho) rfl (T.nolimit.keeps F.keep) (codeRec_of X hcd) rfl hbind hcell hloc (fun h₁ hns hk₁ => ?_) hco hgen hk
  have hg : ∀ p ∈ rest, (hideAll s.heap (news.map (·.1))).get? p.1 = some p.2 := fun p hp => hideAll_get _ (NR p hp).1 (hdis p hp)
  obtain ⟨FG, B₂, st, lv⟩ := groundX (R := fun r s' => News h₀ L s'.heap rest → (∀ p ∈ rest, (hideAll s.heap (news.map (·.1))).get? p.1 = some p.2) → R r s') B F N hA rfl hck
  refine wpAny_mono (h _ s.heap.objs.size h₁ FG ⟨hns, fun b o e => hk₁ b o (of_hideAll _ e), Nat.le_of_eq (hideAll_size _ _)⟩
    (fun p hp => ⟨hk₁ _ _ (N p hp).1, Nat.ne_of_lt (Heap.lt_size (N p hp).1), hideAll_none _ (List.mem_map_of_mem hp)⟩) hg B₂ (X₀.keeps st) (T.keeps st)) (fun fl s' hl => ?_) fun _ _ y => y
  refine lv _ _ hl (fun p hp => ?_) hg
  obtain ⟨L', m', news', F', N', k⟩ := hl
  exact ⟨F'.keep _ _ (hg p hp), (NR p hp).2⟩
end
end TQLrun0
end Mine
namespace Mine
section TQSnew
open PySem PySem.W PyProof.Rows PySem.Spec PySem.Calls
open MineHd (hpK vwK hdT)
local macro_rules | `(tactic| k_all) => `(tactic| assumption)
local macro_rules | `(tactic| walk_at $s:str) => `(tactic| k_extra $s)
local macro_rules | `(tactic| k_lt $h:ident) => `(tactic| skip)
local macro_rules | `(tactic| k_ne) => `(tactic| (refine neN ?_; (try dsimp only); first | (with_reducible exact Nat.ne_of_gt (by assumption)) | (with_reducible exact Nat.ne_of_lt (by assumption)) | (with_reducible exact Nat.ne_of_gt (lt_of_allK (by assumption) (by k_dflt k_mem))) | (with_reducible exact Nat.ne_of_lt (lt_of_allK (by assumption) (by k_dflt k_mem))) | (with_reducible exact ne_up (by assumption) (by assumption) (by k_dflt k_mem)) | (with_reducible exact Ne.symm (ne_up (by assumption) (by assumption) (by k_dflt k_mem))) | (with_reducible assumption) | omega))
local macro_rules | `(tactic| k_all) => `(tactic| first | (with_reducible exact all_ne_of (by assumption)) | (refine' List.forall_mem_cons.mpr ⟨?a, ?b⟩; (case a => k_ne); (case b => k_all)) | (with_reducible assumption) | (with_reducible exact all_ne_sub (by assumption) (by intro p9 hp9; repeat (first | exact hp9 | refine List.mem_cons_of_mem _ ?_))))
local macro_rules | `(tactic| k_get) => `(tactic| assumption)
local macro_rules | `(tactic| k_mem) => `(tactic| first | assumption | exact List.Mem.head _ | (refine List.mem_cons_of_mem _ ?_; k_mem))
local macro_rules | `(tactic| k_memK) => `(tactic| k_mem)
local macro_rules | `(tactic| k_room) => `(tactic| ktr_room)
theorem said_QSnew_0 : True := by
  k_with_none
  k_with "execs cons" => (k_here; (with_reducible first | refine tok_k (gns := gns) (drw := drw) (osx := osx) ?_ | refine tok_p (gns := gns) (drw := drw) (osx := osx) ?_); intro tk9)
  k_with "setAttr ref" => (k_here; k_dflt (refine' set_dictP (gns := gns) (drw := drw) (osx := osx) ?k1 ?k2 ?k3 ?k4 ?k5 ?k6 ?k7 ?k8 ?k9 ?k10 ?_; (case k1 => k_asm); (case k2 => k_asm); (case k3 => k_asm); (case k4 => k_inst); (case k5 => exact rfl); (case k6 => k_is); (case k7 => k_is); (case k8 => k_is); (case k9 => k_is); (case k10 => k_get)); intro t'; k_dflt (refine' SetTo.mk ?k11 ?k12 ?k13 ?_; (case k11 => k_put); (case k12 => k_upd); (case k13 => exact Nat.le_of_ble_eq_true rfl)); intro h' tk' F' N'; (try k_sweep))
  k_with "setAttr ref" => (k_here; (with_reducible first | refine val_k ?_ | refine val_p ?_); intro tk9)
  k_with "call ref" => (k_here; refine wpAny_call ?_; k_dflt (refine' code_def ?k1 ?k2 ?k3 ?k4 ?k5 ?kA ?kF ?kK ?k6 ?k7 ?k8 ?k9 ?kB ?_ ?c2 ?c3 ?c4 ?c5; (case kA => exact rfl); (case kF => exact rfl); (case kK => first | exact rfl | assumption); (case k1 => k_asm); (case k2 => k_asm); (case k3 => k_asm); (case k4 => k_asm); (case k5 => k_asm); (case k6 => k_is); (case k7 => k_is); (case k8 => ktr_room); (case k9 => first | (refine' binds_zip ?g1 ?g2 ?q1 ?q2; (case g1 => exact rfl); (case g2 => exact rfl); (case q1 => ((repeat (refine' bcons ?_ ?_; rotate_left 2; focus (first | (dsimp only; done) | exact rfl))); first | exact (rfl : ([] : List (PySem.Str × Value)) = []) | exact rfl)); (case q2 => kernel_rfl)) | exact BindsTo.of_eq rfl); (case c5 => decide); (case kB => exact locs rfl); (case c2 => exact rfl); (case c3 => exact rfl); (case c4 => exact rfl); k_whole; intro g' L' h' FG' F' N' B' X' T'; (try dsimp only); (try k_lift B'); (try k_fold)))
  k_with "compareOp NotIn str ref" => (k_here; k_dflt (refine' kdg_notin (knd := PySem.strKind _ _) ?N ?m ?d ?lo (strKind_is _ _ _ _) true ?b ?_; (case N => k_asm); (case m => k_mem); (case d => assumption); (case lo => assumption); (case b => first | assumption | rfl); k_whole))
  k_with "subscriptTail" => (k_here; (with_reducible show wpAny _ _ (subscriptTail _ _ (Value.ref _) (Value.str _ _)) _ _ _); k_dflt (refine' kda_item (knd := PySem.strKind _ _) ?N ?m ?d (strKind_is _ _ _ _) ?v ?_; (case N => k_asm); (case m => k_mem); (case d => assumption); (case v => first | assumption | rfl); k_whole))
  k_with "subscriptTail Name Constant ref str" => (k_here; (with_reducible show wpAny _ _ (subscriptTail _ _ (Value.ref _) (Value.str _ _)) _ _ _); k_dflt (refine' kda_item (knd := PySem.strKind _ _) ?N ?m ?d (strKind_is _ _ _ _) ?v ?_; (case N => k_asm); (case m => k_mem); (case d => assumption); (case v => first | assumption | rfl); k_whole))
  k_with "compareOp NotIn str ref" => (k_here; k_dflt (refine' kdg_notin (knd := PySem.strKind _ _) ?N ?m ?d ?lo (strKind_is _ _ _ _) false ?b ?_; (case N => k_asm); (case m => k_mem); (case d => assumption); (case lo => assumption); (case b => first | assumption | rfl); k_whole))
  trivial
theorem valueAt_snoc {kvs : List (PySem.Str × Value)} {k : PySem.Str} {v : Value} (h : PySem.valueAt kvs k = none) : PySem.valueAt (kvs ++ [(k, v)]) k = some v := by
  unfold PySem.valueAt at h ⊢
  rw [List.find?_append]
  rw [Option.map_eq_none_iff] at h
  rw [h]
  simp
theorem said_QSnew_1 : True := by
  k_with "setItem ref str" => (k_here; k_dflt (refine' kda_set (knd := PySem.strKind _ _) ?F ?N ?U ?d (strKind_is _ _ _ _) ?z ?_; (case F => k_asm); (case N => k_asm); (case U => k_updF); (case d => assumption); (case z => rw [sizeLine_eq]; omega)); intro h' o' F' N' hd'; (try dsimp only at N'); (try rw [stored_absent (by assumption)] at hd'))
  trivial
theorem get_letter {w : World} {A : Around} {E : Value → Shared → Prop} {s : Shared} {h₀ : Heap} {L d : Addr} {o : Obj} {news : List (Addr × Obj)} {kvs : List (PySem.Str × Value)} {k : PySem.Str} {tk : Tok} {v : Value} {Q : Value → Shared → Prop} (N : News h₀ L s.heap news) (hp : (d, o) ∈ news) (hd : Obj.IsDictOf (PySem.strKind PR w) o kvs) (hl : PySem.valueAt kvs k = some v) (h : Q v { s with toks := s.toks + 1 }) :
    wpAny (model PR w) A (getItem (.ref d) (.str k tk)) Q E s := wpAny_getItem_of (strKind_is _ _ _ _) (kda_dict N hp hd).mapOf hl h
theorem said_QSnew_2 : True := by
  k_with "getItem ref str" => (k_here; k_dflt (refine' get_letter ?N ?m ?d ?v ?_; (case N => k_asm); (case m => k_mem); (case d => assumption); (case v => exact valueAt_snoc (by assumption)); k_whole))
  trivial
theorem news_drop25 {h₀ h : Heap} {L : Addr} {a b c d : Addr × Obj} {r : List (Addr × Obj)} (N : News h₀ L h (a :: b :: c :: d :: r)) : News h₀ L h (b :: c :: r) := fun p hp => N p (by
  rcases List.mem_cons.mp hp with rfl | hp
  · exact .tail _ (.head _)
  · rcases List.mem_cons.mp hp with rfl | hp
    · exact .tail _ (.tail _ (.head _))
    · exact .tail _ (.tail _ (.tail _ (.tail _ hp))))
section
variable {PV : PySem.Program} {LZ : List PySem.Str} {w : World} {mean : ExcName → Option Value} {mg mb : PySem.Str → Option Value} (dp un : Nat) (gd : Option (List Code)) (cn : PySem.Str) (cs : Scope) (a : Addr) (ccd : Value) (cl : List (PySem.Str × Addr)) (outer : List Env) (A₀ : Around) (base h₀ : Heap) (L : Addr) (m : PySem.Str → Option Value) (s : Shared) (Q E : Value → Shared → Prop) (rest : List (Addr × Obj))
  (B : Below A₀ base outer h₀) (F : Fr h₀ L s.heap m) (X : (hpK w.params).In h₀) (T : Top PV LZ mean mg mb h₀) (hk : cs.kind = .function)
include B F X T hk
set_option maxHeartbeats 3000000 in
theorem snew_spec (st stD hpA hpD gl lim z : Addr) (glO : Obj) (es : List DictEntry) (c2 : Nat) (t1 t2 t3 t4 : Tok) (k : Int) (kvs : List (PySem.Str × Value)) (name : PySem.Str) (tn : Tok)
  (N : News h₀ L s.heap ((hpD, dictOf [en w "limits" t1 (.ref lim), en w "last" t2 (.int k t3), en w "zero" t4 (.ref z)] 3) :: (gl, glO) :: rest))
  (m1 : (st, instObj 574 stD) ∈ rest) (m2 : (stD, dictOf es c2) ∈ rest) (m3 : (hpA, instObj 264 hpD) ∈ rest)
  (n1 : @Ne Nat hpD gl) (hoff1 : ∀ p ∈ rest, p.1 ≠ hpD) (hoff2 : ∀ p ∈ rest, p.1 ≠ gl)
  (hd : Obj.IsDictOf (PySem.strKind PR w) glO kvs) (hno : PySem.valueAt kvs name = none) (hlo : (gl == sysModules) = false) (hkl : kvs.length ≤ 10)
  (e1 : getL "heap" es = some (some (.ref hpA))) (e2 : getL "globs" es = some (some (.ref gl))) (e3 : getL "glob_of" es = some none)
  (hk0 : 0 ≤ k) (hk1 : k ≤ 100)
  (hdp : dp + 10 < recursionLimit) (hun : un + 300 < cLine)
  (ret : ∀ sc scD g gD wk ges cg glO' t0 t1' t2' t3' t4' t5' t6' t7' t8' t9' tl h' tk', getL "scalar" ges = some (some (.ref sc)) → Obj.IsDictOf (PySem.strKind PR w) glO' (kvs ++ [(name, .ref g)]) → Fr h₀ L h' m →
     News h₀ L h' ((sc, instObj 105 scD) :: (scD, dictOf [en w "number" t0 (.int (k + 1 + 1) t8'), en w "count" t1' (.int 1 t9'), en w "blessed" t2' .none, en w "weak" t3' (.ref wk), en w "is_destroyed" t4' (.bool false), en w "is_freed" t5' (.bool false), en w "value" t6' .none, en w "magic" t7' .none] 8) :: (g, instObj 181 gD) :: (gD, dictOf ges cg) :: (hpD, dictOf [en w "limits" t1 (.ref lim), en w "last" t2 (.int (k + 1 + 1) tl), en w "zero" t4 (.ref z)] 3) :: (gl, glO') :: rest) →
     (@LT.lt Nat _ hpD gD ∧ @LT.lt Nat _ gl gD ∧ @LT.lt Nat _ gD g ∧ @LT.lt Nat _ g scD ∧ @LT.lt Nat _ scD sc) → (∀ p ∈ rest, @LT.lt Nat _ p.1 gD) → Q (.ref sc) { s with heap := h', toks := tk' }) :
   wpAny (model PR w) (ktrTop dp un gd cn cs L a ccd cl outer) (call (.ref 543) [.ref st, .str name tn]) Q E s := by
  obtain ⟨hp, gns, drw, tks, osx⟩ := s
  dsimp only at F N ret ⊢
  have hs0 : (PySem.valueAt kvs name).isSome = false := by rw [hno]; rfl
  k_steps
  all_goals (try dsimp only)
  rename News h₀ L _ _ => kN
  refine ret _ _ _ _ _ _ _ _ _ _ _ _ _ _ _ _ _ _ _ _ _ ?e (by assumption) (by assumption) (news_drop25 kN) ⟨?_, ?_, ?_, ?_, ?_⟩ ?l
  · k_get
  · exact lt_of_allK (by assumption) (by k_dflt k_mem)
  · exact lt_of_allK (by assumption) (by k_dflt k_mem)
  · assumption
  · exact lt_of_allK (by assumption) (by k_dflt k_mem)
  · assumption
  · rename (∀ p ∈ _ :: _ :: rest, _) => l9
    exact fun p hp => l9 p (.tail _ (.tail _ hp))
end
end TQSnew
end Mine
namespace Mine
section TQStore
open PySem PySem.W PyProof.Rows PySem.Spec PySem.Calls
open MineHd (hpK vwK hdT)
local macro_rules | `(tactic| k_all) => `(tactic| assumption)
local macro_rules | `(tactic| walk_at $s:str) => `(tactic| k_extra $s)
local macro_rules | `(tactic| k_get) => `(tactic| assumption)
local macro_rules | `(tactic| k_mem) => `(tactic| first | assumption | exact List.Mem.head _ | (refine List.mem_cons_of_mem _ ?_; k_mem))
local macro_rules | `(tactic| k_memK) => `(tactic| k_mem)
local macro_rules | `(tactic| k_room) => `(tactic| ktr_room)
theorem said_QStore_0 : True := by
  k_with_none
  k_with "call ref" => (k_here; refine wpAny_call ?_; k_dflt (refine' code_def ?k1 ?k2 ?k3 ?k4 ?k5 ?kA ?kF ?kK ?k6 ?k7 ?k8 ?k9 ?kB ?_ ?c2 ?c3 ?c4 ?c5; (case kA => exact rfl); (case kF => exact rfl); (case kK => first | exact rfl | assumption); (case k1 => k_asm); (case k2 => k_asm); (case k3 => k_asm); (case k4 => k_asm); (case k5 => k_asm); (case k6 => k_is); (case k7 => k_is); (case k8 => ktr_room); (case k9 => exact BindsTo.of_eq rfl); (case c5 => decide); (case kB => exact locs rfl); (case c2 => exact rfl); (case c3 => exact rfl); (case c4 => exact rfl); k_whole; intro g' L' h' FG' F' N' B' X' T'; (try dsimp only); (try k_lift B'); (try k_fold)))
  k_with "compareOp NotIn str ref" => (k_here; k_dflt (refine' kdg_notin (knd := PySem.strKind _ _) ?N ?m ?d ?lo (strKind_is _ _ _ _) true ?b ?_; (case N => k_asm); (case m => k_mem); (case d => assumption); (case lo => assumption); (case b => first | assumption | rfl); k_whole))
  k_with "subscriptTail" => (k_here; (with_reducible show wpAny _ _ (subscriptTail _ _ (Value.ref _) (Value.str _ _)) _ _ _); k_dflt (refine' kda_item (knd := PySem.strKind _ _) ?N ?m ?d (strKind_is _ _ _ _) ?v ?_; (case N => k_asm); (case m => k_mem); (case d => assumption); (case v => first | assumption | rfl); k_whole))
  k_with "subscriptTail Name Constant ref str" => (k_here; (with_reducible show wpAny _ _ (subscriptTail _ _ (Value.ref _) (Value.str _ _)) _ _ _); k_dflt (refine' kda_item (knd := PySem.strKind _ _) ?N ?m ?d (strKind_is _ _ _ _) ?v ?_; (case N => k_asm); (case m => k_mem); (case d => assumption); (case v => first | assumption | rfl); k_whole))
  trivial
section
variable {w : World} {A : Around} {E : Value → Shared → Prop} {s : Shared} {h₀ : Heap} {L d : Addr} {o : Obj} {news : List (Addr × Obj)} {kvs : List (Int × Value)} {k : Int} {tk : Tok} {dflt : Value}
theorem pop_method {pl : Sem Bool} {Q : Value × List Value → Shared → Prop} (N : News h₀ L s.heap news) (hp : (d, o) ∈ news) (hd : Obj.IsDictOf (PySem.intKind PR w) o kvs) (h : Q (.builtin "dict.pop", [.ref d]) s) : wpAny (model PR w) A (getMethod (.ref d) "pop" pl) Q E s :=
  have hD := kda_dict N hp hd
  getMethod_builtin hD.typeIs PySem.F.plainAttrs_dict PySem.F.slot_dict_pop PySem.F.type_dict_pop hD.mapOf.noDict h
theorem pop_default {Q : Value → Shared → Prop} (N : News h₀ L s.heap news) (hp : (d, o) ∈ news) (hd : Obj.IsDictOf (PySem.intKind PR w) o kvs) (lo : (d == sysModules) = false) (hl : PySem.valueAt kvs k = none) (h : Q dflt { s with toks := s.toks + 1 }) :
    wpAny (model PR w) A (call (.builtin "dict.pop") [.ref d, .int k tk, dflt]) Q E s :=
  have hD := kda_dict N hp hd
  call_meetsIn PySem.F.slot_dict_pop hD.typeIs PySem.F.entry_dict_pop (PySem.F.args_dict_pop_3 _ _ _) (meets_dict_pop_default _ d (intKind_is _ _ _ _) lo rfl dflt) ⟨kvs, hD, hl, h⟩
end
theorem said_QStore_1 : True := by
  k_with "getMethod ref" => (k_here; (with_reducible show wpAny _ _ (getMethod (Value.ref _) (PySem.Str.ofString "pop") _) _ _ _); k_dflt (refine' pop_method ?N ?m ?d ?_; (case N => k_asm); (case m => k_mem); (case d => assumption); k_whole))
  k_with "call builtin:dict.pop" => (k_here; k_dflt (refine' pop_default ?N ?m ?d ?lo ?l ?_; (case N => k_asm); (case m => k_mem); (case d => assumption); (case lo => assumption); (case l => rfl); k_whole))
  trivial
section
variable {PV : PySem.Program} {LZ : List PySem.Str} {w : World} {mean : ExcName → Option Value} {mg mb : PySem.Str → Option Value} (dp un : Nat) (gd : Option (List Code)) (cn : PySem.Str) (cs : Scope) (a : Addr) (ccd : Value) (cl : List (PySem.Str × Addr)) (outer : List Env) (A₀ : Around) (base h₀ : Heap) (L : Addr) (m : PySem.Str → Option Value) (s : Shared) (Q E : Value → Shared → Prop) (rest : List (Addr × Obj))
  (B : Below A₀ base outer h₀) (F : Fr h₀ L s.heap m) (X : (hpK w.params).In h₀) (T : Top PV LZ mean mg mb h₀) (hk : cs.kind = .function)
include B F X T hk
set_option maxHeartbeats 1500000 in
theorem store_spec (ctr cD sc scD pl em wk : Addr) (ces : List DictEntry) (c2 : Nat) (t0 t1 t2 t3 t4 t5 t6 t7 t8 t9 tx : Tok) (k : Int) (x : PySem.Str)
  (N : News h₀ L s.heap ((scD, dictOf [en w "number" t0 (.int k t8), en w "count" t1 (.int 1 t9), en w "blessed" t2 .none, en w "weak" t3 (.ref wk), en w "is_destroyed" t4 (.bool false), en w "is_freed" t5 (.bool false), en w "value" t6 .none, en w "magic" t7 .none] 8) :: rest))
  (hoff : ∀ p ∈ rest, p.1 ≠ scD) (m1 : (sc, instObj 105 scD) ∈ rest) (m2 : (ctr, instObj 421 cD) ∈ rest) (m3 : (cD, dictOf ces c2) ∈ rest) (plO emO : Obj) (m4 : (pl, plO) ∈ rest) (m5 : (em, emO) ∈ rest) (d4 : Obj.IsDictOf (PySem.intKind PR w) plO []) (d5 : Obj.IsDictOf (PySem.intKind PR w) emO []) (lo4 : (pl == sysModules) = false) (lo5 : (em == sysModules) = false)
  (e1 : getL "places" ces = some (some (.ref pl))) (e2 : getL "empties" ces = some (some (.ref em))) (e3 : getL "take" ces = some none) (e4 : getL "put_off" ces = some none)
  (hk0 : 0 ≤ k) (hk1 : k ≤ 100)
  (hdp : dp + 10 < recursionLimit) (hun : un + 300 < cLine)
  (ret : ∀ h' tk', Fr h₀ L h' m →
     News h₀ L h' ((scD, dictOf [en w "number" t0 (.int k t8), en w "count" t1 (.int 1 t9), en w "blessed" t2 .none, en w "weak" t3 (.ref wk), en w "is_destroyed" t4 (.bool false), en w "is_freed" t5 (.bool false), en w "value" t6 (.str x tx), en w "magic" t7 .none] 8) :: rest) → Q .none { s with heap := h', toks := tk' }) :
   wpAny (model PR w) (ktrTop dp un gd cn cs L a ccd cl outer) (call (.ref 383) [.ref ctr, .ref sc, .str x tx]) Q E s := by
  obtain ⟨hp, gns, drw, tks, osx⟩ := s
  dsimp only at F N ret ⊢
  k_steps
  all_goals (try dsimp only)
  rename News h₀ L _ _ => kN
  exact ret _ _ (by assumption) (newsTail kN)
end
end TQStore
end Mine
namespace Mine
section TQLed
open PySem PySem.W PyProof.Rows PySem.Spec PySem.Calls
open MineHd (hpK vwK hdT)
local macro_rules | `(tactic| k_all) => `(tactic| assumption)
theorem mem_drop {a d : Addr} {o o1 : Obj} {pre post : List (Addr × Obj)} (h : (a, o) ∈ pre ++ (d, o1) :: post) (hn : @Ne Nat a d) : (a, o) ∈ pre ++ post := by
  rcases List.mem_append.mp h with h | h
  · exact List.mem_append_left _ h
  · rcases List.mem_cons.mp h with h | h
    · exact absurd (Prod.mk.inj h).1 hn
    · exact List.mem_append_right _ h
theorem off_app {d : Addr} {pre post : List (Addr × Obj)} (h1 : ∀ p ∈ pre, p.1 ≠ d) (h2 : ∀ p ∈ post, p.1 ≠ d) : ∀ p ∈ pre ++ post, p.1 ≠ d := fun p hp => (List.mem_append.mp hp).elim (h1 p) (h2 p)
theorem news_back {h₀ h : Heap} {L d : Addr} {o : Obj} {pre post xs : List (Addr × Obj)} (N : News h₀ L h (xs ++ (d, o) :: (pre ++ post))) : News h₀ L h (xs ++ (pre ++ (d, o) :: post)) := fun p hp => by
  refine N p ?_
  simp only [List.mem_append, List.mem_cons] at hp ⊢
  rcases hp with h | h | h | h
  · exact .inl h
  · exact .inr (.inr (.inl h))
  · exact .inr (.inl h)
  · exact .inr (.inr (.inr h))
section
variable {PV : PySem.Program} {LZ : List PySem.Str} {w : World} {mean : ExcName → Option Value} {mg mb : PySem.Str → Option Value} (dp un : Nat) (gd : Option (List Code)) (cn : PySem.Str) (cs : Scope) (a : Addr) (ccd : Value) (cl : List (PySem.Str × Addr)) (outer : List Env) (A₀ : Around) (base h₀ : Heap) (L : Addr) (m : PySem.Str → Option Value) (s : Shared) (Q E : Value → Shared → Prop) (news : List (Addr × Obj))
  (B : Below A₀ base outer h₀) (F : Fr h₀ L s.heap m) (X : (hpK w.params).In h₀) (T : Top PV LZ mean mg mb h₀) (hk : cs.kind = .function)
include B F X T hk
theorem store_led (ctr cD sc scD pl em wk : Addr) (ces : List DictEntry) (c2 : Nat) (t0 t1 t2 t3 t4 t5 t6 t7 t8 t9 tx : Tok) (k : Int) (x : PySem.Str) (g : Obj → List (Addr × Obj)) (plO emO : Obj)
  (N : News h₀ L s.heap news)
  (U : UpdF scD (dictOf [en w "number" t0 (.int k t8), en w "count" t1 (.int 1 t9), en w "blessed" t2 .none, en w "weak" t3 (.ref wk), en w "is_destroyed" t4 (.bool false), en w "is_freed" t5 (.bool false), en w "value" t6 .none, en w "magic" t7 .none] 8) news g)
  (m1 : (sc, instObj 105 scD) ∈ news) (m2 : (ctr, instObj 421 cD) ∈ news) (m3 : (cD, dictOf ces c2) ∈ news) (m4 : (pl, plO) ∈ news) (m5 : (em, emO) ∈ news)
  (n1 : @Ne Nat sc scD) (n2 : @Ne Nat ctr scD) (n3 : @Ne Nat cD scD) (n4 : @Ne Nat pl scD) (n5 : @Ne Nat em scD)
  (d4 : Obj.IsDictOf (PySem.intKind PR w) plO []) (d5 : Obj.IsDictOf (PySem.intKind PR w) emO []) (lo4 : (pl == sysModules) = false) (lo5 : (em == sysModules) = false)
  (e1 : getL "places" ces = some (some (.ref pl))) (e2 : getL "empties" ces = some (some (.ref em))) (e3 : getL "take" ces = some none) (e4 : getL "put_off" ces = some none)
  (hk0 : 0 ≤ k) (hk1 : k ≤ 100)
  (hdp : dp + 10 < recursionLimit) (hun : un + 300 < cLine)
  (ret : ∀ h' tk', Fr h₀ L h' m →
     News h₀ L h' (g (dictOf [en w "number" t0 (.int k t8), en w "count" t1 (.int 1 t9), en w "blessed" t2 .none, en w "weak" t3 (.ref wk), en w "is_destroyed" t4 (.bool false), en w "is_freed" t5 (.bool false), en w "value" t6 (.str x tx), en w "magic" t7 .none] 8)) → Q .none { s with heap := h', toks := tk' }) :
   wpAny (model PR w) (ktrTop dp un gd cn cs L a ccd cl outer) (call (.ref 383) [.ref ctr, .ref sc, .str x tx]) Q E s := by
  obtain ⟨pre, post, rfl, hg, h1, h2⟩ := U.split
  refine store_spec dp un gd cn cs a ccd cl outer A₀ base h₀ L m s Q E (pre ++ post) B F X T hk ctr cD sc scD pl em wk ces c2 t0 t1 t2 t3 t4 t5 t6 t7 t8 t9 tx k x
    (newsSub N fun p hp => by
      rcases List.mem_cons.mp hp with rfl | hp
      · exact List.mem_append_right _ (.head _)
      · rcases List.mem_append.mp hp with hp | hp
        · exact List.mem_append_left _ hp
        · exact List.mem_append_right _ (.tail _ hp))
    (off_app h1 h2) (mem_drop m1 n1) (mem_drop m2 n2) (mem_drop m3 n3) plO emO (mem_drop m4 n4) (mem_drop m5 n5) d4 d5 lo4 lo5 e1 e2 e3 e4 hk0 hk1 hdp hun fun h' tk' F' N' => ret h' tk' F' ?_
  rw [hg]
  exact news_back (xs := []) N'
theorem snew_led (st stD hpA hpD gl lim z : Addr) (glO : Obj) (es : List DictEntry) (c2 : Nat) (t1 t2 t3 t4 : Tok) (k : Int) (kvs : List (PySem.Str × Value)) (name : PySem.Str) (tn : Tok) (g1 : Obj → List (Addr × Obj)) (g2 : Obj → Obj → List (Addr × Obj))
  (N : News h₀ L s.heap news)
  (U1 : UpdF hpD (dictOf [en w "limits" t1 (.ref lim), en w "last" t2 (.int k t3), en w "zero" t4 (.ref z)] 3) news g1) (U2 : ∀ o', UpdF gl glO (g1 o') (g2 o'))
  (m1 : (st, instObj 574 stD) ∈ news) (m2 : (stD, dictOf es c2) ∈ news) (m3 : (hpA, instObj 264 hpD) ∈ news)
  (n1 : @Ne Nat hpD gl) (n2 : @Ne Nat st hpD) (n3 : @Ne Nat stD hpD) (n4 : @Ne Nat hpA hpD) (n5 : @Ne Nat st gl) (n6 : @Ne Nat stD gl) (n7 : @Ne Nat hpA gl)
  (hd : Obj.IsDictOf (PySem.strKind PR w) glO kvs) (hno : PySem.valueAt kvs name = none) (hlo : (gl == sysModules) = false) (hkl : kvs.length ≤ 10)
  (e1 : getL "heap" es = some (some (.ref hpA))) (e2 : getL "globs" es = some (some (.ref gl))) (e3 : getL "glob_of" es = some none)
  (hk0 : 0 ≤ k) (hk1 : k ≤ 100)
  (hdp : dp + 10 < recursionLimit) (hun : un + 300 < cLine)
  (ret : ∀ sc scD g gD wk ges cg glO' t0 t1' t2' t3' t4' t5' t6' t7' t8' t9' tl h' tk', getL "scalar" ges = some (some (.ref sc)) → Obj.IsDictOf (PySem.strKind PR w) glO' (kvs ++ [(name, .ref g)]) → Fr h₀ L h' m →
     News h₀ L h' ((sc, instObj 105 scD) :: (scD, dictOf [en w "number" t0 (.int (k + 1 + 1) t8'), en w "count" t1' (.int 1 t9'), en w "blessed" t2' .none, en w "weak" t3' (.ref wk), en w "is_destroyed" t4' (.bool false), en w "is_freed" t5' (.bool false), en w "value" t6' .none, en w "magic" t7' .none] 8) :: (g, instObj 181 gD) :: (gD, dictOf ges cg) :: g2 (dictOf [en w "limits" t1 (.ref lim), en w "last" t2 (.int (k + 1 + 1) tl), en w "zero" t4 (.ref z)] 3) glO') →
     @LT.lt Nat _ gD g → @LT.lt Nat _ gD scD → @LT.lt Nat _ gD sc → @LT.lt Nat _ g scD → @LT.lt Nat _ g sc → @LT.lt Nat _ scD sc → (∀ p ∈ news, @LT.lt Nat _ p.1 gD) → (∀ p ∈ news, @LT.lt Nat _ p.1 g) → (∀ p ∈ news, @LT.lt Nat _ p.1 scD) → (∀ p ∈ news, @LT.lt Nat _ p.1 sc) → Q (.ref sc) { s with heap := h', toks := tk' }) :
   wpAny (model PR w) (ktrTop dp un gd cn cs L a ccd cl outer) (call (.ref 543) [.ref st, .str name tn]) Q E s := by
  obtain ⟨pre, post, rfl, hg, h1, h2⟩ := U1.split
  have hmem : (gl, glO) ∈ pre ++ (hpD, dictOf [en w "limits" t1 (.ref lim), en w "last" t2 (.int k t3), en w "zero" t4 (.ref z)] 3) :: post := by
    have U := U2 (dictOf [en w "limits" t1 (.ref lim), en w "last" t2 (.int k t3), en w "zero" t4 (.ref z)] 3)
    obtain ⟨p2, q2, e, _⟩ := U.split
    rw [hg] at e
    rw [e]
    exact List.mem_append_right _ (.head _)
  refine snew_spec dp un gd cn cs a ccd cl outer A₀ base h₀ L m s Q E ((pre ++ post).filter fun p => decide (p.1 ≠ gl)) B F X T hk st stD hpA hpD gl lim z glO es c2 t1 t2 t3 t4 k kvs name tn
    (newsSub N fun p hp => by
      rcases List.mem_cons.mp hp with rfl | hp
      · exact List.mem_append_right _ (.head _)
      · rcases List.mem_cons.mp hp with rfl | hp
        · exact hmem
        · have hp := (List.mem_filter.mp hp).1
          rcases List.mem_append.mp hp with hp | hp
          · exact List.mem_append_left _ hp
          · exact List.mem_append_right _ (.tail _ hp))
    (List.mem_filter.mpr ⟨mem_drop m1 n2, decide_eq_true n5⟩) (List.mem_filter.mpr ⟨mem_drop m2 n3, decide_eq_true n6⟩) (List.mem_filter.mpr ⟨mem_drop m3 n4, decide_eq_true n7⟩) n1
    (fun p hp => off_app h1 h2 p (List.mem_filter.mp hp).1) (fun p hp => of_decide_eq_true (List.mem_filter.mp hp).2) hd hno hlo hkl e1 e2 e3 hk0 hk1 hdp hun ?_
  intro sc scD g gD wk ges cg glO' t0 t1' t2' t3' t4' t5' t6' t7' t8' t9' tl h' tk' x1 x2 F' N' x3 x4
  have lt9 : ∀ p ∈ pre ++ (hpD, dictOf [en w "limits" t1 (.ref lim), en w "last" t2 (.int k t3), en w "zero" t4 (.ref z)] 3) :: post, @LT.lt Nat _ p.1 gD := by
    intro p hp
    by_cases hq : p.1 = gl
    · rw [hq]; exact x3.2.1
    · rcases List.mem_append.mp hp with hp | hp
      · exact x4 p (List.mem_filter.mpr ⟨List.mem_append_left _ hp, decide_eq_true hq⟩)
      · rcases List.mem_cons.mp hp with rfl | hp
        · exact x3.1
        · exact x4 p (List.mem_filter.mpr ⟨List.mem_append_right _ hp, decide_eq_true hq⟩)
  refine ret sc scD g gD wk ges cg glO' t0 t1' t2' t3' t4' t5' t6' t7' t8' t9' tl h' tk' x1 x2 F' (fun p hp => ?_) x3.2.2.1 (Nat.lt_trans x3.2.2.1 x3.2.2.2.1) (Nat.lt_trans x3.2.2.1 (Nat.lt_trans x3.2.2.2.1 x3.2.2.2.2)) x3.2.2.2.1 (Nat.lt_trans x3.2.2.2.1 x3.2.2.2.2) x3.2.2.2.2 lt9 (fun p hp => Nat.lt_trans (lt9 p hp) x3.2.2.1) (fun p hp => Nat.lt_trans (lt9 p hp) (Nat.lt_trans x3.2.2.1 x3.2.2.2.1)) (fun p hp => Nat.lt_trans (lt9 p hp) (Nat.lt_trans x3.2.2.1 (Nat.lt_trans x3.2.2.2.1 x3.2.2.2.2)))
  · obtain ⟨p2, q2, e, hg2, h3, h4⟩ := (U2 (dictOf [en w "limits" t1 (.ref lim), en w "last" t2 (.int (k + 1 + 1) tl), en w "zero" t4 (.ref z)] 3)).split
    rw [hg2] at hp
    rw [hg] at e
    refine N' p ?_
    rcases List.mem_cons.mp hp with rfl | hp
    · exact .head _
    refine .tail _ ?_
    rcases List.mem_cons.mp hp with rfl | hp
    · exact .head _
    refine .tail _ ?_
    rcases List.mem_cons.mp hp with rfl | hp
    · exact .head _
    refine .tail _ ?_
    rcases List.mem_cons.mp hp with rfl | hp
    · exact .head _
    refine .tail _ ?_
    have key : ∀ q ∈ p2 ++ (gl, glO) :: q2, q.1 ≠ gl → q ∈ (hpD, dictOf [en w "limits" t1 (.ref lim), en w "last" t2 (.int (k + 1 + 1) tl), en w "zero" t4 (.ref z)] 3) :: (gl, glO') :: (pre ++ post).filter fun p => decide (p.1 ≠ gl) := fun q hq hn => by
      rw [← e] at hq
      rcases List.mem_append.mp hq with hq | hq
      · exact .tail _ (.tail _ (List.mem_filter.mpr ⟨List.mem_append_left _ hq, decide_eq_true hn⟩))
      · rcases List.mem_cons.mp hq with rfl | hq
        · exact .head _
        · exact .tail _ (.tail _ (List.mem_filter.mpr ⟨List.mem_append_right _ hq, decide_eq_true hn⟩))
    rcases List.mem_append.mp hp with hp | hp
    · exact key p (List.mem_append_left _ hp) (h3 p hp)
    · rcases List.mem_cons.mp hp with rfl | hp
      · exact .tail _ (.head _)
      · exact key p (List.mem_append_right _ (.tail _ hp)) (h4 p hp)
end
end TQLed
end Mine
namespace Mine
section TQPlain
open PySem PySem.W PyProof.Rows PySem.Spec PySem.Calls
open MineHd (hpK vwK hdT)
local macro_rules | `(tactic| k_all) => `(tactic| assumption)
section
theorem okS_iff {x : PySem.Str} : OkS x ↔ ∀ c ∈ x.cps.toList, c < 0x110000 := by
  unfold OkS PyData.strOk
  rw [← Array.all_toList, List.all_eq_true]
  simp only [decide_eq_true_eq]
theorem okS_app {a b : PySem.Str} (ha : OkS a) (hb : OkS b) : OkS (a ++ b) := by
  rw [okS_iff] at *
  intro c hc
  have e : (a ++ b).cps = a.cps ++ b.cps := rfl
  rw [e, Array.toList_append] at hc
  rcases List.mem_append.mp hc with h | h
  · exact ha c h
  · exact hb c h
theorem join_nil (be : PySem.Str) : Txt.join be [] = PySem.Str.empty := by
  show PySem.Builtin.Str.glued be [] = _
  rw [StrLaws.glued_eq_join]; rfl
theorem join_one (be t : PySem.Str) : Txt.join be [t] = t := by
  show PySem.Builtin.Str.glued be [t] = _
  rw [StrLaws.glued_eq_join]; rfl
theorem join_more (be t u : PySem.Str) (r : List PySem.Str) : Txt.join be (t :: u :: r) = t ++ be ++ Txt.join be (u :: r) := by
  show PySem.Builtin.Str.glued be (t :: u :: r) = t ++ be ++ PySem.Builtin.Str.glued be (u :: r)
  rw [StrLaws.glued_eq_join, StrLaws.glued_eq_join]; rfl
theorem okS_empty : OkS PySem.Str.empty := by unfold OkS; decide +kernel
theorem okS_join {be : PySem.Str} (hb : OkS be) : ∀ {ts : List PySem.Str}, (∀ t ∈ ts, OkS t) → OkS (Txt.join be ts)
  | [], _ => by rw [join_nil]; exact okS_empty
  | [t], h => by rw [join_one]; exact h t (.head _)
  | t :: u :: r, h => by
    rw [join_more]
    exact okS_app (okS_app (h t (.head _)) hb) (okS_join hb fun x hx => h x (.tail _ hx))
theorem len_empty : PySem.Str.empty.length = 0 := rfl
theorem join_len_sum : ∀ (ts : List PySem.Str), (Txt.join PySem.Str.empty ts).length = (ts.map (·.length)).sum
  | [] => by rw [join_nil]; rfl
  | [t] => by rw [join_one]; simp
  | t :: u :: r => by
    rw [join_more, PySem.Str.length_append, PySem.Str.length_append, len_empty, join_len_sum (u :: r)]
    simp
def RowsN (n : Nat) (rows : List PySem.Str) : Prop := rows.length ≤ 1000 ∧ (rows.map (·.length)).sum ≤ n ∧ ∀ z ∈ rows, OkS z
theorem RowsN.ok {n : Nat} {rows : List PySem.Str} (h : RowsN n rows) (hn : n ≤ 1000000) : RowsOk rows := ⟨h.1, Nat.le_trans h.2.1 hn, h.2.2⟩
theorem RowsN.mono {n k : Nat} {rows : List PySem.Str} (h : RowsN n rows) (hn : n ≤ k) : RowsN k rows := ⟨h.1, Nat.le_trans h.2.1 hn, h.2.2⟩
theorem putR_rows {T : Int} {n : Nat} {rows rows' : List PySem.Str} {x : PySem.Str} (h : RowsN n rows) (hx : x.length ≤ 1000) (hok : OkS x) (e : putR T rows x = some rows') : RowsN (n + 1000) rows' := by
  obtain ⟨h1, h2, h3⟩ := h
  unfold putR at e
  split at e
  · cases e
    exact ⟨by simp, by simp only [List.map_cons, List.map_nil, List.sum_cons, List.sum_nil]; omega, fun z hz => by rw [List.mem_singleton.mp hz]; exact hok⟩
  · rename_i r rs
    have hs : (((r :: rs) ++ [x]).map (·.length)).sum ≤ n + 1000 := by
      simp only [List.map_append, List.sum_append, List.map_cons, List.map_nil, List.sum_cons, List.sum_nil] at h2 ⊢
      omega
    have ho : ∀ z ∈ (r :: rs) ++ [x], OkS z := fun z hz => by
      rcases List.mem_append.mp hz with hz | hz
      · exact h3 z hz
      · rw [List.mem_singleton.mp hz]; exact hok
    split at e
    · cases e
    · split at e
      · cases e
        refine ⟨by simp, ?_, fun z hz => ?_⟩
        · simp only [List.map_cons, List.map_nil, List.sum_cons, List.sum_nil, Nat.add_zero]
          rw [join_len_sum]; exact hs
        · rw [List.mem_singleton.mp hz]; exact okS_join okS_empty ho
      · rename_i hc
        cases e
        exact ⟨by omega, hs, ho⟩
def wordsL : List PySem.Str := [PySem.Str.ofString "abc", PySem.Str.ofString "d\n", PySem.Str.ofString "", PySem.Str.ofString "efghijklmnopqrstuvw"]
def errsL : List PySem.Str := [PySem.Str.ofString "", PySem.Str.ofString "no", PySem.Str.ofString "a very bad day behind it"]
def betL : List PySem.Str := [PySem.Str.ofString "", PySem.Str.ofString "-"]
def endL : List PySem.Str := [PySem.Str.ofString "", PySem.Str.ofString "!"]
theorem words_f {t : PySem.Str} (h : t ∈ wordsL) : t.length ≤ 19 ∧ OkS t := by
  simp only [wordsL, List.mem_cons, List.not_mem_nil, or_false] at h
  unfold OkS
  rcases h with rfl | rfl | rfl | rfl <;> exact ⟨by decide +kernel, by decide +kernel⟩
theorem errs_f {t : PySem.Str} (h : t ∈ errsL) : t.length ≤ 24 ∧ OkS t := by
  simp only [errsL, List.mem_cons, List.not_mem_nil, or_false] at h
  unfold OkS
  rcases h with rfl | rfl | rfl <;> exact ⟨by decide +kernel, by decide +kernel⟩
theorem bet_f {t : PySem.Str} (h : t ∈ betL) : t.length ≤ 1 ∧ OkS t := by
  simp only [betL, List.mem_cons, List.not_mem_nil, or_false] at h
  unfold OkS
  rcases h with rfl | rfl <;> exact ⟨by decide +kernel, by decide +kernel⟩
theorem end_f {t : PySem.Str} (h : t ∈ endL) : t.length ≤ 1 ∧ OkS t := by
  simp only [endL, List.mem_cons, List.not_mem_nil, or_false] at h
  unfold OkS
  rcases h with rfl | rfl <;> exact ⟨by decide +kernel, by decide +kernel⟩
theorem empty_is : PySem.Str.ofString "" = PySem.Str.empty := by decide +kernel
theorem printR_rows {T : Int} {n : Nat} {be en : PySem.Str} {rows rows' ts : List PySem.Str} (h : RowsN n rows) (hT : T ≤ 40) (hbe : be ∈ betL) (hen : en ∈ endL) (hts : ∀ t ∈ ts, t ∈ wordsL) (e : printR T be en rows ts = .ok rows') : RowsN (n + 1000) rows' := by
  unfold printR at e
  split at e
  · cases e
  · split at e
    · cases e
    · rename_i hc _ hp
      cases e
      refine putR_rows h ?_ (okS_app (okS_join (bet_f hbe).2 fun t ht => (words_f (hts t ht)).2) (end_f hen).2) hp
      rw [PySem.Str.length_append]
      have := (end_f hen).1
      omega
theorem msgR_ok {T : Int} {er x tail dft : PySem.Str} {ts : List PySem.Str} (her : er ∈ errsL) (hts : ∀ t ∈ ts, t ∈ wordsL) (ht : OkS tail) (hd : OkS dft) (e : msgR T er ts tail dft = .ok x) : OkS x := by
  unfold msgR at e
  split at e
  · cases e
  · split at e
    · cases e
      rw [empty_is]
      exact okS_join okS_empty fun t ht => (words_f (hts t ht)).2
    · split at e
      · cases e; exact hd
      · split at e
        · cases e
        · cases e; exact okS_app (errs_f her).2 ht
theorem okS_of (s : String) (h : PyData.strOk (PySem.Str.ofString s) = true := by decide +kernel) : OkS (PySem.Str.ofString s) := h
theorem lineR_ok {x : PySem.Str} (h : OkS x) : OkS (lineR x) := by
  unfold lineR
  split
  · exact okS_app (okS_app (okS_app h (okS_of _)) (okS_of _)) (okS_of _)
  · exact h
theorem warnR_rows {T : Int} {n : Nat} {er : PySem.Str} {rows rows' ts : List PySem.Str} (h : RowsN n rows) (hT : T ≤ 40) (her : er ∈ errsL) (hts : ∀ t ∈ ts, t ∈ wordsL) (e : warnR T er rows ts = .ok rows') : RowsN (n + 1000) rows' := by
  unfold warnR at e
  split at e
  · cases e
  · rename_i x hx
    split at e
    · cases e
    · rename_i r hr
      cases e
      exact putR_rows h (lineMsg_len hx hT (by decide +kernel)) (lineR_ok (msgR_ok her hts (okS_of _) (okS_of _) hx)) hr
theorem heard_oom : heardR (PySem.Str.ofString "Out of memory") = PySem.Str.ofString "refused" := heardR_t (by decide +kernel)
theorem heard_oom2 : heardR (PySem.Str.ofString "Out of memory!") = PySem.Str.ofString "refused" := heardR_t (by decide +kernel)
theorem msgR_no_heard {T : Int} {er x tail dft : PySem.Str} {ts : List PySem.Str} (e : msgR T er ts tail dft = .no x) : heardR x = PySem.Str.ofString "refused" ∧ x.length ≤ 1000 := by
  unfold msgR at e
  split at e
  · cases e; exact ⟨heard_oom, by decide +kernel⟩
  · split at e
    · cases e
    · split at e
      · cases e
      · split at e
        · cases e; exact ⟨heard_oom2, by decide +kernel⟩
        · cases e
theorem printR_no_heard {T : Int} {be en x : PySem.Str} {rows ts : List PySem.Str} (e : printR T be en rows ts = .no x) : heardR x = PySem.Str.ofString "refused" ∧ x.length ≤ 1000 := by
  unfold printR at e
  split at e
  · cases e; exact ⟨heard_oom, by decide +kernel⟩
  · split at e
    · cases e; exact ⟨heard_oom2, by decide +kernel⟩
    · cases e
theorem warnR_no_heard {T : Int} {er x : PySem.Str} {rows ts : List PySem.Str} (e : warnR T er rows ts = .no x) : heardR x = PySem.Str.ofString "refused" ∧ x.length ≤ 1000 := by
  unfold warnR at e
  split at e
  · rename_i y hy; cases e; exact msgR_no_heard hy
  · split at e
    · cases e; exact ⟨heard_oom2, by decide +kernel⟩
    · cases e
end
def notOut (x : PySem.Str) : Bool := !(Txt.slice x none (some 13) == PySem.Str.ofString "Out of memory")
theorem heard_notOut {x : PySem.Str} (h : notOut x = true) : heardR x = x := heardR_f (by unfold notOut at h; simpa using h)
theorem all3 (P : List PySem.Str → Bool) (h0 : P [] = true) (h1 : (wordsL.all fun a => P [a]) = true) (h2 : (wordsL.all fun a => wordsL.all fun b => P [a, b]) = true) (h3 : (wordsL.all fun a => wordsL.all fun b => wordsL.all fun c => P [a, b, c]) = true) :
    ∀ {ts : List PySem.Str}, ts.length ≤ 3 → (∀ t ∈ ts, t ∈ wordsL) → P ts = true
  | [], _, _ => h0
  | [a], _, h => List.all_eq_true.mp h1 a (h a (.head _))
  | [a, b], _, h => List.all_eq_true.mp (List.all_eq_true.mp h2 a (h a (.head _))) b (h b (.tail _ (.head _)))
  | [a, b, c], _, h => List.all_eq_true.mp (List.all_eq_true.mp (List.all_eq_true.mp h3 a (h a (.head _))) b (h b (.tail _ (.head _)))) c (h c (.tail _ (.tail _ (.head _))))
  | _ :: _ :: _ :: _ :: _, h, _ => by simp only [List.length_cons] at h; omega
theorem join_notOut {ts : List PySem.Str} (hn : ts.length ≤ 3) (h : ∀ t ∈ ts, t ∈ wordsL) : notOut (Txt.join (PySem.Str.ofString "") ts) = true :=
  all3 (fun ts => notOut (Txt.join (PySem.Str.ofString "") ts)) (by decide +kernel) (by decide +kernel) (by decide +kernel) (by decide +kernel) hn h
theorem err_notOut {er : PySem.Str} (h : er ∈ errsL) : notOut (er ++ PySem.Str.ofString "\t...propagated") = true := by
  simp only [errsL, List.mem_cons, List.not_mem_nil, or_false] at h
  rcases h with rfl | rfl | rfl <;> decide +kernel
theorem die_ok_heard {T : Int} {er x : PySem.Str} {ts : List PySem.Str} (hT : T ≤ 40) (hn : ts.length ≤ 3) (her : er ∈ errsL) (hts : ∀ t ∈ ts, t ∈ wordsL) (e : msgR T er ts (PySem.Str.ofString "\t...propagated") (PySem.Str.ofString "Died") = .ok x) : heardR x = x ∧ x.length ≤ 1000 := by
  have hl := msgR_len e hT (by decide +kernel)
  refine ⟨?_, hl⟩
  unfold msgR at e
  split at e
  · cases e
  · split at e
    · cases e; exact heard_notOut (join_notOut hn hts)
    · split at e
      · cases e; exact heard_notOut (by decide +kernel)
      · split at e
        · cases e
        · cases e; exact heard_notOut (err_notOut her)
theorem dieR_heard {T : Int} {er : PySem.Str} {ts : List PySem.Str} (hT : T ≤ 40) (hn : ts.length ≤ 3) (her : er ∈ errsL) (hts : ∀ t ∈ ts, t ∈ wordsL) : (dieR T er ts).length ≤ 1000 := by
  unfold dieR
  split
  · rename_i x hx; exact (msgR_no_heard hx).2
  · rename_i x hx; exact (die_ok_heard hT hn her hts hx).2
theorem dieR_ok_heard {T : Int} {er x : PySem.Str} {ts : List PySem.Str} (hT : T ≤ 40) (hn : ts.length ≤ 3) (her : er ∈ errsL) (hts : ∀ t ∈ ts, t ∈ wordsL) (e : msgR T er ts (PySem.Str.ofString "\t...propagated") (PySem.Str.ofString "Died") = .ok x) : heardR (dieR T er ts) = x := by
  rw [dieR_ok e]; exact (die_ok_heard hT hn her hts e).1
theorem dieR_no_heard {T : Int} {er x : PySem.Str} {ts : List PySem.Str} (e : msgR T er ts (PySem.Str.ofString "\t...propagated") (PySem.Str.ofString "Died") = .no x) : heardR (dieR T er ts) = PySem.Str.ofString "refused" := by
  rw [dieR_no e]; exact (msgR_no_heard e).1
end TQPlain
end Mine
namespace Mine
section TQLaw1
open PySem PySem.W PyProof.Rows PySem.Spec PySem.Calls
open MineHd (hpK vwK hdT)
local macro_rules | `(tactic| k_all) => `(tactic| assumption)
open PyProof.V PySem.SeqAt
theorem words_at {w : World} {h : Heap} (X : (hpK w.params).In h) : ∃ vs, h.IsList 579 vs.toArray ∧ PyProof.Rows.StrsAre vs wordsL :=
  ⟨_, ⟨_, X 579 _ rfl, rfl, _, rfl⟩, .cons _ _ (.cons _ _ (.cons _ _ (.cons _ _ .nil)))⟩
section
variable {prog : Program} {w : World} {A : Around} {E : Value → Shared → Prop} {s : Shared} {value slice : PySem.Expr} {l : Addr} {k : Int} {u : Tok} {vs : List Value} {ws : List PySem.Str} {Q : Value → Shared → Prop}
theorem item_mem (hl : s.heap.IsList l vs.toArray) (hv : PyProof.Rows.StrsAre vs ws) (h0 : 0 ≤ k) (h1 : k < (ws.length : Int)) (hw : ws.length ≤ 1000) (h : ∀ x t, x ∈ ws → Q (.str x t) s)
    (hs : subscripted slice false (.ref l) (.int k u) = operate [.ref l, .int k u] (getItem (.ref l) (.int k u)) := by with_unfolding_all rfl) :
    wpAny (model prog w) A (subscriptTail value slice (.ref l) (.int k u)) Q E s := by
  have hlen := strsAre_length hv
  have hlt : k.toNat < vs.length := by omega
  obtain ⟨y, t, h2, h3⟩ := strsAre_at hv k.toNat vs[k.toNat] (by simp [hlt])
  have hx : vs.toArray[k.toNat]? = some (.str y t) := by rw [← h3]; simp [hlt]
  exact tail_any hl.typeIs slot_list_getitem.lookup (wpAny_getItem_list hl h0 (by omega) hx (h y t (List.mem_of_getElem? h2))) hs
theorem item_int (lo hi : Int) (hl : s.heap.IsList l vs.toArray) (hv : ∀ v ∈ vs, ∃ n t, v = Value.int n t ∧ lo ≤ n ∧ n ≤ hi) (h0 : 0 ≤ k) (h1 : k < (vs.length : Int)) (hw : vs.length ≤ 1000) (h : ∀ n t, lo ≤ n → n ≤ hi → Q (.int n t) s)
    (hs : subscripted slice false (.ref l) (.int k u) = operate [.ref l, .int k u] (getItem (.ref l) (.int k u)) := by with_unfolding_all rfl) :
    wpAny (model prog w) A (subscriptTail value slice (.ref l) (.int k u)) Q E s := by
  have hlt : k.toNat < vs.length := by omega
  obtain ⟨n, t, h2, h3, h4⟩ := hv vs[k.toNat] (List.getElem_mem hlt)
  have hx : vs.toArray[k.toNat]? = some (.int n t) := by rw [← h2]; simp [hlt]
  exact tail_any hl.typeIs slot_list_getitem.lookup (wpAny_getItem_list hl h0 (by omega) hx (h n t h3 h4)) hs
end
/-- what was said of a reckoning: kept apart from plain equations -/
structure Said {α : Type} (a b : α) : Prop where
  eq : a = b
theorem said_no {α : Type} {a : Res α} {x : α} {y : PySem.Str} (h : Said a (.no y)) (h' : a = .ok x) : False := by rw [h.eq] at h'; cases h'
theorem said_ok {α : Type} {a : Res α} {x : α} {y : PySem.Str} (h : Said a (.ok x)) (h' : a = .no y) : False := by rw [h.eq] at h'; cases h'
theorem said_eq {α : Type} {a : Res α} {x y : α} (h : Said a (.ok x)) (h' : a = .ok y) : x = y := by rw [h.eq] at h'; cases h'; rfl
section
variable {prog : Program} {w : World} {A : Around} {E : Value → Shared → Prop} {s : Shared} {h₀ : Heap} {L : Addr} {news : List (Addr × Obj)} {a b : Addr} {Q : Value → Shared → Prop}
theorem reads_tup {h : Heap} {ds : List PyData} {vs : List Value} {as : List Addr} (N : News h₀ L h news) (hm : (a, tupO vs) ∈ news) (hr : ReadsAll h vs ds as) : Reads h (.ref a) (.tuple ds) as :=
  Reads.tuple (n := 0) (N _ hm).1 rfl rfl hr
theorem ne_ss {x y : PySem.Str} {t t2 t' t2' : Tok} (N : News h₀ L s.heap news) (ha : (a, tupO [.str x t, .str y t2]) ∈ news) (hb : (b, tupO [.str x t', .str y t2']) ∈ news) (hx : OkS x) (hy : OkS y) (hu : A.units + 64 < cLine)
    (h : Q (.bool false) s) : wpAny (model prog w) A (compareOp .NotEq (.ref a) (.ref b)) Q E s := by
  refine ne_dataH_same (reads_tup N ha (.cons (.str _ _) (.cons (.str _ _) .nil))) (reads_tup N hb (.cons (.str _ _) (.cons (.str _ _) .nil))) ?_ ?_ hu ?_ ?_
  · show (PyData.canLay0 _ && decide _) = true
    rw [Bool.and_eq_true]
    unfold OkS at hx hy
    exact ⟨by simp [PyData.canLay0, PyData.canLayAll0, hx, hy], by simp [PyData.depth, PyData.depthAll]⟩
  · show (PyData.canLay0 _ && decide _) = true
    rw [Bool.and_eq_true]
    unfold OkS at hx hy
    exact ⟨by simp [PyData.canLay0, PyData.canLayAll0, hx, hy], by simp [PyData.depth, PyData.depthAll]⟩
  · simp [noMix, noMixAll]
  · simpa [PySem.Spec.same, PySem.Spec.sameAll] using h
theorem ne_si {x : PySem.Str} {k : Int} {t t2 t' t2' : Tok} (N : News h₀ L s.heap news) (ha : (a, tupO [.str x t, .int k t2]) ∈ news) (hb : (b, tupO [.str x t', .int k t2']) ∈ news) (hx : OkS x) (hu : A.units + 64 < cLine)
    (h : Q (.bool false) s) : wpAny (model prog w) A (compareOp .NotEq (.ref a) (.ref b)) Q E s := by
  refine ne_dataH_same (reads_tup N ha (.cons (.str _ _) (.cons (.int _ _) .nil))) (reads_tup N hb (.cons (.str _ _) (.cons (.int _ _) .nil))) ?_ ?_ hu ?_ ?_
  · show (PyData.canLay0 _ && decide _) = true
    rw [Bool.and_eq_true]
    unfold OkS at hx
    exact ⟨by simp [PyData.canLay0, PyData.canLayAll0, hx], by simp [PyData.depth, PyData.depthAll]⟩
  · show (PyData.canLay0 _ && decide _) = true
    rw [Bool.and_eq_true]
    unfold OkS at hx
    exact ⟨by simp [PyData.canLay0, PyData.canLayAll0, hx], by simp [PyData.depth, PyData.depthAll]⟩
  · simp [noMix, noMixAll]
  · simpa [PySem.Spec.same, PySem.Spec.sameAll] using h
theorem eq_ss {x y : PySem.Str} {t t2 t' t2' : Tok} (N : News h₀ L s.heap news) (ha : (a, tupO [.str x t, .str y t2]) ∈ news) (hb : (b, tupO [.str x t', .str y t2']) ∈ news) (hx : OkS x) (hy : OkS y) (hu : A.units + 64 < cLine)
    (h : Q (.bool true) s) : wpAny (model prog w) A (compareOp .Eq (.ref a) (.ref b)) Q E s := by
  refine eq_dataH_same (reads_tup N ha (.cons (.str _ _) (.cons (.str _ _) .nil))) (reads_tup N hb (.cons (.str _ _) (.cons (.str _ _) .nil))) ?_ ?_ hu ?_ ?_
  · show (PyData.canLay0 _ && decide _) = true
    rw [Bool.and_eq_true]
    unfold OkS at hx hy
    exact ⟨by simp [PyData.canLay0, PyData.canLayAll0, hx, hy], by simp [PyData.depth, PyData.depthAll]⟩
  · show (PyData.canLay0 _ && decide _) = true
    rw [Bool.and_eq_true]
    unfold OkS at hx hy
    exact ⟨by simp [PyData.canLay0, PyData.canLayAll0, hx, hy], by simp [PyData.depth, PyData.depthAll]⟩
  · simp [noMix, noMixAll]
  · simpa [PySem.Spec.same, PySem.Spec.sameAll] using h
theorem eq_si {x : PySem.Str} {k : Int} {t t2 t' t2' : Tok} (N : News h₀ L s.heap news) (ha : (a, tupO [.str x t, .int k t2]) ∈ news) (hb : (b, tupO [.str x t', .int k t2']) ∈ news) (hx : OkS x) (hu : A.units + 64 < cLine)
    (h : Q (.bool true) s) : wpAny (model prog w) A (compareOp .Eq (.ref a) (.ref b)) Q E s := by
  refine eq_dataH_same (reads_tup N ha (.cons (.str _ _) (.cons (.int _ _) .nil))) (reads_tup N hb (.cons (.str _ _) (.cons (.int _ _) .nil))) ?_ ?_ hu ?_ ?_
  · show (PyData.canLay0 _ && decide _) = true
    rw [Bool.and_eq_true]
    unfold OkS at hx
    exact ⟨by simp [PyData.canLay0, PyData.canLayAll0, hx], by simp [PyData.depth, PyData.depthAll]⟩
  · show (PyData.canLay0 _ && decide _) = true
    rw [Bool.and_eq_true]
    unfold OkS at hx
    exact ⟨by simp [PyData.canLay0, PyData.canLayAll0, hx], by simp [PyData.depth, PyData.depthAll]⟩
  · simp [noMix, noMixAll]
  · simpa [PySem.Spec.same, PySem.Spec.sameAll] using h
end
end TQLaw1
end Mine
namespace Mine
section TQLaw2
open PySem PySem.W PyProof.Rows PySem.Spec PySem.Calls
open MineHd (hpK vwK hdT)
local macro_rules | `(tactic| k_all) => `(tactic| assumption)
section
variable {prog : Program} {w : World} {A : Around} {E : Value → Shared → Prop} {s : Shared} {env : Env} {h₀ : Heap} {x : PySem.Str} {body : List Stmt} {Q : Flow → Shared → Prop}
def InvEndR (h₀ : Heap) (L I : Addr) (J : (PySem.Str → Option Value) → List (Addr × Obj) → Prop) (own : List (Addr × Obj)) (s₁ s₂ : Shared) : Prop :=
  ∃ h' tk m' news' nx, s₂ = { s₁ with heap := h', toks := tk } ∧ Fr h₀ L h' m' ∧ News h₀ L h' news' ∧ (∀ p ∈ nx, p ∈ news') ∧ (∀ p ∈ own, p ∈ news') ∧ (∀ p ∈ nx, p.1 ≠ I) ∧ J m' nx
def InvPostR (h₀ : Heap) (L I : Addr) (J : (PySem.Str → Option Value) → List (Addr × Obj) → Prop) (own : List (Addr × Obj)) (s₁ : Shared) (Q : Flow → Shared → Prop) (f : Flow) (s₂ : Shared) : Prop :=
  match f with
  | .ret v => Q (.ret v) s₂
  | .brk => Q .next s₂
  | _ => InvEndR h₀ L I J own s₁ s₂
theorem iter_rangeG {r : Addr} {a₀ b₀ : Int} {t₀ u₀ v₀ : Tok} {n : Nat} {m₀ : PySem.Str → Option Value} {news : List (Addr × Obj)} (J : Nat → (PySem.Str → Option Value) → List (Addr × Obj) → Prop)
    (hh : A.handled = none) (hr : IsRange s.heap r a₀ b₀ 1 t₀ u₀ v₀) (hsmall : Builtin.Range.small a₀ b₀ 1 = true) (hn : Builtin.Range.rangeSize a₀ b₀ 1 = (n : Int)) (F : Fr h₀ env.locals s.heap m₀) (N : News h₀ env.locals s.heap news) (hJ : J 0 m₀ news)
    (turn : ∀ i k t m₁ news₁ h tk own I oI, i < n → (I, oI) ∈ own → (∀ p ∈ own, p.1 = I) → (∀ p ∈ news₁, p.1 ≠ I) → J i m₁ news₁ → Fr h₀ env.locals h (fun y => if y = x then some (.int k t) else m₁ y) → News h₀ env.locals h (news₁ ++ own) →
      wpAny (model prog w) A (execs body env) (InvPostR h₀ env.locals I (J (i + 1)) own { s with heap := h, toks := tk } Q) E { s with heap := h, toks := tk })
    (done : ∀ m₁ nx h tk, J n m₁ nx → Fr h₀ env.locals h m₁ → News h₀ env.locals h nx → Q .next { s with heap := h, toks := tk }) :
    wpAny (model prog w) A (pyIter (.ref r)) (fun it s₂ => LoopAtV prog w A h₀ env x body Q E it s₂) E s := by
  refine wpAny_pyIter_range hr hsmall ?_
  have W : Walks prog w A s.heap.objs.size [s.heap.objs.size] [s.heap.objs.size] n (fun i v => i < n ∧ ∃ t, v = .int (a₀ + i * 1) t)
      (fun i h => IsRangeIter h s.heap.objs.size (a₀ + (i : Nat) * 1) ((n : Int) - (i : Nat)) 1) := (Walks.range hh _ a₀ 1 n).bound
  have hI0 : h₀.get? s.heap.objs.size = none := next_is_new F
  refine ⟨s.heap.objs.size, _, _, n, _, _, m₀, news, J, rfl, W, ?_, ?_, ?_, (by show IsRangeIter _ _ _ _ _; rw [hn]; simpa using Heap.get?_push_size _ rfl), F.push _, (fun p hp => ⟨Heap.get?_push_of_some _ (N p hp).1, (N p hp).2⟩), hJ, ?_, ?_⟩
  · intro hm
    exact absurd F.ns.lt ((List.mem_singleton.mp hm) ▸ Nat.lt_irrefl _)
  · intro b hb
    rw [List.mem_singleton.mp hb]
    exact hI0
  · intro p hp hI
    exact absurd (Heap.lt_size (N p hp).1) ((List.mem_singleton.mp hI) ▸ Nat.lt_irrefl _)
  · rintro i v m₁ news₁ s₁ own ⟨hh', tk', rfl⟩ hin hP hJ hoff hown _ hfp hst F₁ N₁
    obtain ⟨_, t, rfl⟩ := hP
    obtain ⟨oI, hoI⟩ : ∃ oI, hh'.get? s.heap.objs.size = some oI := ⟨_, hst⟩
    have hIown : (s.heap.objs.size, oI) ∈ own := hfp _ (List.mem_singleton.mpr rfl) hI0 _ hoI
    have N₂ : News h₀ env.locals hh' (news₁ ++ own) := fun p hp => N₁ p ((List.mem_append.mp hp).elim (fun h => List.mem_append.mpr (.inr h)) fun h => List.mem_append.mpr (.inl h))
    refine wpAny_mono (turn i _ t m₁ news₁ hh' tk' own _ oI hin hIown (fun p hp => List.mem_singleton.mp (hown p hp)) (fun p hp q => hoff p hp (List.mem_singleton.mpr q)) hJ F₁ N₂) (fun f s₂ p => ?_) fun _ _ e => e
    have fin : InvEndR h₀ env.locals s.heap.objs.size (J (i + 1)) own { s with heap := hh', toks := tk' } s₂ → LoopStepU h₀ env.locals [s.heap.objs.size] own (J (i + 1)) { s with heap := hh', toks := tk' } .next s₂ := by
      rintro ⟨h', tk, m', news', nx, e, F', N', hn, ho, ha, hm⟩
      exact ⟨rfl, h', tk, m', nx, e, F', fun p hp => N' p ((List.mem_append.mp hp).elim (ho p) (hn p)), fun p hp hq => ha p hp (List.mem_singleton.mp hq), hm⟩
    cases f with
    | ret v => exact .ret p
    | brk => exact .brk p
    | next => exact .next (fin p)
    | cont => exact .cont (fin p)
  · rintro h' tk m' news' F' N' _ hJ
    exact done m' news' h' tk hJ F' N'
end
/-- the law's code table: no code yet, or the loop's lambda's alone -/
def TabInv (l c : Nat) (qual : PySem.Str) (ps : Array Value) (news : List (Addr × Obj)) (ds : List Addr) : Prop :=
  ps = #[] ∨ ∃ c' oc vs t, ps = #[rawInt l, rawInt c, .ref c'] ∧ (c', oc) ∈ news ∧ oc.data = .fields vs ∧ vs[1]? = some (.str qual t) ∧ ∀ d ∈ ds, @Ne Nat c' d
section
variable {M : Model} {A : Around} {E : Value → Shared → Prop} {s : Shared} {h₀ : Heap} {L a c P : Addr} {m mg mb : PySem.Str → Option Value} {cn : PySem.Str} {cs : Scope} {ccd : Value} {cl : List (PySem.Str × Addr)} {news : List (Addr × Obj)} {g : Obj → List (Addr × Obj)}
  {p : Program} {loose : List PySem.Str} {mean : ExcName → Option Value} {name qual : PySem.Str} {params : Arguments} {body : PySem.Expr} {scope : Scope} {ps : Array Value} {pos : Pos} {firstLine : Nat} {clos : List (PySem.Str × Addr)} {ds : List Addr}
theorem lam_any {Q : Value → Shared → Prop} (F : Fr h₀ L s.heap m) (N : News h₀ L s.heap news) (T : Top p loose mean mg mb h₀) (C : CodeHd h₀ c P) (hcd : ccd = .ref c) (U : UpdF P (tabObj ps) news g) (hT : TabInv pos.line pos.col qual ps news ds) (hds : ∀ d ∈ ds, ∃ o, (d, o) ∈ news)
    (hcl : closureFor scope (envX cn cs L a ccd cl) = pure clos)
    (h : ∀ f c' oc vs t ctv ps' h' tk, Fr h₀ L h' m →
      News h₀ L h' ((f, kla_obj name qual params body scope clos ((mg "__name__").getD .none) c' ctv) :: (c', oc) :: g (tabObj ps')) →
      oc.data = .fields vs → vs[1]? = some (.str qual t) → ps' = #[rawInt pos.line, rawInt pos.col, .ref c'] → (∀ d ∈ ds, @Ne Nat c' d) → AllLt f news → @LT.lt Nat _ c' f → Q (.ref f) { s with heap := h', toks := tk }) :
    wpAny M A (makeFunction name qual params (.expr body) scope (envX cn cs L a ccd cl) [] [] [] pos firstLine) Q E s := by
  rcases hT with rfl | ⟨c', oc, vs, t, rfl, hm, hd, hv, hne⟩
  · refine kla_nest F N T C hcd U ?_ rfl hcl ?_
    · exact True.intro
    intro f c' oc vs t ctv h' tk F' N' hd hv l1 l2
    refine h f c' oc vs t ctv _ h' tk F' N' hd hv (by simp) (fun d hd => ?_) (allLt_of fun p hp => Nat.lt_trans (l1 p hp) l2) l2
    obtain ⟨o, ho⟩ := hds d hd
    exact Nat.ne_of_gt (l1 _ ho)
  · have hmem : (P, tabObj #[rawInt pos.line, rawInt pos.col, .ref c']) ∈ news := by
      obtain ⟨pre, post, e, _⟩ := U.split
      rw [e]; exact List.mem_append_right _ (.head _)
    refine kla_hit (c' := c') F N T C hcd hmem (by simp [TriplesOk, rawInt]) (by simp [codeAmong, rawInt]) hcl ?_
    intro f ctv h' tk F' N' l1
    obtain ⟨pre, post, rfl, hg, _, _⟩ := U.split
    refine h f c' oc vs t ctv _ h' tk F' (fun p hp => ?_) hd hv rfl hne (allLt_of l1) (l1 _ hm)
    rw [hg] at hp
    rcases List.mem_cons.mp hp with rfl | hp
    · exact N' _ (.head _)
    · rcases List.mem_cons.mp hp with rfl | hp
      · exact N' _ (.tail _ hm)
      · exact N' _ (.tail _ hp)
end
section
variable {PV : PySem.Program} {LZ : List PySem.Str} {w : World} {mean : ExcName → Option Value} {mg mb : PySem.Str → Option Value} (dp un : Nat) (gd : Option (List Code)) (cn : PySem.Str) (cs : Scope) (a : Addr) (ccd : Value) (cl : List (PySem.Str × Addr)) (outer : List Env) (A₀ : Around) (base h₀ : Heap) (L : Addr) (m : PySem.Str → Option Value) (s : Shared) (Q E : Value → Shared → Prop) (news : List (Addr × Obj)) (g : Obj → List (Addr × Obj))
  (B : Below A₀ base outer h₀) (F : Fr h₀ L s.heap m) (X : (hpK w.params).In h₀) (T : Top PV LZ mean mg mb h₀) (hk : cs.kind = .function)
omit B F X T hk in
theorem upd_sub {d : Addr} {o : Obj} (U : UpdF d o news g) : ∃ rest, (∀ p ∈ rest, p ∈ news) ∧ (∀ p ∈ rest, p.1 ≠ d) ∧ (d, o) ∈ news ∧ (∀ p ∈ news, p.1 ≠ d → p ∈ rest) ∧ ∀ (o' : Obj) (h₀ h : Heap) (L : Addr) (xs : List (Addr × Obj)), News h₀ L h (xs ++ (d, o') :: rest) → News h₀ L h (xs ++ g o') := by
  obtain ⟨pre, post, rfl, hg, h1, h2⟩ := U.split
  refine ⟨pre ++ post, fun p hp => ?_, off_app h1 h2, List.mem_append_right _ (.head _), fun p hp hn => ?_, fun o' h₀ h L xs N => ?_⟩
  · rcases List.mem_append.mp hp with hp | hp
    · exact List.mem_append_left _ hp
    · exact List.mem_append_right _ (.tail _ hp)
  · rcases List.mem_append.mp hp with hp | hp
    · exact List.mem_append_left _ hp
    · rcases List.mem_cons.mp hp with rfl | hp
      · exact absurd rfl hn
      · exact List.mem_append_right _ hp
  · rw [hg]; exact news_back N
include B F X T hk
theorem take_led (d l : Addr) (o : Obj) (g0 : Int) (tg : Tok) (vs : List Value) (ns : List Int) (c : Nat) (many : Int) (tk : Tok)
    (N : News h₀ L s.heap news) (U : UpdF d o news g) (m1 : (l, W.listOf vs.toArray c) ∈ news) (n1 : @Ne Nat l d)
    (ho : Obj.IsDictOf (PySem.strKind PR w) o [(PySem.Str.ofString "got", .int g0 tg), (PySem.Str.ofString "all", .ref l)])
    (hi : IntsAre vs ns) (hlen : ns.length ≤ 63) (hg : 0 ≤ g0) (hg2 : g0 < 2 ^ 40) (hm : 0 < many) (hm2 : many < 100)
    (hdp : dp + 1 < recursionLimit) (hun : un + 8 < cLine)
    (ret : ∀ r t h' tk' o' tg', 0 ≤ r → r < many → Fr h₀ L h' m → News h₀ L h' (g o') →
      Obj.IsDictOf (PySem.strKind PR w) o' [(PySem.Str.ofString "got", .int (g0 + 1) tg'), (PySem.Str.ofString "all", .ref l)] → Q (.int r t) { s with heap := h', toks := tk' }) :
    wpAny (model PR w) (ktrTop dp un gd cn cs L a ccd cl outer) (call (.ref 586) [.ref d, .int many tk]) Q E s := by
  obtain ⟨rest, h1, h2, h3, h4, h5⟩ := upd_sub news g U
  exact take_spec dp un gd cn cs a ccd cl outer A₀ base h₀ L m s Q E rest B F X T hk d l o g0 tg vs ns c many tk (newsSub N (List.forall_mem_cons.mpr ⟨h3, h1⟩)) (h4 _ m1 n1) ho h2 hi hlen hg hg2 hm hm2 hdp hun
    fun r t h' tk' o' tg' x1 x2 F' N' x3 => ret r t h' tk' o' tg' x1 x2 F' (h5 _ _ _ _ [] N') x3
theorem print_led (ro re : Addr) (us : List Value) (rows : List PySem.Str) (c c0 : Nat) (tx : Addr) (vs : List Value) (ts : List PySem.Str) (wt : Tok) (run : Addr) (be en er : PySem.Str) (TT : Int) (rr : List (Addr × Obj))
  (N : News h₀ L s.heap news) (U : UpdF ro (W.listOf us.toArray c) news g) (R : RunIs w rr run ro re be en er TT) (hrr : ∀ p ∈ rr, p ∈ news) (hro : ∀ p ∈ rr, p.1 ≠ ro)
  (m0 : (tx, W.listOf vs.toArray c0) ∈ news) (n0 : @Ne Nat tx ro) (hts : PyProof.Rows.StrsAre vs ts) (hn : ts.length ≤ 3) (hl : ∀ t ∈ ts, t ∈ wordsL)
  (hv : PyProof.Rows.StrsAre us rows) (hr : RowsOk rows)
  (hbe : be ∈ betL) (hen : en ∈ endL)
   (hTT : 0 ≤ TT ∧ TT ≤ 40)
   (hdp : dp + 12 < recursionLimit) (hun : un + 400 < cLine)
   (ret : ∀ rows' us' c' h' tk' t', Said (printR TT be en rows ts) (.ok rows') → PyProof.Rows.StrsAre us' rows' → Fr h₀ L h' m → News h₀ L h' (g (W.listOf us'.toArray c')) → Q (.int 1 t') { s with heap := h', toks := tk' })
   (rai : ∀ x e t g' h' tk', Said (printR TT be en rows ts) (.no x) → heardR x = PySem.Str.ofString "refused" → x.length ≤ 1000 → Fr h₀ L g' m → g'.UpToSlots h' → RaisedV base g' (envX cn cs L a ccd cl :: outer) e x t news h' → E (.ref e) { s with heap := h', toks := tk' }) :
   wpAny (model PR w) (ktrTop dp un gd cn cs L a ccd cl outer) (call (.ref 329) [.ref run, .ref tx, .int 1 wt]) Q E s := by
  obtain ⟨rest, h1, h2, h3, h4, h5⟩ := upd_sub news g U
  refine print_spec dp un gd cn cs a ccd cl outer A₀ base h₀ L m s Q E rest B F X T hk ro re us rows c c0 tx vs ts wt run be en er TT (newsSub N (List.forall_mem_cons.mpr ⟨h3, h1⟩)) h2 (R.mono fun p hp => h4 p (hrr p hp) (hro p hp)) (h4 _ m0 n0) hts hn (fun t ht => (words_f (hl t ht)).1) hv hr (bet_f hbe).1 (end_f hen).1 hTT hdp hun
    (fun rows' us' c' h' tk' t' x1 x2 F' N' => ret rows' us' c' h' tk' t' ⟨x1⟩ x2 F' (h5 _ _ _ _ [] N')) (fun x e t g' h' tk' x1 F' U' R' => rai x e t g' h' tk' ⟨x1⟩ (printR_no_heard x1).1 (printR_no_heard x1).2 F' U' (R'.sub fun q hq => ?_))
  by_cases hq2 : q.1 = ro
  · have e1 := N q hq
    have e2 := N _ h3
    obtain ⟨q1, q2⟩ := q
    dsimp only at hq2 e1
    subst hq2
    rw [e2.1] at e1
    rw [← Option.some.inj e1.1]
    exact .head _
  · exact .tail _ (h4 q hq hq2)
theorem warn_led (ro re : Addr) (us : List Value) (rows : List PySem.Str) (c c0 : Nat) (tx : Addr) (vs : List Value) (ts : List PySem.Str) (wt : Tok) (run : Addr) (be en er : PySem.Str) (TT : Int) (rr : List (Addr × Obj))
  (N : News h₀ L s.heap news) (U : UpdF re (W.listOf us.toArray c) news g) (R : RunIs w rr run ro re be en er TT) (hrr : ∀ p ∈ rr, p ∈ news) (hro : ∀ p ∈ rr, p.1 ≠ re)
  (m0 : (tx, W.listOf vs.toArray c0) ∈ news) (n0 : @Ne Nat tx re) (hts : PyProof.Rows.StrsAre vs ts) (hn : ts.length ≤ 3) (hl : ∀ t ∈ ts, t ∈ wordsL)
  (hv : PyProof.Rows.StrsAre us rows) (hr : RowsOk rows)
  (her : er ∈ errsL)
   (hTT : 0 ≤ TT ∧ TT ≤ 40)
   (hdp : dp + 16 < recursionLimit) (hun : un + 500 < cLine)
   (ret : ∀ rows' us' c' h' tk' t', Said (warnR TT er rows ts) (.ok rows') → PyProof.Rows.StrsAre us' rows' → Fr h₀ L h' m → News h₀ L h' (g (W.listOf us'.toArray c')) → Q (.int 1 t') { s with heap := h', toks := tk' })
   (rai : ∀ x e t g' h' tk', Said (warnR TT er rows ts) (.no x) → heardR x = PySem.Str.ofString "refused" → x.length ≤ 1000 → Fr h₀ L g' m → g'.UpToSlots h' → RaisedV base g' (envX cn cs L a ccd cl :: outer) e x t news h' → E (.ref e) { s with heap := h', toks := tk' }) :
   wpAny (model PR w) (ktrTop dp un gd cn cs L a ccd cl outer) (call (.ref 515) [.ref run, .ref tx, .int 1 wt]) Q E s := by
  obtain ⟨rest, h1, h2, h3, h4, h5⟩ := upd_sub news g U
  refine warn_spec dp un gd cn cs a ccd cl outer A₀ base h₀ L m s Q E rest B F X T hk ro re us rows c c0 tx vs ts wt run be en er TT (newsSub N (List.forall_mem_cons.mpr ⟨h3, h1⟩)) h2 (R.mono fun p hp => h4 p (hrr p hp) (hro p hp)) (h4 _ m0 n0) hts hn (fun t ht => (words_f (hl t ht)).1) hv hr (errs_f her).1 hTT hdp hun
    (fun rows' us' c' h' tk' t' x1 x2 F' N' => ret rows' us' c' h' tk' t' ⟨x1⟩ x2 F' (h5 _ _ _ _ [] N')) (fun x e t g' h' tk' x1 F' U' R' => rai x e t g' h' tk' ⟨x1⟩ (warnR_no_heard x1).1 (warnR_no_heard x1).2 F' U' (R'.sub fun q hq => ?_))
  by_cases hq2 : q.1 = re
  · have e1 := N q hq
    have e2 := N _ h3
    obtain ⟨q1, q2⟩ := q
    dsimp only at hq2 e1
    subst hq2
    rw [e2.1] at e1
    rw [← Option.some.inj e1.1]
    exact .head _
  · exact .tail _ (h4 q hq hq2)
end
end TQLaw2
end Mine
namespace Mine
section TQLaw3
open PySem PySem.W PyProof.Rows PySem.Spec PySem.Calls
open MineHd (hpK vwK hdT)
local macro_rules | `(tactic| k_all) => `(tactic| assumption)
open PyProof.V PySem.SeqAt
/-- two addresses are not the same: kept from omega's eyes -/
structure NeA (a b : Nat) : Prop where
  out : a ≠ b
theorem ne_of_all {K : List (Addr × Obj)} {a l : Nat} {o : Obj} (h : ∀ p ∈ K, @Ne Nat p.1 l) (hm : (a, o) ∈ K) : a ≠ l := h _ hm
theorem ne_of_off {K : List (Addr × Obj)} {a l : Nat} {o : Obj} (h : LCg.Off1 l K) (hm : (a, o) ∈ K) : a ≠ l := by
  induction K with
  | nil => cases hm
  | cons p r ih =>
    rcases List.mem_cons.mp hm with rfl | hm
    · exact h.1
    · exact ih h.2 hm
theorem range_ok {a r : Int} (h0 : 0 ≤ a) (ha : a ≤ 10) (hr0 : a ≤ r) (hr : r ≤ 100) : Builtin.Range.small a r 1 = true ∧ Builtin.Range.rangeSize a r 1 = (((r - a).toNat : Nat) : Int) := by
  refine ⟨?_, ?_⟩
  · exact small_one (by omega) (by omega) (by omega) (by omega)
  · unfold Builtin.Range.rangeSize
    rw [if_pos (by decide)]
    split <;> omega
section
variable {prog : Program} {w : World} {A : Around} {h₀ : Heap} {L : Addr} {m : PySem.Str → Option Value} {env : Env} {elt : PySem.Expr} {x : PySem.Str} {scope : Scope} {cl : List (PySem.Str × Addr)} {s : Shared} {Fin : List Value → List (Addr × Obj) → Prop} {gg : Obj → List (Addr × Obj)} {a : Int} {n : Nat}
/-- what the law's own tin holds -/
def TinIs (w : World) (o : Obj) (tl : Addr) (g : Int) : Prop := ∃ tg, Obj.IsDictOf (PySem.strKind PR w) o [(PySem.Str.ofString "got", .int g tg), (PySem.Str.ofString "all", .ref tl)]
theorem upd_addrs {d : Addr} {o : Obj} {news : List (Addr × Obj)} {g : Obj → List (Addr × Obj)} (U : UpdF d o news g) (o1 o2 : Obj) : (g o1).map (·.1) = (g o2).map (·.1) := by
  obtain ⟨pre, post, _, hg, _, _⟩ := U.split
  rw [hg, hg]; simp
theorem off3_same {I C D : Addr} {l1 l2 : List (Addr × Obj)} (e : l1.map (·.1) = l2.map (·.1)) (h : LCg.Off3 I C D l1) : LCg.Off3 I C D l2 := LCg.Off3.of fun p hp => by
  have : p.1 ∈ l1.map (·.1) := by rw [e]; exact List.mem_map.mpr ⟨p, hp, rfl⟩
  obtain ⟨q, hq, e2⟩ := List.mem_map.mp this
  rw [← e2]; exact h.mem q hq
theorem comp_words {tl td : Addr} {to : Obj} {news : List (Addr × Obj)} {g0 : Int} (U : UpdF td to news gg)
    (turn : ∀ (g' : Int) (o' : Obj) k t I oI C oC D m₂ ys h tk (E' : Value → Shared → Prop), LCg.NsObj oC m₂ → m₂ x = some (.int k t) → Fr h₀ L h m → News h₀ L h ((I, oI) :: (C, oC) :: (D, LCg.lst ys) :: gg o') → LCg.Off3 I C D (gg o') → ((@Ne Nat I C) ∧ (@Ne Nat I D) ∧ (@Ne Nat C D)) → (NeA I td ∧ NeA C td ∧ NeA D td) → TinIs w o' tl g' → g0 ≤ g' → g' ≤ g0 + n →
      wpAny (model prog w) A (eval elt (compEnvC scope cl C env)) (LCg.CompEnd h₀ L m { s with heap := h, toks := tk } I oI C oC D (LCg.lst ys) (fun _ => True) (fun y' news' => ∃ o'' xx tt, news' = gg o'' ∧ TinIs w o'' tl (g' + 1) ∧ y' = .str xx tt ∧ xx ∈ wordsL)) E' { s with heap := h, toks := tk })
    (fin : ∀ ys ts o' g', PyProof.Rows.StrsAre ys ts → ts.length = n → (∀ t ∈ ts, t ∈ wordsL) → TinIs w o' tl g' → g0 ≤ g' → g' ≤ g0 + n → Fin ys (gg o'))
    (h0 : TinIs w to tl g0) : LCg.CompRest prog w A h₀ L m env elt x scope cl s (fun _ => True) (fun i v => ∃ t, v = .int (a + (i : Int)) t) Fin n 0 [] news := by
  have key : ∀ (j i : Nat) (ys : List Value) (ts : List PySem.Str) (o' : Obj) (g' : Int), i + j = n → PyProof.Rows.StrsAre ys ts → ts.length = i → (∀ t ∈ ts, t ∈ wordsL) → TinIs w o' tl g' → g' = g0 + i →
      LCg.CompRest prog w A h₀ L m env elt x scope cl s (fun _ => True) (fun i v => ∃ t, v = .int (a + (i : Int)) t) Fin j i ys (gg o') := by
    intro j
    induction j with
    | zero =>
      intro i ys ts o' g' hij hy hl ht hT hg
      exact LCg.CompRest.zero (fin ys ts o' g' hy (by omega) ht hT (by omega) (by omega))
    | succ j ih =>
      intro i ys ts o' g' hij hy hl ht hT hg
      refine LCg.CompRest.succ ?_
      rintro v I oI C oC D m₂ h tk E' ⟨t, rfl⟩ hC hx F N off ne
      obtain ⟨pre, post, _, hgg, _, _⟩ := U.split
      have hm := off.mem (td, o') (by rw [hgg]; exact List.mem_append_right _ (.head _))
      refine wpAny_mono (turn g' o' _ t I oI C oC D m₂ ys h tk E' hC hx F N off ne ⟨⟨Ne.symm hm.1⟩, ⟨Ne.symm hm.2.1⟩, ⟨Ne.symm hm.2.2⟩⟩ hT (by omega) (by omega)) (fun y s₂ hq => ?_) fun _ _ e => e
      obtain ⟨h', tk', nw, e, F', N', off', hS, o'', xx, tt, rfl, hT', rfl, hxx⟩ := hq
      refine ⟨h', tk', gg o'', e, F', N', off', hS, ?_⟩
      exact ih (i + 1) _ (ts ++ [xx]) o'' (g' + 1) (by omega) (StrsAre.snoc hy _ _) (by simp [hl]) (fun z hz => by
        rcases List.mem_append.mp hz with hz | hz
        · exact ht z hz
        · rw [List.mem_singleton.mp hz]; exact hxx) hT' (by omega)
  have hnews : news = gg to := by obtain ⟨pre, post, e, hgg, _, _⟩ := U.split; rw [hgg, e]
  rw [hnews]
  exact key n 0 [] [] to g0 (by omega) .nil rfl (fun _ h => nomatch h) h0 (by simp)
end
section
variable {prog : Program} {w : World} {A : Around} {E : Value → Shared → Prop} {s : Shared} {value slice : PySem.Expr} {l : Addr} {k : Int} {u : Tok} {v0 v1 v2 : Value} {Q : Value → Shared → Prop}
theorem item_three (hl : s.heap.IsTuple l [v0, v1, v2].toArray) (h0 : 0 ≤ k) (h1 : k < 3) (q0 : k = 0 → Q v0 s) (q1 : k = 1 → Q v1 s) (q2 : k = 2 → Q v2 s)
    (hs : subscripted slice false (.ref l) (.int k u) = operate [.ref l, .int k u] (getItem (.ref l) (.int k u)) := by with_unfolding_all rfl) :
    wpAny (model prog w) A (subscriptTail value slice (.ref l) (.int k u)) Q E s := by
  have hk : k = 0 ∨ k = 1 ∨ k = 2 := by omega
  rcases hk with rfl | rfl | rfl
  · exact item_tupleT hl (by decide) (by decide) rfl rfl (q0 rfl) hs
  · exact item_tupleT hl (by decide) (by decide) rfl rfl (q1 rfl) hs
  · exact item_tupleT hl (by decide) (by decide) rfl rfl (q2 rfl) hs
end
section
variable {PV : PySem.Program} {LZ : List PySem.Str} {w : World} {mean : ExcName → Option Value} {mg mb : PySem.Str → Option Value} (dp un : Nat) (gd : Option (List Code)) (cn : PySem.Str) (cs : Scope) (a : Addr) (ccd : Value) (cl : List (PySem.Str × Addr)) (outer : List Env) (A₀ : Around) (base h₀ : Heap) (L : Addr) (m : PySem.Str → Option Value) (s : Shared) (Q E : Value → Shared → Prop) (news : List (Addr × Obj)) (g : Obj → List (Addr × Obj))
  (B : Below A₀ base outer h₀) (F : Fr h₀ L s.heap m) (X : (hpK w.params).In h₀) (T : Top PV LZ mean mg mb h₀) (hk : cs.kind = .function)
include B F X T hk
theorem takeT (d l : Addr) (o : Obj) (g0 : Int) (vs : List Value) (ns : List Int) (c : Nat) (many : Int) (tk : Tok)
    (N : News h₀ L s.heap news) (U : UpdF d o news g) (m1 : (l, W.listOf vs.toArray c) ∈ news) (n1 : @Ne Nat l d)
    (ho : TinIs w o l g0) (hi : IntsAre vs ns) (hlen : ns.length ≤ 63) (hg : 0 ≤ g0) (hg2 : g0 ≤ 10000) (hm : 0 < many) (hm2 : many < 100)
    (hdp : dp + 1 < recursionLimit) (hun : un + 8 < cLine)
    (ret : ∀ r t h' tk' o', 0 ≤ r → r < many → Fr h₀ L h' m → News h₀ L h' (g o') → TinIs w o' l (g0 + 1) → Q (.int r t) { s with heap := h', toks := tk' }) :
    wpAny (model PR w) (ktrTop dp un gd cn cs L a ccd cl outer) (call (.ref 586) [.ref d, .int many tk]) Q E s := by
  obtain ⟨tg, ho⟩ := ho
  exact take_led dp un gd cn cs a ccd cl outer A₀ base h₀ L m s Q E news g B F X T hk d l o g0 tg vs ns c many tk N U m1 n1 ho hi hlen hg (by omega) hm hm2 hdp hun fun r t h' tk' o' tg' x1 x2 F' N' x3 => ret r t h' tk' o' x1 x2 F' N' ⟨tg', x3⟩
theorem die_led (ro re : Addr) (c0 : Nat) (tx : Addr) (vs : List Value) (ts : List PySem.Str) (wt : Tok) (run : Addr) (be en er : PySem.Str) (TT : Int) (rr : List (Addr × Obj))
  (N : News h₀ L s.heap news) (R : RunIs w rr run ro re be en er TT) (hrr : ∀ p ∈ rr, p ∈ news)
  (m0 : (tx, W.listOf vs.toArray c0) ∈ news) (hts : PyProof.Rows.StrsAre vs ts) (hn : ts.length ≤ 3) (hl : ∀ t ∈ ts, t ∈ wordsL)
  (her : er ∈ errsL)
   (hTT : 0 ≤ TT ∧ TT ≤ 40)
   (hdp : dp + 16 < recursionLimit) (hun : un + 500 < cLine)
   (rai : ∀ x e t g' h' tk', Said (msgR TT er ts (PySem.Str.ofString "\t...propagated") (PySem.Str.ofString "Died")) (.ok x) → heardR x = x → OkS x → x.length ≤ 1000 → Fr h₀ L g' m → g'.UpToSlots h' → RaisedV base g' (envX cn cs L a ccd cl :: outer) e x t news h' → E (.ref e) { s with heap := h', toks := tk' })
   (raiN : ∀ x e t g' h' tk', Said (msgR TT er ts (PySem.Str.ofString "\t...propagated") (PySem.Str.ofString "Died")) (.no x) → heardR x = PySem.Str.ofString "refused" → x.length ≤ 1000 → Fr h₀ L g' m → g'.UpToSlots h' → RaisedV base g' (envX cn cs L a ccd cl :: outer) e x t news h' → E (.ref e) { s with heap := h', toks := tk' }) :
   wpAny (model PR w) (ktrTop dp un gd cn cs L a ccd cl outer) (call (.ref 508) [.ref run, .ref tx, .int 1 wt]) Q E s := by
  refine die_spec dp un gd cn cs a ccd cl outer A₀ base h₀ L m s Q E news B F X T hk ro re c0 tx vs ts wt run be en er TT N (R.mono hrr) m0 hts hn (fun t ht => (words_f (hl t ht)).1) (errs_f her).1 hTT hdp hun fun e t g' h' tk' F' U' R' => ?_
  cases hm : msgR TT er ts (PySem.Str.ofString "\t...propagated") (PySem.Str.ofString "Died") with
  | ok x =>
    rw [dieR_ok hm] at R'
    exact rai x e t g' h' tk' ⟨hm⟩ (die_ok_heard hTT.2 hn her hl hm).1 (msgR_ok her hl (okS_of _) (okS_of _) hm) (die_ok_heard hTT.2 hn her hl hm).2 F' U' R'
  | no x =>
    rw [dieR_no hm] at R'
    exact raiN x e t g' h' tk' ⟨hm⟩ (msgR_no_heard hm).1 (msgR_no_heard hm).2 F' U' R'
theorem due0_led (od tx : Addr) (oo : Obj) (TT : Int) (tt : Tok) (le : Addr) (be : PySem.Str) (tb : Tok) (en : PySem.Str) (te : Tok) (er : PySem.Str) (tr : Tok) (lo : Addr) (us : List Value) (rows : List PySem.Str) (c c0 : Nat) (vs : List Value) (ts : List PySem.Str) (t1 : Tok)
  (N : News h₀ L s.heap news) (U : UpdF od oo news g) (ho : OwnIs w oo TT tt le be tb en te er tr lo)
  (m0 : (lo, W.listOf us.toArray c) ∈ news) (n0 : @Ne Nat lo od) (hv : PyProof.Rows.StrsAre us rows) (hr : RowsOk rows)
  (m1 : (tx, W.listOf vs.toArray c0) ∈ news) (n1 : @Ne Nat tx od) (hts : PyProof.Rows.StrsAre vs ts) (hn : ts.length ≤ 3) (hl : ∀ t ∈ ts, t ∈ wordsL)
  (hbe : be ∈ betL) (hen : en ∈ endL) (her : er ∈ errsL)
   (hTT : 0 ≤ TT ∧ TT ≤ 40)
   (hdp : dp + 20 < recursionLimit) (hun : un + 600 < cLine)
   (ret : ∀ rows' us' c' oo' l' ta h' tk' t t2, printR TT be en rows ts = .ok rows' → PyProof.Rows.StrsAre us' rows' → Fr h₀ L h' m → OwnIs w oo' TT tt le be tb en te er tr l' → News h₀ L h' ((ta, tupO [.str (PySem.Str.ofString "gives") t, .int 1 t2]) :: (l', W.listOf us'.toArray c') :: g oo') → (∀ p ∈ news, @Ne Nat p.1 l') → Q (.ref ta) { s with heap := h', toks := tk' })
   (retN : ∀ x ta h' tk' t t2, printR TT be en rows ts = .no x → Fr h₀ L h' m → News h₀ L h' ((ta, tupO [.str (PySem.Str.ofString "dies") t, .str (PySem.Str.ofString "refused") t2]) :: g oo) → Q (.ref ta) { s with heap := h', toks := tk' }) :
   wpAny (model PR w) (ktrTop dp un gd cn cs L a ccd cl outer) (call (.ref 621) [.ref od, .int 0 t1, .ref tx]) Q E s := by
  obtain ⟨rest, h1, h2, h3, h4, h5⟩ := upd_sub news g U
  refine due0 dp un gd cn cs a ccd cl outer A₀ base h₀ L m s Q E rest B F X T hk od tx oo TT tt le be tb en te er tr lo us rows c c0 vs ts t1 (newsSub N (List.forall_mem_cons.mpr ⟨h3, h1⟩)) h2 ho (h4 _ m0 n0) hv hr (h4 _ m1 n1) hts hn (fun t ht => (words_f (hl t ht)).1) (bet_f hbe).1 (end_f hen).1 (errs_f her).1 hTT hdp hun
    (fun rows' us' c' oo' l' ta h' tk' t t2 x1 x2 F' x3 N' x4 => ret rows' us' c' oo' l' ta h' tk' t t2 x1 x2 F' x3 (h5 _ _ _ _ [_, _] N') (fun p hp => ?_)) (fun x ta h' tk' t t2 x1 F' N' => retN x ta h' tk' t t2 x1 F' (h5 _ _ _ _ [_] N'))
  by_cases hq : p.1 = od
  · rw [hq]; exact x4 (od, oo') (.head _)
  · exact x4 p (.tail _ (h4 p hp hq))
theorem due1_led (od tx : Addr) (oo : Obj) (TT : Int) (tt : Tok) (le : Addr) (be : PySem.Str) (tb : Tok) (en : PySem.Str) (te : Tok) (er : PySem.Str) (tr : Tok) (lo : Addr) (us : List Value) (rows : List PySem.Str) (c c0 : Nat) (vs : List Value) (ts : List PySem.Str) (t1 : Tok)
  (N : News h₀ L s.heap news) (U : UpdF od oo news g) (ho : OwnIs w oo TT tt le be tb en te er tr lo)
  (m0 : (le, W.listOf us.toArray c) ∈ news) (n0 : @Ne Nat le od) (hv : PyProof.Rows.StrsAre us rows) (hr : RowsOk rows)
  (m1 : (tx, W.listOf vs.toArray c0) ∈ news) (n1 : @Ne Nat tx od) (hts : PyProof.Rows.StrsAre vs ts) (hn : ts.length ≤ 3) (hl : ∀ t ∈ ts, t ∈ wordsL)
  (hbe : be ∈ betL) (hen : en ∈ endL) (her : er ∈ errsL)
   (hTT : 0 ≤ TT ∧ TT ≤ 40)
   (hdp : dp + 20 < recursionLimit) (hun : un + 600 < cLine)
   (ret : ∀ rows' us' c' oo' l' ta h' tk' t t2, warnR TT er rows ts = .ok rows' → PyProof.Rows.StrsAre us' rows' → Fr h₀ L h' m → OwnIs w oo' TT tt l' be tb en te er tr lo → News h₀ L h' ((ta, tupO [.str (PySem.Str.ofString "gives") t, .int 1 t2]) :: (l', W.listOf us'.toArray c') :: g oo') → (∀ p ∈ news, @Ne Nat p.1 l') → Q (.ref ta) { s with heap := h', toks := tk' })
   (retN : ∀ x ta h' tk' t t2, warnR TT er rows ts = .no x → Fr h₀ L h' m → News h₀ L h' ((ta, tupO [.str (PySem.Str.ofString "dies") t, .str (PySem.Str.ofString "refused") t2]) :: g oo) → Q (.ref ta) { s with heap := h', toks := tk' }) :
   wpAny (model PR w) (ktrTop dp un gd cn cs L a ccd cl outer) (call (.ref 621) [.ref od, .int 1 t1, .ref tx]) Q E s := by
  obtain ⟨rest, h1, h2, h3, h4, h5⟩ := upd_sub news g U
  refine due1 dp un gd cn cs a ccd cl outer A₀ base h₀ L m s Q E rest B F X T hk od tx oo TT tt le be tb en te er tr lo us rows c c0 vs ts t1 (newsSub N (List.forall_mem_cons.mpr ⟨h3, h1⟩)) h2 ho (h4 _ m0 n0) hv hr (h4 _ m1 n1) hts hn (fun t ht => (words_f (hl t ht)).1) (bet_f hbe).1 (end_f hen).1 (errs_f her).1 hTT hdp hun
    (fun rows' us' c' oo' l' ta h' tk' t t2 x1 x2 F' x3 N' x4 => ret rows' us' c' oo' l' ta h' tk' t t2 x1 x2 F' x3 (h5 _ _ _ _ [_, _] N') (fun p hp => ?_)) (fun x ta h' tk' t t2 x1 F' N' => retN x ta h' tk' t t2 x1 F' (h5 _ _ _ _ [_] N'))
  by_cases hq : p.1 = od
  · rw [hq]; exact x4 (od, oo') (.head _)
  · exact x4 p (.tail _ (h4 p hp hq))
theorem due2_led (od tx : Addr) (oo : Obj) (TT : Int) (tt : Tok) (le : Addr) (be : PySem.Str) (tb : Tok) (en : PySem.Str) (te : Tok) (er : PySem.Str) (tr : Tok) (lo : Addr) (us : List Value) (rows : List PySem.Str) (c c0 : Nat) (vs : List Value) (ts : List PySem.Str) (t1 : Tok)
  (N : News h₀ L s.heap news) (U : UpdF od oo news g) (ho : OwnIs w oo TT tt le be tb en te er tr lo)
  (m0 : (lo, W.listOf us.toArray c) ∈ news) (n0 : @Ne Nat lo od) (hv : PyProof.Rows.StrsAre us rows) (hr : RowsOk rows)
  (m1 : (tx, W.listOf vs.toArray c0) ∈ news) (n1 : @Ne Nat tx od) (hts : PyProof.Rows.StrsAre vs ts) (hn : ts.length ≤ 3) (hl : ∀ t ∈ ts, t ∈ wordsL)
  (hbe : be ∈ betL) (hen : en ∈ endL) (her : er ∈ errsL)
   (hTT : 0 ≤ TT ∧ TT ≤ 40)
   (hdp : dp + 20 < recursionLimit) (hun : un + 600 < cLine)
   (ret : ∀ x ta h' tk' t t2, msgR TT er ts (PySem.Str.ofString "\t...propagated") (PySem.Str.ofString "Died") = .ok x → Fr h₀ L h' m → News h₀ L h' ((ta, tupO [.str (PySem.Str.ofString "dies") t, .str x t2]) :: g oo) → Q (.ref ta) { s with heap := h', toks := tk' })
   (retN : ∀ x ta h' tk' t t2, msgR TT er ts (PySem.Str.ofString "\t...propagated") (PySem.Str.ofString "Died") = .no x → Fr h₀ L h' m → News h₀ L h' ((ta, tupO [.str (PySem.Str.ofString "dies") t, .str (PySem.Str.ofString "refused") t2]) :: g oo) → Q (.ref ta) { s with heap := h', toks := tk' }) :
   wpAny (model PR w) (ktrTop dp un gd cn cs L a ccd cl outer) (call (.ref 621) [.ref od, .int 2 t1, .ref tx]) Q E s := by
  obtain ⟨rest, h1, h2, h3, h4, h5⟩ := upd_sub news g U
  exact due2 dp un gd cn cs a ccd cl outer A₀ base h₀ L m s Q E rest B F X T hk od tx oo TT tt le be tb en te er tr lo us rows c c0 vs ts t1 (newsSub N (List.forall_mem_cons.mpr ⟨h3, h1⟩)) h2 ho (h4 _ m0 n0) hv hr (h4 _ m1 n1) hts hn (fun t ht => (words_f (hl t ht)).1) (bet_f hbe).1 (end_f hen).1 (errs_f her).1 hTT hdp hun
    (fun x ta h' tk' t t2 x1 F' N' => ret x ta h' tk' t t2 x1 F' (h5 _ _ _ _ [_] N')) (fun x ta h' tk' t t2 x1 F' N' => retN x ta h' tk' t t2 x1 F' (h5 _ _ _ _ [_] N'))
end
end TQLaw3
end Mine
namespace Mine
section TQRep
open PySem PySem.W PyProof.Rows PySem.Spec PySem.Calls
open MineHd (hpK vwK hdT)
local macro_rules | `(tactic| k_all) => `(tactic| assumption)
theorem foldl_rep (v : Value) : ∀ (n : Nat) (acc : Array Value), List.foldl (fun x1 x2 => x1 ++ x2) acc (List.replicate n #[v]) = acc ++ (List.replicate n v).toArray
  | 0, acc => by simp
  | n + 1, acc => by
    rw [List.replicate_succ, List.foldl_cons, foldl_rep v n]
    apply Array.ext'
    simp [List.replicate_succ]
theorem strs_rep (x : PySem.Str) (t : Tok) : ∀ n : Nat, PyProof.Rows.StrsAre (List.replicate n (Value.str x t)) (List.replicate n x)
  | 0 => .nil
  | n + 1 => by rw [List.replicate_succ, List.replicate_succ]; exact .cons _ _ (strs_rep x t n)
theorem rows_rep {x : PySem.Str} (h1 : x.length ≤ 4) (h2 : OkS x) {n : Nat} (hn : n ≤ 1000) : RowsN 5000 (List.replicate n x) := by
  refine ⟨by simpa using hn, ?_, fun z hz => by rw [(List.mem_replicate.mp hz).2]; exact h2⟩
  rw [List.map_replicate, List.sum_replicate_nat]
  have : n * x.length ≤ 1000 * 4 := Nat.mul_le_mul hn h1
  omega
theorem rep_one {w : World} {A : Around} {E : Value → Shared → Prop} {s : Shared} {h₀ : Heap} {L l : Addr} {m : PySem.Str → Option Value} {news : List (Addr × Obj)} {x : PySem.Str} {t u : Tok} {c : Nat} {n : Int} {Q : Value → Shared → Prop}
    (F : Fr h₀ L s.heap m) (N : News h₀ L s.heap news) (hm : (l, W.listOf #[.str x t] c) ∈ news) (h0 : 0 ≤ n) (h1 : n ≤ 1000) (hx : x.length ≤ 4) (hok : OkS x)
    (h : ∀ D us rows h', Fr h₀ L h' m → News h₀ L h' ((D, W.listOf us.toArray 0) :: news) → (∀ p ∈ news, p.1 < D) → PyProof.Rows.StrsAre us rows → RowsN 5000 rows → Q (.ref D) { s with heap := h' }) :
    wpAny (model PR w) A (binaryOp .Mult (.ref l) (.int n u)) Q E s := by
  refine mul_list F N (N _ hm).1 (by omega) (by omega) (by show 1 * n.toNat ≤ _; omega) fun h' F' N' => ?_
  have e : List.foldl (fun x1 x2 => x1 ++ x2) #[] (List.replicate (if (#[Value.str x t] : Array Value).isEmpty = true then 0 else n.toNat) #[Value.str x t]) = (List.replicate n.toNat (Value.str x t)).toArray := by
    rw [foldl_rep]
    apply Array.ext'
    simp
  rw [e] at N'
  exact h _ _ _ h' F' N' (fun p hp => Heap.lt_size (N p hp).1) (strs_rep x t n.toNat) (rows_rep hx hok (by omega))
theorem abcd_cut {r : Int} (h0 : 0 ≤ r) (h1 : r < 4) : (Txt.slice (PySem.Str.ofString "abcd") none (some (1 + r))).length ≤ 4 ∧ OkS (Txt.slice (PySem.Str.ofString "abcd") none (some (1 + r))) := by
  have hr : r = 0 ∨ r = 1 ∨ r = 2 ∨ r = 3 := by omega
  unfold OkS
  rcases hr with rfl | rfl | rfl | rfl <;> exact ⟨by decide +kernel, by decide +kernel⟩
end TQRep
end Mine
namespace Mine
section TQMake
open PySem PySem.W PyProof.Rows PySem.Spec PySem.Calls
open MineHd (hpK vwK hdT)
local macro_rules | `(tactic| k_all) => `(tactic| assumption)
local macro_rules | `(tactic| walk_at $s:str) => `(tactic| k_extra $s)
local macro_rules | `(tactic| k_room) => `(tactic| ktr_room)
local macro_rules | `(tactic| k_lt $h:ident) => `(tactic| skip)
local macro_rules | `(tactic| k_ne) => `(tactic| (refine neN ?_; (try dsimp only); first | (with_reducible exact Nat.ne_of_gt (lt_of_allK (by assumption) (by k_dflt k_mem))) | (with_reducible exact Nat.ne_of_lt (lt_of_allK (by assumption) (by k_dflt k_mem))) | (with_reducible exact ne_up (by assumption) (by assumption) (by k_dflt k_mem)) | (with_reducible exact Ne.symm (ne_up (by assumption) (by assumption) (by k_dflt k_mem))) | (with_reducible assumption) | omega))
local macro_rules | `(tactic| k_all) => `(tactic| first | (with_reducible exact all_ne_of (by assumption)) | (refine' List.forall_mem_cons.mpr ⟨?a, ?b⟩; (case a => k_ne); (case b => k_all)) | (with_reducible assumption) | (with_reducible exact all_ne_sub (by assumption) (by intro p9 hp9; repeat (first | exact hp9 | refine List.mem_cons_of_mem _ ?_))))
theorem said_QMake_0 : True := by
  k_with_none
  k_with "execs cons" => (k_here; (with_reducible first | refine tok_k (gns := gns) (drw := drw) (osx := osx) ?_ | refine tok_p (gns := gns) (drw := drw) (osx := osx) ?_); intro tk9)
  k_with "call ref" => (k_here; refine wpAny_call ?_; k_dflt (refine' code_def ?k1 ?k2 ?k3 ?k4 ?k5 ?kA ?kF ?kK ?k6 ?k7 ?k8 ?k9 ?kB ?_ ?c2 ?c3 ?c4 ?c5; (case kA => exact rfl); (case kF => exact rfl); (case kK => first | exact rfl | assumption); (case k1 => k_asm); (case k2 => k_asm); (case k3 => k_asm); (case k4 => k_asm); (case k5 => k_asm); (case k6 => k_is); (case k7 => k_is); (case k8 => ktr_room); (case k9 => first | (refine' binds_zip ?g1 ?g2 ?q1 ?q2; (case g1 => exact rfl); (case g2 => exact rfl); (case q1 => ((repeat (refine' bcons ?_ ?_; rotate_left 2; focus (first | (dsimp only; done) | exact rfl))); first | exact (rfl : ([] : List (PySem.Str × Value)) = []) | exact rfl)); (case q2 => kernel_rfl)) | exact binds_K (by k_in) rfl (by k_is) rfl rfl rfl); (case c5 => decide); (case kB => exact locs rfl); (case c2 => exact rfl); (case c3 => exact rfl); (case c4 => exact rfl); k_whole; intro g' L' h' FG' F' N' B' X' T'; (try dsimp only); (try k_lift B'); (try k_fold)))
  k_with "call ref" => (k_here; k_dflt (refine' call_cls ?k1 ?k2 ?k3 ?k4 ?k5 ?k6 ?_; (case k1 => k_asm); (case k2 => k_asm); (case k3 => k_asm); (case k4 => k_is); (case k5 => k_is); (case k6 => k_is); k_whole; intro x' d' h' F' N' l1 l2; (try k_lt2 l2); (try k_sweep); (refine' code_def ?k1 ?k2 ?k3 ?k4 ?k5 ?kA ?kF ?kK ?k6 ?k7 ?k8 ?k9 ?kB ?_ ?c2 ?c3 ?c4 ?c5; (case kA => exact rfl); (case kF => exact rfl); (case kK => first | exact rfl | assumption); (case k1 => k_asm); (case k2 => k_asm); (case k3 => k_asm); (case k4 => k_asm); (case k5 => k_asm); (case k6 => k_is); (case k7 => k_is); (case k8 => ktr_room); (case k9 => first | (refine' binds_zip ?g1 ?g2 ?q1 ?q2; (case g1 => exact rfl); (case g2 => exact rfl); (case q1 => ((repeat (refine' bcons ?_ ?_; rotate_left 2; focus (first | (dsimp only; done) | exact rfl))); first | exact (rfl : ([] : List (PySem.Str × Value)) = []) | exact rfl)); (case q2 => kernel_rfl)) | exact binds_K (by k_in) rfl (by k_is) rfl rfl rfl); (case c5 => decide); (case kB => exact locs rfl); (case c2 => exact rfl); (case c3 => exact rfl); (case c4 => exact rfl); k_whole; intro g' L' h' FG' F' N' B' X' T'; (try dsimp only); (try k_lift B'); (try k_fold))))
  k_with "setAttr ref" => (k_here; (with_reducible first | refine val_k ?_ | refine val_p ?_); intro tk9)
  k_with "newList" => (k_here; have := ldrop; k_dflt (refine' newList_drop ?k1 ?k2 ?_; (case k1 => k_asm); (case k2 => k_asm); k_whole); intro l' h' F' N'; (try k_sweep))
  k_with "eval Dict nil nil" => (k_here; have := hdrop; k_dflt (refine' newDict_drop ?k1 ?k2 (TopRead.nolimit (by k_asm)) ?_; (case k1 => k_asm); (case k2 => k_asm); k_whole); intro d' h' F' N'; (try k_sweep))
  k_with "setAttr ref" => (k_here; k_dflt (refine' set_dictP (gns := gns) (drw := drw) (osx := osx) ?k1 ?k2 ?k3 ?k4 ?k5 ?k6 ?k7 ?k8 ?k9 ?k10 ?_; (case k1 => k_asm); (case k2 => k_asm); (case k3 => k_asm); (case k4 => k_inst); (case k5 => exact rfl); (case k6 => k_is); (case k7 => k_is); (case k8 => k_is); (case k9 => k_is); (case k10 => k_get)); intro t'; k_dflt (refine' SetTo.mk ?k11 ?k12 ?k13 ?_; (case k11 => k_put); (case k12 => k_upd); (case k13 => exact Nat.le_of_ble_eq_true rfl)); intro h' tk' F' N'; (try k_sweep))
  trivial
theorem news_lists {h₀ h : Heap} {L : Addr} {a b c d : Addr × Obj} {r : List (Addr × Obj)} (N : News h₀ L h (a :: b :: c :: d :: r)) : News h₀ L h (c :: d :: r) := fun p hp => N p (.tail _ (.tail _ hp))
def vec (l : List Nat) (i : Nat) : Nat := l.getD i 0
theorem all_lt_up {r : List (Addr × Obj)} {d x : Addr} (h : ∀ p ∈ r, @LT.lt Nat _ p.1 d) (e : @LT.lt Nat _ d x) : ∀ p ∈ r, @LT.lt Nat _ p.1 x := fun p hp => Nat.lt_trans (h p hp) e
theorem all_lt_sub {K r : List (Addr × Obj)} {d : Addr} (h : ∀ p ∈ K, @LT.lt Nat _ p.1 d) (s : ∀ p ∈ r, p ∈ K) : ∀ p ∈ r, @LT.lt Nat _ p.1 d := fun p hp => h p (s p hp)
noncomputable def runEs (w : World) (x1 x2 x3 x4 out err : Addr) (v : Nat → Addr) (t : Nat → Tok) : List DictEntry :=
  [en w "heap" (t 0) (.ref x1), en w "counter" (t 1) (.ref x2), en w "stash" (t 2) (.ref x3), en w "limits" (t 3) (.ref x4), en w "nodes" (t 4) (.ref (v 0)), en w "lvs" (t 5) (.ref (v 1)), en w "statements" (t 6) (.ref (v 2)), en w "funcs" (t 7) (.ref (v 3)), en w "operators" (t 8) (.ref (v 4)),
   en w "out" (t 9) (.ref out), en w "err" (t 10) (.ref err), en w "saves" (t 11) (.ref (v 5)), en w "frames" (t 12) (.ref (v 6)), en w "match" (t 13) .none, en w "patterns" (t 14) (.ref (v 7)), en w "steps" (t 15) (.int 0 (t 19)), en w "methods" (t 16) .none, en w "call_code" (t 17) .none, en w "compile_text" (t 18) .none]
section
variable {PV : PySem.Program} {LZ : List PySem.Str} {w : World} {mean : ExcName → Option Value} {mg mb : PySem.Str → Option Value} (dp un : Nat) (gd : Option (List Code)) (cn : PySem.Str) (cs : Scope) (a : Addr) (ccd : Value) (cl : List (PySem.Str × Addr)) (outer : List Env) (A₀ : Around) (base h₀ : Heap) (L : Addr) (m : PySem.Str → Option Value) (s : Shared) (Q E : Value → Shared → Prop) (rest : List (Addr × Obj))
  (B : Below A₀ base outer h₀) (F : Fr h₀ L s.heap m) (X : (hpK w.params).In h₀) (T : Top PV LZ mean mg mb h₀) (hk : cs.kind = .function)
include B F X T hk
theorem mkLimits (TT : Int) (tt : Tok) (N : News h₀ L s.heap rest) (hdp : dp + 10 < recursionLimit) (hun : un + 100 < cLine)
   (ret : ∀ r rD es n h' tk', getL "text" es = some (some (.int TT tt)) → Fr h₀ L h' m → News h₀ L h' ((r, instObj 485 rD) :: (rD, dictOf es n) :: rest) → @LT.lt Nat _ rD r → (∀ p ∈ rest, @LT.lt Nat _ p.1 rD) → (∀ p ∈ rest, @LT.lt Nat _ p.1 r) → Q (.ref r) { s with heap := h', toks := tk' }) :
   wpAny (model PR w) (ktrTop dp un gd cn cs L a ccd cl outer) (call (.ref 485) [] [(PySem.Str.ofString "text", .int TT tt)]) Q E s := by
  obtain ⟨hp, gns, drw, tks, osx⟩ := s
  dsimp only at F N ret ⊢
  k_steps
  all_goals (try dsimp only)
  rename News h₀ L _ _ => kN
  rename (∀ p ∈ rest, _) => l1
  rename (@LT.lt Nat _ _ _) => l2
  exact ret _ _ _ _ _ _ (by k_get) (by assumption) kN l2 l1 (all_lt_up l1 l2)
theorem mkHeap (x1 : Addr) (N : News h₀ L s.heap rest) (hdp : dp + 10 < recursionLimit) (hun : un + 100 < cLine)
   (ret : ∀ r rD z t1 t2 t3 t4 h' tk', Fr h₀ L h' m → News h₀ L h' ((r, instObj 264 rD) :: (rD, dictOf [en w "limits" t1 (.ref x1), en w "last" t2 (.int 0 t3), en w "zero" t4 (.ref z)] 3) :: rest) → @LT.lt Nat _ rD r → (∀ p ∈ rest, @LT.lt Nat _ p.1 rD) → (∀ p ∈ rest, @LT.lt Nat _ p.1 r) → Q (.ref r) { s with heap := h', toks := tk' }) :
   wpAny (model PR w) (ktrTop dp un gd cn cs L a ccd cl outer) (call (.ref 264) [.ref x1]) Q E s := by
  obtain ⟨hp, gns, drw, tks, osx⟩ := s
  dsimp only at F N ret ⊢
  have ldrop : un + 100 < cLine ∧ True := ⟨hun, trivial⟩
  k_steps
  all_goals (try dsimp only)
  rename News h₀ L _ _ => kN
  rename (∀ p ∈ rest, _) => l1
  rename (@LT.lt Nat _ _ _) => l2
  exact ret _ _ _ _ _ _ _ _ _ (by assumption) kN l2 l1 (all_lt_up l1 l2)
theorem mkCounter (x1 : Addr) (N : News h₀ L s.heap rest) (hdp : dp + 10 < recursionLimit) (hun : un + 100 < cLine)
   (ret : ∀ r rD pl em plO emO es n h' tk', (pl == sysModules) = false → (em == sysModules) = false → Obj.IsDictOf (PySem.intKind PR w) plO [] → Obj.IsDictOf (PySem.intKind PR w) emO [] →
      getL "places" es = some (some (.ref pl)) → getL "empties" es = some (some (.ref em)) → getL "take" es = some none → getL "put_off" es = some none → getL "store" es = some none → Fr h₀ L h' m →
      News h₀ L h' ((em, emO) :: (pl, plO) :: (r, instObj 421 rD) :: (rD, dictOf es n) :: rest) → @LT.lt Nat _ rD r → @LT.lt Nat _ rD pl → @LT.lt Nat _ rD em → @LT.lt Nat _ r pl → @LT.lt Nat _ r em → @LT.lt Nat _ pl em → (∀ p ∈ rest, @LT.lt Nat _ p.1 rD) → (∀ p ∈ rest, @LT.lt Nat _ p.1 r) → (∀ p ∈ rest, @LT.lt Nat _ p.1 pl) → (∀ p ∈ rest, @LT.lt Nat _ p.1 em) → Q (.ref r) { s with heap := h', toks := tk' }) :
   wpAny (model PR w) (ktrTop dp un gd cn cs L a ccd cl outer) (call (.ref 421) [.ref x1, .none]) Q E s := by
  obtain ⟨hp, gns, drw, tks, osx⟩ := s
  dsimp only at F N ret ⊢
  k_steps
  all_goals (try dsimp only)
  rename News h₀ L _ _ => kN
  rename (∀ p ∈ rest, _) => l1
  rename (@LT.lt Nat _ _ _) => l2
  refine ret _ _ _ _ _ _ _ _ _ _ ?_ ?_ ?_ ?_ (by k_get) (by k_get) (by k_get) (by k_get) (by k_get) (by assumption) kN ?_ ?_ ?_ ?_ ?_ ?_ l1 (all_lt_up l1 l2) ?_ ?_
  all_goals first | assumption | exact lt_of_allK (by assumption) (by k_dflt k_mem) | (refine all_lt_sub (by assumption) ?_; intro p9 hp9; repeat (first | exact hp9 | refine List.mem_cons_of_mem _ ?_))
theorem mkStash (x1 : Addr) (N : News h₀ L s.heap rest) (hdp : dp + 10 < recursionLimit) (hun : un + 100 < cLine)
   (ret : ∀ r rD gl glO es n h' tk', (gl == sysModules) = false → Obj.IsDictOf (PySem.strKind PR w) glO [] →
      getL "heap" es = some (some (.ref x1)) → getL "globs" es = some (some (.ref gl)) → getL "glob_of" es = some none → getL "scalar_of" es = some none → Fr h₀ L h' m →
      News h₀ L h' ((gl, glO) :: (r, instObj 574 rD) :: (rD, dictOf es n) :: rest) → @LT.lt Nat _ rD r → @LT.lt Nat _ rD gl → @LT.lt Nat _ r gl → (∀ p ∈ rest, @LT.lt Nat _ p.1 rD) → (∀ p ∈ rest, @LT.lt Nat _ p.1 r) → (∀ p ∈ rest, @LT.lt Nat _ p.1 gl) → Q (.ref r) { s with heap := h', toks := tk' }) :
   wpAny (model PR w) (ktrTop dp un gd cn cs L a ccd cl outer) (call (.ref 574) [.ref x1]) Q E s := by
  obtain ⟨hp, gns, drw, tks, osx⟩ := s
  dsimp only at F N ret ⊢
  k_steps
  all_goals (try dsimp only)
  rename News h₀ L _ _ => kN
  rename (∀ p ∈ rest, _) => l1
  rename (@LT.lt Nat _ _ _) => l2
  refine ret _ _ _ _ _ _ _ _ ?_ ?_ (by k_get) (by k_get) (by k_get) (by k_get) (by assumption) kN ?_ ?_ ?_ l1 (all_lt_up l1 l2) ?_
  all_goals first | assumption | exact lt_of_allK (by assumption) (by k_dflt k_mem) | (refine all_lt_sub (by assumption) ?_; intro p9 hp9; repeat (first | exact hp9 | refine List.mem_cons_of_mem _ ?_))
theorem mkFrame (x1 : Addr) (t1 t2 t3 : Tok) (N : News h₀ L s.heap rest) (hdp : dp + 10 < recursionLimit) (hun : un + 100 < cLine)
   (ret : ∀ r rD es n h' tk', getL "line" es = some (some (.int 6 t3)) → Fr h₀ L h' m → News h₀ L h' ((r, instObj 442 rD) :: (rD, dictOf es n) :: rest) → @LT.lt Nat _ rD r → (∀ p ∈ rest, @LT.lt Nat _ p.1 rD) → (∀ p ∈ rest, @LT.lt Nat _ p.1 r) → Q (.ref r) { s with heap := h', toks := tk' }) :
   wpAny (model PR w) (ktrTop dp un gd cn cs L a ccd cl outer) (call (.ref 442) [.ref x1, .none, .int 1 t1, .none, .str (PySem.Str.ofString "main") t2, .int 6 t3]) Q E s := by
  obtain ⟨hp, gns, drw, tks, osx⟩ := s
  dsimp only at F N ret ⊢
  k_steps
  all_goals (try dsimp only)
  rename News h₀ L _ _ => kN
  rename (∀ p ∈ rest, _) => l1
  rename (@LT.lt Nat _ _ _) => l2
  exact ret _ _ _ _ _ _ (by k_get) (by assumption) kN l2 l1 (all_lt_up l1 l2)
theorem mkRun (x1 x2 x3 x4 : Addr) (N : News h₀ L s.heap rest) (hdp : dp + 10 < recursionLimit) (hun : un + 100 < cLine)
   (ret : ∀ r rD out err (v : Nat → Addr) (t : Nat → Tok) h' tk', Fr h₀ L h' m → News h₀ L h' ((err, W.listOf #[] 0) :: (out, W.listOf #[] 0) :: (r, instObj 463 rD) :: (rD, dictOf (runEs w x1 x2 x3 x4 out err v t) 19) :: rest) →
      @LT.lt Nat _ rD r → @LT.lt Nat _ rD out → @LT.lt Nat _ rD err → @LT.lt Nat _ r out → @LT.lt Nat _ r err → @LT.lt Nat _ out err → (∀ p ∈ rest, @LT.lt Nat _ p.1 rD) → (∀ p ∈ rest, @LT.lt Nat _ p.1 r) → (∀ p ∈ rest, @LT.lt Nat _ p.1 out) → (∀ p ∈ rest, @LT.lt Nat _ p.1 err) → Q (.ref r) { s with heap := h', toks := tk' }) :
   wpAny (model PR w) (ktrTop dp un gd cn cs L a ccd cl outer) (call (.ref 463) [.ref x1, .ref x2, .ref x3, .ref x4]) Q E s := by
  obtain ⟨hp, gns, drw, tks, osx⟩ := s
  dsimp only at F N ret ⊢
  have hdrop : un + 100 < cLine ∧ True := ⟨hun, trivial⟩
  k_steps
  all_goals (try dsimp only)
  rename News h₀ L _ _ => kN
  rename (∀ p ∈ rest, _) => l1
  rename (@LT.lt Nat _ _ _) => l2
  refine ret _ _ _ _ (vec [_, _, _, _, _, _, _, _]) (vec [_, _, _, _, _, _, _, _, _, _, _, _, _, _, _, _, _, _, _, _]) _ _ (by assumption) (news_lists kN) ?_ ?_ ?_ ?_ ?_ ?_ l1 (all_lt_up l1 l2) ?_ ?_
  all_goals first | assumption | exact lt_of_allK (by assumption) (by k_dflt k_mem) | (refine all_lt_sub (by assumption) ?_; intro p9 hp9; repeat (first | exact hp9 | refine List.mem_cons_of_mem _ ?_))
end
end TQMake
end Mine
namespace Mine
section TQRunFin
open PySem PySem.W PyProof.Rows PySem.Spec PySem.Calls
open MineHd (hpK vwK hdT)
local macro_rules | `(tactic| k_all) => `(tactic| assumption)
theorem cat_c : PySem.Str.ofString "main::" ++ PySem.Str.ofString "," = PySem.Str.ofString "main::," := by decide +kernel
theorem cat_b : PySem.Str.ofString "main::" ++ PySem.Str.ofString "\\" = PySem.Str.ofString "main::\\" := by decide +kernel
theorem cat_a : PySem.Str.ofString "main::" ++ PySem.Str.ofString "@" = PySem.Str.ofString "main::@" := by decide +kernel
theorem ne_obj {h₀ h : Heap} {L a b : Addr} {o o2 : Obj} {K : List (Addr × Obj)} (N : News h₀ L h K) (m1 : (a, o) ∈ K) (m2 : (b, o2) ∈ K) (hn : o.cls ≠ o2.cls) : a ≠ b := fun e => by
  have e1 := (N _ m1).1
  have e2 := (N _ m2).1
  dsimp only at e1 e2
  rw [e, e2] at e1
  exact hn (by rw [Option.some.inj e1])
theorem run_fin2 {w : World} {h₀ h g : Heap} {L L2 : Addr} {K rest : List (Addr × Obj)} {us : List Value} {cO cE : Nat} {ro re : Addr} {be en er : PySem.Str} {TT : Int} {Goal : Prop}
  {od lo : Addr} {oo : Obj} {cL : Nat} {kvo : List (PySem.Str × Value)} {run runD lim limD st stD gl g1 g1D g2 g2D g3 g3D s1 s1D s2 s2D s3 s3D fr frD frL : Addr} {glO : Obj} {es les stes g1es g2es g3es s1es s2es s3es fes : List DictEntry} {c1 c2 c3 c4 c5 c6 c7 c8 c9 c10 c11 : Nat} {tt tb te tr tl : Tok}
  (N : News h₀ L h K) (G : News g L2 h K) (NR : News h₀ L h rest) (hg : ∀ p ∈ rest, g.get? p.1 = some p.2) (mod : (od, oo) ∈ K) (dod : Obj.IsDictOf (PySem.strKind PR w) oo kvo) (mlo : (lo, W.listOf us.toArray cL) ∈ K)
  (m1 : (run, instObj 463 runD) ∈ K) (m2 : (runD, dictOf es c1) ∈ K) (e1 : getL "limits" es = some (some (.ref lim))) (m3 : (lim, instObj 485 limD) ∈ K) (m4 : (limD, dictOf les c2) ∈ K) (e2 : getL "text" les = some (some (.int TT tt)))
  (e3 : getL "stash" es = some (some (.ref st))) (m5 : (st, instObj 574 stD) ∈ K) (m6 : (stD, dictOf stes c3) ∈ K) (e7 : getL "globs" stes = some (some (.ref gl))) (e8 : getL "glob_of" stes = some none) (e9 : getL "scalar_of" stes = some none)
  (m7 : (gl, glO) ∈ K) (d7 : Obj.IsDictOf (PySem.strKind PR w) glO [(PySem.Str.ofString "main::" ++ PySem.Str.ofString ",", .ref g1), (PySem.Str.ofString "main::" ++ PySem.Str.ofString "\\", .ref g2), (PySem.Str.ofString "main::" ++ PySem.Str.ofString "@", .ref g3)]) (lo' : (gl == sysModules) = false)
  (m8 : (g1, instObj 181 g1D) ∈ K) (m9 : (g1D, dictOf g1es c4) ∈ K) (e10 : getL "scalar" g1es = some (some (.ref s1))) (m10 : (s1, instObj 105 s1D) ∈ K) (m11 : (s1D, dictOf s1es c5) ∈ K) (e13 : getL "magic" s1es = some (some .none)) (e14 : getL "value" s1es = some (some (.str be tb)))
  (m12 : (g2, instObj 181 g2D) ∈ K) (m13 : (g2D, dictOf g2es c6) ∈ K) (e11 : getL "scalar" g2es = some (some (.ref s2))) (m14 : (s2, instObj 105 s2D) ∈ K) (m15 : (s2D, dictOf s2es c7) ∈ K) (e15 : getL "magic" s2es = some (some .none)) (e16 : getL "value" s2es = some (some (.str en te)))
  (m16 : (g3, instObj 181 g3D) ∈ K) (m17 : (g3D, dictOf g3es c8) ∈ K) (e12 : getL "scalar" g3es = some (some (.ref s3))) (m18 : (s3, instObj 105 s3D) ∈ K) (m19 : (s3D, dictOf s3es c9) ∈ K) (e17 : getL "magic" s3es = some (some .none)) (e18 : getL "value" s3es = some (some (.str er tr)))
  (e6 : getL "frames" es = some (some (.ref frL))) (m20 : (frL, W.listOf #[.ref fr] c10) ∈ K) (m21 : (fr, instObj 442 frD) ∈ K) (m22 : (frD, dictOf fes c11) ∈ K) (e19 : getL "line" fes = some (some (.int 6 tl)))
  (e4 : getL "out" es = some (some (.ref ro))) (e5 : getL "err" es = some (some (.ref re))) (mro : (ro, W.listOf us.toArray cO) ∈ K) (mre : (re, W.listOf #[] cE) ∈ K)
  (n1 : @Ne Nat ro re) (n2 : @Ne Nat frL ro) (n3 : @Ne Nat frL re) (n4 : @Ne Nat ro lo) (n5 : @Ne Nat re lo) (n6 : @Ne Nat frL lo)
  (q1 : @Ne Nat runD od) (q2 : @Ne Nat limD od) (q3 : @Ne Nat stD od) (q4 : @Ne Nat gl od) (q5 : @Ne Nat g1D od) (q6 : @Ne Nat s1D od) (q7 : @Ne Nat g2D od) (q8 : @Ne Nat s2D od) (q9 : @Ne Nat g3D od) (q10 : @Ne Nat s3D od) (q11 : @Ne Nat frD od)
  (k : ∀ fr, RunIs w fr run ro re be en er TT → News h₀ L h ((ro, W.listOf us.toArray cO) :: (re, W.listOf #[] cE) :: fr) → News h₀ L h ((od, oo) :: (lo, W.listOf us.toArray cL) :: rest) → (∀ p ∈ fr, p.1 ≠ ro ∧ p.1 ≠ re ∧ p.1 ≠ od ∧ p.1 ≠ lo) → (ro ≠ re ∧ ro ≠ od ∧ ro ≠ lo ∧ re ≠ od ∧ re ≠ lo) → (∀ q ∈ rest, q.1 ≠ ro ∧ q.1 ≠ re ∧ ∀ p ∈ fr, p.1 ≠ q.1) → Goal) : Goal := by
  have hodc : oo.cls = .type "dict" := by obtain ⟨ess, ep, hx, _⟩ := dod; exact hx.1
  have inst : ∀ {a d : Addr} {C : Nat}, (a, instObj C d) ∈ K → a ≠ ro ∧ a ≠ re ∧ a ≠ od ∧ a ≠ lo := fun hm => ⟨ne_obj N hm mro (by simp), ne_obj N hm mre (by simp), ne_obj N hm mod (by rw [hodc]; simp), ne_obj N hm mlo (by simp)⟩
  have dict : ∀ {a : Addr} {l : List DictEntry} {c : Nat}, (a, dictOf l c) ∈ K → @Ne Nat a od → a ≠ ro ∧ a ≠ re ∧ a ≠ od ∧ a ≠ lo := fun hm hn => ⟨ne_obj N hm mro (by simp), ne_obj N hm mre (by simp), hn, ne_obj N hm mlo (by simp)⟩
  have hgl : gl ≠ ro ∧ gl ≠ re ∧ gl ≠ od ∧ gl ≠ lo := by
    obtain ⟨ess, ep, hx, _⟩ := d7
    have hc : glO.cls = .type "dict" := hx.1
    exact ⟨ne_obj N m7 mro (by rw [hc]; simp), ne_obj N m7 mre (by rw [hc]; simp), q4, ne_obj N m7 mlo (by rw [hc]; simp)⟩
  have hfr : ∀ p ∈ K.filter (fun p => (decide (p.1 ≠ ro) && decide (p.1 ≠ re)) && (decide (p.1 ≠ od) && decide (p.1 ≠ lo))), p ∈ K ∧ p.1 ≠ ro ∧ p.1 ≠ re ∧ p.1 ≠ od ∧ p.1 ≠ lo := fun p hp => by
    have h1 := List.mem_filter.mp hp
    have h2 := h1.2
    simp only [Bool.and_eq_true, decide_eq_true_eq] at h2
    exact ⟨h1.1, h2.1.1, h2.1.2, h2.2.1, h2.2.2⟩
  have put : ∀ {a : Addr} {o : Obj}, (a, o) ∈ K → a ≠ ro ∧ a ≠ re ∧ a ≠ od ∧ a ≠ lo → (a, o) ∈ K.filter (fun p => (decide (p.1 ≠ ro) && decide (p.1 ≠ re)) && (decide (p.1 ≠ od) && decide (p.1 ≠ lo))) := fun hm hn =>
    List.mem_filter.mpr ⟨hm, by simp [hn.1, hn.2.1, hn.2.2.1, hn.2.2.2]⟩
  refine k _ ?_ ?_ ?_ (fun p hp => (hfr p hp).2) ⟨n1, ne_obj N mro mod (by rw [hodc]; simp), n4, ne_obj N mre mod (by rw [hodc]; simp), n5⟩ (fun q hq => ?_)
  · refine ⟨⟨run, runD, lim, limD, st, stD, gl, g1, g1D, g2, g2D, g3, g3D, s1, s1D, s2, s2D, s3, s3D, fr, frD, frL, glO, es, les, stes, g1es, g2es, g3es, s1es, s2es, s3es, fes, c1, c2, c3, c4, c5, c6, c7, c8, c9, c10, c11, tt, tb, te, tr, tl⟩, rfl, ?_, ?_⟩
    · simp only [RunA.mems, List.forall_mem_cons]
      exact ⟨put m1 (inst m1), put m2 (dict m2 q1), put m3 (inst m3), put m4 (dict m4 q2), put m5 (inst m5), put m6 (dict m6 q3), put m7 hgl, put m8 (inst m8), put m9 (dict m9 q5), put m10 (inst m10), put m11 (dict m11 q6), put m12 (inst m12), put m13 (dict m13 q7), put m14 (inst m14), put m15 (dict m15 q8), put m16 (inst m16), put m17 (dict m17 q9), put m18 (inst m18), put m19 (dict m19 q10), put m20 ⟨n2, n3, ne_obj N m20 mod (by rw [hodc]; simp), n6⟩, put m21 (inst m21), put m22 (dict m22 q11), List.forall_mem_nil _⟩
    · rw [cat_c, cat_b, cat_a] at d7
      exact ⟨d7, lo', e1, e2, e3, e4, e5, e6, e7, e8, e9, e10, e11, e12, e13, e14, e15, e16, e17, e18, e19⟩
  · intro p hp
    rcases List.mem_cons.mp hp with rfl | hp
    · exact N _ mro
    · rcases List.mem_cons.mp hp with rfl | hp
      · exact N _ mre
      · exact N _ (hfr p hp).1
  · intro p hp
    rcases List.mem_cons.mp hp with rfl | hp
    · exact N _ mod
    · rcases List.mem_cons.mp hp with rfl | hp
      · exact N _ mlo
      · exact NR _ hp
  · have e2 := hg q hq
    refine ⟨fun e => ?_, fun e => ?_, fun p hp e => ?_⟩
    · rw [e, (G _ mro).2.2] at e2; cases e2
    · rw [e, (G _ mre).2.2] at e2; cases e2
    · rw [← e, (G _ (hfr p hp).1).2.2] at e2; cases e2
end TQRunFin
end Mine
namespace Mine
section TQLrun
open PySem PySem.W PyProof.Rows PySem.Spec PySem.Calls
open MineHd (hpK vwK hdT)
local macro_rules | `(tactic| k_all) => `(tactic| assumption)
local macro_rules | `(tactic| walk_at $s:str) => `(tactic| k_extra $s)
local macro_rules | `(tactic| k_get) => `(tactic| assumption)
local macro_rules | `(tactic| k_lt $h:ident) => `(tactic| skip)
local macro_rules | `(tactic| k_ne) => `(tactic| (refine neN ?_; (try dsimp only); first | (with_reducible exact Nat.ne_of_gt (by assumption)) | (with_reducible exact Nat.ne_of_lt (by assumption)) | (with_reducible exact Nat.ne_of_gt (lt_of_allK (by assumption) (by k_dflt k_mem))) | (with_reducible exact Nat.ne_of_lt (lt_of_allK (by assumption) (by k_dflt k_mem))) | (with_reducible exact ne_up (by assumption) (by assumption) (by k_dflt k_mem)) | (with_reducible exact Ne.symm (ne_up (by assumption) (by assumption) (by k_dflt k_mem))) | (with_reducible assumption) | omega))
local macro_rules | `(tactic| k_all) => `(tactic| first | (with_reducible exact all_ne_of (by assumption)) | (refine' List.forall_mem_cons.mpr ⟨?a, ?b⟩; (case a => k_ne); (case b => k_all)) | (with_reducible assumption) | (with_reducible exact all_ne_sub (by assumption) (by intro p9 hp9; repeat (first | exact hp9 | refine List.mem_cons_of_mem _ ?_))))
local macro_rules | `(tactic| k_room) => `(tactic| ktr_room)
theorem said_QLrun_0 : True := by
  k_with_none
  k_with "execs cons" => (k_here; (with_reducible first | refine tok_k (gns := gns) (drw := drw) (osx := osx) ?_ | refine tok_p (gns := gns) (drw := drw) (osx := osx) ?_); intro tk9)
  k_with "setAttr ref" => (k_here; k_dflt (refine' set_dictP (gns := gns) (drw := drw) (osx := osx) ?k1 ?k2 ?k3 ?k4 ?k5 ?k6 ?k7 ?k8 ?k9 ?k10 ?_; (case k1 => k_asm); (case k2 => k_asm); (case k3 => k_asm); (case k4 => k_inst); (case k5 => exact rfl); (case k6 => k_is); (case k7 => k_is); (case k8 => k_is); (case k9 => k_is); (case k10 => k_get)); intro t'; k_dflt (refine' SetTo.mk ?k11 ?k12 ?k13 ?_; (case k11 => k_put); (case k12 => k_upd); (case k13 => exact Nat.le_of_ble_eq_true rfl)); intro h' tk' F' N'; (try k_sweep))
  k_with "setAttr ref" => (k_here; (with_reducible first | refine val_k ?_ | refine val_p ?_); intro tk9)
  k_with "call ref" => (k_here; refine wpAny_call ?_; k_dflt (refine' code_def ?k1 ?k2 ?k3 ?k4 ?k5 ?kA ?kF ?kK ?k6 ?k7 ?k8 ?k9 ?kB ?_ ?c2 ?c3 ?c4 ?c5; (case kA => exact rfl); (case kF => exact rfl); (case kK => first | exact rfl | assumption); (case k1 => k_asm); (case k2 => k_asm); (case k3 => k_asm); (case k4 => k_asm); (case k5 => k_asm); (case k6 => k_is); (case k7 => k_is); (case k8 => ktr_room); (case k9 => first | (refine' binds_zip ?g1 ?g2 ?q1 ?q2; (case g1 => exact rfl); (case g2 => exact rfl); (case q1 => ((repeat (refine' bcons ?_ ?_; rotate_left 2; focus (first | (dsimp only; done) | exact rfl))); first | exact (rfl : ([] : List (PySem.Str × Value)) = []) | exact rfl)); (case q2 => kernel_rfl)) | exact BindsTo.of_eq rfl); (case c5 => decide); (case kB => exact locs rfl); (case c2 => exact rfl); (case c3 => exact rfl); (case c4 => exact rfl); k_whole; intro g' L' h' FG' F' N' B' X' T'; (try dsimp only); (try k_lift B'); (try k_fold)))
  k_with "compareOp NotIn str ref" => (k_here; k_dflt (refine' kdg_notin (knd := PySem.strKind _ _) ?N ?m ?d ?lo (strKind_is _ _ _ _) true ?b ?_; (case N => k_asm); (case m => k_mem); (case d => assumption); (case lo => assumption); (case b => first | assumption | rfl); k_whole))
  k_with "subscriptTail" => (k_here; (with_reducible show wpAny _ _ (subscriptTail _ _ (Value.ref _) (Value.str _ _)) _ _ _); k_dflt (refine' kda_item (knd := PySem.strKind _ _) ?N ?m ?d (strKind_is _ _ _ _) ?v ?_; (case N => k_asm); (case m => k_mem); (case d => assumption); (case v => first | assumption | rfl); k_whole))
  k_with "subscriptTail Name Constant ref str" => (k_here; (with_reducible show wpAny _ _ (subscriptTail _ _ (Value.ref _) (Value.str _ _)) _ _ _); k_dflt (refine' kda_item (knd := PySem.strKind _ _) ?N ?m ?d (strKind_is _ _ _ _) ?v ?_; (case N => k_asm); (case m => k_mem); (case d => assumption); (case v => first | assumption | rfl); k_whole))
  k_with "call ref" => (k_here; (with_reducible show wpAny _ _ (call (Value.ref 543) _) _ _ _); k_dflt ((refine' snew_led _ _ _ _ _ _ _ _ _ _ _ _ _ _ _ _ _ _ ?B ?F ?X ?T ?hk _ _ _ _ _ _ _ _ _ _ _ _ _ _ _ _ _ _ _ _ ?N ?U1 ?U2 ?m1 ?m2 ?m3 ?n1 ?n2 ?n3 ?n4 ?n5 ?n6 ?n7 ?hda ?hno ?hlo ?hkl ?e1 ?e2 ?e3 ?hk0 ?hk1 ?hd ?hu ?_); (case B => k_asm); (case F => k_asm); (case X => k_asm); (case T => k_asm); (case hk => first | exact rfl | assumption); (case N => k_asm); (case m1 => k_mem); (case m2 => k_mem); (case e1 => first | assumption | k_get | rfl); (case e2 => first | assumption | k_get | rfl); (case e3 => first | assumption | k_get | rfl); (case m3 => k_mem); (case n1 => k_ne); (case n2 => k_ne); (case n3 => k_ne); (case n4 => k_ne); (case n5 => k_ne); (case n6 => k_ne); (case n7 => k_ne); (case U1 => k_updF); (case U2 => intro o9; k_updF); (case hda => assumption); (case hno => rfl); (case hlo => assumption); (case hkl => exact Nat.le_of_ble_eq_true rfl); (case hk0 => omega); (case hk1 => omega); (case hd => ktr_room); (case hu => ktr_units); intro sc' scD' g' gD' wk' ges' cg' glO' t0' t1' t2' t3' t4' t5' t6' t7' t8' t9' tl' h' tk' hsc' hdd' F' N' l1' l2' l3' l4' l5' l6' l7' l8' l9' l10'; (try dsimp only at N'); (try dsimp only [List.nil_append, List.cons_append] at hdd'); (try k_sweep); (try dsimp only)))
  k_with "call ref" => (k_here; (with_reducible show wpAny _ _ (call (Value.ref 383) _) _ _ _); k_dflt ((refine' store_led _ _ _ _ _ _ _ _ _ _ _ _ _ _ _ _ _ _ ?B ?F ?X ?T ?hk _ _ _ _ _ _ _ _ _ _ _ _ _ _ _ _ _ _ _ _ _ _ _ _ _ ?N ?U ?m1 ?m2 ?m3 ?m4 ?m5 ?n1 ?n2 ?n3 ?n4 ?n5 ?d4 ?d5 ?lo4 ?lo5 ?e1 ?e2 ?e3 ?e4 ?hk0 ?hk1 ?hd ?hu ?_); (case B => k_asm); (case F => k_asm); (case X => k_asm); (case T => k_asm); (case hk => first | exact rfl | assumption); (case N => k_asm); (case m1 => k_mem); (case U => k_updF); (case m2 => k_mem); (case m3 => k_mem); (case e1 => first | assumption | k_get | rfl); (case e2 => first | assumption | k_get | rfl); (case e3 => first | assumption | k_get | rfl); (case e4 => first | assumption | k_get | rfl); (case m4 => k_mem); (case m5 => k_mem); (case n1 => k_ne); (case n2 => k_ne); (case n3 => k_ne); (case n4 => k_ne); (case n5 => k_ne); (case d4 => assumption); (case d5 => assumption); (case lo4 => assumption); (case lo5 => assumption); (case hk0 => omega); (case hk1 => omega); (case hd => ktr_room); (case hu => ktr_units); intro h' tk' F' N'; (try dsimp only at N'); (try k_sweep); (try dsimp only)))
  k_with "call ref" => (k_here; (with_reducible show wpAny _ _ (call (Value.ref 485) _ _) _ _ _); k_dflt ((refine' mkLimits _ _ _ _ _ _ _ _ _ _ _ _ _ _ _ _ _ _ ?B ?F ?X ?T ?hk _ _ ?N ?hd ?hu ?_); (case B => k_asm); (case F => k_asm); (case X => k_asm); (case T => k_asm); (case hk => first | exact rfl | assumption); (case N => k_asm); (case hd => ktr_room); (case hu => ktr_units); intro r' rD' es' n' h' tk' e1' F' N' l1' l2' l3'; (try dsimp only at N'); (try k_sweep); (try dsimp only)))
  k_with "call ref" => (k_here; (with_reducible show wpAny _ _ (call (Value.ref 264) _) _ _ _); k_dflt ((refine' mkHeap _ _ _ _ _ _ _ _ _ _ _ _ _ _ _ _ _ _ ?B ?F ?X ?T ?hk _ ?N ?hd ?hu ?_); (case B => k_asm); (case F => k_asm); (case X => k_asm); (case T => k_asm); (case hk => first | exact rfl | assumption); (case N => k_asm); (case hd => ktr_room); (case hu => ktr_units); intro r' rD' z' t1' t2' t3' t4' h' tk' F' N' l1' l2' l3'; (try dsimp only at N'); (try k_sweep); (try dsimp only)))
  k_with "call ref" => (k_here; (with_reducible show wpAny _ _ (call (Value.ref 421) _) _ _ _); k_dflt ((refine' mkCounter _ _ _ _ _ _ _ _ _ _ _ _ _ _ _ _ _ _ ?B ?F ?X ?T ?hk _ ?N ?hd ?hu ?_); (case B => k_asm); (case F => k_asm); (case X => k_asm); (case T => k_asm); (case hk => first | exact rfl | assumption); (case N => k_asm); (case hd => ktr_room); (case hu => ktr_units); intro r' rD' pl' em' plO' emO' es' n' h' tk' y1' y2' y3' y4' e1' e2' e3' e4' e5' F' N' l1' l2' l3' l4' l5' l6' l7' l8' l9' l10'; (try dsimp only at N'); (try k_sweep); (try dsimp only)))
  k_with "call ref" => (k_here; (with_reducible show wpAny _ _ (call (Value.ref 574) _) _ _ _); k_dflt ((refine' mkStash _ _ _ _ _ _ _ _ _ _ _ _ _ _ _ _ _ _ ?B ?F ?X ?T ?hk _ ?N ?hd ?hu ?_); (case B => k_asm); (case F => k_asm); (case X => k_asm); (case T => k_asm); (case hk => first | exact rfl | assumption); (case N => k_asm); (case hd => ktr_room); (case hu => ktr_units); intro r' rD' gl' glO' es' n' h' tk' y1' y2' e1' e2' e3' e4' F' N' l1' l2' l3' l4' l5' l6'; (try dsimp only at N'); (try k_sweep); (try dsimp only)))
  k_with "call ref" => (k_here; (with_reducible show wpAny _ _ (call (Value.ref 442) _) _ _ _); k_dflt ((refine' mkFrame _ _ _ _ _ _ _ _ _ _ _ _ _ _ _ _ _ _ ?B ?F ?X ?T ?hk _ _ _ _ ?N ?hd ?hu ?_); (case B => k_asm); (case F => k_asm); (case X => k_asm); (case T => k_asm); (case hk => first | exact rfl | assumption); (case N => k_asm); (case hd => ktr_room); (case hu => ktr_units); intro r' rD' es' n' h' tk' e1' F' N' l1' l2' l3'; (try dsimp only at N'); (try k_sweep); (try dsimp only)))
  k_with "call ref" => (k_here; (with_reducible show wpAny _ _ (call (Value.ref 463) _) _ _ _); k_dflt ((refine' mkRun _ _ _ _ _ _ _ _ _ _ _ _ _ _ _ _ _ _ ?B ?F ?X ?T ?hk _ _ _ _ ?N ?hd ?hu ?_); (case B => k_asm); (case F => k_asm); (case X => k_asm); (case T => k_asm); (case hk => first | exact rfl | assumption); (case N => k_asm); (case hd => ktr_room); (case hu => ktr_units); intro r' rD' out' err' v' t' h' tk' F' N' l1' l2' l3' l4' l5' l6' l7' l8' l9' l10'; (try dsimp only at N'); (try k_sweep); (try dsimp only)))
  trivial
section
variable {PV : PySem.Program} {LZ : List PySem.Str} {w : World} {mean : ExcName → Option Value} {mg mb : PySem.Str → Option Value} (dp un : Nat) (gd : Option (List Code)) (cn : PySem.Str) (cs : Scope) (a : Addr) (ccd : Value) (cl : List (PySem.Str × Addr)) (outer : List Env) (A₀ : Around) (base h₀ : Heap) (L : Addr) (m : PySem.Str → Option Value) (s : Shared) (Q E : Value → Shared → Prop) (rest : List (Addr × Obj))
  (B : Below A₀ base outer h₀) (F : Fr h₀ L s.heap m) (X : (hpK w.params).In h₀) (T : Top PV LZ mean mg mb h₀) (hk : cs.kind = .function)
include B F X T hk
set_option maxHeartbeats 6000000 in
theorem lrun_spec (od : Addr) (oo : Obj) (TT : Int) (tt : Tok) (le : Addr) (be : PySem.Str) (tb : Tok) (en : PySem.Str) (te : Tok) (er : PySem.Str) (tr : Tok) (lo : Addr) (us : List Value) (rows : List PySem.Str) (c : Nat)
  (N1 : News h₀ L s.heap [(od, oo), (lo, W.listOf us.toArray c)]) (NR : News h₀ L s.heap rest) (ho : OwnIs w oo TT tt le be tb en te er tr lo)
  (hdis : ∀ p ∈ rest, p.1 ∉ [(od, oo), (lo, W.listOf us.toArray c)].map (·.1))
  (hv : PyProof.Rows.StrsAre us rows) (hr : rows.length ≤ 1000)
  (hdp : dp + 20 < recursionLimit) (hun : un + 600 < cLine)
  (ret : ∀ run ro re c' c2 fr h' tk', RunIs w fr run ro re be en er TT → Fr h₀ L h' m → News h₀ L h' ((ro, W.listOf us.toArray c') :: (re, W.listOf #[] c2) :: fr) → News h₀ L h' ((od, oo) :: (lo, W.listOf us.toArray c) :: rest) → (∀ p ∈ fr, p.1 ≠ ro ∧ p.1 ≠ re ∧ p.1 ≠ od ∧ p.1 ≠ lo) → (ro ≠ re ∧ ro ≠ od ∧ ro ≠ lo ∧ re ≠ od ∧ re ≠ lo) → (∀ q ∈ rest, q.1 ≠ ro ∧ q.1 ≠ re ∧ ∀ p ∈ fr, p.1 ≠ q.1) → Q (.ref run) { s with heap := h', toks := tk' }) :
   wpAny (model PR w) (ktrTop dp un gd cn cs L a ccd cl outer) (call (.ref 593) [.ref od]) Q E s := by
  obtain ⟨hp, gns, drw, tks, osx⟩ := s
  unfold OwnIs at ho
  dsimp only at F N1 NR ret ⊢
  have hus : us.length ≤ 1000 := by rw [strsAre_length hv]; exact hr
  refine wpAny_call ?_
  k_dflt (refine' code_run B F X N1 NR hdis T rfl ?k6 ?k7 ?k8 ?k9 ?kB ?_ hk ?c2 ?c3 ?c4 ?c5; (case k6 => k_is); (case k7 => k_is); (case k8 => ktr_room); (case k9 => first | (refine' binds_zip ?g1 ?g2 ?q1 ?q2; (case g1 => exact rfl); (case g2 => exact rfl); (case q1 => ((repeat (refine' bcons ?_ ?_; rotate_left 2; focus (first | (dsimp only; done) | exact rfl))); first | exact (rfl : ([] : List (PySem.Str × Value)) = []) | exact rfl)); (case q2 => kernel_rfl)) | exact BindsTo.of_eq rfl); (case c5 => decide); (case kB => exact locs rfl); (case c2 => exact rfl); (case c3 => exact rfl); (case c4 => exact rfl); k_whole)
  intro g' L' h' FG' F' N' hg' B' X' T'
  (try dsimp only); (try k_lift B'); (try k_fold)
  clear N1 NR hdis
  k_steps
  all_goals (try dsimp only)
  rename News h₀ L _ rest => hNR
  rename News h₀ L _ (_ :: _) => kN
  refine' run_fin2 (od := od) (lo := lo) (oo := oo) (cL := c) (us := us) kN ?G hNR hg' ?mod ?dod ?mlo ?m1 ?m2 ?e1 ?m3 ?m4 ?e2 ?e3 ?m5 ?m6 ?e7 ?e8 ?e9 ?m7 ?d7 ?lo ?m8 ?m9 ?e10 ?m10 ?m11 ?e13 ?e14 ?m12 ?m13 ?e11 ?m14 ?m15 ?e15 ?e16 ?m16 ?m17 ?e12 ?m18 ?m19 ?e17 ?e18 ?e6 ?m20 ?m21 ?m22 ?e19 ?e4 ?e5 ?mro ?mre ?n1 ?n2 ?n3 ?n4 ?n5 ?n6 ?q1 ?q2 ?q3 ?q4 ?q5 ?q6 ?q7 ?q8 ?q9 ?q10 ?q11 ?_
  case' G => (assumption)
  case' mod => (k_dflt k_mem)
  case' dod => (assumption)
  case' mlo => (k_dflt k_mem)
  case' m1 => (k_dflt k_mem)
  case' m2 => (k_dflt k_mem)
  case' e1 => (first | assumption | k_get | rfl)
  case' m3 => (k_dflt k_mem)
  case' m4 => (k_dflt k_mem)
  case' e2 => (first | assumption | k_get | rfl)
  case' e3 => (first | assumption | k_get | rfl)
  case' m5 => (k_dflt k_mem)
  case' m6 => (k_dflt k_mem)
  case' e7 => (first | assumption | k_get | rfl)
  case' e8 => (first | assumption | k_get | rfl)
  case' e9 => (first | assumption | k_get | rfl)
  case' m7 => (k_dflt k_mem)
  case' d7 => (assumption)
  case' lo => (assumption)
  case' m8 => (k_dflt k_mem)
  case' m9 => (k_dflt k_mem)
  case' e10 => (assumption)
  case' m10 => (k_dflt k_mem)
  case' m11 => (k_dflt k_mem)
  case' e13 => (first | assumption | k_get | rfl)
  case' e14 => (first | assumption | k_get | rfl)
  case' m12 => (k_dflt k_mem)
  case' m13 => (k_dflt k_mem)
  case' e11 => (assumption)
  case' m14 => (k_dflt k_mem)
  case' m15 => (k_dflt k_mem)
  case' e15 => (first | assumption | k_get | rfl)
  case' e16 => (first | assumption | k_get | rfl)
  case' m16 => (k_dflt k_mem)
  case' m17 => (k_dflt k_mem)
  case' e12 => (assumption)
  case' m18 => (k_dflt k_mem)
  case' m19 => (k_dflt k_mem)
  case' e17 => (first | assumption | k_get | rfl)
  case' e18 => (first | assumption | k_get | rfl)
  case' e6 => (first | assumption | k_get | rfl)
  case' m20 => (k_dflt k_mem)
  case' m21 => (k_dflt k_mem)
  case' m22 => (k_dflt k_mem)
  case' e19 => (first | assumption | k_get | rfl)
  case' e4 => (first | assumption | k_get | rfl)
  case' e5 => (first | assumption | k_get | rfl)
  case' mro => (k_dflt k_mem)
  case' mre => (k_dflt k_mem)
  case' n1 => (k_ne)
  case' n2 => (k_ne)
  case' n3 => (k_ne)
  case' n4 => (k_ne)
  case' n5 => (k_ne)
  case' n6 => (k_ne)
  case' q1 => (k_ne)
  case' q2 => (k_ne)
  case' q3 => (k_ne)
  case' q4 => (k_ne)
  case' q5 => (k_ne)
  case' q6 => (k_ne)
  case' q7 => (k_ne)
  case' q8 => (k_ne)
  case' q9 => (k_ne)
  case' q10 => (k_ne)
  case' q11 => (k_ne)
  intro fr9 R9 N9 N8 h91 h92 h93
  exact ret _ _ _ _ _ _ _ _ R9 (by assumption) N9 N8 h91 h92 h93
end
end TQLrun
end Mine
namespace Mine
section TQLrunLed
open PySem PySem.W PyProof.Rows PySem.Spec PySem.Calls
open MineHd (hpK vwK hdT)
local macro_rules | `(tactic| k_all) => `(tactic| assumption)
def OffFrom (fr K : List (Addr × Obj)) : Prop := ∀ p ∈ fr, ∀ q ∈ K, p.1 ≠ q.1
theorem offK {fr K : List (Addr × Obj)} {d : Addr} {o : Obj} (h : OffFrom fr K) (hq : (d, o) ∈ K) : ∀ p ∈ fr, p.1 ≠ d := fun p hp => h p hp _ hq
section
variable {PV : PySem.Program} {LZ : List PySem.Str} {w : World} {mean : ExcName → Option Value} {mg mb : PySem.Str → Option Value} (dp un : Nat) (gd : Option (List Code)) (cn : PySem.Str) (cs : Scope) (a : Addr) (ccd : Value) (cl : List (PySem.Str × Addr)) (outer : List Env) (A₀ : Around) (base h₀ : Heap) (L : Addr) (m : PySem.Str → Option Value) (s : Shared) (Q E : Value → Shared → Prop) (K : List (Addr × Obj))
  (B : Below A₀ base outer h₀) (F : Fr h₀ L s.heap m) (X : (hpK w.params).In h₀) (T : Top PV LZ mean mg mb h₀) (hk : cs.kind = .function)
include B F X T hk
theorem lrun_led (od : Addr) (oo : Obj) (TT : Int) (tt : Tok) (le : Addr) (be : PySem.Str) (tb : Tok) (en : PySem.Str) (te : Tok) (er : PySem.Str) (tr : Tok) (lo : Addr) (us : List Value) (rows : List PySem.Str) (c : Nat)
  (N : News h₀ L s.heap K) (mo : (od, oo) ∈ K) (ml : (lo, W.listOf us.toArray c) ∈ K) (ho : OwnIs w oo TT tt le be tb en te er tr lo)
  (hv : PyProof.Rows.StrsAre us rows) (hr : rows.length ≤ 1000)
  (hdp : dp + 20 < recursionLimit) (hun : un + 600 < cLine)
  (ret : ∀ run ro re c' c2 fr h' tk', RunIs w fr run ro re be en er TT → Fr h₀ L h' m → News h₀ L h' ((ro, W.listOf us.toArray c') :: (re, W.listOf #[] c2) :: (K ++ fr)) → (∀ p ∈ fr, p.1 ≠ ro) → (∀ p ∈ fr, p.1 ≠ re) → OffFrom fr K → @Ne Nat ro re → (∀ q ∈ K, @Ne Nat q.1 ro) → (∀ q ∈ K, @Ne Nat q.1 re) → Q (.ref run) { s with heap := h', toks := tk' }) :
   wpAny (model PR w) (ktrTop dp un gd cn cs L a ccd cl outer) (call (.ref 593) [.ref od]) Q E s := by
  have hsame : ∀ q ∈ K, (q.1 = od → q = (od, oo)) ∧ (q.1 = lo → q = (lo, W.listOf us.toArray c)) := fun q hq => by
    obtain ⟨q1, q2⟩ := q
    refine ⟨fun e => ?_, fun e => ?_⟩
    · dsimp only at e; subst e
      have e1 := (N _ hq).1; rw [(N _ mo).1] at e1; have e2 : oo = q2 := Option.some.inj e1; rw [e2]
    · dsimp only at e; subst e
      have e1 := (N _ hq).1; rw [(N _ ml).1] at e1; have e2 : W.listOf us.toArray c = q2 := Option.some.inj e1; rw [e2]
  refine lrun_spec dp un gd cn cs a ccd cl outer A₀ base h₀ L m s Q E (K.filter fun p => decide (p.1 ≠ od) && decide (p.1 ≠ lo)) B F X T hk od oo TT tt le be tb en te er tr lo us rows c
    (newsSub N (List.forall_mem_cons.mpr ⟨mo, List.forall_mem_cons.mpr ⟨ml, List.forall_mem_nil _⟩⟩)) (newsSub N fun p hp => (List.mem_filter.mp hp).1) ho (fun p hp hm => ?_) hv hr hdp hun ?_
  · have h2 := (List.mem_filter.mp hp).2
    simp only [Bool.and_eq_true, decide_eq_true_eq] at h2
    simp only [List.map_cons, List.map_nil, List.mem_cons, List.not_mem_nil, or_false] at hm
    rcases hm with hm | hm
    · exact h2.1 hm
    · exact h2.2 hm
  · intro run ro re c' c2 fr h' tk' R F' N1 N2 h1 h2 h3
    have old : ∀ q ∈ K, q = (od, oo) ∨ q = (lo, W.listOf us.toArray c) ∨ q ∈ K.filter fun p => decide (p.1 ≠ od) && decide (p.1 ≠ lo) := fun q hq => by
      by_cases e1 : q.1 = od
      · exact .inl ((hsame q hq).1 e1)
      · by_cases e2 : q.1 = lo
        · exact .inr (.inl ((hsame q hq).2 e2))
        · exact .inr (.inr (List.mem_filter.mpr ⟨hq, by simp [e1, e2]⟩))
    refine ret run ro re c' c2 fr h' tk' R F' (fun p hp => ?_) (fun p hp => (h1 p hp).1) (fun p hp => (h1 p hp).2.1) (fun p hp q hq => ?_) h2.1 (fun q hq => ?_) (fun q hq => ?_)
    · rcases List.mem_cons.mp hp with rfl | hp
      · exact N1 _ (.head _)
      · rcases List.mem_cons.mp hp with rfl | hp
        · exact N1 _ (.tail _ (.head _))
        · rcases List.mem_append.mp hp with hp | hp
          · rcases old p hp with rfl | rfl | hp
            · exact N2 _ (.head _)
            · exact N2 _ (.tail _ (.head _))
            · exact N2 _ (.tail _ (.tail _ hp))
          · exact N1 _ (.tail _ (.tail _ hp))
    · rcases old q hq with rfl | rfl | hq
      · exact (h1 p hp).2.2.1
      · exact (h1 p hp).2.2.2
      · exact (h3 q hq).2.2 p hp
    · rcases old q hq with rfl | rfl | hq
      · exact Ne.symm h2.2.1
      · exact Ne.symm h2.2.2.1
      · exact (h3 q hq).1
    · rcases old q hq with rfl | rfl | hq
      · exact Ne.symm h2.2.2.2.1
      · exact Ne.symm h2.2.2.2.2
      · exact (h3 q hq).2.1
end
end TQLrunLed
end Mine
namespace Mine
section TQLaw4
open PySem PySem.W PyProof.Rows PySem.Spec PySem.Calls
open MineHd (hpK vwK hdT)
local macro_rules | `(tactic| k_all) => `(tactic| assumption)
def Stop (p : Prop) : Prop := p
theorem Stop.intro {p : Prop} (h : Stop p) : p := h
theorem Stop.out {p : Prop} (h : p) : Stop p := h
theorem own_form {m : PySem.Str → Option Value} {k : PySem.Str} {v : Value} (h : m k = some v) : m = fun y => if y = k then some v else m y := by
  funext y
  by_cases e : y = k
  · rw [if_pos e, e, h]
  · rw [if_neg e]
abbrev lawDs (L td od ro re : Addr) : List Addr := [td, od, ro, re, 623, L + 1 + 1 + 1, L + 1 + 1 + 1 + 1]
abbrev lamQ : PySem.Str := PySem.Str.ofString "law" ++ PySem.Str.ofString ".<locals>." ++ PySem.Str.ofString "<lambda>"
/-- what stands between the law's turns -/
structure LawSt (w : World) (L : Addr) (i : Nat) (td od ro re run tl lo le : Addr) (to oo cto cwo cro cio : Obj) (g TT : Int) (tt tb te tr : Tok) (be en er : PySem.Str) (us vs us' vs' tlv : List Value) (tns : List Int) (rows rows2 : List PySem.Str) (c3 c4 ctl : Nat) (ps : Array Value) (rest : List (Addr × Obj)) : Prop where
  hto : TinIs w to tl g
  hg : 0 ≤ g ∧ g ≤ 100 + 20 * (i : Int)
  hoo : OwnIs w oo TT tt le be tb en te er tr lo
  hTT : 0 ≤ TT ∧ TT ≤ 40
  hbe : be ∈ betL
  hen : en ∈ endL
  her : er ∈ errsL
  mlo : (lo, W.listOf us'.toArray c3) ∈ rest
  mle : (le, W.listOf vs'.toArray c4) ∈ rest
  s1 : PyProof.Rows.StrsAre us rows
  s2 : PyProof.Rows.StrsAre us' rows
  s3 : PyProof.Rows.StrsAre vs rows2
  s4 : PyProof.Rows.StrsAre vs' rows2
  r1 : RowsN (5000 + 1000 * i) rows
  r2 : RowsN (5000 + 1000 * i) rows2
  hR : RunIs w rest run ro re be en er TT
  mtl : (tl, W.listOf tlv.toArray ctl) ∈ rest
  htl : IntsAre tlv tns
  hln : tns.length ≤ 63
  mcr : (L + 1 + 1, cro) ∈ rest
  dcr : cro.data = .cell (some (.ref run))
  mci : (L + 1, cio) ∈ rest
  dci : cio.data = .cell (some (.ref td))
  dct : ∃ v, cto.data = .cell v
  dcw : ∃ v, cwo.data = .cell v
  tab : TabInv 384 22 (lamQ) ps rest (lawDs L td od ro re)
  off : ∀ p ∈ rest, p.1 ∉ lawDs L td od ro re
  nd : (lawDs L td od ro re).Nodup
def LawJ (w : World) (L : Addr) (i : Nat) (m : PySem.Str → Option Value) (news : List (Addr × Obj)) : Prop :=
  ∃ (td od ro re run tl lo le : Addr) (to oo cto cwo cro cio : Obj) (g TT : Int) (tt tb te tr : Tok) (be en er : PySem.Str) (us vs us' vs' tlv : List Value) (tns : List Int) (rows rows2 : List PySem.Str) (c c2 c3 c4 ctl : Nat) (ps : Array Value) (rest : List (Addr × Obj)),
    m (PySem.Str.ofString "own") = some (.ref od) ∧ news = (td, to) :: (od, oo) :: (ro, W.listOf us.toArray c) :: (re, W.listOf vs.toArray c2) :: (623, tabObj ps) :: (L + 1 + 1 + 1, cto) :: (L + 1 + 1 + 1 + 1, cwo) :: rest ∧
    LawSt w L i td od ro re run tl lo le to oo cto cwo cro cio g TT tt tb te tr be en er us vs us' vs' tlv tns rows rows2 c3 c4 ctl ps rest
theorem run_rows {w : World} {rest : List (Addr × Obj)} {run ro re : Addr} {be en er : PySem.Str} {TT : Int} (R : RunIs w rest run ro re be en er TT) :
    ∃ runD es c1, (run, instObj 463 runD) ∈ rest ∧ (runD, dictOf es c1) ∈ rest ∧ getL (PySem.Str.ofString "out") es = some (some (.ref ro)) ∧ getL (PySem.Str.ofString "err") es = some (some (.ref re)) := by
  obtain ⟨x, rfl, hm, hf⟩ := R
  refine ⟨x.runD, x.es, x.c1, hm _ ?_, hm _ ?_, hf.e4, hf.e5⟩
  · simp [RunA.mems]
  · simp [RunA.mems]
theorem lt_rest {K rest : List (Addr × Obj)} {d : Addr} (h : ∀ p ∈ K, p.1 ≠ d) (hs : ∀ p ∈ rest, p ∈ K) : ∀ p ∈ rest, p.1 ≠ d := fun p hp => h p (hs p hp)
/-- the turn's end -/
theorem end_turn {w : World} {h₀ h' : Heap} {L I td od ro re run tl lo le lo' le' c' : Addr} {m' : PySem.Str → Option Value} {K own rest : List (Addr × Obj)} {i : Nat} {s₁ : Shared} {tk : Nat}
    {to oo cto cwo cro cio oc : Obj} {g g' TT : Int} {tt tb te tr : Tok} {be en er : PySem.Str} {us vs us' vs' tlv : List Value} {tns : List Int} {rows rows2 : List PySem.Str} {c c2 c3 c4 ctl : Nat} {ps : Array Value}
    {us0 vs0 us0' vs0' : List Value} {rows0 rows20 : List PySem.Str} {c30 c40 : Nat} {ps0 : Array Value} {to0 oo0 cto0 cwo0 : Obj} {vcs : Array Value} {tq : Tok}
    (S : LawSt w L i td od ro re run tl lo le to0 oo0 cto0 cwo0 cro cio g TT tt tb te tr be en er us0 vs0 us0' vs0' tlv tns rows0 rows20 c30 c40 ctl ps0 rest)
    (F : Fr h₀ L h' m') (N : News h₀ L h' K) (hm : m' (PySem.Str.ofString "own") = some (.ref od))
    (mtd : (td, to) ∈ K) (mod : (od, oo) ∈ K) (mro : (ro, W.listOf us.toArray c) ∈ K) (mre : (re, W.listOf vs.toArray c2) ∈ K) (mP : (623, tabObj ps) ∈ K) (mct : (L + 1 + 1 + 1, cto) ∈ K) (mcw : (L + 1 + 1 + 1 + 1, cwo) ∈ K)
    (hrest : ∀ p ∈ rest, p ∈ K) (hown : ∀ p ∈ own, p ∈ K) (hI : ∀ p ∈ rest, p.1 ≠ I) (hId : ∀ d ∈ lawDs L td od ro re, @Ne Nat d I)
    (hto : TinIs w to tl g') (hg : g ≤ g' ∧ g' ≤ g + 20) (hoo : OwnIs w oo TT tt le' be tb en te er tr lo')
    (mlo : (lo', W.listOf us'.toArray c3) ∈ K) (mle : (le', W.listOf vs'.toArray c4) ∈ K)
    (s1 : PyProof.Rows.StrsAre us rows) (s2 : PyProof.Rows.StrsAre us' rows) (s3 : PyProof.Rows.StrsAre vs rows2) (s4 : PyProof.Rows.StrsAre vs' rows2)
    (r1 : RowsN (5000 + 1000 * i + 1000) rows) (r2 : RowsN (5000 + 1000 * i + 1000) rows2)
    (dct : ∃ v, cto.data = .cell v) (dcw : ∃ v, cwo.data = .cell v)
    (mc : (c', oc) ∈ K) (eps : ps = #[rawInt 384, rawInt 22, .ref c']) (ec1 : oc.data = .fields vcs) (ec2 : vcs[1]? = some (.str (lamQ) tq))
    (hc : ∀ d ∈ I :: lawDs L td od ro re, @Ne Nat c' d) (hlo : ∀ d ∈ I :: lawDs L td od ro re, @Ne Nat lo' d) (hle : ∀ d ∈ I :: lawDs L td od ro re, @Ne Nat le' d) :
    InvEndR h₀ L I (LawJ w L (i + 1)) own s₁ { s₁ with heap := h', toks := tk } := by
  have hoff : ∀ p ∈ (lo', W.listOf us'.toArray c3) :: (le', W.listOf vs'.toArray c4) :: (c', oc) :: rest, p.1 ∉ lawDs L td od ro re := fun p hp => by
    rcases List.mem_cons.mp hp with rfl | hp
    · exact fun hd => hlo _ (.tail _ hd) rfl
    rcases List.mem_cons.mp hp with rfl | hp
    · exact fun hd => hle _ (.tail _ hd) rfl
    rcases List.mem_cons.mp hp with rfl | hp
    · exact fun hd => hc _ (.tail _ hd) rfl
    · exact S.off p hp
  refine ⟨h', tk, m', K, (td, to) :: (od, oo) :: (ro, W.listOf us.toArray c) :: (re, W.listOf vs.toArray c2) :: (623, tabObj ps) :: (L + 1 + 1 + 1, cto) :: (L + 1 + 1 + 1 + 1, cwo) :: (lo', W.listOf us'.toArray c3) :: (le', W.listOf vs'.toArray c4) :: (c', oc) :: rest, rfl, F, N, ?_, hown, ?_, ?_⟩
  · simp only [List.forall_mem_cons]
    exact ⟨mtd, mod, mro, mre, mP, mct, mcw, mlo, mle, mc, hrest⟩
  · simp only [List.forall_mem_cons] at hId ⊢
    exact ⟨hId.1, hId.2.1, hId.2.2.1, hId.2.2.2.1, hId.2.2.2.2.1, hId.2.2.2.2.2.1, hId.2.2.2.2.2.2.1, hlo _ (.head _), hle _ (.head _), hc _ (.head _), hI⟩
  · have sub : ∀ p ∈ rest, p ∈ (lo', W.listOf us'.toArray c3) :: (le', W.listOf vs'.toArray c4) :: (c', oc) :: rest := fun p hp => .tail _ (.tail _ (.tail _ hp))
    refine ⟨td, od, ro, re, run, tl, lo', le', to, oo, cto, cwo, cro, cio, g', TT, tt, tb, te, tr, be, en, er, us, vs, us', vs', tlv, tns, rows, rows2, c, c2, c3, c4, ctl, ps, _, hm, rfl, ?_⟩
    have hg0 := S.hg
    have e9 : 5000 + 1000 * (i + 1) = 5000 + 1000 * i + 1000 := by omega
    exact { hto := hto, hg := ⟨by omega, by omega⟩, hoo := hoo, hTT := S.hTT, hbe := S.hbe, hen := S.hen, her := S.her, mlo := .head _, mle := .tail _ (.head _), s1 := s1, s2 := s2, s3 := s3, s4 := s4, r1 := (by rw [e9]; exact r1), r2 := (by rw [e9]; exact r2), hR := S.hR.mono sub, mtl := sub _ S.mtl, htl := S.htl, hln := S.hln, mcr := sub _ S.mcr, dcr := S.dcr, mci := sub _ S.mci, dci := S.dci, dct := dct, dcw := dcw, tab := .inr ⟨c', oc, vcs, tq, eps, .tail _ (.tail _ (.head _)), ec1, ec2, fun d hd => hc d (.tail _ hd)⟩, off := hoff, nd := S.nd }
theorem RowsN.len {n : Nat} {rows : List PySem.Str} (h : RowsN n rows) : rows.length ≤ 1000 := h.1
theorem TabInv.mono {l c : Nat} {q : PySem.Str} {ps : Array Value} {news news' : List (Addr × Obj)} {ds : List Addr} (h : TabInv l c q ps news ds) (hs : ∀ p ∈ news, p ∈ news') : TabInv l c q ps news' ds := by
  rcases h with h | ⟨c', oc, vs, t, h1, h2, h3⟩
  · exact .inl h
  · exact .inr ⟨c', oc, vs, t, h1, hs _ h2, h3⟩
theorem TabInv.more {l c : Nat} {q : PySem.Str} {ps : Array Value} {news : List (Addr × Obj)} {ds : List Addr} {I : Addr} (h : TabInv l c q ps news ds) (hI : ∀ p ∈ news, p.1 ≠ I) : TabInv l c q ps news (I :: ds) := by
  rcases h with h | ⟨c', oc, vs, t, h1, h2, h3, h4, h5⟩
  · exact .inl h
  · exact .inr ⟨c', oc, vs, t, h1, h2, h3, h4, fun d hd => by
      rcases List.mem_cons.mp hd with rfl | hd
      · exact hI _ h2
      · exact h5 d hd⟩
section
variable {w : World} {A : Around} {E : Value → Shared → Prop} {s : Shared} {h₀ : Heap} {L : Addr} {m : PySem.Str → Option Value} {value slice : PySem.Expr} {k : Int} {u : Tok} {Q : Value → Shared → Prop}
theorem item_words (F : Fr h₀ L s.heap m) (X : (hpK w.params).In h₀) (h0 : 0 ≤ k) (h1 : k < 4) (h : ∀ x t, x ∈ wordsL → Q (.str x t) s)
    (hs : subscripted slice false (.ref 579) (.int k u) = operate [.ref 579, .int k u] (getItem (.ref 579) (.int k u)) := by with_unfolding_all rfl) :
    wpAny (model PR w) A (subscriptTail value slice (.ref 579) (.int k u)) Q E s := by
  obtain ⟨vs, hl, hv⟩ := words_at (X.keeps F.keep)
  exact item_mem hl hv h0 (by show k < 4; exact h1) (by decide) h hs
theorem ne_same {a b : Addr} {vs us : List Value} {ns : List PySem.Str} (hl : s.heap.IsList a vs.toArray) (hi : PyProof.Rows.StrsAre vs ns) (hl' : s.heap.IsList b us.toArray) (hi' : PyProof.Rows.StrsAre us ns) (h1 : ∀ x ∈ ns, OkS x) (hu : A.units + 64 < cLine)
    (h : Q (.bool false) s) : wpAny (model PR w) A (compareOp .NotEq (.ref a) (.ref b)) Q E s :=
  ne_strs hl hi hl' hi' h1 h1 hu (by simpa using h)
end
theorem RowsOk.all {rows : List PySem.Str} (h : RowsOk rows) : ∀ z ∈ rows, OkS z := h.2.2
theorem nd_facts {L td od ro re : Addr} (h : (lawDs L td od ro re).Nodup) : NeA td od ∧ NeA td ro ∧ NeA td re ∧ NeA td 623 ∧ NeA td (L + 1 + 1 + 1) ∧ NeA td (L + 1 + 1 + 1 + 1) ∧ NeA od ro ∧ NeA od re ∧ NeA od 623 ∧ NeA od (L + 1 + 1 + 1) ∧ NeA od (L + 1 + 1 + 1 + 1) ∧ NeA ro re ∧ NeA ro 623 ∧ NeA ro (L + 1 + 1 + 1) ∧ NeA ro (L + 1 + 1 + 1 + 1) ∧ NeA re 623 ∧ NeA re (L + 1 + 1 + 1) ∧ NeA re (L + 1 + 1 + 1 + 1) ∧ NeA 623 (L + 1 + 1 + 1) ∧ NeA 623 (L + 1 + 1 + 1 + 1) ∧ NeA (L + 1 + 1 + 1) (L + 1 + 1 + 1 + 1) := by
  simp only [lawDs, List.nodup_cons, List.mem_cons, List.not_mem_nil, or_false, not_or, not_false_eq_true, List.nodup_nil, and_true] at h
  obtain ⟨⟨a1, a2, a3, a4, a5, a6⟩, ⟨b1, b2, b3, b4, b5⟩, ⟨c1, c2, c3, c4⟩, ⟨d1, d2, d3⟩, ⟨e1, e2⟩, f1⟩ := h
  exact ⟨⟨a1⟩, ⟨a2⟩, ⟨a3⟩, ⟨a4⟩, ⟨a5⟩, ⟨a6⟩, ⟨b1⟩, ⟨b2⟩, ⟨b3⟩, ⟨b4⟩, ⟨b5⟩, ⟨c1⟩, ⟨c2⟩, ⟨c3⟩, ⟨c4⟩, ⟨d1⟩, ⟨d2⟩, ⟨d3⟩, ⟨e1⟩, ⟨e2⟩, ⟨f1⟩⟩
theorem ne8 {L I c td od ro re : Addr} (h : ∀ d ∈ I :: lawDs L td od ro re, @Ne Nat c d) : NeA c I ∧ NeA c td ∧ NeA c od ∧ NeA c ro ∧ NeA c re ∧ NeA c 623 ∧ NeA c (L + 1 + 1 + 1) ∧ NeA c (L + 1 + 1 + 1 + 1) := by
  simp only [lawDs, List.forall_mem_cons] at h
  exact ⟨⟨h.1⟩, ⟨h.2.1⟩, ⟨h.2.2.1⟩, ⟨h.2.2.2.1⟩, ⟨h.2.2.2.2.1⟩, ⟨h.2.2.2.2.2.1⟩, ⟨h.2.2.2.2.2.2.1⟩, ⟨h.2.2.2.2.2.2.2.1⟩⟩
theorem ne8' {L I c td od ro re : Addr} (h : NeA c I ∧ NeA c td ∧ NeA c od ∧ NeA c ro ∧ NeA c re ∧ NeA c 623 ∧ NeA c (L + 1 + 1 + 1) ∧ NeA c (L + 1 + 1 + 1 + 1)) : ∀ d ∈ I :: lawDs L td od ro re, @Ne Nat c d := by
  simp only [lawDs, List.forall_mem_cons]
  exact ⟨h.1.out, h.2.1.out, h.2.2.1.out, h.2.2.2.1.out, h.2.2.2.2.1.out, h.2.2.2.2.2.1.out, h.2.2.2.2.2.2.1.out, h.2.2.2.2.2.2.2.out, List.forall_mem_nil _⟩
theorem neI {L I td od ro re : Addr} (h : ∀ d ∈ lawDs L td od ro re, @Ne Nat d I) : NeA td I ∧ NeA od I ∧ NeA ro I ∧ NeA re I ∧ NeA 623 I ∧ NeA (L + 1 + 1 + 1) I ∧ NeA (L + 1 + 1 + 1 + 1) I := by
  simp only [lawDs, List.forall_mem_cons] at h
  exact ⟨⟨h.1⟩, ⟨h.2.1⟩, ⟨h.2.2.1⟩, ⟨h.2.2.2.1⟩, ⟨h.2.2.2.2.1⟩, ⟨h.2.2.2.2.2.1⟩, ⟨h.2.2.2.2.2.2.1⟩⟩
end TQLaw4
end Mine
namespace Mine
section TQLaw5
open PySem PySem.W PyProof.Rows PySem.Spec PySem.Calls
open MineHd (hpK vwK hdT)
local macro_rules | `(tactic| k_all) => `(tactic| assumption)
theorem tab_triples {l c : Nat} {q : PySem.Str} {ps : Array Value} {news : List (Addr × Obj)} {ds : List Addr} (h : TabInv l c q ps news ds) : TriplesOk ps.toList := by
  rcases h with rfl | ⟨c', oc, vs, t, rfl, _⟩
  · exact True.intro
  · simp [TriplesOk, rawInt]
theorem tab_none {l c : Nat} {q : PySem.Str} {ps : Array Value} {news : List (Addr × Obj)} {ds : List Addr} {pos : Pos} (h : TabInv l c q ps news ds) (hl : l ≠ pos.line) : codeAmong pos ps.toList = none := by
  rcases h with rfl | ⟨c', oc, vs, t, rfl, _⟩
  · rfl
  · simp only [codeAmong, rawInt]
    simp
    intro e
    exact absurd (Int.ofNat.inj e) hl
theorem empty_word : ∀ t ∈ [PySem.Str.ofString ""], t ∈ wordsL := by
  intro t ht
  rw [List.mem_singleton.mp ht]
  simp [wordsL]
end TQLaw5
end Mine
namespace Mine
section TQLaw6
open PySem PySem.W PyProof.Rows PySem.Spec PySem.Calls
open MineHd (hpK vwK hdT)
local macro_rules | `(tactic| k_all) => `(tactic| assumption)
/-- what the loop's turn shows, for any continuation -/
def TurnP (w : World) (M : Model) (A : Around) (env : Env) (h₀ : Heap) (sS : Shared) (L : Addr) (b : List Stmt) : Prop :=
  ∀ (Q : Flow → Shared → Prop) (E : Value → Shared → Prop) (i : Nat) (k : Int) (t : Tok) m₁ news₁ h tk own I oI, i < 10 → (I, oI) ∈ own → (∀ p ∈ own, p.1 = I) → (∀ p ∈ news₁, p.1 ≠ I) → LawJ w L i m₁ news₁ → Fr h₀ L h (fun y => if y = PySem.Str.ofString "_" then some (.int k t) else m₁ y) → News h₀ L h (news₁ ++ own) →
    wpAny M A (execs b env) (InvPostR h₀ L I (LawJ w L (i + 1)) own { sS with heap := h, toks := tk } Q) E { sS with heap := h, toks := tk }
theorem withTurn {M : Model} {A : Around} {E : Value → Shared → Prop} {s : Shared} {env : Env} {h₀ : Heap} (w : World) (L : Addr) {m : PySem.Str → Option Value} {stmts : List Stmt} {t it : PySem.Expr} {b oe : List Stmt} {pos : Pos} {Q : Flow → Shared → Prop} (_ : Fr h₀ L s.heap m) (n : Nat)
   (_ : stmts[n]? = some (.For t it b oe pos)) (T : TurnP w M A env h₀ s L b) (k : TurnP w M A env h₀ s L b → wpAny M A (execs stmts env) Q E s) : wpAny M A (execs stmts env) Q E s := k T
theorem RowsN.up {n : Nat} {rows : List PySem.Str} (h : RowsN n rows) : RowsN (n + 1000) rows := h.mono (by omega)
theorem rowsN_nil (n : Nat) : RowsN n [] := ⟨by simp, by simp, by simp⟩
theorem start_J {w : World} {L td od ro re run tl lo le : Addr} {m : PySem.Str → Option Value} {K fr : List (Addr × Obj)} {to oo cto cwo cro cio : Obj} {g TT : Int} {tt tb te tr : Tok} {be en er : PySem.Str} {us us' tlv : List Value} {tns : List Int} {rows : List PySem.Str} {c c2 c3 c4 ctl : Nat}
    (hm : m (PySem.Str.ofString "own") = some (.ref od))
    (mtd : (td, to) ∈ K) (mod : (od, oo) ∈ K) (mro : (ro, W.listOf us.toArray c) ∈ K) (mre : (re, W.listOf #[] c2) ∈ K) (mP : (623, tabObj #[]) ∈ K) (mct : (L + 1 + 1 + 1, cto) ∈ K) (mcw : (L + 1 + 1 + 1 + 1, cwo) ∈ K) (mcr : (L + 1 + 1, cro) ∈ K) (mci : (L + 1, cio) ∈ K)
    (mlo : (lo, W.listOf us'.toArray c3) ∈ K) (mle : (le, W.listOf #[] c4) ∈ K) (mtl : (tl, W.listOf tlv.toArray ctl) ∈ K) (hfr : ∀ p ∈ fr, p ∈ K)
    (hto : TinIs w to tl g) (hg : 0 ≤ g ∧ g ≤ 100) (hoo : OwnIs w oo TT tt le be tb en te er tr lo) (hTT : 0 ≤ TT ∧ TT ≤ 40) (hbe : be ∈ betL) (hen : en ∈ endL) (her : er ∈ errsL)
    (s1 : PyProof.Rows.StrsAre us rows) (s2 : PyProof.Rows.StrsAre us' rows) (r1 : RowsN 5000 rows) (hR : RunIs w fr run ro re be en er TT) (htl : IntsAre tlv tns) (hln : tns.length ≤ 63)
    (dcr : cro.data = .cell (some (.ref run))) (dci : cio.data = .cell (some (.ref td))) (dct : ∃ v, cto.data = .cell v) (dcw : ∃ v, cwo.data = .cell v)
    (nd : NeA td od ∧ NeA td ro ∧ NeA td re ∧ NeA td 623 ∧ NeA td (L + 1 + 1 + 1) ∧ NeA td (L + 1 + 1 + 1 + 1) ∧ NeA od ro ∧ NeA od re ∧ NeA od 623 ∧ NeA od (L + 1 + 1 + 1) ∧ NeA od (L + 1 + 1 + 1 + 1) ∧ NeA ro re ∧ NeA ro 623 ∧ NeA ro (L + 1 + 1 + 1) ∧ NeA ro (L + 1 + 1 + 1 + 1) ∧ NeA re 623 ∧ NeA re (L + 1 + 1 + 1) ∧ NeA re (L + 1 + 1 + 1 + 1) ∧ NeA 623 (L + 1 + 1 + 1) ∧ NeA 623 (L + 1 + 1 + 1 + 1) ∧ NeA (L + 1 + 1 + 1) (L + 1 + 1 + 1 + 1))
    (nlo : ∀ d ∈ lawDs L td od ro re, @Ne Nat lo d) (nle : ∀ d ∈ lawDs L td od ro re, @Ne Nat le d) (ntl : ∀ d ∈ lawDs L td od ro re, @Ne Nat tl d) (nL2 : ∀ d ∈ lawDs L td od ro re, @Ne Nat (L + 1 + 1) d) (nL1 : ∀ d ∈ lawDs L td od ro re, @Ne Nat (L + 1) d)
    (o1 : ∀ p ∈ fr, p.1 ≠ td) (o2 : ∀ p ∈ fr, p.1 ≠ od) (o3 : ∀ p ∈ fr, p.1 ≠ ro) (o4 : ∀ p ∈ fr, p.1 ≠ re) (o5 : ∀ p ∈ fr, p.1 ≠ 623) (o6 : ∀ p ∈ fr, p.1 ≠ L + 1 + 1 + 1) (o7 : ∀ p ∈ fr, p.1 ≠ L + 1 + 1 + 1 + 1) :
    ∃ news, (∀ p ∈ news, p ∈ K) ∧ LawJ w L 0 m news := by
  refine ⟨(td, to) :: (od, oo) :: (ro, W.listOf us.toArray c) :: (re, W.listOf ([] : List Value).toArray c2) :: (623, tabObj #[]) :: (L + 1 + 1 + 1, cto) :: (L + 1 + 1 + 1 + 1, cwo) :: (lo, W.listOf us'.toArray c3) :: (le, W.listOf ([] : List Value).toArray c4) :: (tl, W.listOf tlv.toArray ctl) :: (L + 1 + 1, cro) :: (L + 1, cio) :: fr, ?_, ?_⟩
  · simp only [List.forall_mem_cons]
    exact ⟨mtd, mod, mro, mre, mP, mct, mcw, mlo, mle, mtl, mcr, mci, hfr⟩
  · have hoff : ∀ p ∈ (lo, W.listOf us'.toArray c3) :: (le, W.listOf ([] : List Value).toArray c4) :: (tl, W.listOf tlv.toArray ctl) :: (L + 1 + 1, cro) :: (L + 1, cio) :: fr, p.1 ∉ lawDs L td od ro re := by
      simp only [List.forall_mem_cons]
      refine ⟨fun h => nlo _ h rfl, fun h => nle _ h rfl, fun h => ntl _ h rfl, fun h => nL2 _ h rfl, fun h => nL1 _ h rfl, fun p hp h => ?_⟩
      simp only [lawDs, List.mem_cons, List.not_mem_nil, or_false] at h
      rcases h with h | h | h | h | h | h | h
      · exact o1 p hp h
      · exact o2 p hp h
      · exact o3 p hp h
      · exact o4 p hp h
      · exact o5 p hp h
      · exact o6 p hp h
      · exact o7 p hp h
    have hnd : (lawDs L td od ro re).Nodup := by
      obtain ⟨a1, a2, a3, a4, a5, a6, b1, b2, b3, b4, b5, c1, c2, c3, c4, d1, d2, d3, e1, e2, f1⟩ := nd
      simp only [lawDs, List.nodup_cons, List.mem_cons, List.not_mem_nil, or_false, not_or, not_false_eq_true, List.nodup_nil, and_true]
      exact ⟨⟨a1.out, a2.out, a3.out, a4.out, a5.out, a6.out⟩, ⟨b1.out, b2.out, b3.out, b4.out, b5.out⟩, ⟨c1.out, c2.out, c3.out, c4.out⟩, ⟨d1.out, d2.out, d3.out⟩, ⟨e1.out, e2.out⟩, f1.out⟩
    exact ⟨td, od, ro, re, run, tl, lo, le, to, oo, cto, cwo, cro, cio, g, TT, tt, tb, te, tr, be, en, er, us, [], us', [], tlv, tns, rows, [], c, c2, c3, c4, ctl, #[], _, hm, rfl,
      { hto := hto, hg := ⟨hg.1, by omega⟩, hoo := hoo, hTT := hTT, hbe := hbe, hen := hen, her := her, mlo := .head _, mle := .tail _ (.head _), s1 := s1, s2 := s2, s3 := .nil, s4 := .nil, r1 := r1.mono (by omega), r2 := rowsN_nil _, hR := hR.mono fun p hp => .tail _ (.tail _ (.tail _ (.tail _ (.tail _ hp)))), mtl := .tail _ (.tail _ (.head _)), htl := htl, hln := hln, mcr := .tail _ (.tail _ (.tail _ (.head _))), dcr := dcr, mci := .tail _ (.tail _ (.tail _ (.tail _ (.head _)))), dci := dci, dct := dct, dcw := dcw, tab := .inl rfl, off := hoff, nd := hnd }⟩
theorem ne7 {L c td od ro re : Addr} (h : NeA c td ∧ NeA c od ∧ NeA c ro ∧ NeA c re ∧ NeA c 623 ∧ NeA c (L + 1 + 1 + 1) ∧ NeA c (L + 1 + 1 + 1 + 1)) : ∀ d ∈ lawDs L td od ro re, @Ne Nat c d := by
  simp only [lawDs, List.forall_mem_cons]
  exact ⟨h.1.out, h.2.1.out, h.2.2.1.out, h.2.2.2.1.out, h.2.2.2.2.1.out, h.2.2.2.2.2.1.out, h.2.2.2.2.2.2.out, List.forall_mem_nil _⟩
theorem law_loop {prog : Program} {w : World} {A : Around} {E : Value → Shared → Prop} {s sS : Shared} {env : Env} {h₀ : Heap} {L : Addr} {body : List Stmt} {Q : Flow → Shared → Prop} {r : Addr} {b₀ : Int} {t₀ u₀ v₀ : Tok} {m₀ : PySem.Str → Option Value} {K : List (Addr × Obj)}
    (T : TurnP w (model prog w) A env h₀ sS L body) (hL : env.locals = L) (hh : A.handled = none) (hr : IsRange s.heap r 0 b₀ 1 t₀ u₀ v₀) (hb : 0 ≤ b₀ ∧ b₀ ≤ 10) (F : Fr h₀ L s.heap m₀) (N : News h₀ L s.heap K) (hg : s.gens = sS.gens) (hd : s.drawn = sS.drawn) (ho : s.os = sS.os)
    (SJ : ∃ news, (∀ p ∈ news, p ∈ K) ∧ LawJ w L 0 m₀ news)
    (done : ∀ i m₁ nx h tk, i ≤ 10 → LawJ w L i m₁ nx → Fr h₀ L h m₁ → News h₀ L h nx → Q .next { sS with heap := h, toks := tk }) :
    wpAny (model prog w) A (pyIter (.ref r)) (fun it s₂ => LoopAtV prog w A h₀ env (PySem.Str.ofString "_") body Q E it s₂) E s := by
  subst hL
  obtain ⟨news, hs, hJ⟩ := SJ
  obtain ⟨sh, sg, sd, st, so⟩ := s
  dsimp only at hg hd ho
  subst hg; subst hd; subst ho
  have e2 := range_ok (a := 0) (r := b₀) (by omega) (by omega) (by omega) (by omega)
  refine iter_rangeG (n := (b₀ - 0).toNat) (LawJ w env.locals) hh hr e2.1 e2.2 F (fun p hp => N p (hs p hp)) hJ ?_ ?_
  · intro i k t m₁ news₁ h tk own I oI hi h1 h2 h3 h4 h5 h6
    exact T _ _ i k t m₁ news₁ h tk own I oI (by omega) h1 h2 h3 h4 h5 h6
  · intro m₁ nx h tk h1 h2 h3
    exact done _ m₁ nx h tk (by omega) h1 h2 h3
end TQLaw6
end Mine
namespace Mine
section TQLaw7
open PySem PySem.W PyProof.Rows PySem.Spec PySem.Calls
open MineHd (hpK vwK hdT)
local macro_rules | `(tactic| k_all) => `(tactic| assumption)
def FinP (w : World) (M : Model) (A : Around) (env : Env) (h₀ : Heap) (sS : Shared) (L : Addr) (ss : List Stmt) (Q : Flow → Shared → Prop) (E : Value → Shared → Prop) : Prop :=
  ∀ (i : Nat) m₁ news₁ h tk, i ≤ 10 → LawJ w L i m₁ news₁ → Fr h₀ L h m₁ → News h₀ L h news₁ → wpAny M A (execs ss env) Q E { sS with heap := h, toks := tk }
theorem withTurn2 {M : Model} {A : Around} {E : Value → Shared → Prop} {s : Shared} {env : Env} {h₀ : Heap} (w : World) (L : Addr) {m : PySem.Str → Option Value} {stmts : List Stmt} {t it : PySem.Expr} {b oe ss : List Stmt} {pos : Pos} {Q : Flow → Shared → Prop} (_ : Fr h₀ L s.heap m) (n : Nat)
   (_ : stmts.drop n = .For t it b oe pos :: ss) (T : TurnP w M A env h₀ s L b) (Z : FinP w M A env h₀ s L ss Q E) (k : TurnP w M A env h₀ s L b → FinP w M A env h₀ s L ss Q E → wpAny M A (execs stmts env) Q E s) : wpAny M A (execs stmts env) Q E s := k T Z
theorem ne7r {L c td od ro re : Addr} (h : ∀ d ∈ lawDs L td od ro re, @Ne Nat c d) : NeA c td ∧ NeA c od ∧ NeA c ro ∧ NeA c re ∧ NeA c 623 ∧ NeA c (L + 1 + 1 + 1) ∧ NeA c (L + 1 + 1 + 1 + 1) := by
  simp only [lawDs, List.forall_mem_cons] at h
  exact ⟨⟨h.1⟩, ⟨h.2.1⟩, ⟨h.2.2.1⟩, ⟨h.2.2.2.1⟩, ⟨h.2.2.2.2.1⟩, ⟨h.2.2.2.2.2.1⟩, ⟨h.2.2.2.2.2.2.1⟩⟩
section
variable {prog : Program} {w : World} {A : Around} {E : Value → Shared → Prop} {s : Shared} {h₀ : Heap} {L : Addr} {news : List (Addr × Obj)} {a b : Addr} {oa ob : Obj} {Q : Value → Shared → Prop}
theorem eq_ssE {x y : PySem.Str} {t t2 t' t2' : Tok} (N : News h₀ L s.heap news) (ha : (a, oa) ∈ news) (hb : (b, ob) ∈ news) (ea : oa = tupO [.str x t, .str y t2]) (eb : ob = tupO [.str x t', .str y t2']) (hx : OkS x) (hy : OkS y) (hu : A.units + 64 < cLine)
    (h : Q (.bool true) s) : wpAny (model prog w) A (compareOp .Eq (.ref a) (.ref b)) Q E s := by
  subst ea; subst eb; exact eq_ss N ha hb hx hy hu h
theorem eq_siE {x : PySem.Str} {k : Int} {t t2 t' t2' : Tok} (N : News h₀ L s.heap news) (ha : (a, oa) ∈ news) (hb : (b, ob) ∈ news) (ea : oa = tupO [.str x t, .int k t2]) (eb : ob = tupO [.str x t', .int k t2']) (hx : OkS x) (hu : A.units + 64 < cLine)
    (h : Q (.bool true) s) : wpAny (model prog w) A (compareOp .Eq (.ref a) (.ref b)) Q E s := by
  subst ea; subst eb; exact eq_si N ha hb hx hu h
end
end TQLaw7
end Mine
namespace Mine
section TQWork
open PySem PySem.W PyProof.Rows PySem.Spec PySem.Calls
open MineHd (hpK vwK hdT)
local macro_rules | `(tactic| k_all) => `(tactic| assumption)
local macro_rules | `(tactic| walk_at $s:str) => `(tactic| k_extra $s)
theorem printR_i {T : Int} {i : Nat} {be en : PySem.Str} {rows rows' ts : List PySem.Str} (hi : i ≤ 10) (h : RowsN (5000 + 1000 * i) rows) (hT : T ≤ 40) (hbe : be ∈ betL) (hen : en ∈ endL) (hts : ∀ t ∈ ts, t ∈ wordsL) (e : printR T be en rows ts = .ok rows') : RowsN (5000 + 1000 * i + 1000) rows' ∧ RowsOk rows' :=
  ⟨printR_rows h hT hbe hen hts e, (printR_rows h hT hbe hen hts e).ok (by omega)⟩
theorem warnR_i {T : Int} {i : Nat} {er : PySem.Str} {rows rows' ts : List PySem.Str} (hi : i ≤ 10) (h : RowsN (5000 + 1000 * i) rows) (hT : T ≤ 40) (her : er ∈ errsL) (hts : ∀ t ∈ ts, t ∈ wordsL) (e : warnR T er rows ts = .ok rows') : RowsN (5000 + 1000 * i + 1000) rows' ∧ RowsOk rows' :=
  ⟨warnR_rows h hT her hts e, (warnR_rows h hT her hts e).ok (by omega)⟩
section
variable {prog : Program} {w : World} {A : Around} {E : Value → Shared → Prop} {s : Shared} {h₀ : Heap} {L : Addr} {news : List (Addr × Obj)} {a b : Addr} {oa ob : Obj} {Q : Value → Shared → Prop}
theorem ne_ssE {x y : PySem.Str} {t t2 t' t2' : Tok} (N : News h₀ L s.heap news) (ha : (a, oa) ∈ news) (hb : (b, ob) ∈ news) (ea : oa = tupO [.str x t, .str y t2]) (eb : ob = tupO [.str x t', .str y t2']) (hx : OkS x) (hy : OkS y) (hu : A.units + 64 < cLine)
    (h : Q (.bool false) s) : wpAny (model prog w) A (compareOp .NotEq (.ref a) (.ref b)) Q E s := by
  subst ea; subst eb; exact ne_ss N ha hb hx hy hu h
theorem ne_siE {x : PySem.Str} {k : Int} {t t2 t' t2' : Tok} (N : News h₀ L s.heap news) (ha : (a, oa) ∈ news) (hb : (b, ob) ∈ news) (ea : oa = tupO [.str x t, .int k t2]) (eb : ob = tupO [.str x t', .int k t2']) (hx : OkS x) (hu : A.units + 64 < cLine)
    (h : Q (.bool false) s) : wpAny (model prog w) A (compareOp .NotEq (.ref a) (.ref b)) Q E s := by
  subst ea; subst eb; exact ne_si N ha hb hx hu h
end
section
variable {h₀ h : Heap} {L ta e dx : Addr} {oe : Obj} {es : List DictEntry} {n : Nat} {rest : List (Addr × Obj)} {x y z : PySem.Str} {t t2 : Tok}
theorem newsRef {z' : PySem.Str} (N : News h₀ L h ((ta, tupO [.str z t, .str z' t2]) :: (e, oe) :: (dx, dictOf es n) :: rest)) (_ : DieAt oe dx) (hz : heardR x = z') (hh : heardR x = y) : News h₀ L h ((ta, tupO [.str z t, .str y t2]) :: rest) := by
  rw [← hz, hh] at N; exact newsDrop3 N
theorem newsRefT (N : News h₀ L h ((ta, tupO [.str z t, .str (PySem.Str.ofString "refused") t2]) :: (e, oe) :: (dx, dictOf es n) :: rest)) (D : DieAt oe dx) (hc : (Txt.slice x none (some 13) == PySem.Str.ofString "Out of memory") = true) (hh : heardR x = y) : News h₀ L h ((ta, tupO [.str z t, .str y t2]) :: rest) :=
  newsRef N D (heardR_t hc) hh
theorem newsRefF (N : News h₀ L h ((ta, tupO [.str z t, .str x t2]) :: (e, oe) :: (dx, dictOf es n) :: rest)) (D : DieAt oe dx) (hc : (Txt.slice x none (some 13) == PySem.Str.ofString "Out of memory") = false) (hh : heardR x = y) : News h₀ L h ((ta, tupO [.str z t, .str y t2]) :: rest) :=
  newsRef N D (heardR_f hc) hh
end
section
variable {w : World} {h₀ h' : Heap} {L I C D tl : Addr} {m : PySem.Str → Option Value} {s₁ : Shared} {oI oC oD o9 o' : Obj} {tk : Nat} {gg : Obj → List (Addr × Obj)} {g' : Int} {x : PySem.Str} {t : Tok}
theorem words_end (F : Fr h₀ L h' m) (N : News h₀ L h' ((I, oI) :: (C, oC) :: (D, oD) :: gg o')) (off : LCg.Off3 I C D (gg o9)) (ha : (gg o9).map (·.1) = (gg o').map (·.1)) (hT : TinIs w o' tl g') (hx : x ∈ wordsL) :
    LCg.CompEnd h₀ L m s₁ I oI C oC D oD (fun _ => True) (fun y' news' => ∃ o'' xx tt, news' = gg o'' ∧ TinIs w o'' tl g' ∧ y' = .str xx tt ∧ xx ∈ wordsL) (.str x t) { s₁ with heap := h', toks := tk } :=
  LCg.CompEnd.intro F N _ (fun _ hp => hp) (off3_same ha off) trivial ⟨_, _, _, rfl, hT, rfl, hx⟩
end
theorem sub_cons {a b : List (Addr × Obj)} {q : Addr × Obj} (h : ∀ p ∈ a, p ∈ b) : ∀ p ∈ a, p ∈ q :: b := fun p hp => .tail _ (h p hp)
local macro_rules | `(tactic| k_get) => `(tactic| assumption)
local macro_rules | `(tactic| k_mem) => `(tactic| first | assumption | exact List.Mem.head _ | (refine List.mem_cons_of_mem _ ?_; k_mem))
local macro_rules | `(tactic| k_memK) => `(tactic| k_mem)
local macro_rules | `(tactic| k_updF) => `(tactic| assumption)
theorem said_QWork_0 : True := by
  k_with_none
  k_with "compareOp NotIn str ref" => (k_here; k_dflt (refine' kdg_notin (knd := PySem.strKind _ _) ?N ?m ?d ?lo (strKind_is _ _ _ _) true ?b ?_; (case N => k_asm); (case m => k_mem); (case d => assumption); (case lo => assumption); (case b => first | assumption | rfl); k_whole))
  k_with "subscriptTail" => (k_here; (with_reducible show wpAny _ _ (subscriptTail _ _ (Value.ref _) (Value.str _ _)) _ _ _); k_dflt (refine' kda_item (knd := PySem.strKind _ _) ?N ?m ?d (strKind_is _ _ _ _) ?v ?_; (case N => k_asm); (case m => k_mem); (case d => assumption); (case v => first | assumption | rfl); k_whole))
  k_with "subscriptTail Name Constant ref str" => (k_here; (with_reducible show wpAny _ _ (subscriptTail _ _ (Value.ref _) (Value.str _ _)) _ _ _); k_dflt (refine' kda_item (knd := PySem.strKind _ _) ?N ?m ?d (strKind_is _ _ _ _) ?v ?_; (case N => k_asm); (case m => k_mem); (case d => assumption); (case v => first | assumption | rfl); k_whole))
  k_with "call ref" => (k_here; (with_reducible show wpAny _ _ (call (Value.ref 329) _) _ _ _); k_dflt ((refine' print_led _ _ _ _ _ _ _ _ _ _ _ _ _ _ _ _ _ _ _ ?B ?F ?X ?T ?hk _ _ _ _ _ _ _ _ _ _ _ _ _ _ _ _ ?N ?U ?R ?hrr ?hro ?m0 ?n0 ?hts ?hn ?hl ?hv ?hr ?hbe ?hen ?hTT ?hd ?hu ?_ ?_); (case B => k_asm); (case F => k_asm); (case X => k_asm); (case T => k_asm); (case hk => first | exact rfl | assumption); (case N => k_asm); (case R => assumption); (case U => k_updF); (case hrr => first | assumption | exact sub_cons (by assumption) | (intro p9 hp9; repeat (first | exact hp9 | refine List.mem_cons_of_mem _ ?_))); (case hro => assumption); (case m0 => k_mem); (case n0 => k_ne); (case hts => first | assumption | exact .cons _ _ .nil); (case hn => first | assumption | exact Nat.le_of_ble_eq_true rfl | omega); (case hl => assumption); (case hv => assumption); (case hr => assumption); (case hbe => assumption); (case hen => assumption); (case hTT => first | assumption | exact And.intro (by omega) (by omega)); (case hd => first | k_room | ktr_room); (case hu => first | exact Nat.le_of_ble_eq_true rfl | (simp only [units_in1, units_deeper, Around.mark_units, units_caller, cLine]; decide) | ktr_units); intro rs' us' c' h' tk' t' hc' hv' F' N'; (try dsimp only at N'); (try k_sweep); (try dsimp only); rotate_left; intro x' e' t' g' h' tk' hc' hh' hx' F' U' R'; (try dsimp only); (try dsimp only); rotate_left))
  k_with "call ref" => (k_here; (with_reducible show wpAny _ _ (call (Value.ref 515) _) _ _ _); k_dflt ((refine' warn_led _ _ _ _ _ _ _ _ _ _ _ _ _ _ _ _ _ _ _ ?B ?F ?X ?T ?hk _ _ _ _ _ _ _ _ _ _ _ _ _ _ _ _ ?N ?U ?R ?hrr ?hro ?m0 ?n0 ?hts ?hn ?hl ?hv ?hr ?her ?hTT ?hd ?hu ?_ ?_); (case B => k_asm); (case F => k_asm); (case X => k_asm); (case T => k_asm); (case hk => first | exact rfl | assumption); (case N => k_asm); (case R => assumption); (case U => k_updF); (case hrr => first | assumption | exact sub_cons (by assumption) | (intro p9 hp9; repeat (first | exact hp9 | refine List.mem_cons_of_mem _ ?_))); (case hro => assumption); (case m0 => k_mem); (case n0 => k_ne); (case hts => assumption); (case hn => first | assumption | exact Nat.le_of_ble_eq_true rfl | omega); (case hl => assumption); (case hv => assumption); (case hr => assumption); (case her => assumption); (case hTT => first | assumption | exact And.intro (by omega) (by omega)); (case hd => first | k_room | ktr_room); (case hu => first | exact Nat.le_of_ble_eq_true rfl | (simp only [units_in1, units_deeper, Around.mark_units, units_caller, cLine]; decide) | ktr_units); intro rs' us' c' h' tk' t' hc' hv' F' N'; (try dsimp only at N'); (try k_sweep); (try dsimp only); rotate_left; intro x' e' t' g' h' tk' hc' hh' hx' F' U' R'; (try dsimp only); (try dsimp only); rotate_left))
  k_with "call ref" => (k_here; (with_reducible show wpAny _ _ (call (Value.ref 508) _) _ _ _); k_dflt ((refine' die_led _ _ _ _ _ _ _ _ _ _ _ _ _ _ _ _ _ _ ?B ?F ?X ?T ?hk _ _ _ _ _ _ _ _ _ _ _ _ _ ?N ?R ?hrr ?m0 ?hts ?hn ?hl ?her ?hTT ?hd ?hu ?_ ?_); (case B => k_asm); (case F => k_asm); (case X => k_asm); (case T => k_asm); (case hk => first | exact rfl | assumption); (case N => k_asm); (case R => assumption); (case hrr => first | assumption | exact sub_cons (by assumption) | (intro p9 hp9; repeat (first | exact hp9 | refine List.mem_cons_of_mem _ ?_))); (case m0 => k_mem); (case hts => assumption); (case hn => first | assumption | exact Nat.le_of_ble_eq_true rfl | omega); (case hl => assumption); (case her => assumption); (case hTT => first | assumption | exact And.intro (by omega) (by omega)); (case hd => first | k_room | ktr_room); (case hu => first | exact Nat.le_of_ble_eq_true rfl | (simp only [units_in1, units_deeper, Around.mark_units, units_caller, cLine]; decide) | ktr_units); intro x' e' t' g' h' tk' hc' hh' ho' hx' F' U' R'; (try dsimp only); (try dsimp only); rotate_left; intro x' e' t' g' h' tk' hc' hh' hx' F' U' R'; (try dsimp only); (try dsimp only); rotate_left))
  k_with "call ref" => (k_here; (with_reducible show wpAny _ _ (call (Value.ref 621) [Value.ref _, Value.int 0 _, Value.ref _]) _ _ _); k_dflt ((refine' due0_led _ _ _ _ _ _ _ _ _ _ _ _ _ _ _ _ _ _ _ ?B ?F ?X ?T ?hk _ _ _ _ _ _ _ _ _ _ _ _ _ _ _ _ _ _ _ _ ?N ?U ?ho ?m0 ?n0 ?hv ?hr ?m1 ?n1 ?hts ?hn ?hl ?hbe ?hen ?her ?hTT ?hd ?hu ?_ ?_); (case B => k_asm); (case F => k_asm); (case X => k_asm); (case T => k_asm); (case hk => first | exact rfl | assumption); (case N => k_asm); (case U => k_updF); (case ho => assumption); (case m0 => k_mem); (case n0 => k_ne); (case hv => assumption); (case hr => assumption); (case m1 => k_mem); (case n1 => k_ne); (case hts => first | assumption | exact .cons _ _ .nil); (case hn => first | assumption | exact Nat.le_of_ble_eq_true rfl | omega); (case hl => assumption); (case hbe => assumption); (case hen => assumption); (case her => assumption); (case hTT => first | assumption | exact And.intro (by omega) (by omega)); (case hd => first | k_room | ktr_room); (case hu => first | exact Nat.le_of_ble_eq_true rfl | (simp only [units_in1, units_deeper, Around.mark_units, units_caller, cLine]; decide) | ktr_units); intro rs' us' c' oo' l' ta' h' tk' t' t2' hc' hv' F' ho' N' hq'; (try dsimp only at N'); (first | exact (said_no (by assumption) hc').elim | ((have hq9 := said_eq (by assumption) hc'); subst hq9; (obtain ⟨hrw', hrk'⟩ := printR_i (by assumption) (by assumption) (by assumption) (by assumption) (by assumption) (by assumption) hc'); clear hc'; (try k_sweep))); (try dsimp only); rotate_left; intro x' ta' h' tk' t' t2' hc' F' N'; (try dsimp only at N'); (first | exact (said_ok (by assumption) hc').elim | (clear hc'; (try k_sweep))); (try dsimp only); rotate_left))
  k_with "call ref" => (k_here; (with_reducible show wpAny _ _ (call (Value.ref 621) [Value.ref _, Value.int 1 _, Value.ref _]) _ _ _); k_dflt ((refine' due1_led _ _ _ _ _ _ _ _ _ _ _ _ _ _ _ _ _ _ _ ?B ?F ?X ?T ?hk _ _ _ _ _ _ _ _ _ _ _ _ _ _ _ _ _ _ _ _ ?N ?U ?ho ?m0 ?n0 ?hv ?hr ?m1 ?n1 ?hts ?hn ?hl ?hbe ?hen ?her ?hTT ?hd ?hu ?_ ?_); (case B => k_asm); (case F => k_asm); (case X => k_asm); (case T => k_asm); (case hk => first | exact rfl | assumption); (case N => k_asm); (case U => k_updF); (case ho => assumption); (case m0 => k_mem); (case n0 => k_ne); (case hv => assumption); (case hr => assumption); (case m1 => k_mem); (case n1 => k_ne); (case hts => first | assumption | exact .cons _ _ .nil); (case hn => first | assumption | exact Nat.le_of_ble_eq_true rfl | omega); (case hl => assumption); (case hbe => assumption); (case hen => assumption); (case her => assumption); (case hTT => first | assumption | exact And.intro (by omega) (by omega)); (case hd => first | k_room | ktr_room); (case hu => first | exact Nat.le_of_ble_eq_true rfl | (simp only [units_in1, units_deeper, Around.mark_units, units_caller, cLine]; decide) | ktr_units); intro rs' us' c' oo' l' ta' h' tk' t' t2' hc' hv' F' ho' N' hq'; (try dsimp only at N'); (first | exact (said_no (by assumption) hc').elim | ((have hq9 := said_eq (by assumption) hc'); subst hq9; (obtain ⟨hrw', hrk'⟩ := warnR_i (by assumption) (by assumption) (by assumption) (by assumption) (by assumption) hc'); clear hc'; (try k_sweep))); (try dsimp only); rotate_left; intro x' ta' h' tk' t' t2' hc' F' N'; (try dsimp only at N'); (first | exact (said_ok (by assumption) hc').elim | (clear hc'; (try k_sweep))); (try dsimp only); rotate_left))
  k_with "call ref" => (k_here; (with_reducible show wpAny _ _ (call (Value.ref 621) [Value.ref _, Value.int 2 _, Value.ref _]) _ _ _); k_dflt ((refine' due2_led _ _ _ _ _ _ _ _ _ _ _ _ _ _ _ _ _ _ _ ?B ?F ?X ?T ?hk _ _ _ _ _ _ _ _ _ _ _ _ _ _ _ _ _ _ _ _ ?N ?U ?ho ?m0 ?n0 ?hv ?hr ?m1 ?n1 ?hts ?hn ?hl ?hbe ?hen ?her ?hTT ?hd ?hu ?_ ?_); (case B => k_asm); (case F => k_asm); (case X => k_asm); (case T => k_asm); (case hk => first | exact rfl | assumption); (case N => k_asm); (case U => k_updF); (case ho => assumption); (case m0 => k_mem); (case n0 => k_ne); (case hv => assumption); (case hr => assumption); (case m1 => k_mem); (case n1 => k_ne); (case hts => first | assumption | exact .cons _ _ .nil); (case hn => first | assumption | exact Nat.le_of_ble_eq_true rfl | omega); (case hl => assumption); (case hbe => assumption); (case hen => assumption); (case her => assumption); (case hTT => first | assumption | exact And.intro (by omega) (by omega)); (case hd => first | k_room | ktr_room); (case hu => first | exact Nat.le_of_ble_eq_true rfl | (simp only [units_in1, units_deeper, Around.mark_units, units_caller, cLine]; decide) | ktr_units); intro x' ta' h' tk' t' t2' hc' F' N'; (try dsimp only at N'); (first | exact (said_no (by assumption) hc').elim | ((have hq9 := said_eq (by assumption) hc'); subst hq9; clear hc'; (try k_sweep))); (try dsimp only); rotate_left; intro x' ta' h' tk' t' t2' hc' F' N'; (try dsimp only at N'); (first | exact (said_ok (by assumption) hc').elim | (clear hc'; (try k_sweep))); (try dsimp only); rotate_left))
  k_with "compareOp NotEq ref ref" => (k_here; (with_reducible show wpAny _ _ (compareOp CmpOp.NotEq (Value.ref _) (Value.ref _)) _ _ _); k_dflt ((refine' ne_ssE ?k1 ?k2 ?k3 ?e1 ?e2 ?k4 ?k6 ?k5 ?_; (case k1 => k_asm); (case k2 => k_mem); (case e1 => first | (with_reducible exact rfl) | (unfold tupO; with_reducible exact rfl)); (case k3 => k_mem); (case e2 => first | (with_reducible exact rfl) | (unfold tupO; with_reducible exact rfl)); (case k4 => exact okS_of _); (case k6 => first | assumption | exact okS_of _); (case k5 => first | exact Nat.le_of_ble_eq_true rfl | units_room | ktr_units); k_whole)))
  k_with "compareOp NotEq ref ref" => (k_here; (with_reducible show wpAny _ _ (compareOp CmpOp.NotEq (Value.ref _) (Value.ref _)) _ _ _); k_dflt ((refine' ne_siE ?k1 ?k2 ?k3 ?e1 ?e2 ?k4 ?k5 ?_; (case k1 => k_asm); (case k2 => k_mem); (case e1 => first | (with_reducible exact rfl) | (unfold tupO; with_reducible exact rfl)); (case k3 => k_mem); (case e2 => first | (with_reducible exact rfl) | (unfold tupO; with_reducible exact rfl)); (case k4 => exact okS_of _); (case k5 => first | exact Nat.le_of_ble_eq_true rfl | units_room | ktr_units); k_whole)))
  k_with "compareOp NotEq ref ref" => (k_here; (with_reducible show wpAny _ _ (compareOp CmpOp.NotEq (Value.ref _) (Value.ref _)) _ _ _); k_dflt ((refine' ne_same ?k1 ?k2 ?k3 ?k4 ?k6 ?k5 ?_; (case k1 => is_list); (case k2 => assumption); (case k3 => first | (refine' News.isList ?N9 ?m9; (case N9 => k_asm); (case m9 => k_mem))); (case k4 => assumption); (case k6 => exact (RowsOk.all (by assumption))); (case k5 => first | exact Nat.le_of_ble_eq_true rfl | units_room | ktr_units); k_whole)))
  k_with "call ref" => (k_here; (with_reducible show wpAny _ _ (call (Value.ref 600) _) _ _ _); refine wpAny_call ?_; k_dflt (refine' code_heard ?k1 ?k2 ?k3 ?k4 ?k5 ?kA ?k6 ?k7 ?k8 ?k9 ?kB ?_ ?cK ?c2 ?c3 ?c4 ?c5; (case kA => exact rfl); (case k2 => k_asm); (case k1 => k_asm); (case k3 => k_asm); (case k4 => k_asm); (case k5 => k_asm); (case k6 => k_is); (case k7 => k_is); (case k8 => first | k_room | ktr_room); (case k9 => exact BindsTo.of_eq rfl); (case kB => exact locs rfl); (case cK => first | exact rfl | assumption); (case c2 => exact rfl); (case c3 => exact rfl); (case c4 => exact rfl); (case c5 => decide); k_whole; intro g' L' h' FG' F' N' B' X' T' D'; (try dsimp only); (try k_lift B'); (try k_fold)))
  k_with "noteFrame ref" => (k_here; k_dflt (refine' caught_V ?R ?F ?K ?U ?XB ?TB ?D ?T0 ?ex ?_; (case R => assumption); (case F => assumption); (case K => assumption); (case U => assumption); (case XB => assumption); (case TB => assumption); (case D => assumption); (case T0 => first | assumption | exact KtsTurn.refl); (case ex => k_is); k_whole); intro h' g' oe' dx' es' n' tk' T' F' N' hd' hv' K' X' P' D'; (try k_lift K'); (try k_sweep))
  k_with "getAttr ref" => (k_here; k_dflt (refine' get_dieV ?F ?X ?N ?m1 ?hda ?m2 ?hl ?hg ?hgt ?hm ?hh ?ha ?hn ?hv ?_; (case hda => assumption); (case F => k_asm); (case X => k_asm); (case hl => assumption); (case N => k_asm); (case m1 => k_mem); (case m2 => k_mem); (case hg => k_is); (case hgt => k_is); (case hm => k_is); (case hh => k_is); (case ha => k_is); (case hn => k_is); (case hv => exact rfl); k_whole))
  k_with "leaving ref" => (k_here; (k_dflt (refine' leave_onV ?k1 ?k2 ?k3 ?k4 ?_; (case k3 => assumption); (case k1 => assumption); (case k4 => assumption); (case k2 => assumption); k_whole); intro h' R' U'; (try dsimp only at R' U' ⊢)))
  k_with "eval Lambda" => (k_here; k_dflt (refine' kla_eval ?d0 ?_; (case d0 => exact rfl)); k_dflt (refine' lam_any ?F ?N ?T ?C ?cd ?U ?tab ?ds ?cl ?_; (case F => k_asm); (case N => k_asm); (case T => k_asm); (case cd => exact rfl); (case C => kn_code); (case U => k_updF); (case tab => (refine TabInv.mono (by assumption) ?_; intro p9 hp9; repeat (first | exact hp9 | refine List.mem_cons_of_mem _ ?_))); (case ds => (repeat (first | exact List.forall_mem_nil _ | refine List.forall_mem_cons.mpr ⟨⟨_, by k_mem⟩, ?_⟩))); (case cl => exact rfl); k_whole); intro f' c' oc' vs' t' ctv' ps' h' tk' F' N' d1' d2' eps' hc' l1' l2'; (try dsimp only at N'); (obtain ⟨n1', n2', n3', n4', n5', n6', n7', n8'⟩ := ne8 hc'); (try simp only [AllLt, and_true] at l1'); (try k_sweep))
  k_with "CompSrc" => (k_here; k_dflt (refine LCg.CompSrc.range (by rfl) (by k_asm) (by k_asm) (by assumption) (range_ok (by omega) (by omega) (by omega) (by omega)).1 (range_ok (by omega) (by omega) (by omega) (by omega)).2 (by rw [PySem.sizeLine_eq]; omega) ?_; intro g'; refine' comp_words ?U ?turn ?fin ?h0; (case U => k_updF); (case h0 => assumption); (case' turn => intro g9 o9 k9 t9 I9 oI9 C9 oC9 D9 m9 ys9 h9 tk9 E9 hC9 hx9 F9 N9 off9 ne9 neT9 hT9 hg9 hg9'; clear ne9; (obtain ⟨nT1, nT2, nT3⟩ := neT9); (try dsimp only at N9 off9)); (case' fin => intro ys9 ts9 o9 g9 hs9 hl9 hw9 hT9 hg9 hg9'; intro D' h' tk' F' N' off'; (try dsimp only at N' off'); (have hn9 : ts9.length ≤ 3 := by omega))))
  k_with "CompEnd" => (k_here; k_dflt (refine' words_end ?F ?N ?off ?ha ?T ?w; (case F => k_asm); (case T => assumption); (case N => k_asm); (case off => assumption); (case ha => rfl); (case w => assumption)))
  k_with "subscriptTail Name" => (k_here; (with_reducible show wpAny _ _ (subscriptTail _ _ (Value.ref 579) (Value.int _ _)) _ _ _); k_dflt (refine' item_words ?F ?X ?a ?b ?_ ?s; (case F => k_asm); (case X => k_asm); (case a => first | assumption | omega); (case b => first | assumption | omega); (case s => with_unfolding_all rfl); k_whole); intro x' t' hx')
  k_with "subscriptTail" => (k_here; (with_reducible show wpAny _ _ (subscriptTail (Expr.Tuple _ _ _) _ (Value.ref _) (Value.int _ _)) _ _ _); k_dflt (refine' item_three ?t ?a ?b ?_ ?_ ?_ ?s; (case t => exact News.isTup (by k_asm) (by k_mem)); (case a => first | assumption | omega); (case b => first | assumption | omega); (case s => with_unfolding_all rfl)); (all_goals (intro hk9; subst hk9)))
  k_with "call ref" => (k_here; (with_reducible show wpAny _ _ (call (Value.ref _) []) _ _ _); refine wpAny_call ?_; k_dflt (refine' kla_code ?k1 ?k2 ?k3 ?k4 ?k5 ?kA ?kF ?kK ?k6 ?k7 ?k8 ?k9 ?kB ?_ ?c2 ?c3 ?c4 ?c5; (case kA => exact rfl); (case kF => exact rfl); (case kK => first | exact rfl | assumption); (case k1 => k_asm); (case k2 => k_asm); (case k3 => k_asm); (case k4 => k_asm); (case k5 => k_asm); (case k6 => k_mem); (case k7 => exact codeRec_news (by k_asm) (by k_mem) (by assumption) (by assumption)); (case k8 => first | k_room | ktr_room); (case k9 => exact rfl); (case c5 => decide); (case kB => exact locs rfl); (case c2 => exact rfl); (case c3 => exact rfl); (case c4 => exact rfl); k_whole; intro g' L' h' FG' F' N' B' X' T'; (try dsimp only); (try k_lift B'); (try k_fold)))
  k_with "eval Name" => (k_here; k_dflt (refine' nameX_F ?N ?c ?m ?d ?_ ?a ?b; (case a => rfl); (case b => rfl); (case N => k_asm); (case c => rfl); (case m => assumption); (case d => assumption); k_whole))
  trivial
abbrev lamScope : Scope := { kind := .function, names := [(PySem.Str.ofString "run", .free), (PySem.Str.ofString "texts", .free), (PySem.Str.ofString "work", .free)], isGenerator := false, isCoroutine := false }
abbrev lamPars : Arguments := { posonlyargs := [], args := [], vararg := none, kwonlyargs := [], kw_defaults := [], kwarg := none, defaults := [] }
abbrev lamBody (p1 p2 p3 p4 p5 : Pos) : PySem.Expr := .Call (.Name (PySem.Str.ofString "work") p1) [.Name (PySem.Str.ofString "run") p2, .Name (PySem.Str.ofString "texts") p3, .Constant (.int 1) 0 p4] [] p5
abbrev lamClos (a b c : Addr) : List (PySem.Str × Addr) := [(PySem.Str.ofString "work", c), (PySem.Str.ofString "texts", b), (PySem.Str.ofString "run", a)]
theorem lam_clos {cn : PySem.Str} {cs : Scope} {L a Lr Lt Lw : Addr} {ccd : Value} {cl : List (PySem.Str × Addr)} (h1 : cl.lookup (PySem.Str.ofString "run") = some Lr) (h2 : cl.lookup (PySem.Str.ofString "texts") = some Lt) (h3 : cl.lookup (PySem.Str.ofString "work") = some Lw) :
    closureFor lamScope (envX cn cs L a ccd cl) = pure (lamClos Lr Lt Lw) := by
  have e1 : cellOf (envX cn cs L a ccd cl) (PySem.Str.ofString "run") = pure Lr := by unfold cellOf; show (match cl.lookup _ with | some c => _ | none => _) = _; rw [h1]
  have e2 : cellOf (envX cn cs L a ccd cl) (PySem.Str.ofString "texts") = pure Lt := by unfold cellOf; show (match cl.lookup _ with | some c => _ | none => _) = _; rw [h2]
  have e3 : cellOf (envX cn cs L a ccd cl) (PySem.Str.ofString "work") = pure Lw := by unfold cellOf; show (match cl.lookup _ with | some c => _ | none => _) = _; rw [h3]
  unfold closureFor lamScope lamClos
  simp [e1, e2, e3]
/-- the loop's lambda and what it closes over, as the ledger has them -/
structure LamIs (news : List (Addr × Obj)) (f run tx wk : Addr) (p1 p2 p3 p4 p5 : Pos) (qual : PySem.Str) (Lr Lt Lw c' : Addr) (crO ctO cwO oc : Obj) (name : PySem.Str) (pm ctv : Value) (vs : Array Value) (tq : Tok) : Prop where
  mf : (f, kla_obj name qual lamPars (lamBody p1 p2 p3 p4 p5) lamScope (lamClos Lr Lt Lw) pm c' ctv) ∈ news
  mc : (c', oc) ∈ news
  c1 : oc.data = .fields vs
  c2 : vs[1]? = some (.str qual tq)
  m1 : (Lr, crO) ∈ news
  m2 : (Lt, ctO) ∈ news
  m3 : (Lw, cwO) ∈ news
  e1 : crO.data = .cell (some (.ref run))
  e2 : ctO.data = .cell (some (.ref tx))
  e3 : cwO.data = .cell (some (.ref wk))
section
variable {w : World} {news : List (Addr × Obj)} {g : Obj → List (Addr × Obj)} {f run tx : Addr} {p1 p2 p3 p4 p5 : Pos} {qual : PySem.Str} {Lr Lt Lw c' : Addr} {crO ctO cwO oc : Obj} {name : PySem.Str} {pm ctv : Value} {qvs : Array Value} {tq : Tok}
  {ro re : Addr} {us : List Value} {rows : List PySem.Str} {c c0 : Nat} {vs : List Value} {ts : List PySem.Str} {be en er : PySem.Str} {TT : Int}
set_option maxHeartbeats 800000 in
theorem work_print (LI : LamIs news f run tx 329 p1 p2 p3 p4 p5 qual Lr Lt Lw c' crO ctO cwO oc name pm ctv qvs tq)
  (U : UpdF ro (W.listOf us.toArray c) news g) {rr : List (Addr × Obj)} (R : RunIs w rr run ro re be en er TT) (hrr : ∀ p ∈ rr, p ∈ news) (hro : ∀ p ∈ rr, p.1 ≠ ro) 
  (m0 : (tx, W.listOf vs.toArray c0) ∈ news) (n0 : @Ne Nat tx ro) (hts : PyProof.Rows.StrsAre vs ts) (hn : ts.length ≤ 3) (hl : ∀ t ∈ ts, t ∈ wordsL)
  (hv : PyProof.Rows.StrsAre us rows) (hr : RowsOk rows) (hbe : be ∈ betL) (hen : en ∈ endL) (hTT : 0 ≤ TT ∧ TT ≤ 40) :
  WorkIs w f news (fun v news' => ∃ rows' us' c' t', v = .int 1 t' ∧ news' = g (W.listOf us'.toArray c') ∧ Said (printR TT be en rows ts) (.ok rows') ∧ PyProof.Rows.StrsAre us' rows') (fun x => ∃ y, Said (printR TT be en rows ts) (.no y) ∧ heardR x = PySem.Str.ofString "refused") := by
  obtain ⟨mf, mc, c1, c2, m1, m2, m3, e1, e2, e3⟩ := LI
  intro PV LZ mean mg mb dp un gd cn cs a ccd cl outer A₀ base h₀ L m s Q E B F X T hk N hdp hun hret hrai
  obtain ⟨hp, gns, drw, tks, osx⟩ := s
  dsimp only at F N hret hrai ⊢
  k_steps
  all_goals (try dsimp only)
  · exact hret _ _ _ _ ⟨_, _, _, _, rfl, rfl, by assumption, by assumption⟩ (by assumption) (by assumption)
  · exact hrai _ _ _ _ _ _ ⟨_, by assumption, by assumption⟩ (by assumption) (by assumption) (by assumption) (by assumption)
set_option maxHeartbeats 800000 in
theorem work_warn (LI : LamIs news f run tx 515 p1 p2 p3 p4 p5 qual Lr Lt Lw c' crO ctO cwO oc name pm ctv qvs tq)
  (U : UpdF re (W.listOf us.toArray c) news g) {rr : List (Addr × Obj)} (R : RunIs w rr run ro re be en er TT) (hrr : ∀ p ∈ rr, p ∈ news) (hro : ∀ p ∈ rr, p.1 ≠ re) 
  (m0 : (tx, W.listOf vs.toArray c0) ∈ news) (n0 : @Ne Nat tx re) (hts : PyProof.Rows.StrsAre vs ts) (hn : ts.length ≤ 3) (hl : ∀ t ∈ ts, t ∈ wordsL)
  (hv : PyProof.Rows.StrsAre us rows) (hr : RowsOk rows) (her : er ∈ errsL) (hTT : 0 ≤ TT ∧ TT ≤ 40) :
  WorkIs w f news (fun v news' => ∃ rows' us' c' t', v = .int 1 t' ∧ news' = g (W.listOf us'.toArray c') ∧ Said (warnR TT er rows ts) (.ok rows') ∧ PyProof.Rows.StrsAre us' rows') (fun x => ∃ y, Said (warnR TT er rows ts) (.no y) ∧ heardR x = PySem.Str.ofString "refused") := by
  obtain ⟨mf, mc, c1, c2, m1, m2, m3, e1, e2, e3⟩ := LI
  intro PV LZ mean mg mb dp un gd cn cs a ccd cl outer A₀ base h₀ L m s Q E B F X T hk N hdp hun hret hrai
  obtain ⟨hp, gns, drw, tks, osx⟩ := s
  dsimp only at F N hret hrai ⊢
  k_steps
  all_goals (try dsimp only)
  · exact hret _ _ _ _ ⟨_, _, _, _, rfl, rfl, by assumption, by assumption⟩ (by assumption) (by assumption)
  · exact hrai _ _ _ _ _ _ ⟨_, by assumption, by assumption⟩ (by assumption) (by assumption) (by assumption) (by assumption)
set_option maxHeartbeats 800000 in
theorem work_die (LI : LamIs news f run tx 508 p1 p2 p3 p4 p5 qual Lr Lt Lw c' crO ctO cwO oc name pm ctv qvs tq)
  {rr : List (Addr × Obj)} (R : RunIs w rr run ro re be en er TT) (hrr : ∀ p ∈ rr, p ∈ news) 
  (m0 : (tx, W.listOf vs.toArray c0) ∈ news) (hts : PyProof.Rows.StrsAre vs ts) (hn : ts.length ≤ 3) (hl : ∀ t ∈ ts, t ∈ wordsL)
  (her : er ∈ errsL) (hTT : 0 ≤ TT ∧ TT ≤ 40) :
  WorkIs w f news (fun _ _ => False) (fun x => (∃ y, Said (msgR TT er ts (PySem.Str.ofString "\t...propagated") (PySem.Str.ofString "Died")) (.no y) ∧ heardR x = PySem.Str.ofString "refused") ∨ (Said (msgR TT er ts (PySem.Str.ofString "\t...propagated") (PySem.Str.ofString "Died")) (.ok x) ∧ heardR x = x ∧ OkS x)) := by
  obtain ⟨mf, mc, c1, c2, m1, m2, m3, e1, e2, e3⟩ := LI
  intro PV LZ mean mg mb dp un gd cn cs a ccd cl outer A₀ base h₀ L m s Q E B F X T hk N hdp hun hret hrai
  obtain ⟨hp, gns, drw, tks, osx⟩ := s
  dsimp only at F N hret hrai ⊢
  k_steps
  all_goals (try dsimp only)
  · exact hrai _ _ _ _ _ _ (.inr ⟨by assumption, by assumption, by assumption⟩) (by assumption) (by assumption) (by assumption) (by assumption)
  · exact hrai _ _ _ _ _ _ (.inl ⟨_, by assumption, by assumption⟩) (by assumption) (by assumption) (by assumption) (by assumption)
variable {PV : PySem.Program} {LZ : List PySem.Str} {mean : ExcName → Option Value} {mg mb : PySem.Str → Option Value} (dp un : Nat) (gd : Option (List Code)) (cn : PySem.Str) (cs : Scope) (a : Addr) (ccd : Value) (cl : List (PySem.Str × Addr)) (A₀ : Around) (base h₀ : Heap) (L : Addr) (m : PySem.Str → Option Value) (s : Shared) (Q E : Value → Shared → Prop)
  (B : Below A₀ base [] h₀) (F : Fr h₀ L s.heap m) (X : (hpK w.params).In h₀) (T : Top PV LZ mean mg mb h₀) (hk : cs.kind = .function)
  (XB : (hpK w.params).In base) (TB : Top PV LZ mean mg mb base) (N : News h₀ L s.heap news)
  (hdp : dp + 28 < recursionLimit) (hun : un + 800 < cLine)
include B F X T hk XB TB N hdp hun
theorem heard_print (LI : LamIs news f run tx 329 p1 p2 p3 p4 p5 qual Lr Lt Lw c' crO ctO cwO oc name pm ctv qvs tq)
  (U : UpdF ro (W.listOf us.toArray c) news g) {rr : List (Addr × Obj)} (R : RunIs w rr run ro re be en er TT) (hrr : ∀ p ∈ rr, p ∈ news) (hro : ∀ p ∈ rr, p.1 ≠ ro) 
  (m0 : (tx, W.listOf vs.toArray c0) ∈ news) (n0 : @Ne Nat tx ro) (hts : PyProof.Rows.StrsAre vs ts) (hn : ts.length ≤ 3) (hl : ∀ t ∈ ts, t ∈ wordsL)
  (hv : PyProof.Rows.StrsAre us rows) (hr : RowsOk rows) (hbe : be ∈ betL) (hen : en ∈ endL) (hTT : 0 ≤ TT ∧ TT ≤ 40)
  (ret : ∀ rows' us' c' ta t t' h' tk', Said (printR TT be en rows ts) (.ok rows') → PyProof.Rows.StrsAre us' rows' → Fr h₀ L h' m → News h₀ L h' ((ta, tupO [.str (PySem.Str.ofString "gives") t, .int 1 t']) :: g (W.listOf us'.toArray c')) → AllLt ta (g (W.listOf us'.toArray c')) → Q (.ref ta) { s with heap := h', toks := tk' })
  (rai : ∀ y ta t t2 h' tk', Said (printR TT be en rows ts) (.no y) → Fr h₀ L h' m → News h₀ L h' ((ta, tupO [.str (PySem.Str.ofString "dies") t, .str (PySem.Str.ofString "refused") t2]) :: news) → AllLt ta news → Q (.ref ta) { s with heap := h', toks := tk' }) :
  wpAny (model PR w) (ktrTop dp un gd cn cs L a ccd cl []) (call (.ref 600) [.ref f]) Q E s :=
  heard_spec dp un gd cn cs a ccd cl A₀ base h₀ L m s Q E news B F X T hk f _ _ (work_print LI U R hrr hro m0 n0 hts hn hl hv hr hbe hen hTT) _ _ _ _ LI.mf XB TB N hdp hun
   (fun v news' ta t h' tk' hr F' N' l1 => by
    obtain ⟨rows', us', c', t', rfl, rfl, h1, h2⟩ := hr
    exact ret rows' us' c' ta t t' h' tk' h1 h2 F' N' (allLt_of l1))
   (fun x ta t t2 h' tk' hr F' N' l1 => by
    obtain ⟨y, h1, h2⟩ := hr
    rw [h2] at N'
    exact rai y ta t t2 h' tk' h1 F' N' (allLt_of l1))
theorem heard_warn (LI : LamIs news f run tx 515 p1 p2 p3 p4 p5 qual Lr Lt Lw c' crO ctO cwO oc name pm ctv qvs tq)
  (U : UpdF re (W.listOf us.toArray c) news g) {rr : List (Addr × Obj)} (R : RunIs w rr run ro re be en er TT) (hrr : ∀ p ∈ rr, p ∈ news) (hro : ∀ p ∈ rr, p.1 ≠ re) 
  (m0 : (tx, W.listOf vs.toArray c0) ∈ news) (n0 : @Ne Nat tx re) (hts : PyProof.Rows.StrsAre vs ts) (hn : ts.length ≤ 3) (hl : ∀ t ∈ ts, t ∈ wordsL)
  (hv : PyProof.Rows.StrsAre us rows) (hr : RowsOk rows) (her : er ∈ errsL) (hTT : 0 ≤ TT ∧ TT ≤ 40)
  (ret : ∀ rows' us' c' ta t t' h' tk', Said (warnR TT er rows ts) (.ok rows') → PyProof.Rows.StrsAre us' rows' → Fr h₀ L h' m → News h₀ L h' ((ta, tupO [.str (PySem.Str.ofString "gives") t, .int 1 t']) :: g (W.listOf us'.toArray c')) → AllLt ta (g (W.listOf us'.toArray c')) → Q (.ref ta) { s with heap := h', toks := tk' })
  (rai : ∀ y ta t t2 h' tk', Said (warnR TT er rows ts) (.no y) → Fr h₀ L h' m → News h₀ L h' ((ta, tupO [.str (PySem.Str.ofString "dies") t, .str (PySem.Str.ofString "refused") t2]) :: news) → AllLt ta news → Q (.ref ta) { s with heap := h', toks := tk' }) :
  wpAny (model PR w) (ktrTop dp un gd cn cs L a ccd cl []) (call (.ref 600) [.ref f]) Q E s :=
  heard_spec dp un gd cn cs a ccd cl A₀ base h₀ L m s Q E news B F X T hk f _ _ (work_warn LI U R hrr hro m0 n0 hts hn hl hv hr her hTT) _ _ _ _ LI.mf XB TB N hdp hun
   (fun v news' ta t h' tk' hr F' N' l1 => by
    obtain ⟨rows', us', c', t', rfl, rfl, h1, h2⟩ := hr
    exact ret rows' us' c' ta t t' h' tk' h1 h2 F' N' (allLt_of l1))
   (fun x ta t t2 h' tk' hr F' N' l1 => by
    obtain ⟨y, h1, h2⟩ := hr
    rw [h2] at N'
    exact rai y ta t t2 h' tk' h1 F' N' (allLt_of l1))
theorem heard_die (LI : LamIs news f run tx 508 p1 p2 p3 p4 p5 qual Lr Lt Lw c' crO ctO cwO oc name pm ctv qvs tq)
  {rr : List (Addr × Obj)} (R : RunIs w rr run ro re be en er TT) (hrr : ∀ p ∈ rr, p ∈ news) 
  (m0 : (tx, W.listOf vs.toArray c0) ∈ news) (hts : PyProof.Rows.StrsAre vs ts) (hn : ts.length ≤ 3) (hl : ∀ t ∈ ts, t ∈ wordsL)
  (her : er ∈ errsL) (hTT : 0 ≤ TT ∧ TT ≤ 40)
  (retN : ∀ y ta t t2 h' tk', Said (msgR TT er ts (PySem.Str.ofString "\t...propagated") (PySem.Str.ofString "Died")) (.no y) → Fr h₀ L h' m → News h₀ L h' ((ta, tupO [.str (PySem.Str.ofString "dies") t, .str (PySem.Str.ofString "refused") t2]) :: news) → AllLt ta news → Q (.ref ta) { s with heap := h', toks := tk' })
  (rai : ∀ x ta t t2 h' tk', Said (msgR TT er ts (PySem.Str.ofString "\t...propagated") (PySem.Str.ofString "Died")) (.ok x) → OkS x → Fr h₀ L h' m → News h₀ L h' ((ta, tupO [.str (PySem.Str.ofString "dies") t, .str x t2]) :: news) → AllLt ta news → Q (.ref ta) { s with heap := h', toks := tk' }) :
  wpAny (model PR w) (ktrTop dp un gd cn cs L a ccd cl []) (call (.ref 600) [.ref f]) Q E s :=
  heard_spec dp un gd cn cs a ccd cl A₀ base h₀ L m s Q E news B F X T hk f _ _ (work_die LI R hrr m0 hts hn hl her hTT) _ _ _ _ LI.mf XB TB N hdp hun
   (fun v news' ta t h' tk' hr F' N' l1 => hr.elim)
   (fun x ta t t2 h' tk' hr F' N' l1 => by
    rcases hr with ⟨y, h1, h2⟩ | ⟨h1, h2, h3⟩
    · rw [h2] at N'; exact retN y ta t t2 h' tk' h1 F' N' (allLt_of l1)
    · rw [h2] at N'; exact rai x ta t t2 h' tk' h1 h3 F' N' (allLt_of l1))
end
end TQWork
end Mine
namespace Mine
section TQWork2
open PySem PySem.W PyProof.Rows PySem.Spec PySem.Calls
open MineHd (hpK vwK hdT)
local macro_rules | `(tactic| k_all) => `(tactic| assumption)
local macro_rules | `(tactic| walk_at $s:str) => `(tactic| k_extra $s)
abbrev endScope : Scope := { kind := .function, names := [(PySem.Str.ofString "run", .free), (PySem.Str.ofString "print_func", .globalImplicit)], isGenerator := false, isCoroutine := false }
abbrev endBody (p1 p2 p3 p4 p5 p6 : Pos) : PySem.Expr := .Call (.Name (PySem.Str.ofString "print_func") p1) [.Name (PySem.Str.ofString "run") p2, .List [.Constant (.str (PySem.Str.ofString "")) 0 p3] p4, .Constant (.int 1) 0 p5] [] p6
structure EndIs (news : List (Addr × Obj)) (f run : Addr) (p1 p2 p3 p4 p5 p6 : Pos) (qual : PySem.Str) (Lr c' : Addr) (crO oc : Obj) (name : PySem.Str) (pm ctv : Value) (vs : Array Value) (tq : Tok) : Prop where
  mf : (f, kla_obj name qual lamPars (endBody p1 p2 p3 p4 p5 p6) endScope [(PySem.Str.ofString "run", Lr)] pm c' ctv) ∈ news
  mc : (c', oc) ∈ news
  c1 : oc.data = .fields vs
  c2 : vs[1]? = some (.str qual tq)
  m1 : (Lr, crO) ∈ news
  e1 : crO.data = .cell (some (.ref run))
theorem lt_of_all {K : List (Addr × Obj)} {a d : Nat} {o : Obj} (h : ∀ p ∈ K, @LT.lt Nat _ p.1 d) (hm : (a, o) ∈ K) : a < d := h _ hm
local macro_rules | `(tactic| k_get) => `(tactic| assumption)
local macro_rules | `(tactic| k_mem) => `(tactic| first | assumption | exact List.Mem.head _ | (refine List.mem_cons_of_mem _ ?_; k_mem))
local macro_rules | `(tactic| k_memK) => `(tactic| k_mem)
local macro_rules | `(tactic| k_updF) => `(tactic| first | assumption | (refine' UpdF.tail ?a ?b; (case b => assumption); (case a => k_ne)))
local macro_rules | `(tactic| k_ne) => `(tactic| (refine neN ?_; (try dsimp only); exact Nat.ne_of_gt (lt_of_all (by assumption) (by assumption))))
theorem said_QWork2_0 : True := by
  k_with_none
  k_with "compareOp NotIn str ref" => (k_here; k_dflt (refine' kdg_notin (knd := PySem.strKind _ _) ?N ?m ?d ?lo (strKind_is _ _ _ _) true ?b ?_; (case N => k_asm); (case m => k_mem); (case d => assumption); (case lo => assumption); (case b => first | assumption | rfl); k_whole))
  k_with "subscriptTail" => (k_here; (with_reducible show wpAny _ _ (subscriptTail _ _ (Value.ref _) (Value.str _ _)) _ _ _); k_dflt (refine' kda_item (knd := PySem.strKind _ _) ?N ?m ?d (strKind_is _ _ _ _) ?v ?_; (case N => k_asm); (case m => k_mem); (case d => assumption); (case v => first | assumption | rfl); k_whole))
  k_with "subscriptTail Name Constant ref str" => (k_here; (with_reducible show wpAny _ _ (subscriptTail _ _ (Value.ref _) (Value.str _ _)) _ _ _); k_dflt (refine' kda_item (knd := PySem.strKind _ _) ?N ?m ?d (strKind_is _ _ _ _) ?v ?_; (case N => k_asm); (case m => k_mem); (case d => assumption); (case v => first | assumption | rfl); k_whole))
  k_with "call ref" => (k_here; (with_reducible show wpAny _ _ (call (Value.ref 329) _) _ _ _); k_dflt ((refine' print_led _ _ _ _ _ _ _ _ _ _ _ _ _ _ _ _ _ _ _ ?B ?F ?X ?T ?hk _ _ _ _ _ _ _ _ _ _ _ _ _ _ _ _ ?N ?U ?R ?hrr ?hro ?m0 ?n0 ?hts ?hn ?hl ?hv ?hr ?hbe ?hen ?hTT ?hd ?hu ?_ ?_); (case B => k_asm); (case F => k_asm); (case X => k_asm); (case T => k_asm); (case hk => first | exact rfl | assumption); (case N => k_asm); (case R => assumption); (case U => k_updF); (case hrr => first | assumption | exact sub_cons (by assumption) | (intro p9 hp9; repeat (first | exact hp9 | refine List.mem_cons_of_mem _ ?_))); (case hro => assumption); (case m0 => k_mem); (case n0 => k_ne); (case hts => first | assumption | exact .cons _ _ .nil); (case hn => first | assumption | exact Nat.le_of_ble_eq_true rfl | omega); (case hl => assumption); (case hv => assumption); (case hr => assumption); (case hbe => assumption); (case hen => assumption); (case hTT => first | assumption | exact And.intro (by omega) (by omega)); (case hd => first | k_room | ktr_room); (case hu => first | exact Nat.le_of_ble_eq_true rfl | (simp only [units_in1, units_deeper, Around.mark_units, units_caller, cLine]; decide) | ktr_units); intro rs' us' c' h' tk' t' hc' hv' F' N'; (try dsimp only at N'); (try k_sweep); (try dsimp only); rotate_left; intro x' e' t' g' h' tk' hc' hh' hx' F' U' R'; (try dsimp only); (try dsimp only); rotate_left))
  k_with "call ref" => (k_here; (with_reducible show wpAny _ _ (call (Value.ref 515) _) _ _ _); k_dflt ((refine' warn_led _ _ _ _ _ _ _ _ _ _ _ _ _ _ _ _ _ _ _ ?B ?F ?X ?T ?hk _ _ _ _ _ _ _ _ _ _ _ _ _ _ _ _ ?N ?U ?R ?hrr ?hro ?m0 ?n0 ?hts ?hn ?hl ?hv ?hr ?her ?hTT ?hd ?hu ?_ ?_); (case B => k_asm); (case F => k_asm); (case X => k_asm); (case T => k_asm); (case hk => first | exact rfl | assumption); (case N => k_asm); (case R => assumption); (case U => k_updF); (case hrr => first | assumption | exact sub_cons (by assumption) | (intro p9 hp9; repeat (first | exact hp9 | refine List.mem_cons_of_mem _ ?_))); (case hro => assumption); (case m0 => k_mem); (case n0 => k_ne); (case hts => assumption); (case hn => first | assumption | exact Nat.le_of_ble_eq_true rfl | omega); (case hl => assumption); (case hv => assumption); (case hr => assumption); (case her => assumption); (case hTT => first | assumption | exact And.intro (by omega) (by omega)); (case hd => first | k_room | ktr_room); (case hu => first | exact Nat.le_of_ble_eq_true rfl | (simp only [units_in1, units_deeper, Around.mark_units, units_caller, cLine]; decide) | ktr_units); intro rs' us' c' h' tk' t' hc' hv' F' N'; (try dsimp only at N'); (try k_sweep); (try dsimp only); rotate_left; intro x' e' t' g' h' tk' hc' hh' hx' F' U' R'; (try dsimp only); (try dsimp only); rotate_left))
  k_with "call ref" => (k_here; (with_reducible show wpAny _ _ (call (Value.ref 508) _) _ _ _); k_dflt ((refine' die_led _ _ _ _ _ _ _ _ _ _ _ _ _ _ _ _ _ _ ?B ?F ?X ?T ?hk _ _ _ _ _ _ _ _ _ _ _ _ _ ?N ?R ?hrr ?m0 ?hts ?hn ?hl ?her ?hTT ?hd ?hu ?_ ?_); (case B => k_asm); (case F => k_asm); (case X => k_asm); (case T => k_asm); (case hk => first | exact rfl | assumption); (case N => k_asm); (case R => assumption); (case hrr => first | assumption | exact sub_cons (by assumption) | (intro p9 hp9; repeat (first | exact hp9 | refine List.mem_cons_of_mem _ ?_))); (case m0 => k_mem); (case hts => assumption); (case hn => first | assumption | exact Nat.le_of_ble_eq_true rfl | omega); (case hl => assumption); (case her => assumption); (case hTT => first | assumption | exact And.intro (by omega) (by omega)); (case hd => first | k_room | ktr_room); (case hu => first | exact Nat.le_of_ble_eq_true rfl | (simp only [units_in1, units_deeper, Around.mark_units, units_caller, cLine]; decide) | ktr_units); intro x' e' t' g' h' tk' hc' hh' ho' hx' F' U' R'; (try dsimp only); (try dsimp only); rotate_left; intro x' e' t' g' h' tk' hc' hh' hx' F' U' R'; (try dsimp only); (try dsimp only); rotate_left))
  k_with "call ref" => (k_here; (with_reducible show wpAny _ _ (call (Value.ref 621) [Value.ref _, Value.int 0 _, Value.ref _]) _ _ _); k_dflt ((refine' due0_led _ _ _ _ _ _ _ _ _ _ _ _ _ _ _ _ _ _ _ ?B ?F ?X ?T ?hk _ _ _ _ _ _ _ _ _ _ _ _ _ _ _ _ _ _ _ _ ?N ?U ?ho ?m0 ?n0 ?hv ?hr ?m1 ?n1 ?hts ?hn ?hl ?hbe ?hen ?her ?hTT ?hd ?hu ?_ ?_); (case B => k_asm); (case F => k_asm); (case X => k_asm); (case T => k_asm); (case hk => first | exact rfl | assumption); (case N => k_asm); (case U => k_updF); (case ho => assumption); (case m0 => k_mem); (case n0 => k_ne); (case hv => assumption); (case hr => assumption); (case m1 => k_mem); (case n1 => k_ne); (case hts => first | assumption | exact .cons _ _ .nil); (case hn => first | assumption | exact Nat.le_of_ble_eq_true rfl | omega); (case hl => assumption); (case hbe => assumption); (case hen => assumption); (case her => assumption); (case hTT => first | assumption | exact And.intro (by omega) (by omega)); (case hd => first | k_room | ktr_room); (case hu => first | exact Nat.le_of_ble_eq_true rfl | (simp only [units_in1, units_deeper, Around.mark_units, units_caller, cLine]; decide) | ktr_units); intro rs' us' c' oo' l' ta' h' tk' t' t2' hc' hv' F' ho' N' hq'; (try dsimp only at N'); (first | exact (said_no (by assumption) hc').elim | ((have hq9 := said_eq (by assumption) hc'); subst hq9; (obtain ⟨hrw', hrk'⟩ := printR_i (by assumption) (by assumption) (by assumption) (by assumption) (by assumption) (by assumption) hc'); clear hc'; (try k_sweep))); (try dsimp only); rotate_left; intro x' ta' h' tk' t' t2' hc' F' N'; (try dsimp only at N'); (first | exact (said_ok (by assumption) hc').elim | (clear hc'; (try k_sweep))); (try dsimp only); rotate_left))
  k_with "call ref" => (k_here; (with_reducible show wpAny _ _ (call (Value.ref 621) [Value.ref _, Value.int 1 _, Value.ref _]) _ _ _); k_dflt ((refine' due1_led _ _ _ _ _ _ _ _ _ _ _ _ _ _ _ _ _ _ _ ?B ?F ?X ?T ?hk _ _ _ _ _ _ _ _ _ _ _ _ _ _ _ _ _ _ _ _ ?N ?U ?ho ?m0 ?n0 ?hv ?hr ?m1 ?n1 ?hts ?hn ?hl ?hbe ?hen ?her ?hTT ?hd ?hu ?_ ?_); (case B => k_asm); (case F => k_asm); (case X => k_asm); (case T => k_asm); (case hk => first | exact rfl | assumption); (case N => k_asm); (case U => k_updF); (case ho => assumption); (case m0 => k_mem); (case n0 => k_ne); (case hv => assumption); (case hr => assumption); (case m1 => k_mem); (case n1 => k_ne); (case hts => first | assumption | exact .cons _ _ .nil); (case hn => first | assumption | exact Nat.le_of_ble_eq_true rfl | omega); (case hl => assumption); (case hbe => assumption); (case hen => assumption); (case her => assumption); (case hTT => first | assumption | exact And.intro (by omega) (by omega)); (case hd => first | k_room | ktr_room); (case hu => first | exact Nat.le_of_ble_eq_true rfl | (simp only [units_in1, units_deeper, Around.mark_units, units_caller, cLine]; decide) | ktr_units); intro rs' us' c' oo' l' ta' h' tk' t' t2' hc' hv' F' ho' N' hq'; (try dsimp only at N'); (first | exact (said_no (by assumption) hc').elim | ((have hq9 := said_eq (by assumption) hc'); subst hq9; (obtain ⟨hrw', hrk'⟩ := warnR_i (by assumption) (by assumption) (by assumption) (by assumption) (by assumption) hc'); clear hc'; (try k_sweep))); (try dsimp only); rotate_left; intro x' ta' h' tk' t' t2' hc' F' N'; (try dsimp only at N'); (first | exact (said_ok (by assumption) hc').elim | (clear hc'; (try k_sweep))); (try dsimp only); rotate_left))
  k_with "call ref" => (k_here; (with_reducible show wpAny _ _ (call (Value.ref 621) [Value.ref _, Value.int 2 _, Value.ref _]) _ _ _); k_dflt ((refine' due2_led _ _ _ _ _ _ _ _ _ _ _ _ _ _ _ _ _ _ _ ?B ?F ?X ?T ?hk _ _ _ _ _ _ _ _ _ _ _ _ _ _ _ _ _ _ _ _ ?N ?U ?ho ?m0 ?n0 ?hv ?hr ?m1 ?n1 ?hts ?hn ?hl ?hbe ?hen ?her ?hTT ?hd ?hu ?_ ?_); (case B => k_asm); (case F => k_asm); (case X => k_asm); (case T => k_asm); (case hk => first | exact rfl | assumption); (case N => k_asm); (case U => k_updF); (case ho => assumption); (case m0 => k_mem); (case n0 => k_ne); (case hv => assumption); (case hr => assumption); (case m1 => k_mem); (case n1 => k_ne); (case hts => first | assumption | exact .cons _ _ .nil); (case hn => first | assumption | exact Nat.le_of_ble_eq_true rfl | omega); (case hl => assumption); (case hbe => assumption); (case hen => assumption); (case her => assumption); (case hTT => first | assumption | exact And.intro (by omega) (by omega)); (case hd => first | k_room | ktr_room); (case hu => first | exact Nat.le_of_ble_eq_true rfl | (simp only [units_in1, units_deeper, Around.mark_units, units_caller, cLine]; decide) | ktr_units); intro x' ta' h' tk' t' t2' hc' F' N'; (try dsimp only at N'); (first | exact (said_no (by assumption) hc').elim | ((have hq9 := said_eq (by assumption) hc'); subst hq9; clear hc'; (try k_sweep))); (try dsimp only); rotate_left; intro x' ta' h' tk' t' t2' hc' F' N'; (try dsimp only at N'); (first | exact (said_ok (by assumption) hc').elim | (clear hc'; (try k_sweep))); (try dsimp only); rotate_left))
  k_with "compareOp NotEq ref ref" => (k_here; (with_reducible show wpAny _ _ (compareOp CmpOp.NotEq (Value.ref _) (Value.ref _)) _ _ _); k_dflt ((refine' ne_ssE ?k1 ?k2 ?k3 ?e1 ?e2 ?k4 ?k6 ?k5 ?_; (case k1 => k_asm); (case k2 => k_mem); (case e1 => first | (with_reducible exact rfl) | (unfold tupO; with_reducible exact rfl)); (case k3 => k_mem); (case e2 => first | (with_reducible exact rfl) | (unfold tupO; with_reducible exact rfl)); (case k4 => exact okS_of _); (case k6 => first | assumption | exact okS_of _); (case k5 => first | exact Nat.le_of_ble_eq_true rfl | units_room | ktr_units); k_whole)))
  k_with "compareOp NotEq ref ref" => (k_here; (with_reducible show wpAny _ _ (compareOp CmpOp.NotEq (Value.ref _) (Value.ref _)) _ _ _); k_dflt ((refine' ne_siE ?k1 ?k2 ?k3 ?e1 ?e2 ?k4 ?k5 ?_; (case k1 => k_asm); (case k2 => k_mem); (case e1 => first | (with_reducible exact rfl) | (unfold tupO; with_reducible exact rfl)); (case k3 => k_mem); (case e2 => first | (with_reducible exact rfl) | (unfold tupO; with_reducible exact rfl)); (case k4 => exact okS_of _); (case k5 => first | exact Nat.le_of_ble_eq_true rfl | units_room | ktr_units); k_whole)))
  k_with "compareOp NotEq ref ref" => (k_here; (with_reducible show wpAny _ _ (compareOp CmpOp.NotEq (Value.ref _) (Value.ref _)) _ _ _); k_dflt ((refine' ne_same ?k1 ?k2 ?k3 ?k4 ?k6 ?k5 ?_; (case k1 => is_list); (case k2 => assumption); (case k3 => first | (refine' News.isList ?N9 ?m9; (case N9 => k_asm); (case m9 => k_mem))); (case k4 => assumption); (case k6 => exact (RowsOk.all (by assumption))); (case k5 => first | exact Nat.le_of_ble_eq_true rfl | units_room | ktr_units); k_whole)))
  k_with "call ref" => (k_here; (with_reducible show wpAny _ _ (call (Value.ref 600) _) _ _ _); refine wpAny_call ?_; k_dflt (refine' code_heard ?k1 ?k2 ?k3 ?k4 ?k5 ?kA ?k6 ?k7 ?k8 ?k9 ?kB ?_ ?cK ?c2 ?c3 ?c4 ?c5; (case kA => exact rfl); (case k2 => k_asm); (case k1 => k_asm); (case k3 => k_asm); (case k4 => k_asm); (case k5 => k_asm); (case k6 => k_is); (case k7 => k_is); (case k8 => first | k_room | ktr_room); (case k9 => exact BindsTo.of_eq rfl); (case kB => exact locs rfl); (case cK => first | exact rfl | assumption); (case c2 => exact rfl); (case c3 => exact rfl); (case c4 => exact rfl); (case c5 => decide); k_whole; intro g' L' h' FG' F' N' B' X' T' D'; (try dsimp only); (try k_lift B'); (try k_fold)))
  k_with "noteFrame ref" => (k_here; k_dflt (refine' caught_V ?R ?F ?K ?U ?XB ?TB ?D ?T0 ?ex ?_; (case R => assumption); (case F => assumption); (case K => assumption); (case U => assumption); (case XB => assumption); (case TB => assumption); (case D => assumption); (case T0 => first | assumption | exact KtsTurn.refl); (case ex => k_is); k_whole); intro h' g' oe' dx' es' n' tk' T' F' N' hd' hv' K' X' P' D'; (try k_lift K'); (try k_sweep))
  k_with "getAttr ref" => (k_here; k_dflt (refine' get_dieV ?F ?X ?N ?m1 ?hda ?m2 ?hl ?hg ?hgt ?hm ?hh ?ha ?hn ?hv ?_; (case hda => assumption); (case F => k_asm); (case X => k_asm); (case hl => assumption); (case N => k_asm); (case m1 => k_mem); (case m2 => k_mem); (case hg => k_is); (case hgt => k_is); (case hm => k_is); (case hh => k_is); (case ha => k_is); (case hn => k_is); (case hv => exact rfl); k_whole))
  k_with "leaving ref" => (k_here; (k_dflt (refine' leave_onV ?k1 ?k2 ?k3 ?k4 ?_; (case k3 => assumption); (case k1 => assumption); (case k4 => assumption); (case k2 => assumption); k_whole); intro h' R' U'; (try dsimp only at R' U' ⊢)))
  k_with "eval Lambda" => (k_here; k_dflt (refine' kla_eval ?d0 ?_; (case d0 => exact rfl)); k_dflt (refine' lam_any ?F ?N ?T ?C ?cd ?U ?tab ?ds ?cl ?_; (case F => k_asm); (case N => k_asm); (case T => k_asm); (case cd => exact rfl); (case C => kn_code); (case U => k_updF); (case tab => (refine TabInv.mono (by assumption) ?_; intro p9 hp9; repeat (first | exact hp9 | refine List.mem_cons_of_mem _ ?_))); (case ds => (repeat (first | exact List.forall_mem_nil _ | refine List.forall_mem_cons.mpr ⟨⟨_, by k_mem⟩, ?_⟩))); (case cl => exact rfl); k_whole); intro f' c' oc' vs' t' ctv' ps' h' tk' F' N' d1' d2' eps' hc' l1' l2'; (try dsimp only at N'); (obtain ⟨n1', n2', n3', n4', n5', n6', n7', n8'⟩ := ne8 hc'); (try simp only [AllLt, and_true] at l1'); (try k_sweep))
  k_with "call ref" => (k_here; (with_reducible show wpAny _ _ (call (Value.ref _) []) _ _ _); refine wpAny_call ?_; k_dflt (refine' kla_code ?k1 ?k2 ?k3 ?k4 ?k5 ?kA ?kF ?kK ?k6 ?k7 ?k8 ?k9 ?kB ?_ ?c2 ?c3 ?c4 ?c5; (case kA => exact rfl); (case kF => exact rfl); (case kK => first | exact rfl | assumption); (case k1 => k_asm); (case k2 => k_asm); (case k3 => k_asm); (case k4 => k_asm); (case k5 => k_asm); (case k6 => k_mem); (case k7 => exact codeRec_news (by k_asm) (by k_mem) (by assumption) (by assumption)); (case k8 => first | k_room | ktr_room); (case k9 => exact rfl); (case c5 => decide); (case kB => exact locs rfl); (case c2 => exact rfl); (case c3 => exact rfl); (case c4 => exact rfl); k_whole; intro g' L' h' FG' F' N' B' X' T'; (try dsimp only); (try k_lift B'); (try k_fold)))
  k_with "eval Name" => (k_here; k_dflt (refine' nameX_F ?N ?c ?m ?d ?_ ?a ?b; (case a => rfl); (case b => rfl); (case N => k_asm); (case c => rfl); (case m => k_mem); (case d => assumption); k_whole))
  trivial
theorem end_clos {cn : PySem.Str} {cs : Scope} {L a Lr : Addr} {ccd : Value} {cl : List (PySem.Str × Addr)} (h1 : cl.lookup (PySem.Str.ofString "run") = some Lr) :
    closureFor endScope (envX cn cs L a ccd cl) = pure [(PySem.Str.ofString "run", Lr)] := by
  have e1 : cellOf (envX cn cs L a ccd cl) (PySem.Str.ofString "run") = pure Lr := by unfold cellOf; show (match cl.lookup _ with | some c => _ | none => _) = _; rw [h1]
  unfold closureFor endScope
  simp [e1]
section
variable {w : World} {news : List (Addr × Obj)} {g : Obj → List (Addr × Obj)} {f run : Addr} {p1 p2 p3 p4 p5 p6 : Pos} {qual : PySem.Str} {Lr c' : Addr} {crO oc : Obj} {name : PySem.Str} {pm ctv : Value} {qvs : Array Value} {tq : Tok}
  {ro re : Addr} {us : List Value} {rows : List PySem.Str} {c : Nat} {be en er : PySem.Str} {TT : Int}
set_option maxHeartbeats 1500000 in
theorem work_end (LI : EndIs news f run p1 p2 p3 p4 p5 p6 qual Lr c' crO oc name pm ctv qvs tq)
  (U : UpdF ro (W.listOf us.toArray c) news g) (mro : (ro, W.listOf us.toArray c) ∈ news) {rr : List (Addr × Obj)} (R : RunIs w rr run ro re be en er TT) (hrr : ∀ p ∈ rr, p ∈ news) (hro : ∀ p ∈ rr, p.1 ≠ ro)
  (hv : PyProof.Rows.StrsAre us rows) (hr : RowsOk rows) (hbe : be ∈ betL) (hen : en ∈ endL) (hTT : 0 ≤ TT ∧ TT ≤ 40) :
  WorkIs w f news (fun v news' => ∃ rows' us' c' t', v = .int 1 t' ∧ news' = g (W.listOf us'.toArray c') ∧ Said (printR TT be en rows [PySem.Str.ofString ""]) (.ok rows') ∧ PyProof.Rows.StrsAre us' rows') (fun x => ∃ y, Said (printR TT be en rows [PySem.Str.ofString ""]) (.no y) ∧ heardR x = PySem.Str.ofString "refused") := by
  obtain ⟨mf, mc, c1, c2, m1, e1⟩ := LI
  intro PV LZ mean mg mb dp un gd cn cs a ccd cl outer A₀ base h₀ L m s Q E B F X T hk N hdp hun hret hrai
  obtain ⟨hp, gns, drw, tks, osx⟩ := s
  dsimp only at F N hret hrai ⊢
  have hl9 := empty_word
  k_steps
  all_goals (try dsimp only)
  · exact hret _ _ _ _ ⟨_, _, _, _, rfl, rfl, by assumption, by assumption⟩ (by assumption) (newsTail (by assumption))
  · exact hrai _ _ _ _ _ _ ⟨_, by assumption, by assumption⟩ (by assumption) (by assumption) (by assumption) (RaisedV.sub (by assumption) cons_sub)
variable {PV : PySem.Program} {LZ : List PySem.Str} {mean : ExcName → Option Value} {mg mb : PySem.Str → Option Value} (dp un : Nat) (gd : Option (List Code)) (cn : PySem.Str) (cs : Scope) (a : Addr) (ccd : Value) (cl : List (PySem.Str × Addr)) (A₀ : Around) (base h₀ : Heap) (L : Addr) (m : PySem.Str → Option Value) (s : Shared) (Q E : Value → Shared → Prop)
  (B : Below A₀ base [] h₀) (F : Fr h₀ L s.heap m) (X : (hpK w.params).In h₀) (T : Top PV LZ mean mg mb h₀) (hk : cs.kind = .function)
  (XB : (hpK w.params).In base) (TB : Top PV LZ mean mg mb base) (N : News h₀ L s.heap news)
  (hdp : dp + 28 < recursionLimit) (hun : un + 800 < cLine)
include B F X T hk XB TB N hdp hun
theorem heard_end (LI : EndIs news f run p1 p2 p3 p4 p5 p6 qual Lr c' crO oc name pm ctv qvs tq)
  (U : UpdF ro (W.listOf us.toArray c) news g) (mro : (ro, W.listOf us.toArray c) ∈ news) {rr : List (Addr × Obj)} (R : RunIs w rr run ro re be en er TT) (hrr : ∀ p ∈ rr, p ∈ news) (hro : ∀ p ∈ rr, p.1 ≠ ro)
  (hv : PyProof.Rows.StrsAre us rows) (hr : RowsOk rows) (hbe : be ∈ betL) (hen : en ∈ endL) (hTT : 0 ≤ TT ∧ TT ≤ 40)
  (ret : ∀ rows' us' c' ta t t' h' tk', Said (printR TT be en rows [PySem.Str.ofString ""]) (.ok rows') → PyProof.Rows.StrsAre us' rows' → Fr h₀ L h' m → News h₀ L h' ((ta, tupO [.str (PySem.Str.ofString "gives") t, .int 1 t']) :: g (W.listOf us'.toArray c')) → AllLt ta (g (W.listOf us'.toArray c')) → Q (.ref ta) { s with heap := h', toks := tk' })
  (rai : ∀ y ta t t2 h' tk', Said (printR TT be en rows [PySem.Str.ofString ""]) (.no y) → Fr h₀ L h' m → News h₀ L h' ((ta, tupO [.str (PySem.Str.ofString "dies") t, .str (PySem.Str.ofString "refused") t2]) :: news) → AllLt ta news → Q (.ref ta) { s with heap := h', toks := tk' }) :
  wpAny (model PR w) (ktrTop dp un gd cn cs L a ccd cl []) (call (.ref 600) [.ref f]) Q E s :=
  heard_spec dp un gd cn cs a ccd cl A₀ base h₀ L m s Q E news B F X T hk f _ _ (work_end LI U mro R hrr hro hv hr hbe hen hTT) _ _ _ _ LI.mf XB TB N hdp hun
   (fun v news' ta t h' tk' hr F' N' l1 => by
    obtain ⟨rows', us', c', t', rfl, rfl, h1, h2⟩ := hr
    exact ret rows' us' c' ta t t' h' tk' h1 h2 F' N' (allLt_of l1))
   (fun x ta t t2 h' tk' hr F' N' l1 => by
    obtain ⟨y, h1, h2⟩ := hr
    rw [h2] at N'
    exact rai y ta t t2 h' tk' h1 F' N' (allLt_of l1))
end
/-- the last lambda's making: nothing is asked of the table behind it -/
theorem lam_end {prog : Program} {A : Around} {E : Value → Shared → Prop} {s : Shared} {h₀ : Heap} {L a c P : Addr} {m mg mb : PySem.Str → Option Value} {cn : PySem.Str} {cs : Scope} {ccd : Value} {cl : List (PySem.Str × Addr)} {news : List (Addr × Obj)} {g : Obj → List (Addr × Obj)}
  {p : Program} {loose : List PySem.Str} {mean : ExcName → Option Value} {name qual : PySem.Str} {params : Arguments} {body : PySem.Expr} {scope : Scope} {ps : Array Value} {pos : Pos} {firstLine : Nat} {clos : List (PySem.Str × Addr)} {ds : List Addr} {l0 c0 : Nat} {q0 : PySem.Str}
  {Q : Value → Shared → Prop} (F : Fr h₀ L s.heap m) (N : News h₀ L s.heap news) (T : Top p loose mean mg mb h₀) (C : CodeHd h₀ c P) (hcd : ccd = .ref c) (U : UpdF P (tabObj ps) news g) (hT : TabInv l0 c0 q0 ps news ds) (hl : l0 ≠ pos.line)
    (hcl : closureFor scope (envX cn cs L a ccd cl) = pure clos)
    (h : ∀ f c' oc vs t ctv ps' h' tk, Fr h₀ L h' m →
      News h₀ L h' ((f, kla_obj name qual params body scope clos ((mg "__name__").getD .none) c' ctv) :: (c', oc) :: g (tabObj ps')) →
      oc.data = .fields vs → vs[1]? = some (.str qual t) → AllLt f news → AllLt c' news → @LT.lt Nat _ c' f → Q (.ref f) { s with heap := h', toks := tk }) :
    wpAny (model prog w) A (makeFunction name qual params (.expr body) scope (envX cn cs L a ccd cl) [] [] [] pos firstLine) Q E s := by
  refine kla_nest F N T C hcd U (tab_triples hT) (tab_none hT hl) hcl ?_
  intro f c' oc vs t ctv h' tk F' N' hd hv l1 l2
  exact h f c' oc vs t ctv _ h' tk F' N' hd hv (allLt_of fun p hp => Nat.lt_trans (l1 p hp) l2) (allLt_of l1) l2
end TQWork2
end Mine
namespace Mine
section TLawT1
open PySem PySem.W PyProof.Rows PySem.Spec PySem.Calls
open MineHd (hpK vwK hdT)
local macro_rules | `(tactic| k_all) => `(tactic| assumption)
local macro_rules | `(tactic| walk_at $s:str) => `(tactic| k_extra $s)
local macro_rules | `(tactic| k_all) => `(tactic| exact offK (by assumption) (by k_mem))
local macro_rules | `(tactic| k_ne) => `(tactic| (refine neN ?_; (try dsimp only); first | exact NeA.out (by assumption) | exact Ne.symm (NeA.out (by assumption)) | exact ne_of_all (by assumption) (by k_mem) | exact Ne.symm (ne_of_all (by assumption) (by k_mem)) | exact ne_of_off (by assumption) (by k_mem) | exact Ne.symm (ne_of_off (by assumption) (by k_mem)) | omega))
local macro_rules | `(tactic| k_get) => `(tactic| assumption)
local macro_rules | `(tactic| k_mem) => `(tactic| first | assumption | exact List.Mem.head _ | (refine List.mem_cons_of_mem _ ?_; k_mem))
local macro_rules | `(tactic| k_memK) => `(tactic| k_mem)
theorem said_LawT1_0 : True := by
  k_with_none
  k_with "compareOp NotIn str ref" => (k_here; k_dflt (refine' kdg_notin (knd := PySem.strKind _ _) ?N ?m ?d ?lo (strKind_is _ _ _ _) true ?b ?_; (case N => k_asm); (case m => k_mem); (case d => assumption); (case lo => assumption); (case b => first | assumption | rfl); k_whole))
  k_with "subscriptTail" => (k_here; (with_reducible show wpAny _ _ (subscriptTail _ _ (Value.ref _) (Value.str _ _)) _ _ _); k_dflt (refine' kda_item (knd := PySem.strKind _ _) ?N ?m ?d (strKind_is _ _ _ _) ?v ?_; (case N => k_asm); (case m => k_mem); (case d => assumption); (case v => first | assumption | rfl); k_whole))
  k_with "subscriptTail Name Constant ref str" => (k_here; (with_reducible show wpAny _ _ (subscriptTail _ _ (Value.ref _) (Value.str _ _)) _ _ _); k_dflt (refine' kda_item (knd := PySem.strKind _ _) ?N ?m ?d (strKind_is _ _ _ _) ?v ?_; (case N => k_asm); (case m => k_mem); (case d => assumption); (case v => first | assumption | rfl); k_whole))
  k_with "call ref" => (k_here; (with_reducible show wpAny _ _ (call (Value.ref 586) _) _ _ _); k_dflt ((refine' takeT _ _ _ _ _ _ _ _ _ _ _ _ _ _ _ _ _ _ _ ?B ?F ?X ?T ?hk _ _ _ _ _ _ _ _ _ ?N ?U ?m1 ?n1 ?ho ?hi ?hlen ?hg ?hg2 ?hm ?hm2 ?hd ?hu ?_); (case B => k_asm); (case F => k_asm); (case X => k_asm); (case T => k_asm); (case hk => first | exact rfl | assumption); (case N => k_asm); (case U => k_updF); (case ho => first | assumption | exact ⟨_, by assumption⟩); (case m1 => k_mem); (case n1 => k_ne); (case hi => first | assumption | l_ints); (case hlen => first | assumption | omega); (case hg => omega); (case hg2 => omega); (case hm => decide); (case hm2 => decide); (case hd => first | k_room | ktr_room); (case hu => first | (simp only [units_in1, units_deeper, Around.mark_units, units_caller, cLine]; decide) | ktr_units | (simp only [units_in1, units_deeper, Around.mark_units, units_caller, cLine]; omega) | (simp only [units_in1, units_deeper, Around.mark_units, units_caller, cLine]; decide)); intro r' t' h' tk' o' hr0' hr1' F' N' ho'; (try dsimp only at N'); (try k_sweep); (try dsimp only)))
  k_with "subscriptTail" => (k_here; (with_reducible show wpAny _ _ (subscriptTail _ _ (Value.ref _) (Value.int _ _)) _ _ _); k_dflt (refine' item_int 0 1000 ?l ?v ?a ?b ?c ?_ ?s; (case l => is_list); (case v => (intro v hv; simp only [List.mem_cons, List.not_mem_nil, or_false] at hv; rcases hv with rfl | rfl | rfl | rfl <;> exact ⟨_, _, rfl, by decide, by decide⟩)); (case a => first | assumption | omega); (case b => (simp only [List.length_cons, List.length_nil]; omega)); (case c => exact Nat.le_of_ble_eq_true rfl); (case s => with_unfolding_all rfl); k_whole); intro n' t' hn0' hn1')
  k_with "subscriptTail" => (k_here; (with_reducible show wpAny _ _ (subscriptTail _ _ (Value.ref _) (Value.int _ _)) _ _ _); k_dflt (refine' item_int 0 40 ?l ?v ?a ?b ?c ?_ ?s; (case l => is_list); (case v => (intro v hv; simp only [List.mem_cons, List.not_mem_nil, or_false] at hv; rcases hv with rfl | rfl | rfl <;> exact ⟨_, _, rfl, by decide, by decide⟩)); (case a => first | assumption | omega); (case b => (simp only [List.length_cons, List.length_nil]; omega)); (case c => exact Nat.le_of_ble_eq_true rfl); (case s => with_unfolding_all rfl); k_whole); intro n' t' hn0' hn1')
  k_with "subscriptTail" => (k_here; (with_reducible show wpAny _ _ (subscriptTail _ _ (Value.ref _) (Value.int _ _)) _ _ _); k_dflt (refine' item_mem ?l ?v ?a ?b ?c ?_ ?s; (case l => is_list); (case v => (repeat (first | exact PyProof.Rows.StrsAre.nil | apply PyProof.Rows.StrsAre.cons))); (case a => first | assumption | omega); (case b => (simp only [List.length_cons, List.length_nil]; omega)); (case c => exact Nat.le_of_ble_eq_true rfl); (case s => with_unfolding_all rfl); k_whole); intro x' t' hx')
  k_with "setItem ref str" => (k_here; k_dflt (refine' kda_set (knd := PySem.strKind _ _) ?F ?N ?U ?d (strKind_is _ _ _ _) ?z ?_; (case F => k_asm); (case N => k_asm); (case U => k_updF); (case d => assumption); (case z => (rw [sizeLine_eq]; exact Nat.le_of_ble_eq_true rfl))); intro h' o' F' N' hd'; (try dsimp only at N'); (try rw [stored_absent (by rfl)] at hd'); (try dsimp only [List.cons_append, List.nil_append] at hd'); (try k_sweep))
  k_with "binaryOp Mult ref int" => (k_here; k_dflt (refine' rep_one ?F ?N ?m ?a ?b ?x ?o ?_; (case F => k_asm); (case N => k_asm); (case m => k_mem); (case a => first | assumption | omega); (case b => first | assumption | omega); (case x => exact (abcd_cut (by assumption) (by assumption)).1); (case o => exact (abcd_cut (by assumption) (by assumption)).2); k_whole); intro D' us' rows' h' F' N' l1 hs' hr'; (try k_lt l1); (try k_sweep))
  k_with "callWith ref" => (k_here; k_dflt (refine' callWith_K ?k1 ?k2 ?_; (case k1 => k_asm); (case k2 => k_is); k_whole))
  k_with "call ref" => (k_here; (with_reducible show wpAny _ _ (call (Value.ref 593) _) _ _ _); k_dflt ((refine' lrun_led _ _ _ _ _ _ _ _ _ _ _ _ _ _ _ _ _ _ ?B ?F ?X ?T ?hk _ _ _ _ _ _ _ _ _ _ _ _ _ _ _ ?N ?mo ?ml ?ho ?hv ?hr ?hd ?hu ?_); (case B => k_asm); (case F => k_asm); (case X => k_asm); (case T => k_asm); (case hk => first | exact rfl | assumption); (case N => k_asm); (case mo => k_mem); (case ho => assumption); (case ml => k_mem); (case hv => assumption); (case hr => (refine RowsN.len (n := 5000) ?_; assumption)); (case hd => first | k_room | ktr_room); (case hu => first | (simp only [units_in1, units_deeper, Around.mark_units, units_caller, cLine]; decide) | ktr_units | (simp only [units_in1, units_deeper, Around.mark_units, units_caller, cLine]; omega) | (simp only [units_in1, units_deeper, Around.mark_units, units_caller, cLine]; decide)); intro run' ro' re' c' c2' fr' h' tk' hR' F' N' hf1' hf2' hfK' hn' hq1' hq2'; (try simp only [List.cons_append, List.nil_append] at N'); (try k_sweep); (try dsimp only)))
  k_with "exec For Name Call cons nil" => (k_here; (rename Fr _ _ _ _ => lF'); (with_unfolding_all refine' For_invVF lF' ?k1 ?k2 ?_; (case k1 => exact rfl); (case k2 => exact rfl); k_whole))
  k_with "pyIter ref" => ((with_reducible show wpAny _ _ (pyIter (Value.ref _)) (fun it s₂ => LoopAtV _ _ _ _ _ _ _ _ _ it s₂) _ _); refine Stop.intro ?_)
  k_with "eval Lambda" => (k_here; (with_reducible show wpAny _ _ (eval (Expr.Lambda _ (Expr.Call _ [_, Expr.Name _ _, _] _ _) _ _) _) _ _ _); k_dflt ((refine' kla_eval ?d0 ?_; (case d0 => exact rfl)); (refine' lam_any (scope := lamScope) (clos := lamClos _ _ _) ?F ?N ?T ?C ?cd ?U ?tab ?ds ?cl ?_; (case F => k_asm); (case N => k_asm); (case T => k_asm); (case cd => exact rfl); (case C => kn_code); (case U => k_updF); (case tab => (refine TabInv.mono (by assumption) ?_; intro p9 hp9; repeat (first | exact hp9 | refine List.mem_cons_of_mem _ ?_))); (case ds => (repeat (first | exact List.forall_mem_nil _ | refine List.forall_mem_cons.mpr ⟨⟨_, by k_mem⟩, ?_⟩))); (case cl => (refine lam_clos ?cl1 ?cl2 ?cl3; (case cl1 => exact rfl); (case cl2 => exact rfl); (case cl3 => exact rfl))); k_whole); intro f' c' oc' vs' t' ctv' ps' h' tk' F' N' d1' d2' eps' hc' l1' l2'; (try dsimp only at N'); (obtain ⟨n1', n2', n3', n4', n5', n6', n7', n8'⟩ := ne8 hc'); (try simp only [AllLt, and_true] at l1'); (try k_sweep)))
  k_with "call ref" => (k_here; (with_reducible show wpAny _ _ (call (Value.ref 600) _) _ _ _); k_dflt ((refine' heard_end _ _ _ _ _ _ _ _ _ _ _ _ _ _ _ _ ?B ?F ?X ?T ?hk ?XB ?TB ?N ?hd ?hu ?LI ?U ?mro ?R ?hrr ?hro ?hv ?hr ?hbe ?hen ?hTT ?_ ?_); (case B => k_asm); (case F => k_asm); (case X => k_asm); (case T => k_asm); (case hk => first | exact rfl | assumption); (case XB => assumption); (case TB => assumption); (case N => k_asm); (case LI => (refine' EndIs.mk ?mf ?mc ?lc1 ?lc2 ?lm1 ?le1; (case mf => k_mem); (case mc => k_mem); (case lc1 => assumption); (case lc2 => assumption); (case lm1 => k_mem); (case le1 => assumption))); (case R => assumption); (case U => k_updF); (case mro => k_mem); (case hrr => first | assumption | exact sub_cons (by assumption) | (intro p9 hp9; repeat (first | exact hp9 | refine List.mem_cons_of_mem _ ?_))); (case hro => assumption); (case hv => assumption); (case hr => assumption); (case hbe => assumption); (case hen => assumption); (case hTT => first | assumption | exact And.intro (by omega) (by omega)); (case hd => first | k_room | ktr_room); (case hu => first | exact Nat.le_of_ble_eq_true rfl | (simp only [units_in1, units_deeper, Around.mark_units, units_caller, cLine]; decide) | ktr_units); intro rs' us' c' ta' t' t2' h' tk' hc' hv' F' N' l1'; (try dsimp only at N' l1'); (try simp only [AllLt, and_true] at l1'); (try k_sweep); (try dsimp only); rotate_left; intro y' ta' t' t2' h' tk' hc' F' N' l1'; (try dsimp only at N' l1'); (try simp only [AllLt, and_true] at l1'); (try k_sweep); (try dsimp only); rotate_left))
  k_with "call ref" => (k_here; (with_reducible show wpAny _ _ (call (Value.ref 600) _) _ _ _); k_dflt ((refine' heard_print _ _ _ _ _ _ _ _ _ _ _ _ _ _ _ _ ?B ?F ?X ?T ?hk ?XB ?TB ?N ?hd ?hu ?LI ?U ?R ?hrr ?hro ?m0 ?n0 ?hts ?hn ?hl ?hv ?hr ?hbe ?hen ?hTT ?_ ?_); (case B => k_asm); (case F => k_asm); (case X => k_asm); (case T => k_asm); (case hk => first | exact rfl | assumption); (case XB => assumption); (case TB => assumption); (case N => k_asm); (case LI => (refine' LamIs.mk ?mf ?mc ?lc1 ?lc2 ?lm1 ?lm2 ?lm3 ?le1 ?le2 ?le3; (case le3 => (with_reducible assumption)); (case mf => k_mem); (case mc => k_mem); (case lc1 => assumption); (case lc2 => assumption); (case lm1 => k_mem); (case lm2 => k_mem); (case lm3 => k_mem); (case le1 => assumption); (case le2 => assumption))); (case R => assumption); (case U => k_updF); (case hrr => first | assumption | exact sub_cons (by assumption) | (intro p9 hp9; repeat (first | exact hp9 | refine List.mem_cons_of_mem _ ?_))); (case hro => assumption); (case m0 => k_mem); (case n0 => k_ne); (case hts => assumption); (case hn => first | assumption | exact Nat.le_of_ble_eq_true rfl | omega); (case hl => assumption); (case hv => assumption); (case hr => assumption); (case hbe => assumption); (case hen => assumption); (case hTT => first | assumption | exact And.intro (by omega) (by omega)); (case hd => first | k_room | ktr_room); (case hu => first | exact Nat.le_of_ble_eq_true rfl | (simp only [units_in1, units_deeper, Around.mark_units, units_caller, cLine]; decide) | ktr_units); intro rs' us' c' ta' t' t2' h' tk' hc' hv' F' N' l1'; (try dsimp only at N' l1'); (try simp only [AllLt, and_true] at l1'); (try k_sweep); (try dsimp only); rotate_left; intro y' ta' t' t2' h' tk' hc' F' N' l1'; (try dsimp only at N' l1'); (try simp only [AllLt, and_true] at l1'); (try k_sweep); (try dsimp only); rotate_left))
  k_with "call ref" => (k_here; (with_reducible show wpAny _ _ (call (Value.ref 600) _) _ _ _); k_dflt ((refine' heard_warn _ _ _ _ _ _ _ _ _ _ _ _ _ _ _ _ ?B ?F ?X ?T ?hk ?XB ?TB ?N ?hd ?hu ?LI ?U ?R ?hrr ?hro ?m0 ?n0 ?hts ?hn ?hl ?hv ?hr ?her ?hTT ?_ ?_); (case B => k_asm); (case F => k_asm); (case X => k_asm); (case T => k_asm); (case hk => first | exact rfl | assumption); (case XB => assumption); (case TB => assumption); (case N => k_asm); (case LI => (refine' LamIs.mk ?mf ?mc ?lc1 ?lc2 ?lm1 ?lm2 ?lm3 ?le1 ?le2 ?le3; (case le3 => (with_reducible assumption)); (case mf => k_mem); (case mc => k_mem); (case lc1 => assumption); (case lc2 => assumption); (case lm1 => k_mem); (case lm2 => k_mem); (case lm3 => k_mem); (case le1 => assumption); (case le2 => assumption))); (case R => assumption); (case U => k_updF); (case hrr => first | assumption | exact sub_cons (by assumption) | (intro p9 hp9; repeat (first | exact hp9 | refine List.mem_cons_of_mem _ ?_))); (case hro => assumption); (case m0 => k_mem); (case n0 => k_ne); (case hts => assumption); (case hn => first | assumption | exact Nat.le_of_ble_eq_true rfl | omega); (case hl => assumption); (case hv => assumption); (case hr => assumption); (case her => assumption); (case hTT => first | assumption | exact And.intro (by omega) (by omega)); (case hd => first | k_room | ktr_room); (case hu => first | exact Nat.le_of_ble_eq_true rfl | (simp only [units_in1, units_deeper, Around.mark_units, units_caller, cLine]; decide) | ktr_units); intro rs' us' c' ta' t' t2' h' tk' hc' hv' F' N' l1'; (try dsimp only at N' l1'); (try simp only [AllLt, and_true] at l1'); (try k_sweep); (try dsimp only); rotate_left; intro y' ta' t' t2' h' tk' hc' F' N' l1'; (try dsimp only at N' l1'); (try simp only [AllLt, and_true] at l1'); (try k_sweep); (try dsimp only); rotate_left))
  k_with "call ref" => (k_here; (with_reducible show wpAny _ _ (call (Value.ref 600) _) _ _ _); k_dflt ((refine' heard_die _ _ _ _ _ _ _ _ _ _ _ _ _ _ _ _ ?B ?F ?X ?T ?hk ?XB ?TB ?N ?hd ?hu ?LI ?R ?hrr ?m0 ?hts ?hn ?hl ?her ?hTT ?_ ?_); (case B => k_asm); (case F => k_asm); (case X => k_asm); (case T => k_asm); (case hk => first | exact rfl | assumption); (case XB => assumption); (case TB => assumption); (case N => k_asm); (case LI => (refine' LamIs.mk ?mf ?mc ?lc1 ?lc2 ?lm1 ?lm2 ?lm3 ?le1 ?le2 ?le3; (case le3 => (with_reducible assumption)); (case mf => k_mem); (case mc => k_mem); (case lc1 => assumption); (case lc2 => assumption); (case lm1 => k_mem); (case lm2 => k_mem); (case lm3 => k_mem); (case le1 => assumption); (case le2 => assumption))); (case R => assumption); (case hrr => first | assumption | exact sub_cons (by assumption) | (intro p9 hp9; repeat (first | exact hp9 | refine List.mem_cons_of_mem _ ?_))); (case m0 => k_mem); (case hts => assumption); (case hn => first | assumption | exact Nat.le_of_ble_eq_true rfl | omega); (case hl => assumption); (case her => assumption); (case hTT => first | assumption | exact And.intro (by omega) (by omega)); (case hd => first | k_room | ktr_room); (case hu => first | exact Nat.le_of_ble_eq_true rfl | (simp only [units_in1, units_deeper, Around.mark_units, units_caller, cLine]; decide) | ktr_units); intro y' ta' t' t2' h' tk' hc' F' N' l1'; (try dsimp only at N' l1'); (try simp only [AllLt, and_true] at l1'); (try k_sweep); (try dsimp only); rotate_left; intro x' ta' t' t2' h' tk' hc' ho' F' N' l1'; (try dsimp only at N' l1'); (try simp only [AllLt, and_true] at l1'); (try k_sweep); (try dsimp only); rotate_left))
  k_with "eval Lambda" => (k_here; (with_reducible show wpAny _ _ (eval (Expr.Lambda _ (Expr.Call _ [_, Expr.List _ _, _] _ _) _ _) _) _ _ _); k_dflt ((refine' kla_eval ?d0 ?_; (case d0 => exact rfl)); (refine' lam_end (scope := endScope) (clos := [(PySem.Str.ofString "run", _)]) ?F ?N ?T ?C ?cd ?U ?tab ?hl ?cl ?_; (case F => k_asm); (case N => k_asm); (case T => k_asm); (case cd => exact rfl); (case C => kn_code); (case U => k_updF); (case tab => (refine TabInv.mono (by assumption) ?_; intro p9 hp9; repeat (first | exact hp9 | refine List.mem_cons_of_mem _ ?_))); (case hl => decide); (case cl => (refine end_clos ?cl1; (case cl1 => exact rfl))); k_whole); intro f' c' oc' vs' t' ctv' ps' h' tk' F' N' d1' d2' l1' l2' l3'; (try dsimp only at N' l1' l2'); (try simp only [AllLt, and_true] at l1' l2'); (try k_sweep)))
  k_with "compareOp Eq ref ref" => (k_here; (with_reducible show wpAny _ _ (compareOp CmpOp.Eq (Value.ref _) (Value.ref _)) _ _ _); k_dflt ((refine' eq_ssE ?k1 ?k2 ?k3 ?e1 ?e2 ?k4 ?k6 ?k5 ?_; (case k1 => k_asm); (case k2 => k_mem); (case e1 => first | (with_reducible exact rfl) | (unfold tupO; with_reducible exact rfl)); (case k3 => k_mem); (case e2 => first | (with_reducible exact rfl) | (unfold tupO; with_reducible exact rfl)); (case k4 => exact okS_of _); (case k6 => first | assumption | exact okS_of _); (case k5 => first | exact Nat.le_of_ble_eq_true rfl | units_room | ktr_units); k_whole)))
  k_with "compareOp Eq ref ref" => (k_here; (with_reducible show wpAny _ _ (compareOp CmpOp.Eq (Value.ref _) (Value.ref _)) _ _ _); k_dflt ((refine' eq_siE ?k1 ?k2 ?k3 ?e1 ?e2 ?k4 ?k5 ?_; (case k1 => k_asm); (case k2 => k_mem); (case e1 => first | (with_reducible exact rfl) | (unfold tupO; with_reducible exact rfl)); (case k3 => k_mem); (case e2 => first | (with_reducible exact rfl) | (unfold tupO; with_reducible exact rfl)); (case k4 => exact okS_of _); (case k5 => first | exact Nat.le_of_ble_eq_true rfl | units_room | ktr_units); k_whole)))
  k_with "call ref" => (k_here; (with_reducible show wpAny _ _ (call (Value.ref 329) _) _ _ _); k_dflt ((refine' print_led _ _ _ _ _ _ _ _ _ _ _ _ _ _ _ _ _ _ _ ?B ?F ?X ?T ?hk _ _ _ _ _ _ _ _ _ _ _ _ _ _ _ _ ?N ?U ?R ?hrr ?hro ?m0 ?n0 ?hts ?hn ?hl ?hv ?hr ?hbe ?hen ?hTT ?hd ?hu ?_ ?_); (case B => k_asm); (case F => k_asm); (case X => k_asm); (case T => k_asm); (case hk => first | exact rfl | assumption); (case N => k_asm); (case R => assumption); (case U => k_updF); (case hrr => first | assumption | exact sub_cons (by assumption) | (intro p9 hp9; repeat (first | exact hp9 | refine List.mem_cons_of_mem _ ?_))); (case hro => assumption); (case m0 => k_mem); (case n0 => k_ne); (case hts => first | assumption | exact .cons _ _ .nil); (case hn => first | assumption | exact Nat.le_of_ble_eq_true rfl | omega); (case hl => assumption); (case hv => assumption); (case hr => assumption); (case hbe => assumption); (case hen => assumption); (case hTT => first | assumption | exact And.intro (by omega) (by omega)); (case hd => first | k_room | ktr_room); (case hu => first | exact Nat.le_of_ble_eq_true rfl | (simp only [units_in1, units_deeper, Around.mark_units, units_caller, cLine]; decide) | ktr_units); intro rs' us' c' h' tk' t' hc' hv' F' N'; (try dsimp only at N'); (try k_sweep); (try dsimp only); rotate_left; intro x' e' t' g' h' tk' hc' hh' hx' F' U' R'; (try dsimp only); (try dsimp only); rotate_left))
  k_with "call ref" => (k_here; (with_reducible show wpAny _ _ (call (Value.ref 515) _) _ _ _); k_dflt ((refine' warn_led _ _ _ _ _ _ _ _ _ _ _ _ _ _ _ _ _ _ _ ?B ?F ?X ?T ?hk _ _ _ _ _ _ _ _ _ _ _ _ _ _ _ _ ?N ?U ?R ?hrr ?hro ?m0 ?n0 ?hts ?hn ?hl ?hv ?hr ?her ?hTT ?hd ?hu ?_ ?_); (case B => k_asm); (case F => k_asm); (case X => k_asm); (case T => k_asm); (case hk => first | exact rfl | assumption); (case N => k_asm); (case R => assumption); (case U => k_updF); (case hrr => first | assumption | exact sub_cons (by assumption) | (intro p9 hp9; repeat (first | exact hp9 | refine List.mem_cons_of_mem _ ?_))); (case hro => assumption); (case m0 => k_mem); (case n0 => k_ne); (case hts => assumption); (case hn => first | assumption | exact Nat.le_of_ble_eq_true rfl | omega); (case hl => assumption); (case hv => assumption); (case hr => assumption); (case her => assumption); (case hTT => first | assumption | exact And.intro (by omega) (by omega)); (case hd => first | k_room | ktr_room); (case hu => first | exact Nat.le_of_ble_eq_true rfl | (simp only [units_in1, units_deeper, Around.mark_units, units_caller, cLine]; decide) | ktr_units); intro rs' us' c' h' tk' t' hc' hv' F' N'; (try dsimp only at N'); (try k_sweep); (try dsimp only); rotate_left; intro x' e' t' g' h' tk' hc' hh' hx' F' U' R'; (try dsimp only); (try dsimp only); rotate_left))
  k_with "call ref" => (k_here; (with_reducible show wpAny _ _ (call (Value.ref 508) _) _ _ _); k_dflt ((refine' die_led _ _ _ _ _ _ _ _ _ _ _ _ _ _ _ _ _ _ ?B ?F ?X ?T ?hk _ _ _ _ _ _ _ _ _ _ _ _ _ ?N ?R ?hrr ?m0 ?hts ?hn ?hl ?her ?hTT ?hd ?hu ?_ ?_); (case B => k_asm); (case F => k_asm); (case X => k_asm); (case T => k_asm); (case hk => first | exact rfl | assumption); (case N => k_asm); (case R => assumption); (case hrr => first | assumption | exact sub_cons (by assumption) | (intro p9 hp9; repeat (first | exact hp9 | refine List.mem_cons_of_mem _ ?_))); (case m0 => k_mem); (case hts => assumption); (case hn => first | assumption | exact Nat.le_of_ble_eq_true rfl | omega); (case hl => assumption); (case her => assumption); (case hTT => first | assumption | exact And.intro (by omega) (by omega)); (case hd => first | k_room | ktr_room); (case hu => first | exact Nat.le_of_ble_eq_true rfl | (simp only [units_in1, units_deeper, Around.mark_units, units_caller, cLine]; decide) | ktr_units); intro x' e' t' g' h' tk' hc' hh' ho' hx' F' U' R'; (try dsimp only); (try dsimp only); rotate_left; intro x' e' t' g' h' tk' hc' hh' hx' F' U' R'; (try dsimp only); (try dsimp only); rotate_left))
  k_with "call ref" => (k_here; (with_reducible show wpAny _ _ (call (Value.ref 621) [Value.ref _, Value.int 0 _, Value.ref _]) _ _ _); k_dflt ((refine' due0_led _ _ _ _ _ _ _ _ _ _ _ _ _ _ _ _ _ _ _ ?B ?F ?X ?T ?hk _ _ _ _ _ _ _ _ _ _ _ _ _ _ _ _ _ _ _ _ ?N ?U ?ho ?m0 ?n0 ?hv ?hr ?m1 ?n1 ?hts ?hn ?hl ?hbe ?hen ?her ?hTT ?hd ?hu ?_ ?_); (case B => k_asm); (case F => k_asm); (case X => k_asm); (case T => k_asm); (case hk => first | exact rfl | assumption); (case N => k_asm); (case U => k_updF); (case ho => assumption); (case m0 => k_mem); (case n0 => k_ne); (case hv => assumption); (case hr => assumption); (case m1 => k_mem); (case n1 => k_ne); (case hts => first | assumption | exact .cons _ _ .nil); (case hn => first | assumption | exact Nat.le_of_ble_eq_true rfl | omega); (case hl => assumption); (case hbe => assumption); (case hen => assumption); (case her => assumption); (case hTT => first | assumption | exact And.intro (by omega) (by omega)); (case hd => first | k_room | ktr_room); (case hu => first | exact Nat.le_of_ble_eq_true rfl | (simp only [units_in1, units_deeper, Around.mark_units, units_caller, cLine]; decide) | ktr_units); intro rs' us' c' oo' l' ta' h' tk' t' t2' hc' hv' F' ho' N' hq'; (try dsimp only at N'); (first | exact (said_no (by assumption) hc').elim | ((have hq9 := said_eq (by assumption) hc'); subst hq9; (obtain ⟨hrw', hrk'⟩ := printR_i (by assumption) (by assumption) (by assumption) (by assumption) (by assumption) (by assumption) hc'); clear hc'; (try k_sweep))); (try dsimp only); rotate_left; intro x' ta' h' tk' t' t2' hc' F' N'; (try dsimp only at N'); (first | exact (said_ok (by assumption) hc').elim | (clear hc'; (try k_sweep))); (try dsimp only); rotate_left))
  k_with "call ref" => (k_here; (with_reducible show wpAny _ _ (call (Value.ref 621) [Value.ref _, Value.int 1 _, Value.ref _]) _ _ _); k_dflt ((refine' due1_led _ _ _ _ _ _ _ _ _ _ _ _ _ _ _ _ _ _ _ ?B ?F ?X ?T ?hk _ _ _ _ _ _ _ _ _ _ _ _ _ _ _ _ _ _ _ _ ?N ?U ?ho ?m0 ?n0 ?hv ?hr ?m1 ?n1 ?hts ?hn ?hl ?hbe ?hen ?her ?hTT ?hd ?hu ?_ ?_); (case B => k_asm); (case F => k_asm); (case X => k_asm); (case T => k_asm); (case hk => first | exact rfl | assumption); (case N => k_asm); (case U => k_updF); (case ho => assumption); (case m0 => k_mem); (case n0 => k_ne); (case hv => assumption); (case hr => assumption); (case m1 => k_mem); (case n1 => k_ne); (case hts => first | assumption | exact .cons _ _ .nil); (case hn => first | assumption | exact Nat.le_of_ble_eq_true rfl | omega); (case hl => assumption); (case hbe => assumption); (case hen => assumption); (case her => assumption); (case hTT => first | assumption | exact And.intro (by omega) (by omega)); (case hd => first | k_room | ktr_room); (case hu => first | exact Nat.le_of_ble_eq_true rfl | (simp only [units_in1, units_deeper, Around.mark_units, units_caller, cLine]; decide) | ktr_units); intro rs' us' c' oo' l' ta' h' tk' t' t2' hc' hv' F' ho' N' hq'; (try dsimp only at N'); (first | exact (said_no (by assumption) hc').elim | ((have hq9 := said_eq (by assumption) hc'); subst hq9; (obtain ⟨hrw', hrk'⟩ := warnR_i (by assumption) (by assumption) (by assumption) (by assumption) (by assumption) hc'); clear hc'; (try k_sweep))); (try dsimp only); rotate_left; intro x' ta' h' tk' t' t2' hc' F' N'; (try dsimp only at N'); (first | exact (said_ok (by assumption) hc').elim | (clear hc'; (try k_sweep))); (try dsimp only); rotate_left))
  k_with "call ref" => (k_here; (with_reducible show wpAny _ _ (call (Value.ref 621) [Value.ref _, Value.int 2 _, Value.ref _]) _ _ _); k_dflt ((refine' due2_led _ _ _ _ _ _ _ _ _ _ _ _ _ _ _ _ _ _ _ ?B ?F ?X ?T ?hk _ _ _ _ _ _ _ _ _ _ _ _ _ _ _ _ _ _ _ _ ?N ?U ?ho ?m0 ?n0 ?hv ?hr ?m1 ?n1 ?hts ?hn ?hl ?hbe ?hen ?her ?hTT ?hd ?hu ?_ ?_); (case B => k_asm); (case F => k_asm); (case X => k_asm); (case T => k_asm); (case hk => first | exact rfl | assumption); (case N => k_asm); (case U => k_updF); (case ho => assumption); (case m0 => k_mem); (case n0 => k_ne); (case hv => assumption); (case hr => assumption); (case m1 => k_mem); (case n1 => k_ne); (case hts => first | assumption | exact .cons _ _ .nil); (case hn => first | assumption | exact Nat.le_of_ble_eq_true rfl | omega); (case hl => assumption); (case hbe => assumption); (case hen => assumption); (case her => assumption); (case hTT => first | assumption | exact And.intro (by omega) (by omega)); (case hd => first | k_room | ktr_room); (case hu => first | exact Nat.le_of_ble_eq_true rfl | (simp only [units_in1, units_deeper, Around.mark_units, units_caller, cLine]; decide) | ktr_units); intro x' ta' h' tk' t' t2' hc' F' N'; (try dsimp only at N'); (first | exact (said_no (by assumption) hc').elim | ((have hq9 := said_eq (by assumption) hc'); subst hq9; clear hc'; (try k_sweep))); (try dsimp only); rotate_left; intro x' ta' h' tk' t' t2' hc' F' N'; (try dsimp only at N'); (first | exact (said_ok (by assumption) hc').elim | (clear hc'; (try k_sweep))); (try dsimp only); rotate_left))
  k_with "compareOp NotEq ref ref" => (k_here; (with_reducible show wpAny _ _ (compareOp CmpOp.NotEq (Value.ref _) (Value.ref _)) _ _ _); k_dflt ((refine' ne_ssE ?k1 ?k2 ?k3 ?e1 ?e2 ?k4 ?k6 ?k5 ?_; (case k1 => k_asm); (case k2 => k_mem); (case e1 => first | (with_reducible exact rfl) | (unfold tupO; with_reducible exact rfl)); (case k3 => k_mem); (case e2 => first | (with_reducible exact rfl) | (unfold tupO; with_reducible exact rfl)); (case k4 => exact okS_of _); (case k6 => first | assumption | exact okS_of _); (case k5 => first | exact Nat.le_of_ble_eq_true rfl | units_room | ktr_units); k_whole)))
  k_with "compareOp NotEq ref ref" => (k_here; (with_reducible show wpAny _ _ (compareOp CmpOp.NotEq (Value.ref _) (Value.ref _)) _ _ _); k_dflt ((refine' ne_siE ?k1 ?k2 ?k3 ?e1 ?e2 ?k4 ?k5 ?_; (case k1 => k_asm); (case k2 => k_mem); (case e1 => first | (with_reducible exact rfl) | (unfold tupO; with_reducible exact rfl)); (case k3 => k_mem); (case e2 => first | (with_reducible exact rfl) | (unfold tupO; with_reducible exact rfl)); (case k4 => exact okS_of _); (case k5 => first | exact Nat.le_of_ble_eq_true rfl | units_room | ktr_units); k_whole)))
  k_with "compareOp NotEq ref ref" => (k_here; (with_reducible show wpAny _ _ (compareOp CmpOp.NotEq (Value.ref _) (Value.ref _)) _ _ _); k_dflt ((refine' ne_same ?k1 ?k2 ?k3 ?k4 ?k6 ?k5 ?_; (case k1 => is_list); (case k2 => assumption); (case k3 => first | (refine' News.isList ?N9 ?m9; (case N9 => k_asm); (case m9 => k_mem))); (case k4 => assumption); (case k6 => exact (RowsOk.all (by assumption))); (case k5 => first | exact Nat.le_of_ble_eq_true rfl | units_room | ktr_units); k_whole)))
  k_with "CompSrc" => (k_here; k_dflt (refine LCg.CompSrc.range (by rfl) (by k_asm) (by k_asm) (by assumption) (range_ok (by omega) (by omega) (by omega) (by omega)).1 (range_ok (by omega) (by omega) (by omega) (by omega)).2 (by rw [PySem.sizeLine_eq]; omega) ?_; intro g'; refine' comp_words ?U ?turn ?fin ?h0; (case U => k_updF); (case h0 => assumption); (case' turn => intro g9 o9 k9 t9 I9 oI9 C9 oC9 D9 m9 ys9 h9 tk9 E9 hC9 hx9 F9 N9 off9 ne9 neT9 hT9 hg9 hg9'; clear ne9; (obtain ⟨nT1, nT2, nT3⟩ := neT9); (try dsimp only at N9 off9)); (case' fin => intro ys9 ts9 o9 g9 hs9 hl9 hw9 hT9 hg9 hg9'; intro D' h' tk' F' N' off'; (try dsimp only at N' off'); (have hn9 : ts9.length ≤ 3 := by omega))))
  k_with "CompEnd" => (k_here; k_dflt (refine' words_end ?F ?N ?off ?ha ?T ?w; (case F => k_asm); (case T => assumption); (case N => k_asm); (case off => assumption); (case ha => rfl); (case w => assumption)))
  k_with "subscriptTail Name" => (k_here; (with_reducible show wpAny _ _ (subscriptTail _ _ (Value.ref 579) (Value.int _ _)) _ _ _); k_dflt (refine' item_words ?F ?X ?a ?b ?_ ?s; (case F => k_asm); (case X => k_asm); (case a => first | assumption | omega); (case b => first | assumption | omega); (case s => with_unfolding_all rfl); k_whole); intro x' t' hx')
  k_with "subscriptTail" => (k_here; (with_reducible show wpAny _ _ (subscriptTail (Expr.Tuple _ _ _) _ (Value.ref _) (Value.int _ _)) _ _ _); k_dflt (refine' item_three ?t ?a ?b ?_ ?_ ?_ ?s; (case t => exact News.isTup (by k_asm) (by k_mem)); (case a => first | assumption | omega); (case b => first | assumption | omega); (case s => with_unfolding_all rfl)); (all_goals (intro hk9; subst hk9)))
  trivial
def forB : Stmt → List Stmt | .For _ _ b _ _ => b | _ => []
noncomputable def turnB : List Stmt := by
  refine' (?f : (b : List Stmt) → forB (MineHd.lawD.body.getD 6 (.Pass default)) = b → List Stmt) ?b ?h
  case' f => exact fun b _ => b
  case h => (conv => lhs; whnf)
noncomputable def finB : List Stmt := by
  refine' (?f : (b : List Stmt) → MineHd.lawD.body.drop 7 = b → List Stmt) ?b ?h
  case' f => exact fun b _ => b
  case h => (conv => lhs; whnf)
noncomputable def lawEnv (L fa : Addr) : Env := envOfC MineHd.lawD.name MineHd.lawD.scope L fa (.ref 625)
set_option maxHeartbeats 0 in
theorem law_turn {P : PySem.Program} {LZ : List PySem.Str} {mean : ExcName → Option Value} {mg mb : PySem.Str → Option Value} {ww : World} {H : Heap} {L fa : Addr} {sS : Shared} (X : (hpK ww.params).In H) (T : Top P LZ mean mg mb H) (K : Below callerA H [] H) (cH : CodeHd H 625 623) :
    TurnP ww (model PR ww) (callerA.deeper (lawEnv L fa)) (lawEnv L fa) H sS L turnB := by
  delta lawEnv turnB MineHd.lawD
  intro QT ET i k t m₁ news₁ h tk own I oI hi hIo hIown hIn hJ F9 N9
  obtain ⟨td, od, ro, re, run, tl, lo, le, to, oo, cto, cwo, cro, cio, g, TT, tt, tb, te, tr, be, en, er, us, vs, us', vs', tlv, tns, rows, rows2, c, c2, c3, c4, ctl, ps, rest, hown9, rfl, S⟩ := hJ
  obtain ⟨m', hm'⟩ : ∃ m', m₁ = fun y => if y = PySem.Str.ofString "own" then some (.ref od) else m' y := ⟨m₁, own_form hown9⟩
  clear hown9
  subst hm'
  have S0 := S
  obtain ⟨hto, ⟨hg0, hg1⟩, hoo, ⟨hT0, hT1⟩, hbe, hen, her, mlo, mle, s1, s2, s3, s4, r1, r2, hR, mtl, htl, hln, mcr, dcr, mci, dci, ⟨vct, dct⟩, ⟨vcw, dcw⟩, tab, off, nd⟩ := S0
  have hi10 : i ≤ 10 := by omega
  have r1k := r1.ok (by omega)
  have r1u := r1.up
  have r2u := r2.up
  have r2k := r2.ok (by omega)
  have hIr : ∀ p ∈ rest, p.1 ≠ I := fun p hp => hIn p (by simp [hp])
  have hId : ∀ d ∈ lawDs L td od ro re, @Ne Nat d I := by
    simp only [List.forall_mem_cons] at hIn ⊢
    exact ⟨hIn.1, hIn.2.1, hIn.2.2.1, hIn.2.2.2.1, hIn.2.2.2.2.1, hIn.2.2.2.2.2.1, hIn.2.2.2.2.2.2.1, List.forall_mem_nil _⟩
  have hsub : ∀ p ∈ rest, p ∈ rest ++ own := fun p hp => List.mem_append_left _ hp
  have hsubo : ∀ p ∈ own, p ∈ rest ++ own := fun p hp => List.mem_append_right _ hp
  have off2 : ∀ p ∈ rest ++ own, p.1 ∉ lawDs L td od ro re := fun p hp hd => by
    rcases List.mem_append.mp hp with hp | hp
    · exact off p hp hd
    · exact hId _ hd (hIown p hp)
  have tab2 := (TabInv.more tab hIr).mono hsub
  simp only [List.cons_append] at N9
  generalize rest ++ own = R2 at *
  have hR2 := hR.mono hsub
  obtain ⟨runD, res, rc1, mr1, mr2, er1, er2⟩ := run_rows hR2
  have o1 : ∀ p ∈ R2, p.1 ≠ td := fun p hp e => off2 p hp (by simp [lawDs, e])
  have o2 : ∀ p ∈ R2, p.1 ≠ od := fun p hp e => off2 p hp (by simp [lawDs, e])
  have o3 : ∀ p ∈ R2, p.1 ≠ ro := fun p hp e => off2 p hp (by simp [lawDs, e])
  have o4 : ∀ p ∈ R2, p.1 ≠ re := fun p hp e => off2 p hp (by simp [lawDs, e])
  have o5 : ∀ p ∈ R2, p.1 ≠ 623 := fun p hp e => off2 p hp (by simp [lawDs, e])
  have o6 : ∀ p ∈ R2, p.1 ≠ L + 1 + 1 + 1 := fun p hp e => off2 p hp (by simp [lawDs, e])
  have o7 : ∀ p ∈ R2, p.1 ≠ L + 1 + 1 + 1 + 1 := fun p hp e => off2 p hp (by simp [lawDs, e])
  have mlo2 := hsub _ mlo
  have mle2 := hsub _ mle
  have mtl2 := hsub _ mtl
  have mcr2 := hsub _ mcr
  have mci2 := hsub _ mci
  have mI2 := hsubo _ hIo
  obtain ⟨nI1, nI2, nI3, nI4, nI5, nI6, nI7⟩ := neI hId
  have nlo : ∀ d ∈ I :: lawDs L td od ro re, @Ne Nat lo d := List.forall_mem_cons.mpr ⟨hIr _ mlo, fun d hd e => off _ mlo (e ▸ hd)⟩
  have nle : ∀ d ∈ I :: lawDs L td od ro re, @Ne Nat le d := List.forall_mem_cons.mpr ⟨hIr _ mle, fun d hd e => off _ mle (e ▸ hd)⟩
  obtain ⟨nlo1, nlo2, nlo3, nlo4, nlo5, nlo6, nlo7, nlo8⟩ := ne8 nlo
  obtain ⟨nle1, nle2, nle3, nle4, nle5, nle6, nle7, nle8⟩ := ne8 nle
  have ntl : NeA tl td := ⟨o1 _ mtl2⟩
  obtain ⟨nd1, nd2, nd3, nd4, nd5, nd6, nd7, nd8, nd9, nd10, nd11, nd12, nd13, nd14, nd15, nd16, nd17, nd18, nd19, nd20, nd21⟩ := nd_facts nd
  (try k_fold)
  k_steps
  all_goals (try dsimp only)
  all_goals (
    rename Fr H _ _ _ => hF
    rename News H _ _ _ => hN
    k_dflt (refine' end_turn S hF hN ?hm ?mtd ?mod ?mro ?mre ?mP ?mct ?mcw ?hrest ?hown hIr hId ?hto ?hg ?hoo ?mlo ?mle ?s1 ?s2 ?s3 ?s4 ?r1 ?r2 ?dct ?dcw ?mc ?eps ?ec1 ?ec2 ?hc ?hlo ?hle)
    case hm => first | rfl | simp
    case mtd => k_dflt k_mem
    case mod => k_dflt k_mem
    case mro => k_dflt k_mem
    case mre => k_dflt k_mem
    case mP => k_dflt k_mem
    case mct => k_dflt k_mem
    case mcw => k_dflt k_mem
    case hrest => (intro p9 hp9; (have hp9 := hsub p9 hp9); repeat (first | exact hp9 | refine List.mem_cons_of_mem _ ?_))
    case hown => (intro p9 hp9; (have hp9 := hsubo p9 hp9); repeat (first | exact hp9 | refine List.mem_cons_of_mem _ ?_))
    case hto => assumption
    case hg => exact ⟨by omega, by omega⟩
    case hoo => assumption
    case mlo => k_dflt k_mem
    case mle => k_dflt k_mem
    case s1 => assumption
    case s2 => assumption
    case s3 => assumption
    case s4 => assumption
    case r1 => assumption
    case r2 => assumption
    case dct => exact ⟨_, by assumption⟩
    case dcw => exact ⟨_, by assumption⟩
    case eps => assumption
    case mc => k_dflt k_mem
    case ec1 => assumption
    case ec2 => assumption
    case hc => assumption
    case hlo => first | exact nlo | exact ne8' ⟨⟨by k_ne⟩, ⟨by k_ne⟩, ⟨by k_ne⟩, ⟨by k_ne⟩, ⟨by k_ne⟩, ⟨by k_ne⟩, ⟨by k_ne⟩, ⟨by k_ne⟩⟩
    case hle => first | exact nle | exact ne8' ⟨⟨by k_ne⟩, ⟨by k_ne⟩, ⟨by k_ne⟩, ⟨by k_ne⟩, ⟨by k_ne⟩, ⟨by k_ne⟩, ⟨by k_ne⟩, ⟨by k_ne⟩⟩)
end TLawT1
end Mine
namespace Mine
section TLawT2
open PySem PySem.W PyProof.Rows PySem.Spec PySem.Calls
open MineHd (hpK vwK hdT)
local macro_rules | `(tactic| k_all) => `(tactic| assumption)
local macro_rules | `(tactic| walk_at $s:str) => `(tactic| k_extra $s)
local macro_rules | `(tactic| k_all) => `(tactic| exact offK (by assumption) (by k_mem))
local macro_rules | `(tactic| k_ne) => `(tactic| (refine neN ?_; (try dsimp only); first | exact NeA.out (by assumption) | exact Ne.symm (NeA.out (by assumption)) | exact ne_of_all (by assumption) (by k_mem) | exact Ne.symm (ne_of_all (by assumption) (by k_mem)) | exact ne_of_off (by assumption) (by k_mem) | exact Ne.symm (ne_of_off (by assumption) (by k_mem)) | omega))
local macro_rules | `(tactic| k_get) => `(tactic| assumption)
local macro_rules | `(tactic| k_mem) => `(tactic| first | assumption | exact List.Mem.head _ | (refine List.mem_cons_of_mem _ ?_; k_mem))
local macro_rules | `(tactic| k_memK) => `(tactic| k_mem)
theorem said_LawT2_0 : True := by
  k_with_none
  k_with "compareOp NotIn str ref" => (k_here; k_dflt (refine' kdg_notin (knd := PySem.strKind _ _) ?N ?m ?d ?lo (strKind_is _ _ _ _) true ?b ?_; (case N => k_asm); (case m => k_mem); (case d => assumption); (case lo => assumption); (case b => first | assumption | rfl); k_whole))
  k_with "subscriptTail" => (k_here; (with_reducible show wpAny _ _ (subscriptTail _ _ (Value.ref _) (Value.str _ _)) _ _ _); k_dflt (refine' kda_item (knd := PySem.strKind _ _) ?N ?m ?d (strKind_is _ _ _ _) ?v ?_; (case N => k_asm); (case m => k_mem); (case d => assumption); (case v => first | assumption | rfl); k_whole))
  k_with "subscriptTail Name Constant ref str" => (k_here; (with_reducible show wpAny _ _ (subscriptTail _ _ (Value.ref _) (Value.str _ _)) _ _ _); k_dflt (refine' kda_item (knd := PySem.strKind _ _) ?N ?m ?d (strKind_is _ _ _ _) ?v ?_; (case N => k_asm); (case m => k_mem); (case d => assumption); (case v => first | assumption | rfl); k_whole))
  k_with "call ref" => (k_here; (with_reducible show wpAny _ _ (call (Value.ref 586) _) _ _ _); k_dflt ((refine' takeT _ _ _ _ _ _ _ _ _ _ _ _ _ _ _ _ _ _ _ ?B ?F ?X ?T ?hk _ _ _ _ _ _ _ _ _ ?N ?U ?m1 ?n1 ?ho ?hi ?hlen ?hg ?hg2 ?hm ?hm2 ?hd ?hu ?_); (case B => k_asm); (case F => k_asm); (case X => k_asm); (case T => k_asm); (case hk => first | exact rfl | assumption); (case N => k_asm); (case U => k_updF); (case ho => first | assumption | exact ⟨_, by assumption⟩); (case m1 => k_mem); (case n1 => k_ne); (case hi => first | assumption | l_ints); (case hlen => first | assumption | omega); (case hg => omega); (case hg2 => omega); (case hm => decide); (case hm2 => decide); (case hd => first | k_room | ktr_room); (case hu => first | (simp only [units_in1, units_deeper, Around.mark_units, units_caller, cLine]; decide) | ktr_units | (simp only [units_in1, units_deeper, Around.mark_units, units_caller, cLine]; omega) | (simp only [units_in1, units_deeper, Around.mark_units, units_caller, cLine]; decide)); intro r' t' h' tk' o' hr0' hr1' F' N' ho'; (try dsimp only at N'); (try k_sweep); (try dsimp only)))
  k_with "subscriptTail" => (k_here; (with_reducible show wpAny _ _ (subscriptTail _ _ (Value.ref _) (Value.int _ _)) _ _ _); k_dflt (refine' item_int 0 1000 ?l ?v ?a ?b ?c ?_ ?s; (case l => is_list); (case v => (intro v hv; simp only [List.mem_cons, List.not_mem_nil, or_false] at hv; rcases hv with rfl | rfl | rfl | rfl <;> exact ⟨_, _, rfl, by decide, by decide⟩)); (case a => first | assumption | omega); (case b => (simp only [List.length_cons, List.length_nil]; omega)); (case c => exact Nat.le_of_ble_eq_true rfl); (case s => with_unfolding_all rfl); k_whole); intro n' t' hn0' hn1')
  k_with "subscriptTail" => (k_here; (with_reducible show wpAny _ _ (subscriptTail _ _ (Value.ref _) (Value.int _ _)) _ _ _); k_dflt (refine' item_int 0 40 ?l ?v ?a ?b ?c ?_ ?s; (case l => is_list); (case v => (intro v hv; simp only [List.mem_cons, List.not_mem_nil, or_false] at hv; rcases hv with rfl | rfl | rfl <;> exact ⟨_, _, rfl, by decide, by decide⟩)); (case a => first | assumption | omega); (case b => (simp only [List.length_cons, List.length_nil]; omega)); (case c => exact Nat.le_of_ble_eq_true rfl); (case s => with_unfolding_all rfl); k_whole); intro n' t' hn0' hn1')
  k_with "subscriptTail" => (k_here; (with_reducible show wpAny _ _ (subscriptTail _ _ (Value.ref _) (Value.int _ _)) _ _ _); k_dflt (refine' item_mem ?l ?v ?a ?b ?c ?_ ?s; (case l => is_list); (case v => (repeat (first | exact PyProof.Rows.StrsAre.nil | apply PyProof.Rows.StrsAre.cons))); (case a => first | assumption | omega); (case b => (simp only [List.length_cons, List.length_nil]; omega)); (case c => exact Nat.le_of_ble_eq_true rfl); (case s => with_unfolding_all rfl); k_whole); intro x' t' hx')
  k_with "setItem ref str" => (k_here; k_dflt (refine' kda_set (knd := PySem.strKind _ _) ?F ?N ?U ?d (strKind_is _ _ _ _) ?z ?_; (case F => k_asm); (case N => k_asm); (case U => k_updF); (case d => assumption); (case z => (rw [sizeLine_eq]; exact Nat.le_of_ble_eq_true rfl))); intro h' o' F' N' hd'; (try dsimp only at N'); (try rw [stored_absent (by rfl)] at hd'); (try dsimp only [List.cons_append, List.nil_append] at hd'); (try k_sweep))
  k_with "binaryOp Mult ref int" => (k_here; k_dflt (refine' rep_one ?F ?N ?m ?a ?b ?x ?o ?_; (case F => k_asm); (case N => k_asm); (case m => k_mem); (case a => first | assumption | omega); (case b => first | assumption | omega); (case x => exact (abcd_cut (by assumption) (by assumption)).1); (case o => exact (abcd_cut (by assumption) (by assumption)).2); k_whole); intro D' us' rows' h' F' N' l1 hs' hr'; (try k_lt l1); (try k_sweep))
  k_with "callWith ref" => (k_here; k_dflt (refine' callWith_K ?k1 ?k2 ?_; (case k1 => k_asm); (case k2 => k_is); k_whole))
  k_with "call ref" => (k_here; (with_reducible show wpAny _ _ (call (Value.ref 593) _) _ _ _); k_dflt ((refine' lrun_led _ _ _ _ _ _ _ _ _ _ _ _ _ _ _ _ _ _ ?B ?F ?X ?T ?hk _ _ _ _ _ _ _ _ _ _ _ _ _ _ _ ?N ?mo ?ml ?ho ?hv ?hr ?hd ?hu ?_); (case B => k_asm); (case F => k_asm); (case X => k_asm); (case T => k_asm); (case hk => first | exact rfl | assumption); (case N => k_asm); (case mo => k_mem); (case ho => assumption); (case ml => k_mem); (case hv => assumption); (case hr => (refine RowsN.len (n := 5000) ?_; assumption)); (case hd => first | k_room | ktr_room); (case hu => first | (simp only [units_in1, units_deeper, Around.mark_units, units_caller, cLine]; decide) | ktr_units | (simp only [units_in1, units_deeper, Around.mark_units, units_caller, cLine]; omega) | (simp only [units_in1, units_deeper, Around.mark_units, units_caller, cLine]; decide)); intro run' ro' re' c' c2' fr' h' tk' hR' F' N' hf1' hf2' hfK' hn' hq1' hq2'; (try simp only [List.cons_append, List.nil_append] at N'); (try k_sweep); (try dsimp only)))
  k_with "exec For Name Call cons nil" => (k_here; (rename Fr _ _ _ _ => lF'); (with_unfolding_all refine' For_invVF lF' ?k1 ?k2 ?_; (case k1 => exact rfl); (case k2 => exact rfl); k_whole))
  k_with "pyIter ref" => ((with_reducible show wpAny _ _ (pyIter (Value.ref _)) (fun it s₂ => LoopAtV _ _ _ _ _ _ _ _ _ it s₂) _ _); refine Stop.intro ?_)
  k_with "eval Lambda" => (k_here; (with_reducible show wpAny _ _ (eval (Expr.Lambda _ (Expr.Call _ [_, Expr.Name _ _, _] _ _) _ _) _) _ _ _); k_dflt ((refine' kla_eval ?d0 ?_; (case d0 => exact rfl)); (refine' lam_any (scope := lamScope) (clos := lamClos _ _ _) ?F ?N ?T ?C ?cd ?U ?tab ?ds ?cl ?_; (case F => k_asm); (case N => k_asm); (case T => k_asm); (case cd => exact rfl); (case C => kn_code); (case U => k_updF); (case tab => (refine TabInv.mono (by assumption) ?_; intro p9 hp9; repeat (first | exact hp9 | refine List.mem_cons_of_mem _ ?_))); (case ds => (repeat (first | exact List.forall_mem_nil _ | refine List.forall_mem_cons.mpr ⟨⟨_, by k_mem⟩, ?_⟩))); (case cl => (refine lam_clos ?cl1 ?cl2 ?cl3; (case cl1 => exact rfl); (case cl2 => exact rfl); (case cl3 => exact rfl))); k_whole); intro f' c' oc' vs' t' ctv' ps' h' tk' F' N' d1' d2' eps' hc' l1' l2'; (try dsimp only at N'); (obtain ⟨n1', n2', n3', n4', n5', n6', n7', n8'⟩ := ne8 hc'); (try simp only [AllLt, and_true] at l1'); (try k_sweep)))
  k_with "call ref" => (k_here; (with_reducible show wpAny _ _ (call (Value.ref 600) _) _ _ _); k_dflt ((refine' heard_end _ _ _ _ _ _ _ _ _ _ _ _ _ _ _ _ ?B ?F ?X ?T ?hk ?XB ?TB ?N ?hd ?hu ?LI ?U ?mro ?R ?hrr ?hro ?hv ?hr ?hbe ?hen ?hTT ?_ ?_); (case B => k_asm); (case F => k_asm); (case X => k_asm); (case T => k_asm); (case hk => first | exact rfl | assumption); (case XB => assumption); (case TB => assumption); (case N => k_asm); (case LI => (refine' EndIs.mk ?mf ?mc ?lc1 ?lc2 ?lm1 ?le1; (case mf => k_mem); (case mc => k_mem); (case lc1 => assumption); (case lc2 => assumption); (case lm1 => k_mem); (case le1 => assumption))); (case R => assumption); (case U => k_updF); (case mro => k_mem); (case hrr => first | assumption | exact sub_cons (by assumption) | (intro p9 hp9; repeat (first | exact hp9 | refine List.mem_cons_of_mem _ ?_))); (case hro => assumption); (case hv => assumption); (case hr => assumption); (case hbe => assumption); (case hen => assumption); (case hTT => first | assumption | exact And.intro (by omega) (by omega)); (case hd => first | k_room | ktr_room); (case hu => first | exact Nat.le_of_ble_eq_true rfl | (simp only [units_in1, units_deeper, Around.mark_units, units_caller, cLine]; decide) | ktr_units); intro rs' us' c' ta' t' t2' h' tk' hc' hv' F' N' l1'; (try dsimp only at N' l1'); (try simp only [AllLt, and_true] at l1'); (try k_sweep); (try dsimp only); rotate_left; intro y' ta' t' t2' h' tk' hc' F' N' l1'; (try dsimp only at N' l1'); (try simp only [AllLt, and_true] at l1'); (try k_sweep); (try dsimp only); rotate_left))
  k_with "call ref" => (k_here; (with_reducible show wpAny _ _ (call (Value.ref 600) _) _ _ _); k_dflt ((refine' heard_print _ _ _ _ _ _ _ _ _ _ _ _ _ _ _ _ ?B ?F ?X ?T ?hk ?XB ?TB ?N ?hd ?hu ?LI ?U ?R ?hrr ?hro ?m0 ?n0 ?hts ?hn ?hl ?hv ?hr ?hbe ?hen ?hTT ?_ ?_); (case B => k_asm); (case F => k_asm); (case X => k_asm); (case T => k_asm); (case hk => first | exact rfl | assumption); (case XB => assumption); (case TB => assumption); (case N => k_asm); (case LI => (refine' LamIs.mk ?mf ?mc ?lc1 ?lc2 ?lm1 ?lm2 ?lm3 ?le1 ?le2 ?le3; (case le3 => (with_reducible assumption)); (case mf => k_mem); (case mc => k_mem); (case lc1 => assumption); (case lc2 => assumption); (case lm1 => k_mem); (case lm2 => k_mem); (case lm3 => k_mem); (case le1 => assumption); (case le2 => assumption))); (case R => assumption); (case U => k_updF); (case hrr => first | assumption | exact sub_cons (by assumption) | (intro p9 hp9; repeat (first | exact hp9 | refine List.mem_cons_of_mem _ ?_))); (case hro => assumption); (case m0 => k_mem); (case n0 => k_ne); (case hts => assumption); (case hn => first | assumption | exact Nat.le_of_ble_eq_true rfl | omega); (case hl => assumption); (case hv => assumption); (case hr => assumption); (case hbe => assumption); (case hen => assumption); (case hTT => first | assumption | exact And.intro (by omega) (by omega)); (case hd => first | k_room | ktr_room); (case hu => first | exact Nat.le_of_ble_eq_true rfl | (simp only [units_in1, units_deeper, Around.mark_units, units_caller, cLine]; decide) | ktr_units); intro rs' us' c' ta' t' t2' h' tk' hc' hv' F' N' l1'; (try dsimp only at N' l1'); (try simp only [AllLt, and_true] at l1'); (try k_sweep); (try dsimp only); rotate_left; intro y' ta' t' t2' h' tk' hc' F' N' l1'; (try dsimp only at N' l1'); (try simp only [AllLt, and_true] at l1'); (try k_sweep); (try dsimp only); rotate_left))
  k_with "call ref" => (k_here; (with_reducible show wpAny _ _ (call (Value.ref 600) _) _ _ _); k_dflt ((refine' heard_warn _ _ _ _ _ _ _ _ _ _ _ _ _ _ _ _ ?B ?F ?X ?T ?hk ?XB ?TB ?N ?hd ?hu ?LI ?U ?R ?hrr ?hro ?m0 ?n0 ?hts ?hn ?hl ?hv ?hr ?her ?hTT ?_ ?_); (case B => k_asm); (case F => k_asm); (case X => k_asm); (case T => k_asm); (case hk => first | exact rfl | assumption); (case XB => assumption); (case TB => assumption); (case N => k_asm); (case LI => (refine' LamIs.mk ?mf ?mc ?lc1 ?lc2 ?lm1 ?lm2 ?lm3 ?le1 ?le2 ?le3; (case le3 => (with_reducible assumption)); (case mf => k_mem); (case mc => k_mem); (case lc1 => assumption); (case lc2 => assumption); (case lm1 => k_mem); (case lm2 => k_mem); (case lm3 => k_mem); (case le1 => assumption); (case le2 => assumption))); (case R => assumption); (case U => k_updF); (case hrr => first | assumption | exact sub_cons (by assumption) | (intro p9 hp9; repeat (first | exact hp9 | refine List.mem_cons_of_mem _ ?_))); (case hro => assumption); (case m0 => k_mem); (case n0 => k_ne); (case hts => assumption); (case hn => first | assumption | exact Nat.le_of_ble_eq_true rfl | omega); (case hl => assumption); (case hv => assumption); (case hr => assumption); (case her => assumption); (case hTT => first | assumption | exact And.intro (by omega) (by omega)); (case hd => first | k_room | ktr_room); (case hu => first | exact Nat.le_of_ble_eq_true rfl | (simp only [units_in1, units_deeper, Around.mark_units, units_caller, cLine]; decide) | ktr_units); intro rs' us' c' ta' t' t2' h' tk' hc' hv' F' N' l1'; (try dsimp only at N' l1'); (try simp only [AllLt, and_true] at l1'); (try k_sweep); (try dsimp only); rotate_left; intro y' ta' t' t2' h' tk' hc' F' N' l1'; (try dsimp only at N' l1'); (try simp only [AllLt, and_true] at l1'); (try k_sweep); (try dsimp only); rotate_left))
  k_with "call ref" => (k_here; (with_reducible show wpAny _ _ (call (Value.ref 600) _) _ _ _); k_dflt ((refine' heard_die _ _ _ _ _ _ _ _ _ _ _ _ _ _ _ _ ?B ?F ?X ?T ?hk ?XB ?TB ?N ?hd ?hu ?LI ?R ?hrr ?m0 ?hts ?hn ?hl ?her ?hTT ?_ ?_); (case B => k_asm); (case F => k_asm); (case X => k_asm); (case T => k_asm); (case hk => first | exact rfl | assumption); (case XB => assumption); (case TB => assumption); (case N => k_asm); (case LI => (refine' LamIs.mk ?mf ?mc ?lc1 ?lc2 ?lm1 ?lm2 ?lm3 ?le1 ?le2 ?le3; (case le3 => (with_reducible assumption)); (case mf => k_mem); (case mc => k_mem); (case lc1 => assumption); (case lc2 => assumption); (case lm1 => k_mem); (case lm2 => k_mem); (case lm3 => k_mem); (case le1 => assumption); (case le2 => assumption))); (case R => assumption); (case hrr => first | assumption | exact sub_cons (by assumption) | (intro p9 hp9; repeat (first | exact hp9 | refine List.mem_cons_of_mem _ ?_))); (case m0 => k_mem); (case hts => assumption); (case hn => first | assumption | exact Nat.le_of_ble_eq_true rfl | omega); (case hl => assumption); (case her => assumption); (case hTT => first | assumption | exact And.intro (by omega) (by omega)); (case hd => first | k_room | ktr_room); (case hu => first | exact Nat.le_of_ble_eq_true rfl | (simp only [units_in1, units_deeper, Around.mark_units, units_caller, cLine]; decide) | ktr_units); intro y' ta' t' t2' h' tk' hc' F' N' l1'; (try dsimp only at N' l1'); (try simp only [AllLt, and_true] at l1'); (try k_sweep); (try dsimp only); rotate_left; intro x' ta' t' t2' h' tk' hc' ho' F' N' l1'; (try dsimp only at N' l1'); (try simp only [AllLt, and_true] at l1'); (try k_sweep); (try dsimp only); rotate_left))
  k_with "eval Lambda" => (k_here; (with_reducible show wpAny _ _ (eval (Expr.Lambda _ (Expr.Call _ [_, Expr.List _ _, _] _ _) _ _) _) _ _ _); k_dflt ((refine' kla_eval ?d0 ?_; (case d0 => exact rfl)); (refine' lam_end (scope := endScope) (clos := [(PySem.Str.ofString "run", _)]) ?F ?N ?T ?C ?cd ?U ?tab ?hl ?cl ?_; (case F => k_asm); (case N => k_asm); (case T => k_asm); (case cd => exact rfl); (case C => kn_code); (case U => k_updF); (case tab => (refine TabInv.mono (by assumption) ?_; intro p9 hp9; repeat (first | exact hp9 | refine List.mem_cons_of_mem _ ?_))); (case hl => decide); (case cl => (refine end_clos ?cl1; (case cl1 => exact rfl))); k_whole); intro f' c' oc' vs' t' ctv' ps' h' tk' F' N' d1' d2' l1' l2' l3'; (try dsimp only at N' l1' l2'); (try simp only [AllLt, and_true] at l1' l2'); (try k_sweep)))
  k_with "compareOp Eq ref ref" => (k_here; (with_reducible show wpAny _ _ (compareOp CmpOp.Eq (Value.ref _) (Value.ref _)) _ _ _); k_dflt ((refine' eq_ssE ?k1 ?k2 ?k3 ?e1 ?e2 ?k4 ?k6 ?k5 ?_; (case k1 => k_asm); (case k2 => k_mem); (case e1 => first | (with_reducible exact rfl) | (unfold tupO; with_reducible exact rfl)); (case k3 => k_mem); (case e2 => first | (with_reducible exact rfl) | (unfold tupO; with_reducible exact rfl)); (case k4 => exact okS_of _); (case k6 => first | assumption | exact okS_of _); (case k5 => first | exact Nat.le_of_ble_eq_true rfl | units_room | ktr_units); k_whole)))
  k_with "compareOp Eq ref ref" => (k_here; (with_reducible show wpAny _ _ (compareOp CmpOp.Eq (Value.ref _) (Value.ref _)) _ _ _); k_dflt ((refine' eq_siE ?k1 ?k2 ?k3 ?e1 ?e2 ?k4 ?k5 ?_; (case k1 => k_asm); (case k2 => k_mem); (case e1 => first | (with_reducible exact rfl) | (unfold tupO; with_reducible exact rfl)); (case k3 => k_mem); (case e2 => first | (with_reducible exact rfl) | (unfold tupO; with_reducible exact rfl)); (case k4 => exact okS_of _); (case k5 => first | exact Nat.le_of_ble_eq_true rfl | units_room | ktr_units); k_whole)))
  k_with "call ref" => (k_here; (with_reducible show wpAny _ _ (call (Value.ref 329) _) _ _ _); k_dflt ((refine' print_led _ _ _ _ _ _ _ _ _ _ _ _ _ _ _ _ _ _ _ ?B ?F ?X ?T ?hk _ _ _ _ _ _ _ _ _ _ _ _ _ _ _ _ ?N ?U ?R ?hrr ?hro ?m0 ?n0 ?hts ?hn ?hl ?hv ?hr ?hbe ?hen ?hTT ?hd ?hu ?_ ?_); (case B => k_asm); (case F => k_asm); (case X => k_asm); (case T => k_asm); (case hk => first | exact rfl | assumption); (case N => k_asm); (case R => assumption); (case U => k_updF); (case hrr => first | assumption | exact sub_cons (by assumption) | (intro p9 hp9; repeat (first | exact hp9 | refine List.mem_cons_of_mem _ ?_))); (case hro => assumption); (case m0 => k_mem); (case n0 => k_ne); (case hts => first | assumption | exact .cons _ _ .nil); (case hn => first | assumption | exact Nat.le_of_ble_eq_true rfl | omega); (case hl => assumption); (case hv => assumption); (case hr => assumption); (case hbe => assumption); (case hen => assumption); (case hTT => first | assumption | exact And.intro (by omega) (by omega)); (case hd => first | k_room | ktr_room); (case hu => first | exact Nat.le_of_ble_eq_true rfl | (simp only [units_in1, units_deeper, Around.mark_units, units_caller, cLine]; decide) | ktr_units); intro rs' us' c' h' tk' t' hc' hv' F' N'; (try dsimp only at N'); (try k_sweep); (try dsimp only); rotate_left; intro x' e' t' g' h' tk' hc' hh' hx' F' U' R'; (try dsimp only); (try dsimp only); rotate_left))
  k_with "call ref" => (k_here; (with_reducible show wpAny _ _ (call (Value.ref 515) _) _ _ _); k_dflt ((refine' warn_led _ _ _ _ _ _ _ _ _ _ _ _ _ _ _ _ _ _ _ ?B ?F ?X ?T ?hk _ _ _ _ _ _ _ _ _ _ _ _ _ _ _ _ ?N ?U ?R ?hrr ?hro ?m0 ?n0 ?hts ?hn ?hl ?hv ?hr ?her ?hTT ?hd ?hu ?_ ?_); (case B => k_asm); (case F => k_asm); (case X => k_asm); (case T => k_asm); (case hk => first | exact rfl | assumption); (case N => k_asm); (case R => assumption); (case U => k_updF); (case hrr => first | assumption | exact sub_cons (by assumption) | (intro p9 hp9; repeat (first | exact hp9 | refine List.mem_cons_of_mem _ ?_))); (case hro => assumption); (case m0 => k_mem); (case n0 => k_ne); (case hts => assumption); (case hn => first | assumption | exact Nat.le_of_ble_eq_true rfl | omega); (case hl => assumption); (case hv => assumption); (case hr => assumption); (case her => assumption); (case hTT => first | assumption | exact And.intro (by omega) (by omega)); (case hd => first | k_room | ktr_room); (case hu => first | exact Nat.le_of_ble_eq_true rfl | (simp only [units_in1, units_deeper, Around.mark_units, units_caller, cLine]; decide) | ktr_units); intro rs' us' c' h' tk' t' hc' hv' F' N'; (try dsimp only at N'); (try k_sweep); (try dsimp only); rotate_left; intro x' e' t' g' h' tk' hc' hh' hx' F' U' R'; (try dsimp only); (try dsimp only); rotate_left))
  k_with "call ref" => (k_here; (with_reducible show wpAny _ _ (call (Value.ref 508) _) _ _ _); k_dflt ((refine' die_led _ _ _ _ _ _ _ _ _ _ _ _ _ _ _ _ _ _ ?B ?F ?X ?T ?hk _ _ _ _ _ _ _ _ _ _ _ _ _ ?N ?R ?hrr ?m0 ?hts ?hn ?hl ?her ?hTT ?hd ?hu ?_ ?_); (case B => k_asm); (case F => k_asm); (case X => k_asm); (case T => k_asm); (case hk => first | exact rfl | assumption); (case N => k_asm); (case R => assumption); (case hrr => first | assumption | exact sub_cons (by assumption) | (intro p9 hp9; repeat (first | exact hp9 | refine List.mem_cons_of_mem _ ?_))); (case m0 => k_mem); (case hts => assumption); (case hn => first | assumption | exact Nat.le_of_ble_eq_true rfl | omega); (case hl => assumption); (case her => assumption); (case hTT => first | assumption | exact And.intro (by omega) (by omega)); (case hd => first | k_room | ktr_room); (case hu => first | exact Nat.le_of_ble_eq_true rfl | (simp only [units_in1, units_deeper, Around.mark_units, units_caller, cLine]; decide) | ktr_units); intro x' e' t' g' h' tk' hc' hh' ho' hx' F' U' R'; (try dsimp only); (try dsimp only); rotate_left; intro x' e' t' g' h' tk' hc' hh' hx' F' U' R'; (try dsimp only); (try dsimp only); rotate_left))
  k_with "call ref" => (k_here; (with_reducible show wpAny _ _ (call (Value.ref 621) [Value.ref _, Value.int 0 _, Value.ref _]) _ _ _); k_dflt ((refine' due0_led _ _ _ _ _ _ _ _ _ _ _ _ _ _ _ _ _ _ _ ?B ?F ?X ?T ?hk _ _ _ _ _ _ _ _ _ _ _ _ _ _ _ _ _ _ _ _ ?N ?U ?ho ?m0 ?n0 ?hv ?hr ?m1 ?n1 ?hts ?hn ?hl ?hbe ?hen ?her ?hTT ?hd ?hu ?_ ?_); (case B => k_asm); (case F => k_asm); (case X => k_asm); (case T => k_asm); (case hk => first | exact rfl | assumption); (case N => k_asm); (case U => k_updF); (case ho => assumption); (case m0 => k_mem); (case n0 => k_ne); (case hv => assumption); (case hr => assumption); (case m1 => k_mem); (case n1 => k_ne); (case hts => first | assumption | exact .cons _ _ .nil); (case hn => first | assumption | exact Nat.le_of_ble_eq_true rfl | omega); (case hl => assumption); (case hbe => assumption); (case hen => assumption); (case her => assumption); (case hTT => first | assumption | exact And.intro (by omega) (by omega)); (case hd => first | k_room | ktr_room); (case hu => first | exact Nat.le_of_ble_eq_true rfl | (simp only [units_in1, units_deeper, Around.mark_units, units_caller, cLine]; decide) | ktr_units); intro rs' us' c' oo' l' ta' h' tk' t' t2' hc' hv' F' ho' N' hq'; (try dsimp only at N'); (first | exact (said_no (by assumption) hc').elim | ((have hq9 := said_eq (by assumption) hc'); subst hq9; (obtain ⟨hrw', hrk'⟩ := printR_i (by assumption) (by assumption) (by assumption) (by assumption) (by assumption) (by assumption) hc'); clear hc'; (try k_sweep))); (try dsimp only); rotate_left; intro x' ta' h' tk' t' t2' hc' F' N'; (try dsimp only at N'); (first | exact (said_ok (by assumption) hc').elim | (clear hc'; (try k_sweep))); (try dsimp only); rotate_left))
  k_with "call ref" => (k_here; (with_reducible show wpAny _ _ (call (Value.ref 621) [Value.ref _, Value.int 1 _, Value.ref _]) _ _ _); k_dflt ((refine' due1_led _ _ _ _ _ _ _ _ _ _ _ _ _ _ _ _ _ _ _ ?B ?F ?X ?T ?hk _ _ _ _ _ _ _ _ _ _ _ _ _ _ _ _ _ _ _ _ ?N ?U ?ho ?m0 ?n0 ?hv ?hr ?m1 ?n1 ?hts ?hn ?hl ?hbe ?hen ?her ?hTT ?hd ?hu ?_ ?_); (case B => k_asm); (case F => k_asm); (case X => k_asm); (case T => k_asm); (case hk => first | exact rfl | assumption); (case N => k_asm); (case U => k_updF); (case ho => assumption); (case m0 => k_mem); (case n0 => k_ne); (case hv => assumption); (case hr => assumption); (case m1 => k_mem); (case n1 => k_ne); (case hts => first | assumption | exact .cons _ _ .nil); (case hn => first | assumption | exact Nat.le_of_ble_eq_true rfl | omega); (case hl => assumption); (case hbe => assumption); (case hen => assumption); (case her => assumption); (case hTT => first | assumption | exact And.intro (by omega) (by omega)); (case hd => first | k_room | ktr_room); (case hu => first | exact Nat.le_of_ble_eq_true rfl | (simp only [units_in1, units_deeper, Around.mark_units, units_caller, cLine]; decide) | ktr_units); intro rs' us' c' oo' l' ta' h' tk' t' t2' hc' hv' F' ho' N' hq'; (try dsimp only at N'); (first | exact (said_no (by assumption) hc').elim | ((have hq9 := said_eq (by assumption) hc'); subst hq9; (obtain ⟨hrw', hrk'⟩ := warnR_i (by assumption) (by assumption) (by assumption) (by assumption) (by assumption) hc'); clear hc'; (try k_sweep))); (try dsimp only); rotate_left; intro x' ta' h' tk' t' t2' hc' F' N'; (try dsimp only at N'); (first | exact (said_ok (by assumption) hc').elim | (clear hc'; (try k_sweep))); (try dsimp only); rotate_left))
  k_with "call ref" => (k_here; (with_reducible show wpAny _ _ (call (Value.ref 621) [Value.ref _, Value.int 2 _, Value.ref _]) _ _ _); k_dflt ((refine' due2_led _ _ _ _ _ _ _ _ _ _ _ _ _ _ _ _ _ _ _ ?B ?F ?X ?T ?hk _ _ _ _ _ _ _ _ _ _ _ _ _ _ _ _ _ _ _ _ ?N ?U ?ho ?m0 ?n0 ?hv ?hr ?m1 ?n1 ?hts ?hn ?hl ?hbe ?hen ?her ?hTT ?hd ?hu ?_ ?_); (case B => k_asm); (case F => k_asm); (case X => k_asm); (case T => k_asm); (case hk => first | exact rfl | assumption); (case N => k_asm); (case U => k_updF); (case ho => assumption); (case m0 => k_mem); (case n0 => k_ne); (case hv => assumption); (case hr => assumption); (case m1 => k_mem); (case n1 => k_ne); (case hts => first | assumption | exact .cons _ _ .nil); (case hn => first | assumption | exact Nat.le_of_ble_eq_true rfl | omega); (case hl => assumption); (case hbe => assumption); (case hen => assumption); (case her => assumption); (case hTT => first | assumption | exact And.intro (by omega) (by omega)); (case hd => first | k_room | ktr_room); (case hu => first | exact Nat.le_of_ble_eq_true rfl | (simp only [units_in1, units_deeper, Around.mark_units, units_caller, cLine]; decide) | ktr_units); intro x' ta' h' tk' t' t2' hc' F' N'; (try dsimp only at N'); (first | exact (said_no (by assumption) hc').elim | ((have hq9 := said_eq (by assumption) hc'); subst hq9; clear hc'; (try k_sweep))); (try dsimp only); rotate_left; intro x' ta' h' tk' t' t2' hc' F' N'; (try dsimp only at N'); (first | exact (said_ok (by assumption) hc').elim | (clear hc'; (try k_sweep))); (try dsimp only); rotate_left))
  k_with "compareOp NotEq ref ref" => (k_here; (with_reducible show wpAny _ _ (compareOp CmpOp.NotEq (Value.ref _) (Value.ref _)) _ _ _); k_dflt ((refine' ne_ssE ?k1 ?k2 ?k3 ?e1 ?e2 ?k4 ?k6 ?k5 ?_; (case k1 => k_asm); (case k2 => k_mem); (case e1 => first | (with_reducible exact rfl) | (unfold tupO; with_reducible exact rfl)); (case k3 => k_mem); (case e2 => first | (with_reducible exact rfl) | (unfold tupO; with_reducible exact rfl)); (case k4 => exact okS_of _); (case k6 => first | assumption | exact okS_of _); (case k5 => first | exact Nat.le_of_ble_eq_true rfl | units_room | ktr_units); k_whole)))
  k_with "compareOp NotEq ref ref" => (k_here; (with_reducible show wpAny _ _ (compareOp CmpOp.NotEq (Value.ref _) (Value.ref _)) _ _ _); k_dflt ((refine' ne_siE ?k1 ?k2 ?k3 ?e1 ?e2 ?k4 ?k5 ?_; (case k1 => k_asm); (case k2 => k_mem); (case e1 => first | (with_reducible exact rfl) | (unfold tupO; with_reducible exact rfl)); (case k3 => k_mem); (case e2 => first | (with_reducible exact rfl) | (unfold tupO; with_reducible exact rfl)); (case k4 => exact okS_of _); (case k5 => first | exact Nat.le_of_ble_eq_true rfl | units_room | ktr_units); k_whole)))
  k_with "compareOp NotEq ref ref" => (k_here; (with_reducible show wpAny _ _ (compareOp CmpOp.NotEq (Value.ref _) (Value.ref _)) _ _ _); k_dflt ((refine' ne_same ?k1 ?k2 ?k3 ?k4 ?k6 ?k5 ?_; (case k1 => is_list); (case k2 => assumption); (case k3 => first | (refine' News.isList ?N9 ?m9; (case N9 => k_asm); (case m9 => k_mem))); (case k4 => assumption); (case k6 => exact (RowsOk.all (by assumption))); (case k5 => first | exact Nat.le_of_ble_eq_true rfl | units_room | ktr_units); k_whole)))
  k_with "CompSrc" => (k_here; k_dflt (refine LCg.CompSrc.range (by rfl) (by k_asm) (by k_asm) (by assumption) (range_ok (by omega) (by omega) (by omega) (by omega)).1 (range_ok (by omega) (by omega) (by omega) (by omega)).2 (by rw [PySem.sizeLine_eq]; omega) ?_; intro g'; refine' comp_words ?U ?turn ?fin ?h0; (case U => k_updF); (case h0 => assumption); (case' turn => intro g9 o9 k9 t9 I9 oI9 C9 oC9 D9 m9 ys9 h9 tk9 E9 hC9 hx9 F9 N9 off9 ne9 neT9 hT9 hg9 hg9'; clear ne9; (obtain ⟨nT1, nT2, nT3⟩ := neT9); (try dsimp only at N9 off9)); (case' fin => intro ys9 ts9 o9 g9 hs9 hl9 hw9 hT9 hg9 hg9'; intro D' h' tk' F' N' off'; (try dsimp only at N' off'); (have hn9 : ts9.length ≤ 3 := by omega))))
  k_with "CompEnd" => (k_here; k_dflt (refine' words_end ?F ?N ?off ?ha ?T ?w; (case F => k_asm); (case T => assumption); (case N => k_asm); (case off => assumption); (case ha => rfl); (case w => assumption)))
  k_with "subscriptTail Name" => (k_here; (with_reducible show wpAny _ _ (subscriptTail _ _ (Value.ref 579) (Value.int _ _)) _ _ _); k_dflt (refine' item_words ?F ?X ?a ?b ?_ ?s; (case F => k_asm); (case X => k_asm); (case a => first | assumption | omega); (case b => first | assumption | omega); (case s => with_unfolding_all rfl); k_whole); intro x' t' hx')
  k_with "subscriptTail" => (k_here; (with_reducible show wpAny _ _ (subscriptTail (Expr.Tuple _ _ _) _ (Value.ref _) (Value.int _ _)) _ _ _); k_dflt (refine' item_three ?t ?a ?b ?_ ?_ ?_ ?s; (case t => exact News.isTup (by k_asm) (by k_mem)); (case a => first | assumption | omega); (case b => first | assumption | omega); (case s => with_unfolding_all rfl)); (all_goals (intro hk9; subst hk9)))
  trivial
set_option maxHeartbeats 0 in
theorem law_fin {P : PySem.Program} {LZ : List PySem.Str} {mean : ExcName → Option Value} {mg mb : PySem.Str → Option Value} {ww : World} {H : Heap} {L fa : Addr} {sS : Shared} (X : (hpK ww.params).In H) (T : Top P LZ mean mg mb H) (K : Below callerA H [] H) (cH : CodeHd H 625 623) {Q : Flow → Shared → Prop} {E : Value → Shared → Prop}
    (hQ : ∀ h tk m news, Fr H L h m → News H L h news → GrownAll [(625, 623)] h → Q (.ret (.bool true)) { sS with heap := h, toks := tk }) :
    FinP ww (model PR ww) (callerA.deeper (lawEnv L fa)) (lawEnv L fa) H sS L finB Q E := by
  delta lawEnv finB MineHd.lawD
  intro i m₁ news₁ h tk hi10 hJ F9 N9
  obtain ⟨td, od, ro, re, run, tl, lo, le, to, oo, cto, cwo, cro, cio, g, TT, tt, tb, te, tr, be, en, er, us, vs, us', vs', tlv, tns, rows, rows2, c, c2, c3, c4, ctl, ps, rest, hown9, rfl, S⟩ := hJ
  obtain ⟨m', hm'⟩ : ∃ m', m₁ = fun y => if y = PySem.Str.ofString "own" then some (.ref od) else m' y := ⟨m₁, own_form hown9⟩
  clear hown9
  subst hm'
  have S0 := S
  obtain ⟨hto, ⟨hg0, hg1⟩, hoo, ⟨hT0, hT1⟩, hbe, hen, her, mlo, mle, s1, s2, s3, s4, r1, r2, hR, mtl, htl, hln, mcr, dcr, mci, dci, ⟨vct, dct⟩, ⟨vcw, dcw⟩, tab, off, nd⟩ := S0
  have r1k := r1.ok (by omega)
  have r2k := r2.ok (by omega)
  obtain ⟨runD, res, rc1, mr1, mr2, er1, er2⟩ := run_rows hR
  have o1 : ∀ p ∈ rest, p.1 ≠ td := fun p hp e => off p hp (by simp [lawDs, e])
  have o2 : ∀ p ∈ rest, p.1 ≠ od := fun p hp e => off p hp (by simp [lawDs, e])
  have o3 : ∀ p ∈ rest, p.1 ≠ ro := fun p hp e => off p hp (by simp [lawDs, e])
  have o4 : ∀ p ∈ rest, p.1 ≠ re := fun p hp e => off p hp (by simp [lawDs, e])
  have o5 : ∀ p ∈ rest, p.1 ≠ 623 := fun p hp e => off p hp (by simp [lawDs, e])
  have o6 : ∀ p ∈ rest, p.1 ≠ L + 1 + 1 + 1 := fun p hp e => off p hp (by simp [lawDs, e])
  have o7 : ∀ p ∈ rest, p.1 ≠ L + 1 + 1 + 1 + 1 := fun p hp e => off p hp (by simp [lawDs, e])
  obtain ⟨nlo2, nlo3, nlo4, nlo5, nlo6, nlo7, nlo8⟩ := ne7r (fun d hd (e : @Eq Nat lo d) => off _ mlo (e ▸ hd))
  obtain ⟨nle2, nle3, nle4, nle5, nle6, nle7, nle8⟩ := ne7r (fun d hd (e : @Eq Nat le d) => off _ mle (e ▸ hd))
  obtain ⟨nd1, nd2, nd3, nd4, nd5, nd6, nd7, nd8, nd9, nd10, nd11, nd12, nd13, nd14, nd15, nd16, nd17, nd18, nd19, nd20, nd21⟩ := nd_facts nd
  have hl9 := empty_word
  (try k_fold)
  k_steps
  all_goals (try dsimp only)
  all_goals (rename Fr H _ _ _ => hF9; rename News H _ _ _ => hN9; refine hQ _ _ _ _ hF9 hN9 ?_; (k_dflt (repeat' (first | exact True.intro | (refine And.intro (GrownAt.of hN9 (by k_mem)) ?_)))))
end TLawT2
end Mine
namespace Mine
section TLawT3
open PySem PySem.W PyProof.Rows PySem.Spec PySem.Calls
open MineHd (hpK vwK hdT)
local macro_rules | `(tactic| k_all) => `(tactic| assumption)
local macro_rules | `(tactic| walk_at $s:str) => `(tactic| k_extra $s)
local macro_rules | `(tactic| k_all) => `(tactic| exact offK (by assumption) (by k_mem))
local macro_rules | `(tactic| k_ne) => `(tactic| (refine neN ?_; (try dsimp only); first | exact NeA.out (by assumption) | exact Ne.symm (NeA.out (by assumption)) | exact ne_of_all (by assumption) (by k_mem) | exact Ne.symm (ne_of_all (by assumption) (by k_mem)) | exact ne_of_off (by assumption) (by k_mem) | exact Ne.symm (ne_of_off (by assumption) (by k_mem)) | omega))
local macro_rules | `(tactic| k_get) => `(tactic| assumption)
local macro_rules | `(tactic| k_mem) => `(tactic| first | assumption | exact List.Mem.head _ | (refine List.mem_cons_of_mem _ ?_; k_mem))
local macro_rules | `(tactic| k_memK) => `(tactic| k_mem)
theorem said_LawT3_0 : True := by
  k_with_none
  k_with "compareOp NotIn str ref" => (k_here; k_dflt (refine' kdg_notin (knd := PySem.strKind _ _) ?y9N ?y9m ?y9d ?y9lo (strKind_is _ _ _ _) true ?y9b ?_; (case y9N => k_asm); (case y9m => k_mem); (case y9d => assumption); (case y9lo => assumption); (case y9b => first | assumption | rfl); k_whole))
  k_with "subscriptTail" => (k_here; (with_reducible show wpAny _ _ (subscriptTail _ _ (Value.ref _) (Value.str _ _)) _ _ _); k_dflt (refine' kda_item (knd := PySem.strKind _ _) ?y9N ?y9m ?y9d (strKind_is _ _ _ _) ?y9v ?_; (case y9N => k_asm); (case y9m => k_mem); (case y9d => assumption); (case y9v => first | assumption | rfl); k_whole))
  k_with "subscriptTail Name Constant ref str" => (k_here; (with_reducible show wpAny _ _ (subscriptTail _ _ (Value.ref _) (Value.str _ _)) _ _ _); k_dflt (refine' kda_item (knd := PySem.strKind _ _) ?y9N ?y9m ?y9d (strKind_is _ _ _ _) ?y9v ?_; (case y9N => k_asm); (case y9m => k_mem); (case y9d => assumption); (case y9v => first | assumption | rfl); k_whole))
  k_with "call ref" => (k_here; (with_reducible show wpAny _ _ (call (Value.ref 586) _) _ _ _); k_dflt ((refine' takeT _ _ _ _ _ _ _ _ _ _ _ _ _ _ _ _ _ _ _ ?y9B ?y9F ?y9X ?y9T ?y9hk _ _ _ _ _ _ _ _ _ ?y9N ?y9U ?y9m1 ?y9n1 ?y9ho ?y9hi ?y9hlen ?y9hg ?y9hg2 ?y9hm ?y9hm2 ?y9hd ?y9hu ?_); (case y9B => k_asm); (case y9F => k_asm); (case y9X => k_asm); (case y9T => k_asm); (case y9hk => first | exact rfl | assumption); (case y9N => k_asm); (case y9U => k_updF); (case y9ho => first | assumption | exact ⟨_, by assumption⟩); (case y9m1 => k_mem); (case y9n1 => k_ne); (case y9hi => first | assumption | l_ints); (case y9hlen => first | assumption | omega); (case y9hg => omega); (case y9hg2 => omega); (case y9hm => decide); (case y9hm2 => decide); (case y9hd => first | k_room | ktr_room); (case y9hu => first | (simp only [units_in1, units_deeper, Around.mark_units, units_caller, cLine]; decide) | ktr_units | (simp only [units_in1, units_deeper, Around.mark_units, units_caller, cLine]; omega) | (simp only [units_in1, units_deeper, Around.mark_units, units_caller, cLine]; decide)); intro r' t' h' tk' o' hr0' hr1' F' N' ho'; (try dsimp only at N'); (try k_sweep); (try dsimp only)))
  k_with "subscriptTail" => (k_here; (with_reducible show wpAny _ _ (subscriptTail _ _ (Value.ref _) (Value.int _ _)) _ _ _); k_dflt (refine' item_int 0 1000 ?y9l ?y9v ?y9a ?y9b ?y9c ?_ ?y9s; (case y9l => is_list); (case y9v => (intro v hv; simp only [List.mem_cons, List.not_mem_nil, or_false] at hv; rcases hv with rfl | rfl | rfl | rfl <;> exact ⟨_, _, rfl, by decide, by decide⟩)); (case y9a => first | assumption | omega); (case y9b => (simp only [List.length_cons, List.length_nil]; omega)); (case y9c => exact Nat.le_of_ble_eq_true rfl); (case y9s => with_unfolding_all rfl); k_whole); intro n' t' hn0' hn1')
  k_with "subscriptTail" => (k_here; (with_reducible show wpAny _ _ (subscriptTail _ _ (Value.ref _) (Value.int _ _)) _ _ _); k_dflt (refine' item_int 0 40 ?y9l ?y9v ?y9a ?y9b ?y9c ?_ ?y9s; (case y9l => is_list); (case y9v => (intro v hv; simp only [List.mem_cons, List.not_mem_nil, or_false] at hv; rcases hv with rfl | rfl | rfl <;> exact ⟨_, _, rfl, by decide, by decide⟩)); (case y9a => first | assumption | omega); (case y9b => (simp only [List.length_cons, List.length_nil]; omega)); (case y9c => exact Nat.le_of_ble_eq_true rfl); (case y9s => with_unfolding_all rfl); k_whole); intro n' t' hn0' hn1')
  k_with "subscriptTail" => (k_here; (with_reducible show wpAny _ _ (subscriptTail _ _ (Value.ref _) (Value.int _ _)) _ _ _); k_dflt (refine' item_mem ?y9l ?y9v ?y9a ?y9b ?y9c ?_ ?y9s; (case y9l => is_list); (case y9v => (repeat (first | exact PyProof.Rows.StrsAre.nil | apply PyProof.Rows.StrsAre.cons))); (case y9a => first | assumption | omega); (case y9b => (simp only [List.length_cons, List.length_nil]; omega)); (case y9c => exact Nat.le_of_ble_eq_true rfl); (case y9s => with_unfolding_all rfl); k_whole); intro x' t' hx')
  k_with "setItem ref str" => (k_here; k_dflt (refine' kda_set (knd := PySem.strKind _ _) ?y9F ?y9N ?y9U ?y9d (strKind_is _ _ _ _) ?y9z ?_; (case y9F => k_asm); (case y9N => k_asm); (case y9U => k_updF); (case y9d => assumption); (case y9z => (rw [sizeLine_eq]; exact Nat.le_of_ble_eq_true rfl))); intro h' o' F' N' hd'; (try dsimp only at N'); (try rw [stored_absent (by rfl)] at hd'); (try dsimp only [List.cons_append, List.nil_append] at hd'); (try k_sweep))
  k_with "binaryOp Mult ref int" => (k_here; k_dflt (refine' rep_one ?y9F ?y9N ?y9m ?y9a ?y9b ?y9x ?y9o ?_; (case y9F => k_asm); (case y9N => k_asm); (case y9m => k_mem); (case y9a => first | assumption | omega); (case y9b => first | assumption | omega); (case y9x => exact (abcd_cut (by assumption) (by assumption)).1); (case y9o => exact (abcd_cut (by assumption) (by assumption)).2); k_whole); intro D' us' rows' h' F' N' l1 hs' hr'; (try k_lt l1); (try k_sweep))
  k_with "callWith ref" => (k_here; k_dflt (refine' callWith_K ?y9k1 ?y9k2 ?_; (case y9k1 => k_asm); (case y9k2 => k_is); k_whole))
  k_with "call ref" => (k_here; (with_reducible show wpAny _ _ (call (Value.ref 593) _) _ _ _); k_dflt ((refine' lrun_led _ _ _ _ _ _ _ _ _ _ _ _ _ _ _ _ _ _ ?y9B ?y9F ?y9X ?y9T ?y9hk _ _ _ _ _ _ _ _ _ _ _ _ _ _ _ ?y9N ?y9mo ?y9ml ?y9ho ?y9hv ?y9hr ?y9hd ?y9hu ?_); (case y9B => k_asm); (case y9F => k_asm); (case y9X => k_asm); (case y9T => k_asm); (case y9hk => first | exact rfl | assumption); (case y9N => k_asm); (case y9mo => k_mem); (case y9ho => assumption); (case y9ml => k_mem); (case y9hv => assumption); (case y9hr => (refine RowsN.len (n := 5000) ?_; assumption)); (case y9hd => first | k_room | ktr_room); (case y9hu => first | (simp only [units_in1, units_deeper, Around.mark_units, units_caller, cLine]; decide) | ktr_units | (simp only [units_in1, units_deeper, Around.mark_units, units_caller, cLine]; omega) | (simp only [units_in1, units_deeper, Around.mark_units, units_caller, cLine]; decide)); intro run' ro' re' c' c2' fr' h' tk' hR' F' N' hf1' hf2' hfK' hn' hq1' hq2'; (try simp only [List.cons_append, List.nil_append] at N'); (try k_sweep); (try dsimp only)))
  k_with "exec For Name Call cons nil" => (k_here; (rename Fr _ _ _ _ => lF'); (with_unfolding_all refine' For_invVF lF' ?y9k1 ?y9k2 ?_; (case y9k1 => exact rfl); (case y9k2 => exact rfl); k_whole))
  k_with "pyIter ref" => ((with_reducible show wpAny _ _ (pyIter (Value.ref _)) (fun it s₂ => LoopAtV _ _ _ _ _ _ _ _ _ it s₂) _ _); refine Stop.intro ?_)
  k_with "eval Lambda" => (k_here; (with_reducible show wpAny _ _ (eval (Expr.Lambda _ (Expr.Call _ [_, Expr.Name _ _, _] _ _) _ _) _) _ _ _); k_dflt ((refine' kla_eval ?y9d0 ?_; (case y9d0 => exact rfl)); (refine' lam_any (scope := lamScope) (clos := lamClos _ _ _) ?y9F ?y9N ?y9T ?y9C ?y9cd ?y9U ?y9tab ?y9ds ?y9cl ?_; (case y9F => k_asm); (case y9N => k_asm); (case y9T => k_asm); (case y9cd => exact rfl); (case y9C => kn_code); (case y9U => k_updF); (case y9tab => (refine TabInv.mono (by assumption) ?_; intro p9 hp9; repeat (first | exact hp9 | refine List.mem_cons_of_mem _ ?_))); (case y9ds => (repeat (first | exact List.forall_mem_nil _ | refine List.forall_mem_cons.mpr ⟨⟨_, by k_mem⟩, ?_⟩))); (case y9cl => (refine lam_clos ?y9cl1 ?y9cl2 ?y9cl3; (case y9cl1 => exact rfl); (case y9cl2 => exact rfl); (case y9cl3 => exact rfl))); k_whole); intro f' c' oc' vs' t' ctv' ps' h' tk' F' N' d1' d2' eps' hc' l1' l2'; (try dsimp only at N'); (obtain ⟨n1', n2', n3', n4', n5', n6', n7', n8'⟩ := ne8 hc'); (try simp only [AllLt, and_true] at l1'); (try k_sweep)))
  k_with "call ref" => (k_here; (with_reducible show wpAny _ _ (call (Value.ref 600) _) _ _ _); k_dflt ((refine' heard_end _ _ _ _ _ _ _ _ _ _ _ _ _ _ _ _ ?y9B ?y9F ?y9X ?y9T ?y9hk ?y9XB ?y9TB ?y9N ?y9hd ?y9hu ?y9LI ?y9U ?y9mro ?y9R ?y9hrr ?y9hro ?y9hv ?y9hr ?y9hbe ?y9hen ?y9hTT ?_ ?_); (case y9B => k_asm); (case y9F => k_asm); (case y9X => k_asm); (case y9T => k_asm); (case y9hk => first | exact rfl | assumption); (case y9XB => assumption); (case y9TB => assumption); (case y9N => k_asm); (case y9LI => (refine' EndIs.mk ?y9mf ?y9mc ?y9lc1 ?y9lc2 ?y9lm1 ?y9le1; (case y9mf => k_mem); (case y9mc => k_mem); (case y9lc1 => assumption); (case y9lc2 => assumption); (case y9lm1 => k_mem); (case y9le1 => assumption))); (case y9R => assumption); (case y9U => k_updF); (case y9mro => k_mem); (case y9hrr => first | assumption | exact sub_cons (by assumption) | (intro p9 hp9; repeat (first | exact hp9 | refine List.mem_cons_of_mem _ ?_))); (case y9hro => assumption); (case y9hv => assumption); (case y9hr => assumption); (case y9hbe => assumption); (case y9hen => assumption); (case y9hTT => first | assumption | exact And.intro (by omega) (by omega)); (case y9hd => first | k_room | ktr_room); (case y9hu => first | exact Nat.le_of_ble_eq_true rfl | (simp only [units_in1, units_deeper, Around.mark_units, units_caller, cLine]; decide) | ktr_units); intro rs' us' c' ta' t' t2' h' tk' hc' hv' F' N' l1'; (try dsimp only at N' l1'); (try simp only [AllLt, and_true] at l1'); (try k_sweep); (try dsimp only); rotate_left; intro y' ta' t' t2' h' tk' hc' F' N' l1'; (try dsimp only at N' l1'); (try simp only [AllLt, and_true] at l1'); (try k_sweep); (try dsimp only); rotate_left))
  k_with "call ref" => (k_here; (with_reducible show wpAny _ _ (call (Value.ref 600) _) _ _ _); k_dflt ((refine' heard_print _ _ _ _ _ _ _ _ _ _ _ _ _ _ _ _ ?y9B ?y9F ?y9X ?y9T ?y9hk ?y9XB ?y9TB ?y9N ?y9hd ?y9hu ?y9LI ?y9U ?y9R ?y9hrr ?y9hro ?y9m0 ?y9n0 ?y9hts ?y9hn ?y9hl ?y9hv ?y9hr ?y9hbe ?y9hen ?y9hTT ?_ ?_); (case y9B => k_asm); (case y9F => k_asm); (case y9X => k_asm); (case y9T => k_asm); (case y9hk => first | exact rfl | assumption); (case y9XB => assumption); (case y9TB => assumption); (case y9N => k_asm); (case y9LI => (refine' LamIs.mk ?y9mf ?y9mc ?y9lc1 ?y9lc2 ?y9lm1 ?y9lm2 ?y9lm3 ?y9le1 ?y9le2 ?y9le3; (case y9le3 => (with_reducible assumption)); (case y9mf => k_mem); (case y9mc => k_mem); (case y9lc1 => assumption); (case y9lc2 => assumption); (case y9lm1 => k_mem); (case y9lm2 => k_mem); (case y9lm3 => k_mem); (case y9le1 => assumption); (case y9le2 => assumption))); (case y9R => assumption); (case y9U => k_updF); (case y9hrr => first | assumption | exact sub_cons (by assumption) | (intro p9 hp9; repeat (first | exact hp9 | refine List.mem_cons_of_mem _ ?_))); (case y9hro => assumption); (case y9m0 => k_mem); (case y9n0 => k_ne); (case y9hts => assumption); (case y9hn => first | assumption | exact Nat.le_of_ble_eq_true rfl | omega); (case y9hl => assumption); (case y9hv => assumption); (case y9hr => assumption); (case y9hbe => assumption); (case y9hen => assumption); (case y9hTT => first | assumption | exact And.intro (by omega) (by omega)); (case y9hd => first | k_room | ktr_room); (case y9hu => first | exact Nat.le_of_ble_eq_true rfl | (simp only [units_in1, units_deeper, Around.mark_units, units_caller, cLine]; decide) | ktr_units); intro rs' us' c' ta' t' t2' h' tk' hc' hv' F' N' l1'; (try dsimp only at N' l1'); (try simp only [AllLt, and_true] at l1'); (try k_sweep); (try dsimp only); rotate_left; intro y' ta' t' t2' h' tk' hc' F' N' l1'; (try dsimp only at N' l1'); (try simp only [AllLt, and_true] at l1'); (try k_sweep); (try dsimp only); rotate_left))
  k_with "call ref" => (k_here; (with_reducible show wpAny _ _ (call (Value.ref 600) _) _ _ _); k_dflt ((refine' heard_warn _ _ _ _ _ _ _ _ _ _ _ _ _ _ _ _ ?y9B ?y9F ?y9X ?y9T ?y9hk ?y9XB ?y9TB ?y9N ?y9hd ?y9hu ?y9LI ?y9U ?y9R ?y9hrr ?y9hro ?y9m0 ?y9n0 ?y9hts ?y9hn ?y9hl ?y9hv ?y9hr ?y9her ?y9hTT ?_ ?_); (case y9B => k_asm); (case y9F => k_asm); (case y9X => k_asm); (case y9T => k_asm); (case y9hk => first | exact rfl | assumption); (case y9XB => assumption); (case y9TB => assumption); (case y9N => k_asm); (case y9LI => (refine' LamIs.mk ?y9mf ?y9mc ?y9lc1 ?y9lc2 ?y9lm1 ?y9lm2 ?y9lm3 ?y9le1 ?y9le2 ?y9le3; (case y9le3 => (with_reducible assumption)); (case y9mf => k_mem); (case y9mc => k_mem); (case y9lc1 => assumption); (case y9lc2 => assumption); (case y9lm1 => k_mem); (case y9lm2 => k_mem); (case y9lm3 => k_mem); (case y9le1 => assumption); (case y9le2 => assumption))); (case y9R => assumption); (case y9U => k_updF); (case y9hrr => first | assumption | exact sub_cons (by assumption) | (intro p9 hp9; repeat (first | exact hp9 | refine List.mem_cons_of_mem _ ?_))); (case y9hro => assumption); (case y9m0 => k_mem); (case y9n0 => k_ne); (case y9hts => assumption); (case y9hn => first | assumption | exact Nat.le_of_ble_eq_true rfl | omega); (case y9hl => assumption); (case y9hv => assumption); (case y9hr => assumption); (case y9her => assumption); (case y9hTT => first | assumption | exact And.intro (by omega) (by omega)); (case y9hd => first | k_room | ktr_room); (case y9hu => first | exact Nat.le_of_ble_eq_true rfl | (simp only [units_in1, units_deeper, Around.mark_units, units_caller, cLine]; decide) | ktr_units); intro rs' us' c' ta' t' t2' h' tk' hc' hv' F' N' l1'; (try dsimp only at N' l1'); (try simp only [AllLt, and_true] at l1'); (try k_sweep); (try dsimp only); rotate_left; intro y' ta' t' t2' h' tk' hc' F' N' l1'; (try dsimp only at N' l1'); (try simp only [AllLt, and_true] at l1'); (try k_sweep); (try dsimp only); rotate_left))
  k_with "call ref" => (k_here; (with_reducible show wpAny _ _ (call (Value.ref 600) _) _ _ _); k_dflt ((refine' heard_die _ _ _ _ _ _ _ _ _ _ _ _ _ _ _ _ ?y9B ?y9F ?y9X ?y9T ?y9hk ?y9XB ?y9TB ?y9N ?y9hd ?y9hu ?y9LI ?y9R ?y9hrr ?y9m0 ?y9hts ?y9hn ?y9hl ?y9her ?y9hTT ?_ ?_); (case y9B => k_asm); (case y9F => k_asm); (case y9X => k_asm); (case y9T => k_asm); (case y9hk => first | exact rfl | assumption); (case y9XB => assumption); (case y9TB => assumption); (case y9N => k_asm); (case y9LI => (refine' LamIs.mk ?y9mf ?y9mc ?y9lc1 ?y9lc2 ?y9lm1 ?y9lm2 ?y9lm3 ?y9le1 ?y9le2 ?y9le3; (case y9le3 => (with_reducible assumption)); (case y9mf => k_mem); (case y9mc => k_mem); (case y9lc1 => assumption); (case y9lc2 => assumption); (case y9lm1 => k_mem); (case y9lm2 => k_mem); (case y9lm3 => k_mem); (case y9le1 => assumption); (case y9le2 => assumption))); (case y9R => assumption); (case y9hrr => first | assumption | exact sub_cons (by assumption) | (intro p9 hp9; repeat (first | exact hp9 | refine List.mem_cons_of_mem _ ?_))); (case y9m0 => k_mem); (case y9hts => assumption); (case y9hn => first | assumption | exact Nat.le_of_ble_eq_true rfl | omega); (case y9hl => assumption); (case y9her => assumption); (case y9hTT => first | assumption | exact And.intro (by omega) (by omega)); (case y9hd => first | k_room | ktr_room); (case y9hu => first | exact Nat.le_of_ble_eq_true rfl | (simp only [units_in1, units_deeper, Around.mark_units, units_caller, cLine]; decide) | ktr_units); intro y' ta' t' t2' h' tk' hc' F' N' l1'; (try dsimp only at N' l1'); (try simp only [AllLt, and_true] at l1'); (try k_sweep); (try dsimp only); rotate_left; intro x' ta' t' t2' h' tk' hc' ho' F' N' l1'; (try dsimp only at N' l1'); (try simp only [AllLt, and_true] at l1'); (try k_sweep); (try dsimp only); rotate_left))
  k_with "eval Lambda" => (k_here; (with_reducible show wpAny _ _ (eval (Expr.Lambda _ (Expr.Call _ [_, Expr.List _ _, _] _ _) _ _) _) _ _ _); k_dflt ((refine' kla_eval ?y9d0 ?_; (case y9d0 => exact rfl)); (refine' lam_end (scope := endScope) (clos := [(PySem.Str.ofString "run", _)]) ?y9F ?y9N ?y9T ?y9C ?y9cd ?y9U ?y9tab ?y9hl ?y9cl ?_; (case y9F => k_asm); (case y9N => k_asm); (case y9T => k_asm); (case y9cd => exact rfl); (case y9C => kn_code); (case y9U => k_updF); (case y9tab => (refine TabInv.mono (by assumption) ?_; intro p9 hp9; repeat (first | exact hp9 | refine List.mem_cons_of_mem _ ?_))); (case y9hl => decide); (case y9cl => (refine end_clos ?y9cl1; (case y9cl1 => exact rfl))); k_whole); intro f' c' oc' vs' t' ctv' ps' h' tk' F' N' d1' d2' l1' l2' l3'; (try dsimp only at N' l1' l2'); (try simp only [AllLt, and_true] at l1' l2'); (try k_sweep)))
  k_with "compareOp Eq ref ref" => (k_here; (with_reducible show wpAny _ _ (compareOp CmpOp.Eq (Value.ref _) (Value.ref _)) _ _ _); k_dflt ((refine' eq_ssE ?y9k1 ?y9k2 ?y9k3 ?y9e1 ?y9e2 ?y9k4 ?y9k6 ?y9k5 ?_; (case y9k1 => k_asm); (case y9k2 => k_mem); (case y9e1 => first | (with_reducible exact rfl) | (unfold tupO; with_reducible exact rfl)); (case y9k3 => k_mem); (case y9e2 => first | (with_reducible exact rfl) | (unfold tupO; with_reducible exact rfl)); (case y9k4 => exact okS_of _); (case y9k6 => first | assumption | exact okS_of _); (case y9k5 => first | exact Nat.le_of_ble_eq_true rfl | units_room | ktr_units); k_whole)))
  k_with "compareOp Eq ref ref" => (k_here; (with_reducible show wpAny _ _ (compareOp CmpOp.Eq (Value.ref _) (Value.ref _)) _ _ _); k_dflt ((refine' eq_siE ?y9k1 ?y9k2 ?y9k3 ?y9e1 ?y9e2 ?y9k4 ?y9k5 ?_; (case y9k1 => k_asm); (case y9k2 => k_mem); (case y9e1 => first | (with_reducible exact rfl) | (unfold tupO; with_reducible exact rfl)); (case y9k3 => k_mem); (case y9e2 => first | (with_reducible exact rfl) | (unfold tupO; with_reducible exact rfl)); (case y9k4 => exact okS_of _); (case y9k5 => first | exact Nat.le_of_ble_eq_true rfl | units_room | ktr_units); k_whole)))
  k_with "call ref" => (k_here; (with_reducible show wpAny _ _ (call (Value.ref 329) _) _ _ _); k_dflt ((refine' print_led _ _ _ _ _ _ _ _ _ _ _ _ _ _ _ _ _ _ _ ?y9B ?y9F ?y9X ?y9T ?y9hk _ _ _ _ _ _ _ _ _ _ _ _ _ _ _ _ ?y9N ?y9U ?y9R ?y9hrr ?y9hro ?y9m0 ?y9n0 ?y9hts ?y9hn ?y9hl ?y9hv ?y9hr ?y9hbe ?y9hen ?y9hTT ?y9hd ?y9hu ?_ ?_); (case y9B => k_asm); (case y9F => k_asm); (case y9X => k_asm); (case y9T => k_asm); (case y9hk => first | exact rfl | assumption); (case y9N => k_asm); (case y9R => assumption); (case y9U => k_updF); (case y9hrr => first | assumption | exact sub_cons (by assumption) | (intro p9 hp9; repeat (first | exact hp9 | refine List.mem_cons_of_mem _ ?_))); (case y9hro => assumption); (case y9m0 => k_mem); (case y9n0 => k_ne); (case y9hts => first | assumption | exact .cons _ _ .nil); (case y9hn => first | assumption | exact Nat.le_of_ble_eq_true rfl | omega); (case y9hl => assumption); (case y9hv => assumption); (case y9hr => assumption); (case y9hbe => assumption); (case y9hen => assumption); (case y9hTT => first | assumption | exact And.intro (by omega) (by omega)); (case y9hd => first | k_room | ktr_room); (case y9hu => first | exact Nat.le_of_ble_eq_true rfl | (simp only [units_in1, units_deeper, Around.mark_units, units_caller, cLine]; decide) | ktr_units); intro rs' us' c' h' tk' t' hc' hv' F' N'; (try dsimp only at N'); (try k_sweep); (try dsimp only); rotate_left; intro x' e' t' g' h' tk' hc' hh' hx' F' U' R'; (try dsimp only); (try dsimp only); rotate_left))
  k_with "call ref" => (k_here; (with_reducible show wpAny _ _ (call (Value.ref 515) _) _ _ _); k_dflt ((refine' warn_led _ _ _ _ _ _ _ _ _ _ _ _ _ _ _ _ _ _ _ ?y9B ?y9F ?y9X ?y9T ?y9hk _ _ _ _ _ _ _ _ _ _ _ _ _ _ _ _ ?y9N ?y9U ?y9R ?y9hrr ?y9hro ?y9m0 ?y9n0 ?y9hts ?y9hn ?y9hl ?y9hv ?y9hr ?y9her ?y9hTT ?y9hd ?y9hu ?_ ?_); (case y9B => k_asm); (case y9F => k_asm); (case y9X => k_asm); (case y9T => k_asm); (case y9hk => first | exact rfl | assumption); (case y9N => k_asm); (case y9R => assumption); (case y9U => k_updF); (case y9hrr => first | assumption | exact sub_cons (by assumption) | (intro p9 hp9; repeat (first | exact hp9 | refine List.mem_cons_of_mem _ ?_))); (case y9hro => assumption); (case y9m0 => k_mem); (case y9n0 => k_ne); (case y9hts => assumption); (case y9hn => first | assumption | exact Nat.le_of_ble_eq_true rfl | omega); (case y9hl => assumption); (case y9hv => assumption); (case y9hr => assumption); (case y9her => assumption); (case y9hTT => first | assumption | exact And.intro (by omega) (by omega)); (case y9hd => first | k_room | ktr_room); (case y9hu => first | exact Nat.le_of_ble_eq_true rfl | (simp only [units_in1, units_deeper, Around.mark_units, units_caller, cLine]; decide) | ktr_units); intro rs' us' c' h' tk' t' hc' hv' F' N'; (try dsimp only at N'); (try k_sweep); (try dsimp only); rotate_left; intro x' e' t' g' h' tk' hc' hh' hx' F' U' R'; (try dsimp only); (try dsimp only); rotate_left))
  k_with "call ref" => (k_here; (with_reducible show wpAny _ _ (call (Value.ref 508) _) _ _ _); k_dflt ((refine' die_led _ _ _ _ _ _ _ _ _ _ _ _ _ _ _ _ _ _ ?y9B ?y9F ?y9X ?y9T ?y9hk _ _ _ _ _ _ _ _ _ _ _ _ _ ?y9N ?y9R ?y9hrr ?y9m0 ?y9hts ?y9hn ?y9hl ?y9her ?y9hTT ?y9hd ?y9hu ?_ ?_); (case y9B => k_asm); (case y9F => k_asm); (case y9X => k_asm); (case y9T => k_asm); (case y9hk => first | exact rfl | assumption); (case y9N => k_asm); (case y9R => assumption); (case y9hrr => first | assumption | exact sub_cons (by assumption) | (intro p9 hp9; repeat (first | exact hp9 | refine List.mem_cons_of_mem _ ?_))); (case y9m0 => k_mem); (case y9hts => assumption); (case y9hn => first | assumption | exact Nat.le_of_ble_eq_true rfl | omega); (case y9hl => assumption); (case y9her => assumption); (case y9hTT => first | assumption | exact And.intro (by omega) (by omega)); (case y9hd => first | k_room | ktr_room); (case y9hu => first | exact Nat.le_of_ble_eq_true rfl | (simp only [units_in1, units_deeper, Around.mark_units, units_caller, cLine]; decide) | ktr_units); intro x' e' t' g' h' tk' hc' hh' ho' hx' F' U' R'; (try dsimp only); (try dsimp only); rotate_left; intro x' e' t' g' h' tk' hc' hh' hx' F' U' R'; (try dsimp only); (try dsimp only); rotate_left))
  k_with "call ref" => (k_here; (with_reducible show wpAny _ _ (call (Value.ref 621) [Value.ref _, Value.int 0 _, Value.ref _]) _ _ _); k_dflt ((refine' due0_led _ _ _ _ _ _ _ _ _ _ _ _ _ _ _ _ _ _ _ ?y9B ?y9F ?y9X ?y9T ?y9hk _ _ _ _ _ _ _ _ _ _ _ _ _ _ _ _ _ _ _ _ ?y9N ?y9U ?y9ho ?y9m0 ?y9n0 ?y9hv ?y9hr ?y9m1 ?y9n1 ?y9hts ?y9hn ?y9hl ?y9hbe ?y9hen ?y9her ?y9hTT ?y9hd ?y9hu ?_ ?_); (case y9B => k_asm); (case y9F => k_asm); (case y9X => k_asm); (case y9T => k_asm); (case y9hk => first | exact rfl | assumption); (case y9N => k_asm); (case y9U => k_updF); (case y9ho => assumption); (case y9m0 => k_mem); (case y9n0 => k_ne); (case y9hv => assumption); (case y9hr => assumption); (case y9m1 => k_mem); (case y9n1 => k_ne); (case y9hts => first | assumption | exact .cons _ _ .nil); (case y9hn => first | assumption | exact Nat.le_of_ble_eq_true rfl | omega); (case y9hl => assumption); (case y9hbe => assumption); (case y9hen => assumption); (case y9her => assumption); (case y9hTT => first | assumption | exact And.intro (by omega) (by omega)); (case y9hd => first | k_room | ktr_room); (case y9hu => first | exact Nat.le_of_ble_eq_true rfl | (simp only [units_in1, units_deeper, Around.mark_units, units_caller, cLine]; decide) | ktr_units); intro rs' us' c' oo' l' ta' h' tk' t' t2' hc' hv' F' ho' N' hq'; (try dsimp only at N'); (first | exact (said_no (by assumption) hc').elim | ((have hq9 := said_eq (by assumption) hc'); subst hq9; (obtain ⟨hrw', hrk'⟩ := printR_i (by assumption) (by assumption) (by assumption) (by assumption) (by assumption) (by assumption) hc'); clear hc'; (try k_sweep))); (try dsimp only); rotate_left; intro x' ta' h' tk' t' t2' hc' F' N'; (try dsimp only at N'); (first | exact (said_ok (by assumption) hc').elim | (clear hc'; (try k_sweep))); (try dsimp only); rotate_left))
  k_with "call ref" => (k_here; (with_reducible show wpAny _ _ (call (Value.ref 621) [Value.ref _, Value.int 1 _, Value.ref _]) _ _ _); k_dflt ((refine' due1_led _ _ _ _ _ _ _ _ _ _ _ _ _ _ _ _ _ _ _ ?y9B ?y9F ?y9X ?y9T ?y9hk _ _ _ _ _ _ _ _ _ _ _ _ _ _ _ _ _ _ _ _ ?y9N ?y9U ?y9ho ?y9m0 ?y9n0 ?y9hv ?y9hr ?y9m1 ?y9n1 ?y9hts ?y9hn ?y9hl ?y9hbe ?y9hen ?y9her ?y9hTT ?y9hd ?y9hu ?_ ?_); (case y9B => k_asm); (case y9F => k_asm); (case y9X => k_asm); (case y9T => k_asm); (case y9hk => first | exact rfl | assumption); (case y9N => k_asm); (case y9U => k_updF); (case y9ho => assumption); (case y9m0 => k_mem); (case y9n0 => k_ne); (case y9hv => assumption); (case y9hr => assumption); (case y9m1 => k_mem); (case y9n1 => k_ne); (case y9hts => first | assumption | exact .cons _ _ .nil); (case y9hn => first | assumption | exact Nat.le_of_ble_eq_true rfl | omega); (case y9hl => assumption); (case y9hbe => assumption); (case y9hen => assumption); (case y9her => assumption); (case y9hTT => first | assumption | exact And.intro (by omega) (by omega)); (case y9hd => first | k_room | ktr_room); (case y9hu => first | exact Nat.le_of_ble_eq_true rfl | (simp only [units_in1, units_deeper, Around.mark_units, units_caller, cLine]; decide) | ktr_units); intro rs' us' c' oo' l' ta' h' tk' t' t2' hc' hv' F' ho' N' hq'; (try dsimp only at N'); (first | exact (said_no (by assumption) hc').elim | ((have hq9 := said_eq (by assumption) hc'); subst hq9; (obtain ⟨hrw', hrk'⟩ := warnR_i (by assumption) (by assumption) (by assumption) (by assumption) (by assumption) hc'); clear hc'; (try k_sweep))); (try dsimp only); rotate_left; intro x' ta' h' tk' t' t2' hc' F' N'; (try dsimp only at N'); (first | exact (said_ok (by assumption) hc').elim | (clear hc'; (try k_sweep))); (try dsimp only); rotate_left))
  k_with "call ref" => (k_here; (with_reducible show wpAny _ _ (call (Value.ref 621) [Value.ref _, Value.int 2 _, Value.ref _]) _ _ _); k_dflt ((refine' due2_led _ _ _ _ _ _ _ _ _ _ _ _ _ _ _ _ _ _ _ ?y9B ?y9F ?y9X ?y9T ?y9hk _ _ _ _ _ _ _ _ _ _ _ _ _ _ _ _ _ _ _ _ ?y9N ?y9U ?y9ho ?y9m0 ?y9n0 ?y9hv ?y9hr ?y9m1 ?y9n1 ?y9hts ?y9hn ?y9hl ?y9hbe ?y9hen ?y9her ?y9hTT ?y9hd ?y9hu ?_ ?_); (case y9B => k_asm); (case y9F => k_asm); (case y9X => k_asm); (case y9T => k_asm); (case y9hk => first | exact rfl | assumption); (case y9N => k_asm); (case y9U => k_updF); (case y9ho => assumption); (case y9m0 => k_mem); (case y9n0 => k_ne); (case y9hv => assumption); (case y9hr => assumption); (case y9m1 => k_mem); (case y9n1 => k_ne); (case y9hts => first | assumption | exact .cons _ _ .nil); (case y9hn => first | assumption | exact Nat.le_of_ble_eq_true rfl | omega); (case y9hl => assumption); (case y9hbe => assumption); (case y9hen => assumption); (case y9her => assumption); (case y9hTT => first | assumption | exact And.intro (by omega) (by omega)); (case y9hd => first | k_room | ktr_room); (case y9hu => first | exact Nat.le_of_ble_eq_true rfl | (simp only [units_in1, units_deeper, Around.mark_units, units_caller, cLine]; decide) | ktr_units); intro x' ta' h' tk' t' t2' hc' F' N'; (try dsimp only at N'); (first | exact (said_no (by assumption) hc').elim | ((have hq9 := said_eq (by assumption) hc'); subst hq9; clear hc'; (try k_sweep))); (try dsimp only); rotate_left; intro x' ta' h' tk' t' t2' hc' F' N'; (try dsimp only at N'); (first | exact (said_ok (by assumption) hc').elim | (clear hc'; (try k_sweep))); (try dsimp only); rotate_left))
  k_with "compareOp NotEq ref ref" => (k_here; (with_reducible show wpAny _ _ (compareOp CmpOp.NotEq (Value.ref _) (Value.ref _)) _ _ _); k_dflt ((refine' ne_ssE ?y9k1 ?y9k2 ?y9k3 ?y9e1 ?y9e2 ?y9k4 ?y9k6 ?y9k5 ?_; (case y9k1 => k_asm); (case y9k2 => k_mem); (case y9e1 => first | (with_reducible exact rfl) | (unfold tupO; with_reducible exact rfl)); (case y9k3 => k_mem); (case y9e2 => first | (with_reducible exact rfl) | (unfold tupO; with_reducible exact rfl)); (case y9k4 => exact okS_of _); (case y9k6 => first | assumption | exact okS_of _); (case y9k5 => first | exact Nat.le_of_ble_eq_true rfl | units_room | ktr_units); k_whole)))
  k_with "compareOp NotEq ref ref" => (k_here; (with_reducible show wpAny _ _ (compareOp CmpOp.NotEq (Value.ref _) (Value.ref _)) _ _ _); k_dflt ((refine' ne_siE ?y9k1 ?y9k2 ?y9k3 ?y9e1 ?y9e2 ?y9k4 ?y9k5 ?_; (case y9k1 => k_asm); (case y9k2 => k_mem); (case y9e1 => first | (with_reducible exact rfl) | (unfold tupO; with_reducible exact rfl)); (case y9k3 => k_mem); (case y9e2 => first | (with_reducible exact rfl) | (unfold tupO; with_reducible exact rfl)); (case y9k4 => exact okS_of _); (case y9k5 => first | exact Nat.le_of_ble_eq_true rfl | units_room | ktr_units); k_whole)))
  k_with "compareOp NotEq ref ref" => (k_here; (with_reducible show wpAny _ _ (compareOp CmpOp.NotEq (Value.ref _) (Value.ref _)) _ _ _); k_dflt ((refine' ne_same ?y9k1 ?y9k2 ?y9k3 ?y9k4 ?y9k6 ?y9k5 ?_; (case y9k1 => is_list); (case y9k2 => assumption); (case y9k3 => first | (refine' News.isList ?y9N9 ?y9m9; (case y9N9 => k_asm); (case y9m9 => k_mem))); (case y9k4 => assumption); (case y9k6 => exact (RowsOk.all (by assumption))); (case y9k5 => first | exact Nat.le_of_ble_eq_true rfl | units_room | ktr_units); k_whole)))
  k_with "CompSrc" => (k_here; k_dflt (refine LCg.CompSrc.range (by rfl) (by k_asm) (by k_asm) (by assumption) (range_ok (by omega) (by omega) (by omega) (by omega)).1 (range_ok (by omega) (by omega) (by omega) (by omega)).2 (by rw [PySem.sizeLine_eq]; omega) ?_; intro g'; refine' comp_words ?y9U ?y9turn ?y9fin ?y9h0; (case y9U => k_updF); (case y9h0 => assumption); (case' y9turn => intro g9 o9 k9 t9 I9 oI9 C9 oC9 D9 m9 ys9 h9 tk9 E9 hC9 hx9 F9 N9 off9 ne9 neT9 hT9 hg9 hg9'; clear ne9; (obtain ⟨nT1, nT2, nT3⟩ := neT9); (try dsimp only at N9 off9)); (case' y9fin => intro ys9 ts9 o9 g9 hs9 hl9 hw9 hT9 hg9 hg9'; intro D' h' tk' F' N' off'; (try dsimp only at N' off'); (have hn9 : ts9.length ≤ 3 := by omega))))
  k_with "CompEnd" => (k_here; k_dflt (refine' words_end ?y9F ?y9N ?y9off ?y9ha ?y9T ?y9w; (case y9F => k_asm); (case y9T => assumption); (case y9N => k_asm); (case y9off => assumption); (case y9ha => rfl); (case y9w => assumption)))
  k_with "subscriptTail Name" => (k_here; (with_reducible show wpAny _ _ (subscriptTail _ _ (Value.ref 579) (Value.int _ _)) _ _ _); k_dflt (refine' item_words ?y9F ?y9X ?y9a ?y9b ?_ ?y9s; (case y9F => k_asm); (case y9X => k_asm); (case y9a => first | assumption | omega); (case y9b => first | assumption | omega); (case y9s => with_unfolding_all rfl); k_whole); intro x' t' hx')
  k_with "subscriptTail" => (k_here; (with_reducible show wpAny _ _ (subscriptTail (Expr.Tuple _ _ _) _ (Value.ref _) (Value.int _ _)) _ _ _); k_dflt (refine' item_three ?y9t ?y9a ?y9b ?_ ?_ ?_ ?y9s; (case y9t => exact News.isTup (by k_asm) (by k_mem)); (case y9a => first | assumption | omega); (case y9b => first | assumption | omega); (case y9s => with_unfolding_all rfl)); (all_goals (intro hk9; subst hk9)))
  trivial
set_option maxHeartbeats 0 in
theorem lawT : PySem.Challenge.rw_qz0100_01.Holds := hdT (by
  delta MineHd.lawD MineHd.HH MineHd.LV MineHd.RR MineHd.ads
  k_go0
  rename PySem.Shared => sS
  rename PySem.World => ww
  rename Fr _ _ _ _ => hF
  refine withTurn2 ww sS.heap.objs.size hF 6 rfl ?TT ?ZZ ?_
  case' TT => exact law_turn (by assumption) (by assumption) (by assumption) (by assumption)
  case' ZZ =>
    refine law_fin (by assumption) (by assumption) (by assumption) (by assumption) ?_
    intro h tk m news F9 N9 G9
    refine And.intro ?_ G9
    kc_close
  · intro hTurn hFin
    (try k_fold)
    k_steps
    all_goals (try dsimp only)
    unfold Stop
    k_dflt (refine' law_loop hTurn ?hL ?hh ?hr ?hb ?F ?N ?hg ?hd ?ho ?SJ ?done)
    case hL => rfl
    case hh => exact rfl
    case hr => assumption
    case hb => exact ⟨by omega, by omega⟩
    case F => k_asm
    case N => k_asm
    case hg => rfl
    case hd => rfl
    case ho => rfl
    case SJ =>
      k_dflt (refine' start_J ?hm ?mtd ?mod ?mro ?mre ?mP ?mct ?mcw ?mcr ?mci ?mlo ?mle ?mtl ?hfr ?hto ?hg ?hoo ?hTT ?hbe ?hen ?her ?s1 ?s2 ?r1 ?hR ?htl ?hln ?dcr ?dci ?dct ?dcw ?nd ?nlo ?nle ?ntl ?nL2 ?nL1 ?o1 ?o2 ?o3 ?o4 ?o5 ?o6 ?o7)
      case hm => first | rfl | simp
      case mci => k_dflt k_mem
      case dci => assumption
      case mcr => k_dflt k_mem
      case dcr => assumption
      case hR => assumption
      case mtd => k_dflt k_mem
      case mod => k_dflt k_mem
      case hto => assumption
      case hoo => assumption
      case mro => k_dflt k_mem
      case mre => k_dflt k_mem
      case mP => k_dflt k_mem
      case mct => k_dflt k_mem
      case mcw => k_dflt k_mem
      case mlo => k_dflt k_mem
      case mle => k_dflt k_mem
      case mtl => k_dflt k_mem
      case hfr => intro p9 hp9; repeat (first | exact hp9 | refine List.mem_cons_of_mem _ ?_)
      case hg => exact ⟨by omega, by omega⟩
      case hTT => exact ⟨by omega, by omega⟩
      case hbe => assumption
      case hen => assumption
      case her => assumption
      case s1 => assumption
      case s2 => assumption
      case r1 => assumption
      case htl => first | assumption | l_ints
      case hln => first | assumption | omega
      case dct => exact ⟨_, by assumption⟩
      case dcw => exact ⟨_, by assumption⟩
      case nd => exact ⟨⟨by first | (with_reducible assumption) | (with_reducible exact ne_of_all (by assumption) (by k_dflt k_mem)) | (with_reducible exact Ne.symm (ne_of_all (by assumption) (by k_dflt k_mem))) | omega⟩, ⟨by first | (with_reducible assumption) | (with_reducible exact ne_of_all (by assumption) (by k_dflt k_mem)) | (with_reducible exact Ne.symm (ne_of_all (by assumption) (by k_dflt k_mem))) | omega⟩, ⟨by first | (with_reducible assumption) | (with_reducible exact ne_of_all (by assumption) (by k_dflt k_mem)) | (with_reducible exact Ne.symm (ne_of_all (by assumption) (by k_dflt k_mem))) | omega⟩, ⟨by first | (with_reducible assumption) | (with_reducible exact ne_of_all (by assumption) (by k_dflt k_mem)) | (with_reducible exact Ne.symm (ne_of_all (by assumption) (by k_dflt k_mem))) | omega⟩, ⟨by first | (with_reducible assumption) | (with_reducible exact ne_of_all (by assumption) (by k_dflt k_mem)) | (with_reducible exact Ne.symm (ne_of_all (by assumption) (by k_dflt k_mem))) | omega⟩, ⟨by first | (with_reducible assumption) | (with_reducible exact ne_of_all (by assumption) (by k_dflt k_mem)) | (with_reducible exact Ne.symm (ne_of_all (by assumption) (by k_dflt k_mem))) | omega⟩, ⟨by first | (with_reducible assumption) | (with_reducible exact ne_of_all (by assumption) (by k_dflt k_mem)) | (with_reducible exact Ne.symm (ne_of_all (by assumption) (by k_dflt k_mem))) | omega⟩, ⟨by first | (with_reducible assumption) | (with_reducible exact ne_of_all (by assumption) (by k_dflt k_mem)) | (with_reducible exact Ne.symm (ne_of_all (by assumption) (by k_dflt k_mem))) | omega⟩, ⟨by first | (with_reducible assumption) | (with_reducible exact ne_of_all (by assumption) (by k_dflt k_mem)) | (with_reducible exact Ne.symm (ne_of_all (by assumption) (by k_dflt k_mem))) | omega⟩, ⟨by first | (with_reducible assumption) | (with_reducible exact ne_of_all (by assumption) (by k_dflt k_mem)) | (with_reducible exact Ne.symm (ne_of_all (by assumption) (by k_dflt k_mem))) | omega⟩, ⟨by first | (with_reducible assumption) | (with_reducible exact ne_of_all (by assumption) (by k_dflt k_mem)) | (with_reducible exact Ne.symm (ne_of_all (by assumption) (by k_dflt k_mem))) | omega⟩, ⟨by first | (with_reducible assumption) | (with_reducible exact ne_of_all (by assumption) (by k_dflt k_mem)) | (with_reducible exact Ne.symm (ne_of_all (by assumption) (by k_dflt k_mem))) | omega⟩, ⟨by first | (with_reducible assumption) | (with_reducible exact ne_of_all (by assumption) (by k_dflt k_mem)) | (with_reducible exact Ne.symm (ne_of_all (by assumption) (by k_dflt k_mem))) | omega⟩, ⟨by first | (with_reducible assumption) | (with_reducible exact ne_of_all (by assumption) (by k_dflt k_mem)) | (with_reducible exact Ne.symm (ne_of_all (by assumption) (by k_dflt k_mem))) | omega⟩, ⟨by first | (with_reducible assumption) | (with_reducible exact ne_of_all (by assumption) (by k_dflt k_mem)) | (with_reducible exact Ne.symm (ne_of_all (by assumption) (by k_dflt k_mem))) | omega⟩, ⟨by first | (with_reducible assumption) | (with_reducible exact ne_of_all (by assumption) (by k_dflt k_mem)) | (with_reducible exact Ne.symm (ne_of_all (by assumption) (by k_dflt k_mem))) | omega⟩, ⟨by first | (with_reducible assumption) | (with_reducible exact ne_of_all (by assumption) (by k_dflt k_mem)) | (with_reducible exact Ne.symm (ne_of_all (by assumption) (by k_dflt k_mem))) | omega⟩, ⟨by first | (with_reducible assumption) | (with_reducible exact ne_of_all (by assumption) (by k_dflt k_mem)) | (with_reducible exact Ne.symm (ne_of_all (by assumption) (by k_dflt k_mem))) | omega⟩, ⟨by first | (with_reducible assumption) | (with_reducible exact ne_of_all (by assumption) (by k_dflt k_mem)) | (with_reducible exact Ne.symm (ne_of_all (by assumption) (by k_dflt k_mem))) | omega⟩, ⟨by first | (with_reducible assumption) | (with_reducible exact ne_of_all (by assumption) (by k_dflt k_mem)) | (with_reducible exact Ne.symm (ne_of_all (by assumption) (by k_dflt k_mem))) | omega⟩, ⟨by first | (with_reducible assumption) | (with_reducible exact ne_of_all (by assumption) (by k_dflt k_mem)) | (with_reducible exact Ne.symm (ne_of_all (by assumption) (by k_dflt k_mem))) | omega⟩⟩
      case nlo => exact ne7 ⟨⟨by first | (with_reducible assumption) | (with_reducible exact ne_of_all (by assumption) (by k_dflt k_mem)) | (with_reducible exact Ne.symm (ne_of_all (by assumption) (by k_dflt k_mem))) | omega⟩, ⟨by first | (with_reducible assumption) | (with_reducible exact ne_of_all (by assumption) (by k_dflt k_mem)) | (with_reducible exact Ne.symm (ne_of_all (by assumption) (by k_dflt k_mem))) | omega⟩, ⟨by first | (with_reducible assumption) | (with_reducible exact ne_of_all (by assumption) (by k_dflt k_mem)) | (with_reducible exact Ne.symm (ne_of_all (by assumption) (by k_dflt k_mem))) | omega⟩, ⟨by first | (with_reducible assumption) | (with_reducible exact ne_of_all (by assumption) (by k_dflt k_mem)) | (with_reducible exact Ne.symm (ne_of_all (by assumption) (by k_dflt k_mem))) | omega⟩, ⟨by first | (with_reducible assumption) | (with_reducible exact ne_of_all (by assumption) (by k_dflt k_mem)) | (with_reducible exact Ne.symm (ne_of_all (by assumption) (by k_dflt k_mem))) | omega⟩, ⟨by first | (with_reducible assumption) | (with_reducible exact ne_of_all (by assumption) (by k_dflt k_mem)) | (with_reducible exact Ne.symm (ne_of_all (by assumption) (by k_dflt k_mem))) | omega⟩, ⟨by first | (with_reducible assumption) | (with_reducible exact ne_of_all (by assumption) (by k_dflt k_mem)) | (with_reducible exact Ne.symm (ne_of_all (by assumption) (by k_dflt k_mem))) | omega⟩⟩
      case nle => exact ne7 ⟨⟨by first | (with_reducible assumption) | (with_reducible exact ne_of_all (by assumption) (by k_dflt k_mem)) | (with_reducible exact Ne.symm (ne_of_all (by assumption) (by k_dflt k_mem))) | omega⟩, ⟨by first | (with_reducible assumption) | (with_reducible exact ne_of_all (by assumption) (by k_dflt k_mem)) | (with_reducible exact Ne.symm (ne_of_all (by assumption) (by k_dflt k_mem))) | omega⟩, ⟨by first | (with_reducible assumption) | (with_reducible exact ne_of_all (by assumption) (by k_dflt k_mem)) | (with_reducible exact Ne.symm (ne_of_all (by assumption) (by k_dflt k_mem))) | omega⟩, ⟨by first | (with_reducible assumption) | (with_reducible exact ne_of_all (by assumption) (by k_dflt k_mem)) | (with_reducible exact Ne.symm (ne_of_all (by assumption) (by k_dflt k_mem))) | omega⟩, ⟨by first | (with_reducible assumption) | (with_reducible exact ne_of_all (by assumption) (by k_dflt k_mem)) | (with_reducible exact Ne.symm (ne_of_all (by assumption) (by k_dflt k_mem))) | omega⟩, ⟨by first | (with_reducible assumption) | (with_reducible exact ne_of_all (by assumption) (by k_dflt k_mem)) | (with_reducible exact Ne.symm (ne_of_all (by assumption) (by k_dflt k_mem))) | omega⟩, ⟨by first | (with_reducible assumption) | (with_reducible exact ne_of_all (by assumption) (by k_dflt k_mem)) | (with_reducible exact Ne.symm (ne_of_all (by assumption) (by k_dflt k_mem))) | omega⟩⟩
      case ntl => exact ne7 ⟨⟨by first | (with_reducible assumption) | (with_reducible exact ne_of_all (by assumption) (by k_dflt k_mem)) | (with_reducible exact Ne.symm (ne_of_all (by assumption) (by k_dflt k_mem))) | omega⟩, ⟨by first | (with_reducible assumption) | (with_reducible exact ne_of_all (by assumption) (by k_dflt k_mem)) | (with_reducible exact Ne.symm (ne_of_all (by assumption) (by k_dflt k_mem))) | omega⟩, ⟨by first | (with_reducible assumption) | (with_reducible exact ne_of_all (by assumption) (by k_dflt k_mem)) | (with_reducible exact Ne.symm (ne_of_all (by assumption) (by k_dflt k_mem))) | omega⟩, ⟨by first | (with_reducible assumption) | (with_reducible exact ne_of_all (by assumption) (by k_dflt k_mem)) | (with_reducible exact Ne.symm (ne_of_all (by assumption) (by k_dflt k_mem))) | omega⟩, ⟨by first | (with_reducible assumption) | (with_reducible exact ne_of_all (by assumption) (by k_dflt k_mem)) | (with_reducible exact Ne.symm (ne_of_all (by assumption) (by k_dflt k_mem))) | omega⟩, ⟨by first | (with_reducible assumption) | (with_reducible exact ne_of_all (by assumption) (by k_dflt k_mem)) | (with_reducible exact Ne.symm (ne_of_all (by assumption) (by k_dflt k_mem))) | omega⟩, ⟨by first | (with_reducible assumption) | (with_reducible exact ne_of_all (by assumption) (by k_dflt k_mem)) | (with_reducible exact Ne.symm (ne_of_all (by assumption) (by k_dflt k_mem))) | omega⟩⟩
      case nL2 => exact ne7 ⟨⟨by first | (with_reducible assumption) | (with_reducible exact ne_of_all (by assumption) (by k_dflt k_mem)) | (with_reducible exact Ne.symm (ne_of_all (by assumption) (by k_dflt k_mem))) | omega⟩, ⟨by first | (with_reducible assumption) | (with_reducible exact ne_of_all (by assumption) (by k_dflt k_mem)) | (with_reducible exact Ne.symm (ne_of_all (by assumption) (by k_dflt k_mem))) | omega⟩, ⟨by first | (with_reducible assumption) | (with_reducible exact ne_of_all (by assumption) (by k_dflt k_mem)) | (with_reducible exact Ne.symm (ne_of_all (by assumption) (by k_dflt k_mem))) | omega⟩, ⟨by first | (with_reducible assumption) | (with_reducible exact ne_of_all (by assumption) (by k_dflt k_mem)) | (with_reducible exact Ne.symm (ne_of_all (by assumption) (by k_dflt k_mem))) | omega⟩, ⟨by first | (with_reducible assumption) | (with_reducible exact ne_of_all (by assumption) (by k_dflt k_mem)) | (with_reducible exact Ne.symm (ne_of_all (by assumption) (by k_dflt k_mem))) | omega⟩, ⟨by first | (with_reducible assumption) | (with_reducible exact ne_of_all (by assumption) (by k_dflt k_mem)) | (with_reducible exact Ne.symm (ne_of_all (by assumption) (by k_dflt k_mem))) | omega⟩, ⟨by first | (with_reducible assumption) | (with_reducible exact ne_of_all (by assumption) (by k_dflt k_mem)) | (with_reducible exact Ne.symm (ne_of_all (by assumption) (by k_dflt k_mem))) | omega⟩⟩
      case nL1 => exact ne7 ⟨⟨by first | (with_reducible assumption) | (with_reducible exact ne_of_all (by assumption) (by k_dflt k_mem)) | (with_reducible exact Ne.symm (ne_of_all (by assumption) (by k_dflt k_mem))) | omega⟩, ⟨by first | (with_reducible assumption) | (with_reducible exact ne_of_all (by assumption) (by k_dflt k_mem)) | (with_reducible exact Ne.symm (ne_of_all (by assumption) (by k_dflt k_mem))) | omega⟩, ⟨by first | (with_reducible assumption) | (with_reducible exact ne_of_all (by assumption) (by k_dflt k_mem)) | (with_reducible exact Ne.symm (ne_of_all (by assumption) (by k_dflt k_mem))) | omega⟩, ⟨by first | (with_reducible assumption) | (with_reducible exact ne_of_all (by assumption) (by k_dflt k_mem)) | (with_reducible exact Ne.symm (ne_of_all (by assumption) (by k_dflt k_mem))) | omega⟩, ⟨by first | (with_reducible assumption) | (with_reducible exact ne_of_all (by assumption) (by k_dflt k_mem)) | (with_reducible exact Ne.symm (ne_of_all (by assumption) (by k_dflt k_mem))) | omega⟩, ⟨by first | (with_reducible assumption) | (with_reducible exact ne_of_all (by assumption) (by k_dflt k_mem)) | (with_reducible exact Ne.symm (ne_of_all (by assumption) (by k_dflt k_mem))) | omega⟩, ⟨by first | (with_reducible assumption) | (with_reducible exact ne_of_all (by assumption) (by k_dflt k_mem)) | (with_reducible exact Ne.symm (ne_of_all (by assumption) (by k_dflt k_mem))) | omega⟩⟩
      case o1 => first | assumption | exact offK (by assumption) (by k_mem)
      case o2 => first | assumption | exact offK (by assumption) (by k_mem)
      case o3 => first | assumption | exact offK (by assumption) (by k_mem)
      case o4 => first | assumption | exact offK (by assumption) (by k_mem)
      case o5 => first | assumption | exact offK (by assumption) (by k_mem)
      case o6 => first | assumption | exact offK (by assumption) (by k_mem)
      case o7 => first | assumption | exact offK (by assumption) (by k_mem)
    case done =>
      intro i m₁ nx h tk hi hJ F9 N9
      exact hFin i m₁ nx h tk hi hJ F9 N9)
end TLawT3
end Mine
theorem PySem.Challenge.cw_qz0100_01_holds : PySem.Challenge.rw_qz0100_01.Holds := by
  exact Mine.lawT
