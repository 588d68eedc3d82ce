import PyProof.Rows.All
import Wide.All
import OpenK.AllK
import Wide.FinOn
import Lean
import PySem.Challenge.RW_np0234_01
open PySem PySem.Spec PySem.Calls PySem.W PyProof.Rows
set_option Elab.async false
set_option maxRecDepth 100000
set_option linter.all false
local macro_rules | `(tactic| walk_at $s:str) => do
  let t := Lean.Syntax.mkStrLit ("my " ++ s.getString)
  `(tactic| k_extra $t)
local macro_rules | `(tactic| dsimp only) => `(tactic| (refine' (?m : ∀ P : Prop, P → P → P) _ ?n ?c; exact fun _ a _ => a; (case' c => dsimp only []); (case' n => exact ?c)))
local macro_rules | `(tactic| k_room) => `(tactic| ktr_room)
local macro_rules | `(tactic| k_all) => `(tactic| k_extra "all")
local macro_rules | `(tactic| k_ne) => `(tactic| k_extra "ne")
local macro_rules | `(tactic| ke_room) => `(tactic| k_extra "room")
local macro_rules | `(tactic| size_fits) => `(tactic| k_extra "fits")
namespace Mine
section
local macro_rules | `(tactic| o_head $_) => `(tactic| assumption)
set_option maxHeartbeats 4000000 in
theorem kk (h : PySem.Challenge.rw_np0234_01.row.Holds) : PySem.Challenge.rw_np0234_01.row.Holds := by k_head
end
noncomputable def st0 : Stmt := by
  refine' (?f : (a : Stmt) → (R : List Stmt) → (PySem.Challenge.pw_np0234_01.main.body.drop 0 = a :: R) → Stmt) _ _ (Eq.refl (_ :: _))
  case f => exact fun a _ _ => a
noncomputable def st1 : Stmt := by
  refine' (?f : (a : Stmt) → (R : List Stmt) → (PySem.Challenge.pw_np0234_01.main.body.drop 1 = a :: R) → Stmt) _ _ (Eq.refl (_ :: _))
  case f => exact fun a _ _ => a
noncomputable def st2 : Stmt := by
  refine' (?f : (a : Stmt) → (R : List Stmt) → (PySem.Challenge.pw_np0234_01.main.body.drop 2 = a :: R) → Stmt) _ _ (Eq.refl (_ :: _))
  case f => exact fun a _ _ => a
noncomputable def st3 : Stmt := by
  refine' (?f : (a : Stmt) → (R : List Stmt) → (PySem.Challenge.pw_np0234_01.main.body.drop 3 = a :: R) → Stmt) _ _ (Eq.refl (_ :: _))
  case f => exact fun a _ _ => a
noncomputable def st4 : Stmt := by
  refine' (?f : (a : Stmt) → (R : List Stmt) → (PySem.Challenge.pw_np0234_01.main.body.drop 4 = a :: R) → Stmt) _ _ (Eq.refl (_ :: _))
  case f => exact fun a _ _ => a
noncomputable def st5 : Stmt := by
  refine' (?f : (a : Stmt) → (R : List Stmt) → (PySem.Challenge.pw_np0234_01.main.body.drop 5 = a :: R) → Stmt) _ _ (Eq.refl (_ :: _))
  case f => exact fun a _ _ => a
noncomputable def st6 : Stmt := by
  refine' (?f : (a : Stmt) → (R : List Stmt) → (PySem.Challenge.pw_np0234_01.main.body.drop 6 = a :: R) → Stmt) _ _ (Eq.refl (_ :: _))
  case f => exact fun a _ _ => a
noncomputable def st7 : Stmt := by
  refine' (?f : (a : Stmt) → (R : List Stmt) → (PySem.Challenge.pw_np0234_01.main.body.drop 7 = a :: R) → Stmt) _ _ (Eq.refl (_ :: _))
  case f => exact fun a _ _ => a
noncomputable def st8 : Stmt := by
  refine' (?f : (a : Stmt) → (R : List Stmt) → (PySem.Challenge.pw_np0234_01.main.body.drop 8 = a :: R) → Stmt) _ _ (Eq.refl (_ :: _))
  case f => exact fun a _ _ => a
noncomputable def st9 : Stmt := by
  refine' (?f : (a : Stmt) → (R : List Stmt) → (PySem.Challenge.pw_np0234_01.main.body.drop 9 = a :: R) → Stmt) _ _ (Eq.refl (_ :: _))
  case f => exact fun a _ _ => a
noncomputable def st10 : Stmt := by
  refine' (?f : (a : Stmt) → (R : List Stmt) → (PySem.Challenge.pw_np0234_01.main.body.drop 10 = a :: R) → Stmt) _ _ (Eq.refl (_ :: _))
  case f => exact fun a _ _ => a
noncomputable def st11 : Stmt := by
  refine' (?f : (a : Stmt) → (R : List Stmt) → (PySem.Challenge.pw_np0234_01.main.body.drop 11 = a :: R) → Stmt) _ _ (Eq.refl (_ :: _))
  case f => exact fun a _ _ => a
noncomputable def st12 : Stmt := by
  refine' (?f : (a : Stmt) → (R : List Stmt) → (PySem.Challenge.pw_np0234_01.main.body.drop 12 = a :: R) → Stmt) _ _ (Eq.refl (_ :: _))
  case f => exact fun a _ _ => a
noncomputable def st13 : Stmt := by
  refine' (?f : (a : Stmt) → (R : List Stmt) → (PySem.Challenge.pw_np0234_01.main.body.drop 13 = a :: R) → Stmt) _ _ (Eq.refl (_ :: _))
  case f => exact fun a _ _ => a
noncomputable def st14 : Stmt := by
  refine' (?f : (a : Stmt) → (R : List Stmt) → (PySem.Challenge.pw_np0234_01.main.body.drop 14 = a :: R) → Stmt) _ _ (Eq.refl (_ :: _))
  case f => exact fun a _ _ => a
noncomputable def st15 : Stmt := by
  refine' (?f : (a : Stmt) → (R : List Stmt) → (PySem.Challenge.pw_np0234_01.main.body.drop 15 = a :: R) → Stmt) _ _ (Eq.refl (_ :: _))
  case f => exact fun a _ _ => a
noncomputable def st16 : Stmt := by
  refine' (?f : (a : Stmt) → (R : List Stmt) → (PySem.Challenge.pw_np0234_01.main.body.drop 16 = a :: R) → Stmt) _ _ (Eq.refl (_ :: _))
  case f => exact fun a _ _ => a
noncomputable def st17 : Stmt := by
  refine' (?f : (a : Stmt) → (R : List Stmt) → (PySem.Challenge.pw_np0234_01.main.body.drop 17 = a :: R) → Stmt) _ _ (Eq.refl (_ :: _))
  case f => exact fun a _ _ => a
noncomputable def st18 : Stmt := by
  refine' (?f : (a : Stmt) → (R : List Stmt) → (PySem.Challenge.pw_np0234_01.main.body.drop 18 = a :: R) → Stmt) _ _ (Eq.refl (_ :: _))
  case f => exact fun a _ _ => a
noncomputable def st19 : Stmt := by
  refine' (?f : (a : Stmt) → (R : List Stmt) → (PySem.Challenge.pw_np0234_01.main.body.drop 19 = a :: R) → Stmt) _ _ (Eq.refl (_ :: _))
  case f => exact fun a _ _ => a
noncomputable def st20 : Stmt := by
  refine' (?f : (a : Stmt) → (R : List Stmt) → (PySem.Challenge.pw_np0234_01.main.body.drop 20 = a :: R) → Stmt) _ _ (Eq.refl (_ :: _))
  case f => exact fun a _ _ => a
noncomputable def st21 : Stmt := by
  refine' (?f : (a : Stmt) → (R : List Stmt) → (PySem.Challenge.pw_np0234_01.main.body.drop 21 = a :: R) → Stmt) _ _ (Eq.refl (_ :: _))
  case f => exact fun a _ _ => a
noncomputable def st22 : Stmt := by
  refine' (?f : (a : Stmt) → (R : List Stmt) → (PySem.Challenge.pw_np0234_01.main.body.drop 22 = a :: R) → Stmt) _ _ (Eq.refl (_ :: _))
  case f => exact fun a _ _ => a
noncomputable def st23 : Stmt := by
  refine' (?f : (a : Stmt) → (R : List Stmt) → (PySem.Challenge.pw_np0234_01.main.body.drop 23 = a :: R) → Stmt) _ _ (Eq.refl (_ :: _))
  case f => exact fun a _ _ => a
noncomputable def st24 : Stmt := by
  refine' (?f : (a : Stmt) → (R : List Stmt) → (PySem.Challenge.pw_np0234_01.main.body.drop 24 = a :: R) → Stmt) _ _ (Eq.refl (_ :: _))
  case f => exact fun a _ _ => a
noncomputable def st25 : Stmt := by
  refine' (?f : (a : Stmt) → (R : List Stmt) → (PySem.Challenge.pw_np0234_01.main.body.drop 25 = a :: R) → Stmt) _ _ (Eq.refl (_ :: _))
  case f => exact fun a _ _ => a
noncomputable def st26 : Stmt := by
  refine' (?f : (a : Stmt) → (R : List Stmt) → (PySem.Challenge.pw_np0234_01.main.body.drop 26 = a :: R) → Stmt) _ _ (Eq.refl (_ :: _))
  case f => exact fun a _ _ => a
noncomputable def st27 : Stmt := by
  refine' (?f : (a : Stmt) → (R : List Stmt) → (PySem.Challenge.pw_np0234_01.main.body.drop 27 = a :: R) → Stmt) _ _ (Eq.refl (_ :: _))
  case f => exact fun a _ _ => a
noncomputable def st28 : Stmt := by
  refine' (?f : (a : Stmt) → (R : List Stmt) → (PySem.Challenge.pw_np0234_01.main.body.drop 28 = a :: R) → Stmt) _ _ (Eq.refl (_ :: _))
  case f => exact fun a _ _ => a
noncomputable def st29 : Stmt := by
  refine' (?f : (a : Stmt) → (R : List Stmt) → (PySem.Challenge.pw_np0234_01.main.body.drop 29 = a :: R) → Stmt) _ _ (Eq.refl (_ :: _))
  case f => exact fun a _ _ => a
noncomputable def st30 : Stmt := by
  refine' (?f : (a : Stmt) → (R : List Stmt) → (PySem.Challenge.pw_np0234_01.main.body.drop 30 = a :: R) → Stmt) _ _ (Eq.refl (_ :: _))
  case f => exact fun a _ _ => a
noncomputable def st31 : Stmt := by
  refine' (?f : (a : Stmt) → (R : List Stmt) → (PySem.Challenge.pw_np0234_01.main.body.drop 31 = a :: R) → Stmt) _ _ (Eq.refl (_ :: _))
  case f => exact fun a _ _ => a
noncomputable def st32 : Stmt := by
  refine' (?f : (a : Stmt) → (R : List Stmt) → (PySem.Challenge.pw_np0234_01.main.body.drop 32 = a :: R) → Stmt) _ _ (Eq.refl (_ :: _))
  case f => exact fun a _ _ => a
noncomputable def st33 : Stmt := by
  refine' (?f : (a : Stmt) → (R : List Stmt) → (PySem.Challenge.pw_np0234_01.main.body.drop 33 = a :: R) → Stmt) _ _ (Eq.refl (_ :: _))
  case f => exact fun a _ _ => a
noncomputable def st34 : Stmt := by
  refine' (?f : (a : Stmt) → (R : List Stmt) → (PySem.Challenge.pw_np0234_01.main.body.drop 34 = a :: R) → Stmt) _ _ (Eq.refl (_ :: _))
  case f => exact fun a _ _ => a
noncomputable def st35 : Stmt := by
  refine' (?f : (a : Stmt) → (R : List Stmt) → (PySem.Challenge.pw_np0234_01.main.body.drop 35 = a :: R) → Stmt) _ _ (Eq.refl (_ :: _))
  case f => exact fun a _ _ => a
noncomputable def st36 : Stmt := by
  refine' (?f : (a : Stmt) → (R : List Stmt) → (PySem.Challenge.pw_np0234_01.main.body.drop 36 = a :: R) → Stmt) _ _ (Eq.refl (_ :: _))
  case f => exact fun a _ _ => a
noncomputable def st37 : Stmt := by
  refine' (?f : (a : Stmt) → (R : List Stmt) → (PySem.Challenge.pw_np0234_01.main.body.drop 37 = a :: R) → Stmt) _ _ (Eq.refl (_ :: _))
  case f => exact fun a _ _ => a
noncomputable def st38 : Stmt := by
  refine' (?f : (a : Stmt) → (R : List Stmt) → (PySem.Challenge.pw_np0234_01.main.body.drop 38 = a :: R) → Stmt) _ _ (Eq.refl (_ :: _))
  case f => exact fun a _ _ => a
noncomputable def st39 : Stmt := by
  refine' (?f : (a : Stmt) → (R : List Stmt) → (PySem.Challenge.pw_np0234_01.main.body.drop 39 = a :: R) → Stmt) _ _ (Eq.refl (_ :: _))
  case f => exact fun a _ _ => a
noncomputable def st40 : Stmt := by
  refine' (?f : (a : Stmt) → (R : List Stmt) → (PySem.Challenge.pw_np0234_01.main.body.drop 40 = a :: R) → Stmt) _ _ (Eq.refl (_ :: _))
  case f => exact fun a _ _ => a
noncomputable def st41 : Stmt := by
  refine' (?f : (a : Stmt) → (R : List Stmt) → (PySem.Challenge.pw_np0234_01.main.body.drop 41 = a :: R) → Stmt) _ _ (Eq.refl (_ :: _))
  case f => exact fun a _ _ => a
noncomputable def st42 : Stmt := by
  refine' (?f : (a : Stmt) → (R : List Stmt) → (PySem.Challenge.pw_np0234_01.main.body.drop 42 = a :: R) → Stmt) _ _ (Eq.refl (_ :: _))
  case f => exact fun a _ _ => a
noncomputable def st43 : Stmt := by
  refine' (?f : (a : Stmt) → (R : List Stmt) → (PySem.Challenge.pw_np0234_01.main.body.drop 43 = a :: R) → Stmt) _ _ (Eq.refl (_ :: _))
  case f => exact fun a _ _ => a
noncomputable def st44 : Stmt := by
  refine' (?f : (a : Stmt) → (R : List Stmt) → (PySem.Challenge.pw_np0234_01.main.body.drop 44 = a :: R) → Stmt) _ _ (Eq.refl (_ :: _))
  case f => exact fun a _ _ => a
noncomputable def st45 : Stmt := by
  refine' (?f : (a : Stmt) → (R : List Stmt) → (PySem.Challenge.pw_np0234_01.main.body.drop 45 = a :: R) → Stmt) _ _ (Eq.refl (_ :: _))
  case f => exact fun a _ _ => a
noncomputable def st46 : Stmt := by
  refine' (?f : (a : Stmt) → (R : List Stmt) → (PySem.Challenge.pw_np0234_01.main.body.drop 46 = a :: R) → Stmt) _ _ (Eq.refl (_ :: _))
  case f => exact fun a _ _ => a
noncomputable def st47 : Stmt := by
  refine' (?f : (a : Stmt) → (R : List Stmt) → (PySem.Challenge.pw_np0234_01.main.body.drop 47 = a :: R) → Stmt) _ _ (Eq.refl (_ :: _))
  case f => exact fun a _ _ => a
noncomputable def scp : Scope := by
  refine' (?f : (a : Scope) → (PySem.Challenge.pw_np0234_01.main.scope = a) → Scope) ⟨_, _, _, _, _⟩ (Eq.refl (Scope.mk _ _ _ _ _))
  case f => exact fun a _ => a
noncomputable def q2 : Program :=
  { main := { body := [st0, st2, st3, st5, st6, st7, st8, st9, st10, st11, st12, st13, st14, st15, st16, st17, st18, st19, st20, st21, st22, st23, st24, st25, st26, st27, st28, st29, st30, st31, st32, st33, st34, st35, st36, st37, st38, st40, st41, st42, st43, st44, st45, st46, st47], scope := scp, futureAnnotations := false, file := "/claim/cut.py", more := [] }, modules := [], parses := [], absent := [], harvested := [],
    given := { argv := [], stdin := [], environ := some [([76, 67, 95, 65, 76, 76], [67, 46, 85, 84, 70, 45, 56])] } }
noncomputable def pw2 : Program :=
  { main := { body := [st0, st1, st2, st3, st4, st5, st6, st7, st8, st9, st10, st11, st12, st13, st14, st15, st16, st17, st18, st19, st20, st21, st22, st23, st24, st25, st26, st27, st28, st29, st30, st31, st32, st33, st34, st35, st36, st37, st38, st39, st40, st41, st42, st43, st44, st45, st46, st47], scope := scp, futureAnnotations := false, file := "/claim/cut.py", more := [] }, modules := [], parses := [], absent := [], harvested := [],
    given := { argv := [], stdin := [], environ := some [([76, 67, 95, 65, 76, 76], [67, 46, 85, 84, 70, 45, 56])] } }
theorem pw_eq : PySem.Challenge.pw_np0234_01 = pw2 := by kernel_rfl
noncomputable def ks : List Addr := [2, 3, 15, 17, 18, 20, 21, 22, 29, 30, 32, 33, 35, 36, 37, 38, 39, 40, 43, 50, 51, 52, 55, 56, 57, 58, 66, 67, 69, 70, 72, 73, 74, 76, 77, 79, 80, 81, 83, 84, 86, 87, 88, 89, 90, 91, 92, 102, 104, 105, 107, 108, 109, 110, 112, 113, 115, 116, 117, 119, 120, 122, 123, 124, 126, 127, 129, 130, 131, 133, 134, 136, 137, 138, 140, 141, 143, 144, 145, 146, 147, 148, 149, 152, 154, 155, 157, 158, 159, 161, 162, 164, 165, 166, 168, 169, 171, 172, 173, 175, 176, 178, 179, 180, 182, 183, 185, 186, 187, 189, 190, 192, 193, 194, 196, 197, 199, 200, 201, 203, 204, 206, 207, 208, 210, 211, 213, 214, 215, 217, 218, 220, 221, 222, 224, 225, 227, 228, 229, 231, 232, 234, 235, 236, 238, 239, 241, 242, 243, 245, 246, 248, 249, 250, 252, 253, 255, 256, 257, 259, 260, 262, 263, 264, 266, 267, 269, 270, 271, 273, 274, 276, 277, 278, 280, 281, 283, 284, 285, 287, 288, 290, 291, 292, 294, 295, 297, 298, 299, 301, 302, 304, 305, 306, 309, 310, 311, 313, 314, 316, 317, 318, 320, 321, 323, 324, 325, 327, 328, 330, 331, 332, 334, 335, 337, 338, 339, 342, 343]
theorem ks_eq (P : Params) : ks = (kk.heap_1 P).map (·.1) := by kernel_rfl
noncomputable def bootTree (P : Params) : BT := ((boot_heap P).objs.toList.foldl (fun (x : BT × Nat) o => (x.1.ins x.2 o, x.2 + 1)) (BT.nil, 0)).1
noncomputable def life0 : Life := { debug := 0, thresholds := [2000, 10, 10] }
noncomputable def boS (w : World) (os : OsState) : SharedT := ⟨bootTree w.params, 11, life0, #[], boot_drawn, boot_toks, os⟩
theorem bo_abs (w : World) (os : OsState) : (boS w os).abs = ⟨boot_heap w.params, #[], boot_drawn, boot_toks, os⟩ := by kernel_rfl
noncomputable def goT (tb : String → Option Builtin) (p : Program) (w : World) (n₀ : Nat) (ann : Option Value) : Nat → SharedT → Thread → Option SharedT
  | 0, _, _ => none
  | n + 1, s, t => match through t with
    | true => some s
    | false => match stepOk n₀ ann t with
      | false => none
      | true => match stepT (denote tb) p w s t with
        | some (s', t') => goT tb p w n₀ ann n s' t'
        | none => none
theorem goT_of {tb : String → Option Builtin} {p : Program} {w : World} {n₀ : Nat} {ann : Option Value} : ∀ {n : Nat} {s s' : SharedT} {t : Thread}, goT tb p w n₀ ann n s t = some s' → topRun tb p w n₀ ann n s.abs t = some s'.abs
  | 0, _, _, _, h => by cases h
  | n + 1, s, s', t, h => by
    unfold goT at h
    unfold topRun
    cases he : through t with
    | true => rw [he] at h; cases h; rfl
    | false =>
      rw [he] at h
      cases hk : stepOk n₀ ann t with
      | false => rw [hk] at h; cases h
      | true =>
        rw [hk] at h
        cases hs : stepT (denote tb) p w s t with
        | none => rw [hs] at h; cases h
        | some r => obtain ⟨s₂, t₂⟩ := r; rw [hs] at h; rw [stepT_spec hs]; exact goT_of h
-- what is asked of the state behind the top, for any program, view and written part
noncomputable def tot (p q : Program) (l : List Str) (as : List Addr) (N : Nat) (w : World) (os : OsState) :=
  (goT treeTable p w 11 (some (.ref 6)) N (boS w os) (topStub p)).map fun s =>
    ((staticsOk (importedModules p.main.body) (boot_heap w.params) s.abs.heap && namesBound p s.abs.heap && gensDone s.abs && laidKept (boot_heap w.params) s.abs.heap),
      openSeen q l (importedModules p.main.body) (fun s => xlAt q [] s && recOk [] s) true s.abs, as.map s.abs.heap.get?)
noncomputable def good (q : Program) (l : List Str) (K : Params → Frag) (w : World) := some (true, openGood q l, (K w.params).map fun p => some p.2)
noncomputable def size0 (w : World) (os : OsState) := ((boot_heap w.params).isNs mainGlobals && (#[] : Array GenState).size == 0, (boot_heap w.params).objs.size, (boot_heap w.params).nsMap mainGlobals "__annotations__")
noncomputable def well (l : OpenLaw) : Bool := l.wellSaid
noncomputable def tru {α : Type} (_ : α) : Bool := true
set_option maxHeartbeats 4000000 in
theorem laid : (tru tot && tru good && tru size0 && tru well) = true := by k_qdec
set_option maxHeartbeats 0 in
theorem runF (w : World) (os : OsState) : PySem.W.Fast.tw4832404391685016928 pw2 q2 [Str.ofString "LazyError", Str.ofString "PLAIN_ESCAPES"] ks 4900 (w.withFollow "special-get-raises" false) os =
    PySem.W.Fast.tw10306816596565454657 q2 [Str.ofString "LazyError", Str.ofString "PLAIN_ESCAPES"] kk.heap_1 (w.withFollow "special-get-raises" false) := by kernel_rfl
set_option maxHeartbeats 0 in
theorem runT (w : World) (os : OsState) : PySem.W.Fast.tw4832404391685016928 pw2 q2 [Str.ofString "LazyError", Str.ofString "PLAIN_ESCAPES"] ks 4900 (w.withFollow "special-get-raises" true) os =
    PySem.W.Fast.tw10306816596565454657 q2 [Str.ofString "LazyError", Str.ofString "PLAIN_ESCAPES"] kk.heap_1 (w.withFollow "special-get-raises" true) := by kernel_rfl
theorem run_ok (w : World) (os : OsState) : tot pw2 q2 [Str.ofString "LazyError", Str.ofString "PLAIN_ESCAPES"] ks 4900 w os = good q2 [Str.ofString "LazyError", Str.ofString "PLAIN_ESCAPES"] kk.heap_1 w := by
  rw [PySem.W.Fast.te4832404391685016928, PySem.W.Fast.te10306816596565454657]
  exact byRow2 (P := fun w => PySem.W.Fast.tw4832404391685016928 pw2 q2 [Str.ofString "LazyError", Str.ofString "PLAIN_ESCAPES"] ks 4900 w os = PySem.W.Fast.tw10306816596565454657 q2 [Str.ofString "LazyError", Str.ofString "PLAIN_ESCAPES"] kk.heap_1 w) "special-get-raises" (fun w => runF w os) (fun w => runT w os) w
theorem size_tw (w : World) (os : OsState) : PySem.W.Fast.tw11947012035182950886 w os = (true, 11, some (.ref 6)) := by kernel_rfl
theorem size_ok (w : World) (os : OsState) : size0 w os = (true, 11, some (.ref 6)) := by rw [PySem.W.Fast.te11947012035182950886]; exact size_tw w os
theorem well_tw : PySem.W.Fast.tw14136512653129321483 PySem.Challenge.rw_np0234_01 = true := by kernel_rfl
theorem well_ok : PySem.Challenge.rw_np0234_01.wellSaid = true := (congrFun PySem.W.Fast.te14136512653129321483 PySem.Challenge.rw_np0234_01).trans well_tw
theorem open2 : ∀ w : World, (fencedOpening treeTable pw2 w 4900).map (fun s => (s.heap, s.gens, s.drawn, s.toks)) = some (boot_heap w.params, Array.mk [], boot_drawn, boot_toks) :=
  boot_open (by kernel_rfl) (by decide) (fun s => by kernel_rfl)
theorem left2 : LeftO pw2 q2 [Str.ofString "LazyError", Str.ofString "PLAIN_ESCAPES"] (fun s => xlAt q2 [] s && recOk [] s) (kHook kk.heap_1 ks ks_eq).obs (kHook kk.heap_1 ks ks_eq).val 4900 true := fun w => by
  obtain ⟨⟨h, gs, d, k, os⟩, e, e'⟩ := Option.map_eq_some_iff.mp (open2 w)
  obtain ⟨rfl, rfl, rfl, rfl⟩ : h = boot_heap w.params ∧ gs = Array.mk [] ∧ d = boot_drawn ∧ k = boot_toks := by simpa using e'
  obtain ⟨s1, hs, hl⟩ := Option.map_eq_some_iff.mp (run_ok w os)
  have r := goT_of hs
  rw [bo_abs] at r
  obtain ⟨z1, z2⟩ := Prod.mk.inj (size_ok w os)
  obtain ⟨z2, z3⟩ := Prod.mk.inj z2
  obtain ⟨l1, l2⟩ := Prod.mk.inj hl
  unfold openEnds
  rw [e]
  show (topFrom treeTable _ w 4900 _).map _ = _
  have t : topFrom treeTable pw2 w 4900 ⟨boot_heap w.params, Array.mk [], boot_drawn, boot_toks, os⟩ = some s1.abs := by
    unfold topFrom
    dsimp only
    rw [z1, z2, z3, r]
    show (match _ with | true => _ | false => _) = _
    rw [l1]
  rw [t]
  exact congrArg some l2
theorem left : LeftO PySem.Challenge.pw_np0234_01 q2 [Str.ofString "LazyError", Str.ofString "PLAIN_ESCAPES"] (fun s => xlAt q2 [] s && recOk [] s) (kHook kk.heap_1 ks ks_eq).obs (kHook kk.heap_1 ks ks_eq).val 4900 true := by
  rw [pw_eq]
  exact left2
/-! ## plain: texts as lists of numbers -/
/-- the sign at place k of the rest, as a text of one sign or none -/
theorem rg_M1_1 : True := by
  k_with_none
  k_with "all" => assumption
  k_with "enter" => (refine' code_def ?enk1 ?enk2 ?enk3 ?enk4 ?enk5 ?enkA ?enkF ?enkK ?enk6 ?enk7 ?enk8 ?enk9 ?enkB ?_ ?enc2 ?enc3 ?enc4 ?enc5; (case enkA => exact rfl); (case enkF => exact rfl); (case enkK => first | exact rfl | assumption); (case enk1 => k_asm); (case enk2 => k_asm); (case enk3 => k_asm); (case enk4 => k_asm); (case enk5 => k_asm); (case enk6 => k_is); (case enk7 => k_is); (case enk8 => ktr_room); (case enk9 => first | exact BindsTo.of_eq rfl | exact binds_K (by k_in) rfl (by k_is) rfl rfl rfl); (case enc5 => decide); (case enkB => exact locs rfl); (case enc2 => exact rfl); (case enc3 => exact rfl); (case enc4 => exact rfl); k_whole; intro g' L' h' FG' F' N' B' X' T'; (try dsimp only); (try k_fold))
  exact trivial
noncomputable def sgn (r : List Nat) (k : Nat) : Str := ⟨((r.drop k).take 1).toArray⟩
noncomputable def txt (r : List Nat) (k : Nat) : Str := ⟨(r.take k).toArray⟩
noncomputable abbrev cpl (T : Str) : List Nat := T.cps.toList
/-- line and column behind a sign -/
noncomputable def mv (c : Option Nat) (p : Int × Int) : Int × Int :=
  match c with
  | some 10 => (p.1 + 1, 1)
  | some 9 => (p.1, Int.fdiv (p.2 - 1) 8 * 8 + 8 + 1)
  | _ => (p.1, p.2 + 1)
noncomputable def posAt (l : List Nat) : Nat → Int × Int
  | 0 => (1, 1)
  | n + 1 => mv l[n]? (posAt l n)
theorem txt_item {T : Str} {n k : Nat} (h : n + k < T.length) : Txt.item T ((n : Int) + (k : Int)) = sgn ((cpl T).drop n) k := by
  have hl : n + k < T.cps.toList.length := by simpa [Str.length] using h
  have e : ((n : Int) + (k : Int)) = ((n + k : Nat) : Int) := by omega
  have e1 : seqIndex? ((n + k : Nat) : Int) T.length = some (n + k) := by
    unfold seqIndex?
    have h2 : (if ((n + k : Nat) : Int) < 0 then ((n + k : Nat) : Int) + (T.length : Int) else ((n + k : Nat) : Int)) = ((n + k : Nat) : Int) := if_neg (Int.not_lt.mpr (Int.natCast_nonneg _))
    simp only [h2]
    rw [if_pos (by rw [Bool.and_eq_true, decide_eq_true_iff, decide_eq_true_iff]; exact ⟨Int.natCast_nonneg _, Int.ofNat_lt.mpr h⟩)]
    exact congrArg some (Int.toNat_natCast _)
  have e2 : Txt.charAt T ((n + k : Nat) : Int) = some (T.cps.toList[n + k]) := by
    unfold Txt.charAt
    rw [e1, Option.bind_some, ← Array.getElem?_toList]
    exact List.getElem?_eq_getElem hl
  unfold Txt.item sgn
  rw [e, e2]
  congr 1
  rw [List.drop_drop, List.drop_eq_getElem_cons hl]
  simp
theorem sgn_end {T : Str} {n k : Nat} (h : ¬ n + k < T.length) : sgn ((cpl T).drop n) k = ⟨#[]⟩ := by
  unfold sgn
  have hl : (cpl T).length = T.length := by simp [Str.length, cpl]
  rw [List.drop_drop, List.drop_eq_nil_of_le (by omega)]
  rfl
theorem sgn_len (r : List Nat) (k : Nat) : (sgn r k).length ≤ 1 := List.length_take_le 1 (r.drop k)
theorem clamp (a n : Nat) : max 0 (min (if (a : Int) < 0 then (a : Int) + (n : Int) else (a : Int)) (n : Int)) = ((min a n : Nat) : Int) := by
  rw [if_neg (Int.not_lt.mpr (Int.natCast_nonneg a)), Int.max_eq_right (Int.le_min.mpr ⟨Int.natCast_nonneg a, Int.natCast_nonneg n⟩)]
  rcases Nat.le_total a n with h | h
  · rw [Nat.min_eq_left h, Int.min_eq_left (Int.ofNat_le.mpr h)]
  · rw [Nat.min_eq_right h, Int.min_eq_right (Int.ofNat_le.mpr h)]
theorem slice_ix (a b n : Nat) : PySem.Builtin.Str.strSliceIndices (some (a : Int)) (some (b : Int)) 1 n = (List.range (min b n - min a n)).map (fun k => min a n + k) := by
  unfold PySem.Builtin.Str.strSliceIndices sliceRange
  simp only [show (1 : Int) > 0 by decide, if_true]
  rw [clamp, clamp, Int.add_sub_cancel, Int.ediv_one]
  have e3 : (if ((min a n : Nat) : Int) < ((min b n : Nat) : Int) then ((min b n : Nat) : Int) - ((min a n : Nat) : Int) else 0).toNat = min b n - min a n := by
    split
    · exact Int.toNat_sub _ _
    · rename_i h; exact (Nat.sub_eq_zero_of_le (Int.ofNat_le.mp (Int.not_lt.mp h))).symm
  rw [e3]
  refine List.map_congr_left fun k _ => ?_
  rw [Int.one_mul, ← Int.natCast_add]; rfl
theorem pick_all (l : List Nat) : ∀ (m a : Nat), a + m ≤ l.length → (List.range' a m).filterMap (fun k => l[k]?) = (l.drop a).take m
  | 0, _, _ => by rw [List.take_zero]; rfl
  | m + 1, a, h => by
    have hl : a < l.length := Nat.lt_of_lt_of_le (Nat.lt_add_of_pos_right (Nat.succ_pos m)) h
    rw [List.range'_succ, List.filterMap_cons, List.getElem?_eq_getElem hl, List.drop_eq_getElem_cons hl, List.take_succ_cons, pick_all l m (a + 1) (by rw [Nat.add_right_comm]; exact h)]
theorem txt_sl {T : Str} {a b : Nat} (hab : a ≤ b) : Txt.slice T (some (a : Int)) (some (b : Int)) = txt ((cpl T).drop a) (b - a) := by
  have hl : T.cps.toList.length = T.length := Array.length_toList
  have h2 : ((cpl T).drop (min a T.length)).take (min b T.length - min a T.length) = ((cpl T).drop a).take (b - a) := by
    rcases Nat.le_total a T.length with h | h
    · rw [Nat.min_eq_left h]
      rcases Nat.le_total b T.length with h' | h'
      · rw [Nat.min_eq_left h']
      · rw [Nat.min_eq_right h', List.take_of_length_le (by rw [List.length_drop, hl]; exact Nat.le_refl _), List.take_of_length_le (by rw [List.length_drop, hl]; exact Nat.sub_le_sub_right h' a)]
    · rw [Nat.min_eq_right h, Nat.min_eq_right (Nat.le_trans h hab), Nat.sub_self, List.take_zero, List.drop_eq_nil_of_le (Nat.le_trans (Nat.le_of_eq hl) h), List.take_nil]
  have hm : min a T.length + (min b T.length - min a T.length) ≤ T.cps.toList.length := by
    rw [hl, Nat.add_sub_cancel' (Nat.le_min.mpr ⟨Nat.le_trans (Nat.min_le_left _ _) hab, Nat.min_le_right _ _⟩)]
    exact Nat.min_le_right _ _
  have h1 := pick_all T.cps.toList _ _ hm
  rw [h2] at h1
  unfold Txt.slice
  rw [slice_ix]
  split
  · rename_i h
    have hlen : min b T.length - min a T.length = T.length := by simpa using h
    rw [hl, hlen] at hm
    have h0 : min a T.length = 0 := Nat.le_zero.mp (Nat.le_of_add_le_add_right (by rw [Nat.zero_add]; exact hm))
    rw [hlen, h0, List.drop_zero, List.take_of_length_le (Nat.le_of_eq hl)] at h2
    exact congrArg (fun x : List Nat => (⟨x.toArray⟩ : Str)) h2
  · refine congrArg (fun x : List Nat => (⟨x.toArray⟩ : Str)) (Eq.trans ?_ h1)
    rw [List.range'_eq_map_range]
    exact congrArg (fun f => List.filterMap f _) (funext fun k => Array.getElem?_toList.symm)
/-- a text one of whose signs the sign is -/
noncomputable def among (x y : Str) : Bool := (x != Str.ofString "") && !(Builtin.Str.occurrences y x 0 y.length 1).isEmpty
theorem among_one (c : Nat) (y : Str) : among ⟨#[c]⟩ y = decide (c ∈ y.cps.toList) := by
  unfold among
  rw [StrLaws.found_one]
  have : ((⟨#[c]⟩ : Str) != Str.ofString "") = true := by
    rw [show Str.ofString "" = (⟨#[]⟩ : Str) from by decide +kernel]
    rw [bne_iff_ne]
    intro h
    have := congrArg (fun x : Str => x.cps.size) h
    simp at this
  rw [this, Bool.true_and]
theorem among_none (y : Str) : among ⟨#[]⟩ y = false := by
  unfold among
  rw [show Str.ofString "" = (⟨#[]⟩ : Str) from by decide +kernel]
  simp
noncomputable def has (y : Str) (r : List Nat) : Bool := match r with | c :: _ => y.cps.toList.contains c | [] => false
theorem among_sgn (r : List Nat) (k : Nat) (y : Str) : among (sgn r k) y = has y (r.drop k) := by
  unfold sgn has
  cases r.drop k with
  | nil => exact among_none y
  | cons c t =>
    show among ⟨#[c]⟩ y = _
    rw [among_one]
    show _ = y.cps.toList.contains c
    rw [List.contains_eq_mem]
theorem sgn0 (l : List Nat) (n : Nat) : sgn (l.drop n) 0 = match l[n]? with | some c => ⟨#[c]⟩ | none => ⟨#[]⟩ := by
  unfold sgn
  rw [List.drop_zero]
  cases h : l[n]? with
  | none => rw [List.drop_eq_nil_of_le (List.getElem?_eq_none_iff.mp h)]; rfl
  | some c =>
    obtain ⟨hl, e⟩ := List.getElem?_eq_some_iff.mp h
    rw [List.drop_eq_getElem_cons hl, e]
    rfl
theorem str_one {c d : Nat} (h : (⟨#[c]⟩ : Str) = ⟨#[d]⟩) : c = d := by
  injection h with h
  simpa using h
theorem posAt_nl {l : List Nat} {n : Nat} (h : (sgn (l.drop n) 0 == Str.ofString "\n") = true) : posAt l (n + 1) = ((posAt l n).1 + 1, 1) := by
  have h := beq_iff_eq.mp h
  rw [sgn0, show Str.ofString "\n" = (⟨#[10]⟩ : Str) from by decide +kernel] at h
  show mv l[n]? _ = _
  cases hl : l[n]? with
  | none => rw [hl] at h; injection h with h; simp at h
  | some c => rw [hl] at h; cases str_one h; rfl
theorem posAt_tab {l : List Nat} {n : Nat} (h : (sgn (l.drop n) 0 == Str.ofString "\t") = true) : posAt l (n + 1) = ((posAt l n).1, Int.fdiv ((posAt l n).2 - 1) 8 * 8 + 8 + 1) := by
  have h := beq_iff_eq.mp h
  rw [sgn0, show Str.ofString "\t" = (⟨#[9]⟩ : Str) from by decide +kernel] at h
  show mv l[n]? _ = _
  cases hl : l[n]? with
  | none => rw [hl] at h; injection h with h; simp at h
  | some c => rw [hl] at h; cases str_one h; rfl
theorem posAt_other {l : List Nat} {n : Nat} (h : ¬ (sgn (l.drop n) 0 == Str.ofString "\n") = true) (h' : ¬ (sgn (l.drop n) 0 == Str.ofString "\t") = true) : posAt l (n + 1) = ((posAt l n).1, (posAt l n).2 + 1) := by
  rw [beq_iff_eq, sgn0] at h h'
  rw [show Str.ofString "\n" = (⟨#[10]⟩ : Str) from by decide +kernel] at h
  rw [show Str.ofString "\t" = (⟨#[9]⟩ : Str) from by decide +kernel] at h'
  show mv l[n]? _ = _
  cases hl : l[n]? with
  | none => rfl
  | some c =>
    rw [hl] at h h'
    unfold mv
    split
    · rename_i e; injection e with e; subst e; exact absurd rfl h
    · rename_i e; injection e with e; subst e; exact absurd rfl h'
    · rfl
theorem has_yn {l : List Nat} {n : Nat} {y : Str} (h1 : (sgn (l.drop n) 0 != Str.ofString "") = true) (h2 : (Builtin.Str.occurrences y (sgn (l.drop n) 0) 0 y.length 1).isEmpty = true) : has y (l.drop n) = false := by
  have := among_sgn (l.drop n) 0 y
  rw [List.drop_zero] at this
  rw [← this]
  unfold among
  rw [h1, h2]; rfl
theorem has_yy {l : List Nat} {n : Nat} {y : Str} (h1 : (sgn (l.drop n) 0 != Str.ofString "") = true) (h2 : (Builtin.Str.occurrences y (sgn (l.drop n) 0) 0 y.length 1).isEmpty = false) : has y (l.drop n) = true := by
  have := among_sgn (l.drop n) 0 y
  rw [List.drop_zero] at this
  rw [← this]
  unfold among
  rw [h1, h2]; rfl
theorem has_n {l : List Nat} {n : Nat} {y : Str} (h1 : (sgn (l.drop n) 0 != Str.ofString "") = false) : has y (l.drop n) = false := by
  have := among_sgn (l.drop n) 0 y
  rw [List.drop_zero] at this
  rw [← this]
  unfold among
  rw [h1]; rfl
theorem among_has {l : List Nat} {n k : Nat} {y : Str} {b : Bool} (h : among (sgn (l.drop n) k) y = b) : has y ((l.drop n).drop k) = b := by rw [← among_sgn]; exact h
theorem eq_has {l : List Nat} {n k c : Nat} {y : Str} (hy : y = ⟨#[c]⟩) {b : Bool} (h : (sgn (l.drop n) k == y) = b) : has y ((l.drop n).drop k) = b := by
  rw [← h, ← among_sgn, hy]
  unfold sgn
  cases (l.drop n).drop k with
  | nil =>
    show among ⟨#[]⟩ _ = _
    rw [among_none]
    rfl
  | cons x t =>
    show among ⟨#[x]⟩ _ = ((⟨#[x]⟩ : Str) == ⟨#[c]⟩)
    rw [among_one]
    by_cases e : x = c
    · subst e; simp
    · have : ((⟨#[x]⟩ : Str) == ⟨#[c]⟩) = false := by
        rw [beq_eq_false_iff_ne]
        intro q
        injection q with q
        exact e (by simpa using q)
      rw [this]; simpa using e
/-- how many signs take takes -/
noncomputable def tkw (y : Str) (r : List Nat) : Nat := (r.takeWhile (y.cps.toList.contains ·)).length
theorem has_tkw (y : Str) : ∀ (r : List Nat) (i : Nat), i ≤ tkw y r → (has y (r.drop i) = true ↔ i < tkw y r)
  | [], i, h => by simp [tkw, has] at *
  | c :: t, 0, _ => by
    show y.cps.toList.contains c = true ↔ _
    unfold tkw
    rw [List.takeWhile_cons]
    cases y.cps.toList.contains c <;> simp
  | c :: t, i + 1, h => by
    have h' : i + 1 ≤ tkw y (c :: t) := h
    unfold tkw at h'
    rw [List.takeWhile_cons] at h'
    cases e : y.cps.toList.contains c with
    | false => rw [e] at h'; simp at h'
    | true =>
      rw [e] at h'
      have := has_tkw y t i (by unfold tkw; simpa using h')
      rw [List.drop_succ_cons, this]
      unfold tkw
      rw [List.takeWhile_cons, e]
      simp
theorem tkw_stop {y : Str} {l : List Nat} {n i : Nat} (hi : i ≤ tkw y (l.drop n)) (h : has y (l.drop (n + i)) = false) : i = tkw y (l.drop n) := by
  have := has_tkw y (l.drop n) i hi
  rw [List.drop_drop, h] at this
  have : ¬ i < tkw y (l.drop n) := fun q => by have := this.mpr q; cases this
  omega
theorem tkw_go {y : Str} {l : List Nat} {n i : Nat} (hi : i ≤ tkw y (l.drop n)) (h : has y (l.drop (n + i)) = true) : i < tkw y (l.drop n) := by
  have := has_tkw y (l.drop n) i hi
  rw [List.drop_drop] at this
  exact this.mp h
theorem tkw_stop' {y : Str} {l : List Nat} {k i : Nat} (hi : i ≤ tkw y (l.drop k)) (h : has y (l.drop (k + i)) = false) : i = tkw y (l.drop k) := tkw_stop hi h
noncomputable def sSYMBOLS : Str := Str.ofString "!#$%&*+./<=>?@\\^|-~:"
noncomputable def sNAME : Str := Str.ofString "abcdefghijklmnopqrstuvwxyz_ABCDEFGHIJKLMNOPQRSTUVWXYZ0123456789'"
noncomputable def sSMALL : Str := Str.ofString "abcdefghijklmnopqrstuvwxyz_"
noncomputable def sGREAT : Str := Str.ofString "ABCDEFGHIJKLMNOPQRSTUVWXYZ"
noncomputable def sDIGITS : Str := Str.ofString "0123456789"
/-- is_line_comment -/
noncomputable def ilc (r : List Nat) : Bool := (txt r 2 == Str.ofString "--") && !(has sSYMBOLS (r.drop (2 + tkw (Str.ofString "-") (r.drop 2))))
noncomputable def lKEYS : List Str := [Str.ofString "case", Str.ofString "class", Str.ofString "data", Str.ofString "deriving", Str.ofString "do", Str.ofString "else", Str.ofString "if", Str.ofString "\x69mport", Str.ofString "in", Str.ofString "infix", Str.ofString "infixl", Str.ofString "infixr", Str.ofString "instance", Str.ofString "let", Str.ofString "module", Str.ofString "newtype", Str.ofString "of", Str.ofString "then", Str.ofString "type", Str.ofString "where", Str.ofString "_"]
noncomputable def lOPS : List Str := [Str.ofString "..", Str.ofString ":", Str.ofString "::", Str.ofString "=", Str.ofString "\\", Str.ofString "|", Str.ofString "<-", Str.ofString "->", Str.ofString "@", Str.ofString "~", Str.ofString "=>"]
/-- symbols_ahead -/
noncomputable def syms (r : List Nat) : Str := txt (r.drop 1) (tkw sSYMBOLS (r.drop 1))
/-- behind_point -/
noncomputable def bpt (r : List Nat) : Option Str :=
  if (sgn r 0 != Str.ofString ".") = true then none
  else if has sGREAT (r.drop 1) = true then some (Str.ofString "con")
  else if has sSYMBOLS (r.drop 1) = true then some (Str.ofString "sym")
  else if has sSMALL (r.drop 1) = true then (if lKEYS.any (· == txt (r.drop 1) (tkw sNAME (r.drop 1))) = true then none else some (Str.ofString "var"))
  else none
section
variable {r : List Nat}
theorem bpt_1 (h1 : (sgn r 0 != Str.ofString ".") = true) : bpt r = none := by unfold bpt; rw [if_pos h1]
theorem bpt_2 (h1 : (sgn r 0 != Str.ofString ".") = false) (h2 : has sGREAT (r.drop 1) = true) : bpt r = some (Str.ofString "con") := by unfold bpt; rw [if_neg (by rw [h1]; decide), if_pos h2]
theorem bpt_3 (h1 : (sgn r 0 != Str.ofString ".") = false) (h2 : has sGREAT (r.drop 1) = false) (h3 : has sSYMBOLS (r.drop 1) = true) : bpt r = some (Str.ofString "sym") := by unfold bpt; rw [if_neg (by rw [h1]; decide), if_neg (by rw [h2]; decide), if_pos h3]
theorem bpt_4 (h1 : (sgn r 0 != Str.ofString ".") = false) (h2 : has sGREAT (r.drop 1) = false) (h3 : has sSYMBOLS (r.drop 1) = false) (h4 : has sSMALL (r.drop 1) = false) : bpt r = none := by unfold bpt; rw [if_neg (by rw [h1]; decide), if_neg (by rw [h2]; decide), if_neg (by rw [h3]; decide), if_neg (by rw [h4]; decide)]
theorem bpt_5 (h1 : (sgn r 0 != Str.ofString ".") = false) (h2 : has sGREAT (r.drop 1) = false) (h3 : has sSYMBOLS (r.drop 1) = false) (h4 : has sSMALL (r.drop 1) = true) (h5 : lKEYS.any (· == txt (r.drop 1) (tkw sNAME (r.drop 1))) = true) : bpt r = none := by unfold bpt; rw [if_neg (by rw [h1]; decide), if_neg (by rw [h2]; decide), if_neg (by rw [h3]; decide), if_pos h4, if_pos h5]
theorem bpt_6 (h1 : (sgn r 0 != Str.ofString ".") = false) (h2 : has sGREAT (r.drop 1) = false) (h3 : has sSYMBOLS (r.drop 1) = false) (h4 : has sSMALL (r.drop 1) = true) (h5 : lKEYS.any (· == txt (r.drop 1) (tkw sNAME (r.drop 1))) = false) : bpt r = some (Str.ofString "var") := by unfold bpt; rw [if_neg (by rw [h1]; decide), if_neg (by rw [h2]; decide), if_neg (by rw [h3]; decide), if_pos h4, if_neg (by rw [h5]; decide)]
end
/-- symbol_kind -/
noncomputable def symk (y : Str) : Str := if lOPS.any (· == y) = true then Str.ofString "op" else if (Txt.item y 0 == Str.ofString ":") = true then Str.ofString "consym" else Str.ofString "varsym"
theorem symk_1 {y : Str} (h1 : lOPS.any (· == y) = true) : symk y = Str.ofString "op" := by unfold symk; rw [if_pos h1]
theorem symk_2 {y : Str} (h1 : lOPS.any (· == y) = false) (h2 : (Txt.item y 0 == Str.ofString ":") = true) : symk y = Str.ofString "consym" := by unfold symk; rw [if_neg (by rw [h1]; decide), if_pos h2]
theorem symk_3 {y : Str} (h1 : lOPS.any (· == y) = false) (h2 : (Txt.item y 0 == Str.ofString ":") = false) : symk y = Str.ofString "varsym" := by unfold symk; rw [if_neg (by rw [h1]; decide), if_neg (by rw [h2]; decide)]
noncomputable def sBLANK : Str := Str.ofString " \t\n\r\x0c\x0b"
/-- skip_nested: no answer in the fuel | raised | signs taken -/
noncomputable def nest : Nat → Int → List Nat → Option (Option Nat)
  | 0, _, _ => none
  | f + 1, dep, r =>
    if (sgn r 0 == Str.ofString "") = true then some none
    else if (txt r 2 == Str.ofString "{-") = true then (if dep + 1 > 0 then (nest f (dep + 1) (r.drop 2)).map (Option.map (· + 2)) else some (some 2))
    else if (txt r 2 == Str.ofString "-}") = true then (if dep + -1 > 0 then (nest f (dep + -1) (r.drop 2)).map (Option.map (· + 2)) else some (some 2))
    else if dep > 0 then (nest f dep (r.drop 1)).map (Option.map (· + 1)) else some (some 1)
theorem nest_end {f : Nat} {dep : Int} {r : List Nat} (h1 : (sgn r 0 == Str.ofString "") = true) : nest (f + 1) dep r = some none := by unfold nest; rw [if_pos h1]
theorem nest_open {f : Nat} {dep : Int} {r : List Nat} (h1 : (sgn r 0 == Str.ofString "") = false) (h2 : (txt r 2 == Str.ofString "{-") = true) : nest (f + 1) dep r = (if dep + 1 > 0 then (nest f (dep + 1) (r.drop 2)).map (Option.map (· + 2)) else some (some 2)) := by
  rw [nest, if_neg (by rw [h1]; decide), if_pos h2]
theorem nest_shut {f : Nat} {dep : Int} {r : List Nat} (h1 : (sgn r 0 == Str.ofString "") = false) (h2 : (txt r 2 == Str.ofString "{-") = false) (h3 : (txt r 2 == Str.ofString "-}") = true) : nest (f + 1) dep r = (if dep + -1 > 0 then (nest f (dep + -1) (r.drop 2)).map (Option.map (· + 2)) else some (some 2)) := by
  rw [nest, if_neg (by rw [h1]; decide), if_neg (by rw [h2]; decide), if_pos h3]
theorem nest_in {f : Nat} {dep : Int} {r : List Nat} (h1 : (sgn r 0 == Str.ofString "") = false) (h2 : (txt r 2 == Str.ofString "{-") = false) (h3 : (txt r 2 == Str.ofString "-}") = false) : nest (f + 1) dep r = (if dep > 0 then (nest f dep (r.drop 1)).map (Option.map (· + 1)) else some (some 1)) := by
  rw [nest, if_neg (by rw [h1]; decide), if_neg (by rw [h2]; decide), if_neg (by rw [h3]; decide)]
/-- what holds between the turns of skip_nested -/
noncomputable def NestI (l : List Nat) (res : Option Nat) (i : Nat) (dep : Int) (f : Nat) (go : Bool) : Prop :=
  (go = true ∧ ∃ ρ, nest f dep (l.drop i) = some ρ ∧ res = ρ.map (· + i)) ∨ (go = false ∧ res = some i)
theorem NestI.step {l : List Nat} {res : Option Nat} {i j f : Nat} {dep dep' : Int} (h : ∃ ρ, nest (f + 1) dep (l.drop i) = some ρ ∧ res = ρ.map (· + i))
    (e : nest (f + 1) dep (l.drop i) = (if dep' > 0 then (nest f dep' ((l.drop i).drop j)).map (Option.map (· + j)) else some (some j))) : NestI l res (i + j) dep' f (decide (dep' > 0)) := by
  obtain ⟨ρ, h1, h2⟩ := h
  rw [h1] at e
  by_cases hp : dep' > 0
  · rw [if_pos hp, List.drop_drop] at e
    refine .inl ⟨decide_eq_true hp, ?_⟩
    cases hn : nest f dep' (l.drop (i + j)) with
    | none => rw [hn] at e; cases e
    | some ρ' =>
      rw [hn] at e
      injection e with e
      refine ⟨ρ', rfl, ?_⟩
      rw [h2, e]
      cases ρ' <;> simp [Nat.add_comm, Nat.add_left_comm]
  · rw [if_neg hp] at e
    injection e with e
    refine .inr ⟨decide_eq_false hp, ?_⟩
    rw [h2, e]
    simp [Nat.add_comm]
theorem tkw_le (y : Str) (r : List Nat) : tkw y r ≤ r.length := (List.takeWhile_sublist _).length_le
theorem rg_M2_2 : True := by
  k_with_none
  k_with "all" => assumption
  k_with "enter" => (refine' code_def ?enk1 ?enk2 ?enk3 ?enk4 ?enk5 ?enkA ?enkF ?enkK ?enk6 ?enk7 ?enk8 ?enk9 ?enkB ?_ ?enc2 ?enc3 ?enc4 ?enc5; (case enkA => exact rfl); (case enkF => exact rfl); (case enkK => first | exact rfl | assumption); (case enk1 => k_asm); (case enk2 => k_asm); (case enk3 => k_asm); (case enk4 => k_asm); (case enk5 => k_asm); (case enk6 => k_is); (case enk7 => k_is); (case enk8 => ktr_room); (case enk9 => first | exact BindsTo.of_eq rfl | exact binds_K (by k_in) rfl (by k_is) rfl rfl rfl); (case enc5 => decide); (case enkB => exact locs rfl); (case enc2 => exact rfl); (case enc3 => exact rfl); (case enc4 => exact rfl); k_whole; intro g' L' h' FG' F' N' B' X' T'; (try dsimp only); (try k_fold))
  exact trivial
/-- the walk stops here -/
noncomputable def Stopped (P : Prop) : Prop := P
theorem Stopped.at_ {P : Prop} (h : Stopped P) : P := h
theorem Stopped.go {P : Prop} (h : P) : Stopped P := h
theorem in_topK {prog : Program} {w : World} {A : Around} {E : Value → Shared → Prop} {s : Shared} {h₀ : Heap} {L a : Addr} {m : Str → Option Value} {K : Frag} {l : List Value} {n : Nat} {dd : Option Addr} {sl : Array (Option Value)} {x : Str} {u : Tok} {ys : List Str} {Q : Value → Shared → Prop}
    (F : Fr h₀ L s.heap m) (X₀ : K.In h₀) (hl : K.lookup a = some ⟨.type "tuple", dd, .seq l.toArray n, sl⟩) (hi : StrsAre l ys) (h : Q (.bool (ys.any (· == x))) s) :
    wpAny (model prog w) A (compareOp .In (.str x u) (.ref a)) Q E s := in_tuple_strs (tupK (X₀.keeps F.keep) hl) hi h
theorem Fr_ext {h₀ h : Heap} {L : Addr} {m m' : Str → Option Value} (F : Fr h₀ L h m) (e : ∀ y, m y = m' y) : Fr h₀ L h m' := (funext e : m = m') ▸ F
theorem Fr_over {h₀ h : Heap} {L : Addr} {v : Str} {a b c : Option Value} {M : Str → Option Value} (F : Fr h₀ L h (fun y => if y = v then a else if y = v then b else M y)) (e : a = c) : Fr h₀ L h (fun y => if y = v then c else M y) := by
  have : (fun y => if y = v then a else if y = v then b else M y) = (fun y => if y = v then c else M y) := by
    funext y
    by_cases h : y = v <;> simp [h, e]
  rw [← this]; exact F
theorem rg_M2_3 : True := by
  k_with_none
  k_with "all" => assumption
  k_with "enter" => (refine' code_def ?enk1 ?enk2 ?enk3 ?enk4 ?enk5 ?enkA ?enkF ?enkK ?enk6 ?enk7 ?enk8 ?enk9 ?enkB ?_ ?enc2 ?enc3 ?enc4 ?enc5; (case enkA => exact rfl); (case enkF => exact rfl); (case enkK => first | exact rfl | assumption); (case enk1 => k_asm); (case enk2 => k_asm); (case enk3 => k_asm); (case enk4 => k_asm); (case enk5 => k_asm); (case enk6 => k_is); (case enk7 => k_is); (case enk8 => ktr_room); (case enk9 => first | exact BindsTo.of_eq rfl | exact binds_K (by k_in) rfl (by k_is) rfl rfl rfl); (case enc5 => decide); (case enkB => exact locs rfl); (case enc2 => exact rfl); (case enc3 => exact rfl); (case enc4 => exact rfl); k_whole; intro g' L' h' FG' F' N' B' X' T'; (try dsimp only); (try k_fold))
  k_with "my exec While BoolOp cons nil" => (k_here; refine Stopped.at_ ?_)
  k_with "my exec While Compare cons nil" => (k_here; refine Stopped.at_ ?_)
  k_with "my exec While Name cons nil" => (k_here; refine Stopped.at_ ?_)
  k_with "my exec For Name Call cons nil" => (k_here; k_extra "for")
  k_with "my exec For Name Name cons nil" => (k_here; k_extra "for")
  k_with "my exec For Tuple Tuple cons nil" => (k_here; k_extra "for")
  k_with "my exec While Call cons nil" => (k_here; refine Stopped.at_ ?_)
  k_with "my compareOp In str ref" => (k_here; (with_reducible show wpAny _ _ (compareOp CmpOp.In (Value.str _ _) (Value.ref _)) _ _ _); k_dflt (refine in_topK (by k_asm) (by k_asm) (by k_is) (by repeat constructor) ?_; k_whole))
  exact trivial
/-- the dict of a Signs object -/
noncomputable abbrev sgD (w : World) (k1 k2 k3 k4 : Tok) (T : Str) (tT : Tok) (at_ : Int) (ta : Tok) (line : Int) (tl : Tok) (col : Int) (tc : Tok) : Obj :=
  dictOf [⟨PyData.keyHash w.params (Str.ofString "text"), .str (Str.ofString "text") k1, .str T tT⟩, ⟨PyData.keyHash w.params (Str.ofString "at"), .str (Str.ofString "at") k2, .int at_ ta⟩,
    ⟨PyData.keyHash w.params (Str.ofString "line"), .str (Str.ofString "line") k3, .int line tl⟩, ⟨PyData.keyHash w.params (Str.ofString "column"), .str (Str.ofString "column") k4, .int col tc⟩] 4
/-- the end of a loop's turn -/
noncomputable def TurnEnd {σ : Type} (h₀ : Heap) (L : Addr) (s : Shared) (I : σ → Prop) (μ : σ → Nat) (ms : σ → Str → Option Value) (nw : σ → List (Addr × Obj)) (Q : Flow → Shared → Prop) (x : σ) (f : Flow) (s₃ : Shared) : Prop :=
  match f with
  | .next | .cont => ∃ h' tk x', s₃ = { s with heap := h', toks := tk } ∧ Fr h₀ L h' (ms x') ∧ News h₀ L h' (nw x') ∧ μ x' < μ x ∧ I x'
  | .brk => Q .next s₃
  | .ret v => Q (.ret v) s₃
theorem TurnEnd.next {σ : Type} {h₀ : Heap} {L : Addr} {s : Shared} {I : σ → Prop} {μ : σ → Nat} {ms : σ → Str → Option Value} {nw : σ → List (Addr × Obj)} {Q : Flow → Shared → Prop} {x : σ} {h' : Heap} {tk : Nat} (x' : σ)
    (F : Fr h₀ L h' (ms x')) (N : News h₀ L h' (nw x')) (hm : μ x' < μ x) (hI : I x') : TurnEnd h₀ L s I μ ms nw Q x .next { s with heap := h', toks := tk } := ⟨h', tk, x', rfl, F, N, hm, hI⟩
theorem while_loop {σ : Type} {prog : Program} {w : World} {A : Around} {E : Value → Shared → Prop} {Q : Flow → Shared → Prop} {s : Shared} {env : Env} {h₀ : Heap} {L : Addr} {test : Expr} {body : List Stmt} {pos : Pos}
    (I : σ → Prop) (μ : σ → Nat) (ms : σ → Str → Option Value) (nw : σ → List (Addr × Obj)) (x₀ : σ)
    (F : Fr h₀ L s.heap (ms x₀)) (N : News h₀ L s.heap (nw x₀)) (hI : I x₀)
    (turn : ∀ x h₁ tk₁, Fr h₀ L h₁ (ms x) → News h₀ L h₁ (nw x) → I x →
      wpAny (model prog w) A (isTrue test env (eval test env)) (fun b s₂ =>
        if b = true then wpAny (model prog w) A (execs body env) (TurnEnd h₀ L s I μ ms nw Q x) E s₂ else Q .next s₂) E { s with heap := h₁, toks := tk₁ })
    (hE : PassesOwn (model prog w) A env E) :
    wpAny (model prog w) A (exec (.While test body [] pos) env) Q E s := by
  refine While_inv2 (fun k m₁ nx => ∃ x, m₁ = ms x ∧ nx = nw x ∧ k = μ x ∧ I x) (n₀ := μ x₀) F N ⟨x₀, rfl, rfl, rfl, hI⟩ ?_ hE
  rintro k m₁ nx h₁ tk₁ F₁ N₁ ⟨x, rfl, rfl, rfl, hx⟩
  refine wpAny_mono (turn x h₁ tk₁ F₁ N₁ hx) (fun b s₂ p => ?_) fun _ _ x => x
  cases b with
  | false => simpa using p
  | true =>
    simp only [if_true] at p ⊢
    refine wpAny_mono p (fun f s₃ q => ?_) fun _ _ x => x
    cases f with
    | ret v => exact q
    | brk => exact q
    | next => obtain ⟨h', tk, x', rfl, F', N', hm, hx'⟩ := q; exact ⟨h', tk, _, _, _, rfl, F', N', hm, x', rfl, rfl, rfl, hx'⟩
    | cont => obtain ⟨h', tk, x', rfl, F', N', hm, hx'⟩ := q; exact ⟨h', tk, _, _, _, rfl, F', N', hm, x', rfl, rfl, rfl, hx'⟩
/-- a loop that turns one name -/
theorem while_var {σ : Type} {prog : Program} {w : World} {A : Around} {E : Value → Shared → Prop} {Q : Flow → Shared → Prop} {s : Shared} {env : Env} {h₀ : Heap} {L : Addr} {test : Expr} {body : List Stmt} {pos : Pos} {M : Str → Option Value}
    (v : Str) (val : σ → Value) (I : σ → Prop) (μ : σ → Nat) (nw : σ → List (Addr × Obj)) (x₀ : σ)
    (F : Fr h₀ L s.heap (fun y => if y = v then some (val x₀) else M y)) (N : News h₀ L s.heap (nw x₀)) (hI : I x₀)
    (turn : ∀ x h₁ tk₁, Fr h₀ L h₁ (fun y => if y = v then some (val x) else M y) → News h₀ L h₁ (nw x) → I x →
      wpAny (model prog w) A (isTrue test env (eval test env)) (fun b s₂ =>
        if b = true then wpAny (model prog w) A (execs body env) (TurnEnd h₀ L s I μ (fun x y => if y = v then some (val x) else M y) nw Q x) E s₂ else Q .next s₂) E { s with heap := h₁, toks := tk₁ })
    (hE : PassesOwn (model prog w) A env E) :
    wpAny (model prog w) A (exec (.While test body [] pos) env) Q E s := while_loop I μ (fun x y => if y = v then some (val x) else M y) nw x₀ F N hI turn hE
theorem while_var2 {σ : Type} {prog : Program} {w : World} {A : Around} {E : Value → Shared → Prop} {Q : Flow → Shared → Prop} {s : Shared} {env : Env} {h₀ : Heap} {L : Addr} {test : Expr} {body : List Stmt} {pos : Pos} {M : Str → Option Value}
    (v1 v2 : Str) (val1 : σ → Value) (val2 : σ → Value) (I : σ → Prop) (μ : σ → Nat) (nw : σ → List (Addr × Obj)) (x₀ : σ)
    (F : Fr h₀ L s.heap (fun y => if y = v1 then some (val1 x₀) else if y = v2 then some (val2 x₀) else M y)) (N : News h₀ L s.heap (nw x₀)) (hI : I x₀)
    (turn : ∀ x h₁ tk₁, Fr h₀ L h₁ (fun y => if y = v1 then some (val1 x) else if y = v2 then some (val2 x) else M y) → News h₀ L h₁ (nw x) → I x →
      wpAny (model prog w) A (isTrue test env (eval test env)) (fun b s₂ =>
        if b = true then wpAny (model prog w) A (execs body env) (TurnEnd h₀ L s I μ (fun x y => if y = v1 then some (val1 x) else if y = v2 then some (val2 x) else M y) nw Q x) E s₂ else Q .next s₂) E { s with heap := h₁, toks := tk₁ })
    (hE : PassesOwn (model prog w) A env E) :
    wpAny (model prog w) A (exec (.While test body [] pos) env) Q E s := while_loop I μ (fun x y => if y = v1 then some (val1 x) else if y = v2 then some (val2 x) else M y) nw x₀ F N hI turn hE
theorem while_var3 {σ : Type} {prog : Program} {w : World} {A : Around} {E : Value → Shared → Prop} {Q : Flow → Shared → Prop} {s : Shared} {env : Env} {h₀ : Heap} {L : Addr} {test : Expr} {body : List Stmt} {pos : Pos} {M : Str → Option Value}
    (v1 v2 v3 : Str) (val1 : σ → Value) (val2 : σ → Value) (val3 : σ → Value) (I : σ → Prop) (μ : σ → Nat) (nw : σ → List (Addr × Obj)) (x₀ : σ)
    (F : Fr h₀ L s.heap (fun y => if y = v1 then some (val1 x₀) else if y = v2 then some (val2 x₀) else if y = v3 then some (val3 x₀) else M y)) (N : News h₀ L s.heap (nw x₀)) (hI : I x₀)
    (turn : ∀ x h₁ tk₁, Fr h₀ L h₁ (fun y => if y = v1 then some (val1 x) else if y = v2 then some (val2 x) else if y = v3 then some (val3 x) else M y) → News h₀ L h₁ (nw x) → I x →
      wpAny (model prog w) A (isTrue test env (eval test env)) (fun b s₂ =>
        if b = true then wpAny (model prog w) A (execs body env) (TurnEnd h₀ L s I μ (fun x y => if y = v1 then some (val1 x) else if y = v2 then some (val2 x) else if y = v3 then some (val3 x) else M y) nw Q x) E s₂ else Q .next s₂) E { s with heap := h₁, toks := tk₁ })
    (hE : PassesOwn (model prog w) A env E) :
    wpAny (model prog w) A (exec (.While test body [] pos) env) Q E s := while_loop I μ (fun x y => if y = v1 then some (val1 x) else if y = v2 then some (val2 x) else if y = v3 then some (val3 x) else M y) nw x₀ F N hI turn hE
theorem while_var4 {σ : Type} {prog : Program} {w : World} {A : Around} {E : Value → Shared → Prop} {Q : Flow → Shared → Prop} {s : Shared} {env : Env} {h₀ : Heap} {L : Addr} {test : Expr} {body : List Stmt} {pos : Pos} {M : Str → Option Value}
    (v1 v2 v3 v4 : Str) (val1 : σ → Value) (val2 : σ → Value) (val3 : σ → Value) (val4 : σ → Value) (I : σ → Prop) (μ : σ → Nat) (nw : σ → List (Addr × Obj)) (x₀ : σ)
    (F : Fr h₀ L s.heap (fun y => if y = v1 then some (val1 x₀) else if y = v2 then some (val2 x₀) else if y = v3 then some (val3 x₀) else if y = v4 then some (val4 x₀) else M y)) (N : News h₀ L s.heap (nw x₀)) (hI : I x₀)
    (turn : ∀ x h₁ tk₁, Fr h₀ L h₁ (fun y => if y = v1 then some (val1 x) else if y = v2 then some (val2 x) else if y = v3 then some (val3 x) else if y = v4 then some (val4 x) else M y) → News h₀ L h₁ (nw x) → I x →
      wpAny (model prog w) A (isTrue test env (eval test env)) (fun b s₂ =>
        if b = true then wpAny (model prog w) A (execs body env) (TurnEnd h₀ L s I μ (fun x y => if y = v1 then some (val1 x) else if y = v2 then some (val2 x) else if y = v3 then some (val3 x) else if y = v4 then some (val4 x) else M y) nw Q x) E s₂ else Q .next s₂) E { s with heap := h₁, toks := tk₁ })
    (hE : PassesOwn (model prog w) A env E) :
    wpAny (model prog w) A (exec (.While test body [] pos) env) Q E s := while_loop I μ (fun x y => if y = v1 then some (val1 x) else if y = v2 then some (val2 x) else if y = v3 then some (val3 x) else if y = v4 then some (val4 x) else M y) nw x₀ F N hI turn hE
/-- a Signs object whose place is n -/
noncomputable abbrev sgS (w : World) (k1 k2 k3 k4 : Tok) (T : Str) (tT : Tok) (n : Nat) (ta tl tc : Tok) : Obj :=
  sgD w k1 k2 k3 k4 T tT (n : Int) ta (posAt (cpl T) n).1 tl (posAt (cpl T) n).2 tc
noncomputable abbrev tupO (vs : Array Value) : Obj := { cls := .type "tuple", data := .seq vs }
theorem N_eq {h₀ h : Heap} {L d : Addr} {o o' : Obj} {r : List (Addr × Obj)} (N : News h₀ L h ((d, o) :: r)) (e : o = o') : News h₀ L h ((d, o') :: r) := e ▸ N
theorem sgD_eq {w : World} {k1 k2 k3 k4 : Tok} {T : Str} {tT ta tl tc : Tok} {a a' l l' c c' : Int} (e1 : a = a') (e2 : l = l') (e3 : c = c') : sgD w k1 k2 k3 k4 T tT a ta l tl c tc = sgD w k1 k2 k3 k4 T tT a' ta l' tl c' tc := by subst e1 e2 e3; rfl
theorem q_eq {Q : Value → Shared → Prop} {v v' : Value} {s : Shared} (h : Q v s) (e : v' = v) : Q v' s := e ▸ h
inductive Pick (x : Addr × Obj) : List (Addr × Obj) → List (Addr × Obj) → Prop
  | head {r} : Pick x (x :: r) r
  | tail {p r r'} : Pick x r r' → Pick x (p :: r) (p :: r')
theorem Pick.sub {x : Addr × Obj} {l r : List (Addr × Obj)} (h : Pick x l r) : ∀ p ∈ x :: r, p ∈ l := by
  induction h with
  | head => exact fun _ h => h
  | tail _ ih =>
    intro p hp
    rcases List.mem_cons.mp hp with rfl | hp
    · exact .tail _ (ih _ (.head _))
    · rcases List.mem_cons.mp hp with rfl | hp
      · exact .head _
      · exact .tail _ (ih _ (.tail _ hp))
theorem news_pick2 {h₀ h : Heap} {L : Addr} {x y : Addr × Obj} {news n1 rest : List (Addr × Obj)} (N : News h₀ L h news) (p1 : Pick x news n1) (p2 : Pick y n1 rest) : News h₀ L h (y :: x :: rest) := fun q hq => by
  refine N q (p1.sub q ?_)
  rcases List.mem_cons.mp hq with rfl | hq
  · exact .tail _ (p2.sub _ (.head _))
  · rcases List.mem_cons.mp hq with rfl | hq
    · exact .head _
    · exact .tail _ (p2.sub _ (.tail _ hq))
theorem place_off {h₀ h : Heap} {L q d sg : Addr} {vs : Array Value} {w : World} {k1 k2 k3 k4 : Tok} {T : Str} {tT ta tl tc : Tok} {a l c : Int} {o : Obj} {rest : List (Addr × Obj)} (N : News h₀ L h ((q, tupO vs) :: (d, sgD w k1 k2 k3 k4 T tT a ta l tl c tc) :: (sg, o) :: rest))
    (hne : ∀ p ∈ rest, p.1 ≠ d) : ∀ p ∈ (q, tupO vs) :: rest, p.1 ≠ d := fun p hp => by
  rcases List.mem_cons.mp hp with rfl | hp
  · intro e
    have h1 := (N _ (.head _)).1
    have h2 := (N (d, _) (.tail _ (.head _))).1
    have h3 : some (tupO vs) = some _ := h1.symm.trans ((congrArg h.get? e).trans h2)
    injection h3 with h3
    have := congrArg Obj.cls h3
    simp at this
  · exact hne p hp
theorem news_turn {h₀ h : Heap} {L q d sg : Addr} {vs : Array Value} {o o' : Obj} {rest : List (Addr × Obj)} (N : News h₀ L h ((q, tupO vs) :: (d, o) :: (sg, o') :: rest)) : News h₀ L h ((d, o) :: (sg, o') :: (q, tupO vs) :: rest) :=
  news_pick2 N (.tail (.tail .head)) (.tail .head)
section
variable {w : World} {p : Program} {loose : List Str} {mean : ExcName → Option Value} {mg mb : Str → Option Value} {dp un : Nat} {gd : Option (List Code)} {cn : Str} {cs : Scope} {a : Addr} {ccd : Value} {cl : List (Str × Addr)} {outer : List Env} {A₀ : Around} {base h₀ : Heap} {L : Addr} {m : Str → Option Value} {news : List (Addr × Obj)} {s : Shared} {Q E : Value → Shared → Prop}
  (B : Below A₀ base outer h₀) (F : Fr h₀ L s.heap m) (X : (kk.heap_1 w.params).In h₀)
  (N : News h₀ L s.heap news) (Tp : Top p loose mean mg mb h₀) (hk : cs.kind = .function)
include B F X N Tp hk
set_option maxHeartbeats 4000000 in
theorem is_among_spec {x y : Str} {tx ty : Tok} (hd : dp + 1 < recursionLimit)
    (hret : ∀ h' tk', Fr h₀ L h' m → News h₀ L h' news → Q (.bool (among x y)) { s with heap := h', toks := tk' }) :
    wpAny (model PySem.Challenge.pw_np0234_01 w) (ktrTop dp un gd cn cs L a ccd cl outer) (call (.ref 158) [.str x tx, .str y ty]) Q E s := by
  refine wpAny_call ?_
  k_dflt k_extra "enter"
  k_steps
  all_goals (refine q_eq (hret _ _ (by k_asm) (by k_asm)) ?_; unfold among; simp_all)
variable {sg d : Addr} {k1 k2 k3 k4 : Tok} {T : Str} {tT : Tok} {n : Nat} {ta tl tc : Tok} 
  (hm1 : (sg, instObj 147 d) ∈ news) (hm2 : (d, sgS w k1 k2 k3 k4 T tT n ta tl tc) ∈ news) (hT : T.length ≤ 4096)
include hm1 hm2 hT
set_option maxHeartbeats 4000000 in
theorem sign_spec {k : Nat} {tk : Tok} (hd : dp + 1 < recursionLimit)
    (hret : ∀ h' tk' t', Fr h₀ L h' m → News h₀ L h' news → Q (.str (sgn ((cpl T).drop n) k) t') { s with heap := h', toks := tk' }) :
    wpAny (model PySem.Challenge.pw_np0234_01 w) (ktrTop dp un gd cn cs L a ccd cl outer) (call (.ref 116) [.ref sg, .int (k : Int) tk]) Q E s := by
  refine wpAny_call ?_
  k_dflt k_extra "enter"
  k_steps
  · refine q_eq (hret _ _ _ (by k_asm) (by k_asm)) (congrArg (fun x => Value.str x _) (txt_item (by omega)))
  · refine q_eq (hret _ _ _ (by k_asm) (by k_asm)) (congrArg (fun x => Value.str x _) ?_)
    rw [sgn_end (by omega)]
    decide +kernel
set_option maxHeartbeats 4000000 in
theorem sign0_spec (hd : dp + 1 < recursionLimit)
    (hret : ∀ h' tk' t', Fr h₀ L h' m → News h₀ L h' news → Q (.str (sgn ((cpl T).drop n) 0) t') { s with heap := h', toks := tk' }) :
    wpAny (model PySem.Challenge.pw_np0234_01 w) (ktrTop dp un gd cn cs L a ccd cl outer) (call (.ref 116) [.ref sg]) Q E s := by
  refine wpAny_call ?_
  k_dflt k_extra "enter"
  k_steps
  · refine q_eq (hret _ _ _ (by k_asm) (by k_asm)) (congrArg (fun x => Value.str x _) (txt_item (k := 0) (by omega)))
  · refine q_eq (hret _ _ _ (by k_asm) (by k_asm)) (congrArg (fun x => Value.str x _) ?_)
    rw [sgn_end (by omega)]
    decide +kernel
end
theorem rg_M3_4 : True := by
  k_with_none
  k_with "all" => assumption
  k_with "enter" => (refine' code_def ?enk1 ?enk2 ?enk3 ?enk4 ?enk5 ?enkA ?enkF ?enkK ?enk6 ?enk7 ?enk8 ?enk9 ?enkB ?_ ?enc2 ?enc3 ?enc4 ?enc5; (case enkA => exact rfl); (case enkF => exact rfl); (case enkK => first | exact rfl | assumption); (case enk1 => k_asm); (case enk2 => k_asm); (case enk3 => k_asm); (case enk4 => k_asm); (case enk5 => k_asm); (case enk6 => k_is); (case enk7 => k_is); (case enk8 => ktr_room); (case enk9 => first | exact BindsTo.of_eq rfl | exact binds_K (by k_in) rfl (by k_is) rfl rfl rfl); (case enc5 => decide); (case enkB => exact locs rfl); (case enc2 => exact rfl); (case enc3 => exact rfl); (case enc4 => exact rfl); k_whole; intro g' L' h' FG' F' N' B' X' T'; (try dsimp only); (try k_fold))
  exact trivial
theorem rg_M3_5 : True := by
  k_with_none
  k_with "all" => assumption
  k_with "enter" => (refine' code_def ?enk1 ?enk2 ?enk3 ?enk4 ?enk5 ?enkA ?enkF ?enkK ?enk6 ?enk7 ?enk8 ?enk9 ?enkB ?_ ?enc2 ?enc3 ?enc4 ?enc5; (case enkA => exact rfl); (case enkF => exact rfl); (case enkK => first | exact rfl | assumption); (case enk1 => k_asm); (case enk2 => k_asm); (case enk3 => k_asm); (case enk4 => k_asm); (case enk5 => k_asm); (case enk6 => k_is); (case enk7 => k_is); (case enk8 => ktr_room); (case enk9 => first | exact BindsTo.of_eq rfl | exact binds_K (by k_in) rfl (by k_is) rfl rfl rfl); (case enc5 => decide); (case enkB => exact locs rfl); (case enc2 => exact rfl); (case enc3 => exact rfl); (case enc4 => exact rfl); k_whole; intro g' L' h' FG' F' N' B' X' T'; (try dsimp only); (try k_fold))
  k_with "my exec While BoolOp cons nil" => (k_here; refine Stopped.at_ ?_)
  k_with "my exec While Compare cons nil" => (k_here; refine Stopped.at_ ?_)
  k_with "my exec While Name cons nil" => (k_here; refine Stopped.at_ ?_)
  k_with "my exec For Name Call cons nil" => (k_here; k_extra "for")
  k_with "my exec For Name Name cons nil" => (k_here; k_extra "for")
  k_with "my exec For Tuple Tuple cons nil" => (k_here; k_extra "for")
  k_with "my exec While Call cons nil" => (k_here; refine Stopped.at_ ?_)
  k_with "my compareOp In str ref" => (k_here; (with_reducible show wpAny _ _ (compareOp CmpOp.In (Value.str _ _) (Value.ref _)) _ _ _); k_dflt (refine in_topK (by k_asm) (by k_asm) (by k_is) (by repeat constructor) ?_; k_whole))
  k_with "my call ref" => (k_here; (with_reducible show wpAny _ _ (call (Value.ref 158) _ _) _ _ _); k_dflt (refine is_among_spec (by k_asm) (by k_asm) (by k_asm) (by k_asm) (by k_asm) (by first | exact rfl | assumption)  (by ktr_room) ?_; k_whole; intro h' tk' F' N'; (try dsimp only); (try k_sweep); (try k_fold)))
  k_with "my call ref" => (k_here; (with_reducible show wpAny _ _ (call (Value.ref 116) _ _) _ _ _); k_dflt (refine sign_spec (by k_asm) (by k_asm) (by k_asm) (by k_asm) (by k_asm) (by first | exact rfl | assumption) (by k_mem) (by k_mem) (by assumption) (by ktr_room) ?_; k_whole; intro h' tk' t' F' N'; (try dsimp only); (try k_sweep); (try k_fold)))
  k_with "my call ref" => (k_here; (with_reducible show wpAny _ _ (call (Value.ref 116) _ _) _ _ _); k_dflt (refine sign0_spec (by k_asm) (by k_asm) (by k_asm) (by k_asm) (by k_asm) (by first | exact rfl | assumption) (by k_mem) (by k_mem) (by assumption) (by ktr_room) ?_; k_whole; intro h' tk' t' F' N'; (try dsimp only); (try k_sweep); (try k_fold)))
  exact trivial
section
variable {w : World} {p : Program} {loose : List Str} {mean : ExcName → Option Value} {mg mb : Str → Option Value} {dp un : Nat} {gd : Option (List Code)} {cn : Str} {cs : Scope} {a : Addr} {ccd : Value} {cl : List (Str × Addr)} {outer : List Env} {A₀ : Around} {base h₀ : Heap} {L : Addr} {m : Str → Option Value} {news : List (Addr × Obj)} {s : Shared} {Q E : Value → Shared → Prop}
  (B : Below A₀ base outer h₀) (F : Fr h₀ L s.heap m) (X : (kk.heap_1 w.params).In h₀)
  (N : News h₀ L s.heap news) (Tp : Top p loose mean mg mb h₀) (hk : cs.kind = .function)
include B F X N Tp hk
set_option maxHeartbeats 4000000 in
theorem name_letters_spec (hd : dp + 1 < recursionLimit)
    (hret : ∀ h' tk' t', Fr h₀ L h' m → News h₀ L h' news → Q (.str (Str.ofString "abcdefghijklmnopqrstuvwxyz_ABCDEFGHIJKLMNOPQRSTUVWXYZ0123456789'") t') { s with heap := h', toks := tk' }) :
    wpAny (model PySem.Challenge.pw_np0234_01 w) (ktrTop dp un gd cn cs L a ccd cl outer) (call (.ref 165) []) Q E s := by
  refine wpAny_call ?_
  k_dflt k_extra "enter"
  k_steps
  refine q_eq (hret _ _ _ (by k_asm) (by k_asm)) (congrArg (fun x => Value.str x _) ?_)
  decide +kernel
variable {sg d : Addr} {k1 k2 k3 k4 : Tok} {T : Str} {tT : Tok} {n : Nat} {ta tl tc : Tok} 
  (hm1 : (sg, instObj 147 d) ∈ news) (hm2 : (d, sgS w k1 k2 k3 k4 T tT n ta tl tc) ∈ news) (hT : T.length ≤ 4096)
include hm1 hm2 hT
set_option maxHeartbeats 4000000 in
theorem starts_spec {y : Str} {ty : Tok} (hd : dp + 1 < recursionLimit) (hy : y.length ≤ 4096)
    (hret : ∀ h' tk', Fr h₀ L h' m → News h₀ L h' news → Q (.bool (txt ((cpl T).drop n) y.length == y)) { s with heap := h', toks := tk' }) :
    wpAny (model PySem.Challenge.pw_np0234_01 w) (ktrTop dp un gd cn cs L a ccd cl outer) (call (.ref 123) [.ref sg, .str y ty]) Q E s := by
  refine wpAny_call ?_
  k_dflt k_extra "enter"
  k_steps
  refine q_eq (hret _ _ (by k_asm) (by k_asm)) (congrArg Value.bool ?_)
  have e : ((n : Int) + (y.length : Int)) = ((n + y.length : Nat) : Int) := by omega
  rw [e, txt_sl (by omega), Nat.add_sub_cancel_left]
set_option maxHeartbeats 4000000 in
theorem place_spec (hd : dp + 1 < recursionLimit)
    (hret : ∀ h' tk' q, Fr h₀ L h' m → News h₀ L h' ((q, tupO #[.int (posAt (cpl T) n).1 tl, .int (posAt (cpl T) n).2 tc]) :: news) → (∀ p ∈ news, p.1 < q) → Q (.ref q) { s with heap := h', toks := tk' }) :
    wpAny (model PySem.Challenge.pw_np0234_01 w) (ktrTop dp un gd cn cs L a ccd cl outer) (call (.ref 144) [.ref sg]) Q E s := by
  refine wpAny_call ?_
  k_dflt k_extra "enter"
  k_steps
  exact hret _ _ _ (by k_asm) (by k_asm) (by assumption)
end
section
variable {w : World} {p : Program} {loose : List Str} {mean : ExcName → Option Value} {mg mb : Str → Option Value} {dp un : Nat} {gd : Option (List Code)} {cn : Str} {cs : Scope} {a : Addr} {ccd : Value} {cl : List (Str × Addr)} {outer : List Env} {A₀ : Around} {base h₀ : Heap} {L : Addr} {m : Str → Option Value} {news : List (Addr × Obj)} {s : Shared} {Q E : Value → Shared → Prop}
  (B : Below A₀ base outer h₀) (F : Fr h₀ L s.heap m) (X : (kk.heap_1 w.params).In h₀)
variable {sg d : Addr} {k1 k2 k3 k4 : Tok} {T : Str} {tT : Tok} {n : Nat} {ta tl tc : Tok} {rest : List (Addr × Obj)}
  (N : News h₀ L s.heap ((d, sgS w k1 k2 k3 k4 T tT n ta tl tc) :: (sg, instObj 147 d) :: rest)) (Tp : Top p loose mean mg mb h₀) (hk : cs.kind = .function)
  (hsd : @Ne Nat sg d) (hne : ∀ p ∈ rest, p.1 ≠ d) (hT : T.length ≤ 4096)
include B F X N Tp hk hsd hne hT
set_option maxHeartbeats 4000000 in
theorem step_spec (hd : dp + 2 < recursionLimit)
    (hret : ∀ h' tk' t' ta' tl' tc', Fr h₀ L h' m → News h₀ L h' ((d, sgS w k1 k2 k3 k4 T tT (n + 1) ta' tl' tc') :: (sg, instObj 147 d) :: rest) → Q (.str (sgn ((cpl T).drop n) 0) t') { s with heap := h', toks := tk' }) :
    wpAny (model PySem.Challenge.pw_np0234_01 w) (ktrTop dp un gd cn cs L a ccd cl outer) (call (.ref 130) [.ref sg]) Q E s := by
  refine wpAny_call ?_
  k_dflt k_extra "enter"
  k_steps
  · rename _ = true => hc
    exact hret _ _ _ _ _ _ (by k_asm) (N_eq (by k_asm) (sgD_eq (by omega) (by rw [posAt_nl hc]) (by rw [posAt_nl hc])))
  · rename _ = true => hc
    exact hret _ _ _ _ _ _ (by k_asm) (N_eq (by k_asm) (sgD_eq (by omega) (by rw [posAt_tab hc]) (by rw [posAt_tab hc])))
  · rename (_ == Str.ofString "\n") = false => h1
    rename (_ == Str.ofString "\t") = false => h2
    have e := posAt_other (by rw [h1]; decide) (by rw [h2]; decide)
    exact hret _ _ _ _ _ _ (by k_asm) (N_eq (by k_asm) (sgD_eq (by omega) (by rw [e]) (by rw [e])))
end
theorem rg_M4_6 : True := by
  k_with_none
  k_with "all" => assumption
  k_with "enter" => (refine' code_def ?enk1 ?enk2 ?enk3 ?enk4 ?enk5 ?enkA ?enkF ?enkK ?enk6 ?enk7 ?enk8 ?enk9 ?enkB ?_ ?enc2 ?enc3 ?enc4 ?enc5; (case enkA => exact rfl); (case enkF => exact rfl); (case enkK => first | exact rfl | assumption); (case enk1 => k_asm); (case enk2 => k_asm); (case enk3 => k_asm); (case enk4 => k_asm); (case enk5 => k_asm); (case enk6 => k_is); (case enk7 => k_is); (case enk8 => ktr_room); (case enk9 => first | exact BindsTo.of_eq rfl | exact binds_K (by k_in) rfl (by k_is) rfl rfl rfl); (case enc5 => decide); (case enkB => exact locs rfl); (case enc2 => exact rfl); (case enc3 => exact rfl); (case enc4 => exact rfl); k_whole; intro g' L' h' FG' F' N' B' X' T'; (try dsimp only); (try k_fold))
  exact trivial
theorem rg_M4_7 : True := by
  k_with_none
  k_with "all" => assumption
  k_with "enter" => (refine' code_def ?enk1 ?enk2 ?enk3 ?enk4 ?enk5 ?enkA ?enkF ?enkK ?enk6 ?enk7 ?enk8 ?enk9 ?enkB ?_ ?enc2 ?enc3 ?enc4 ?enc5; (case enkA => exact rfl); (case enkF => exact rfl); (case enkK => first | exact rfl | assumption); (case enk1 => k_asm); (case enk2 => k_asm); (case enk3 => k_asm); (case enk4 => k_asm); (case enk5 => k_asm); (case enk6 => k_is); (case enk7 => k_is); (case enk8 => ktr_room); (case enk9 => first | exact BindsTo.of_eq rfl | exact binds_K (by k_in) rfl (by k_is) rfl rfl rfl); (case enc5 => decide); (case enkB => exact locs rfl); (case enc2 => exact rfl); (case enc3 => exact rfl); (case enc4 => exact rfl); k_whole; intro g' L' h' FG' F' N' B' X' T'; (try dsimp only); (try k_fold))
  k_with "my exec While BoolOp cons nil" => (k_here; refine Stopped.at_ ?_)
  k_with "my exec While Compare cons nil" => (k_here; refine Stopped.at_ ?_)
  k_with "my exec While Name cons nil" => (k_here; refine Stopped.at_ ?_)
  k_with "my exec For Name Call cons nil" => (k_here; k_extra "for")
  k_with "my exec For Name Name cons nil" => (k_here; k_extra "for")
  k_with "my exec For Tuple Tuple cons nil" => (k_here; k_extra "for")
  k_with "my exec While Call cons nil" => (k_here; refine Stopped.at_ ?_)
  k_with "my compareOp In str ref" => (k_here; (with_reducible show wpAny _ _ (compareOp CmpOp.In (Value.str _ _) (Value.ref _)) _ _ _); k_dflt (refine in_topK (by k_asm) (by k_asm) (by k_is) (by repeat constructor) ?_; k_whole))
  k_with "my call ref" => (k_here; (with_reducible show wpAny _ _ (call (Value.ref 158) _ _) _ _ _); k_dflt (refine is_among_spec (by k_asm) (by k_asm) (by k_asm) (by k_asm) (by k_asm) (by first | exact rfl | assumption)  (by ktr_room) ?_; k_whole; intro h' tk' F' N'; (try dsimp only); (try k_sweep); (try k_fold)))
  k_with "my call ref" => (k_here; (with_reducible show wpAny _ _ (call (Value.ref 116) _ _) _ _ _); k_dflt (refine sign_spec (by k_asm) (by k_asm) (by k_asm) (by k_asm) (by k_asm) (by first | exact rfl | assumption) (by k_mem) (by k_mem) (by assumption) (by ktr_room) ?_; k_whole; intro h' tk' t' F' N'; (try dsimp only); (try k_sweep); (try k_fold)))
  k_with "my call ref" => (k_here; (with_reducible show wpAny _ _ (call (Value.ref 116) _ _) _ _ _); k_dflt (refine sign0_spec (by k_asm) (by k_asm) (by k_asm) (by k_asm) (by k_asm) (by first | exact rfl | assumption) (by k_mem) (by k_mem) (by assumption) (by ktr_room) ?_; k_whole; intro h' tk' t' F' N'; (try dsimp only); (try k_sweep); (try k_fold)))
  k_with "my call ref" => (k_here; (with_reducible show wpAny _ _ (call (Value.ref 165) _ _) _ _ _); k_dflt (refine name_letters_spec (by k_asm) (by k_asm) (by k_asm) (by k_asm) (by k_asm) (by first | exact rfl | assumption)  (by ktr_room) ?_; k_whole; intro h' tk' t' F' N'; (try dsimp only); (try k_sweep); (try k_fold)))
  k_with "my call ref" => (k_here; (with_reducible show wpAny _ _ (call (Value.ref 123) _ _) _ _ _); k_dflt (refine starts_spec (by k_asm) (by k_asm) (by k_asm) (by k_asm) (by k_asm) (by first | exact rfl | assumption) (by k_mem) (by k_mem) (by assumption) (by ktr_room) (by first | assumption | omega | decide) ?_; k_whole; intro h' tk' F' N'; (try dsimp only); (try k_sweep); (try k_fold)))
  k_with "my call ref" => (k_here; (with_reducible show wpAny _ _ (call (Value.ref 144) _ _) _ _ _); k_dflt (refine place_spec (by k_asm) (by k_asm) (by k_asm) (by k_asm) (by k_asm) (by first | exact rfl | assumption) (by k_mem) (by k_mem) (by assumption) (by ktr_room) ?_; k_whole; intro h' tk' q F' N' l1; (try dsimp only); (try k_sweep); (try k_fold)))
  k_with "my call ref" => (k_here; (with_reducible show wpAny _ _ (call (Value.ref 130) _ _) _ _ _); k_dflt (refine step_spec (by k_asm) (by k_asm) (by k_asm) (news_pick2 (by k_asm) (by (repeat (first | exact Pick.head | apply Pick.tail))) (by (repeat (first | exact Pick.head | apply Pick.tail)))) (by k_asm) (by first | exact rfl | assumption) (by first | assumption | k_ne) (by k_all) (by assumption) (by ktr_room) ?_; k_whole; intro h' tk' t' ta' tl' tc' F' N'; (try dsimp only); (try k_sweep); (try k_fold)))
  exact trivial
section
variable {w : World} {p : Program} {loose : List Str} {mean : ExcName → Option Value} {mg mb : Str → Option Value} {dp un : Nat} {gd : Option (List Code)} {cn : Str} {cs : Scope} {a : Addr} {ccd : Value} {cl : List (Str × Addr)} {outer : List Env} {A₀ : Around} {base h₀ : Heap} {L : Addr} {m : Str → Option Value} {news : List (Addr × Obj)} {s : Shared} {Q E : Value → Shared → Prop}
  (B : Below A₀ base outer h₀) (F : Fr h₀ L s.heap m) (X : (kk.heap_1 w.params).In h₀)
variable {sg d : Addr} {k1 k2 k3 k4 : Tok} {T : Str} {tT : Tok} {n : Nat} {ta tl tc : Tok} {rest : List (Addr × Obj)}
  (N : News h₀ L s.heap ((d, sgS w k1 k2 k3 k4 T tT n ta tl tc) :: (sg, instObj 147 d) :: rest)) (Tp : Top p loose mean mg mb h₀) (hk : cs.kind = .function)
  (hsd : @Ne Nat sg d) (hne : ∀ p ∈ rest, p.1 ≠ d) (hT : T.length ≤ 4096)
include B F X N Tp hk hsd hne hT
set_option maxHeartbeats 4000000 in
theorem take_spec {y : Str} {ty : Tok} (hd : dp + 3 < recursionLimit)
    (hret : ∀ h' tk' t' ta' tl' tc', Fr h₀ L h' m → News h₀ L h' ((d, sgS w k1 k2 k3 k4 T tT (n + tkw y ((cpl T).drop n)) ta' tl' tc') :: (sg, instObj 147 d) :: rest) → Q (.str (txt ((cpl T).drop n) (tkw y ((cpl T).drop n))) t') { s with heap := h', toks := tk' }) :
    wpAny (model PySem.Challenge.pw_np0234_01 w) (ktrTop dp un gd cn cs L a ccd cl outer) (call (.ref 137) [.ref sg, .str y ty]) Q E s := by
  refine wpAny_call ?_
  k_dflt k_extra "enter"
  k_steps
  refine Stopped.go ?_
  refine while_loop (σ := Nat × Tok × Tok × Tok) (fun x => x.1 ≤ tkw y ((cpl T).drop n)) (fun x => tkw y ((cpl T).drop n) - x.1) (fun _ => _) (fun x => (d, sgS w k1 k2 k3 k4 T tT (n + x.1) x.2.1 x.2.2.1 x.2.2.2) :: (sg, instObj 147 d) :: rest) (0, ta, tl, tc) (by k_asm) (by k_asm) (Nat.zero_le _) ?_ (by passes_own)
  rintro ⟨i, ta, tl, tc⟩ h₁ tk₁ F₁ N₁ hi
  dsimp only at N₁ hi
  have fin : i = tkw y ((cpl T).drop n) → Txt.slice T (some (n : Int)) (some ((n + i : Nat) : Int)) = txt ((cpl T).drop n) (tkw y ((cpl T).drop n)) := fun e => by
    rw [txt_sl (by omega), Nat.add_sub_cancel_left, ← e]
  k_steps
  · have e := tkw_stop hi (has_yn (by assumption) (by assumption))
    refine q_eq (hret _ _ _ _ _ _ (by k_asm) (by rw [← e]; k_asm)) (congrArg (fun x => Value.str x _) (fin e))
  · have e := tkw_go hi (has_yy (by assumption) (by assumption))
    exact TurnEnd.next (i + 1, _, _, _) (by k_asm) (by k_asm) (by dsimp only; omega) e
  · have e := tkw_stop hi (has_n (by assumption))
    refine q_eq (hret _ _ _ _ _ _ (by k_asm) (by rw [← e]; k_asm)) (congrArg (fun x => Value.str x _) (fin e))
end
theorem rg_M5_8 : True := by
  k_with_none
  k_with "all" => assumption
  k_with "enter" => (refine' code_def ?enk1 ?enk2 ?enk3 ?enk4 ?enk5 ?enkA ?enkF ?enkK ?enk6 ?enk7 ?enk8 ?enk9 ?enkB ?_ ?enc2 ?enc3 ?enc4 ?enc5; (case enkA => exact rfl); (case enkF => exact rfl); (case enkK => first | exact rfl | assumption); (case enk1 => k_asm); (case enk2 => k_asm); (case enk3 => k_asm); (case enk4 => k_asm); (case enk5 => k_asm); (case enk6 => k_is); (case enk7 => k_is); (case enk8 => ktr_room); (case enk9 => first | exact BindsTo.of_eq rfl | exact binds_K (by k_in) rfl (by k_is) rfl rfl rfl); (case enc5 => decide); (case enkB => exact locs rfl); (case enc2 => exact rfl); (case enc3 => exact rfl); (case enc4 => exact rfl); k_whole; intro g' L' h' FG' F' N' B' X' T'; (try dsimp only); (try k_fold))
  exact trivial
theorem rg_M5_9 : True := by
  k_with_none
  k_with "all" => assumption
  k_with "enter" => (refine' code_def ?enk1 ?enk2 ?enk3 ?enk4 ?enk5 ?enkA ?enkF ?enkK ?enk6 ?enk7 ?enk8 ?enk9 ?enkB ?_ ?enc2 ?enc3 ?enc4 ?enc5; (case enkA => exact rfl); (case enkF => exact rfl); (case enkK => first | exact rfl | assumption); (case enk1 => k_asm); (case enk2 => k_asm); (case enk3 => k_asm); (case enk4 => k_asm); (case enk5 => k_asm); (case enk6 => k_is); (case enk7 => k_is); (case enk8 => ktr_room); (case enk9 => first | exact BindsTo.of_eq rfl | exact binds_K (by k_in) rfl (by k_is) rfl rfl rfl); (case enc5 => decide); (case enkB => exact locs rfl); (case enc2 => exact rfl); (case enc3 => exact rfl); (case enc4 => exact rfl); k_whole; intro g' L' h' FG' F' N' B' X' T'; (try dsimp only); (try k_fold))
  k_with "my exec While BoolOp cons nil" => (k_here; refine Stopped.at_ ?_)
  k_with "my exec While Compare cons nil" => (k_here; refine Stopped.at_ ?_)
  k_with "my exec While Name cons nil" => (k_here; refine Stopped.at_ ?_)
  k_with "my exec For Name Call cons nil" => (k_here; k_extra "for")
  k_with "my exec For Name Name cons nil" => (k_here; k_extra "for")
  k_with "my exec For Tuple Tuple cons nil" => (k_here; k_extra "for")
  k_with "my exec While Call cons nil" => (k_here; refine Stopped.at_ ?_)
  k_with "my compareOp In str ref" => (k_here; (with_reducible show wpAny _ _ (compareOp CmpOp.In (Value.str _ _) (Value.ref _)) _ _ _); k_dflt (refine in_topK (by k_asm) (by k_asm) (by k_is) (by repeat constructor) ?_; k_whole))
  k_with "my call ref" => (k_here; (with_reducible show wpAny _ _ (call (Value.ref 158) _ _) _ _ _); k_dflt (refine is_among_spec (by k_asm) (by k_asm) (by k_asm) (by k_asm) (by k_asm) (by first | exact rfl | assumption)  (by ktr_room) ?_; k_whole; intro h' tk' F' N'; (try dsimp only); (try k_sweep); (try k_fold)))
  k_with "my call ref" => (k_here; (with_reducible show wpAny _ _ (call (Value.ref 116) _ _) _ _ _); k_dflt (refine sign_spec (by k_asm) (by k_asm) (by k_asm) (by k_asm) (by k_asm) (by first | exact rfl | assumption) (by k_mem) (by k_mem) (by assumption) (by ktr_room) ?_; k_whole; intro h' tk' t' F' N'; (try dsimp only); (try k_sweep); (try k_fold)))
  k_with "my call ref" => (k_here; (with_reducible show wpAny _ _ (call (Value.ref 116) _ _) _ _ _); k_dflt (refine sign0_spec (by k_asm) (by k_asm) (by k_asm) (by k_asm) (by k_asm) (by first | exact rfl | assumption) (by k_mem) (by k_mem) (by assumption) (by ktr_room) ?_; k_whole; intro h' tk' t' F' N'; (try dsimp only); (try k_sweep); (try k_fold)))
  k_with "my call ref" => (k_here; (with_reducible show wpAny _ _ (call (Value.ref 165) _ _) _ _ _); k_dflt (refine name_letters_spec (by k_asm) (by k_asm) (by k_asm) (by k_asm) (by k_asm) (by first | exact rfl | assumption)  (by ktr_room) ?_; k_whole; intro h' tk' t' F' N'; (try dsimp only); (try k_sweep); (try k_fold)))
  k_with "my call ref" => (k_here; (with_reducible show wpAny _ _ (call (Value.ref 123) _ _) _ _ _); k_dflt (refine starts_spec (by k_asm) (by k_asm) (by k_asm) (by k_asm) (by k_asm) (by first | exact rfl | assumption) (by k_mem) (by k_mem) (by assumption) (by ktr_room) (by first | assumption | omega | decide) ?_; k_whole; intro h' tk' F' N'; (try dsimp only); (try k_sweep); (try k_fold)))
  k_with "my call ref" => (k_here; (with_reducible show wpAny _ _ (call (Value.ref 144) _ _) _ _ _); k_dflt (refine place_spec (by k_asm) (by k_asm) (by k_asm) (by k_asm) (by k_asm) (by first | exact rfl | assumption) (by k_mem) (by k_mem) (by assumption) (by ktr_room) ?_; k_whole; intro h' tk' q F' N' l1; (try dsimp only); (try k_sweep); (try k_fold)))
  k_with "my call ref" => (k_here; (with_reducible show wpAny _ _ (call (Value.ref 130) _ _) _ _ _); k_dflt (refine step_spec (by k_asm) (by k_asm) (by k_asm) (news_pick2 (by k_asm) (by (repeat (first | exact Pick.head | apply Pick.tail))) (by (repeat (first | exact Pick.head | apply Pick.tail)))) (by k_asm) (by first | exact rfl | assumption) (by first | assumption | k_ne) (by k_all) (by assumption) (by ktr_room) ?_; k_whole; intro h' tk' t' ta' tl' tc' F' N'; (try dsimp only); (try k_sweep); (try k_fold)))
  k_with "my call ref" => (k_here; (with_reducible show wpAny _ _ (call (Value.ref 137) _ _) _ _ _); k_dflt (refine take_spec (by k_asm) (by k_asm) (by k_asm) (news_pick2 (by k_asm) (by (repeat (first | exact Pick.head | apply Pick.tail))) (by (repeat (first | exact Pick.head | apply Pick.tail)))) (by k_asm) (by first | exact rfl | assumption) (by first | assumption | k_ne) (by k_all) (by assumption) (by ktr_room) ?_; k_whole; intro h' tk' t' ta' tl' tc' F' N'; (try dsimp only); (try k_sweep); (try k_fold)))
  exact trivial
section
variable {w : World} {p : Program} {loose : List Str} {mean : ExcName → Option Value} {mg mb : Str → Option Value} {dp un : Nat} {gd : Option (List Code)} {cn : Str} {cs : Scope} {a : Addr} {ccd : Value} {cl : List (Str × Addr)} {outer : List Env} {A₀ : Around} {base h₀ : Heap} {L : Addr} {m : Str → Option Value} {news : List (Addr × Obj)} {s : Shared} {Q E : Value → Shared → Prop}
  (B : Below A₀ base outer h₀) (F : Fr h₀ L s.heap m) (X : (kk.heap_1 w.params).In h₀)
  (N : News h₀ L s.heap news) (Tp : Top p loose mean mg mb h₀) (hk : cs.kind = .function)
variable {sg d : Addr} {k1 k2 k3 k4 : Tok} {T : Str} {tT : Tok} {n : Nat} {ta tl tc : Tok}
  (hm1 : (sg, instObj 147 d) ∈ news) (hm2 : (d, sgS w k1 k2 k3 k4 T tT n ta tl tc) ∈ news) (hT : T.length ≤ 4096)
include B F X N Tp hk hm1 hm2 hT
set_option maxHeartbeats 4000000 in
theorem ilc_spec (hd : dp + 3 < recursionLimit)
    (hret : ∀ h' tk', Fr h₀ L h' m → News h₀ L h' news → Q (.bool (ilc ((cpl T).drop n))) { s with heap := h', toks := tk' }) :
    wpAny (model PySem.Challenge.pw_np0234_01 w) (ktrTop dp un gd cn cs L a ccd cl outer) (call (.ref 172) [.ref sg]) Q E s := by
  refine wpAny_call ?_
  k_dflt k_extra "enter"
  k_steps
  · rename _ = true => h2
    refine Stopped.go ?_
    refine while_var (σ := Nat × Tok) (Str.ofString "ahead") (fun x => .int ((2 + x.1 : Nat) : Int) x.2) (fun x => x.1 ≤ tkw (Str.ofString "-") (((cpl T).drop n).drop 2)) (fun x => tkw (Str.ofString "-") (((cpl T).drop n).drop 2) - x.1) (fun _ => news) (0, _) (by k_asm) (by k_asm) (Nat.zero_le _) ?_ (by passes_own)
    rintro ⟨i, ta⟩ h₁ tk₁ F₁ N₁ hi
    dsimp only at F₁ N₁ hi
    k_steps
    · rename _ = true => h3
      have e := tkw_go hi (eq_has (c := 45) (by decide +kernel) h3)
      exact TurnEnd.next (i + 1, _) (Fr_over (by k_asm) (by rfl)) (by k_asm) (by dsimp only; omega) e
    · rename _ = false => h3
      have e := tkw_stop hi (eq_has (c := 45) (by decide +kernel) h3)
      refine q_eq (hret _ _ (by k_asm) (by k_asm)) (congrArg Value.bool ?_)
      unfold ilc
      rw [among_sgn, ← e]
      show _ = ((txt _ (Str.ofString "--").length == _) && _)
      rw [h2]
      rfl
  · rename _ = false => h2
    refine q_eq (hret _ _ (by k_asm) (by k_asm)) (congrArg Value.bool ?_)
    unfold ilc
    show _ = ((txt _ (Str.ofString "--").length == _) && _)
    rw [h2]
    rfl
set_option maxHeartbeats 4000000 in
theorem syms_spec (hd : dp + 3 < recursionLimit)
    (hret : ∀ h' tk' t', Fr h₀ L h' m → News h₀ L h' news → Q (.str (syms ((cpl T).drop n)) t') { s with heap := h', toks := tk' }) :
    wpAny (model PySem.Challenge.pw_np0234_01 w) (ktrTop dp un gd cn cs L a ccd cl outer) (call (.ref 277) [.ref sg]) Q E s := by
  refine wpAny_call ?_
  k_dflt k_extra "enter"
  k_steps
  refine Stopped.go ?_
  refine while_var (σ := Nat × Tok) (Str.ofString "ahead") (fun x => .int ((1 + x.1 : Nat) : Int) x.2) (fun x => x.1 ≤ tkw sSYMBOLS (((cpl T).drop n).drop 1)) (fun x => tkw sSYMBOLS (((cpl T).drop n).drop 1) - x.1) (fun _ => news) (0, _) (by k_asm) (by k_asm) (Nat.zero_le _) ?_ (by passes_own)
  rintro ⟨i, ta⟩ h₁ tk₁ F₁ N₁ hi
  dsimp only at F₁ N₁ hi
  k_steps
  · rename _ = true => h3
    have e := tkw_go hi (among_has h3)
    exact TurnEnd.next (i + 1, _) (Fr_over (by k_asm) (by rfl)) (by k_asm) (by dsimp only; omega) e
  · rename _ = false => h3
    have e := tkw_stop hi (among_has h3)
    refine q_eq (hret _ _ _ (by k_asm) (by k_asm)) (congrArg (fun x => Value.str x _) ?_)
    have e1 : (n : Int) + 1 = ((n + 1 : Nat) : Int) := by omega
    have e2 : (n : Int) + ((1 + i : Nat) : Int) = ((n + 1 + i : Nat) : Int) := by omega
    rw [e1, e2, txt_sl (by omega)]
    unfold syms
    rw [← e, List.drop_drop, Nat.add_sub_cancel_left]
set_option maxHeartbeats 4000000 in
theorem bpt_spec (hd : dp + 3 < recursionLimit)
    (hnone : bpt ((cpl T).drop n) = none → ∀ h' tk', Fr h₀ L h' m → News h₀ L h' news → Q .none { s with heap := h', toks := tk' })
    (hsome : ∀ x, bpt ((cpl T).drop n) = some x → ∀ h' tk' t', Fr h₀ L h' m → News h₀ L h' news → Q (.str x t') { s with heap := h', toks := tk' }) :
    wpAny (model PySem.Challenge.pw_np0234_01 w) (ktrTop dp un gd cn cs L a ccd cl outer) (call (.ref 263) [.ref sg]) Q E s := by
  refine wpAny_call ?_
  k_dflt k_extra "enter"
  k_steps
  · rename _ = true => h1
    exact hnone (bpt_1 h1) _ _ (by k_asm) (by k_asm)
  · rename (_ != _) = false => h1
    rename among _ _ = true => h2
    exact hsome _ (bpt_2 h1 (among_has h2)) _ _ _ (by k_asm) (by k_asm)
  · rename (_ != _) = false => h1
    rename among _ (Str.ofString "ABCDEFGHIJKLMNOPQRSTUVWXYZ") = _ => h2
    rename among _ _ = true => h3
    exact hsome _ (bpt_3 h1 (among_has h2) (among_has h3)) _ _ _ (by k_asm) (by k_asm)
  · rename (_ != _) = false => h1
    rename among _ (Str.ofString "ABCDEFGHIJKLMNOPQRSTUVWXYZ") = _ => h2
    rename among _ (Str.ofString "!#$%&*+./<=>?@\\^|-~:") = _ => h3
    rename among _ (Str.ofString "abcdefghijklmnopqrstuvwxyz_") = _ => h4
    have h2 := among_has h2
    have h3 := among_has h3
    have h4 := among_has h4
    refine Stopped.go ?_
    refine while_var (σ := Nat × Tok) (Str.ofString "ahead") (fun x => .int ((1 + x.1 : Nat) : Int) x.2) (fun x => x.1 ≤ tkw sNAME (((cpl T).drop n).drop 1)) (fun x => tkw sNAME (((cpl T).drop n).drop 1) - x.1) (fun _ => news) (0, _) (by k_asm) (by k_asm) (Nat.zero_le _) ?_ (by passes_own)
    rintro ⟨i, ta⟩ h₁ tk₁ F₁ N₁ hi
    dsimp only at F₁ N₁ hi
    have e1 : (n : Int) + 1 = ((n + 1 : Nat) : Int) := by omega
    have e2 : (n : Int) + ((1 + i : Nat) : Int) = ((n + 1 + i : Nat) : Int) := by omega
    have es : Txt.slice T (some ((n : Int) + 1)) (some ((n : Int) + ((1 + i : Nat) : Int))) = txt (((cpl T).drop n).drop 1) i := by rw [e1, e2, txt_sl (by omega), List.drop_drop, Nat.add_sub_cancel_left]
    k_steps
    · rename _ = true => h5
      have e := tkw_go hi (among_has h5)
      exact TurnEnd.next (i + 1, _) (Fr_over (by k_asm) (by rfl)) (by k_asm) (by dsimp only; omega) e
    · rename among _ (Str.ofString "abcdefghijklmnopqrstuvwxyz_ABCDEFGHIJKLMNOPQRSTUVWXYZ0123456789'") = _ => h5
      have e := tkw_stop hi (among_has h5)
      rename List.any _ _ = true => h6
      rw [es, e] at h6
      exact hnone (bpt_5 h1 h2 h3 h4 h6) _ _ (by k_asm) (by k_asm)
    · rename among _ (Str.ofString "abcdefghijklmnopqrstuvwxyz_ABCDEFGHIJKLMNOPQRSTUVWXYZ0123456789'") = _ => h5
      have e := tkw_stop hi (among_has h5)
      rename List.any _ _ = false => h6
      rw [es, e] at h6
      exact hsome _ (bpt_6 h1 h2 h3 h4 h6) _ _ _ (by k_asm) (by k_asm)
  · rename (_ != _) = false => h1
    rename among _ (Str.ofString "ABCDEFGHIJKLMNOPQRSTUVWXYZ") = _ => h2
    rename among _ (Str.ofString "!#$%&*+./<=>?@\\^|-~:") = _ => h3
    rename among _ (Str.ofString "abcdefghijklmnopqrstuvwxyz_") = _ => h4
    exact hnone (bpt_4 h1 (among_has h2) (among_has h3) (among_has h4)) _ _ (by k_asm) (by k_asm)
end
section
variable {w : World} {p : Program} {loose : List Str} {mean : ExcName → Option Value} {mg mb : Str → Option Value} {dp un : Nat} {gd : Option (List Code)} {cn : Str} {cs : Scope} {a : Addr} {ccd : Value} {cl : List (Str × Addr)} {outer : List Env} {A₀ : Around} {base h₀ : Heap} {L : Addr} {m : Str → Option Value} {news : List (Addr × Obj)} {s : Shared} {Q E : Value → Shared → Prop}
  (B : Below A₀ base outer h₀) (F : Fr h₀ L s.heap m) (X : (kk.heap_1 w.params).In h₀)
  (N : News h₀ L s.heap news) (Tp : Top p loose mean mg mb h₀) (hk : cs.kind = .function)
include B F X N Tp hk
set_option maxHeartbeats 4000000 in
theorem symk_spec {y : Str} {ty : Tok} (hd : dp + 1 < recursionLimit) (hy : 0 < y.length)
    (hret : ∀ h' tk' t', Fr h₀ L h' m → News h₀ L h' news → Q (.str (symk y) t') { s with heap := h', toks := tk' }) :
    wpAny (model PySem.Challenge.pw_np0234_01 w) (ktrTop dp un gd cn cs L a ccd cl outer) (call (.ref 256) [.str y ty]) Q E s := by
  refine wpAny_call ?_
  k_dflt k_extra "enter"
  k_steps
  · rename List.any _ _ = true => h1
    exact q_eq (hret _ _ _ (by k_asm) (by k_asm)) (congrArg (fun x => Value.str x _) (symk_1 h1).symm)
  · rename List.any _ _ = false => h1
    rename (_ == _) = true => h2
    exact q_eq (hret _ _ _ (by k_asm) (by k_asm)) (congrArg (fun x => Value.str x _) (symk_2 h1 h2).symm)
  · rename List.any _ _ = false => h1
    rename (_ == _) = false => h2
    exact q_eq (hret _ _ _ (by k_asm) (by k_asm)) (congrArg (fun x => Value.str x _) (symk_3 h1 h2).symm)
end
theorem rg_X1_10 : True := by
  k_with_none
  k_with "all" => assumption
  k_with "enter" => (refine' code_def ?enk1 ?enk2 ?enk3 ?enk4 ?enk5 ?enkA ?enkF ?enkK ?enk6 ?enk7 ?enk8 ?enk9 ?enkB ?_ ?enc2 ?enc3 ?enc4 ?enc5; (case enkA => exact rfl); (case enkF => exact rfl); (case enkK => first | exact rfl | assumption); (case enk1 => k_asm); (case enk2 => k_asm); (case enk3 => k_asm); (case enk4 => k_asm); (case enk5 => k_asm); (case enk6 => k_is); (case enk7 => k_is); (case enk8 => ktr_room); (case enk9 => first | exact BindsTo.of_eq rfl | exact binds_K (by k_in) rfl (by k_is) rfl rfl rfl); (case enc5 => decide); (case enkB => exact locs rfl); (case enc2 => exact rfl); (case enc3 => exact rfl); (case enc4 => exact rfl); k_whole; intro g' L' h' FG' F' N' B' X' T'; (try dsimp only); (try k_fold))
  exact trivial
/-! ## WordError, made by its base's own __init__ -/
noncomputable abbrev weMro : List Value := [.ref 39, .type "Exception", .type "BaseException", .type "object"]
noncomputable abbrev weCls : Obj := excClassObj (Str.ofString "WordError") (Str.ofString "WordError") 52 51 [.ref 39] weMro true [] [] false none none (some (.ref 43)) none (some (.str (Str.ofString "WordError") 227)) (some (.str (Str.ofString "WordError") 235)) (some (.bool true)) "Exception.__new__"
noncomputable abbrev excO (t : Addr) (od : Option Addr) : Obj := { cls := .ref 52, dict := od, data := .fields #[.ref t, .none, .none, .none, .bool false, .none] }
theorem we_obj {w : World} {h : Heap} (X : (kk.heap_1 w.params).In h) : h.get? 52 = some weCls := X 52 _ (by k_is)
section
variable {prog : Program} {w : World} {A : Around} {E : Value → Shared → Prop} {h : Heap} {g : Array GenState} {d : Drawn} {t : Nat} {os : OsState} {R : Result → Shared → Prop}
theorem we_check_new {M : Model} {rest : List Value} {Q : Unit → Shared → Prop} (hC : h.get? 52 = some weCls) (hq : Q () ⟨h, g, d, t, os⟩) :
    wpAny M A (checkBuiltinCall "Exception.__new__" ⟨.ref 52 :: rest, []⟩) Q E ⟨h, g, d, t, os⟩ := by
  have F := PySem.F.excBase_Exception
  have hcont : (Value.ref 52 :: weMro).contains (.type "Exception") = true := by decide
  simp only [checkBuiltinCall, F.newKind, F.newSplit, F.newRow]
  repeat (first | refine wpAny_loadPart_at hC ?_ | (refine wpAny_isSubtype_exc hC ?_; rw [hcont]) | refine wpAny_staticBase_exc hC ?_ | refine wpAny_madeBy_exc hC ?_ | simp only [bne_self_eq_false, Bool.false_eq_true, if_false] | wp_step)
  exact hq
theorem we_new {rest : List Value} (hC : h.get? 52 = some weCls)
    (hq : R (.ok (.ret (.ref (h.objs.size + 1)))) ⟨(h.push (tupO rest.toArray)).push (excO h.objs.size none), g, d, t, os⟩) (hrest : rest.length ≤ sizeLine) :
    codeAny (model prog w) A (.builtin "Exception.__new__" ⟨.ref 52 :: rest, []⟩) R ⟨h, g, d, t, os⟩ := by
  have F := PySem.F.excBase_Exception
  have hends := F.ends
  have hcB : (Value.ref 52 :: weMro).contains (.type "Exception") = true := by decide
  have hcA : (Value.ref 52 :: weMro).contains (.type "AttributeError") = false := by decide
  have hcN : (Value.ref 52 :: weMro).contains (.type "NameError") = false := by decide
  refine codeAny_builtinAt F.entry ?_
  unfold Builtin.«BaseException.__new__»
  refine PySem.wpAt_bind ?_
  show PySem.wpAt _ _ _ (stack >>= _) _ _ _
  refine PySem.wpAt_bind (PySem.wpAt_stack fun p below => PySem.wpAt_of_wpAny ?_)
  wp_walk
  refine PySem.wpAt_of_wpAny ?_
  rw [F.owner]
  repeat (first | with_reducible refine wpAny_madeHere_exc F.canon hC ?_ | with_reducible refine wpAny_loadPart_at hC ?_ | (with_reducible refine wpAny_isSubtype_exc hC ?_; first | rw [hcB] | rw [hcA] | rw [hcN]) | wp_step)
  show R _ _
  rw [Heap.size_push]
  exact hq
theorem we_type_call (X : (kk.heap_1 w.params).In h) {rest : List Value} {Q : Fin → Shared → Prop}
    (hq : wpAny (model prog w) A (call (.ref 36) (.ref (h.objs.size + 1) :: rest)) (fun r s' => r = .none ∧ Q (.done (.ret (.ref (h.objs.size + 1)))) s') E ⟨(h.push (tupO rest.toArray)).push (excO h.objs.size none), g, d, t, os⟩) (hrest : rest.length ≤ sizeLine) :
    wpAny (model prog w) A (Builtin.«type.__call__» ⟨.ref 52 :: rest, []⟩) Q E ⟨h, g, d, t, os⟩ := by
  have F := PySem.F.excBase_Exception
  have hC := we_obj X
  repeat (first | with_reducible refine wpAny_loadPart_at hC ?_ | with_reducible refine wpAny_madeBy_exc hC ?_ | wp_step)
  refine codeAny_call_builtin_code (Code.quiet_builtin _ F.quiet) (we_check_new hC ?_)
  refine we_new hC ?_ hrest
  show wpAny _ _ _ _ _ _
  have hk : ∀ b o, h.get? b = some o → ((h.push (tupO rest.toArray)).push (excO h.objs.size none)).get? b = some o := fun b o e => Heap.get?_push_of_some _ (Heap.get?_push_of_some _ e)
  have X₁ := X.keeps hk
  have hC₁ := we_obj X₁
  have hget : ((h.push (tupO rest.toArray)).push (excO h.objs.size none)).get? (h.objs.size + 1) = some (excO h.objs.size none) := by heap_get
  have hcC : (Value.ref 52 :: weMro).contains (.ref 52) = true := by decide
  unfold isInstance
  repeat (first | with_reducible refine wpAny_loadPart_at hget ?_ | (with_reducible refine wpAny_isSubtype_exc hC₁ ?_; rw [hcC]) | wp_step)
  show wpAny _ _ (typeLookup (.ref 52) _) _ _ _
  refine (looks_findIn X₁ (name := "__init__") (r := some (.ref 36)) (by k_is)).here ?_
  refine wpAny_holding (wpAny_bind ((bind_fn X₁ _ (by k_is)).here ?_))
  refine wpAny_bind (wpAny_mono hq (fun r s' hr => ?_) fun _ _ x => x)
  obtain ⟨rfl, hQ⟩ := hr
  wp_walk
  exact hQ
theorem we_call (X : (kk.heap_1 w.params).In h) {rest : List Value} {Q : Value → Shared → Prop}
    (hq : wpAny (model prog w) (A.under (.builtin "type.__call__" ⟨.ref 52 :: rest, []⟩)) (call (.ref 36) (.ref (h.objs.size + 1) :: rest)) (fun r s' => r = .none ∧ Q (.ref (h.objs.size + 1)) s') E ⟨(h.push (tupO rest.toArray)).push (excO h.objs.size none), g, d, t, os⟩) (hrest : rest.length ≤ sizeLine) :
    wpAny (model prog w) A (call (.ref 52) rest) Q E ⟨h, g, d, t, os⟩ := by
  have hC := we_obj X
  have f1 := tc_lookup
  have f2 := tc_bind (.ref 52)
  have hT : (⟨h, g, d, t, os⟩ : Shared).TypeIs (.ref 52) "type" := ⟨_, hC, rfl⟩
  refine wpAny_call (codeAny_of_tree ?_)
  show wpAny _ _ (callAny (.ref 52) _) _ _ _
  repeat (any_goals (first | assumption | with_reducible refine wpAny_loadPart_at hC ?_ | wp_step))
  refine ⟨rfl, ?_⟩
  exact codeAny_call_builtin_at (Code.quiet_builtin _ (by decide +kernel)) entry_typeCall (wpAny_check_type_call_sub hC (we_type_call X hq hrest))
theorem we_check_init {M : Model} {e : Addr} {t₀ : Addr} {rest : List Value} {Q : Unit → Shared → Prop} (hC : h.get? 52 = some weCls) (he : h.get? e = some (excO t₀ none)) (hq : Q () ⟨h, g, d, t, os⟩) :
    wpAny M A (checkBuiltinCall "Exception.__init__" ⟨.ref e :: rest, []⟩) Q E ⟨h, g, d, t, os⟩ := by
  have F := PySem.F.excBase_Exception
  have hcB : (Value.ref 52 :: weMro).contains (.type "Exception") = true := by decide
  simp only [checkBuiltinCall, F.initKind, F.initSplit, F.initRow]
  repeat (first | with_reducible refine wpAny_loadPart_at he ?_ | with_reducible refine wpAny_loadPart_at hC ?_ | (with_reducible refine wpAny_isSubtype_exc hC ?_; rw [hcB]) | wp_step)
  refine wpAny_onRaise ?_
  rw [show ∀ (a b : String) (n : Nat), Bind.check ⟨.positional, "*", "Exception", .self, [⟨"args", .varPos, false⟩]⟩ a b n (List.map (fun x => x.fst) ({ pos := Value.ref e :: rest } : Args).kw) = pure () from
    fun a b n => check_star_args _ _ _ _ _ _]
  exact wpAny_pure hq
theorem we_init {e t₀ : Addr} {v : Value} {Q : Value → Shared → Prop} (hC : h.get? 52 = some weCls) (he : h.get? e = some (excO t₀ none))
    (hq : Q .none ⟨(h.push (tupO #[v])).update e (Obj.mapFields (·.setIfInBounds 0 (.ref h.objs.size))), g, d, t, os⟩) :
    wpAny (model prog w) A (call (.builtin "Exception.__init__") [.ref e, v]) Q E ⟨h, g, d, t, os⟩ := by
  have F := PySem.F.excBase_Exception
  refine wpAny_call (codeAny_call_builtin F.init.plain F.initEntry (we_check_init hC he ?_))
  wp_walk
  exact hq
theorem we_osa {e : Addr} {o : Obj} {od : Option Obj} {name : Str} {tk : Tok} {v : Value} (X : (kk.heap_1 w.params).In h) (he : h.get? e = some o) (I : PySem.W.InstAt h e o 52 od) (hf : findIn (kk.heap_1 w.params) (.ref 52) name = some none)
    (hq : wpAny (model prog w) A.in1 (PySem.Builtin.ObjectAttr.storeInOwnDict (.ref e) (.ref 52) (.str name tk) name v false)
      (fun (fin : PySem.Fin) s' => match fin with | .done f => R (.ok f) s' | .again c' => c'.quiet = true ∧ codeAny (model prog w) A c' R s') (fun e s' => R (.error e) s') ⟨h, g, d, t, os⟩) :
    codeAny (model prog w) A (.call (.builtin "object.__setattr__") ⟨[.ref e, .str name tk, v], []⟩) R ⟨h, g, d, t, os⟩ := by
  have SF := PySem.F.store_object
  have hC := we_obj X
  have hm : Looks (model prog w) h (mroOf (.ref 52)) (.ref 52 :: weMro) := fun A Q E s k q => wpAny_mroOf_exc (k _ _ hC) q
  have sub : Looks (model prog w) h (isInstance (.ref e) (.type "object")) true := I.type.andThen (fun A Q E s k q => wpAny_isSubtype_exc (k _ _ hC) q)
  refine codeAny_call_builtin SF.slot.plain SF.entry (@check_slot (model prog w) _ _ _ "object.__setattr__" "object" "__setattr__" (.ref e) [.str name tk, v] [] _ SF.kind SF.split sub (SF.args (.ref e) (.str name tk) v) ?_)
  rw [osa_eq, refuse_eq]
  refine wpAny_bind (wpAny_bind (I.type.here (wpAny_bind (hm.here ?_))))
  have hp : refuseLoop (.ref e) "__setattr__" (.ref 52 :: weMro) = pure () := by
    rw [refuseLoop_ref, refuseLoop_ref]
    exact PySem.F.store_Exception.passes _
  rw [hp]
  refine wpAny_pure (wpAny_bind (I.type.here (wpAny_bind ((looks_findIn X hf).here ?_))))
  exact wpAny_bind (wpAny_pure hq)
theorem we_set1 {e t₀ : Addr} {name : Str} {v : Value} {Q : Unit → Shared → Prop} (X : (kk.heap_1 w.params).In h) (he : h.get? e = some (excO t₀ none))
    (hs : findIn (kk.heap_1 w.params) (.ref 52) "__setattr__" = some (some (.builtin "object.__setattr__"))) (hf : findIn (kk.heap_1 w.params) (.ref 52) name = some none)
    (hq : ∀ h' tk', (∀ b o, b ≠ e → h.get? b = some o → h'.get? b = some o) → h'.get? e = some (excO t₀ (some h.objs.size)) → h'.Ns1 h.objs.size (fun y => if y = name then some v else none) → Q () ⟨h', g, d, tk', os⟩) :
    wpAny (model prog w) A (setAttr (.ref e) name v) Q E ⟨h, g, d, t, os⟩ := by
  have I : PySem.W.InstAt h e (excO t₀ none) 52 none := ⟨he, rfl, rfl, trivial⟩
  refine set_plain (s := ⟨h, g, d, t, os⟩) X I hs ?_
  refine we_osa X he I hf ?_
  have hC := we_obj X
  have hxs : e ≠ h.objs.size := Nat.ne_of_lt (Heap.lt_size he)
  have he₁ : (h.push { cls := .type "dict", data := .dict #[] }).get? e = some (excO t₀ none) := Heap.get?_push_of_some _ he
  refine wpAny_bind (wpAny_pure (wpAny_bind (wpAny_bind (wpAny_loadPart he (wpAny_bind (wpAny_bind (wpAny_load hC (wpAny_pure ?_))))))))
  rw [if_neg (by decide)]
  dsimp only
  rw [if_neg (by simp [typeHasDict])]
  refine wpAny_bind (wpAny_alloc' ?_)
  refine wpAny_bind (wpAny_update' he₁ ?_)
  refine wpAny_pure ?_
  have hgd : ((h.push { cls := .type "dict", data := .dict #[] }).update e fun o => { cls := o.cls, dict := some h.objs.size, data := o.data, slots := o.slots }).get? h.objs.size
      = some { cls := .type "dict", data := .dict #[] } :=
    (Heap.get?_update_ne _ _ _ _ hxs.symm).trans (Heap.get?_push_at rfl rfl)
  have hnd : ((h.push { cls := .type "dict", data := .dict #[] }).update e fun o => { cls := o.cls, dict := some h.objs.size, data := o.data, slots := o.slots }).Ns h.objs.size (fun _ => none) :=
    ⟨_, #[], _, hgd, rfl, fun e he => absurd he (by simp), fun _ => rfl⟩
  show wpAny _ _ (PySem.Builtin.ObjectAttr.storeInDict h.objs.size (.str name _) name v) _ _ _
  unfold PySem.Builtin.ObjectAttr.storeInDict PySem.Builtin.ObjectAttr.newKeyGuard
  refine wpAny_bind (wpAny_pure (wpAny_bind (wpAny_nsSet1 (Heap.Ns1.of_empty hnd) fun h' hn' hsb => ?_)))
  obtain ⟨oD, esD, epD, hoD, hdD, hcD⟩ := hn'.count (Within.cons name v Within.nil)
  refine wpAny_bind (wpAny_lookBehind hoD (by rw [hdD]; exact pastItsLine_dict (Nat.le_trans hcD (by rw [List.length_cons, List.length_nil, sizeLine_eq]; omega))) ?_)
  refine wpAny_pure (hq h' _ (fun b o hb e' => ?_) ?_ hn')
  · exact (hsb.2 b (Nat.ne_of_lt (Heap.lt_size e'))).trans ((Heap.get?_update_ne _ _ _ _ hb).trans (Heap.get?_push_of_some _ e'))
  · exact (hsb.2 e hxs).trans (Heap.get?_update_self _ he₁ rfl)
theorem we_set2 {e t₀ D : Addr} {name nm : Str} {v v₀ : Value} {Q : Unit → Shared → Prop} (X : (kk.heap_1 w.params).In h) (he : h.get? e = some (excO t₀ (some D))) (hn : h.Ns1 D (fun y => if y = nm then some v₀ else none))
    (hs : findIn (kk.heap_1 w.params) (.ref 52) "__setattr__" = some (some (.builtin "object.__setattr__"))) (hf : findIn (kk.heap_1 w.params) (.ref 52) name = some none)
    (hq : ∀ h' tk', (∀ b o, b ≠ D → h.get? b = some o → h'.get? b = some o) → Q () ⟨h', g, d, tk', os⟩) :
    wpAny (model prog w) A (setAttr (.ref e) name v) Q E ⟨h, g, d, t, os⟩ := by
  obtain ⟨oD, esD, epD, hoD, hdD, -⟩ := id hn
  have I : PySem.W.InstAt h e (excO t₀ (some D)) 52 (some oD) := ⟨he, rfl, rfl, hoD⟩
  refine set_plain (s := ⟨h, g, d, t, os⟩) X I hs ?_
  refine we_osa X he I hf ?_
  have hC := we_obj X
  refine wpAny_bind (wpAny_pure (wpAny_bind (wpAny_bind (wpAny_loadPart he (wpAny_bind (wpAny_bind (wpAny_load hC (wpAny_pure ?_))))))))
  rw [if_neg (by decide)]
  dsimp only
  refine wpAny_pure ?_
  show wpAny _ _ (PySem.Builtin.ObjectAttr.storeInDict D (.str name _) name v) _ _ _
  unfold PySem.Builtin.ObjectAttr.storeInDict PySem.Builtin.ObjectAttr.newKeyGuard
  refine wpAny_bind (wpAny_pure (wpAny_bind (wpAny_nsSet1 hn fun h' hn' hsb => ?_)))
  obtain ⟨oD', esD', epD', hoD', hdD', hcD'⟩ := hn'.count (Within.cons name v (Within.cons nm v₀ Within.nil))
  refine wpAny_bind (wpAny_lookBehind hoD' (by rw [hdD']; exact pastItsLine_dict (Nat.le_trans hcD' (by rw [List.length_cons, List.length_cons, List.length_nil, sizeLine_eq]; omega))) ?_)
  exact wpAny_pure (hq h' _ (fun b o hb e' => (hsb.2 b hb).trans e'))
end
theorem rg_X2_11 : True := by
  k_with_none
  k_with "all" => assumption
  k_with "enter" => (refine' code_def ?enk1 ?enk2 ?enk3 ?enk4 ?enk5 ?enkA ?enkF ?enkK ?enk6 ?enk7 ?enk8 ?enk9 ?enkB ?_ ?enc2 ?enc3 ?enc4 ?enc5; (case enkA => exact rfl); (case enkF => exact rfl); (case enkK => first | exact rfl | assumption); (case enk1 => k_asm); (case enk2 => k_asm); (case enk3 => k_asm); (case enk4 => k_asm); (case enk5 => k_asm); (case enk6 => k_is); (case enk7 => k_is); (case enk8 => ktr_room); (case enk9 => first | exact BindsTo.of_eq rfl | exact binds_K (by k_in) rfl (by k_is) rfl rfl rfl); (case enc5 => decide); (case enkB => exact locs rfl); (case enc2 => exact rfl); (case enc3 => exact rfl); (case enc4 => exact rfl); k_whole; intro g' L' h' FG' F' N' B' X' T'; (try dsimp only); (try k_fold))
  exact trivial
theorem rg_X2_12 : True := by
  k_with_none
  k_with "all" => assumption
  k_with "enter" => (refine' code_def ?enk1 ?enk2 ?enk3 ?enk4 ?enk5 ?enkA ?enkF ?enkK ?enk6 ?enk7 ?enk8 ?enk9 ?enkB ?_ ?enc2 ?enc3 ?enc4 ?enc5; (case enkA => exact rfl); (case enkF => exact rfl); (case enkK => first | exact rfl | assumption); (case enk1 => k_asm); (case enk2 => k_asm); (case enk3 => k_asm); (case enk4 => k_asm); (case enk5 => k_asm); (case enk6 => k_is); (case enk7 => k_is); (case enk8 => ktr_room); (case enk9 => first | exact BindsTo.of_eq rfl | exact binds_K (by k_in) rfl (by k_is) rfl rfl rfl); (case enc5 => decide); (case enkB => exact locs rfl); (case enc2 => exact rfl); (case enc3 => exact rfl); (case enc4 => exact rfl); k_whole; intro g' L' h' FG' F' N' B' X' T'; (try dsimp only); (try k_fold))
  k_with "my exec While BoolOp cons nil" => (k_here; refine Stopped.at_ ?_)
  k_with "my exec While Compare cons nil" => (k_here; refine Stopped.at_ ?_)
  k_with "my exec While Name cons nil" => (k_here; refine Stopped.at_ ?_)
  k_with "my exec For Name Call cons nil" => (k_here; k_extra "for")
  k_with "my exec For Name Name cons nil" => (k_here; k_extra "for")
  k_with "my exec For Tuple Tuple cons nil" => (k_here; k_extra "for")
  k_with "my exec While Call cons nil" => (k_here; refine Stopped.at_ ?_)
  k_with "my compareOp In str ref" => (k_here; (with_reducible show wpAny _ _ (compareOp CmpOp.In (Value.str _ _) (Value.ref _)) _ _ _); k_dflt (refine in_topK (by k_asm) (by k_asm) (by k_is) (by repeat constructor) ?_; k_whole))
  exact trivial
theorem Fr_but {h₀ h h' : Heap} {L x : Addr} {m : Str → Option Value} (F : Fr h₀ L h m) (k : ∀ b o, b ≠ x → h.get? b = some o → h'.get? b = some o) (hL : x ≠ L) (h0 : h₀.get? x = none) : Fr h₀ L h' m := by
  obtain ⟨oL, es, ep, hL', r⟩ := F.ns
  exact ⟨⟨oL, es, ep, k L oL (Ne.symm hL) hL', r⟩, fun b o e => k b o (fun q => by rw [q, h0] at e; cases e) (F.keep b o e), F.above⟩
theorem News_but {h₀ h h' : Heap} {L x : Addr} {news : List (Addr × Obj)} (N : News h₀ L h news) (k : ∀ b o, b ≠ x → h.get? b = some o → h'.get? b = some o) (hx : ∀ p ∈ news, p.1 ≠ x) : News h₀ L h' news :=
  fun p hp => ⟨k _ _ (hx p hp) (N p hp).1, (N p hp).2⟩
/-- an exception's own dict -/
structure ExcD (h₀ : Heap) (L : Addr) (h : Heap) (D : Addr) (nm : Str) (v : Value) (news : List (Addr × Obj)) : Prop where
  ns : h.Ns1 D (fun y => if y = nm then some v else none)
  nl : D ≠ L
  off : ∀ p ∈ news, p.1 ≠ D
  new : h₀.get? D = none
section
variable {prog : Program} {w : World} {A : Around} {E : Value → Shared → Prop} {s : Shared} {h₀ : Heap} {L e t₀ : Addr} {m : Str → Option Value} {news : List (Addr × Obj)}
theorem kx_init {v : Value} {Q : Value → Shared → Prop} (F : Fr h₀ L s.heap m) (X₀ : (kk.heap_1 w.params).In h₀) (N : News h₀ L s.heap ((e, excO t₀ none) :: news)) (hne : ∀ p ∈ news, p.1 ≠ e)
    (h : ∀ h' t', Fr h₀ L h' m → News h₀ L h' ((e, excO t' none) :: (t', tupO #[v]) :: news) → t' ≠ e → Q .none { s with heap := h' }) :
    wpAny (model prog w) A (call (.builtin "Exception.__init__") [.ref e, v]) Q E s := by
  obtain ⟨hp, g, d, t, os⟩ := s
  have X := X₀.keeps F.keep
  have he := (N _ (.head _)).1
  refine we_init (we_obj X) he ?_
  have F₁ : Fr h₀ L (hp.push (tupO #[v])) m := F.push _
  have N₁ := N.push F (tupO #[v])
  have hes : hp.objs.size ≠ e := Nat.ne_of_gt (Heap.lt_size he)
  obtain ⟨F₂, N₂⟩ := news_upd (pre := [(hp.objs.size, tupO #[v])]) (post := news) (o' := excO hp.objs.size none) (f := Obj.mapFields (·.setIfInBounds 0 (.ref hp.objs.size))) F₁ N₁ (fun p hp => by rcases List.mem_cons.mp hp with rfl | hp; exact hes; cases hp) hne rfl rfl
  exact h _ _ F₂ (fun p hp => N₂ p (by
    rcases List.mem_cons.mp hp with rfl | hp
    · exact .tail _ (.head _)
    · rcases List.mem_cons.mp hp with rfl | hp
      · exact .head _
      · exact .tail _ (.tail _ hp))) hes
theorem kx_set1 {name : Str} {v : Value} {Q : Unit → Shared → Prop} (F : Fr h₀ L s.heap m) (X₀ : (kk.heap_1 w.params).In h₀) (N : News h₀ L s.heap ((e, excO t₀ none) :: news)) (hne : ∀ p ∈ news, p.1 ≠ e)
    (hs : findIn (kk.heap_1 w.params) (.ref 52) "__setattr__" = some (some (.builtin "object.__setattr__"))) (hf : findIn (kk.heap_1 w.params) (.ref 52) name = some none)
    (h : ∀ h' tk' D, Fr h₀ L h' m → News h₀ L h' ((e, excO t₀ (some D)) :: news) → ExcD h₀ L h' D name v ((e, excO t₀ (some D)) :: news) → Q () { s with heap := h', toks := tk' }) :
    wpAny (model prog w) A (setAttr (.ref e) name v) Q E s := by
  obtain ⟨hp, g, d, t, os⟩ := s
  have X := X₀.keeps F.keep
  have he := N _ (.head _)
  refine we_set1 X he.1 hs hf fun h' tk' k ke kd => ?_
  have F' := Fr_but F k he.2.1 he.2.2
  have N' : News h₀ L h' news := News_but (fun p hp => N p (.tail _ hp)) k hne
  refine h h' tk' _ F' (fun p hp => ?_) ⟨kd, ?_, fun p hp => ?_, none_at_size F⟩
  · rcases List.mem_cons.mp hp with rfl | hp
    · exact ⟨ke, he.2⟩
    · exact N' p hp
  · exact Nat.ne_of_gt F.ns.lt
  · rcases List.mem_cons.mp hp with rfl | hp
    · exact Nat.ne_of_lt (Heap.lt_size he.1)
    · exact Nat.ne_of_lt (Heap.lt_size (N p (.tail _ hp)).1)
theorem kx_set2 {name nm : Str} {D : Addr} {v v₀ : Value} {Q : Unit → Shared → Prop} (F : Fr h₀ L s.heap m) (X₀ : (kk.heap_1 w.params).In h₀) (N : News h₀ L s.heap ((e, excO t₀ (some D)) :: news)) (hD : ExcD h₀ L s.heap D nm v₀ ((e, excO t₀ (some D)) :: news))
    (hs : findIn (kk.heap_1 w.params) (.ref 52) "__setattr__" = some (some (.builtin "object.__setattr__"))) (hf : findIn (kk.heap_1 w.params) (.ref 52) name = some none)
    (h : ∀ h' tk', Fr h₀ L h' m → News h₀ L h' ((e, excO t₀ (some D)) :: news) → Q () { s with heap := h', toks := tk' }) :
    wpAny (model prog w) A (setAttr (.ref e) name v) Q E s := by
  obtain ⟨hp, g, d, t, os⟩ := s
  have X := X₀.keeps F.keep
  have he := N _ (.head _)
  exact we_set2 X he.1 hD.ns hs hf fun h' tk' k => h h' tk' (Fr_but F k hD.nl hD.new) (News_but N k hD.off)
end
theorem rg_X2_13 : True := by
  k_with "my call builtin:Exception.__init__" => (k_here; k_dflt (refine kx_init (by k_asm) (by k_asm) (by k_asm) (by k_all) ?_; k_whole; intro h' t' F' N' l1; (try k_sweep)))
  k_with "my setAttr ref" => (k_here; k_dflt (first | (refine kx_set1 (by k_asm) (by k_asm) (by k_asm) (by k_all) (by k_is) (by k_is) ?_; k_whole; intro h' tk' D' F' N' hD'; (try k_sweep)) | (refine kx_set2 (by k_asm) (by k_asm) (by k_asm) (by k_asm) (by k_is) (by k_is) ?_; k_whole; intro h' tk' F' N'; (try k_sweep))))
  exact trivial
theorem meta_Exception : typeOf (.type "Exception") = pure (.type "type") := by kernel_rfl
theorem rg_X2_14 : True := by
  k_with "my getMethod type:Exception" => (k_here; refine method_type (by k_asm) (by k_asm) (by exact meta_Exception) (by decide +kernel) (by k_dflt k_is) (by k_handed) ?_)
  exact trivial
section
variable {w : World} {p : Program} {loose : List Str} {mean : ExcName → Option Value} {mg mb : Str → Option Value} {dp un : Nat} {gd : Option (List Code)} {cn : Str} {cs : Scope} {a : Addr} {ccd : Value} {cl : List (Str × Addr)} {outer : List Env} {A₀ : Around} {base h₀ : Heap} {L : Addr} {m : Str → Option Value} {news : List (Addr × Obj)} {s : Shared} {Q E : Value → Shared → Prop}
  (B : Below A₀ base outer h₀) (F : Fr h₀ L s.heap m) (X : (kk.heap_1 w.params).In h₀)
  (N : News h₀ L s.heap news) (Tp : Top p loose mean mg mb h₀) (hk : cs.kind = .function)
include B F X N Tp hk
set_option maxHeartbeats 4000000 in
theorem werr_spec {x : Str} {tx : Tok} {q : Addr} (hd : dp + 2 < recursionLimit)
    (hret : ∀ e t D h' tk', Fr h₀ L h' m → News h₀ L h' ((e, excO t (some D)) :: (t, tupO #[.str x tx]) :: news) → Q (.ref e) { s with heap := h', toks := tk' }) :
    wpAny (model PySem.Challenge.pw_np0234_01 w) (ktrTop dp un gd cn cs L a ccd cl outer) (call (.ref 52) [.str x tx, .ref q]) Q E s := by
  obtain ⟨hp, g, d, t, os⟩ := s
  refine we_call (X.keeps F.keep) ?_ (by show 2 ≤ sizeLine; decide)
  have hne : ∀ p ∈ news, p.1 ≠ hp.objs.size + 1 := fun p hp => Nat.ne_of_lt (Nat.lt_succ_of_lt (Heap.lt_size (N p hp).1))
  have F₁ : Fr h₀ L _ m := (F.push (tupO [.str x tx, .ref q].toArray)).push (excO hp.objs.size none)
  have N₁ : News h₀ L _ ((hp.objs.size + 1, excO hp.objs.size none) :: news) := fun p hp' => by
    have := ((N.push F (tupO [.str x tx, .ref q].toArray)).push (F.push _) (excO hp.objs.size none)) p (by
      rw [Heap.size_push]
      rcases List.mem_cons.mp hp' with rfl | hp'
      · exact .head _
      · exact .tail _ (.tail _ hp'))
    exact this
  clear F N
  generalize hp.objs.size + 1 = e at *
  generalize (hp.push (tupO [Value.str x tx, Value.ref q].toArray)).push (excO hp.objs.size none) = h₁ at *
  refine wpAny_call ?_
  k_dflt k_extra "enter"
  k_steps
  exact hret _ _ _ _ _ (by k_asm) (by k_asm)
end
/-! ## raise and the way out -/
theorem raise_inst {prog : Program} {w : World} {A : Around} {E : Value → Shared → Prop} {s : Shared} {x : Sem Value} {env : Env} {Q : Flow → Shared → Prop} (hh : A.handled = none)
    (h : wpAny (model prog w) A x (fun v s₁ => ∃ e t D, v = .ref e ∧ (kk.heap_1 w.params).In s₁.heap ∧ s₁.heap.get? e = some (excO t (some D)) ∧ E (.ref e) s₁) E s) :
    wpAny (model prog w) A (raiseStmt env (some x) none) Q E s := by
  have hcB : (Value.ref 52 :: weMro).contains (.type "BaseException") = true := by decide
  unfold raiseStmt
  refine wpAny_bind (wpAny_mono h (fun v s₁ h₁ => ?_) fun _ _ x => x)
  obtain ⟨e, t, D, rfl, X, he, hE⟩ := h₁
  have hC := we_obj X
  obtain ⟨hp, g, d, tk, os⟩ := s₁
  repeat (first | with_reducible refine wpAny_loadPart_at he ?_ | with_reducible refine wpAny_loadPart_at hC ?_ | (with_reducible refine wpAny_isSubtype_exc hC ?_; rw [hcB]) | wp_step)
  exact wpAny_raiseNew_none hh hE
noncomputable def RaiseAt {w : World} (E : Value → Shared → Prop) (v : Value) (s₁ : Shared) : Prop := ∃ e t D, v = .ref e ∧ (kk.heap_1 w.params).In s₁.heap ∧ s₁.heap.get? e = some (excO t (some D)) ∧ E (.ref e) s₁
theorem raise_stmt {prog : Program} {w : World} {A : Around} {E : Value → Shared → Prop} {s : Shared} {x : Expr} {pos : Pos} {env : Env} {Q : Flow → Shared → Prop} (hh : A.handled = none)
    (h : wpAny (model prog w) A (eval x env) (RaiseAt (w := w) E) E s) : wpAny (model prog w) A (exec (.Raise (some x) none pos) env) Q E s := by
  rw [arm_exec_Raise]
  refine wpAny_bind (wpAny_standAt ?_)
  show wpAny _ _ (raiseStmt env (some _) none) _ _ _
  refine raise_inst hh ?_
  exact wpAny_bind (wpAny_mono h (fun v s₁ h₁ => wpAny_bind (wpAny_standAt (wpAny_pure h₁))) fun _ _ y => y)
theorem raise_at {w : World} {E : Value → Shared → Prop} {h₀ : Heap} {L e t D : Addr} {m : Str → Option Value} {news : List (Addr × Obj)} {s₁ : Shared} (F : Fr h₀ L s₁.heap m) (X₀ : (kk.heap_1 w.params).In h₀) (N : News h₀ L s₁.heap ((e, excO t (some D)) :: news))
    (h : E (.ref e) s₁) : RaiseAt (w := w) E (.ref e) s₁ := ⟨e, t, D, rfl, X₀.keeps F.keep, (N _ (.head _)).1, h⟩
theorem leave_we {M : Model} {A : Around} {E : Value → Shared → Prop} {s' : Shared} {base g : Heap} {outer : List Env} {L a e t D : Addr} {v : Value} {m : Str → Option Value} {name : Str} {scope : Scope} {cd : Value} {Q : Unit → Shared → Prop} {news : List (Addr × Obj)}
    (K : Below A base outer g) (F : Fr g L s'.heap m) (N : News g L s'.heap ((e, excO t (some D)) :: (t, tupO #[v]) :: news))
    (hQ : ∀ h', RaisedS base g outer e (.ref 52) t [v] [] h' → g.UpToSlots h' → Q () { s' with heap := h' }) (hk : scope.kind = .function) :
    wpAny M (A.deeper (envOf name scope L a cd)) (leaving (envOf name scope L a cd) (.ref e)) Q E s' := by
  have K' := K.push (name := name) (a := a) (cd := cd) F hk
  have hin : ∀ env ∈ (envOf name scope L a cd :: outer), ∀ b, env.frame = some b → b ∈ (e :: t :: (envOf name scope L a cd :: outer).filterMap (·.frame)) := fun env he b hb => .tail _ (.tail _ (List.mem_filterMap.mpr ⟨env, he, hb⟩))
  have e1 := N _ (.head _)
  have t1 := N (t, tupO #[v]) (.tail _ (.head _))
  have st : base.StaysIn (hideAll s'.heap (e :: t :: (envOf name scope L a cd :: outer).filterMap (·.frame))) := fun b o q => hideAll_get _ (K'.stays b o q) fun hm => by
    rcases List.mem_cons.mp hm with rfl | hm
    · have := K.stays _ _ q; rw [e1.2.2] at this; cases this
    · rcases List.mem_cons.mp hm with rfl | hm
      · have := K.stays _ _ q; rw [t1.2.2] at this; cases this
      · rw [(K'.frames.mem hm).1] at q; cases q
  have sg : ∀ b o, g.get? b = some o → b ∉ outer.filterMap (·.frame) → (hideAll s'.heap (e :: t :: (envOf name scope L a cd :: outer).filterMap (·.frame))).get? b = some o := fun b o q nm => hideAll_get _ (F.keep b o q) fun hm => by
    rcases List.mem_cons.mp hm with rfl | hm
    · rw [e1.2.2] at q; cases q
    · rcases List.mem_cons.mp hm with rfl | hm
      · rw [t1.2.2] at q; cases q
      · rcases kts_mem hm with z | z
        · rw [z, kts_self F] at q
          cases q
        · exact nm z
  refine wpAny_leaving_firstW (base := hideAll s'.heap (e :: t :: (envOf name scope L a cd :: outer).filterMap (·.frame))) (a0 := .ref t) K'.stack (funFrames_hide K'.frames hin) rfl e1.1 (fun b o q => of_hideAll _ q) (hideAll_none _ (.head _)) rfl rfl rfl fun h' hL => ?_
  obtain ⟨k1, ⟨_, _, k2⟩, k3, k4⟩ := hL
  have k4' : s'.heap.UpToSlots h' := k4
  refine hQ h' ⟨⟨_, st, sg, fun q hq => (nomatch hq), ⟨k1, hideAll_none _ (.head _), k2, k3⟩, hideAll_none _ (.tail _ (.head _))⟩, ?_⟩ ((Heap.UpToSlots.of_keeps F.keep).trans k4')
  exact Heap.TupAt.of_slots ⟨_, 0, t1.1, rfl, rfl⟩ k4'
theorem leave_onR {M : Model} {A : Around} {E : Value → Shared → Prop} {s' : Shared} {base g g₂ : Heap} {outer : List Env} {L a e t : Addr} {m : Str → Option Value} {name : Str} {scope : Scope} {cd : Value} {Q : Unit → Shared → Prop} {news : List (Addr × Obj)} {cls : Value} {vs : List Value} (R : RaisedS base g₂ (envOf name scope L a cd :: outer) e cls t vs news s'.heap) (K : Below A base outer g) (F : Fr g L g₂ m) (hsm : g₂.UpToSlots s'.heap)
    (hQ : ∀ h', RaisedS base g outer e cls t vs news h' → RaisedK base outer e cls t vs news h' → g.UpToSlots h' → Q () { s' with heap := h' }) :
    wpAny M (A.deeper (envOf name scope L a cd)) (leaving (envOf name scope L a cd) (.ref e)) Q E s' := leave_onS K F R hsm hQ
theorem rg_N0_15 : True := by
  k_with_none
  k_with "all" => assumption
  k_with "enter" => (refine' code_def ?enk1 ?enk2 ?enk3 ?enk4 ?enk5 ?enkA ?enkF ?enkK ?enk6 ?enk7 ?enk8 ?enk9 ?enkB ?_ ?enc2 ?enc3 ?enc4 ?enc5; (case enkA => exact rfl); (case enkF => exact rfl); (case enkK => first | exact rfl | assumption); (case enk1 => k_asm); (case enk2 => k_asm); (case enk3 => k_asm); (case enk4 => k_asm); (case enk5 => k_asm); (case enk6 => k_is); (case enk7 => k_is); (case enk8 => ktr_room); (case enk9 => first | exact BindsTo.of_eq rfl | exact binds_K (by k_in) rfl (by k_is) rfl rfl rfl); (case enc5 => decide); (case enkB => exact locs rfl); (case enc2 => exact rfl); (case enc3 => exact rfl); (case enc4 => exact rfl); k_whole; intro g' L' h' FG' F' N' B' X' T'; (try dsimp only); (try k_fold))
  k_with "my leaving ref" => (k_here; k_dflt (first | (refine leave_onR (by assumption) (by k_asm) (by k_asm) (by k_asm) ?_; k_whole; intro h' R' _ U'; (try dsimp only)) | (refine leave_we (by k_asm) (by k_asm) (by k_asm) ?_ (by exact rfl); k_whole; intro h' R' U'; (try dsimp only))))
  exact trivial
theorem Fr_over2 {h₀ h : Heap} {L : Addr} {v1 v2 : Str} {a b c d : Option Value} {M : Str → Option Value} (F : Fr h₀ L h (fun y => if y = v1 then a else if y = v2 then b else if y = v1 then c else if y = v2 then d else M y)) : Fr h₀ L h (fun y => if y = v1 then a else if y = v2 then b else M y) :=
  Fr_ext F fun y => by by_cases h1 : y = v1 <;> by_cases h2 : y = v2 <;> simp [h1, h2]
theorem news_drop3 {h₀ h : Heap} {L : Addr} {a b c : Addr × Obj} {r : List (Addr × Obj)} (N : News h₀ L h (a :: b :: c :: r)) : News h₀ L h (a :: b :: r) := fun p hp => N p (by
  rcases List.mem_cons.mp hp with rfl | hp
  · exact .head _
  · rcases List.mem_cons.mp hp with rfl | hp
    · exact .tail _ (.head _)
    · exact .tail _ (.tail _ (.tail _ hp)))
theorem rg_N1_16 : True := by
  k_with_none
  k_with "all" => assumption
  k_with "enter" => (refine' code_def ?enk1 ?enk2 ?enk3 ?enk4 ?enk5 ?enkA ?enkF ?enkK ?enk6 ?enk7 ?enk8 ?enk9 ?enkB ?_ ?enc2 ?enc3 ?enc4 ?enc5; (case enkA => exact rfl); (case enkF => exact rfl); (case enkK => first | exact rfl | assumption); (case enk1 => k_asm); (case enk2 => k_asm); (case enk3 => k_asm); (case enk4 => k_asm); (case enk5 => k_asm); (case enk6 => k_is); (case enk7 => k_is); (case enk8 => ktr_room); (case enk9 => first | exact BindsTo.of_eq rfl | exact binds_K (by k_in) rfl (by k_is) rfl rfl rfl); (case enc5 => decide); (case enkB => exact locs rfl); (case enc2 => exact rfl); (case enc3 => exact rfl); (case enc4 => exact rfl); k_whole; intro g' L' h' FG' F' N' B' X' T'; (try dsimp only); (try k_fold))
  k_with "my leaving ref" => (k_here; k_dflt (first | (refine leave_onR (by assumption) (by k_asm) (by k_asm) (by k_asm) ?_; k_whole; intro h' R' _ U'; (try dsimp only)) | (refine leave_we (by k_asm) (by k_asm) (by k_asm) ?_ (by exact rfl); k_whole; intro h' R' U'; (try dsimp only))))
  exact trivial
noncomputable def tkp (p : Nat → Bool) (r : List Nat) : Nat := (r.takeWhile p).length
noncomputable def hp (p : Nat → Bool) (r : List Nat) : Bool := match r with | c :: _ => p c | [] => false
theorem hp_tkp (p : Nat → Bool) : ∀ (r : List Nat) (i : Nat), i ≤ tkp p r → (hp p (r.drop i) = true ↔ i < tkp p r)
  | [], i, h => by simp [tkp, hp] at *
  | c :: t, 0, _ => by
    show p c = true ↔ _
    unfold tkp
    rw [List.takeWhile_cons]
    cases p c <;> simp
  | c :: t, i + 1, h => by
    have h' : i + 1 ≤ tkp p (c :: t) := h
    unfold tkp at h'
    rw [List.takeWhile_cons] at h'
    cases e : p c with
    | false => rw [e] at h'; simp at h'
    | true =>
      rw [e] at h'
      have := hp_tkp p t i (by unfold tkp; simpa using h')
      rw [List.drop_succ_cons, this]
      unfold tkp
      rw [List.takeWhile_cons, e]
      simp
noncomputable def nnl (c : Nat) : Bool := c != 10
theorem sgn_ends (l : List Nat) (n : Nat) : ([Str.ofString "", Str.ofString "\n"].any (· == sgn (l.drop n) 0)) = !hp nnl (l.drop n) := by
  rw [show Str.ofString "" = (⟨#[]⟩ : Str) from by decide +kernel, show Str.ofString "\n" = (⟨#[10]⟩ : Str) from by decide +kernel, sgn0]
  unfold hp
  cases h : l[n]? with
  | none => rw [List.drop_eq_nil_of_le (List.getElem?_eq_none_iff.mp h)]; rfl
  | some c =>
    obtain ⟨hl, e⟩ := List.getElem?_eq_some_iff.mp h
    rw [List.drop_eq_getElem_cons hl, e]
    show (((⟨#[]⟩ : Str) == ⟨#[c]⟩) || (((⟨#[10]⟩ : Str) == ⟨#[c]⟩) || false)) = !nnl c
    have h1 : ((⟨#[]⟩ : Str) == ⟨#[c]⟩) = false := by
      rw [beq_eq_false_iff_ne]; intro q; injection q with q; simp at q
    rw [h1]
    by_cases e : c = 10
    · subst e; rfl
    · have h2 : ((⟨#[10]⟩ : Str) == ⟨#[c]⟩) = false := by
        rw [beq_eq_false_iff_ne]; intro q; injection q with q; exact e (by simpa using q.symm)
      rw [h2]
      unfold nnl
      simp [e]
/-- skip_between -/
noncomputable def skp : Nat → List Nat → Option (Option Nat)
  | 0, _ => none
  | f + 1, r =>
    if has sBLANK r = true then (skp f (r.drop 1)).map (Option.map (· + 1))
    else if ilc r = true then (skp f (r.drop (tkp nnl r))).map (Option.map (· + tkp nnl r))
    else if (txt r 2 == Str.ofString "{-") = true then
      match nest 64 0 r with
      | some (some k) => (skp f (r.drop k)).map (Option.map (· + k))
      | some none => some none
      | none => none
    else some (some 0)
section
variable {f : Nat} {r : List Nat}
theorem skp_1 (h1 : has sBLANK r = true) : skp (f + 1) r = (skp f (r.drop 1)).map (Option.map (· + 1)) := by rw [skp, if_pos h1]
theorem skp_2 (h1 : has sBLANK r = false) (h2 : ilc r = true) : skp (f + 1) r = (skp f (r.drop (tkp nnl r))).map (Option.map (· + tkp nnl r)) := by rw [skp, if_neg (by rw [h1]; decide), if_pos h2]
theorem skp_3 (h1 : has sBLANK r = false) (h2 : ilc r = false) (h3 : (txt r 2 == Str.ofString "{-") = true) : skp (f + 1) r = match nest 64 0 r with
      | some (some k) => (skp f (r.drop k)).map (Option.map (· + k))
      | some none => some none
      | none => none := by rw [skp, if_neg (by rw [h1]; decide), if_neg (by rw [h2]; decide), if_pos h3]
theorem skp_4 (h1 : has sBLANK r = false) (h2 : ilc r = false) (h3 : (txt r 2 == Str.ofString "{-") = false) : skp (f + 1) r = some (some 0) := by rw [skp, if_neg (by rw [h1]; decide), if_neg (by rw [h2]; decide), if_neg (by rw [h3]; decide)]
end
noncomputable def SkpI (l : List Nat) (res : Option Nat) (i f : Nat) (go : Bool) : Prop :=
  (go = true ∧ ∃ ρ, skp f (l.drop i) = some ρ ∧ res = ρ.map (· + i)) ∨ (go = false ∧ res = some i)
theorem SkpI.step {l : List Nat} {res : Option Nat} {i j f : Nat} (h : ∃ ρ, skp (f + 1) (l.drop i) = some ρ ∧ res = ρ.map (· + i)) (e : skp (f + 1) (l.drop i) = (skp f ((l.drop i).drop j)).map (Option.map (· + j))) : SkpI l res (i + j) f true := by
  obtain ⟨ρ, h1, h2⟩ := h
  rw [h1, List.drop_drop] at e
  refine .inl ⟨rfl, ?_⟩
  cases hn : skp f (l.drop (i + j)) with
  | none => rw [hn] at e; cases e
  | some ρ' =>
    rw [hn] at e
    injection e with e
    refine ⟨ρ', rfl, ?_⟩
    rw [h2, e]
    cases ρ' <;> simp [Nat.add_comm, Nat.add_left_comm]
theorem SkpI.stop {l : List Nat} {res : Option Nat} {i f : Nat} (h : ∃ ρ, skp (f + 1) (l.drop i) = some ρ ∧ res = ρ.map (· + i)) (e : skp (f + 1) (l.drop i) = some (some 0)) : SkpI l res i f false := by
  obtain ⟨ρ, h1, h2⟩ := h
  rw [h1] at e
  injection e with e
  refine .inr ⟨rfl, ?_⟩
  rw [h2, e]
  simp
theorem skp_nest {f : Nat} {r : List Nat} {ρ : Option Nat} (h1 : has sBLANK r = false) (h2 : ilc r = false) (h3 : (txt r 2 == Str.ofString "{-") = true) (h : skp (f + 1) r = some ρ) : ∃ res, nest 64 0 r = some res := by
  rw [skp_3 h1 h2 h3] at h
  cases hn : nest 64 0 r with
  | none => rw [hn] at h; cases h
  | some res => exact ⟨res, rfl⟩
theorem skp_nest_none {f : Nat} {r : List Nat} {ρ : Option Nat} (h1 : has sBLANK r = false) (h2 : ilc r = false) (h3 : (txt r 2 == Str.ofString "{-") = true) (h : skp (f + 1) r = some ρ) (hn : nest 64 0 r = some none) : ρ = none := by
  rw [skp_3 h1 h2 h3, hn] at h
  exact (Option.some.inj h).symm
theorem skp_nest_some {f k : Nat} {r : List Nat} (h1 : has sBLANK r = false) (h2 : ilc r = false) (h3 : (txt r 2 == Str.ofString "{-") = true) (hn : nest 64 0 r = some (some k)) : skp (f + 1) r = (skp f (r.drop k)).map (Option.map (· + k)) := by
  rw [skp_3 h1 h2 h3, hn]
theorem tkp_stop {p : Nat → Bool} {l : List Nat} {n i : Nat} (hi : i ≤ tkp p (l.drop n)) (h : hp p (l.drop (n + i)) = false) : i = tkp p (l.drop n) := by
  have := hp_tkp p (l.drop n) i hi
  rw [List.drop_drop, h] at this
  have : ¬ i < tkp p (l.drop n) := fun q => by have := this.mpr q; cases this
  omega
theorem tkp_go {p : Nat → Bool} {l : List Nat} {n i : Nat} (hi : i ≤ tkp p (l.drop n)) (h : hp p (l.drop (n + i)) = true) : i < tkp p (l.drop n) := by
  have := hp_tkp p (l.drop n) i hi
  rw [List.drop_drop] at this
  exact this.mp h
theorem blank_has {l : List Nat} {n : Nat} {y : Str} {b : Bool} (h : among (sgn (l.drop n) 0) y = b) : has y (l.drop n) = b := by
  have := among_has (k := 0) h
  rwa [List.drop_zero] at this
theorem ends_go {l : List Nat} {n : Nat} (h : ([Str.ofString "", Str.ofString "\n"].any (· == sgn (l.drop n) 0)) = false) : hp nnl (l.drop n) = true := by
  rw [sgn_ends] at h; simpa using h
theorem ends_stop {l : List Nat} {n : Nat} (h : ([Str.ofString "", Str.ofString "\n"].any (· == sgn (l.drop n) 0)) = true) : hp nnl (l.drop n) = false := by
  rw [sgn_ends] at h; simpa using h
theorem news_tail {h₀ h : Heap} {L : Addr} {a : Addr × Obj} {r : List (Addr × Obj)} (N : News h₀ L h (a :: r)) : News h₀ L h r := fun p hp => N p (.tail _ hp)
theorem rg_M6_17 : True := by
  k_with_none
  k_with "all" => assumption
  k_with "enter" => (refine' code_def ?enk1 ?enk2 ?enk3 ?enk4 ?enk5 ?enkA ?enkF ?enkK ?enk6 ?enk7 ?enk8 ?enk9 ?enkB ?_ ?enc2 ?enc3 ?enc4 ?enc5; (case enkA => exact rfl); (case enkF => exact rfl); (case enkK => first | exact rfl | assumption); (case enk1 => k_asm); (case enk2 => k_asm); (case enk3 => k_asm); (case enk4 => k_asm); (case enk5 => k_asm); (case enk6 => k_is); (case enk7 => k_is); (case enk8 => ktr_room); (case enk9 => first | exact BindsTo.of_eq rfl | exact binds_K (by k_in) rfl (by k_is) rfl rfl rfl); (case enc5 => decide); (case enkB => exact locs rfl); (case enc2 => exact rfl); (case enc3 => exact rfl); (case enc4 => exact rfl); k_whole; intro g' L' h' FG' F' N' B' X' T'; (try dsimp only); (try k_fold))
  k_with "my leaving ref" => (k_here; k_dflt (first | (refine leave_onR (by assumption) (by k_asm) (by k_asm) (by k_asm) ?_; k_whole; intro h' R' _ U'; (try dsimp only)) | (refine leave_we (by k_asm) (by k_asm) (by k_asm) ?_ (by exact rfl); k_whole; intro h' R' U'; (try dsimp only))))
  exact trivial
theorem rg_M6_18 : True := by
  k_with_none
  k_with "all" => assumption
  k_with "enter" => (refine' code_def ?enk1 ?enk2 ?enk3 ?enk4 ?enk5 ?enkA ?enkF ?enkK ?enk6 ?enk7 ?enk8 ?enk9 ?enkB ?_ ?enc2 ?enc3 ?enc4 ?enc5; (case enkA => exact rfl); (case enkF => exact rfl); (case enkK => first | exact rfl | assumption); (case enk1 => k_asm); (case enk2 => k_asm); (case enk3 => k_asm); (case enk4 => k_asm); (case enk5 => k_asm); (case enk6 => k_is); (case enk7 => k_is); (case enk8 => ktr_room); (case enk9 => first | exact BindsTo.of_eq rfl | exact binds_K (by k_in) rfl (by k_is) rfl rfl rfl); (case enc5 => decide); (case enkB => exact locs rfl); (case enc2 => exact rfl); (case enc3 => exact rfl); (case enc4 => exact rfl); k_whole; intro g' L' h' FG' F' N' B' X' T'; (try dsimp only); (try k_fold))
  k_with "my leaving ref" => (k_here; k_dflt (first | (refine leave_onR (by assumption) (by k_asm) (by k_asm) (by k_asm) ?_; k_whole; intro h' R' _ U'; (try dsimp only)) | (refine leave_we (by k_asm) (by k_asm) (by k_asm) ?_ (by exact rfl); k_whole; intro h' R' U'; (try dsimp only))))
  k_with "my exec While BoolOp cons nil" => (k_here; refine Stopped.at_ ?_)
  k_with "my exec While Compare cons nil" => (k_here; refine Stopped.at_ ?_)
  k_with "my exec While Name cons nil" => (k_here; refine Stopped.at_ ?_)
  k_with "my exec For Name Call cons nil" => (k_here; k_extra "for")
  k_with "my exec For Name Name cons nil" => (k_here; k_extra "for")
  k_with "my exec For Tuple Tuple cons nil" => (k_here; k_extra "for")
  k_with "my exec While Call cons nil" => (k_here; refine Stopped.at_ ?_)
  k_with "my compareOp In str ref" => (k_here; (with_reducible show wpAny _ _ (compareOp CmpOp.In (Value.str _ _) (Value.ref _)) _ _ _); k_dflt (refine in_topK (by k_asm) (by k_asm) (by k_is) (by repeat constructor) ?_; k_whole))
  k_with "my exec Raise some none" => (k_here; k_dflt (refine raise_stmt rfl ?_))
  k_with "my RaiseAt" => (k_here; k_dflt (refine raise_at (by k_asm) (by k_asm) (by k_asm) ?_; k_whole))
  k_with "my call ref" => (k_here; (with_reducible show wpAny _ _ (call (Value.ref 158) _ _) _ _ _); k_dflt (refine is_among_spec (by k_asm) (by k_asm) (by k_asm) (by k_asm) (by k_asm) (by first | exact rfl | assumption)  (by ktr_room) ?_; k_whole; intro h' tk' F' N'; (try dsimp only); (try k_sweep); (try k_fold)))
  k_with "my call ref" => (k_here; (with_reducible show wpAny _ _ (call (Value.ref 116) _ _) _ _ _); k_dflt (refine sign_spec (by k_asm) (by k_asm) (by k_asm) (by k_asm) (by k_asm) (by first | exact rfl | assumption) (by k_mem) (by k_mem) (by assumption) (by ktr_room) ?_; k_whole; intro h' tk' t' F' N'; (try dsimp only); (try k_sweep); (try k_fold)))
  k_with "my call ref" => (k_here; (with_reducible show wpAny _ _ (call (Value.ref 116) _ _) _ _ _); k_dflt (refine sign0_spec (by k_asm) (by k_asm) (by k_asm) (by k_asm) (by k_asm) (by first | exact rfl | assumption) (by k_mem) (by k_mem) (by assumption) (by ktr_room) ?_; k_whole; intro h' tk' t' F' N'; (try dsimp only); (try k_sweep); (try k_fold)))
  k_with "my call ref" => (k_here; (with_reducible show wpAny _ _ (call (Value.ref 165) _ _) _ _ _); k_dflt (refine name_letters_spec (by k_asm) (by k_asm) (by k_asm) (by k_asm) (by k_asm) (by first | exact rfl | assumption)  (by ktr_room) ?_; k_whole; intro h' tk' t' F' N'; (try dsimp only); (try k_sweep); (try k_fold)))
  k_with "my call ref" => (k_here; (with_reducible show wpAny _ _ (call (Value.ref 123) _ _) _ _ _); k_dflt (refine starts_spec (by k_asm) (by k_asm) (by k_asm) (by k_asm) (by k_asm) (by first | exact rfl | assumption) (by k_mem) (by k_mem) (by assumption) (by ktr_room) (by first | assumption | omega | decide) ?_; k_whole; intro h' tk' F' N'; (try dsimp only); (try k_sweep); (try k_fold)))
  k_with "my call ref" => (k_here; (with_reducible show wpAny _ _ (call (Value.ref 144) _ _) _ _ _); k_dflt (refine place_spec (by k_asm) (by k_asm) (by k_asm) (by k_asm) (by k_asm) (by first | exact rfl | assumption) (by k_mem) (by k_mem) (by assumption) (by ktr_room) ?_; k_whole; intro h' tk' q F' N' l1; (try dsimp only); (try k_sweep); (try k_fold)))
  k_with "my call ref" => (k_here; (with_reducible show wpAny _ _ (call (Value.ref 130) _ _) _ _ _); k_dflt (refine step_spec (by k_asm) (by k_asm) (by k_asm) (news_pick2 (by k_asm) (by (repeat (first | exact Pick.head | apply Pick.tail))) (by (repeat (first | exact Pick.head | apply Pick.tail)))) (by k_asm) (by first | exact rfl | assumption) (by first | assumption | k_ne) (by k_all) (by assumption) (by ktr_room) ?_; k_whole; intro h' tk' t' ta' tl' tc' F' N'; (try dsimp only); (try k_sweep); (try k_fold)))
  k_with "my call ref" => (k_here; (with_reducible show wpAny _ _ (call (Value.ref 137) _ _) _ _ _); k_dflt (refine take_spec (by k_asm) (by k_asm) (by k_asm) (news_pick2 (by k_asm) (by (repeat (first | exact Pick.head | apply Pick.tail))) (by (repeat (first | exact Pick.head | apply Pick.tail)))) (by k_asm) (by first | exact rfl | assumption) (by first | assumption | k_ne) (by k_all) (by assumption) (by ktr_room) ?_; k_whole; intro h' tk' t' ta' tl' tc' F' N'; (try dsimp only); (try k_sweep); (try k_fold)))
  k_with "my call ref" => (k_here; (with_reducible show wpAny _ _ (call (Value.ref 52) _ _) _ _ _); k_dflt (refine werr_spec (by k_asm) (by k_asm) (by k_asm) (by k_asm) (by k_asm) (by first | exact rfl | assumption)  (by ktr_room) ?_; k_whole; intro e' t' D' h' tk' F' N'; (try dsimp only); (try k_sweep); (try k_fold)))
  k_with "my call ref" => (k_here; (with_reducible show wpAny _ _ (call (Value.ref 172) _ _) _ _ _); k_dflt (refine ilc_spec (by k_asm) (by k_asm) (by k_asm) (by k_asm) (by k_asm) (by first | exact rfl | assumption) (by k_mem) (by k_mem) (by assumption) (by ktr_room) ?_; k_whole; intro h' tk' F' N'; (try dsimp only); (try k_sweep); (try k_fold)))
  exact trivial
section
variable {w : World} {p : Program} {loose : List Str} {mean : ExcName → Option Value} {mg mb : Str → Option Value} {dp un : Nat} {gd : Option (List Code)} {cn : Str} {cs : Scope} {a : Addr} {ccd : Value} {cl : List (Str × Addr)} {outer : List Env} {A₀ : Around} {base h₀ : Heap} {L : Addr} {m : Str → Option Value} {news : List (Addr × Obj)} {s : Shared} {Q E : Value → Shared → Prop}
  (B : Below A₀ base outer h₀) (F : Fr h₀ L s.heap m) (X : (kk.heap_1 w.params).In h₀)
variable {sg d : Addr} {k1 k2 k3 k4 : Tok} {T : Str} {tT : Tok} {n : Nat} {ta tl tc : Tok} {rest : List (Addr × Obj)}
  (N : News h₀ L s.heap ((d, sgS w k1 k2 k3 k4 T tT n ta tl tc) :: (sg, instObj 147 d) :: rest)) (Tp : Top p loose mean mg mb h₀) (hk : cs.kind = .function)
  (hsd : @Ne Nat sg d) (hne : ∀ p ∈ rest, p.1 ≠ d) (hT : T.length ≤ 4096)
include B F X N Tp hk hsd hne hT
set_option maxHeartbeats 4000000 in
theorem nest_spec {f : Nat} {res : Option Nat} (hd : dp + 4 < recursionLimit) (hf : nest f 0 ((cpl T).drop n) = some res)
    (hret : ∀ k, res = some k → ∀ h' tk' ta' tl' tc', Fr h₀ L h' m → News h₀ L h' ((d, sgS w k1 k2 k3 k4 T tT (n + k) ta' tl' tc') :: (sg, instObj 147 d) :: rest) → Q .none { s with heap := h', toks := tk' })
    (hraise : res = none → ∀ e t v h' tk' G, RaisedS base G (envX cn cs L a ccd cl :: outer) e (.ref 52) t [v] [] h' → Fr h₀ L G m → G.UpToSlots h' → E (.ref e) { s with heap := h', toks := tk' }) :
    wpAny (model PySem.Challenge.pw_np0234_01 w) (ktrTop dp un gd cn cs L a ccd cl outer) (call (.ref 179) [.ref sg]) Q E s := by
  refine wpAny_call ?_
  k_dflt k_extra "enter"
  k_steps
  rename News _ _ _ _ => N1
  have hne' := place_off N1 hne
  have N2 := news_turn N1
  clear N1
  refine Stopped.go ?_
  refine while_var2 (σ := Nat × Int × Nat × Bool × Tok × Tok × Tok × Tok) (Str.ofString "going") (Str.ofString "depth") (fun x => .bool x.2.2.2.1) (fun x => .int x.2.1 x.2.2.2.2.1) (fun x => NestI ((cpl T).drop n) res x.1 x.2.1 x.2.2.1 x.2.2.2.1) (fun x => x.2.2.1)
    (fun x => (d, sgS w k1 k2 k3 k4 T tT (n + x.1) x.2.2.2.2.2.1 x.2.2.2.2.2.2.1 x.2.2.2.2.2.2.2) :: (sg, instObj 147 d) :: _) (0, 0, f, true, _, ta, tl, tc) (by k_asm) (by k_asm) (.inl ⟨rfl, res, hf, by cases res <;> rfl⟩) ?_ (by passes_own)
  rintro ⟨i, dep, f, go, td, ta, tl, tc⟩ h₁ tk₁ F₁ N₁ hi
  dsimp only at F₁ N₁ hi
  clear hf
  have succ : ∀ {P : Prop}, go = true → (∀ f', f = f' + 1 → (∃ ρ, nest (f' + 1) dep (((cpl T).drop n).drop i) = some ρ ∧ res = ρ.map (· + i)) → P) → P := fun {P} hg k => by
    rcases hi with ⟨_, h⟩ | ⟨h, _⟩
    · cases f with
      | zero => obtain ⟨ρ, h, _⟩ := h; cases h
      | succ f' => exact k f' rfl h
    · rw [hg] at h; cases h
  k_steps
  · rename (sgn _ _ == _) = true => h1
    refine succ (by assumption) fun f' _ h => ?_
    obtain ⟨ρ, h, hr⟩ := h
    rw [List.drop_drop, nest_end h1] at h
    cases h
    exact hraise hr _ _ _ _ _ _ (by assumption) (by k_asm) (by assumption)
  · rename (sgn _ _ == _) = false => h1
    rename (txt _ _ == Str.ofString "{-") = true => h2
    refine succ (by assumption) fun f' ef h => ?_
    subst ef
    exact TurnEnd.next (i + 2, dep + 1, f', decide (dep + 1 > 0), _, _, _, _) (Fr_over2 (by k_asm)) (by k_asm) (Nat.lt_succ_self _) (NestI.step h (by rw [List.drop_drop]; exact nest_open h1 h2))
  · rename (sgn _ _ == _) = false => h1
    rename (txt _ _ == Str.ofString "{-") = false => h2
    rename (txt _ _ == Str.ofString "-}") = true => h3
    refine succ (by assumption) fun f' ef h => ?_
    subst ef
    exact TurnEnd.next (i + 2, dep + -1, f', decide (dep + -1 > 0), _, _, _, _) (Fr_over2 (by k_asm)) (by k_asm) (Nat.lt_succ_self _) (NestI.step h (by rw [List.drop_drop]; exact nest_shut h1 h2 h3))
  · rename (sgn _ _ == _) = false => h1
    rename (txt _ _ == Str.ofString "{-") = false => h2
    rename (txt _ _ == Str.ofString "-}") = false => h3
    refine succ (by assumption) fun f' ef h => ?_
    subst ef
    exact TurnEnd.next (i + 1, dep, f', decide (dep > 0), _, _, _, _) (Fr_over (by k_asm) rfl) (by k_asm) (Nat.lt_succ_self _) (NestI.step h (by rw [List.drop_drop]; exact nest_in h1 h2 h3))
  · rename go = false => hg
    rcases hi with ⟨h, _⟩ | ⟨_, h⟩
    · rw [hg] at h; cases h
    · exact hret i h _ _ _ _ _ (by k_asm) (news_drop3 (by k_asm))
theorem nest_spec2 (hd : dp + 4 < recursionLimit) (hf : Stopped (∃ res, nest 64 0 ((cpl T).drop n) = some res))
    (hret : ∀ k, nest 64 0 ((cpl T).drop n) = some (some k) → ∀ h' tk' ta' tl' tc', Fr h₀ L h' m → News h₀ L h' ((d, sgS w k1 k2 k3 k4 T tT (n + k) ta' tl' tc') :: (sg, instObj 147 d) :: rest) → Q .none { s with heap := h', toks := tk' })
    (hraise : nest 64 0 ((cpl T).drop n) = some none → ∀ e t v h' tk' G, RaisedS base G (envX cn cs L a ccd cl :: outer) e (.ref 52) t [v] [] h' → Fr h₀ L G m → G.UpToSlots h' → E (.ref e) { s with heap := h', toks := tk' }) :
    wpAny (model PySem.Challenge.pw_np0234_01 w) (ktrTop dp un gd cn cs L a ccd cl outer) (call (.ref 179) [.ref sg]) Q E s := by
  obtain ⟨res, hf⟩ := hf
  exact nest_spec B F X N Tp hk hsd hne hT hd hf (fun k hk => hret k (by rw [hf, hk])) (fun hk => hraise (by rw [hf, hk]))
end
theorem rg_M7_19 : True := by
  k_with_none
  k_with "all" => assumption
  k_with "enter" => (refine' code_def ?enk1 ?enk2 ?enk3 ?enk4 ?enk5 ?enkA ?enkF ?enkK ?enk6 ?enk7 ?enk8 ?enk9 ?enkB ?_ ?enc2 ?enc3 ?enc4 ?enc5; (case enkA => exact rfl); (case enkF => exact rfl); (case enkK => first | exact rfl | assumption); (case enk1 => k_asm); (case enk2 => k_asm); (case enk3 => k_asm); (case enk4 => k_asm); (case enk5 => k_asm); (case enk6 => k_is); (case enk7 => k_is); (case enk8 => ktr_room); (case enk9 => first | exact BindsTo.of_eq rfl | exact binds_K (by k_in) rfl (by k_is) rfl rfl rfl); (case enc5 => decide); (case enkB => exact locs rfl); (case enc2 => exact rfl); (case enc3 => exact rfl); (case enc4 => exact rfl); k_whole; intro g' L' h' FG' F' N' B' X' T'; (try dsimp only); (try k_fold))
  k_with "my leaving ref" => (k_here; k_dflt (first | (refine leave_onR (by assumption) (by k_asm) (by k_asm) (by k_asm) ?_; k_whole; intro h' R' _ U'; (try dsimp only)) | (refine leave_we (by k_asm) (by k_asm) (by k_asm) ?_ (by exact rfl); k_whole; intro h' R' U'; (try dsimp only))))
  exact trivial
theorem rg_M7_20 : True := by
  k_with_none
  k_with "all" => assumption
  k_with "enter" => (refine' code_def ?enk1 ?enk2 ?enk3 ?enk4 ?enk5 ?enkA ?enkF ?enkK ?enk6 ?enk7 ?enk8 ?enk9 ?enkB ?_ ?enc2 ?enc3 ?enc4 ?enc5; (case enkA => exact rfl); (case enkF => exact rfl); (case enkK => first | exact rfl | assumption); (case enk1 => k_asm); (case enk2 => k_asm); (case enk3 => k_asm); (case enk4 => k_asm); (case enk5 => k_asm); (case enk6 => k_is); (case enk7 => k_is); (case enk8 => ktr_room); (case enk9 => first | exact BindsTo.of_eq rfl | exact binds_K (by k_in) rfl (by k_is) rfl rfl rfl); (case enc5 => decide); (case enkB => exact locs rfl); (case enc2 => exact rfl); (case enc3 => exact rfl); (case enc4 => exact rfl); k_whole; intro g' L' h' FG' F' N' B' X' T'; (try dsimp only); (try k_fold))
  k_with "my leaving ref" => (k_here; k_dflt (first | (refine leave_onR (by assumption) (by k_asm) (by k_asm) (by k_asm) ?_; k_whole; intro h' R' _ U'; (try dsimp only)) | (refine leave_we (by k_asm) (by k_asm) (by k_asm) ?_ (by exact rfl); k_whole; intro h' R' U'; (try dsimp only))))
  k_with "my exec While BoolOp cons nil" => (k_here; refine Stopped.at_ ?_)
  k_with "my exec While Compare cons nil" => (k_here; refine Stopped.at_ ?_)
  k_with "my exec While Name cons nil" => (k_here; refine Stopped.at_ ?_)
  k_with "my exec For Name Call cons nil" => (k_here; k_extra "for")
  k_with "my exec For Name Name cons nil" => (k_here; k_extra "for")
  k_with "my exec For Tuple Tuple cons nil" => (k_here; k_extra "for")
  k_with "my exec While Call cons nil" => (k_here; refine Stopped.at_ ?_)
  k_with "my compareOp In str ref" => (k_here; (with_reducible show wpAny _ _ (compareOp CmpOp.In (Value.str _ _) (Value.ref _)) _ _ _); k_dflt (refine in_topK (by k_asm) (by k_asm) (by k_is) (by repeat constructor) ?_; k_whole))
  k_with "my exec Raise some none" => (k_here; k_dflt (refine raise_stmt rfl ?_))
  k_with "my RaiseAt" => (k_here; k_dflt (refine raise_at (by k_asm) (by k_asm) (by k_asm) ?_; k_whole))
  k_with "my call ref" => (k_here; (with_reducible show wpAny _ _ (call (Value.ref 158) _ _) _ _ _); k_dflt (refine is_among_spec (by k_asm) (by k_asm) (by k_asm) (by k_asm) (by k_asm) (by first | exact rfl | assumption)  (by ktr_room) ?_; k_whole; intro h' tk' F' N'; (try dsimp only); (try k_sweep); (try k_fold)))
  k_with "my call ref" => (k_here; (with_reducible show wpAny _ _ (call (Value.ref 116) _ _) _ _ _); k_dflt (refine sign_spec (by k_asm) (by k_asm) (by k_asm) (by k_asm) (by k_asm) (by first | exact rfl | assumption) (by k_mem) (by k_mem) (by assumption) (by ktr_room) ?_; k_whole; intro h' tk' t' F' N'; (try dsimp only); (try k_sweep); (try k_fold)))
  k_with "my call ref" => (k_here; (with_reducible show wpAny _ _ (call (Value.ref 116) _ _) _ _ _); k_dflt (refine sign0_spec (by k_asm) (by k_asm) (by k_asm) (by k_asm) (by k_asm) (by first | exact rfl | assumption) (by k_mem) (by k_mem) (by assumption) (by ktr_room) ?_; k_whole; intro h' tk' t' F' N'; (try dsimp only); (try k_sweep); (try k_fold)))
  k_with "my call ref" => (k_here; (with_reducible show wpAny _ _ (call (Value.ref 165) _ _) _ _ _); k_dflt (refine name_letters_spec (by k_asm) (by k_asm) (by k_asm) (by k_asm) (by k_asm) (by first | exact rfl | assumption)  (by ktr_room) ?_; k_whole; intro h' tk' t' F' N'; (try dsimp only); (try k_sweep); (try k_fold)))
  k_with "my call ref" => (k_here; (with_reducible show wpAny _ _ (call (Value.ref 123) _ _) _ _ _); k_dflt (refine starts_spec (by k_asm) (by k_asm) (by k_asm) (by k_asm) (by k_asm) (by first | exact rfl | assumption) (by k_mem) (by k_mem) (by assumption) (by ktr_room) (by first | assumption | omega | decide) ?_; k_whole; intro h' tk' F' N'; (try dsimp only); (try k_sweep); (try k_fold)))
  k_with "my call ref" => (k_here; (with_reducible show wpAny _ _ (call (Value.ref 144) _ _) _ _ _); k_dflt (refine place_spec (by k_asm) (by k_asm) (by k_asm) (by k_asm) (by k_asm) (by first | exact rfl | assumption) (by k_mem) (by k_mem) (by assumption) (by ktr_room) ?_; k_whole; intro h' tk' q F' N' l1; (try dsimp only); (try k_sweep); (try k_fold)))
  k_with "my call ref" => (k_here; (with_reducible show wpAny _ _ (call (Value.ref 130) _ _) _ _ _); k_dflt (refine step_spec (by k_asm) (by k_asm) (by k_asm) (news_pick2 (by k_asm) (by (repeat (first | exact Pick.head | apply Pick.tail))) (by (repeat (first | exact Pick.head | apply Pick.tail)))) (by k_asm) (by first | exact rfl | assumption) (by first | assumption | k_ne) (by k_all) (by assumption) (by ktr_room) ?_; k_whole; intro h' tk' t' ta' tl' tc' F' N'; (try dsimp only); (try k_sweep); (try k_fold)))
  k_with "my call ref" => (k_here; (with_reducible show wpAny _ _ (call (Value.ref 137) _ _) _ _ _); k_dflt (refine take_spec (by k_asm) (by k_asm) (by k_asm) (news_pick2 (by k_asm) (by (repeat (first | exact Pick.head | apply Pick.tail))) (by (repeat (first | exact Pick.head | apply Pick.tail)))) (by k_asm) (by first | exact rfl | assumption) (by first | assumption | k_ne) (by k_all) (by assumption) (by ktr_room) ?_; k_whole; intro h' tk' t' ta' tl' tc' F' N'; (try dsimp only); (try k_sweep); (try k_fold)))
  k_with "my call ref" => (k_here; (with_reducible show wpAny _ _ (call (Value.ref 52) _ _) _ _ _); k_dflt (refine werr_spec (by k_asm) (by k_asm) (by k_asm) (by k_asm) (by k_asm) (by first | exact rfl | assumption)  (by ktr_room) ?_; k_whole; intro e' t' D' h' tk' F' N'; (try dsimp only); (try k_sweep); (try k_fold)))
  k_with "my call ref" => (k_here; (with_reducible show wpAny _ _ (call (Value.ref 172) _ _) _ _ _); k_dflt (refine ilc_spec (by k_asm) (by k_asm) (by k_asm) (by k_asm) (by k_asm) (by first | exact rfl | assumption) (by k_mem) (by k_mem) (by assumption) (by ktr_room) ?_; k_whole; intro h' tk' F' N'; (try dsimp only); (try k_sweep); (try k_fold)))
  k_with "my call ref" => (k_here; (with_reducible show wpAny _ _ (call (Value.ref 179) _ _) _ _ _); k_dflt (refine nest_spec2 (by k_asm) (by k_asm) (by k_asm) (news_pick2 (by k_asm) (by (repeat (first | exact Pick.head | apply Pick.tail))) (by (repeat (first | exact Pick.head | apply Pick.tail)))) (by k_asm) (by first | exact rfl | assumption) (by first | assumption | k_ne) (by k_all) (by assumption) (by ktr_room) ?_ ?_ ?_; (case' refine_2 => (intro k9 hk9 h' tk' ta' tl' tc' F' N'; (try dsimp only); (try k_sweep); (try k_fold))); (case' refine_3 => (intro p0 e' t' v' h' tk' G' R' F' U'; (try dsimp only)))))
  exact trivial
section
variable {w : World} {p : Program} {loose : List Str} {mean : ExcName → Option Value} {mg mb : Str → Option Value} {dp un : Nat} {gd : Option (List Code)} {cn : Str} {cs : Scope} {a : Addr} {ccd : Value} {cl : List (Str × Addr)} {outer : List Env} {A₀ : Around} {base h₀ : Heap} {L : Addr} {m : Str → Option Value} {news : List (Addr × Obj)} {s : Shared} {Q E : Value → Shared → Prop}
  (B : Below A₀ base outer h₀) (F : Fr h₀ L s.heap m) (X : (kk.heap_1 w.params).In h₀)
variable {sg d : Addr} {k1 k2 k3 k4 : Tok} {T : Str} {tT : Tok} {n : Nat} {ta tl tc : Tok} {rest : List (Addr × Obj)}
  (N : News h₀ L s.heap ((d, sgS w k1 k2 k3 k4 T tT n ta tl tc) :: (sg, instObj 147 d) :: rest)) (Tp : Top p loose mean mg mb h₀) (hk : cs.kind = .function)
  (hsd : @Ne Nat sg d) (hne : ∀ p ∈ rest, p.1 ≠ d) (hT : T.length ≤ 4096)
include B F X N Tp hk hsd hne hT
set_option maxHeartbeats 4000000 in
theorem skp_spec {f : Nat} {res : Option Nat} (hd : dp + 5 < recursionLimit) (hf : skp f ((cpl T).drop n) = some res)
    (hret : ∀ k, res = some k → ∀ h' tk' ta' tl' tc', Fr h₀ L h' m → News h₀ L h' ((d, sgS w k1 k2 k3 k4 T tT (n + k) ta' tl' tc') :: (sg, instObj 147 d) :: rest) → Q (.bool (decide ((posAt (cpl T) n).1 < (posAt (cpl T) (n + k)).1))) { s with heap := h', toks := tk' })
    (hraise : res = none → ∀ e t v h' tk' G, RaisedS base G (envX cn cs L a ccd cl :: outer) e (.ref 52) t [v] [] h' → Fr h₀ L G m → G.UpToSlots h' → E (.ref e) { s with heap := h', toks := tk' }) :
    wpAny (model PySem.Challenge.pw_np0234_01 w) (ktrTop dp un gd cn cs L a ccd cl outer) (call (.ref 186) [.ref sg]) Q E s := by
  refine wpAny_call ?_
  k_dflt k_extra "enter"
  k_steps
  refine Stopped.go ?_
  refine while_var (σ := Nat × Nat × Bool × Tok × Tok × Tok) (Str.ofString "going") (fun x => .bool x.2.2.1) (fun x => SkpI ((cpl T).drop n) res x.1 x.2.1 x.2.2.1) (fun x => x.2.1)
    (fun x => (d, sgS w k1 k2 k3 k4 T tT (n + x.1) x.2.2.2.1 x.2.2.2.2.1 x.2.2.2.2.2) :: (sg, instObj 147 d) :: rest) (0, f, true, ta, tl, tc) (by k_asm) (by k_asm) (.inl ⟨rfl, res, hf, by cases res <;> rfl⟩) ?_ (by passes_own)
  rintro ⟨i, f, go, ta, tl, tc⟩ h₁ tk₁ F₁ N₁ hi
  dsimp only at F₁ N₁ hi
  clear hf
  have succ : ∀ {P : Prop}, go = true → (∀ f', f = f' + 1 → (∃ ρ, skp (f' + 1) (((cpl T).drop n).drop i) = some ρ ∧ res = ρ.map (· + i)) → P) → P := fun {P} hg k => by
    rcases hi with ⟨_, h⟩ | ⟨h, _⟩
    · cases f with
      | zero => obtain ⟨ρ, h, _⟩ := h; cases h
      | succ f' => exact k f' rfl h
    · rw [hg] at h; cases h
  k_steps
  · rename among _ _ = true => h1
    refine succ (by assumption) fun f' ef h => ?_
    subst ef
    rename go = true => hg
    subst hg
    exact TurnEnd.next (i + 1, f', true, _, _, _) (by k_asm) (by k_asm) (Nat.lt_succ_self _) (SkpI.step h (by rw [List.drop_drop]; exact skp_1 (blank_has h1)))
  · rename among _ _ = false => h1
    rename ilc _ = true => h2
    refine succ (by assumption) fun f' ef h => ?_
    subst ef
    rename go = true => hg
    subst hg
    refine Stopped.go ?_
    refine while_loop (σ := Nat × Tok × Tok × Tok) (fun x => x.1 ≤ tkp nnl ((cpl T).drop (n + i))) (fun x => tkp nnl ((cpl T).drop (n + i)) - x.1) (fun _ => _) (fun x => (d, sgS w k1 k2 k3 k4 T tT (n + i + x.1) x.2.1 x.2.2.1 x.2.2.2) :: (sg, instObj 147 d) :: rest) (0, ta, tl, tc) (by k_asm) (by k_asm) (Nat.zero_le _) ?_ (by passes_own)
    rintro ⟨j, ta, tl, tc⟩ h₁ tk₁ F₁ N₁ hj
    dsimp only at F₁ N₁ hj
    k_steps
    · have h3 := ends_stop (l := cpl T) (n := n + i + j) (by assumption)
      have e := tkp_stop hj h3
      exact TurnEnd.next (i + j, f', true, _, _, _) (by k_asm) (by rw [← Nat.add_assoc]; exact news_tail (by k_asm)) (Nat.lt_succ_self _) (SkpI.step h (by rw [List.drop_drop, e]; exact skp_2 (blank_has h1) h2))
    · have h3 := ends_go (l := cpl T) (n := n + i + j) (by assumption)
      exact TurnEnd.next (j + 1, _, _, _) (by k_asm) (news_drop3 (by k_asm)) (by have := tkp_go hj h3; dsimp only; omega) (tkp_go hj h3)
  · rename among _ _ = false => h1
    rename ilc _ = false => h2
    rename (txt _ _ == _) = true => h3
    rename nest 64 0 _ = some none => hn
    refine succ (by assumption) fun f' ef h => ?_
    obtain ⟨ρ, h, hr⟩ := h
    rw [List.drop_drop] at h
    rw [skp_nest_none (blank_has h1) h2 h3 h hn] at hr
    exact hraise hr _ _ _ _ _ _ (by assumption) (by k_asm) (by assumption)
  · rename among _ _ = false => h1
    rename ilc _ = false => h2
    rename (txt _ _ == _) = true => h3
    rename nest 64 0 _ = some (some _) => hn
    refine succ (by assumption) fun f' ef h => ?_
    subst ef
    rename go = true => hg
    subst hg
    exact TurnEnd.next (i + _, f', true, _, _, _) (by k_asm) (by rw [← Nat.add_assoc]; k_asm) (Nat.lt_succ_self _) (SkpI.step h (by rw [List.drop_drop]; exact skp_nest_some (blank_has h1) h2 h3 hn))
  · rename among _ _ = false => h1
    rename ilc _ = false => h2
    rename (txt _ _ == _) = true => h3
    refine succ (by assumption) fun f' ef h => ?_
    obtain ⟨ρ, h, hr⟩ := h
    rw [List.drop_drop] at h
    exact skp_nest (blank_has h1) h2 h3 h
  · rename among _ _ = false => h1
    rename ilc _ = false => h2
    rename (txt _ _ == _) = false => h3
    refine succ (by assumption) fun f' ef h => ?_
    subst ef
    exact TurnEnd.next (i, f', false, _, _, _) (Fr_over (by k_asm) rfl) (by k_asm) (Nat.lt_succ_self _) (SkpI.stop h (by rw [List.drop_drop]; exact skp_4 (blank_has h1) h2 h3))
  · rename go = false => hg
    rcases hi with ⟨h, _⟩ | ⟨_, h⟩
    · rw [hg] at h; cases h
    · exact hret i h _ _ _ _ _ (by k_asm) (by k_asm)
end
theorem rg_M8_21 : True := by
  k_with_none
  k_with "all" => assumption
  k_with "enter" => (refine' code_def ?enk1 ?enk2 ?enk3 ?enk4 ?enk5 ?enkA ?enkF ?enkK ?enk6 ?enk7 ?enk8 ?enk9 ?enkB ?_ ?enc2 ?enc3 ?enc4 ?enc5; (case enkA => exact rfl); (case enkF => exact rfl); (case enkK => first | exact rfl | assumption); (case enk1 => k_asm); (case enk2 => k_asm); (case enk3 => k_asm); (case enk4 => k_asm); (case enk5 => k_asm); (case enk6 => k_is); (case enk7 => k_is); (case enk8 => ktr_room); (case enk9 => first | exact BindsTo.of_eq rfl | exact binds_K (by k_in) rfl (by k_is) rfl rfl rfl); (case enc5 => decide); (case enkB => exact locs rfl); (case enc2 => exact rfl); (case enc3 => exact rfl); (case enc4 => exact rfl); k_whole; intro g' L' h' FG' F' N' B' X' T'; (try dsimp only); (try k_fold))
  k_with "my leaving ref" => (k_here; k_dflt (first | (refine leave_onR (by assumption) (by k_asm) (by k_asm) (by k_asm) ?_; k_whole; intro h' R' _ U'; (try dsimp only)) | (refine leave_we (by k_asm) (by k_asm) (by k_asm) ?_ (by exact rfl); k_whole; intro h' R' U'; (try dsimp only))))
  exact trivial
noncomputable def numOf (y : Str) (b : Int) : Int := List.foldl (fun T a => T * b + Txt.find (Str.ofString "0123456789abcdef") (Txt.lower a)) 0 (signs y)
theorem rg_M8_22 : True := by
  k_with_none
  k_with "all" => assumption
  k_with "enter" => (refine' code_def ?enk1 ?enk2 ?enk3 ?enk4 ?enk5 ?enkA ?enkF ?enkK ?enk6 ?enk7 ?enk8 ?enk9 ?enkB ?_ ?enc2 ?enc3 ?enc4 ?enc5; (case enkA => exact rfl); (case enkF => exact rfl); (case enkK => first | exact rfl | assumption); (case enk1 => k_asm); (case enk2 => k_asm); (case enk3 => k_asm); (case enk4 => k_asm); (case enk5 => k_asm); (case enk6 => k_is); (case enk7 => k_is); (case enk8 => ktr_room); (case enk9 => first | exact BindsTo.of_eq rfl | exact binds_K (by k_in) rfl (by k_is) rfl rfl rfl); (case enc5 => decide); (case enkB => exact locs rfl); (case enc2 => exact rfl); (case enc3 => exact rfl); (case enc4 => exact rfl); k_whole; intro g' L' h' FG' F' N' B' X' T'; (try dsimp only); (try k_fold))
  k_with "my leaving ref" => (k_here; k_dflt (first | (refine leave_onR (by assumption) (by k_asm) (by k_asm) (by k_asm) ?_; k_whole; intro h' R' _ U'; (try dsimp only)) | (refine leave_we (by k_asm) (by k_asm) (by k_asm) ?_ (by exact rfl); k_whole; intro h' R' U'; (try dsimp only))))
  k_with "my exec While BoolOp cons nil" => (k_here; refine Stopped.at_ ?_)
  k_with "my exec While Compare cons nil" => (k_here; refine Stopped.at_ ?_)
  k_with "my exec While Name cons nil" => (k_here; refine Stopped.at_ ?_)
  k_with "my exec For Name Call cons nil" => (k_here; k_extra "for")
  k_with "my exec For Name Name cons nil" => (k_here; k_extra "for")
  k_with "my exec For Tuple Tuple cons nil" => (k_here; k_extra "for")
  k_with "my exec While Call cons nil" => (k_here; refine Stopped.at_ ?_)
  k_with "my compareOp In str ref" => (k_here; (with_reducible show wpAny _ _ (compareOp CmpOp.In (Value.str _ _) (Value.ref _)) _ _ _); k_dflt (refine in_topK (by k_asm) (by k_asm) (by k_is) (by repeat constructor) ?_; k_whole))
  k_with "my exec Raise some none" => (k_here; k_dflt (refine raise_stmt rfl ?_))
  k_with "my RaiseAt" => (k_here; k_dflt (refine raise_at (by k_asm) (by k_asm) (by k_asm) ?_; k_whole))
  exact trivial
section
variable {w : World} {p : Program} {loose : List Str} {mean : ExcName → Option Value} {mg mb : Str → Option Value} {dp un : Nat} {gd : Option (List Code)} {cn : Str} {cs : Scope} {a : Addr} {ccd : Value} {cl : List (Str × Addr)} {outer : List Env} {A₀ : Around} {base h₀ : Heap} {L : Addr} {m : Str → Option Value} {news : List (Addr × Obj)} {s : Shared} {Q E : Value → Shared → Prop}
  (B : Below A₀ base outer h₀) (F : Fr h₀ L s.heap m) (X : (kk.heap_1 w.params).In h₀)
  (N : News h₀ L s.heap news) (Tp : Top p loose mean mg mb h₀) (hk : cs.kind = .function)
include B F X N Tp hk
set_option maxHeartbeats 4000000 in
theorem number_of_16 {y : Str} {ty tb : Tok} (hd : dp + 1 < recursionLimit) (hall : ∀ a ∈ signs y, Txt.find (Str.ofString "0123456789abcdef") (Txt.lower a) ≠ -1)
    (hret : ∀ h' tk' t', Fr h₀ L h' m → News h₀ L h' news → Q (.int (numOf y 16) t') { s with heap := h', toks := tk' }) :
    wpAny (model PySem.Challenge.pw_np0234_01 w) (ktrTop dp un gd cn cs L a ccd cl outer) (call (.ref 193) [.str y ty, .int 16 tb]) Q E s := by
  refine wpAny_call ?_
  k_dflt k_extra "enter"
  k_steps
  · exact absurd (by assumption) (hall _ (by assumption))
  · exact hret _ _ _ (by k_asm) (by k_asm)
set_option maxHeartbeats 4000000 in
theorem number_of_8 {y : Str} {ty tb : Tok} (hd : dp + 1 < recursionLimit) (hall : ∀ a ∈ signs y, Txt.find (Str.ofString "0123456789abcdef") (Txt.lower a) ≠ -1)
    (hret : ∀ h' tk' t', Fr h₀ L h' m → News h₀ L h' news → Q (.int (numOf y 8) t') { s with heap := h', toks := tk' }) :
    wpAny (model PySem.Challenge.pw_np0234_01 w) (ktrTop dp un gd cn cs L a ccd cl outer) (call (.ref 193) [.str y ty, .int 8 tb]) Q E s := by
  refine wpAny_call ?_
  k_dflt k_extra "enter"
  k_steps
  · exact absurd (by assumption) (hall _ (by assumption))
  · exact hret _ _ _ (by k_asm) (by k_asm)
set_option maxHeartbeats 4000000 in
theorem number_of_10 {y : Str} {ty tb : Tok} (hd : dp + 1 < recursionLimit) (hall : ∀ a ∈ signs y, Txt.find (Str.ofString "0123456789abcdef") (Txt.lower a) ≠ -1)
    (hret : ∀ h' tk' t', Fr h₀ L h' m → News h₀ L h' news → Q (.int (numOf y 10) t') { s with heap := h', toks := tk' }) :
    wpAny (model PySem.Challenge.pw_np0234_01 w) (ktrTop dp un gd cn cs L a ccd cl outer) (call (.ref 193) [.str y ty, .int 10 tb]) Q E s := by
  refine wpAny_call ?_
  k_dflt k_extra "enter"
  k_steps
  · exact absurd (by assumption) (hall _ (by assumption))
  · exact hret _ _ _ (by k_asm) (by k_asm)
end
theorem rg_N2_23 : True := by
  k_with_none
  k_with "all" => assumption
  k_with "enter" => (refine' code_def ?enk1 ?enk2 ?enk3 ?enk4 ?enk5 ?enkA ?enkF ?enkK ?enk6 ?enk7 ?enk8 ?enk9 ?enkB ?_ ?enc2 ?enc3 ?enc4 ?enc5; (case enkA => exact rfl); (case enkF => exact rfl); (case enkK => first | exact rfl | assumption); (case enk1 => k_asm); (case enk2 => k_asm); (case enk3 => k_asm); (case enk4 => k_asm); (case enk5 => k_asm); (case enk6 => k_is); (case enk7 => k_is); (case enk8 => ktr_room); (case enk9 => first | exact BindsTo.of_eq rfl | exact binds_K (by k_in) rfl (by k_is) rfl rfl rfl); (case enc5 => decide); (case enkB => exact locs rfl); (case enc2 => exact rfl); (case enc3 => exact rfl); (case enc4 => exact rfl); k_whole; intro g' L' h' FG' F' N' B' X' T'; (try dsimp only); (try k_fold))
  k_with "my leaving ref" => (k_here; k_dflt (first | (refine leave_onR (by assumption) (by k_asm) (by k_asm) (by k_asm) ?_; k_whole; intro h' R' _ U'; (try dsimp only)) | (refine leave_we (by k_asm) (by k_asm) (by k_asm) ?_ (by exact rfl); k_whole; intro h' R' U'; (try dsimp only))))
  exact trivial
noncomputable def sHEX : Str := Str.ofString "0123456789abcdefABCDEF"
noncomputable def sOCT : Str := Str.ofString "01234567"
noncomputable def numSigns (y : Str) : Prop := ∀ a ∈ signs y, Txt.find (Str.ofString "0123456789abcdef") (Txt.lower a) ≠ -1
theorem hex_sign : ∀ c ∈ sHEX.cps.toList, Txt.find (Str.ofString "0123456789abcdef") (Txt.lower ⟨#[c]⟩) ≠ -1 := by
  have h : (sHEX.cps.toList.all fun c => decide (Txt.find (Str.ofString "0123456789abcdef") (Txt.lower ⟨#[c]⟩) ≠ -1)) = true := by decide +kernel
  intro c hc
  exact of_decide_eq_true (List.all_eq_true.mp h c hc)
theorem tw_all (p : Nat → Bool) : ∀ (r : List Nat) (c : Nat), c ∈ r.takeWhile p → p c = true
  | [], c, h => by cases h
  | x :: t, c, h => by
    rw [List.takeWhile_cons] at h
    cases e : p x with
    | false => rw [e] at h; cases h
    | true =>
      rw [e] at h
      rcases List.mem_cons.mp h with rfl | h
      · exact e
      · exact tw_all p t c h
theorem numSigns_take {y : Str} (hy : ∀ c ∈ y.cps.toList, c ∈ sHEX.cps.toList) (r : List Nat) : numSigns (txt r (tkw y r)) := by
  intro a ha
  have : a ∈ (r.take (tkw y r)).map (fun c => (⟨#[c]⟩ : Str)) := by simpa [signs, txt] using ha
  obtain ⟨c, hc, rfl⟩ := List.mem_map.mp this
  refine hex_sign c (hy c ?_)
  have e : r.take (tkw y r) = r.takeWhile (y.cps.toList.contains ·) := by
    unfold tkw
    exact (List.prefix_iff_eq_take.mp (List.takeWhile_prefix _)).symm
  rw [e] at hc
  have := tw_all _ r c hc
  simpa using this
theorem hexHex : ∀ c ∈ sHEX.cps.toList, c ∈ sHEX.cps.toList := fun _ h => h
theorem octHex : ∀ c ∈ sOCT.cps.toList, c ∈ sHEX.cps.toList := by
  have h : (sOCT.cps.toList.all fun c => sHEX.cps.toList.contains c) = true := by decide +kernel
  exact fun c hc => by simpa using List.all_eq_true.mp h c hc
theorem decHex : ∀ c ∈ sDIGITS.cps.toList, c ∈ sHEX.cps.toList := by
  have h : (sDIGITS.cps.toList.all fun c => sHEX.cps.toList.contains c) = true := by decide +kernel
  exact fun c hc => by simpa using List.all_eq_true.mp h c hc
/-- the numbers that are read -/
inductive NumOk (r : List Nat) : Int → Nat → Prop
  | dec : (sgn r 0 == Str.ofString "0") = false → NumOk r (numOf (txt r (tkw sDIGITS r)) 10) (tkw sDIGITS r)
  | hex : sgn r 0 = Str.ofString "0" → sgn r 1 = Str.ofString "x" → has sHEX (r.drop 2) = true → NumOk r (numOf (txt (r.drop 2) (tkw sHEX (r.drop 2))) 16) (2 + tkw sHEX (r.drop 2))
  | oct : sgn r 0 = Str.ofString "0" → sgn r 1 = Str.ofString "O" → has sOCT (r.drop 2) = true → NumOk r (numOf (txt (r.drop 2) (tkw sOCT (r.drop 2))) 8) (2 + tkw sOCT (r.drop 2))
theorem rg_M9_24 : True := by
  k_with_none
  k_with "all" => assumption
  k_with "enter" => (refine' code_def ?enk1 ?enk2 ?enk3 ?enk4 ?enk5 ?enkA ?enkF ?enkK ?enk6 ?enk7 ?enk8 ?enk9 ?enkB ?_ ?enc2 ?enc3 ?enc4 ?enc5; (case enkA => exact rfl); (case enkF => exact rfl); (case enkK => first | exact rfl | assumption); (case enk1 => k_asm); (case enk2 => k_asm); (case enk3 => k_asm); (case enk4 => k_asm); (case enk5 => k_asm); (case enk6 => k_is); (case enk7 => k_is); (case enk8 => ktr_room); (case enk9 => first | exact BindsTo.of_eq rfl | exact binds_K (by k_in) rfl (by k_is) rfl rfl rfl); (case enc5 => decide); (case enkB => exact locs rfl); (case enc2 => exact rfl); (case enc3 => exact rfl); (case enc4 => exact rfl); k_whole; intro g' L' h' FG' F' N' B' X' T'; (try dsimp only); (try k_fold))
  k_with "my leaving ref" => (k_here; k_dflt (first | (refine leave_onR (by assumption) (by k_asm) (by k_asm) (by k_asm) ?_; k_whole; intro h' R' _ U'; (try dsimp only)) | (refine leave_we (by k_asm) (by k_asm) (by k_asm) ?_ (by exact rfl); k_whole; intro h' R' U'; (try dsimp only))))
  exact trivial
section
variable {w : World} {p : Program} {loose : List Str} {mean : ExcName → Option Value} {mg mb : Str → Option Value} {dp un : Nat} {gd : Option (List Code)} {cn : Str} {cs : Scope} {a : Addr} {ccd : Value} {cl : List (Str × Addr)} {outer : List Env} {A₀ : Around} {base h₀ : Heap} {L : Addr} {m : Str → Option Value} {news : List (Addr × Obj)} {s : Shared} {Q E : Value → Shared → Prop}
  (B : Below A₀ base outer h₀) (F : Fr h₀ L s.heap m) (X : (kk.heap_1 w.params).In h₀)
  (N : News h₀ L s.heap news) (Tp : Top p loose mean mg mb h₀) (hk : cs.kind = .function)
variable {sg d : Addr} {k1 k2 k3 k4 : Tok} {T : Str} {tT : Tok} {n : Nat} {ta tl tc : Tok}
  (hm1 : (sg, instObj 147 d) ∈ news) (hm2 : (d, sgS w k1 k2 k3 k4 T tT n ta tl tc) ∈ news) (hT : T.length ≤ 4096)
include B F X N Tp hk hm1 hm2 hT
theorem sign_lit {k : Nat} {tk : Tok} {x : String} (hd : dp + 1 < recursionLimit) (hx : sgn ((cpl T).drop n) k = Str.ofString x)
    (hret : ∀ h' tk' t', Fr h₀ L h' m → News h₀ L h' news → Q (.str (Str.ofString x) t') { s with heap := h', toks := tk' }) :
    wpAny (model PySem.Challenge.pw_np0234_01 w) (ktrTop dp un gd cn cs L a ccd cl outer) (call (.ref 116) [.ref sg, .int (k : Int) tk]) Q E s :=
  sign_spec B F X N Tp hk hm1 hm2 hT hd fun h' tk' t' F' N' => by rw [hx]; exact hret h' tk' t' F' N'
theorem sign0_lit {x : String} (hd : dp + 1 < recursionLimit) (hx : sgn ((cpl T).drop n) 0 = Str.ofString x)
    (hret : ∀ h' tk' t', Fr h₀ L h' m → News h₀ L h' news → Q (.str (Str.ofString x) t') { s with heap := h', toks := tk' }) :
    wpAny (model PySem.Challenge.pw_np0234_01 w) (ktrTop dp un gd cn cs L a ccd cl outer) (call (.ref 116) [.ref sg]) Q E s :=
  sign0_spec B F X N Tp hk hm1 hm2 hT hd fun h' tk' t' F' N' => by rw [hx]; exact hret h' tk' t' F' N'
end
theorem rg_M9_25 : True := by
  k_with_none
  k_with "all" => assumption
  k_with "enter" => (refine' code_def ?enk1 ?enk2 ?enk3 ?enk4 ?enk5 ?enkA ?enkF ?enkK ?enk6 ?enk7 ?enk8 ?enk9 ?enkB ?_ ?enc2 ?enc3 ?enc4 ?enc5; (case enkA => exact rfl); (case enkF => exact rfl); (case enkK => first | exact rfl | assumption); (case enk1 => k_asm); (case enk2 => k_asm); (case enk3 => k_asm); (case enk4 => k_asm); (case enk5 => k_asm); (case enk6 => k_is); (case enk7 => k_is); (case enk8 => ktr_room); (case enk9 => first | exact BindsTo.of_eq rfl | exact binds_K (by k_in) rfl (by k_is) rfl rfl rfl); (case enc5 => decide); (case enkB => exact locs rfl); (case enc2 => exact rfl); (case enc3 => exact rfl); (case enc4 => exact rfl); k_whole; intro g' L' h' FG' F' N' B' X' T'; (try dsimp only); (try k_fold))
  k_with "my leaving ref" => (k_here; k_dflt (first | (refine leave_onR (by assumption) (by k_asm) (by k_asm) (by k_asm) ?_; k_whole; intro h' R' _ U'; (try dsimp only)) | (refine leave_we (by k_asm) (by k_asm) (by k_asm) ?_ (by exact rfl); k_whole; intro h' R' U'; (try dsimp only))))
  k_with "my exec While BoolOp cons nil" => (k_here; refine Stopped.at_ ?_)
  k_with "my exec While Compare cons nil" => (k_here; refine Stopped.at_ ?_)
  k_with "my exec While Name cons nil" => (k_here; refine Stopped.at_ ?_)
  k_with "my exec For Name Call cons nil" => (k_here; k_extra "for")
  k_with "my exec For Name Name cons nil" => (k_here; k_extra "for")
  k_with "my exec For Tuple Tuple cons nil" => (k_here; k_extra "for")
  k_with "my exec While Call cons nil" => (k_here; refine Stopped.at_ ?_)
  k_with "my compareOp In str ref" => (k_here; (with_reducible show wpAny _ _ (compareOp CmpOp.In (Value.str _ _) (Value.ref _)) _ _ _); k_dflt (refine in_topK (by k_asm) (by k_asm) (by k_is) (by repeat constructor) ?_; k_whole))
  k_with "my exec Raise some none" => (k_here; k_dflt (refine raise_stmt rfl ?_))
  k_with "my RaiseAt" => (k_here; k_dflt (refine raise_at (by k_asm) (by k_asm) (by k_asm) ?_; k_whole))
  k_with "my call ref" => (k_here; (with_reducible show wpAny _ _ (call (Value.ref 158) _ _) _ _ _); k_dflt (refine is_among_spec (by k_asm) (by k_asm) (by k_asm) (by k_asm) (by k_asm) (by first | exact rfl | assumption)  (by ktr_room) ?_; k_whole; intro h' tk' F' N'; (try dsimp only); (try k_sweep); (try k_fold)))
  k_with "my call ref" => (k_here; (with_reducible show wpAny _ _ (call (Value.ref 116) _ _) _ _ _); k_dflt (refine sign_spec (by k_asm) (by k_asm) (by k_asm) (by k_asm) (by k_asm) (by first | exact rfl | assumption) (by k_mem) (by k_mem) (by assumption) (by ktr_room) ?_; k_whole; intro h' tk' t' F' N'; (try dsimp only); (try k_sweep); (try k_fold)))
  k_with "my call ref" => (k_here; (with_reducible show wpAny _ _ (call (Value.ref 116) _ _) _ _ _); k_dflt (refine sign0_spec (by k_asm) (by k_asm) (by k_asm) (by k_asm) (by k_asm) (by first | exact rfl | assumption) (by k_mem) (by k_mem) (by assumption) (by ktr_room) ?_; k_whole; intro h' tk' t' F' N'; (try dsimp only); (try k_sweep); (try k_fold)))
  k_with "my call ref" => (k_here; (with_reducible show wpAny _ _ (call (Value.ref 165) _ _) _ _ _); k_dflt (refine name_letters_spec (by k_asm) (by k_asm) (by k_asm) (by k_asm) (by k_asm) (by first | exact rfl | assumption)  (by ktr_room) ?_; k_whole; intro h' tk' t' F' N'; (try dsimp only); (try k_sweep); (try k_fold)))
  k_with "my call ref" => (k_here; (with_reducible show wpAny _ _ (call (Value.ref 123) _ _) _ _ _); k_dflt (refine starts_spec (by k_asm) (by k_asm) (by k_asm) (by k_asm) (by k_asm) (by first | exact rfl | assumption) (by k_mem) (by k_mem) (by assumption) (by ktr_room) (by first | assumption | omega | decide) ?_; k_whole; intro h' tk' F' N'; (try dsimp only); (try k_sweep); (try k_fold)))
  k_with "my call ref" => (k_here; (with_reducible show wpAny _ _ (call (Value.ref 144) _ _) _ _ _); k_dflt (refine place_spec (by k_asm) (by k_asm) (by k_asm) (by k_asm) (by k_asm) (by first | exact rfl | assumption) (by k_mem) (by k_mem) (by assumption) (by ktr_room) ?_; k_whole; intro h' tk' q F' N' l1; (try dsimp only); (try k_sweep); (try k_fold)))
  k_with "my call ref" => (k_here; (with_reducible show wpAny _ _ (call (Value.ref 130) _ _) _ _ _); k_dflt (refine step_spec (by k_asm) (by k_asm) (by k_asm) (news_pick2 (by k_asm) (by (repeat (first | exact Pick.head | apply Pick.tail))) (by (repeat (first | exact Pick.head | apply Pick.tail)))) (by k_asm) (by first | exact rfl | assumption) (by first | assumption | k_ne) (by k_all) (by assumption) (by ktr_room) ?_; k_whole; intro h' tk' t' ta' tl' tc' F' N'; (try dsimp only); (try k_sweep); (try k_fold)))
  k_with "my call ref" => (k_here; (with_reducible show wpAny _ _ (call (Value.ref 137) _ _) _ _ _); k_dflt (refine take_spec (by k_asm) (by k_asm) (by k_asm) (news_pick2 (by k_asm) (by (repeat (first | exact Pick.head | apply Pick.tail))) (by (repeat (first | exact Pick.head | apply Pick.tail)))) (by k_asm) (by first | exact rfl | assumption) (by first | assumption | k_ne) (by k_all) (by assumption) (by ktr_room) ?_; k_whole; intro h' tk' t' ta' tl' tc' F' N'; (try dsimp only); (try k_sweep); (try k_fold)))
  k_with "my call ref" => (k_here; (with_reducible show wpAny _ _ (call (Value.ref 52) _ _) _ _ _); k_dflt (refine werr_spec (by k_asm) (by k_asm) (by k_asm) (by k_asm) (by k_asm) (by first | exact rfl | assumption)  (by ktr_room) ?_; k_whole; intro e' t' D' h' tk' F' N'; (try dsimp only); (try k_sweep); (try k_fold)))
  k_with "my call ref" => (k_here; (with_reducible show wpAny _ _ (call (Value.ref 172) _ _) _ _ _); k_dflt (refine ilc_spec (by k_asm) (by k_asm) (by k_asm) (by k_asm) (by k_asm) (by first | exact rfl | assumption) (by k_mem) (by k_mem) (by assumption) (by ktr_room) ?_; k_whole; intro h' tk' F' N'; (try dsimp only); (try k_sweep); (try k_fold)))
  k_with "my call ref" => (k_here; (with_reducible show wpAny _ _ (call (Value.ref 179) _ _) _ _ _); k_dflt (refine nest_spec2 (by k_asm) (by k_asm) (by k_asm) (news_pick2 (by k_asm) (by (repeat (first | exact Pick.head | apply Pick.tail))) (by (repeat (first | exact Pick.head | apply Pick.tail)))) (by k_asm) (by first | exact rfl | assumption) (by first | assumption | k_ne) (by k_all) (by assumption) (by ktr_room) ?_ ?_ ?_; (case' refine_2 => (intro k9 hk9 h' tk' ta' tl' tc' F' N'; (try dsimp only); (try k_sweep); (try k_fold))); (case' refine_3 => (intro p0 e' t' v' h' tk' G' R' F' U'; (try dsimp only)))))
  k_with "my call ref" => (k_here; (with_reducible show wpAny _ _ (call (Value.ref 193) _ _) _ _ _); k_dflt (refine number_of_16 (by k_asm) (by k_asm) (by k_asm) (by k_asm) (by k_asm) (by first | exact rfl | assumption)  (by ktr_room) (by exact numSigns_take hexHex _) ?_; k_whole; intro h' tk' t' F' N'; (try dsimp only); (try k_sweep); (try k_fold)))
  k_with "my call ref" => (k_here; (with_reducible show wpAny _ _ (call (Value.ref 193) _ _) _ _ _); k_dflt (refine number_of_8 (by k_asm) (by k_asm) (by k_asm) (by k_asm) (by k_asm) (by first | exact rfl | assumption)  (by ktr_room) (by exact numSigns_take octHex _) ?_; k_whole; intro h' tk' t' F' N'; (try dsimp only); (try k_sweep); (try k_fold)))
  k_with "my call ref" => (k_here; (with_reducible show wpAny _ _ (call (Value.ref 193) _ _) _ _ _); k_dflt (refine number_of_10 (by k_asm) (by k_asm) (by k_asm) (by k_asm) (by k_asm) (by first | exact rfl | assumption)  (by ktr_room) (by exact numSigns_take decHex _) ?_; k_whole; intro h' tk' t' F' N'; (try dsimp only); (try k_sweep); (try k_fold)))
  k_with "my call ref" => (k_here; (with_reducible show wpAny _ _ (call (Value.ref 116) _ _) _ _ _); k_dflt (refine sign_lit (by k_asm) (by k_asm) (by k_asm) (by k_asm) (by k_asm) (by first | exact rfl | assumption) (by k_mem) (by k_mem) (by assumption) (by ktr_room) (by assumption) ?_; k_whole; intro h' tk' t' F' N'; (try dsimp only); (try k_sweep); (try k_fold)))
  k_with "my call ref" => (k_here; (with_reducible show wpAny _ _ (call (Value.ref 116) _ _) _ _ _); k_dflt (refine sign0_lit (by k_asm) (by k_asm) (by k_asm) (by k_asm) (by k_asm) (by first | exact rfl | assumption) (by k_mem) (by k_mem) (by assumption) (by ktr_room) (by assumption) ?_; k_whole; intro h' tk' t' F' N'; (try dsimp only); (try k_sweep); (try k_fold)))
  exact trivial
section
variable {w : World} {p : Program} {loose : List Str} {mean : ExcName → Option Value} {mg mb : Str → Option Value} {dp un : Nat} {gd : Option (List Code)} {cn : Str} {cs : Scope} {a : Addr} {ccd : Value} {cl : List (Str × Addr)} {outer : List Env} {A₀ : Around} {base h₀ : Heap} {L : Addr} {m : Str → Option Value} {news : List (Addr × Obj)} {s : Shared} {Q E : Value → Shared → Prop}
  (B : Below A₀ base outer h₀) (F : Fr h₀ L s.heap m) (X : (kk.heap_1 w.params).In h₀)
variable {sg d : Addr} {k1 k2 k3 k4 : Tok} {T : Str} {tT : Tok} {n : Nat} {ta tl tc : Tok} {rest : List (Addr × Obj)}
  (N : News h₀ L s.heap ((d, sgS w k1 k2 k3 k4 T tT n ta tl tc) :: (sg, instObj 147 d) :: rest)) (Tp : Top p loose mean mg mb h₀) (hk : cs.kind = .function)
  (hsd : @Ne Nat sg d) (hne : ∀ p ∈ rest, p.1 ≠ d) (hT : T.length ≤ 4096)
include B F X N Tp hk hsd hne hT
set_option maxHeartbeats 4000000 in
theorem based_none (hd : dp + 4 < recursionLimit) (hs0 : (sgn ((cpl T).drop n) 0 == Str.ofString "0") = false)
    (hret : ∀ h' tk', Fr h₀ L h' m → News h₀ L h' ((d, sgS w k1 k2 k3 k4 T tT n ta tl tc) :: (sg, instObj 147 d) :: rest) → Q .none { s with heap := h', toks := tk' }) :
    wpAny (model PySem.Challenge.pw_np0234_01 w) (ktrTop dp un gd cn cs L a ccd cl outer) (call (.ref 200) [.ref sg]) Q E s := by
  refine wpAny_call ?_
  k_dflt k_extra "enter"
  k_steps
  exact hret _ _ (by k_asm) (by first | k_asm | exact news_tail (by k_asm) | exact news_drop3 (by k_asm) | exact news_tail (news_tail (by k_asm)))
set_option maxHeartbeats 4000000 in
theorem based_hex (hd : dp + 4 < recursionLimit) (hs0 : sgn ((cpl T).drop n) 0 = Str.ofString "0") (hs1 : sgn ((cpl T).drop n) 1 = Str.ofString "x") (hs2 : has sHEX (((cpl T).drop n).drop 2) = true)
    (hret : ∀ h' tk' t' ta' tl' tc', Fr h₀ L h' m → News h₀ L h' ((d, sgS w k1 k2 k3 k4 T tT (n + (2 + tkw sHEX (((cpl T).drop n).drop 2))) ta' tl' tc') :: (sg, instObj 147 d) :: rest) → Q (.int (numOf (txt (((cpl T).drop n).drop 2) (tkw sHEX (((cpl T).drop n).drop 2))) 16) t') { s with heap := h', toks := tk' }) :
    wpAny (model PySem.Challenge.pw_np0234_01 w) (ktrTop dp un gd cn cs L a ccd cl outer) (call (.ref 200) [.ref sg]) Q E s := by
  rw [List.drop_drop] at hs2 hret
  refine wpAny_call ?_
  k_dflt k_extra "enter"
  k_steps
  · exact hret _ _ _ _ _ _ (by k_asm) (by rw [← Nat.add_assoc]; first | k_asm | exact news_tail (by k_asm) | exact news_drop3 (by k_asm) | exact news_tail (news_tail (by k_asm)))
  · rename among _ _ = false => h3
    have h3 := among_has h3
    rw [List.drop_drop] at h3
    exact absurd (hs2.symm.trans h3) (by decide)
set_option maxHeartbeats 4000000 in
theorem based_oct (hd : dp + 4 < recursionLimit) (hs0 : sgn ((cpl T).drop n) 0 = Str.ofString "0") (hs1 : sgn ((cpl T).drop n) 1 = Str.ofString "O") (hs2 : has sOCT (((cpl T).drop n).drop 2) = true)
    (hret : ∀ h' tk' t' ta' tl' tc', Fr h₀ L h' m → News h₀ L h' ((d, sgS w k1 k2 k3 k4 T tT (n + (2 + tkw sOCT (((cpl T).drop n).drop 2))) ta' tl' tc') :: (sg, instObj 147 d) :: rest) → Q (.int (numOf (txt (((cpl T).drop n).drop 2) (tkw sOCT (((cpl T).drop n).drop 2))) 8) t') { s with heap := h', toks := tk' }) :
    wpAny (model PySem.Challenge.pw_np0234_01 w) (ktrTop dp un gd cn cs L a ccd cl outer) (call (.ref 200) [.ref sg]) Q E s := by
  rw [List.drop_drop] at hs2 hret
  refine wpAny_call ?_
  k_dflt k_extra "enter"
  k_steps
  · exact hret _ _ _ _ _ _ (by k_asm) (by rw [← Nat.add_assoc]; first | k_asm | exact news_tail (by k_asm) | exact news_drop3 (by k_asm) | exact news_tail (news_tail (by k_asm)))
  · rename among _ _ = false => h3
    have h3 := among_has h3
    rw [List.drop_drop] at h3
    exact absurd (hs2.symm.trans h3) (by decide)
end
theorem rg_M9_26 : True := by
  k_with "my call ref" => (k_here; (with_reducible show wpAny _ _ (call (Value.ref 200) _ _) _ _ _); k_dflt (refine based_none (by k_asm) (by k_asm) (by k_asm) (news_pick2 (by k_asm) (by (repeat (first | exact Pick.head | apply Pick.tail))) (by (repeat (first | exact Pick.head | apply Pick.tail)))) (by k_asm) (by first | exact rfl | assumption) (by first | assumption | k_ne) (by k_all) (by assumption) (by ktr_room) (by assumption) ?_; k_whole; intro h' tk' F' N'; (try dsimp only); (try k_sweep); (try k_fold)))
  k_with "my call ref" => (k_here; (with_reducible show wpAny _ _ (call (Value.ref 200) _ _) _ _ _); k_dflt (refine based_hex (by k_asm) (by k_asm) (by k_asm) (news_pick2 (by k_asm) (by (repeat (first | exact Pick.head | apply Pick.tail))) (by (repeat (first | exact Pick.head | apply Pick.tail)))) (by k_asm) (by first | exact rfl | assumption) (by first | assumption | k_ne) (by k_all) (by assumption) (by ktr_room) (by assumption) (by assumption) (by assumption) ?_; k_whole; intro h' tk' t' ta' tl' tc' F' N'; (try dsimp only); (try k_sweep); (try k_fold)))
  k_with "my call ref" => (k_here; (with_reducible show wpAny _ _ (call (Value.ref 200) _ _) _ _ _); k_dflt (refine based_oct (by k_asm) (by k_asm) (by k_asm) (news_pick2 (by k_asm) (by (repeat (first | exact Pick.head | apply Pick.tail))) (by (repeat (first | exact Pick.head | apply Pick.tail)))) (by k_asm) (by first | exact rfl | assumption) (by first | assumption | k_ne) (by k_all) (by assumption) (by ktr_room) (by assumption) (by assumption) (by assumption) ?_; k_whole; intro h' tk' t' ta' tl' tc' F' N'; (try dsimp only); (try k_sweep); (try k_fold)))
  exact trivial
section
variable {w : World} {p : Program} {loose : List Str} {mean : ExcName → Option Value} {mg mb : Str → Option Value} {dp un : Nat} {gd : Option (List Code)} {cn : Str} {cs : Scope} {a : Addr} {ccd : Value} {cl : List (Str × Addr)} {outer : List Env} {A₀ : Around} {base h₀ : Heap} {L : Addr} {m : Str → Option Value} {news : List (Addr × Obj)} {s : Shared} {Q E : Value → Shared → Prop}
  (B : Below A₀ base outer h₀) (F : Fr h₀ L s.heap m) (X : (kk.heap_1 w.params).In h₀)
variable {sg d : Addr} {k1 k2 k3 k4 : Tok} {T : Str} {tT : Tok} {n : Nat} {ta tl tc : Tok} {rest : List (Addr × Obj)}
  (N : News h₀ L s.heap ((d, sgS w k1 k2 k3 k4 T tT n ta tl tc) :: (sg, instObj 147 d) :: rest)) (Tp : Top p loose mean mg mb h₀) (hk : cs.kind = .function)
  (hsd : @Ne Nat sg d) (hne : ∀ p ∈ rest, p.1 ≠ d) (hT : T.length ≤ 4096)
include B F X N Tp hk hsd hne hT
set_option maxHeartbeats 4000000 in
theorem read_number_spec {v : Int} {k : Nat} (hd : dp + 5 < recursionLimit) (hn : NumOk ((cpl T).drop n) v k)
    (hret : ∀ h' tk' t' ta' tl' tc', Fr h₀ L h' m → News h₀ L h' ((d, sgS w k1 k2 k3 k4 T tT (n + k) ta' tl' tc') :: (sg, instObj 147 d) :: rest) → Q (.int v t') { s with heap := h', toks := tk' }) :
    wpAny (model PySem.Challenge.pw_np0234_01 w) (ktrTop dp un gd cn cs L a ccd cl outer) (call (.ref 207) [.ref sg]) Q E s := by
  cases hn
  all_goals
    refine wpAny_call ?_
    k_dflt k_extra "enter"
    k_steps
    exact hret _ _ _ _ _ _ (by k_asm) (by k_asm)
end
/-- the end of a for's turn -/
theorem rg_F0_27 : True := by
  k_with_none
  k_with "all" => assumption
  k_with "enter" => (refine' code_def ?enk1 ?enk2 ?enk3 ?enk4 ?enk5 ?enkA ?enkF ?enkK ?enk6 ?enk7 ?enk8 ?enk9 ?enkB ?_ ?enc2 ?enc3 ?enc4 ?enc5; (case enkA => exact rfl); (case enkF => exact rfl); (case enkK => first | exact rfl | assumption); (case enk1 => k_asm); (case enk2 => k_asm); (case enk3 => k_asm); (case enk4 => k_asm); (case enk5 => k_asm); (case enk6 => k_is); (case enk7 => k_is); (case enk8 => ktr_room); (case enk9 => first | exact BindsTo.of_eq rfl | exact binds_K (by k_in) rfl (by k_is) rfl rfl rfl); (case enc5 => decide); (case enkB => exact locs rfl); (case enc2 => exact rfl); (case enc3 => exact rfl); (case enc4 => exact rfl); k_whole; intro g' L' h' FG' F' N' B' X' T'; (try dsimp only); (try k_fold))
  k_with "my leaving ref" => (k_here; k_dflt (first | (refine leave_onR (by assumption) (by k_asm) (by k_asm) (by k_asm) ?_; k_whole; intro h' R' _ U'; (try dsimp only)) | (refine leave_we (by k_asm) (by k_asm) (by k_asm) ?_ (by exact rfl); k_whole; intro h' R' U'; (try dsimp only))))
  exact trivial
noncomputable def ForEnd {σ : Type} (h₀ : Heap) (L : Addr) (s : Shared) (I : Addr) (Inv : Nat → σ → Prop) (ms : σ → Str → Option Value) (nw : σ → List (Addr × Obj)) (nm : Str) (own : List (Addr × Obj)) (Q : Flow → Shared → Prop) (i : Nat) (f : Flow) (s₃ : Shared) : Prop :=
  match f with
  | .next | .cont => ∃ h' tk m₂ x', s₃ = { s with heap := h', toks := tk } ∧ Fr h₀ L h' m₂ ∧ (∀ y, y ≠ nm → m₂ y = ms x' y) ∧ News h₀ L h' (nw x' ++ own) ∧ (∀ p ∈ nw x', p.1 ≠ I) ∧ Inv (i + 1) x'
  | .brk => Q .next s₃
  | .ret v => Q (.ret v) s₃
theorem ForEnd.next {σ : Type} {h₀ h' : Heap} {L : Addr} {s : Shared} {I : Addr} {Inv : Nat → σ → Prop} {ms : σ → Str → Option Value} {nw : σ → List (Addr × Obj)} {nm : Str} {own : List (Addr × Obj)} {Q : Flow → Shared → Prop} {i tk : Nat} {m₂ : Str → Option Value} (x' : σ)
    (F : Fr h₀ L h' m₂) (hm : ∀ y, y ≠ nm → m₂ y = ms x' y) (N : News h₀ L h' (nw x' ++ own)) (hI : ∀ p ∈ nw x', p.1 ≠ I) (hx : Inv (i + 1) x') : ForEnd h₀ L s I Inv ms nw nm own Q i .next { s with heap := h', toks := tk } :=
  ⟨h', tk, m₂, x', rfl, F, hm, N, hI, hx⟩
theorem for_walk {σ : Type} {prog : Program} {w : World} {A : Around} {E : Value → Shared → Prop} {Q : Flow → Shared → Prop} {s : Shared} {env : Env} {h₀ : Heap} {body : List Stmt} {I : Addr} {n : Nat} {P : Nat → Value → Prop} {St : Nat → Heap → Prop} {nm : Str}
    (W : Walks prog w A I [I] [I] n P St) (hget : ∀ i h, St i h → ∃ o, h.get? I = some o) (hLf : env.locals ≠ I) (hwr : h₀.get? I = none) (hst : St 0 s.heap)
    (ms : σ → Str → Option Value) (nw : σ → List (Addr × Obj)) (Inv : Nat → σ → Prop) (x₀ : σ) (hI0 : ∀ p ∈ nw x₀, p.1 ≠ I)
    (F : Fr h₀ env.locals s.heap (ms x₀)) (N : News h₀ env.locals s.heap (nw x₀)) (h0 : Inv 0 x₀)
    (turn : ∀ i v x h tk own, i < n → P i v → Inv i x → (∀ p ∈ own, p.1 = I) → (∃ o, (I, o) ∈ own) → (∀ p ∈ nw x, p.1 ≠ I) → Fr h₀ env.locals h (fun y => if y = nm then some v else ms x y) → News h₀ env.locals h (nw x ++ own) →
      wpAny (model prog w) A (execs body env) (ForEnd h₀ env.locals s I Inv ms nw nm own Q i) E { s with heap := h, toks := tk })
    (done : ∀ x u h tk, Inv n x → Fr h₀ env.locals h (fun y => if y = nm then u else ms x y) → News h₀ env.locals h (nw x) → Q .next { s with heap := h, toks := tk }) :
    LoopAtV prog w A h₀ env nm body Q E (.ref I) s := by
  refine ⟨I, [I], [I], n, P, St, ms x₀, nw x₀, fun i m nx => ∃ x, (∀ y, y ≠ nm → m y = ms x y) ∧ nx = nw x ∧ Inv i x, rfl, W, fun h => hLf (List.mem_singleton.mp h), fun b hb => by rw [List.mem_singleton.mp hb]; exact hwr, fun p hp hm => hI0 p hp (List.mem_singleton.mp hm), hst, F, N, ⟨x₀, fun _ _ => rfl, rfl, h0⟩, ?_, ?_⟩
  · rintro i v m₁ nx s₁ own ⟨h, tk, rfl⟩ hi hP ⟨x, hm, rfl, hx⟩ hoff hown hownAt hownAll hst' F₁ N₁
    have em : (fun y => if y = nm then some v else m₁ y) = (fun y => if y = nm then some v else ms x y) := by
      funext y
      by_cases hy : y = nm
      · simp [hy]
      · simp [hy, hm y hy]
    rw [em] at F₁
    obtain ⟨o, ho⟩ := hget _ _ hst'
    have N₂ : News h₀ env.locals h (nw x ++ own) := fun p hp => N₁ p (by
      rcases List.mem_append.mp hp with hp | hp
      · exact List.mem_append.mpr (.inr hp)
      · exact List.mem_append.mpr (.inl hp))
    refine wpAny_mono (turn i v x h tk own hi hP hx (fun p hp => List.mem_singleton.mp (hown p hp)) ⟨o, hownAll I (.head _) hwr o ho⟩ (fun p hp e => hoff p hp (by rw [e]; exact .head _)) F₁ N₂) (fun f s₃ q => ?_) fun _ _ e => e
    have fin : (∃ h' tk m₂ x', s₃ = { s with heap := h', toks := tk } ∧ Fr h₀ env.locals h' m₂ ∧ (∀ y, y ≠ nm → m₂ y = ms x' y) ∧ News h₀ env.locals h' (nw x' ++ own) ∧ (∀ p ∈ nw x', p.1 ≠ I) ∧ Inv (i + 1) x') →
        LoopStepU h₀ env.locals [I] own (fun m nx => ∃ x, (∀ y, y ≠ nm → m y = ms x y) ∧ nx = nw x ∧ Inv (i + 1) x) { s with heap := h, toks := tk } .next s₃ := by
      rintro ⟨h', tk', m₂, x', rfl, F', hm', N', hI', hx'⟩
      refine ⟨rfl, h', tk', m₂, nw x', rfl, F', fun p hp => N' p ?_, fun p hp hm => hI' p hp (List.mem_singleton.mp hm), x', hm', rfl, hx'⟩
      rcases List.mem_append.mp hp with hp | hp
      · exact List.mem_append.mpr (.inr hp)
      · exact List.mem_append.mpr (.inl hp)
    cases f with
    | ret v => exact q
    | brk => exact q
    | next => exact fin q
    | cont => exact fin q
  · rintro h' tk m' nx F' N' _ ⟨x, hm, rfl, hx⟩
    refine done x (m' nm) h' tk hx (Fr_ext F' fun y => ?_) N'
    by_cases hy : y = nm
    · simp [hy]
    · simp [hy, hm y hy]
theorem for_str {σ : Type} {prog : Program} {w : World} {A : Around} {E : Value → Shared → Prop} {Q : Flow → Shared → Prop} {s : Shared} {env : Env} {h₀ : Heap} {body : List Stmt} {nm : Str} {xt : Str} {tx : Tok}
    (hh : A.handled = none) (ms : σ → Str → Option Value) (nw : σ → List (Addr × Obj)) (Inv : Nat → σ → Prop) (x₀ : σ)
    (F : Fr h₀ env.locals s.heap (ms x₀)) (N : News h₀ env.locals s.heap (nw x₀)) (h0 : Inv 0 x₀)
    (turn : ∀ I i c u x h tk own, xt.cps[i]? = some c → Inv i x → (∀ p ∈ own, p.1 = I) → (∃ o, (I, o) ∈ own) → (∀ p ∈ nw x, p.1 ≠ I) → Fr h₀ env.locals h (fun y => if y = nm then some (.str ⟨#[c]⟩ u) else ms x y) → News h₀ env.locals h (nw x ++ own) →
      wpAny (model prog w) A (execs body env) (ForEnd h₀ env.locals s I Inv ms nw nm own Q i) E { s with heap := h, toks := tk })
    (done : ∀ x u h tk, Inv xt.cps.size x → Fr h₀ env.locals h (fun y => if y = nm then u else ms x y) → News h₀ env.locals h (nw x) → Q .next { s with heap := h, toks := tk }) :
    wpAny (model prog w) A (pyIter (.str xt tx)) (fun it s₂ => LoopAtV prog w A h₀ env nm body Q E it s₂) E s := by
  have key : ∀ (o : Obj) (St : Nat → Heap → Prop), Walks prog w A s.heap.objs.size [s.heap.objs.size] [s.heap.objs.size] xt.cps.size (SignAt xt) St → (∀ i h, St i h → ∃ o, h.get? s.heap.objs.size = some o) → St 0 (s.heap.push o) →
      LoopAtV prog w A h₀ env nm body Q E (.ref s.heap.objs.size) { s with heap := s.heap.push o } := by
    intro o St W hget hst
    refine for_walk W hget ?_ (next_is_new F) hst ms nw Inv x₀ ?_ (F.push _) (fun p hp => ⟨Heap.get?_push_of_some _ (N p hp).1, (N p hp).2⟩) h0 ?_ ?_
    · intro hm
      exact absurd F.ns.lt (hm ▸ Nat.lt_irrefl _)
    · intro p hp hI
      exact absurd (Heap.lt_size (N p hp).1) (hI ▸ Nat.lt_irrefl _)
    · rintro i v x h tk own hi ⟨c, u, hc, rfl⟩ hx h1 h2 h3 F₁ N₁
      exact turn _ i c u x h tk own hc hx h1 h2 h3 F₁ N₁
    · intro x u h tk hx F₁ N₁
      exact done x u h tk hx F₁ N₁
  cases ha : xt.cps.all (· < 128)
  · exact wpAny_pyIter_wide ha (key _ _ (Walks.strWide hh _ xt tx) (fun i h st => ⟨_, st.choose_spec.1⟩) ⟨_, Heap.get?_push_size _ rfl, rfl, rfl⟩)
  · exact wpAny_pyIter_ascii ha (key _ _ (Walks.strAscii hh _ xt tx) (fun i h st => ⟨_, st.choose_spec.1⟩) ⟨_, Heap.get?_push_size _ rfl, rfl, rfl⟩)
theorem for_range {σ : Type} {prog : Program} {w : World} {A : Around} {E : Value → Shared → Prop} {Q : Flow → Shared → Prop} {s : Shared} {env : Env} {h₀ : Heap} {body : List Stmt} {nm : Str} {r : Addr} {b₀ : Int} {t₀ u₀ v₀ : Tok} {n : Nat}
    (hh : A.handled = none) (hr : IsRange s.heap r 0 b₀ 1 t₀ u₀ v₀) (hb : b₀ = (n : Int)) (hn : n ≤ 100000) (ms : σ → Str → Option Value) (nw : σ → List (Addr × Obj)) (Inv : Nat → σ → Prop) (x₀ : σ)
    (F : Fr h₀ env.locals s.heap (ms x₀)) (N : News h₀ env.locals s.heap (nw x₀)) (h0 : Inv 0 x₀)
    (turn : ∀ I i u x h tk own, i < n → Inv i x → (∀ p ∈ own, p.1 = I) → (∃ o, (I, o) ∈ own) → (∀ p ∈ nw x, p.1 ≠ I) → Fr h₀ env.locals h (fun y => if y = nm then some (.int (i : Int) u) else ms x y) → News h₀ env.locals h (nw x ++ own) →
      wpAny (model prog w) A (execs body env) (ForEnd h₀ env.locals s I Inv ms nw nm own Q i) E { s with heap := h, toks := tk })
    (done : ∀ x u h tk, Inv n x → Fr h₀ env.locals h (fun y => if y = nm then u else ms x y) → News h₀ env.locals h (nw x) → Q .next { s with heap := h, toks := tk }) :
    wpAny (model prog w) A (pyIter (.ref r)) (fun it s₂ => LoopAtV prog w A h₀ env nm body Q E it s₂) E s := by
  have hsz : Builtin.Range.rangeSize 0 b₀ 1 = (n : Int) := by
    subst hb
    rw [rangeSize_nat]; omega
  have hsmall : Builtin.Range.small 0 b₀ 1 = true := by
    subst hb
    exact small_one (by omega) (by omega) (by omega) (by omega)
  refine wpAny_pyIter_range hr hsmall ?_
  have W : Walks prog w A s.heap.objs.size [s.heap.objs.size] [s.heap.objs.size] n (fun i v => i < n ∧ ∃ t, v = .int (0 + i * 1) t)
      (fun i h => IsRangeIter h s.heap.objs.size (0 + (i : Nat) * 1) ((n : Int) - (i : Nat)) 1) := (Walks.range hh _ 0 1 n).bound
  refine for_walk W (fun i h st => ⟨_, st⟩) ?_ (next_is_new F) (by show IsRangeIter _ _ _ _ _; rw [hsz]; simpa using Heap.get?_push_size _ rfl) ms nw Inv x₀ ?_ (F.push _) (fun p hp => ⟨Heap.get?_push_of_some _ (N p hp).1, (N p hp).2⟩) h0 ?_ ?_
  · intro hm
    exact absurd F.ns.lt (hm ▸ Nat.lt_irrefl _)
  · intro p hp hI
    exact absurd (Heap.lt_size (N p hp).1) (hI ▸ Nat.lt_irrefl _)
  · rintro i v x h tk own hi ⟨_, u, rfl⟩ hx h1 h2 h3 F₁ N₁
    have e0 : (0 : Int) + (i : Int) * 1 = (i : Int) := by omega
    rw [e0] at F₁
    exact turn _ i u x h tk own hi hx h1 h2 h3 F₁ N₁
  · intro x u h tk hx F₁ N₁
    exact done x u h tk hx F₁ N₁
theorem for_range_var0 {σ : Type} {prog : Program} {w : World} {A : Around} {E : Value → Shared → Prop} {Q : Flow → Shared → Prop} {s : Shared} {env : Env} {h₀ : Heap} {body : List Stmt} {nm : Str} {r : Addr} {b₀ : Int} {t₀ u₀ v₀ : Tok} {M : Str → Option Value}
    (n : Nat)   (Inv : Nat → σ → Prop) (nw : σ → List (Addr × Obj)) (x₀ : σ) (hh : A.handled = none) (hr : IsRange s.heap r 0 b₀ 1 t₀ u₀ v₀) (hb : b₀ = (n : Int)) (hn : n ≤ 100000)
    (F : Fr h₀ env.locals s.heap (fun y => M y)) (N : News h₀ env.locals s.heap (nw x₀)) (h0 : Inv 0 x₀)
    (turn : ∀ I i u x h tk own, i < n → Inv i x → (∀ p ∈ own, p.1 = I) → (∃ o, (I, o) ∈ own) → (∀ p ∈ nw x, p.1 ≠ I) → Fr h₀ env.locals h (fun y => if y = nm then some (.int (i : Int) u) else M y) → News h₀ env.locals h (nw x ++ own) →
      wpAny (model prog w) A (execs body env) (ForEnd h₀ env.locals s I Inv (fun x y => M y) nw nm own Q i) E { s with heap := h, toks := tk })
    (done : ∀ x u h tk, Inv n x → Fr h₀ env.locals h (fun y => if y = nm then u else M y) → News h₀ env.locals h (nw x) → Q .next { s with heap := h, toks := tk }) :
    wpAny (model prog w) A (pyIter (.ref r)) (fun it s₂ => LoopAtV prog w A h₀ env nm body Q E it s₂) E s := for_range hh hr hb hn (fun x y => M y) nw Inv x₀ F N h0 turn done
theorem for_range_var1 {σ : Type} {prog : Program} {w : World} {A : Around} {E : Value → Shared → Prop} {Q : Flow → Shared → Prop} {s : Shared} {env : Env} {h₀ : Heap} {body : List Stmt} {nm : Str} {r : Addr} {b₀ : Int} {t₀ u₀ v₀ : Tok} {M : Str → Option Value}
    (n : Nat) (v1 : Str) (val1 : σ → Value) (Inv : Nat → σ → Prop) (nw : σ → List (Addr × Obj)) (x₀ : σ) (hh : A.handled = none) (hr : IsRange s.heap r 0 b₀ 1 t₀ u₀ v₀) (hb : b₀ = (n : Int)) (hn : n ≤ 100000)
    (F : Fr h₀ env.locals s.heap (fun y => if y = v1 then some (val1 x₀) else M y)) (N : News h₀ env.locals s.heap (nw x₀)) (h0 : Inv 0 x₀)
    (turn : ∀ I i u x h tk own, i < n → Inv i x → (∀ p ∈ own, p.1 = I) → (∃ o, (I, o) ∈ own) → (∀ p ∈ nw x, p.1 ≠ I) → Fr h₀ env.locals h (fun y => if y = nm then some (.int (i : Int) u) else if y = v1 then some (val1 x) else M y) → News h₀ env.locals h (nw x ++ own) →
      wpAny (model prog w) A (execs body env) (ForEnd h₀ env.locals s I Inv (fun x y => if y = v1 then some (val1 x) else M y) nw nm own Q i) E { s with heap := h, toks := tk })
    (done : ∀ x u h tk, Inv n x → Fr h₀ env.locals h (fun y => if y = nm then u else if y = v1 then some (val1 x) else M y) → News h₀ env.locals h (nw x) → Q .next { s with heap := h, toks := tk }) :
    wpAny (model prog w) A (pyIter (.ref r)) (fun it s₂ => LoopAtV prog w A h₀ env nm body Q E it s₂) E s := for_range hh hr hb hn (fun x y => if y = v1 then some (val1 x) else M y) nw Inv x₀ F N h0 turn done
theorem for_range_var2 {σ : Type} {prog : Program} {w : World} {A : Around} {E : Value → Shared → Prop} {Q : Flow → Shared → Prop} {s : Shared} {env : Env} {h₀ : Heap} {body : List Stmt} {nm : Str} {r : Addr} {b₀ : Int} {t₀ u₀ v₀ : Tok} {M : Str → Option Value}
    (n : Nat) (v1 v2 : Str) (val1 : σ → Value) (val2 : σ → Value) (Inv : Nat → σ → Prop) (nw : σ → List (Addr × Obj)) (x₀ : σ) (hh : A.handled = none) (hr : IsRange s.heap r 0 b₀ 1 t₀ u₀ v₀) (hb : b₀ = (n : Int)) (hn : n ≤ 100000)
    (F : Fr h₀ env.locals s.heap (fun y => if y = v1 then some (val1 x₀) else if y = v2 then some (val2 x₀) else M y)) (N : News h₀ env.locals s.heap (nw x₀)) (h0 : Inv 0 x₀)
    (turn : ∀ I i u x h tk own, i < n → Inv i x → (∀ p ∈ own, p.1 = I) → (∃ o, (I, o) ∈ own) → (∀ p ∈ nw x, p.1 ≠ I) → Fr h₀ env.locals h (fun y => if y = nm then some (.int (i : Int) u) else if y = v1 then some (val1 x) else if y = v2 then some (val2 x) else M y) → News h₀ env.locals h (nw x ++ own) →
      wpAny (model prog w) A (execs body env) (ForEnd h₀ env.locals s I Inv (fun x y => if y = v1 then some (val1 x) else if y = v2 then some (val2 x) else M y) nw nm own Q i) E { s with heap := h, toks := tk })
    (done : ∀ x u h tk, Inv n x → Fr h₀ env.locals h (fun y => if y = nm then u else if y = v1 then some (val1 x) else if y = v2 then some (val2 x) else M y) → News h₀ env.locals h (nw x) → Q .next { s with heap := h, toks := tk }) :
    wpAny (model prog w) A (pyIter (.ref r)) (fun it s₂ => LoopAtV prog w A h₀ env nm body Q E it s₂) E s := for_range hh hr hb hn (fun x y => if y = v1 then some (val1 x) else if y = v2 then some (val2 x) else M y) nw Inv x₀ F N h0 turn done
theorem for_range_var4 {σ : Type} {prog : Program} {w : World} {A : Around} {E : Value → Shared → Prop} {Q : Flow → Shared → Prop} {s : Shared} {env : Env} {h₀ : Heap} {body : List Stmt} {nm : Str} {r : Addr} {b₀ : Int} {t₀ u₀ v₀ : Tok} {M : Str → Option Value}
    (n : Nat) (v1 v2 v3 v4 : Str) (val1 : σ → Value) (val2 : σ → Value) (val3 : σ → Value) (val4 : σ → Value) (Inv : Nat → σ → Prop) (nw : σ → List (Addr × Obj)) (x₀ : σ) (hh : A.handled = none) (hr : IsRange s.heap r 0 b₀ 1 t₀ u₀ v₀) (hb : b₀ = (n : Int)) (hn : n ≤ 100000)
    (F : Fr h₀ env.locals s.heap (fun y => if y = v1 then some (val1 x₀) else if y = v2 then some (val2 x₀) else if y = v3 then some (val3 x₀) else if y = v4 then some (val4 x₀) else M y)) (N : News h₀ env.locals s.heap (nw x₀)) (h0 : Inv 0 x₀)
    (turn : ∀ I i u x h tk own, i < n → Inv i x → (∀ p ∈ own, p.1 = I) → (∃ o, (I, o) ∈ own) → (∀ p ∈ nw x, p.1 ≠ I) → Fr h₀ env.locals h (fun y => if y = nm then some (.int (i : Int) u) else if y = v1 then some (val1 x) else if y = v2 then some (val2 x) else if y = v3 then some (val3 x) else if y = v4 then some (val4 x) else M y) → News h₀ env.locals h (nw x ++ own) →
      wpAny (model prog w) A (execs body env) (ForEnd h₀ env.locals s I Inv (fun x y => if y = v1 then some (val1 x) else if y = v2 then some (val2 x) else if y = v3 then some (val3 x) else if y = v4 then some (val4 x) else M y) nw nm own Q i) E { s with heap := h, toks := tk })
    (done : ∀ x u h tk, Inv n x → Fr h₀ env.locals h (fun y => if y = nm then u else if y = v1 then some (val1 x) else if y = v2 then some (val2 x) else if y = v3 then some (val3 x) else if y = v4 then some (val4 x) else M y) → News h₀ env.locals h (nw x) → Q .next { s with heap := h, toks := tk }) :
    wpAny (model prog w) A (pyIter (.ref r)) (fun it s₂ => LoopAtV prog w A h₀ env nm body Q E it s₂) E s := for_range hh hr hb hn (fun x y => if y = v1 then some (val1 x) else if y = v2 then some (val2 x) else if y = v3 then some (val3 x) else if y = v4 then some (val4 x) else M y) nw Inv x₀ F N h0 turn done
theorem for_str_var0 {σ : Type} {prog : Program} {w : World} {A : Around} {E : Value → Shared → Prop} {Q : Flow → Shared → Prop} {s : Shared} {env : Env} {h₀ : Heap} {body : List Stmt} {nm : Str} {xt : Str} {tx : Tok} {M : Str → Option Value}
       (Inv : Nat → σ → Prop) (nw : σ → List (Addr × Obj)) (x₀ : σ) (hh : A.handled = none)
    (F : Fr h₀ env.locals s.heap (fun y => M y)) (N : News h₀ env.locals s.heap (nw x₀)) (h0 : Inv 0 x₀)
    (turn : ∀ I i c u x h tk own, xt.cps[i]? = some c → Inv i x → (∀ p ∈ own, p.1 = I) → (∃ o, (I, o) ∈ own) → (∀ p ∈ nw x, p.1 ≠ I) → Fr h₀ env.locals h (fun y => if y = nm then some (.str ⟨#[c]⟩ u) else M y) → News h₀ env.locals h (nw x ++ own) →
      wpAny (model prog w) A (execs body env) (ForEnd h₀ env.locals s I Inv (fun x y => M y) nw nm own Q i) E { s with heap := h, toks := tk })
    (done : ∀ x u h tk, Inv xt.cps.size x → Fr h₀ env.locals h (fun y => if y = nm then u else M y) → News h₀ env.locals h (nw x) → Q .next { s with heap := h, toks := tk }) :
    wpAny (model prog w) A (pyIter (.str xt tx)) (fun it s₂ => LoopAtV prog w A h₀ env nm body Q E it s₂) E s := for_str hh (fun x y => M y) nw Inv x₀ F N h0 turn done
theorem for_str_var1 {σ : Type} {prog : Program} {w : World} {A : Around} {E : Value → Shared → Prop} {Q : Flow → Shared → Prop} {s : Shared} {env : Env} {h₀ : Heap} {body : List Stmt} {nm : Str} {xt : Str} {tx : Tok} {M : Str → Option Value}
     (v1 : Str) (val1 : σ → Value) (Inv : Nat → σ → Prop) (nw : σ → List (Addr × Obj)) (x₀ : σ) (hh : A.handled = none)
    (F : Fr h₀ env.locals s.heap (fun y => if y = v1 then some (val1 x₀) else M y)) (N : News h₀ env.locals s.heap (nw x₀)) (h0 : Inv 0 x₀)
    (turn : ∀ I i c u x h tk own, xt.cps[i]? = some c → Inv i x → (∀ p ∈ own, p.1 = I) → (∃ o, (I, o) ∈ own) → (∀ p ∈ nw x, p.1 ≠ I) → Fr h₀ env.locals h (fun y => if y = nm then some (.str ⟨#[c]⟩ u) else if y = v1 then some (val1 x) else M y) → News h₀ env.locals h (nw x ++ own) →
      wpAny (model prog w) A (execs body env) (ForEnd h₀ env.locals s I Inv (fun x y => if y = v1 then some (val1 x) else M y) nw nm own Q i) E { s with heap := h, toks := tk })
    (done : ∀ x u h tk, Inv xt.cps.size x → Fr h₀ env.locals h (fun y => if y = nm then u else if y = v1 then some (val1 x) else M y) → News h₀ env.locals h (nw x) → Q .next { s with heap := h, toks := tk }) :
    wpAny (model prog w) A (pyIter (.str xt tx)) (fun it s₂ => LoopAtV prog w A h₀ env nm body Q E it s₂) E s := for_str hh (fun x y => if y = v1 then some (val1 x) else M y) nw Inv x₀ F N h0 turn done
theorem for_str_var2 {σ : Type} {prog : Program} {w : World} {A : Around} {E : Value → Shared → Prop} {Q : Flow → Shared → Prop} {s : Shared} {env : Env} {h₀ : Heap} {body : List Stmt} {nm : Str} {xt : Str} {tx : Tok} {M : Str → Option Value}
     (v1 v2 : Str) (val1 : σ → Value) (val2 : σ → Value) (Inv : Nat → σ → Prop) (nw : σ → List (Addr × Obj)) (x₀ : σ) (hh : A.handled = none)
    (F : Fr h₀ env.locals s.heap (fun y => if y = v1 then some (val1 x₀) else if y = v2 then some (val2 x₀) else M y)) (N : News h₀ env.locals s.heap (nw x₀)) (h0 : Inv 0 x₀)
    (turn : ∀ I i c u x h tk own, xt.cps[i]? = some c → Inv i x → (∀ p ∈ own, p.1 = I) → (∃ o, (I, o) ∈ own) → (∀ p ∈ nw x, p.1 ≠ I) → Fr h₀ env.locals h (fun y => if y = nm then some (.str ⟨#[c]⟩ u) else if y = v1 then some (val1 x) else if y = v2 then some (val2 x) else M y) → News h₀ env.locals h (nw x ++ own) →
      wpAny (model prog w) A (execs body env) (ForEnd h₀ env.locals s I Inv (fun x y => if y = v1 then some (val1 x) else if y = v2 then some (val2 x) else M y) nw nm own Q i) E { s with heap := h, toks := tk })
    (done : ∀ x u h tk, Inv xt.cps.size x → Fr h₀ env.locals h (fun y => if y = nm then u else if y = v1 then some (val1 x) else if y = v2 then some (val2 x) else M y) → News h₀ env.locals h (nw x) → Q .next { s with heap := h, toks := tk }) :
    wpAny (model prog w) A (pyIter (.str xt tx)) (fun it s₂ => LoopAtV prog w A h₀ env nm body Q E it s₂) E s := for_str hh (fun x y => if y = v1 then some (val1 x) else if y = v2 then some (val2 x) else M y) nw Inv x₀ F N h0 turn done
theorem for_str_var4 {σ : Type} {prog : Program} {w : World} {A : Around} {E : Value → Shared → Prop} {Q : Flow → Shared → Prop} {s : Shared} {env : Env} {h₀ : Heap} {body : List Stmt} {nm : Str} {xt : Str} {tx : Tok} {M : Str → Option Value}
     (v1 v2 v3 v4 : Str) (val1 : σ → Value) (val2 : σ → Value) (val3 : σ → Value) (val4 : σ → Value) (Inv : Nat → σ → Prop) (nw : σ → List (Addr × Obj)) (x₀ : σ) (hh : A.handled = none)
    (F : Fr h₀ env.locals s.heap (fun y => if y = v1 then some (val1 x₀) else if y = v2 then some (val2 x₀) else if y = v3 then some (val3 x₀) else if y = v4 then some (val4 x₀) else M y)) (N : News h₀ env.locals s.heap (nw x₀)) (h0 : Inv 0 x₀)
    (turn : ∀ I i c u x h tk own, xt.cps[i]? = some c → Inv i x → (∀ p ∈ own, p.1 = I) → (∃ o, (I, o) ∈ own) → (∀ p ∈ nw x, p.1 ≠ I) → Fr h₀ env.locals h (fun y => if y = nm then some (.str ⟨#[c]⟩ u) else if y = v1 then some (val1 x) else if y = v2 then some (val2 x) else if y = v3 then some (val3 x) else if y = v4 then some (val4 x) else M y) → News h₀ env.locals h (nw x ++ own) →
      wpAny (model prog w) A (execs body env) (ForEnd h₀ env.locals s I Inv (fun x y => if y = v1 then some (val1 x) else if y = v2 then some (val2 x) else if y = v3 then some (val3 x) else if y = v4 then some (val4 x) else M y) nw nm own Q i) E { s with heap := h, toks := tk })
    (done : ∀ x u h tk, Inv xt.cps.size x → Fr h₀ env.locals h (fun y => if y = nm then u else if y = v1 then some (val1 x) else if y = v2 then some (val2 x) else if y = v3 then some (val3 x) else if y = v4 then some (val4 x) else M y) → News h₀ env.locals h (nw x) → Q .next { s with heap := h, toks := tk }) :
    wpAny (model prog w) A (pyIter (.str xt tx)) (fun it s₂ => LoopAtV prog w A h₀ env nm body Q E it s₂) E s := for_str hh (fun x y => if y = v1 then some (val1 x) else if y = v2 then some (val2 x) else if y = v3 then some (val3 x) else if y = v4 then some (val4 x) else M y) nw Inv x₀ F N h0 turn done
theorem rg_F1_28 : True := by
  k_with_none
  k_with "all" => assumption
  k_with "enter" => (refine' code_def ?enk1 ?enk2 ?enk3 ?enk4 ?enk5 ?enkA ?enkF ?enkK ?enk6 ?enk7 ?enk8 ?enk9 ?enkB ?_ ?enc2 ?enc3 ?enc4 ?enc5; (case enkA => exact rfl); (case enkF => exact rfl); (case enkK => first | exact rfl | assumption); (case enk1 => k_asm); (case enk2 => k_asm); (case enk3 => k_asm); (case enk4 => k_asm); (case enk5 => k_asm); (case enk6 => k_is); (case enk7 => k_is); (case enk8 => ktr_room); (case enk9 => first | exact BindsTo.of_eq rfl | exact binds_K (by k_in) rfl (by k_is) rfl rfl rfl); (case enc5 => decide); (case enkB => exact locs rfl); (case enc2 => exact rfl); (case enc3 => exact rfl); (case enc4 => exact rfl); k_whole; intro g' L' h' FG' F' N' B' X' T'; (try dsimp only); (try k_fold))
  k_with "my leaving ref" => (k_here; k_dflt (first | (refine leave_onR (by assumption) (by k_asm) (by k_asm) (by k_asm) ?_; k_whole; intro h' R' _ U'; (try dsimp only)) | (refine leave_we (by k_asm) (by k_asm) (by k_asm) ?_ (by exact rfl); k_whole; intro h' R' U'; (try dsimp only))))
  exact trivial
noncomputable def NAMES : List Str := [Str.ofString "NUL", Str.ofString "SOH", Str.ofString "STX", Str.ofString "ETX", Str.ofString "EOT", Str.ofString "ENQ", Str.ofString "ACK", Str.ofString "BEL", Str.ofString "BS", Str.ofString "HT", Str.ofString "LF", Str.ofString "VT", Str.ofString "FF", Str.ofString "CR", Str.ofString "SO", Str.ofString "SI", Str.ofString "DLE", Str.ofString "DC1", Str.ofString "DC2", Str.ofString "DC3", Str.ofString "DC4", Str.ofString "NAK", Str.ofString "SYN", Str.ofString "ETB", Str.ofString "CAN", Str.ofString "EM", Str.ofString "SUB", Str.ofString "ESC", Str.ofString "FS", Str.ofString "GS", Str.ofString "RS", Str.ofString "US", Str.ofString "SP"]
noncomputable def LENS : List Int := [3, 3, 3, 3, 3, 3, 3, 3, 2, 2, 2, 2, 2, 2, 2, 2, 3, 3, 3, 3, 3, 3, 3, 3, 3, 2, 3, 3, 2, 2, 2, 2, 2]
theorem names_lens : ∀ i, i < 33 → ((NAMES.getD i (Str.ofString "")).length : Int) = LENS.getD i 0 := by decide +kernel
theorem names_le (i : Nat) : (NAMES.getD i (Str.ofString "")).length ≤ 99 := by
  by_cases h : i < 33
  · exact (by decide +kernel : ∀ i, i < 33 → (NAMES.getD i (Str.ofString "")).length ≤ 99) i h
  · rw [List.getD_eq_getElem?_getD, List.getElem?_eq_none (by show 33 ≤ i; omega)]
    decide +kernel
theorem names_len (i : Nat) : (NAMES.getD i (Str.ofString "")).length ≤ 4096 := Nat.le_trans (names_le i) (by decide)
/-- the best name before place i -/
noncomputable def nmBest (r : List Nat) : Nat → Str × Option Nat
  | 0 => (Str.ofString "", none)
  | i + 1 => if txt r (NAMES.getD i (Str.ofString "")).length == NAMES.getD i (Str.ofString "") ∧ (NAMES.getD i (Str.ofString "")).length > (nmBest r i).1.length then (NAMES.getD i (Str.ofString ""), some i) else nmBest r i
theorem nm_hit {r : List Nat} {i : Nat} {b : Str} {o : Option Nat} (hi : i < 33) (e : nmBest r i = (b, o)) (h1 : (txt r (NAMES.getD i (Str.ofString "")).length == NAMES.getD i (Str.ofString "")) = true) (h2 : (b.length : Int) < LENS.getD i 0) :
    nmBest r (i + 1) = (NAMES.getD i (Str.ofString ""), some i) := by
  have h3 := names_lens i hi
  show ite _ _ _ = _
  rw [if_pos ⟨h1, by rw [e]; show b.length < _; omega⟩]
theorem nm_less {r : List Nat} {i : Nat} {b : Str} {o : Option Nat} (hi : i < 33) (e : nmBest r i = (b, o)) (h2 : ¬ (b.length : Int) < LENS.getD i 0) :
    nmBest r (i + 1) = (b, o) := by
  have h3 := names_lens i hi
  show ite _ _ _ = _
  rw [if_neg (fun h => h2 (by have := h.2; rw [e] at this; have : b.length < _ := this; omega)), e]
theorem nm_not {r : List Nat} {i : Nat} {b : Str} {o : Option Nat} (e : nmBest r i = (b, o)) (h1 : (txt r (NAMES.getD i (Str.ofString "")).length == NAMES.getD i (Str.ofString "")) = false) :
    nmBest r (i + 1) = (b, o) := by
  show ite _ _ _ = _
  rw [if_neg (fun h => by rw [h1] at h; cases h.1), e]
theorem nm_lt {r : List Nat} {o : Nat} : ∀ {k : Nat} {b : Str}, nmBest r k = (b, some o) → o < k
  | 0, _, h => by cases h
  | k + 1, b, h => by
    have h : ite _ _ _ = _ := h
    split at h
    · injection h with _ h
      injection h with h
      omega
    · exact Nat.lt_succ_of_lt (nm_lt h)
theorem map_two' {y v1 v2 nm : Str} {a b c d e X : Option Value} (hy : y ≠ nm) : (if y = v1 then a else if y = v2 then b else if y = nm then c else if y = v1 then d else if y = v2 then e else X) = (if y = v1 then a else if y = v2 then b else X) := by
  by_cases h1 : y = v1
  · simp only [if_pos h1]
  · by_cases h2 : y = v2
    · simp only [if_neg h1, if_pos h2]
    · simp only [if_neg h1, if_neg h2, if_neg hy]
theorem map_two2 {y v1 v2 nm : Str} {a b c d e X : Option Value} (hy : y ≠ nm) (hv : v1 ≠ v2) : (if y = v2 then b else if y = v1 then a else if y = nm then c else if y = v1 then d else if y = v2 then e else X) = (if y = v1 then a else if y = v2 then b else X) := by
  by_cases h1 : y = v1
  · subst h1
    simp only [if_neg hv, if_true]
  · by_cases h2 : y = v2
    · simp only [if_neg h1, if_pos h2]
    · simp only [if_neg h1, if_neg h2, if_neg hy]
theorem off_turn {d I : Addr} {o o' : Obj} {rest : List (Addr × Obj)} (h : ∀ p ∈ (d, o) :: rest, p.1 ≠ I) : ∀ p ∈ (d, o') :: rest, p.1 ≠ I := fun p hp => by
  rcases List.mem_cons.mp hp with rfl | hp
  · exact h (d, o) (.head _)
  · exact h p (.tail _ hp)
noncomputable def optV : Option Nat → Tok → Value
  | none, _ => .none
  | some i, t => .int (i : Int) t
theorem rg_F1_29 : True := by
  k_with_none
  k_with "all" => assumption
  k_with "enter" => (refine' code_def ?enk1 ?enk2 ?enk3 ?enk4 ?enk5 ?enkA ?enkF ?enkK ?enk6 ?enk7 ?enk8 ?enk9 ?enkB ?_ ?enc2 ?enc3 ?enc4 ?enc5; (case enkA => exact rfl); (case enkF => exact rfl); (case enkK => first | exact rfl | assumption); (case enk1 => k_asm); (case enk2 => k_asm); (case enk3 => k_asm); (case enk4 => k_asm); (case enk5 => k_asm); (case enk6 => k_is); (case enk7 => k_is); (case enk8 => ktr_room); (case enk9 => first | exact BindsTo.of_eq rfl | exact binds_K (by k_in) rfl (by k_is) rfl rfl rfl); (case enc5 => decide); (case enkB => exact locs rfl); (case enc2 => exact rfl); (case enc3 => exact rfl); (case enc4 => exact rfl); k_whole; intro g' L' h' FG' F' N' B' X' T'; (try dsimp only); (try k_fold))
  k_with "my leaving ref" => (k_here; k_dflt (first | (refine leave_onR (by assumption) (by k_asm) (by k_asm) (by k_asm) ?_; k_whole; intro h' R' _ U'; (try dsimp only)) | (refine leave_we (by k_asm) (by k_asm) (by k_asm) ?_ (by exact rfl); k_whole; intro h' R' U'; (try dsimp only))))
  k_with "my exec While BoolOp cons nil" => (k_here; refine Stopped.at_ ?_)
  k_with "my exec While Compare cons nil" => (k_here; refine Stopped.at_ ?_)
  k_with "my exec While Name cons nil" => (k_here; refine Stopped.at_ ?_)
  k_with "my exec For Name Call cons nil" => (k_here; k_extra "for")
  k_with "my exec For Name Name cons nil" => (k_here; k_extra "for")
  k_with "my exec For Tuple Tuple cons nil" => (k_here; k_extra "for")
  k_with "my exec While Call cons nil" => (k_here; refine Stopped.at_ ?_)
  k_with "my compareOp In str ref" => (k_here; (with_reducible show wpAny _ _ (compareOp CmpOp.In (Value.str _ _) (Value.ref _)) _ _ _); k_dflt (refine in_topK (by k_asm) (by k_asm) (by k_is) (by repeat constructor) ?_; k_whole))
  k_with "my exec Raise some none" => (k_here; k_dflt (refine raise_stmt rfl ?_))
  k_with "my RaiseAt" => (k_here; k_dflt (refine raise_at (by k_asm) (by k_asm) (by k_asm) ?_; k_whole))
  k_with "my call ref" => (k_here; (with_reducible show wpAny _ _ (call (Value.ref 158) _ _) _ _ _); k_dflt (refine is_among_spec (by k_asm) (by k_asm) (by k_asm) (by k_asm) (by k_asm) (by first | exact rfl | assumption)  (by ktr_room) ?_; k_whole; intro h' tk' F' N'; (try dsimp only); (try k_sweep); (try k_fold)))
  k_with "my call ref" => (k_here; (with_reducible show wpAny _ _ (call (Value.ref 116) _ _) _ _ _); k_dflt (refine sign_spec (by k_asm) (by k_asm) (by k_asm) (by k_asm) (by k_asm) (by first | exact rfl | assumption) (by k_mem) (by k_mem) (by assumption) (by ktr_room) ?_; k_whole; intro h' tk' t' F' N'; (try dsimp only); (try k_sweep); (try k_fold)))
  k_with "my call ref" => (k_here; (with_reducible show wpAny _ _ (call (Value.ref 116) _ _) _ _ _); k_dflt (refine sign0_spec (by k_asm) (by k_asm) (by k_asm) (by k_asm) (by k_asm) (by first | exact rfl | assumption) (by k_mem) (by k_mem) (by assumption) (by ktr_room) ?_; k_whole; intro h' tk' t' F' N'; (try dsimp only); (try k_sweep); (try k_fold)))
  k_with "my call ref" => (k_here; (with_reducible show wpAny _ _ (call (Value.ref 165) _ _) _ _ _); k_dflt (refine name_letters_spec (by k_asm) (by k_asm) (by k_asm) (by k_asm) (by k_asm) (by first | exact rfl | assumption)  (by ktr_room) ?_; k_whole; intro h' tk' t' F' N'; (try dsimp only); (try k_sweep); (try k_fold)))
  k_with "my call ref" => (k_here; (with_reducible show wpAny _ _ (call (Value.ref 123) _ _) _ _ _); k_dflt (refine starts_spec (by k_asm) (by k_asm) (by k_asm) (by k_asm) (by k_asm) (by first | exact rfl | assumption) (by k_mem) (by k_mem) (by assumption) (by ktr_room) (by first | assumption | omega | decide) ?_; k_whole; intro h' tk' F' N'; (try dsimp only); (try k_sweep); (try k_fold)))
  k_with "my call ref" => (k_here; (with_reducible show wpAny _ _ (call (Value.ref 144) _ _) _ _ _); k_dflt (refine place_spec (by k_asm) (by k_asm) (by k_asm) (by k_asm) (by k_asm) (by first | exact rfl | assumption) (by k_mem) (by k_mem) (by assumption) (by ktr_room) ?_; k_whole; intro h' tk' q F' N' l1; (try dsimp only); (try k_sweep); (try k_fold)))
  k_with "my call ref" => (k_here; (with_reducible show wpAny _ _ (call (Value.ref 130) _ _) _ _ _); k_dflt (refine step_spec (by k_asm) (by k_asm) (by k_asm) (news_pick2 (by k_asm) (by (repeat (first | exact Pick.head | apply Pick.tail))) (by (repeat (first | exact Pick.head | apply Pick.tail)))) (by k_asm) (by first | exact rfl | assumption) (by first | assumption | k_ne) (by k_all) (by assumption) (by ktr_room) ?_; k_whole; intro h' tk' t' ta' tl' tc' F' N'; (try dsimp only); (try k_sweep); (try k_fold)))
  k_with "my call ref" => (k_here; (with_reducible show wpAny _ _ (call (Value.ref 137) _ _) _ _ _); k_dflt (refine take_spec (by k_asm) (by k_asm) (by k_asm) (news_pick2 (by k_asm) (by (repeat (first | exact Pick.head | apply Pick.tail))) (by (repeat (first | exact Pick.head | apply Pick.tail)))) (by k_asm) (by first | exact rfl | assumption) (by first | assumption | k_ne) (by k_all) (by assumption) (by ktr_room) ?_; k_whole; intro h' tk' t' ta' tl' tc' F' N'; (try dsimp only); (try k_sweep); (try k_fold)))
  k_with "my call ref" => (k_here; (with_reducible show wpAny _ _ (call (Value.ref 52) _ _) _ _ _); k_dflt (refine werr_spec (by k_asm) (by k_asm) (by k_asm) (by k_asm) (by k_asm) (by first | exact rfl | assumption)  (by ktr_room) ?_; k_whole; intro e' t' D' h' tk' F' N'; (try dsimp only); (try k_sweep); (try k_fold)))
  k_with "my call ref" => (k_here; (with_reducible show wpAny _ _ (call (Value.ref 172) _ _) _ _ _); k_dflt (refine ilc_spec (by k_asm) (by k_asm) (by k_asm) (by k_asm) (by k_asm) (by first | exact rfl | assumption) (by k_mem) (by k_mem) (by assumption) (by ktr_room) ?_; k_whole; intro h' tk' F' N'; (try dsimp only); (try k_sweep); (try k_fold)))
  k_with "my call ref" => (k_here; (with_reducible show wpAny _ _ (call (Value.ref 179) _ _) _ _ _); k_dflt (refine nest_spec2 (by k_asm) (by k_asm) (by k_asm) (news_pick2 (by k_asm) (by (repeat (first | exact Pick.head | apply Pick.tail))) (by (repeat (first | exact Pick.head | apply Pick.tail)))) (by k_asm) (by first | exact rfl | assumption) (by first | assumption | k_ne) (by k_all) (by assumption) (by ktr_room) ?_ ?_ ?_; (case' refine_2 => (intro k9 hk9 h' tk' ta' tl' tc' F' N'; (try dsimp only); (try k_sweep); (try k_fold))); (case' refine_3 => (intro p0 e' t' v' h' tk' G' R' F' U'; (try dsimp only)))))
  k_with "my call ref" => (k_here; (with_reducible show wpAny _ _ (call (Value.ref 193) _ _) _ _ _); k_dflt (refine number_of_16 (by k_asm) (by k_asm) (by k_asm) (by k_asm) (by k_asm) (by first | exact rfl | assumption)  (by ktr_room) (by exact numSigns_take hexHex _) ?_; k_whole; intro h' tk' t' F' N'; (try dsimp only); (try k_sweep); (try k_fold)))
  k_with "my call ref" => (k_here; (with_reducible show wpAny _ _ (call (Value.ref 193) _ _) _ _ _); k_dflt (refine number_of_8 (by k_asm) (by k_asm) (by k_asm) (by k_asm) (by k_asm) (by first | exact rfl | assumption)  (by ktr_room) (by exact numSigns_take octHex _) ?_; k_whole; intro h' tk' t' F' N'; (try dsimp only); (try k_sweep); (try k_fold)))
  k_with "my call ref" => (k_here; (with_reducible show wpAny _ _ (call (Value.ref 193) _ _) _ _ _); k_dflt (refine number_of_10 (by k_asm) (by k_asm) (by k_asm) (by k_asm) (by k_asm) (by first | exact rfl | assumption)  (by ktr_room) (by exact numSigns_take decHex _) ?_; k_whole; intro h' tk' t' F' N'; (try dsimp only); (try k_sweep); (try k_fold)))
  k_with "my call ref" => (k_here; (with_reducible show wpAny _ _ (call (Value.ref 116) _ _) _ _ _); k_dflt (refine sign_lit (by k_asm) (by k_asm) (by k_asm) (by k_asm) (by k_asm) (by first | exact rfl | assumption) (by k_mem) (by k_mem) (by assumption) (by ktr_room) (by assumption) ?_; k_whole; intro h' tk' t' F' N'; (try dsimp only); (try k_sweep); (try k_fold)))
  k_with "my call ref" => (k_here; (with_reducible show wpAny _ _ (call (Value.ref 116) _ _) _ _ _); k_dflt (refine sign0_lit (by k_asm) (by k_asm) (by k_asm) (by k_asm) (by k_asm) (by first | exact rfl | assumption) (by k_mem) (by k_mem) (by assumption) (by ktr_room) (by assumption) ?_; k_whole; intro h' tk' t' F' N'; (try dsimp only); (try k_sweep); (try k_fold)))
  k_with "my call ref" => (k_here; (with_reducible show wpAny _ _ (call (Value.ref 123) _ _) _ _ _); k_dflt (refine starts_spec (by k_asm) (by k_asm) (by k_asm) (by k_asm) (by k_asm) (by first | exact rfl | assumption) (by k_mem) (by k_mem) (by assumption) (by ktr_room) (by first | assumption | exact names_len _ | omega | decide) ?_; k_whole; intro h' tk' F' N'; (try dsimp only); (try k_sweep); (try k_fold)))
  exact trivial
section
variable {w : World} {p : Program} {loose : List Str} {mean : ExcName → Option Value} {mg mb : Str → Option Value} {dp un : Nat} {gd : Option (List Code)} {cn : Str} {cs : Scope} {a : Addr} {ccd : Value} {cl : List (Str × Addr)} {outer : List Env} {A₀ : Around} {base h₀ : Heap} {L : Addr} {m : Str → Option Value} {news : List (Addr × Obj)} {s : Shared} {Q E : Value → Shared → Prop}
  (B : Below A₀ base outer h₀) (F : Fr h₀ L s.heap m) (X : (kk.heap_1 w.params).In h₀)
  (N : News h₀ L s.heap news) (Tp : Top p loose mean mg mb h₀) (hk : cs.kind = .function)
include B F X N Tp hk
set_option maxHeartbeats 4000000 in
theorem chk_ok {v : Int} {q : Value} {tv : Tok} (hd : dp + 3 < recursionLimit) (h0 : 0 ≤ v) (h1 : v ≤ 1114111)
    (hret : ∀ h' tk' t', Fr h₀ L h' m → News h₀ L h' news → Q (.str ⟨#[v.toNat]⟩ t') { s with heap := h', toks := tk' }) :
    wpAny (model PySem.Challenge.pw_np0234_01 w) (ktrTop dp un gd cn cs L a ccd cl outer) (call (.ref 214) [.int v tv, q]) Q E s := by
  refine wpAny_call ?_
  k_dflt k_extra "enter"
  k_steps
  exact hret _ _ _ (by k_asm) (by k_asm)
set_option maxHeartbeats 4000000 in
theorem chk_no {v : Int} {q : Addr} {tv : Tok} (hd : dp + 3 < recursionLimit) (h1 : v > 1114111)
    (hraise : ∀ e t v h' tk' G, RaisedS base G (envX cn cs L a ccd cl :: outer) e (.ref 52) t [v] [] h' → Fr h₀ L G m → G.UpToSlots h' → E (.ref e) { s with heap := h', toks := tk' }) :
    wpAny (model PySem.Challenge.pw_np0234_01 w) (ktrTop dp un gd cn cs L a ccd cl outer) (call (.ref 214) [.int v tv, .ref q]) Q E s := by
  refine wpAny_call ?_
  k_dflt k_extra "enter"
  k_steps
  exact hraise _ _ _ _ _ _ (by assumption) (by k_asm) (by assumption)
end
theorem rg_F1_30 : True := by
  k_with "my exec For Name Call cons nil" => (k_here; (rename Fr _ _ _ _ => lF'); (with_unfolding_all refine For_invVF lF' (by exact rfl) (by exact rfl) ?_; k_whole))
  k_with "my exec For Name Name cons nil" => (k_here; (rename Fr _ _ _ _ => lF'); (with_unfolding_all refine For_invVF lF' (by exact rfl) (by exact rfl) ?_; k_whole))
  k_with "my pyIter ref" => (k_here; refine Stopped.at_ ?_)
  k_with "my pyIter str" => (k_here; refine Stopped.at_ ?_)
  exact trivial
section
variable {w : World} {p : Program} {loose : List Str} {mean : ExcName → Option Value} {mg mb : Str → Option Value} {dp un : Nat} {gd : Option (List Code)} {cn : Str} {cs : Scope} {a : Addr} {ccd : Value} {cl : List (Str × Addr)} {outer : List Env} {A₀ : Around} {base h₀ : Heap} {L : Addr} {m : Str → Option Value} {news : List (Addr × Obj)} {s : Shared} {Q E : Value → Shared → Prop}
  (B : Below A₀ base outer h₀) (F : Fr h₀ L s.heap m) (X : (kk.heap_1 w.params).In h₀)
variable {sg d : Addr} {k1 k2 k3 k4 : Tok} {T : Str} {tT : Tok} {n : Nat} {ta tl tc : Tok} {rest : List (Addr × Obj)}
  (N : News h₀ L s.heap ((d, sgS w k1 k2 k3 k4 T tT n ta tl tc) :: (sg, instObj 147 d) :: rest)) (Tp : Top p loose mean mg mb h₀) (hk : cs.kind = .function)
  (hsd : @Ne Nat sg d) (hne : ∀ p ∈ rest, p.1 ≠ d) (hT : T.length ≤ 4096)
include B F X N Tp hk hsd hne hT
set_option maxHeartbeats 4000000 in
theorem named_spec (hd : dp + 4 < recursionLimit) (hdel : (txt ((cpl T).drop n) (Str.ofString "DEL").length == Str.ofString "DEL") = false)
    (hret : ∀ h' tk' t' ta' tl' tc', Fr h₀ L h' m → News h₀ L h' ((d, sgS w k1 k2 k3 k4 T tT (n + (nmBest ((cpl T).drop n) 33).1.length) ta' tl' tc') :: (sg, instObj 147 d) :: rest) → Q (match (nmBest ((cpl T).drop n) 33).2 with | none => .none | some i => .str ⟨#[i]⟩ t') { s with heap := h', toks := tk' }) :
    wpAny (model PySem.Challenge.pw_np0234_01 w) (ktrTop dp un gd cn cs L a ccd cl outer) (call (.ref 221) [.ref sg]) Q E s := by
  refine wpAny_call ?_
  k_dflt k_extra "enter"
  k_steps
  refine Stopped.go ?_
  refine for_range_var2 (σ := Str × Tok × Value) 33 (Str.ofString "number") (Str.ofString "best") (fun x => x.2.2) (fun x => .str x.1 x.2.1) (fun i x => ∃ o t, x.2.2 = optV o t ∧ x.1.length ≤ 99 ∧ nmBest ((cpl T).drop n) i = (x.1, o))
    (fun _ => (d, sgS w k1 k2 k3 k4 T tT n ta tl tc) :: (sg, instObj 147 d) :: rest) (Str.ofString "", _, .none) (by rfl) (by assumption) rfl (by decide) (by k_asm) (by first | k_asm | exact news_tail (by k_asm)) ⟨none, 0, rfl, Nat.zero_le _, rfl⟩ ?_ ?_
  · rintro I i u ⟨b, tb, nv⟩ h₁ tk₁ own hi ⟨o, t, e1, hb3, e2⟩ hown _ hI F₁ N₁
    dsimp only at F₁ N₁ e1 hb3 e2 hI
    simp only [List.cons_append] at N₁
    k_steps
    · exact ForEnd.next (_, _, .int (i : Int) _) (by k_asm) (fun y hy => by first | exact map_two' hy | exact map_two2 hy (by decide +kernel)) (by show News _ _ _ (_ :: _ :: (rest ++ own)); first | k_asm | exact news_tail (by k_asm)) hI ⟨some i, _, rfl, names_le i, nm_hit hi e2 (by assumption) (by assumption)⟩
    · exact ForEnd.next (b, tb, nv) (by k_asm) (fun y hy => by exact if_neg hy) (by k_asm) hI ⟨o, t, e1, hb3, nm_less hi e2 (by assumption)⟩
    · exact ForEnd.next (b, tb, nv) (by k_asm) (fun y hy => by exact if_neg hy) (by k_asm) hI ⟨o, t, e1, hb3, nm_not e2 (by assumption)⟩
  · rintro ⟨b, tb, nv⟩ u h₁ tk₁ ⟨o, t, e1, hb3, e2⟩ F₁ N₁
    dsimp only at F₁ N₁ e1 hb3 e2
    simp only [e2] at hret
    rcases o with _ | o <;> dsimp only [optV] at e1 <;> subst e1
    all_goals
      dsimp only at hret
      try have ho := nm_lt e2
      k_steps
      refine Stopped.go ?_
      refine for_range_var0 (σ := Nat × Tok × Tok × Tok) b.length (fun i x => x.1 = i) (fun x => (d, sgS w k1 k2 k3 k4 T tT (n + x.1) x.2.1 x.2.2.1 x.2.2.2) :: (sg, instObj 147 d) :: rest) (0, ta, tl, tc) (by rfl) (by assumption) rfl (by omega) (by k_asm) (by first | k_asm | exact news_tail (by k_asm)) rfl ?_ ?_
      · rintro I i u ⟨j, ta, tl, tc⟩ h₁ tk₁ own hi hj hown _ hI F₁ N₁
        dsimp only at F₁ N₁ hj hI
        subst hj
        simp only [List.cons_append] at N₁
        have hne2 : ∀ p ∈ rest ++ own, p.1 ≠ d := fun p hp => (List.mem_append.mp hp).elim (hne p) fun hq => by rw [hown p hq]; exact (hI _ (.head _)).symm
        k_steps
        exact ForEnd.next (j + 1, _, _, _) (by k_asm) (fun y hy => by exact if_neg hy) (by show News _ _ _ (_ :: _ :: (rest ++ own)); first | k_asm | exact news_tail (by k_asm)) (off_turn hI) rfl
      · rintro ⟨j, ta, tl, tc⟩ u h₁ tk₁ hj F₁ N₁
        dsimp only at F₁ N₁ hj
        subst hj
        k_steps
        first | exact hret _ _ _ _ _ _ (by k_asm) (by k_asm) | exact hret _ _ 0 _ _ _ (by k_asm) (by k_asm)
end
theorem rg_N3_31 : True := by
  k_with_none
  k_with "all" => assumption
  k_with "enter" => (refine' code_def ?enk1 ?enk2 ?enk3 ?enk4 ?enk5 ?enkA ?enkF ?enkK ?enk6 ?enk7 ?enk8 ?enk9 ?enkB ?_ ?enc2 ?enc3 ?enc4 ?enc5; (case enkA => exact rfl); (case enkF => exact rfl); (case enkK => first | exact rfl | assumption); (case enk1 => k_asm); (case enk2 => k_asm); (case enk3 => k_asm); (case enk4 => k_asm); (case enk5 => k_asm); (case enk6 => k_is); (case enk7 => k_is); (case enk8 => ktr_room); (case enk9 => first | exact BindsTo.of_eq rfl | exact binds_K (by k_in) rfl (by k_is) rfl rfl rfl); (case enc5 => decide); (case enkB => exact locs rfl); (case enc2 => exact rfl); (case enc3 => exact rfl); (case enc4 => exact rfl); k_whole; intro g' L' h' FG' F' N' B' X' T'; (try dsimp only); (try k_fold))
  k_with "my leaving ref" => (k_here; k_dflt (first | (refine leave_onR (by assumption) (by k_asm) (by k_asm) (by k_asm) ?_; k_whole; intro h' R' _ U'; (try dsimp only)) | (refine leave_we (by k_asm) (by k_asm) (by k_asm) ?_ (by exact rfl); k_whole; intro h' R' U'; (try dsimp only))))
  exact trivial
theorem off_cons {h₀ h : Heap} {L d q : Addr} {o o' : Obj} {news rest : List (Addr × Obj)} (N : News h₀ L h news) (hp : (q, o) ∈ news) (hd : (d, o') ∈ news) (hc : o ≠ o') (hr : ∀ p ∈ rest, p.1 ≠ d) : ∀ p ∈ (q, o) :: rest, p.1 ≠ d := fun p hm => by
  rcases List.mem_cons.mp hm with rfl | hm
  · intro e
    have h1 := (N _ hp).1
    have h2 := (N _ hd).1
    have h3 : some o = some o' := h1.symm.trans ((congrArg h.get? e).trans h2)
    injection h3 with h3
    exact hc h3
  · exact hr p hm
/-- a backslash's rest that tells a sign: its number, the signs taken -/
inductive EscOk (l : List Nat) (n : Nat) : Nat → Nat → Prop
  | dec {v : Int} : has sDIGITS (l.drop n) = true → numOf (txt (l.drop n) (tkw sDIGITS (l.drop n))) 10 = v → 0 ≤ v → v ≤ 1114111 → EscOk l n v.toNat (tkw sDIGITS (l.drop n))
  | hex {v : Int} : sgn (l.drop n) 0 = Str.ofString "x" → has sHEX (l.drop (n + 1)) = true → numOf (txt (l.drop (n + 1)) (tkw sHEX (l.drop (n + 1)))) 16 = v → 0 ≤ v → v ≤ 1114111 → EscOk l n v.toNat (1 + tkw sHEX (l.drop (n + 1)))
  | ctl : sgn (l.drop n) 0 = Str.ofString "^" → sgn (l.drop n) 1 = Str.ofString "A" → sgn (l.drop (n + 1)) 0 = Str.ofString "A" → EscOk l n 1 2
  | nl : sgn (l.drop n) 0 = Str.ofString "n" → EscOk l n 10 1
  | q1 : sgn (l.drop n) 0 = Str.ofString "'" → EscOk l n 39 1
  | q2 : sgn (l.drop n) 0 = Str.ofString "\"" → EscOk l n 34 1
  | named {b : Str} {i : Nat} : sgn (l.drop n) 0 = Str.ofString "S" → (txt (l.drop n) (Str.ofString "DEL").length == Str.ofString "DEL") = false → nmBest (l.drop n) 33 = (b, some i) → EscOk l n i b.length
inductive EscBad (l : List Nat) (n : Nat) : Prop
  | big {v : Int} : has sDIGITS (l.drop n) = true → numOf (txt (l.drop n) (tkw sDIGITS (l.drop n))) 10 = v → v > 1114111 → EscBad l n
  | q {b : Str} : sgn (l.drop n) 0 = Str.ofString "q" → (txt (l.drop n) (Str.ofString "DEL").length == Str.ofString "DEL") = false → nmBest (l.drop n) 33 = (b, none) → EscBad l n
section
variable {w : World} {p : Program} {loose : List Str} {mean : ExcName → Option Value} {mg mb : Str → Option Value} {dp un : Nat} {gd : Option (List Code)} {cn : Str} {cs : Scope} {a : Addr} {ccd : Value} {cl : List (Str × Addr)} {outer : List Env} {A₀ : Around} {base h₀ : Heap} {L : Addr} {m : Str → Option Value} {news : List (Addr × Obj)} {s : Shared} {Q E : Value → Shared → Prop}
  (B : Below A₀ base outer h₀) (F : Fr h₀ L s.heap m) (X : (kk.heap_1 w.params).In h₀)
  (N : News h₀ L s.heap news) (Tp : Top p loose mean mg mb h₀) (hk : cs.kind = .function)
include B F X N Tp hk
theorem among_yes {x y : Str} {tx ty : Tok} (hd : dp + 1 < recursionLimit) (hb : among x y = true)
    (hret : ∀ h' tk', Fr h₀ L h' m → News h₀ L h' news → Q (.bool true) { s with heap := h', toks := tk' }) :
    wpAny (model PySem.Challenge.pw_np0234_01 w) (ktrTop dp un gd cn cs L a ccd cl outer) (call (.ref 158) [.str x tx, .str y ty]) Q E s :=
  is_among_spec B F X N Tp hk hd (by rw [hb]; exact hret)
theorem among_no {x y : Str} {tx ty : Tok} (hd : dp + 1 < recursionLimit) (hb : among x y = false)
    (hret : ∀ h' tk', Fr h₀ L h' m → News h₀ L h' news → Q (.bool false) { s with heap := h', toks := tk' }) :
    wpAny (model PySem.Challenge.pw_np0234_01 w) (ktrTop dp un gd cn cs L a ccd cl outer) (call (.ref 158) [.str x tx, .str y ty]) Q E s :=
  is_among_spec B F X N Tp hk hd (by rw [hb]; exact hret)
end
section
variable {prog : Program} {w : World} {A : Around} {E : Value → Shared → Prop} {Q : Flow → Shared → Prop} {s : Shared} {env : Env} {h₀ : Heap} {target : Expr} {body : List Stmt}
noncomputable def TupEnd (h₀ : Heap) (L : Addr) (s : Shared) (I : Addr) (o : Obj) (news : List (Addr × Obj)) (nx : (Str → Option Value) → Prop) (Q : Flow → Shared → Prop) (f : Flow) (s₂ : Shared) : Prop :=
  match f with
  | .ret v => Q (.ret v) s₂
  | .brk => Q .next s₂
  | .next | .cont => ∃ h' tk m', s₂ = { s with heap := h', toks := tk } ∧ Fr h₀ L h' m' ∧ News h₀ L h' ((I, o) :: news) ∧ nx m'
theorem TupEnd.next {L : Addr} {I : Addr} {o : Obj} {news : List (Addr × Obj)} {nx : (Str → Option Value) → Prop} {h' : Heap} {tk : Nat} {m' : Str → Option Value} (F : Fr h₀ L h' m') (N : News h₀ L h' ((I, o) :: news)) (h : nx m') :
    TupEnd h₀ L s I o news nx Q .next { s with heap := h', toks := tk } := ⟨h', tk, m', rfl, F, N, h⟩
noncomputable def TupTurn (prog : Program) (w : World) (A : Around) (E : Value → Shared → Prop) (Q : Flow → Shared → Prop) (s : Shared) (env : Env) (h₀ : Heap) (target : Expr) (body : List Stmt) (I : Addr) (news : List (Addr × Obj)) (v : Value) (m : Str → Option Value) (nx : (Str → Option Value) → Prop) : Prop :=
  ∀ o h tk, Fr h₀ env.locals h m → News h₀ env.locals h ((I, o) :: news) → o.cls = .type "tuple_iterator" →
    wpAny (model prog w) A (assign target env v) (fun _ s₂ => wpAny (model prog w) A (execs body env) (TupEnd h₀ env.locals s I o news nx Q) E s₂) E { s with heap := h, toks := tk }
theorem tup_end {L : Addr} {s₁ : Shared} {I : Addr} {o : Obj} {news : List (Addr × Obj)} {nx : (Str → Option Value) → Prop} {f : Flow} {s₂ : Shared} {r : (Str → Option Value) → List (Addr × Obj) → Prop} (hs : ∃ h tk, s₁ = { s with heap := h, toks := tk }) (hI : ∀ p ∈ news, p.1 < I) (hr : ∀ m', nx m' → r m' news)
    (h : TupEnd h₀ L s I o news nx Q f s₂) : UnrPostW h₀ L s₁ [(I, o)] r Q f s₂ := by
  obtain ⟨hh, tkk, rfl⟩ := hs
  have fin : (∃ h' tk m', s₂ = { s with heap := h', toks := tk } ∧ Fr h₀ L h' m' ∧ News h₀ L h' ((I, o) :: news) ∧ nx m') → UnrEndW h₀ L { s with heap := hh, toks := tkk } [(I, o)] r s₂ := by
    rintro ⟨h', tk, m', rfl, F, N, n⟩
    exact ⟨h', tk, m', news, rfl, F, N, fun p hp q hq => by rw [List.mem_singleton.mp hq]; exact Nat.ne_of_lt (hI p hp), hr _ n⟩
  cases f with
  | ret v => exact h
  | brk => exact h
  | next => exact fin h
  | cont => exact fin h
theorem tup2 {ax : Addr} {v1 v2 : Value} {m₀ : Str → Option Value} {news : List (Addr × Obj)}
    (hh : A.handled = none) (F : Fr h₀ env.locals s.heap m₀) (N : News h₀ env.locals s.heap news) (hm : (ax, tupO #[v1, v2]) ∈ news)
    (h : ∀ I, (∀ p ∈ news, p.1 < I) → TupTurn prog w A E Q s env h₀ target body I news v1 m₀ fun m₁ => TupTurn prog w A E Q s env h₀ target body I news v2 m₁ fun m₂ => ∀ h tk, Fr h₀ env.locals h m₂ → News h₀ env.locals h news → Q .next { s with heap := h, toks := tk }) :
    wpAny (model prog w) A (pyIter (.ref ax)) (fun it s₂ => TurnsAt prog w A h₀ env target body Q E it s₂) E s := by
  refine iter_tupTurns (vs := [v1, v2]) hh F N hm rfl rfl fun I hI => ?_
  intro u h₁ tk₁ e F₁
  have e : u = v1 := e
  subst e
  refine AllObj.cons fun o hc => AllObj.nil fun N₁ => ?_
  refine wpAny_mono (h I hI o h₁ tk₁ F₁ N₁ hc) (fun _ s₂ q => wpAny_mono q (fun f s₃ q => tup_end ⟨_, _, rfl⟩ hI (fun m₁ n => ⟨And.intro hm trivial, ?_⟩) q) fun _ _ x => x) fun _ _ x => x
  intro u h₂ tk₂ e F₂
  have e : u = v2 := e
  subst e
  refine AllObj.cons fun o hc => AllObj.nil fun N₂ => ?_
  exact wpAny_mono (n o h₂ tk₂ F₂ N₂ hc) (fun _ s₂ q => wpAny_mono q (fun f s₃ q => tup_end ⟨_, _, rfl⟩ hI (fun m₁ n => ⟨And.intro hm trivial, n⟩) q) fun _ _ x => x) fun _ _ x => x
end
theorem rg_F2_32 : True := by
  k_with_none
  k_with "all" => assumption
  k_with "enter" => (refine' code_def ?enk1 ?enk2 ?enk3 ?enk4 ?enk5 ?enkA ?enkF ?enkK ?enk6 ?enk7 ?enk8 ?enk9 ?enkB ?_ ?enc2 ?enc3 ?enc4 ?enc5; (case enkA => exact rfl); (case enkF => exact rfl); (case enkK => first | exact rfl | assumption); (case enk1 => k_asm); (case enk2 => k_asm); (case enk3 => k_asm); (case enk4 => k_asm); (case enk5 => k_asm); (case enk6 => k_is); (case enk7 => k_is); (case enk8 => ktr_room); (case enk9 => first | exact BindsTo.of_eq rfl | exact binds_K (by k_in) rfl (by k_is) rfl rfl rfl); (case enc5 => decide); (case enkB => exact locs rfl); (case enc2 => exact rfl); (case enc3 => exact rfl); (case enc4 => exact rfl); k_whole; intro g' L' h' FG' F' N' B' X' T'; (try dsimp only); (try k_fold))
  k_with "my leaving ref" => (k_here; k_dflt (first | (refine leave_onR (by assumption) (by k_asm) (by k_asm) (by k_asm) ?_; k_whole; intro h' R' _ U'; (try dsimp only)) | (refine leave_we (by k_asm) (by k_asm) (by k_asm) ?_ (by exact rfl); k_whole; intro h' R' U'; (try dsimp only))))
  k_with "all" => first | assumption | exact List.forall_mem_nil _ | (refine off_cons (by k_asm) (by k_mem) (by k_mem) (by (intro e; have e9 := congrArg Obj.cls e; first | (simp at e9; done) | ((rename Obj.cls _ = Value.type "tuple_iterator" => hc9); rw [hc9] at e9; simp at e9; done))) (by k_all)) | (refine List.forall_mem_cons.mpr ⟨(by first | assumption | k_ne), (by k_all)⟩) | (refine List.forall_mem_append.mpr ⟨(by k_all), (by k_all)⟩)
  exact trivial
section
variable {w : World} {p : Program} {loose : List Str} {mean : ExcName → Option Value} {mg mb : Str → Option Value} {dp un : Nat} {gd : Option (List Code)} {cn : Str} {cs : Scope} {a : Addr} {ccd : Value} {cl : List (Str × Addr)} {outer : List Env} {A₀ : Around} {base h₀ : Heap} {L : Addr} {m : Str → Option Value} {news : List (Addr × Obj)} {s : Shared} {Q E : Value → Shared → Prop}
  (B : Below A₀ base outer h₀) (F : Fr h₀ L s.heap m) (X : (kk.heap_1 w.params).In h₀)
variable {sg d : Addr} {k1 k2 k3 k4 : Tok} {T : Str} {tT : Tok} {n : Nat} {ta tl tc : Tok} {rest : List (Addr × Obj)}
  (N : News h₀ L s.heap ((d, sgS w k1 k2 k3 k4 T tT n ta tl tc) :: (sg, instObj 147 d) :: rest)) (Tp : Top p loose mean mg mb h₀) (hk : cs.kind = .function)
  (hsd : @Ne Nat sg d) (hne : ∀ p ∈ rest, p.1 ≠ d) (hT : T.length ≤ 4096)
include B F X N Tp hk hsd hne hT
theorem named_some {b : Str} {i : Nat} (hd : dp + 4 < recursionLimit) (hdel : (txt ((cpl T).drop n) (Str.ofString "DEL").length == Str.ofString "DEL") = false) (hb : nmBest ((cpl T).drop n) 33 = (b, some i))
    (hret : ∀ h' tk' t' ta' tl' tc', Fr h₀ L h' m → News h₀ L h' ((d, sgS w k1 k2 k3 k4 T tT (n + b.length) ta' tl' tc') :: (sg, instObj 147 d) :: rest) → Q (.str ⟨#[i]⟩ t') { s with heap := h', toks := tk' }) :
    wpAny (model PySem.Challenge.pw_np0234_01 w) (ktrTop dp un gd cn cs L a ccd cl outer) (call (.ref 221) [.ref sg]) Q E s :=
  named_spec B F X N Tp hk hsd hne hT hd hdel (by rw [hb]; exact hret)
theorem named_none {b : Str} (hd : dp + 4 < recursionLimit) (hdel : (txt ((cpl T).drop n) (Str.ofString "DEL").length == Str.ofString "DEL") = false) (hb : nmBest ((cpl T).drop n) 33 = (b, none))
    (hret : ∀ h' tk' (_ : Tok) ta' tl' tc', Fr h₀ L h' m → News h₀ L h' ((d, sgS w k1 k2 k3 k4 T tT (n + b.length) ta' tl' tc') :: (sg, instObj 147 d) :: rest) → Q .none { s with heap := h', toks := tk' }) :
    wpAny (model PySem.Challenge.pw_np0234_01 w) (ktrTop dp un gd cn cs L a ccd cl outer) (call (.ref 221) [.ref sg]) Q E s :=
  named_spec B F X N Tp hk hsd hne hT hd hdel (by rw [hb]; exact hret)
theorem step_lit {x : String} (hd : dp + 2 < recursionLimit) (hx : sgn ((cpl T).drop n) 0 = Str.ofString x)
    (hret : ∀ h' tk' t' ta' tl' tc', Fr h₀ L h' m → News h₀ L h' ((d, sgS w k1 k2 k3 k4 T tT (n + 1) ta' tl' tc') :: (sg, instObj 147 d) :: rest) → Q (.str (Str.ofString x) t') { s with heap := h', toks := tk' }) :
    wpAny (model PySem.Challenge.pw_np0234_01 w) (ktrTop dp un gd cn cs L a ccd cl outer) (call (.ref 130) [.ref sg]) Q E s :=
  step_spec B F X N Tp hk hsd hne hT hd fun h' tk' t' ta' tl' tc' F' N' => by rw [hx]; exact hret h' tk' t' ta' tl' tc' F' N'
end
theorem rg_F2_33 : True := by
  k_with_none
  k_with "all" => assumption
  k_with "enter" => (refine' code_def ?enk1 ?enk2 ?enk3 ?enk4 ?enk5 ?enkA ?enkF ?enkK ?enk6 ?enk7 ?enk8 ?enk9 ?enkB ?_ ?enc2 ?enc3 ?enc4 ?enc5; (case enkA => exact rfl); (case enkF => exact rfl); (case enkK => first | exact rfl | assumption); (case enk1 => k_asm); (case enk2 => k_asm); (case enk3 => k_asm); (case enk4 => k_asm); (case enk5 => k_asm); (case enk6 => k_is); (case enk7 => k_is); (case enk8 => ktr_room); (case enk9 => first | exact BindsTo.of_eq rfl | exact binds_K (by k_in) rfl (by k_is) rfl rfl rfl); (case enc5 => decide); (case enkB => exact locs rfl); (case enc2 => exact rfl); (case enc3 => exact rfl); (case enc4 => exact rfl); k_whole; intro g' L' h' FG' F' N' B' X' T'; (try dsimp only); (try k_fold))
  k_with "my leaving ref" => (k_here; k_dflt (first | (refine leave_onR (by assumption) (by k_asm) (by k_asm) (by k_asm) ?_; k_whole; intro h' R' _ U'; (try dsimp only)) | (refine leave_we (by k_asm) (by k_asm) (by k_asm) ?_ (by exact rfl); k_whole; intro h' R' U'; (try dsimp only))))
  k_with "all" => first | assumption | exact List.forall_mem_nil _ | (refine off_cons (by k_asm) (by k_mem) (by k_mem) (by (intro e; have e9 := congrArg Obj.cls e; first | (simp at e9; done) | ((rename Obj.cls _ = Value.type "tuple_iterator" => hc9); rw [hc9] at e9; simp at e9; done))) (by k_all)) | (refine List.forall_mem_cons.mpr ⟨(by first | assumption | k_ne), (by k_all)⟩) | (refine List.forall_mem_append.mpr ⟨(by k_all), (by k_all)⟩)
  k_with "my exec While BoolOp cons nil" => (k_here; refine Stopped.at_ ?_)
  k_with "my exec While Compare cons nil" => (k_here; refine Stopped.at_ ?_)
  k_with "my exec While Name cons nil" => (k_here; refine Stopped.at_ ?_)
  k_with "my exec For Name Call cons nil" => (k_here; k_extra "for")
  k_with "my exec For Name Name cons nil" => (k_here; k_extra "for")
  k_with "my exec For Tuple Tuple cons nil" => (k_here; k_extra "for")
  k_with "my exec While Call cons nil" => (k_here; refine Stopped.at_ ?_)
  k_with "my compareOp In str ref" => (k_here; (with_reducible show wpAny _ _ (compareOp CmpOp.In (Value.str _ _) (Value.ref _)) _ _ _); k_dflt (refine in_topK (by k_asm) (by k_asm) (by k_is) (by repeat constructor) ?_; k_whole))
  k_with "my exec Raise some none" => (k_here; k_dflt (refine raise_stmt rfl ?_))
  k_with "my RaiseAt" => (k_here; k_dflt (refine raise_at (by k_asm) (by k_asm) (by k_asm) ?_; k_whole))
  k_with "my call ref" => (k_here; (with_reducible show wpAny _ _ (call (Value.ref 158) _ _) _ _ _); k_dflt (refine is_among_spec (by k_asm) (by k_asm) (by k_asm) (by k_asm) (by k_asm) (by first | exact rfl | assumption)  (by ktr_room) ?_; k_whole; intro h' tk' F' N'; (try dsimp only); (try k_sweep); (try k_fold)))
  k_with "my call ref" => (k_here; (with_reducible show wpAny _ _ (call (Value.ref 116) _ _) _ _ _); k_dflt (refine sign_spec (by k_asm) (by k_asm) (by k_asm) (by k_asm) (by k_asm) (by first | exact rfl | assumption) (by k_mem) (by k_mem) (by assumption) (by ktr_room) ?_; k_whole; intro h' tk' t' F' N'; (try dsimp only); (try k_sweep); (try k_fold)))
  k_with "my call ref" => (k_here; (with_reducible show wpAny _ _ (call (Value.ref 116) _ _) _ _ _); k_dflt (refine sign0_spec (by k_asm) (by k_asm) (by k_asm) (by k_asm) (by k_asm) (by first | exact rfl | assumption) (by k_mem) (by k_mem) (by assumption) (by ktr_room) ?_; k_whole; intro h' tk' t' F' N'; (try dsimp only); (try k_sweep); (try k_fold)))
  k_with "my call ref" => (k_here; (with_reducible show wpAny _ _ (call (Value.ref 165) _ _) _ _ _); k_dflt (refine name_letters_spec (by k_asm) (by k_asm) (by k_asm) (by k_asm) (by k_asm) (by first | exact rfl | assumption)  (by ktr_room) ?_; k_whole; intro h' tk' t' F' N'; (try dsimp only); (try k_sweep); (try k_fold)))
  k_with "my call ref" => (k_here; (with_reducible show wpAny _ _ (call (Value.ref 123) _ _) _ _ _); k_dflt (refine starts_spec (by k_asm) (by k_asm) (by k_asm) (by k_asm) (by k_asm) (by first | exact rfl | assumption) (by k_mem) (by k_mem) (by assumption) (by ktr_room) (by first | assumption | omega | decide) ?_; k_whole; intro h' tk' F' N'; (try dsimp only); (try k_sweep); (try k_fold)))
  k_with "my call ref" => (k_here; (with_reducible show wpAny _ _ (call (Value.ref 144) _ _) _ _ _); k_dflt (refine place_spec (by k_asm) (by k_asm) (by k_asm) (by k_asm) (by k_asm) (by first | exact rfl | assumption) (by k_mem) (by k_mem) (by assumption) (by ktr_room) ?_; k_whole; intro h' tk' q F' N' l1; (try dsimp only); (try k_sweep); (try k_fold)))
  k_with "my call ref" => (k_here; (with_reducible show wpAny _ _ (call (Value.ref 130) _ _) _ _ _); k_dflt (refine step_spec (by k_asm) (by k_asm) (by k_asm) (news_pick2 (by k_asm) (by (repeat (first | exact Pick.head | apply Pick.tail))) (by (repeat (first | exact Pick.head | apply Pick.tail)))) (by k_asm) (by first | exact rfl | assumption) (by first | assumption | k_ne) (by k_all) (by assumption) (by ktr_room) ?_; k_whole; intro h' tk' t' ta' tl' tc' F' N'; (try dsimp only); (try k_sweep); (try k_fold)))
  k_with "my call ref" => (k_here; (with_reducible show wpAny _ _ (call (Value.ref 137) _ _) _ _ _); k_dflt (refine take_spec (by k_asm) (by k_asm) (by k_asm) (news_pick2 (by k_asm) (by (repeat (first | exact Pick.head | apply Pick.tail))) (by (repeat (first | exact Pick.head | apply Pick.tail)))) (by k_asm) (by first | exact rfl | assumption) (by first | assumption | k_ne) (by k_all) (by assumption) (by ktr_room) ?_; k_whole; intro h' tk' t' ta' tl' tc' F' N'; (try dsimp only); (try k_sweep); (try k_fold)))
  k_with "my call ref" => (k_here; (with_reducible show wpAny _ _ (call (Value.ref 52) _ _) _ _ _); k_dflt (refine werr_spec (by k_asm) (by k_asm) (by k_asm) (by k_asm) (by k_asm) (by first | exact rfl | assumption)  (by ktr_room) ?_; k_whole; intro e' t' D' h' tk' F' N'; (try dsimp only); (try k_sweep); (try k_fold)))
  k_with "my call ref" => (k_here; (with_reducible show wpAny _ _ (call (Value.ref 172) _ _) _ _ _); k_dflt (refine ilc_spec (by k_asm) (by k_asm) (by k_asm) (by k_asm) (by k_asm) (by first | exact rfl | assumption) (by k_mem) (by k_mem) (by assumption) (by ktr_room) ?_; k_whole; intro h' tk' F' N'; (try dsimp only); (try k_sweep); (try k_fold)))
  k_with "my call ref" => (k_here; (with_reducible show wpAny _ _ (call (Value.ref 179) _ _) _ _ _); k_dflt (refine nest_spec2 (by k_asm) (by k_asm) (by k_asm) (news_pick2 (by k_asm) (by (repeat (first | exact Pick.head | apply Pick.tail))) (by (repeat (first | exact Pick.head | apply Pick.tail)))) (by k_asm) (by first | exact rfl | assumption) (by first | assumption | k_ne) (by k_all) (by assumption) (by ktr_room) ?_ ?_ ?_; (case' refine_2 => (intro k9 hk9 h' tk' ta' tl' tc' F' N'; (try dsimp only); (try k_sweep); (try k_fold))); (case' refine_3 => (intro p0 e' t' v' h' tk' G' R' F' U'; (try dsimp only)))))
  k_with "my call ref" => (k_here; (with_reducible show wpAny _ _ (call (Value.ref 193) _ _) _ _ _); k_dflt (refine number_of_16 (by k_asm) (by k_asm) (by k_asm) (by k_asm) (by k_asm) (by first | exact rfl | assumption)  (by ktr_room) (by exact numSigns_take hexHex _) ?_; k_whole; intro h' tk' t' F' N'; (try dsimp only); (try k_sweep); (try k_fold)))
  k_with "my call ref" => (k_here; (with_reducible show wpAny _ _ (call (Value.ref 193) _ _) _ _ _); k_dflt (refine number_of_8 (by k_asm) (by k_asm) (by k_asm) (by k_asm) (by k_asm) (by first | exact rfl | assumption)  (by ktr_room) (by exact numSigns_take octHex _) ?_; k_whole; intro h' tk' t' F' N'; (try dsimp only); (try k_sweep); (try k_fold)))
  k_with "my call ref" => (k_here; (with_reducible show wpAny _ _ (call (Value.ref 193) _ _) _ _ _); k_dflt (refine number_of_10 (by k_asm) (by k_asm) (by k_asm) (by k_asm) (by k_asm) (by first | exact rfl | assumption)  (by ktr_room) (by exact numSigns_take decHex _) ?_; k_whole; intro h' tk' t' F' N'; (try dsimp only); (try k_sweep); (try k_fold)))
  k_with "my call ref" => (k_here; (with_reducible show wpAny _ _ (call (Value.ref 116) _ _) _ _ _); k_dflt (refine sign_lit (by k_asm) (by k_asm) (by k_asm) (by k_asm) (by k_asm) (by first | exact rfl | assumption) (by k_mem) (by k_mem) (by assumption) (by ktr_room) (by assumption) ?_; k_whole; intro h' tk' t' F' N'; (try dsimp only); (try k_sweep); (try k_fold)))
  k_with "my call ref" => (k_here; (with_reducible show wpAny _ _ (call (Value.ref 116) _ _) _ _ _); k_dflt (refine sign0_lit (by k_asm) (by k_asm) (by k_asm) (by k_asm) (by k_asm) (by first | exact rfl | assumption) (by k_mem) (by k_mem) (by assumption) (by ktr_room) (by assumption) ?_; k_whole; intro h' tk' t' F' N'; (try dsimp only); (try k_sweep); (try k_fold)))
  k_with "my call ref" => (k_here; (with_reducible show wpAny _ _ (call (Value.ref 158) _ _) _ _ _); k_dflt (refine among_yes (by k_asm) (by k_asm) (by k_asm) (by k_asm) (by k_asm) (by first | exact rfl | assumption)  (by ktr_room) (by first | assumption | decide +kernel) ?_; k_whole; intro h' tk' F' N'; (try dsimp only); (try k_sweep); (try k_fold)))
  k_with "my call ref" => (k_here; (with_reducible show wpAny _ _ (call (Value.ref 158) _ _) _ _ _); k_dflt (refine among_no (by k_asm) (by k_asm) (by k_asm) (by k_asm) (by k_asm) (by first | exact rfl | assumption)  (by ktr_room) (by first | assumption | decide +kernel) ?_; k_whole; intro h' tk' F' N'; (try dsimp only); (try k_sweep); (try k_fold)))
  k_with "my call ref" => (k_here; (with_reducible show wpAny _ _ (call (Value.ref 123) _ _) _ _ _); k_dflt (refine starts_spec (by k_asm) (by k_asm) (by k_asm) (by k_asm) (by k_asm) (by first | exact rfl | assumption) (by k_mem) (by k_mem) (by assumption) (by ktr_room) (by first | assumption | exact names_len _ | omega | decide) ?_; k_whole; intro h' tk' F' N'; (try dsimp only); (try k_sweep); (try k_fold)))
  k_with "my call ref" => (k_here; (with_reducible show wpAny _ _ (call (Value.ref 207) _ _) _ _ _); k_dflt (refine read_number_spec (by k_asm) (by k_asm) (by k_asm) (news_pick2 (by k_asm) (by (repeat (first | exact Pick.head | apply Pick.tail))) (by (repeat (first | exact Pick.head | apply Pick.tail)))) (by k_asm) (by first | exact rfl | assumption) (by first | assumption | k_ne) (by k_all) (by assumption) (by ktr_room) (by assumption) ?_; k_whole; intro h' tk' t' ta' tl' tc' F' N'; (try dsimp only); (try k_sweep); (try k_fold)))
  k_with "my call ref" => (k_here; (with_reducible show wpAny _ _ (call (Value.ref 214) _ _) _ _ _); k_dflt (refine chk_ok (by k_asm) (by k_asm) (by k_asm) (by k_asm) (by k_asm) (by first | exact rfl | assumption)  (by ktr_room) (by first | assumption | omega) (by first | assumption | omega) ?_; k_whole; intro h' tk' t' F' N'; (try dsimp only); (try k_sweep); (try k_fold)))
  k_with "my call ref" => (k_here; (with_reducible show wpAny _ _ (call (Value.ref 214) _ _) _ _ _); k_dflt (refine chk_no (by k_asm) (by k_asm) (by k_asm) (by k_asm) (by k_asm) (by first | exact rfl | assumption)  (by ktr_room) (by first | assumption | omega) ?_; k_whole; intro e' t' v' h' tk' G' R' F' U'; (try dsimp only)))
  k_with "my call ref" => (k_here; (with_reducible show wpAny _ _ (call (Value.ref 221) _ _) _ _ _); k_dflt (refine named_some (by k_asm) (by k_asm) (by k_asm) (news_pick2 (by k_asm) (by (repeat (first | exact Pick.head | apply Pick.tail))) (by (repeat (first | exact Pick.head | apply Pick.tail)))) (by k_asm) (by first | exact rfl | assumption) (by first | assumption | k_ne) (by k_all) (by assumption) (by ktr_room) (by assumption) (by assumption) ?_; k_whole; intro h' tk' t' ta' tl' tc' F' N'; (try dsimp only); (try k_sweep); (try k_fold)))
  k_with "my call ref" => (k_here; (with_reducible show wpAny _ _ (call (Value.ref 221) _ _) _ _ _); k_dflt (refine named_none (by k_asm) (by k_asm) (by k_asm) (news_pick2 (by k_asm) (by (repeat (first | exact Pick.head | apply Pick.tail))) (by (repeat (first | exact Pick.head | apply Pick.tail)))) (by k_asm) (by first | exact rfl | assumption) (by first | assumption | k_ne) (by k_all) (by assumption) (by ktr_room) (by assumption) (by assumption) ?_; k_whole; intro h' tk' t' ta' tl' tc' F' N'; (try dsimp only); (try k_sweep); (try k_fold)))
  k_with "my call ref" => (k_here; (with_reducible show wpAny _ _ (call (Value.ref 130) _ _) _ _ _); k_dflt (refine step_lit (by k_asm) (by k_asm) (by k_asm) (news_pick2 (by k_asm) (by (repeat (first | exact Pick.head | apply Pick.tail))) (by (repeat (first | exact Pick.head | apply Pick.tail)))) (by k_asm) (by first | exact rfl | assumption) (by first | assumption | k_ne) (by k_all) (by assumption) (by ktr_room) (by assumption) ?_; k_whole; intro h' tk' t' ta' tl' tc' F' N'; (try dsimp only); (try k_sweep); (try k_fold)))
  k_with "my pyIter ref" => (k_here; refine Stopped.at_ ?_)
  exact trivial
section
variable {w : World} {p : Program} {loose : List Str} {mean : ExcName → Option Value} {mg mb : Str → Option Value} {dp un : Nat} {gd : Option (List Code)} {cn : Str} {cs : Scope} {a : Addr} {ccd : Value} {cl : List (Str × Addr)} {outer : List Env} {A₀ : Around} {base h₀ : Heap} {L : Addr} {m : Str → Option Value} {news : List (Addr × Obj)} {s : Shared} {Q E : Value → Shared → Prop}
  (B : Below A₀ base outer h₀) (F : Fr h₀ L s.heap m) (X : (kk.heap_1 w.params).In h₀)
variable {sg d : Addr} {k1 k2 k3 k4 : Tok} {T : Str} {tT : Tok} {n : Nat} {ta tl tc : Tok} {rest : List (Addr × Obj)}
  (N : News h₀ L s.heap ((d, sgS w k1 k2 k3 k4 T tT n ta tl tc) :: (sg, instObj 147 d) :: rest)) (Tp : Top p loose mean mg mb h₀) (hk : cs.kind = .function)
  (hsd : @Ne Nat sg d) (hne : ∀ p ∈ rest, p.1 ≠ d) (hT : T.length ≤ 4096)
include B F X N Tp hk hsd hne hT
set_option maxHeartbeats 4000000 in
theorem esc_dec {v : Int} (hd : dp + 5 < recursionLimit) (h1 : has sDIGITS ((cpl T).drop n) = true) (h2 : numOf (txt ((cpl T).drop n) (tkw sDIGITS ((cpl T).drop n))) 10 = v) (h3 : 0 ≤ v) (h4 : v ≤ 1114111)
    (hret : ∀ h' tk' t' ta' tl' tc', Fr h₀ L h' m → News h₀ L h' ((d, sgS w k1 k2 k3 k4 T tT (n + tkw sDIGITS ((cpl T).drop n)) ta' tl' tc') :: (sg, instObj 147 d) :: rest) → Q (.str ⟨#[v.toNat]⟩ t') { s with heap := h', toks := tk' }) :
    wpAny (model PySem.Challenge.pw_np0234_01 w) (ktrTop dp un gd cn cs L a ccd cl outer) (call (.ref 228) [.ref sg]) Q E s := by
  subst h2
  unfold sDIGITS at *
  have h5 : among (sgn ((cpl T).drop n) 0) (Str.ofString "0123456789") = true := by rw [among_sgn, List.drop_zero]; exact h1
  refine wpAny_call ?_
  k_dflt k_extra "enter"
  k_steps
  exact hret _ _ _ _ _ _ (by k_asm) (by first | k_asm | exact news_drop3 (by k_asm) | (refine' cb_drop ?cbN ?cbS; (case cbN => assumption); (case cbS => kcj_all)))
set_option maxHeartbeats 4000000 in
theorem esc_hex {v : Int} (hd : dp + 5 < recursionLimit) (h0 : sgn ((cpl T).drop n) 0 = Str.ofString "x") (h1 : has sHEX ((cpl T).drop (n + 1)) = true) (h2 : numOf (txt ((cpl T).drop (n + 1)) (tkw sHEX ((cpl T).drop (n + 1)))) 16 = v) (h3 : 0 ≤ v) (h4 : v ≤ 1114111)
    (hret : ∀ h' tk' t' ta' tl' tc', Fr h₀ L h' m → News h₀ L h' ((d, sgS w k1 k2 k3 k4 T tT (n + (1 + tkw sHEX ((cpl T).drop (n + 1)))) ta' tl' tc') :: (sg, instObj 147 d) :: rest) → Q (.str ⟨#[v.toNat]⟩ t') { s with heap := h', toks := tk' }) :
    wpAny (model PySem.Challenge.pw_np0234_01 w) (ktrTop dp un gd cn cs L a ccd cl outer) (call (.ref 228) [.ref sg]) Q E s := by
  subst h2
  unfold sHEX at *
  rw [← Nat.add_assoc] at hret
  have h5 : among (sgn ((cpl T).drop n) 1) (Str.ofString "0123456789abcdefABCDEF") = true := by rw [among_sgn, List.drop_drop]; exact h1
  have ea : among (Str.ofString "x") (Str.ofString "0123456789") = false := by decide +kernel
  refine wpAny_call ?_
  k_dflt k_extra "enter"
  k_steps
  refine Stopped.go ?_
  refine tup2 (by rfl) (by k_asm) (by k_asm) (by k_mem) ?_
  intro I hI o₁ h₁ tk₁ F₁ N₁ hc₁
  k_steps
  dsimp only [TupEnd]
  k_steps
  exact hret _ _ _ _ _ _ (by k_asm) (by first | k_asm | exact news_drop3 (by k_asm) | (refine' cb_drop ?cbN ?cbS; (case cbN => assumption); (case cbS => kcj_all)))
set_option maxHeartbeats 4000000 in
theorem esc_ctl (hd : dp + 5 < recursionLimit) (h0 : sgn ((cpl T).drop n) 0 = Str.ofString "^") (h1 : sgn ((cpl T).drop n) 1 = Str.ofString "A") (h2 : sgn ((cpl T).drop (n + 1)) 0 = Str.ofString "A")
    (hret : ∀ h' tk' t' ta' tl' tc', Fr h₀ L h' m → News h₀ L h' ((d, sgS w k1 k2 k3 k4 T tT (n + 2) ta' tl' tc') :: (sg, instObj 147 d) :: rest) → Q (.str ⟨#[1]⟩ t') { s with heap := h', toks := tk' }) :
    wpAny (model PySem.Challenge.pw_np0234_01 w) (ktrTop dp un gd cn cs L a ccd cl outer) (call (.ref 228) [.ref sg]) Q E s := by
  have ea : among (Str.ofString "^") (Str.ofString "0123456789") = false := by decide +kernel
  refine wpAny_call ?_
  k_dflt k_extra "enter"
  k_steps
  refine Stopped.go ?_
  refine tup2 (by rfl) (by k_asm) (by k_asm) (by k_mem) ?_
  intro I hI o₁ h₁ tk₁ F₁ N₁ hc₁
  k_steps
  refine TupEnd.next (by k_asm) (by k_asm) ?_
  intro o₂ h₂ tk₂ F₂ N₂ hc₂
  k_steps
  refine TupEnd.next (by k_asm) (by k_asm) ?_
  intro h₃ tk₃ F₃ N₃
  k_steps
  exact hret _ _ _ _ _ _ (by k_asm) (by first | k_asm | exact news_drop3 (by k_asm) | (refine' cb_drop ?cbN ?cbS; (case cbN => assumption); (case cbS => kcj_all)))
set_option maxHeartbeats 4000000 in
theorem esc_nl (hd : dp + 5 < recursionLimit) (h0 : sgn ((cpl T).drop n) 0 = Str.ofString "n")
    (hret : ∀ h' tk' t' ta' tl' tc', Fr h₀ L h' m → News h₀ L h' ((d, sgS w k1 k2 k3 k4 T tT (n + 1) ta' tl' tc') :: (sg, instObj 147 d) :: rest) → Q (.str ⟨#[10]⟩ t') { s with heap := h', toks := tk' }) :
    wpAny (model PySem.Challenge.pw_np0234_01 w) (ktrTop dp un gd cn cs L a ccd cl outer) (call (.ref 228) [.ref sg]) Q E s := by
  have ea : among (Str.ofString "n") (Str.ofString "0123456789") = false := by decide +kernel
  refine wpAny_call ?_
  k_dflt k_extra "enter"
  k_steps
  refine Stopped.go ?_
  refine tup2 (by rfl) (by k_asm) (by k_asm) (by k_mem) ?_
  intro I hI o₁ h₁ tk₁ F₁ N₁ hc₁
  k_steps
  refine TupEnd.next (by k_asm) (by k_asm) ?_
  intro o₂ h₂ tk₂ F₂ N₂ hc₂
  k_steps
  refine TupEnd.next (by k_asm) (by k_asm) ?_
  intro h₃ tk₃ F₃ N₃
  k_steps
  exact hret _ _ _ _ _ _ (by k_asm) (by first | k_asm | exact news_drop3 (by k_asm) | (refine' cb_drop ?cbN ?cbS; (case cbN => assumption); (case cbS => kcj_all)))
set_option maxHeartbeats 4000000 in
theorem esc_q1 (hd : dp + 5 < recursionLimit) (h0 : sgn ((cpl T).drop n) 0 = Str.ofString "'")
    (hret : ∀ h' tk' t' ta' tl' tc', Fr h₀ L h' m → News h₀ L h' ((d, sgS w k1 k2 k3 k4 T tT (n + 1) ta' tl' tc') :: (sg, instObj 147 d) :: rest) → Q (.str ⟨#[39]⟩ t') { s with heap := h', toks := tk' }) :
    wpAny (model PySem.Challenge.pw_np0234_01 w) (ktrTop dp un gd cn cs L a ccd cl outer) (call (.ref 228) [.ref sg]) Q E s := by
  have ea : among (Str.ofString "'") (Str.ofString "0123456789") = false := by decide +kernel
  refine wpAny_call ?_
  k_dflt k_extra "enter"
  k_steps
  refine Stopped.go ?_
  refine tup2 (by rfl) (by k_asm) (by k_asm) (by k_mem) ?_
  intro I hI o₁ h₁ tk₁ F₁ N₁ hc₁
  k_steps
  refine TupEnd.next (by k_asm) (by k_asm) ?_
  intro o₂ h₂ tk₂ F₂ N₂ hc₂
  k_steps
  refine TupEnd.next (by k_asm) (by k_asm) ?_
  intro h₃ tk₃ F₃ N₃
  k_steps
  exact hret _ _ _ _ _ _ (by k_asm) (by first | k_asm | exact news_drop3 (by k_asm) | (refine' cb_drop ?cbN ?cbS; (case cbN => assumption); (case cbS => kcj_all)))
set_option maxHeartbeats 4000000 in
theorem esc_q2 (hd : dp + 5 < recursionLimit) (h0 : sgn ((cpl T).drop n) 0 = Str.ofString "\"")
    (hret : ∀ h' tk' t' ta' tl' tc', Fr h₀ L h' m → News h₀ L h' ((d, sgS w k1 k2 k3 k4 T tT (n + 1) ta' tl' tc') :: (sg, instObj 147 d) :: rest) → Q (.str ⟨#[34]⟩ t') { s with heap := h', toks := tk' }) :
    wpAny (model PySem.Challenge.pw_np0234_01 w) (ktrTop dp un gd cn cs L a ccd cl outer) (call (.ref 228) [.ref sg]) Q E s := by
  have ea : among (Str.ofString "\"") (Str.ofString "0123456789") = false := by decide +kernel
  refine wpAny_call ?_
  k_dflt k_extra "enter"
  k_steps
  refine Stopped.go ?_
  refine tup2 (by rfl) (by k_asm) (by k_asm) (by k_mem) ?_
  intro I hI o₁ h₁ tk₁ F₁ N₁ hc₁
  k_steps
  refine TupEnd.next (by k_asm) (by k_asm) ?_
  intro o₂ h₂ tk₂ F₂ N₂ hc₂
  k_steps
  refine TupEnd.next (by k_asm) (by k_asm) ?_
  intro h₃ tk₃ F₃ N₃
  k_steps
  exact hret _ _ _ _ _ _ (by k_asm) (by first | k_asm | exact news_drop3 (by k_asm) | (refine' cb_drop ?cbN ?cbS; (case cbN => assumption); (case cbS => kcj_all)))
set_option maxHeartbeats 4000000 in
theorem esc_named {b : Str} {i : Nat} (hd : dp + 5 < recursionLimit) (h0 : sgn ((cpl T).drop n) 0 = Str.ofString "S") (h1 : (txt ((cpl T).drop n) (Str.ofString "DEL").length == Str.ofString "DEL") = false) (h2 : nmBest ((cpl T).drop n) 33 = (b, some i))
    (hret : ∀ h' tk' t' ta' tl' tc', Fr h₀ L h' m → News h₀ L h' ((d, sgS w k1 k2 k3 k4 T tT (n + b.length) ta' tl' tc') :: (sg, instObj 147 d) :: rest) → Q (.str ⟨#[i]⟩ t') { s with heap := h', toks := tk' }) :
    wpAny (model PySem.Challenge.pw_np0234_01 w) (ktrTop dp un gd cn cs L a ccd cl outer) (call (.ref 228) [.ref sg]) Q E s := by
  have ea : among (Str.ofString "S") (Str.ofString "0123456789") = false := by decide +kernel
  refine wpAny_call ?_
  k_dflt k_extra "enter"
  k_steps
  refine Stopped.go ?_
  refine tup2 (by rfl) (by k_asm) (by k_asm) (by k_mem) ?_
  intro I hI o₁ h₁ tk₁ F₁ N₁ hc₁
  k_steps
  refine TupEnd.next (by k_asm) (by k_asm) ?_
  intro o₂ h₂ tk₂ F₂ N₂ hc₂
  k_steps
  refine TupEnd.next (by k_asm) (by k_asm) ?_
  intro h₃ tk₃ F₃ N₃
  k_steps
  exact hret _ _ _ _ _ _ (by k_asm) (by first | k_asm | exact news_drop3 (by k_asm) | (refine' cb_drop ?cbN ?cbS; (case cbN => assumption); (case cbS => kcj_all)))
set_option maxHeartbeats 4000000 in
theorem esc_big {v : Int} (hd : dp + 5 < recursionLimit) (h1 : has sDIGITS ((cpl T).drop n) = true) (h2 : numOf (txt ((cpl T).drop n) (tkw sDIGITS ((cpl T).drop n))) 10 = v) (h3 : v > 1114111)
    (hraise : ∀ e t v h' tk' G, RaisedS base G (envX cn cs L a ccd cl :: outer) e (.ref 52) t [v] [] h' → Fr h₀ L G m → G.UpToSlots h' → E (.ref e) { s with heap := h', toks := tk' }) :
    wpAny (model PySem.Challenge.pw_np0234_01 w) (ktrTop dp un gd cn cs L a ccd cl outer) (call (.ref 228) [.ref sg]) Q E s := by
  subst h2
  unfold sDIGITS at *
  have h5 : among (sgn ((cpl T).drop n) 0) (Str.ofString "0123456789") = true := by rw [among_sgn, List.drop_zero]; exact h1
  refine wpAny_call ?_
  k_dflt k_extra "enter"
  k_steps
  exact hraise _ _ _ _ _ _ (by assumption) (by k_asm) (by assumption)
set_option maxHeartbeats 4000000 in
theorem esc_q {b : Str} (hd : dp + 5 < recursionLimit) (h0 : sgn ((cpl T).drop n) 0 = Str.ofString "q") (h1 : (txt ((cpl T).drop n) (Str.ofString "DEL").length == Str.ofString "DEL") = false) (h2 : nmBest ((cpl T).drop n) 33 = (b, none))
    (hraise : ∀ e t v h' tk' G, RaisedS base G (envX cn cs L a ccd cl :: outer) e (.ref 52) t [v] [] h' → Fr h₀ L G m → G.UpToSlots h' → E (.ref e) { s with heap := h', toks := tk' }) :
    wpAny (model PySem.Challenge.pw_np0234_01 w) (ktrTop dp un gd cn cs L a ccd cl outer) (call (.ref 228) [.ref sg]) Q E s := by
  have ea : among (Str.ofString "q") (Str.ofString "0123456789") = false := by decide +kernel
  refine wpAny_call ?_
  k_dflt k_extra "enter"
  k_steps
  refine Stopped.go ?_
  refine tup2 (by rfl) (by k_asm) (by k_asm) (by k_mem) ?_
  intro I hI o₁ h₁ tk₁ F₁ N₁ hc₁
  k_steps
  refine TupEnd.next (by k_asm) (by k_asm) ?_
  intro o₂ h₂ tk₂ F₂ N₂ hc₂
  k_steps
  refine TupEnd.next (by k_asm) (by k_asm) ?_
  intro h₃ tk₃ F₃ N₃
  k_steps
  exact hraise _ _ _ _ _ _ (by assumption) (by k_asm) (by assumption)
theorem esc_spec {c k : Nat} (hd : dp + 5 < recursionLimit) (he : EscOk (cpl T) n c k)
    (hret : ∀ h' tk' t' ta' tl' tc', Fr h₀ L h' m → News h₀ L h' ((d, sgS w k1 k2 k3 k4 T tT (n + k) ta' tl' tc') :: (sg, instObj 147 d) :: rest) → Q (.str ⟨#[c]⟩ t') { s with heap := h', toks := tk' }) :
    wpAny (model PySem.Challenge.pw_np0234_01 w) (ktrTop dp un gd cn cs L a ccd cl outer) (call (.ref 228) [.ref sg]) Q E s := by
  cases he with
  | dec h1 h2 h3 h4 => exact esc_dec B F X N Tp hk hsd hne hT hd h1 h2 h3 h4 hret
  | hex h0 h1 h2 h3 h4 => exact esc_hex B F X N Tp hk hsd hne hT hd h0 h1 h2 h3 h4 hret
  | ctl h0 h1 h2 => exact esc_ctl B F X N Tp hk hsd hne hT hd h0 h1 h2 hret
  | nl h0 => exact esc_nl B F X N Tp hk hsd hne hT hd h0 hret
  | q1 h0 => exact esc_q1 B F X N Tp hk hsd hne hT hd h0 hret
  | q2 h0 => exact esc_q2 B F X N Tp hk hsd hne hT hd h0 hret
  | named h0 h1 h2 => exact esc_named B F X N Tp hk hsd hne hT hd h0 h1 h2 hret
theorem esc_bad (hd : dp + 5 < recursionLimit) (he : EscBad (cpl T) n)
    (hraise : ∀ e t v h' tk' G, RaisedS base G (envX cn cs L a ccd cl :: outer) e (.ref 52) t [v] [] h' → Fr h₀ L G m → G.UpToSlots h' → E (.ref e) { s with heap := h', toks := tk' }) :
    wpAny (model PySem.Challenge.pw_np0234_01 w) (ktrTop dp un gd cn cs L a ccd cl outer) (call (.ref 228) [.ref sg]) Q E s := by
  cases he with
  | big h1 h2 h3 => exact esc_big B F X N Tp hk hsd hne hT hd h1 h2 h3 hraise
  | q h0 h1 h2 => exact esc_q B F X N Tp hk hsd hne hT hd h0 h1 h2 hraise
end
/-- a sign between quotes, read from place n -/
theorem rg_N4_34 : True := by
  k_with_none
  k_with "all" => assumption
  k_with "enter" => (refine' code_def ?enk1 ?enk2 ?enk3 ?enk4 ?enk5 ?enkA ?enkF ?enkK ?enk6 ?enk7 ?enk8 ?enk9 ?enkB ?_ ?enc2 ?enc3 ?enc4 ?enc5; (case enkA => exact rfl); (case enkF => exact rfl); (case enkK => first | exact rfl | assumption); (case enk1 => k_asm); (case enk2 => k_asm); (case enk3 => k_asm); (case enk4 => k_asm); (case enk5 => k_asm); (case enk6 => k_is); (case enk7 => k_is); (case enk8 => ktr_room); (case enk9 => first | exact BindsTo.of_eq rfl | exact binds_K (by k_in) rfl (by k_is) rfl rfl rfl); (case enc5 => decide); (case enkB => exact locs rfl); (case enc2 => exact rfl); (case enc3 => exact rfl); (case enc4 => exact rfl); k_whole; intro g' L' h' FG' F' N' B' X' T'; (try dsimp only); (try k_fold))
  k_with "my leaving ref" => (k_here; k_dflt (first | (refine leave_onR (by assumption) (by k_asm) (by k_asm) (by k_asm) ?_; k_whole; intro h' R' _ U'; (try dsimp only)) | (refine leave_we (by k_asm) (by k_asm) (by k_asm) ?_ (by exact rfl); k_whole; intro h' R' U'; (try dsimp only))))
  k_with "all" => first | assumption | exact List.forall_mem_nil _ | (refine off_cons (by k_asm) (by k_mem) (by k_mem) (by (intro e; have e9 := congrArg Obj.cls e; first | (simp at e9; done) | ((rename Obj.cls _ = Value.type "tuple_iterator" => hc9); rw [hc9] at e9; simp at e9; done))) (by k_all)) | (refine List.forall_mem_cons.mpr ⟨(by first | assumption | k_ne), (by k_all)⟩) | (refine List.forall_mem_append.mpr ⟨(by k_all), (by k_all)⟩)
  exact trivial
inductive ChOk (l : List Nat) (n : Nat) : Nat → Nat → Prop
  | esc {c k : Nat} : sgn (l.drop (n + 1)) 0 = Str.ofString "\\" → EscOk l (n + 1 + 1) c k → sgn (l.drop (n + 1 + 1 + k)) 0 = Str.ofString "'" → ChOk l n c (1 + 1 + k + 1)
inductive ChBad (l : List Nat) (n : Nat) : Prop
  | quote : sgn (l.drop (n + 1)) 0 = Str.ofString "'" → ChBad l n
  | long : sgn (l.drop (n + 1)) 0 = Str.ofString "a" → (sgn (l.drop (n + 1 + 1)) 0 != Str.ofString "'") = true → ChBad l n
  | esc : sgn (l.drop (n + 1)) 0 = Str.ofString "\\" → EscBad l (n + 1 + 1) → ChBad l n
/-- a text's rest behind its first quote: its signs' numbers, the signs taken -/
inductive TxOk (l : List Nat) : Nat → List Nat → Nat → Prop
  | done {n : Nat} : sgn (l.drop n) 0 = Str.ofString "\"" → TxOk l n [] 1
  | plain {n c k : Nat} {vs : List Nat} : sgn (l.drop n) 0 = ⟨#[c]⟩ → (sgn (l.drop n) 0 != Str.ofString "\"") = true → ([Str.ofString "", Str.ofString "\n"].any (· == sgn (l.drop n) 0)) = false → (sgn (l.drop n) 0 != Str.ofString "\\") = true →
      TxOk l (n + 1) vs k → TxOk l n (c :: vs) (k + 1)
  | amp {n k : Nat} {vs : List Nat} : sgn (l.drop n) 0 = Str.ofString "\\" → sgn (l.drop (n + 1)) 0 = Str.ofString "&" → TxOk l (n + 1 + 1) vs k → TxOk l n vs (k + 1 + 1)
  | esc {n c j k : Nat} {vs : List Nat} : sgn (l.drop n) 0 = Str.ofString "\\" → (sgn (l.drop (n + 1)) 0 == Str.ofString "&") = false → among (sgn (l.drop (n + 1)) 0) (Str.ofString " \t\n\r\x0c\x0b") = false → EscOk l (n + 1) c j →
      TxOk l (n + 1 + j) vs k → TxOk l n (c :: vs) (k + j + 1)
inductive TxBad (l : List Nat) : Nat → Nat → Prop
  | fin {n : Nat} : sgn (l.drop n) 0 = Str.ofString "" → TxBad l n 1
  | nl {n : Nat} : sgn (l.drop n) 0 = Str.ofString "\n" → TxBad l n 1
  | esc {n : Nat} : sgn (l.drop n) 0 = Str.ofString "\\" → (sgn (l.drop (n + 1)) 0 == Str.ofString "&") = false → among (sgn (l.drop (n + 1)) 0) (Str.ofString " \t\n\r\x0c\x0b") = false → EscBad l (n + 1) → TxBad l n 1
  | plain {n k : Nat} : (sgn (l.drop n) 0 != Str.ofString "\"") = true → ([Str.ofString "", Str.ofString "\n"].any (· == sgn (l.drop n) 0)) = false → (sgn (l.drop n) 0 != Str.ofString "\\") = true → TxBad l (n + 1) k → TxBad l n (k + 1)
noncomputable def one (c : Nat) : Str := ⟨#[c]⟩
theorem strs_snoc {vs : List Value} {xs : List Str} (h : StrsAre vs xs) (y : Str) (t : Tok) : StrsAre (vs ++ [.str y t]) (xs ++ [y]) := by
  induction h with
  | nil => exact .cons _ _ .nil
  | cons z u _ ih => exact .cons _ _ ih
theorem sjoin_one : ∀ cs : List Nat, Str.join (Str.ofString "") (cs.map one) = ⟨cs.toArray⟩
  | [] => rfl
  | [c] => rfl
  | c :: d :: r => by
    have ih := sjoin_one (d :: r)
    have e : (Str.ofString "" : Str) = ⟨#[]⟩ := by decide +kernel
    show one c ++ Str.ofString "" ++ Str.join (Str.ofString "") ((d :: r).map one) = _
    rw [ih, e]
    show (⟨(#[c] ++ #[]) ++ (d :: r).toArray⟩ : Str) = _
    simp
theorem join_one (cs : List Nat) : Txt.join (Str.ofString "") (cs.map one) = ⟨cs.toArray⟩ := by
  unfold Txt.join
  rw [StrLaws.glued_eq_join, sjoin_one]
theorem ones_weight (cs : List Nat) : ((cs.map one).map (·.length)).sum = cs.length := by
  induction cs with
  | nil => rfl
  | cons c r ih => rw [List.map_cons, List.map_cons, List.sum_cons, ih, List.length_cons]; show 1 + r.length = _; omega
theorem while_opt {σ : Type} {prog : Program} {w : World} {A : Around} {E : Value → Shared → Prop} {Q : Flow → Shared → Prop} {s : Shared} {env : Env} {h₀ : Heap} {L : Addr} {test : Expr} {body : List Stmt} {pos : Pos} {M : Str → Option Value}
    (v : Str) (val : σ → Option Value) (I : σ → Prop) (μ : σ → Nat) (nw : σ → List (Addr × Obj)) (x₀ : σ)
    (F : Fr h₀ L s.heap M) (hM : M v = val x₀) (N : News h₀ L s.heap (nw x₀)) (hI : I x₀)
    (turn : ∀ x h₁ tk₁, Fr h₀ L h₁ (fun y => if y = v then val x else M y) → News h₀ L h₁ (nw x) → I x →
      wpAny (model prog w) A (isTrue test env (eval test env)) (fun b s₂ =>
        if b = true then wpAny (model prog w) A (execs body env) (TurnEnd h₀ L s I μ (fun x y => if y = v then val x else M y) nw Q x) E s₂ else Q .next s₂) E { s with heap := h₁, toks := tk₁ })
    (hE : PassesOwn (model prog w) A env E) :
    wpAny (model prog w) A (exec (.While test body [] pos) env) Q E s := 
  while_loop I μ (fun x y => if y = v then val x else M y) nw x₀ (by
    have e : M = fun y => if y = v then val x₀ else M y := by
      funext y
      by_cases h : y = v
      · rw [if_pos h, h, hM]
      · rw [if_neg h]
    exact e ▸ F) N hI turn hE
structure RtS where
  i : Nat
  pre : List Nat
  vals : List Value
  cap : Nat
  sv : Option Value
  ta : Tok
  tl : Tok
  tc : Tok
  rv : List Nat
  rk : Nat
noncomputable def RtI (l : List Nat) (n : Nat) (vs : List Nat) (k : Nat) (x : RtS) : Prop := TxOk l (n + x.i) x.rv x.rk ∧ vs = x.pre ++ x.rv ∧ k = x.i + x.rk ∧ StrsAre x.vals (x.pre.map one) ∧ x.vals.length = x.pre.length
theorem off_lt {l : Addr} : ∀ {rest : List (Addr × Obj)}, AllLt l rest → ∀ p ∈ rest, p.1 ≠ l
  | [], _, _, hp => nomatch hp
  | q :: r, h, p, hp => by
    rcases List.mem_cons.mp hp with rfl | hp
    · exact Nat.ne_of_lt h.1
    · exact off_lt h.2 p hp
theorem rg_F3_35 : True := by
  k_with_none
  k_with "all" => assumption
  k_with "enter" => (refine' code_def ?enk1 ?enk2 ?enk3 ?enk4 ?enk5 ?enkA ?enkF ?enkK ?enk6 ?enk7 ?enk8 ?enk9 ?enkB ?_ ?enc2 ?enc3 ?enc4 ?enc5; (case enkA => exact rfl); (case enkF => exact rfl); (case enkK => first | exact rfl | assumption); (case enk1 => k_asm); (case enk2 => k_asm); (case enk3 => k_asm); (case enk4 => k_asm); (case enk5 => k_asm); (case enk6 => k_is); (case enk7 => k_is); (case enk8 => ktr_room); (case enk9 => first | exact BindsTo.of_eq rfl | exact binds_K (by k_in) rfl (by k_is) rfl rfl rfl); (case enc5 => decide); (case enkB => exact locs rfl); (case enc2 => exact rfl); (case enc3 => exact rfl); (case enc4 => exact rfl); k_whole; intro g' L' h' FG' F' N' B' X' T'; (try dsimp only); (try k_fold))
  k_with "my leaving ref" => (k_here; k_dflt (first | (refine leave_onR (by assumption) (by k_asm) (by k_asm) (by k_asm) ?_; k_whole; intro h' R' _ U'; (try dsimp only)) | (refine leave_we (by k_asm) (by k_asm) (by k_asm) ?_ (by exact rfl); k_whole; intro h' R' U'; (try dsimp only))))
  k_with "all" => first | assumption | exact List.forall_mem_nil _ | (refine off_cons (by k_asm) (by k_mem) (by k_mem) (by (intro e; have e9 := congrArg Obj.cls e; first | (simp at e9; done) | ((rename Obj.cls _ = Value.type "tuple_iterator" => hc9); rw [hc9] at e9; simp at e9; done))) (by k_all)) | (refine List.forall_mem_cons.mpr ⟨(by first | assumption | k_ne), (by k_all)⟩) | (refine List.forall_mem_append.mpr ⟨(by k_all), (by k_all)⟩)
  k_with "room" => ((have hcL9 := cLine_is); (simp only [units_in1, units_deeper, Around.mark_units, units_caller]); (try dsimp only [ktrTop]); omega)
  exact trivial
theorem rg_F3_36 : True := by
  k_with_none
  k_with "all" => assumption
  k_with "enter" => (refine' code_def ?enk1 ?enk2 ?enk3 ?enk4 ?enk5 ?enkA ?enkF ?enkK ?enk6 ?enk7 ?enk8 ?enk9 ?enkB ?_ ?enc2 ?enc3 ?enc4 ?enc5; (case enkA => exact rfl); (case enkF => exact rfl); (case enkK => first | exact rfl | assumption); (case enk1 => k_asm); (case enk2 => k_asm); (case enk3 => k_asm); (case enk4 => k_asm); (case enk5 => k_asm); (case enk6 => k_is); (case enk7 => k_is); (case enk8 => ktr_room); (case enk9 => first | exact BindsTo.of_eq rfl | exact binds_K (by k_in) rfl (by k_is) rfl rfl rfl); (case enc5 => decide); (case enkB => exact locs rfl); (case enc2 => exact rfl); (case enc3 => exact rfl); (case enc4 => exact rfl); k_whole; intro g' L' h' FG' F' N' B' X' T'; (try dsimp only); (try k_fold))
  k_with "my leaving ref" => (k_here; k_dflt (first | (refine leave_onR (by assumption) (by k_asm) (by k_asm) (by k_asm) ?_; k_whole; intro h' R' _ U'; (try dsimp only)) | (refine leave_we (by k_asm) (by k_asm) (by k_asm) ?_ (by exact rfl); k_whole; intro h' R' U'; (try dsimp only))))
  k_with "all" => first | assumption | exact List.forall_mem_nil _ | (refine off_cons (by k_asm) (by k_mem) (by k_mem) (by (intro e; have e9 := congrArg Obj.cls e; first | (simp at e9; done) | ((rename Obj.cls _ = Value.type "tuple_iterator" => hc9); rw [hc9] at e9; simp at e9; done))) (by k_all)) | (refine List.forall_mem_cons.mpr ⟨(by first | assumption | k_ne), (by k_all)⟩) | (refine List.forall_mem_append.mpr ⟨(by k_all), (by k_all)⟩)
  k_with "room" => ((have hcL9 := cLine_is); (simp only [units_in1, units_deeper, Around.mark_units, units_caller]); (try dsimp only [ktrTop]); omega)
  k_with "my exec While BoolOp cons nil" => (k_here; refine Stopped.at_ ?_)
  k_with "my exec While Compare cons nil" => (k_here; refine Stopped.at_ ?_)
  k_with "my exec While Name cons nil" => (k_here; refine Stopped.at_ ?_)
  k_with "my exec For Name Call cons nil" => (k_here; k_extra "for")
  k_with "my exec For Name Name cons nil" => (k_here; k_extra "for")
  k_with "my exec For Tuple Tuple cons nil" => (k_here; k_extra "for")
  k_with "my exec While Call cons nil" => (k_here; refine Stopped.at_ ?_)
  k_with "my compareOp In str ref" => (k_here; (with_reducible show wpAny _ _ (compareOp CmpOp.In (Value.str _ _) (Value.ref _)) _ _ _); k_dflt (refine in_topK (by k_asm) (by k_asm) (by k_is) (by repeat constructor) ?_; k_whole))
  k_with "my exec Raise some none" => (k_here; k_dflt (refine raise_stmt rfl ?_))
  k_with "my RaiseAt" => (k_here; k_dflt (refine raise_at (by k_asm) (by k_asm) (by k_asm) ?_; k_whole))
  k_with "my call ref" => (k_here; (with_reducible show wpAny _ _ (call (Value.ref 158) _ _) _ _ _); k_dflt (refine is_among_spec (by k_asm) (by k_asm) (by k_asm) (by k_asm) (by k_asm) (by first | exact rfl | assumption)  (by ktr_room) ?_; k_whole; intro h' tk' F' N'; (try dsimp only); (try k_sweep); (try k_fold)))
  k_with "my call ref" => (k_here; (with_reducible show wpAny _ _ (call (Value.ref 116) _ _) _ _ _); k_dflt (refine sign_spec (by k_asm) (by k_asm) (by k_asm) (by k_asm) (by k_asm) (by first | exact rfl | assumption) (by k_mem) (by k_mem) (by assumption) (by ktr_room) ?_; k_whole; intro h' tk' t' F' N'; (try dsimp only); (try k_sweep); (try k_fold)))
  k_with "my call ref" => (k_here; (with_reducible show wpAny _ _ (call (Value.ref 116) _ _) _ _ _); k_dflt (refine sign0_spec (by k_asm) (by k_asm) (by k_asm) (by k_asm) (by k_asm) (by first | exact rfl | assumption) (by k_mem) (by k_mem) (by assumption) (by ktr_room) ?_; k_whole; intro h' tk' t' F' N'; (try dsimp only); (try k_sweep); (try k_fold)))
  k_with "my call ref" => (k_here; (with_reducible show wpAny _ _ (call (Value.ref 165) _ _) _ _ _); k_dflt (refine name_letters_spec (by k_asm) (by k_asm) (by k_asm) (by k_asm) (by k_asm) (by first | exact rfl | assumption)  (by ktr_room) ?_; k_whole; intro h' tk' t' F' N'; (try dsimp only); (try k_sweep); (try k_fold)))
  k_with "my call ref" => (k_here; (with_reducible show wpAny _ _ (call (Value.ref 123) _ _) _ _ _); k_dflt (refine starts_spec (by k_asm) (by k_asm) (by k_asm) (by k_asm) (by k_asm) (by first | exact rfl | assumption) (by k_mem) (by k_mem) (by assumption) (by ktr_room) (by first | assumption | omega | decide) ?_; k_whole; intro h' tk' F' N'; (try dsimp only); (try k_sweep); (try k_fold)))
  k_with "my call ref" => (k_here; (with_reducible show wpAny _ _ (call (Value.ref 144) _ _) _ _ _); k_dflt (refine place_spec (by k_asm) (by k_asm) (by k_asm) (by k_asm) (by k_asm) (by first | exact rfl | assumption) (by k_mem) (by k_mem) (by assumption) (by ktr_room) ?_; k_whole; intro h' tk' q F' N' l1; (try dsimp only); (try k_sweep); (try k_fold)))
  k_with "my call ref" => (k_here; (with_reducible show wpAny _ _ (call (Value.ref 130) _ _) _ _ _); k_dflt (refine step_spec (by k_asm) (by k_asm) (by k_asm) (news_pick2 (by k_asm) (by (repeat (first | exact Pick.head | apply Pick.tail))) (by (repeat (first | exact Pick.head | apply Pick.tail)))) (by k_asm) (by first | exact rfl | assumption) (by first | assumption | k_ne) (by k_all) (by assumption) (by ktr_room) ?_; k_whole; intro h' tk' t' ta' tl' tc' F' N'; (try dsimp only); (try k_sweep); (try k_fold)))
  k_with "my call ref" => (k_here; (with_reducible show wpAny _ _ (call (Value.ref 137) _ _) _ _ _); k_dflt (refine take_spec (by k_asm) (by k_asm) (by k_asm) (news_pick2 (by k_asm) (by (repeat (first | exact Pick.head | apply Pick.tail))) (by (repeat (first | exact Pick.head | apply Pick.tail)))) (by k_asm) (by first | exact rfl | assumption) (by first | assumption | k_ne) (by k_all) (by assumption) (by ktr_room) ?_; k_whole; intro h' tk' t' ta' tl' tc' F' N'; (try dsimp only); (try k_sweep); (try k_fold)))
  k_with "my call ref" => (k_here; (with_reducible show wpAny _ _ (call (Value.ref 52) _ _) _ _ _); k_dflt (refine werr_spec (by k_asm) (by k_asm) (by k_asm) (by k_asm) (by k_asm) (by first | exact rfl | assumption)  (by ktr_room) ?_; k_whole; intro e' t' D' h' tk' F' N'; (try dsimp only); (try k_sweep); (try k_fold)))
  k_with "my call ref" => (k_here; (with_reducible show wpAny _ _ (call (Value.ref 172) _ _) _ _ _); k_dflt (refine ilc_spec (by k_asm) (by k_asm) (by k_asm) (by k_asm) (by k_asm) (by first | exact rfl | assumption) (by k_mem) (by k_mem) (by assumption) (by ktr_room) ?_; k_whole; intro h' tk' F' N'; (try dsimp only); (try k_sweep); (try k_fold)))
  k_with "my call ref" => (k_here; (with_reducible show wpAny _ _ (call (Value.ref 179) _ _) _ _ _); k_dflt (refine nest_spec2 (by k_asm) (by k_asm) (by k_asm) (news_pick2 (by k_asm) (by (repeat (first | exact Pick.head | apply Pick.tail))) (by (repeat (first | exact Pick.head | apply Pick.tail)))) (by k_asm) (by first | exact rfl | assumption) (by first | assumption | k_ne) (by k_all) (by assumption) (by ktr_room) ?_ ?_ ?_; (case' refine_2 => (intro k9 hk9 h' tk' ta' tl' tc' F' N'; (try dsimp only); (try k_sweep); (try k_fold))); (case' refine_3 => (intro p0 e' t' v' h' tk' G' R' F' U'; (try dsimp only)))))
  k_with "my call ref" => (k_here; (with_reducible show wpAny _ _ (call (Value.ref 193) _ _) _ _ _); k_dflt (refine number_of_16 (by k_asm) (by k_asm) (by k_asm) (by k_asm) (by k_asm) (by first | exact rfl | assumption)  (by ktr_room) (by exact numSigns_take hexHex _) ?_; k_whole; intro h' tk' t' F' N'; (try dsimp only); (try k_sweep); (try k_fold)))
  k_with "my call ref" => (k_here; (with_reducible show wpAny _ _ (call (Value.ref 193) _ _) _ _ _); k_dflt (refine number_of_8 (by k_asm) (by k_asm) (by k_asm) (by k_asm) (by k_asm) (by first | exact rfl | assumption)  (by ktr_room) (by exact numSigns_take octHex _) ?_; k_whole; intro h' tk' t' F' N'; (try dsimp only); (try k_sweep); (try k_fold)))
  k_with "my call ref" => (k_here; (with_reducible show wpAny _ _ (call (Value.ref 193) _ _) _ _ _); k_dflt (refine number_of_10 (by k_asm) (by k_asm) (by k_asm) (by k_asm) (by k_asm) (by first | exact rfl | assumption)  (by ktr_room) (by exact numSigns_take decHex _) ?_; k_whole; intro h' tk' t' F' N'; (try dsimp only); (try k_sweep); (try k_fold)))
  k_with "my call ref" => (k_here; (with_reducible show wpAny _ _ (call (Value.ref 116) _ _) _ _ _); k_dflt (refine sign_lit (by k_asm) (by k_asm) (by k_asm) (by k_asm) (by k_asm) (by first | exact rfl | assumption) (by k_mem) (by k_mem) (by assumption) (by ktr_room) (by assumption) ?_; k_whole; intro h' tk' t' F' N'; (try dsimp only); (try k_sweep); (try k_fold)))
  k_with "my call ref" => (k_here; (with_reducible show wpAny _ _ (call (Value.ref 116) _ _) _ _ _); k_dflt (refine sign0_lit (by k_asm) (by k_asm) (by k_asm) (by k_asm) (by k_asm) (by first | exact rfl | assumption) (by k_mem) (by k_mem) (by assumption) (by ktr_room) (by assumption) ?_; k_whole; intro h' tk' t' F' N'; (try dsimp only); (try k_sweep); (try k_fold)))
  k_with "my call ref" => (k_here; (with_reducible show wpAny _ _ (call (Value.ref 158) _ _) _ _ _); k_dflt (refine among_yes (by k_asm) (by k_asm) (by k_asm) (by k_asm) (by k_asm) (by first | exact rfl | assumption)  (by ktr_room) (by first | assumption | decide +kernel) ?_; k_whole; intro h' tk' F' N'; (try dsimp only); (try k_sweep); (try k_fold)))
  k_with "my call ref" => (k_here; (with_reducible show wpAny _ _ (call (Value.ref 158) _ _) _ _ _); k_dflt (refine among_no (by k_asm) (by k_asm) (by k_asm) (by k_asm) (by k_asm) (by first | exact rfl | assumption)  (by ktr_room) (by first | assumption | decide +kernel) ?_; k_whole; intro h' tk' F' N'; (try dsimp only); (try k_sweep); (try k_fold)))
  k_with "my call ref" => (k_here; (with_reducible show wpAny _ _ (call (Value.ref 123) _ _) _ _ _); k_dflt (refine starts_spec (by k_asm) (by k_asm) (by k_asm) (by k_asm) (by k_asm) (by first | exact rfl | assumption) (by k_mem) (by k_mem) (by assumption) (by ktr_room) (by first | assumption | exact names_len _ | omega | decide) ?_; k_whole; intro h' tk' F' N'; (try dsimp only); (try k_sweep); (try k_fold)))
  k_with "my call ref" => (k_here; (with_reducible show wpAny _ _ (call (Value.ref 207) _ _) _ _ _); k_dflt (refine read_number_spec (by k_asm) (by k_asm) (by k_asm) (news_pick2 (by k_asm) (by (repeat (first | exact Pick.head | apply Pick.tail))) (by (repeat (first | exact Pick.head | apply Pick.tail)))) (by k_asm) (by first | exact rfl | assumption) (by first | assumption | k_ne) (by k_all) (by assumption) (by ktr_room) (by assumption) ?_; k_whole; intro h' tk' t' ta' tl' tc' F' N'; (try dsimp only); (try k_sweep); (try k_fold)))
  k_with "my call ref" => (k_here; (with_reducible show wpAny _ _ (call (Value.ref 214) _ _) _ _ _); k_dflt (refine chk_ok (by k_asm) (by k_asm) (by k_asm) (by k_asm) (by k_asm) (by first | exact rfl | assumption)  (by ktr_room) (by first | assumption | omega) (by first | assumption | omega) ?_; k_whole; intro h' tk' t' F' N'; (try dsimp only); (try k_sweep); (try k_fold)))
  k_with "my call ref" => (k_here; (with_reducible show wpAny _ _ (call (Value.ref 214) _ _) _ _ _); k_dflt (refine chk_no (by k_asm) (by k_asm) (by k_asm) (by k_asm) (by k_asm) (by first | exact rfl | assumption)  (by ktr_room) (by first | assumption | omega) ?_; k_whole; intro e' t' v' h' tk' G' R' F' U'; (try dsimp only)))
  k_with "my call ref" => (k_here; (with_reducible show wpAny _ _ (call (Value.ref 221) _ _) _ _ _); k_dflt (refine named_some (by k_asm) (by k_asm) (by k_asm) (news_pick2 (by k_asm) (by (repeat (first | exact Pick.head | apply Pick.tail))) (by (repeat (first | exact Pick.head | apply Pick.tail)))) (by k_asm) (by first | exact rfl | assumption) (by first | assumption | k_ne) (by k_all) (by assumption) (by ktr_room) (by assumption) (by assumption) ?_; k_whole; intro h' tk' t' ta' tl' tc' F' N'; (try dsimp only); (try k_sweep); (try k_fold)))
  k_with "my call ref" => (k_here; (with_reducible show wpAny _ _ (call (Value.ref 221) _ _) _ _ _); k_dflt (refine named_none (by k_asm) (by k_asm) (by k_asm) (news_pick2 (by k_asm) (by (repeat (first | exact Pick.head | apply Pick.tail))) (by (repeat (first | exact Pick.head | apply Pick.tail)))) (by k_asm) (by first | exact rfl | assumption) (by first | assumption | k_ne) (by k_all) (by assumption) (by ktr_room) (by assumption) (by assumption) ?_; k_whole; intro h' tk' t' ta' tl' tc' F' N'; (try dsimp only); (try k_sweep); (try k_fold)))
  k_with "my call ref" => (k_here; (with_reducible show wpAny _ _ (call (Value.ref 130) _ _) _ _ _); k_dflt (refine step_lit (by k_asm) (by k_asm) (by k_asm) (news_pick2 (by k_asm) (by (repeat (first | exact Pick.head | apply Pick.tail))) (by (repeat (first | exact Pick.head | apply Pick.tail)))) (by k_asm) (by first | exact rfl | assumption) (by first | assumption | k_ne) (by k_all) (by assumption) (by ktr_room) (by assumption) ?_; k_whole; intro h' tk' t' ta' tl' tc' F' N'; (try dsimp only); (try k_sweep); (try k_fold)))
  k_with "my call ref" => (k_here; (with_reducible show wpAny _ _ (call (Value.ref 228) _ _) _ _ _); k_dflt (refine esc_spec (by k_asm) (by k_asm) (by k_asm) (news_pick2 (by k_asm) (by (repeat (first | exact Pick.head | apply Pick.tail))) (by (repeat (first | exact Pick.head | apply Pick.tail)))) (by k_asm) (by first | exact rfl | assumption) (by first | assumption | k_ne) (by k_all) (by assumption) (by ktr_room) (by assumption) ?_; k_whole; intro h' tk' t' ta' tl' tc' F' N'; (try dsimp only); (try k_sweep); (try k_fold)))
  k_with "my call ref" => (k_here; (with_reducible show wpAny _ _ (call (Value.ref 228) _ _) _ _ _); k_dflt (refine esc_bad (by k_asm) (by k_asm) (by k_asm) (news_pick2 (by k_asm) (by (repeat (first | exact Pick.head | apply Pick.tail))) (by (repeat (first | exact Pick.head | apply Pick.tail)))) (by k_asm) (by first | exact rfl | assumption) (by first | assumption | k_ne) (by k_all) (by assumption) (by ktr_room) (by assumption) ?_; k_whole; intro e' t' v' h' tk' G' R' F' U'; (try dsimp only)))
  k_with "my exec While Compare cons nil" => (k_here; refine Stopped.at_ ?_)
  k_with "fits" => (simp only [List.size_toArray, PySem.sizeLine_eq]; omega)
  k_with "my call builtin:str.join" => (k_here; (with_reducible show wpAny _ _ (call (Value.builtin _) [Value.str _ _, Value.ref _]) _ _ _); k_dflt (refine join_listW (by is_list) (by assumption) (by decide +kernel) (by rw [ones_weight, List.length_map]; omega) ?_); intro _ _)
  exact trivial
section
variable {w : World} {p : Program} {loose : List Str} {mean : ExcName → Option Value} {mg mb : Str → Option Value} {dp un : Nat} {gd : Option (List Code)} {cn : Str} {cs : Scope} {a : Addr} {ccd : Value} {cl : List (Str × Addr)} {outer : List Env} {A₀ : Around} {base h₀ : Heap} {L : Addr} {m : Str → Option Value} {news : List (Addr × Obj)} {s : Shared} {Q E : Value → Shared → Prop}
  (B : Below A₀ base outer h₀) (F : Fr h₀ L s.heap m) (X : (kk.heap_1 w.params).In h₀)
variable {sg d : Addr} {k1 k2 k3 k4 : Tok} {T : Str} {tT : Tok} {n : Nat} {ta tl tc : Tok} {rest : List (Addr × Obj)}
  (N : News h₀ L s.heap ((d, sgS w k1 k2 k3 k4 T tT n ta tl tc) :: (sg, instObj 147 d) :: rest)) (Tp : Top p loose mean mg mb h₀) (hk : cs.kind = .function)
  (hsd : @Ne Nat sg d) (hne : ∀ p ∈ rest, p.1 ≠ d) (hT : T.length ≤ 4096)
include B F X N Tp hk hsd hne hT
set_option maxHeartbeats 4000000 in
theorem ch_ok {c k : Nat} (hd : dp + 6 < recursionLimit) (hx : ChOk (cpl T) n c k)
    (hret : ∀ h' tk' t' ta' tl' tc', Fr h₀ L h' m → News h₀ L h' ((d, sgS w k1 k2 k3 k4 T tT (n + k) ta' tl' tc') :: (sg, instObj 147 d) :: rest) → Q (.str ⟨#[c]⟩ t') { s with heap := h', toks := tk' }) :
    wpAny (model PySem.Challenge.pw_np0234_01 w) (ktrTop dp un gd cn cs L a ccd cl outer) (call (.ref 235) [.ref sg]) Q E s := by
  cases hx with
  | esc h1 h2 h3 =>
    simp only [← Nat.add_assoc] at hret
    refine wpAny_call ?_
    k_dflt k_extra "enter"
    k_steps
    exact hret _ _ _ _ _ _ (by k_asm) (by first | k_asm | (rw [← Nat.add_assoc]; k_asm) | exact news_drop3 (by k_asm) | (refine' cb_drop ?cbN ?cbS; (case cbN => assumption); (case cbS => kcj_all)))
set_option maxHeartbeats 4000000 in
theorem ch_bad (hd : dp + 6 < recursionLimit) (hx : ChBad (cpl T) n)
    (hraise : ∀ e t v h' tk' G, RaisedS base G (envX cn cs L a ccd cl :: outer) e (.ref 52) t [v] [] h' → Fr h₀ L G m → G.UpToSlots h' → E (.ref e) { s with heap := h', toks := tk' }) :
    wpAny (model PySem.Challenge.pw_np0234_01 w) (ktrTop dp un gd cn cs L a ccd cl outer) (call (.ref 235) [.ref sg]) Q E s := by
  cases hx
  all_goals
    refine wpAny_call ?_
    k_dflt k_extra "enter"
    k_steps
    exact hraise _ _ _ _ _ _ (by assumption) (by k_asm) (by assumption)
end
theorem rg_F4_37 : True := by
  k_with_none
  k_with "all" => assumption
  k_with "enter" => (refine' code_def ?enk1 ?enk2 ?enk3 ?enk4 ?enk5 ?enkA ?enkF ?enkK ?enk6 ?enk7 ?enk8 ?enk9 ?enkB ?_ ?enc2 ?enc3 ?enc4 ?enc5; (case enkA => exact rfl); (case enkF => exact rfl); (case enkK => first | exact rfl | assumption); (case enk1 => k_asm); (case enk2 => k_asm); (case enk3 => k_asm); (case enk4 => k_asm); (case enk5 => k_asm); (case enk6 => k_is); (case enk7 => k_is); (case enk8 => ktr_room); (case enk9 => first | exact BindsTo.of_eq rfl | exact binds_K (by k_in) rfl (by k_is) rfl rfl rfl); (case enc5 => decide); (case enkB => exact locs rfl); (case enc2 => exact rfl); (case enc3 => exact rfl); (case enc4 => exact rfl); k_whole; intro g' L' h' FG' F' N' B' X' T'; (try dsimp only); (try k_fold))
  k_with "my leaving ref" => (k_here; k_dflt (first | (refine leave_onR (by assumption) (by k_asm) (by k_asm) (by k_asm) ?_; k_whole; intro h' R' _ U'; (try dsimp only)) | (refine leave_we (by k_asm) (by k_asm) (by k_asm) ?_ (by exact rfl); k_whole; intro h' R' U'; (try dsimp only))))
  k_with "all" => first | assumption | exact List.forall_mem_nil _ | (refine off_cons (by k_asm) (by k_mem) (by k_mem) (by (intro e; have e9 := congrArg Obj.cls e; first | (simp at e9; done) | ((rename Obj.cls _ = Value.type "tuple_iterator" => hc9); rw [hc9] at e9; simp at e9; done))) (by k_all)) | (refine List.forall_mem_cons.mpr ⟨(by first | assumption | k_ne), (by k_all)⟩) | (refine List.forall_mem_append.mpr ⟨(by k_all), (by k_all)⟩)
  k_with "room" => ((have hcL9 := cLine_is); (simp only [units_in1, units_deeper, Around.mark_units, units_caller]); (try dsimp only [ktrTop]); omega)
  exact trivial
theorem rg_F4_38 : True := by
  k_with_none
  k_with "all" => assumption
  k_with "enter" => (refine' code_def ?enk1 ?enk2 ?enk3 ?enk4 ?enk5 ?enkA ?enkF ?enkK ?enk6 ?enk7 ?enk8 ?enk9 ?enkB ?_ ?enc2 ?enc3 ?enc4 ?enc5; (case enkA => exact rfl); (case enkF => exact rfl); (case enkK => first | exact rfl | assumption); (case enk1 => k_asm); (case enk2 => k_asm); (case enk3 => k_asm); (case enk4 => k_asm); (case enk5 => k_asm); (case enk6 => k_is); (case enk7 => k_is); (case enk8 => ktr_room); (case enk9 => first | exact BindsTo.of_eq rfl | exact binds_K (by k_in) rfl (by k_is) rfl rfl rfl); (case enc5 => decide); (case enkB => exact locs rfl); (case enc2 => exact rfl); (case enc3 => exact rfl); (case enc4 => exact rfl); k_whole; intro g' L' h' FG' F' N' B' X' T'; (try dsimp only); (try k_fold))
  k_with "my leaving ref" => (k_here; k_dflt (first | (refine leave_onR (by assumption) (by k_asm) (by k_asm) (by k_asm) ?_; k_whole; intro h' R' _ U'; (try dsimp only)) | (refine leave_we (by k_asm) (by k_asm) (by k_asm) ?_ (by exact rfl); k_whole; intro h' R' U'; (try dsimp only))))
  k_with "all" => first | assumption | exact List.forall_mem_nil _ | (refine off_cons (by k_asm) (by k_mem) (by k_mem) (by (intro e; have e9 := congrArg Obj.cls e; first | (simp at e9; done) | ((rename Obj.cls _ = Value.type "tuple_iterator" => hc9); rw [hc9] at e9; simp at e9; done))) (by k_all)) | (refine List.forall_mem_cons.mpr ⟨(by first | assumption | k_ne), (by k_all)⟩) | (refine List.forall_mem_append.mpr ⟨(by k_all), (by k_all)⟩)
  k_with "room" => ((have hcL9 := cLine_is); (simp only [units_in1, units_deeper, Around.mark_units, units_caller]); (try dsimp only [ktrTop]); omega)
  k_with "my exec While BoolOp cons nil" => (k_here; refine Stopped.at_ ?_)
  k_with "my exec While Compare cons nil" => (k_here; refine Stopped.at_ ?_)
  k_with "my exec While Name cons nil" => (k_here; refine Stopped.at_ ?_)
  k_with "my exec For Name Call cons nil" => (k_here; k_extra "for")
  k_with "my exec For Name Name cons nil" => (k_here; k_extra "for")
  k_with "my exec For Tuple Tuple cons nil" => (k_here; k_extra "for")
  k_with "my exec While Call cons nil" => (k_here; refine Stopped.at_ ?_)
  k_with "my compareOp In str ref" => (k_here; (with_reducible show wpAny _ _ (compareOp CmpOp.In (Value.str _ _) (Value.ref _)) _ _ _); k_dflt (refine in_topK (by k_asm) (by k_asm) (by k_is) (by repeat constructor) ?_; k_whole))
  k_with "my exec Raise some none" => (k_here; k_dflt (refine raise_stmt rfl ?_))
  k_with "my RaiseAt" => (k_here; k_dflt (refine raise_at (by k_asm) (by k_asm) (by k_asm) ?_; k_whole))
  k_with "my call ref" => (k_here; (with_reducible show wpAny _ _ (call (Value.ref 158) _ _) _ _ _); k_dflt (refine is_among_spec (by k_asm) (by k_asm) (by k_asm) (by k_asm) (by k_asm) (by first | exact rfl | assumption)  (by ktr_room) ?_; k_whole; intro h' tk' F' N'; (try dsimp only); (try k_sweep); (try k_fold)))
  k_with "my call ref" => (k_here; (with_reducible show wpAny _ _ (call (Value.ref 116) _ _) _ _ _); k_dflt (refine sign_spec (by k_asm) (by k_asm) (by k_asm) (by k_asm) (by k_asm) (by first | exact rfl | assumption) (by k_mem) (by k_mem) (by assumption) (by ktr_room) ?_; k_whole; intro h' tk' t' F' N'; (try dsimp only); (try k_sweep); (try k_fold)))
  k_with "my call ref" => (k_here; (with_reducible show wpAny _ _ (call (Value.ref 116) _ _) _ _ _); k_dflt (refine sign0_spec (by k_asm) (by k_asm) (by k_asm) (by k_asm) (by k_asm) (by first | exact rfl | assumption) (by k_mem) (by k_mem) (by assumption) (by ktr_room) ?_; k_whole; intro h' tk' t' F' N'; (try dsimp only); (try k_sweep); (try k_fold)))
  k_with "my call ref" => (k_here; (with_reducible show wpAny _ _ (call (Value.ref 165) _ _) _ _ _); k_dflt (refine name_letters_spec (by k_asm) (by k_asm) (by k_asm) (by k_asm) (by k_asm) (by first | exact rfl | assumption)  (by ktr_room) ?_; k_whole; intro h' tk' t' F' N'; (try dsimp only); (try k_sweep); (try k_fold)))
  k_with "my call ref" => (k_here; (with_reducible show wpAny _ _ (call (Value.ref 123) _ _) _ _ _); k_dflt (refine starts_spec (by k_asm) (by k_asm) (by k_asm) (by k_asm) (by k_asm) (by first | exact rfl | assumption) (by k_mem) (by k_mem) (by assumption) (by ktr_room) (by first | assumption | omega | decide) ?_; k_whole; intro h' tk' F' N'; (try dsimp only); (try k_sweep); (try k_fold)))
  k_with "my call ref" => (k_here; (with_reducible show wpAny _ _ (call (Value.ref 144) _ _) _ _ _); k_dflt (refine place_spec (by k_asm) (by k_asm) (by k_asm) (by k_asm) (by k_asm) (by first | exact rfl | assumption) (by k_mem) (by k_mem) (by assumption) (by ktr_room) ?_; k_whole; intro h' tk' q F' N' l1; (try dsimp only); (try k_sweep); (try k_fold)))
  k_with "my call ref" => (k_here; (with_reducible show wpAny _ _ (call (Value.ref 130) _ _) _ _ _); k_dflt (refine step_spec (by k_asm) (by k_asm) (by k_asm) (news_pick2 (by k_asm) (by (repeat (first | exact Pick.head | apply Pick.tail))) (by (repeat (first | exact Pick.head | apply Pick.tail)))) (by k_asm) (by first | exact rfl | assumption) (by first | assumption | k_ne) (by k_all) (by assumption) (by ktr_room) ?_; k_whole; intro h' tk' t' ta' tl' tc' F' N'; (try dsimp only); (try k_sweep); (try k_fold)))
  k_with "my call ref" => (k_here; (with_reducible show wpAny _ _ (call (Value.ref 137) _ _) _ _ _); k_dflt (refine take_spec (by k_asm) (by k_asm) (by k_asm) (news_pick2 (by k_asm) (by (repeat (first | exact Pick.head | apply Pick.tail))) (by (repeat (first | exact Pick.head | apply Pick.tail)))) (by k_asm) (by first | exact rfl | assumption) (by first | assumption | k_ne) (by k_all) (by assumption) (by ktr_room) ?_; k_whole; intro h' tk' t' ta' tl' tc' F' N'; (try dsimp only); (try k_sweep); (try k_fold)))
  k_with "my call ref" => (k_here; (with_reducible show wpAny _ _ (call (Value.ref 52) _ _) _ _ _); k_dflt (refine werr_spec (by k_asm) (by k_asm) (by k_asm) (by k_asm) (by k_asm) (by first | exact rfl | assumption)  (by ktr_room) ?_; k_whole; intro e' t' D' h' tk' F' N'; (try dsimp only); (try k_sweep); (try k_fold)))
  k_with "my call ref" => (k_here; (with_reducible show wpAny _ _ (call (Value.ref 172) _ _) _ _ _); k_dflt (refine ilc_spec (by k_asm) (by k_asm) (by k_asm) (by k_asm) (by k_asm) (by first | exact rfl | assumption) (by k_mem) (by k_mem) (by assumption) (by ktr_room) ?_; k_whole; intro h' tk' F' N'; (try dsimp only); (try k_sweep); (try k_fold)))
  k_with "my call ref" => (k_here; (with_reducible show wpAny _ _ (call (Value.ref 179) _ _) _ _ _); k_dflt (refine nest_spec2 (by k_asm) (by k_asm) (by k_asm) (news_pick2 (by k_asm) (by (repeat (first | exact Pick.head | apply Pick.tail))) (by (repeat (first | exact Pick.head | apply Pick.tail)))) (by k_asm) (by first | exact rfl | assumption) (by first | assumption | k_ne) (by k_all) (by assumption) (by ktr_room) ?_ ?_ ?_; (case' refine_2 => (intro k9 hk9 h' tk' ta' tl' tc' F' N'; (try dsimp only); (try k_sweep); (try k_fold))); (case' refine_3 => (intro p0 e' t' v' h' tk' G' R' F' U'; (try dsimp only)))))
  k_with "my call ref" => (k_here; (with_reducible show wpAny _ _ (call (Value.ref 193) _ _) _ _ _); k_dflt (refine number_of_16 (by k_asm) (by k_asm) (by k_asm) (by k_asm) (by k_asm) (by first | exact rfl | assumption)  (by ktr_room) (by exact numSigns_take hexHex _) ?_; k_whole; intro h' tk' t' F' N'; (try dsimp only); (try k_sweep); (try k_fold)))
  k_with "my call ref" => (k_here; (with_reducible show wpAny _ _ (call (Value.ref 193) _ _) _ _ _); k_dflt (refine number_of_8 (by k_asm) (by k_asm) (by k_asm) (by k_asm) (by k_asm) (by first | exact rfl | assumption)  (by ktr_room) (by exact numSigns_take octHex _) ?_; k_whole; intro h' tk' t' F' N'; (try dsimp only); (try k_sweep); (try k_fold)))
  k_with "my call ref" => (k_here; (with_reducible show wpAny _ _ (call (Value.ref 193) _ _) _ _ _); k_dflt (refine number_of_10 (by k_asm) (by k_asm) (by k_asm) (by k_asm) (by k_asm) (by first | exact rfl | assumption)  (by ktr_room) (by exact numSigns_take decHex _) ?_; k_whole; intro h' tk' t' F' N'; (try dsimp only); (try k_sweep); (try k_fold)))
  k_with "my call ref" => (k_here; (with_reducible show wpAny _ _ (call (Value.ref 116) _ _) _ _ _); k_dflt (refine sign_lit (by k_asm) (by k_asm) (by k_asm) (by k_asm) (by k_asm) (by first | exact rfl | assumption) (by k_mem) (by k_mem) (by assumption) (by ktr_room) (by assumption) ?_; k_whole; intro h' tk' t' F' N'; (try dsimp only); (try k_sweep); (try k_fold)))
  k_with "my call ref" => (k_here; (with_reducible show wpAny _ _ (call (Value.ref 116) _ _) _ _ _); k_dflt (refine sign0_lit (by k_asm) (by k_asm) (by k_asm) (by k_asm) (by k_asm) (by first | exact rfl | assumption) (by k_mem) (by k_mem) (by assumption) (by ktr_room) (by assumption) ?_; k_whole; intro h' tk' t' F' N'; (try dsimp only); (try k_sweep); (try k_fold)))
  k_with "my call ref" => (k_here; (with_reducible show wpAny _ _ (call (Value.ref 158) _ _) _ _ _); k_dflt (refine among_yes (by k_asm) (by k_asm) (by k_asm) (by k_asm) (by k_asm) (by first | exact rfl | assumption)  (by ktr_room) (by first | assumption | decide +kernel) ?_; k_whole; intro h' tk' F' N'; (try dsimp only); (try k_sweep); (try k_fold)))
  k_with "my call ref" => (k_here; (with_reducible show wpAny _ _ (call (Value.ref 158) _ _) _ _ _); k_dflt (refine among_no (by k_asm) (by k_asm) (by k_asm) (by k_asm) (by k_asm) (by first | exact rfl | assumption)  (by ktr_room) (by first | assumption | decide +kernel) ?_; k_whole; intro h' tk' F' N'; (try dsimp only); (try k_sweep); (try k_fold)))
  k_with "my call ref" => (k_here; (with_reducible show wpAny _ _ (call (Value.ref 123) _ _) _ _ _); k_dflt (refine starts_spec (by k_asm) (by k_asm) (by k_asm) (by k_asm) (by k_asm) (by first | exact rfl | assumption) (by k_mem) (by k_mem) (by assumption) (by ktr_room) (by first | assumption | exact names_len _ | omega | decide) ?_; k_whole; intro h' tk' F' N'; (try dsimp only); (try k_sweep); (try k_fold)))
  k_with "my call ref" => (k_here; (with_reducible show wpAny _ _ (call (Value.ref 207) _ _) _ _ _); k_dflt (refine read_number_spec (by k_asm) (by k_asm) (by k_asm) (news_pick2 (by k_asm) (by (repeat (first | exact Pick.head | apply Pick.tail))) (by (repeat (first | exact Pick.head | apply Pick.tail)))) (by k_asm) (by first | exact rfl | assumption) (by first | assumption | k_ne) (by k_all) (by assumption) (by ktr_room) (by assumption) ?_; k_whole; intro h' tk' t' ta' tl' tc' F' N'; (try dsimp only); (try k_sweep); (try k_fold)))
  k_with "my call ref" => (k_here; (with_reducible show wpAny _ _ (call (Value.ref 214) _ _) _ _ _); k_dflt (refine chk_ok (by k_asm) (by k_asm) (by k_asm) (by k_asm) (by k_asm) (by first | exact rfl | assumption)  (by ktr_room) (by first | assumption | omega) (by first | assumption | omega) ?_; k_whole; intro h' tk' t' F' N'; (try dsimp only); (try k_sweep); (try k_fold)))
  k_with "my call ref" => (k_here; (with_reducible show wpAny _ _ (call (Value.ref 214) _ _) _ _ _); k_dflt (refine chk_no (by k_asm) (by k_asm) (by k_asm) (by k_asm) (by k_asm) (by first | exact rfl | assumption)  (by ktr_room) (by first | assumption | omega) ?_; k_whole; intro e' t' v' h' tk' G' R' F' U'; (try dsimp only)))
  k_with "my call ref" => (k_here; (with_reducible show wpAny _ _ (call (Value.ref 221) _ _) _ _ _); k_dflt (refine named_some (by k_asm) (by k_asm) (by k_asm) (news_pick2 (by k_asm) (by (repeat (first | exact Pick.head | apply Pick.tail))) (by (repeat (first | exact Pick.head | apply Pick.tail)))) (by k_asm) (by first | exact rfl | assumption) (by first | assumption | k_ne) (by k_all) (by assumption) (by ktr_room) (by assumption) (by assumption) ?_; k_whole; intro h' tk' t' ta' tl' tc' F' N'; (try dsimp only); (try k_sweep); (try k_fold)))
  k_with "my call ref" => (k_here; (with_reducible show wpAny _ _ (call (Value.ref 221) _ _) _ _ _); k_dflt (refine named_none (by k_asm) (by k_asm) (by k_asm) (news_pick2 (by k_asm) (by (repeat (first | exact Pick.head | apply Pick.tail))) (by (repeat (first | exact Pick.head | apply Pick.tail)))) (by k_asm) (by first | exact rfl | assumption) (by first | assumption | k_ne) (by k_all) (by assumption) (by ktr_room) (by assumption) (by assumption) ?_; k_whole; intro h' tk' t' ta' tl' tc' F' N'; (try dsimp only); (try k_sweep); (try k_fold)))
  k_with "my call ref" => (k_here; (with_reducible show wpAny _ _ (call (Value.ref 130) _ _) _ _ _); k_dflt (refine step_lit (by k_asm) (by k_asm) (by k_asm) (news_pick2 (by k_asm) (by (repeat (first | exact Pick.head | apply Pick.tail))) (by (repeat (first | exact Pick.head | apply Pick.tail)))) (by k_asm) (by first | exact rfl | assumption) (by first | assumption | k_ne) (by k_all) (by assumption) (by ktr_room) (by assumption) ?_; k_whole; intro h' tk' t' ta' tl' tc' F' N'; (try dsimp only); (try k_sweep); (try k_fold)))
  k_with "my call ref" => (k_here; (with_reducible show wpAny _ _ (call (Value.ref 228) _ _) _ _ _); k_dflt (refine esc_spec (by k_asm) (by k_asm) (by k_asm) (news_pick2 (by k_asm) (by (repeat (first | exact Pick.head | apply Pick.tail))) (by (repeat (first | exact Pick.head | apply Pick.tail)))) (by k_asm) (by first | exact rfl | assumption) (by first | assumption | k_ne) (by k_all) (by assumption) (by ktr_room) (by assumption) ?_; k_whole; intro h' tk' t' ta' tl' tc' F' N'; (try dsimp only); (try k_sweep); (try k_fold)))
  k_with "my call ref" => (k_here; (with_reducible show wpAny _ _ (call (Value.ref 228) _ _) _ _ _); k_dflt (refine esc_bad (by k_asm) (by k_asm) (by k_asm) (news_pick2 (by k_asm) (by (repeat (first | exact Pick.head | apply Pick.tail))) (by (repeat (first | exact Pick.head | apply Pick.tail)))) (by k_asm) (by first | exact rfl | assumption) (by first | assumption | k_ne) (by k_all) (by assumption) (by ktr_room) (by assumption) ?_; k_whole; intro e' t' v' h' tk' G' R' F' U'; (try dsimp only)))
  k_with "my call ref" => (k_here; (with_reducible show wpAny _ _ (call (Value.ref 235) _ _) _ _ _); k_dflt (refine ch_ok (by k_asm) (by k_asm) (by k_asm) (news_pick2 (by k_asm) (by (repeat (first | exact Pick.head | apply Pick.tail))) (by (repeat (first | exact Pick.head | apply Pick.tail)))) (by k_asm) (by first | exact rfl | assumption) (by first | assumption | k_ne) (by k_all) (by assumption) (by ktr_room) (by assumption) ?_; k_whole; intro h' tk' t' ta' tl' tc' F' N'; (try dsimp only); (try k_sweep); (try k_fold)))
  k_with "my call ref" => (k_here; (with_reducible show wpAny _ _ (call (Value.ref 235) _ _) _ _ _); k_dflt (refine ch_bad (by k_asm) (by k_asm) (by k_asm) (news_pick2 (by k_asm) (by (repeat (first | exact Pick.head | apply Pick.tail))) (by (repeat (first | exact Pick.head | apply Pick.tail)))) (by k_asm) (by first | exact rfl | assumption) (by first | assumption | k_ne) (by k_all) (by assumption) (by ktr_room) (by assumption) ?_; k_whole; intro e' t' v' h' tk' G' R' F' U'; (try dsimp only)))
  k_with "my exec While Compare cons nil" => (k_here; refine Stopped.at_ ?_)
  k_with "fits" => (simp only [List.size_toArray, PySem.sizeLine_eq]; omega)
  k_with "my call builtin:str.join" => (k_here; (with_reducible show wpAny _ _ (call (Value.builtin _) [Value.str _ _, Value.ref _]) _ _ _); k_dflt (refine join_listW (by is_list) (by (try simp only [List.toList_toArray]); assumption) (by decide +kernel) (by rw [ones_weight, List.length_map]; omega) ?_); intro _ _)
  exact trivial
section
variable {w : World} {p : Program} {loose : List Str} {mean : ExcName → Option Value} {mg mb : Str → Option Value} {dp un : Nat} {gd : Option (List Code)} {cn : Str} {cs : Scope} {a : Addr} {ccd : Value} {cl : List (Str × Addr)} {outer : List Env} {A₀ : Around} {base h₀ : Heap} {L : Addr} {m : Str → Option Value} {news : List (Addr × Obj)} {s : Shared} {Q E : Value → Shared → Prop}
  (B : Below A₀ base outer h₀) (F : Fr h₀ L s.heap m) (X : (kk.heap_1 w.params).In h₀)
variable {sg d : Addr} {k1 k2 k3 k4 : Tok} {T : Str} {tT : Tok} {n : Nat} {ta tl tc : Tok} {rest : List (Addr × Obj)}
  (N : News h₀ L s.heap ((d, sgS w k1 k2 k3 k4 T tT n ta tl tc) :: (sg, instObj 147 d) :: rest)) (Tp : Top p loose mean mg mb h₀) (hk : cs.kind = .function)
  (hsd : @Ne Nat sg d) (hne : ∀ p ∈ rest, p.1 ≠ d) (hT : T.length ≤ 4096)
include B F X N Tp hk hsd hne hT
set_option maxHeartbeats 4000000 in
theorem rt_ok {vs : List Nat} {k : Nat} (hd : dp + 6 < recursionLimit) (hx : TxOk (cpl T) (n + 1) vs k) (hvs : vs.length ≤ 1000)
    (hret : ∀ h' tk' t' ta' tl' tc', Fr h₀ L h' m → News h₀ L h' ((d, sgS w k1 k2 k3 k4 T tT (n + 1 + k) ta' tl' tc') :: (sg, instObj 147 d) :: rest) → Q (.str ⟨vs.toArray⟩ t') { s with heap := h', toks := tk' }) :
    wpAny (model PySem.Challenge.pw_np0234_01 w) (ktrTop dp un gd cn cs L a ccd cl outer) (call (.ref 249) [.ref sg]) Q E s := by
  refine wpAny_call ?_
  k_dflt k_extra "enter"
  k_steps
  rename _ ∧ _ ∧ _ ∧ AllLt _ _ => l1
  obtain ⟨hl1, hl2, hl3, hl4⟩ := l1
  have hof := off_lt hl4
  refine Stopped.go ?_
  refine while_opt (σ := RtS) (Str.ofString "sign") (fun x => x.sv) (RtI (cpl T) (n + 1) vs k) (fun x => x.rk) (fun x => (d, sgS w k1 k2 k3 k4 T tT (n + 1 + x.i) x.ta x.tl x.tc) :: (sg, instObj 147 d) :: (_, listOf x.vals.toArray x.cap) :: (_, tupO _) :: rest) ⟨0, [], [], 0, none, _, _, _, vs, k⟩ (by k_asm) (by rfl) (by first | k_asm | (refine' cb_drop ?cbN ?cbS; (case cbN => assumption); (case cbS => kcj_all))) ⟨hx, rfl, (Nat.zero_add _).symm, .nil, rfl⟩ ?_ (by passes_own)
  rintro ⟨i, pre, vals, cap, sv, ta, tl, tc, rv, rk⟩ h₁ tk₁ F₁ N₁ ⟨hi, hv, hk', hs, hlen⟩
  dsimp only at F₁ N₁ hi hv hk' hs hlen
  have hpl : pre.length ≤ 1000 := by rw [hv, List.length_append] at hvs; omega
  cases hi with
  | done h1 =>
    k_steps
    refine q_eq (hret _ _ _ _ _ _ (by k_asm) (by rw [hk', ← Nat.add_assoc]; exact news_drop3 (news_drop3 (by k_asm)))) (congrArg (fun x => Value.str x _) ?_)
    rw [join_one, hv, List.append_nil]
  | @plain _ c rk rv h1 h2 h3 h4 h5 =>
    k_steps
    refine TurnEnd.next ⟨i + 1, pre ++ [c], vals ++ [.str (sgn ((cpl T).drop (n + 1 + i)) 0) _], cap + 1, _, _, _, _, rv, rk⟩ (Fr_over (by k_asm) rfl) (by dsimp only; rw [← List.push_toArray]; first | k_asm | exact news_tail (by k_asm)) (by dsimp only; omega) ⟨h5, by rw [hv]; simp, by dsimp only; omega, ?_, by simp [hlen]⟩
    rw [List.map_append, List.map_cons, List.map_nil, show one c = sgn _ _ from h1.symm]
    exact strs_snoc hs _ _
  | @amp _ rk rv h1 h2 h3 =>
    k_steps
    exact TurnEnd.next ⟨i + 1 + 1, pre, vals, cap, _, _, _, _, rv, rk⟩ (Fr_over (by k_asm) rfl) (by first | k_asm | exact news_tail (by k_asm) | exact news_drop3 (by k_asm)) (by dsimp only; omega) ⟨h3, hv, by dsimp only; omega, hs, hlen⟩
  | @esc _ c j rk rv h1 h2 h3 h4 h5 =>
    k_steps
    refine TurnEnd.next ⟨i + 1 + j, pre ++ [c], vals ++ [.str ⟨#[c]⟩ _], cap + 1, _, _, _, _, rv, rk⟩ (Fr_over (by k_asm) rfl) (by dsimp only; rw [← List.push_toArray]; simp only [← Nat.add_assoc]; first | k_asm | exact news_tail (by k_asm) | exact news_drop3 (by k_asm)) (by dsimp only; omega) ⟨by simp only [← Nat.add_assoc]; exact h5, by rw [hv]; simp, by dsimp only; omega, ?_, by simp [hlen]⟩
    rw [List.map_append, List.map_cons, List.map_nil]
    exact strs_snoc hs (one c) _
set_option maxHeartbeats 4000000 in
theorem rt_bad {k : Nat} (hd : dp + 6 < recursionLimit) (hx : TxBad (cpl T) (n + 1) k) (hkk : k ≤ 1000)
    (hraise : ∀ e t v h' tk' G, RaisedS base G (envX cn cs L a ccd cl :: outer) e (.ref 52) t [v] [] h' → Fr h₀ L G m → G.UpToSlots h' → E (.ref e) { s with heap := h', toks := tk' }) :
    wpAny (model PySem.Challenge.pw_np0234_01 w) (ktrTop dp un gd cn cs L a ccd cl outer) (call (.ref 249) [.ref sg]) Q E s := by
  refine wpAny_call ?_
  k_dflt k_extra "enter"
  k_steps
  rename _ ∧ _ ∧ _ ∧ AllLt _ _ => l1
  obtain ⟨hl1, hl2, hl3, hl4⟩ := l1
  have hof := off_lt hl4
  refine Stopped.go ?_
  refine while_opt (σ := RtS) (Str.ofString "sign") (fun x => x.sv) (fun x => TxBad (cpl T) (n + 1 + x.i) x.rk ∧ x.vals.length + x.rk ≤ 1000) (fun x => x.rk) (fun x => (d, sgS w k1 k2 k3 k4 T tT (n + 1 + x.i) x.ta x.tl x.tc) :: (sg, instObj 147 d) :: (_, listOf x.vals.toArray x.cap) :: (_, tupO _) :: rest) ⟨0, [], [], 0, none, _, _, _, [], k⟩ (by k_asm) (by rfl) (by first | k_asm | (refine' cb_drop ?cbN ?cbS; (case cbN => assumption); (case cbS => kcj_all))) ⟨hx, by simpa using hkk⟩ ?_ (by passes_own)
  rintro ⟨i, pre, vals, cap, sv, ta, tl, tc, rv, rk⟩ h₁ tk₁ F₁ N₁ ⟨hi, hlen⟩
  dsimp only at F₁ N₁ hi hlen
  cases hi with
  | fin h1 =>
    k_steps
    exact hraise _ _ _ _ _ _ (by assumption) (by k_asm) (by assumption)
  | nl h1 =>
    k_steps
    exact hraise _ _ _ _ _ _ (by assumption) (by k_asm) (by assumption)
  | esc h1 h2 h3 h4 =>
    k_steps
    exact hraise _ _ _ _ _ _ (by assumption) (by k_asm) (by assumption)
  | @plain _ rk h2 h3 h4 h5 =>
    k_steps
    exact TurnEnd.next ⟨i + 1, pre, vals ++ [.str (sgn ((cpl T).drop (n + 1 + i)) 0) _], cap + 1, _, _, _, _, rv, rk⟩ (Fr_over (by k_asm) rfl) (by dsimp only; rw [← List.push_toArray]; first | k_asm | exact news_tail (by k_asm)) (by dsimp only; omega) ⟨h5, by simp; omega⟩
end
/-- what a word's third part holds -/
theorem rg_N5_39 : True := by
  k_with_none
  k_with "all" => assumption
  k_with "enter" => (refine' code_def ?enk1 ?enk2 ?enk3 ?enk4 ?enk5 ?enkA ?enkF ?enkK ?enk6 ?enk7 ?enk8 ?enk9 ?enkB ?_ ?enc2 ?enc3 ?enc4 ?enc5; (case enkA => exact rfl); (case enkF => exact rfl); (case enkK => first | exact rfl | assumption); (case enk1 => k_asm); (case enk2 => k_asm); (case enk3 => k_asm); (case enk4 => k_asm); (case enk5 => k_asm); (case enk6 => k_is); (case enk7 => k_is); (case enk8 => ktr_room); (case enk9 => first | exact BindsTo.of_eq rfl | exact binds_K (by k_in) rfl (by k_is) rfl rfl rfl); (case enc5 => decide); (case enkB => exact locs rfl); (case enc2 => exact rfl); (case enc3 => exact rfl); (case enc4 => exact rfl); k_whole; intro g' L' h' FG' F' N' B' X' T'; (try dsimp only); (try k_fold))
  k_with "my leaving ref" => (k_here; k_dflt (first | (refine leave_onR (by assumption) (by k_asm) (by k_asm) (by k_asm) ?_; k_whole; intro h' R' _ U'; (try dsimp only)) | (refine leave_we (by k_asm) (by k_asm) (by k_asm) ?_ (by exact rfl); k_whole; intro h' R' U'; (try dsimp only))))
  k_with "all" => first | assumption | exact List.forall_mem_nil _ | (refine off_cons (by k_asm) (by k_mem) (by k_mem) (by (intro e; have e9 := congrArg Obj.cls e; first | (simp at e9; done) | ((rename Obj.cls _ = Value.type "tuple_iterator" => hc9); rw [hc9] at e9; simp at e9; done))) (by k_all)) | (refine List.forall_mem_cons.mpr ⟨(by first | assumption | k_ne), (by k_all)⟩) | (refine List.forall_mem_append.mpr ⟨(by k_all), (by k_all)⟩)
  k_with "room" => ((have hcL9 := cLine_is); (simp only [units_in1, units_deeper, Around.mark_units, units_caller]); (try dsimp only [ktrTop]); omega)
  exact trivial
inductive PV where
  | none
  | int (i : Int)
  | str (x : Str)
noncomputable def pvV : PV → Tok → Value
  | .none, _ => .none
  | .int i, t => .int i t
  | .str x, t => .str x t
/-- names that begin with a capital: kind, text, third part, signs taken -/
inductive GnOk (l : List Nat) (n : Nat) : Str → Str → PV → Nat → Prop
  | plain {k : Nat} : tkw sNAME (l.drop n) = k → bpt (l.drop (n + k)) = none → GnOk l n (Str.ofString "con") (txt (l.drop n) k) .none k
  | var {k j : Nat} : tkw sNAME (l.drop n) = k → bpt (l.drop (n + k)) = some (Str.ofString "var") → tkw sNAME (l.drop (n + k + 1)) = j →
      GnOk l n (Str.ofString "var") (txt (l.drop (n + k + 1)) j) (.str (Txt.join (Str.ofString ".") [txt (l.drop n) k])) (k + 1 + j)
  | sym {k j : Nat} : tkw sNAME (l.drop n) = k → bpt (l.drop (n + k)) = some (Str.ofString "sym") → 0 < (syms (l.drop (n + k))).length → (symk (syms (l.drop (n + k))) == Str.ofString "op") = false → tkw sSYMBOLS (l.drop (n + k + 1)) = j →
      0 < (txt (l.drop (n + k + 1)) j).length → GnOk l n (symk (txt (l.drop (n + k + 1)) j)) (txt (l.drop (n + k + 1)) j) (.str (Txt.join (Str.ofString ".") [txt (l.drop n) k])) (k + 1 + j)
  | con {k j i : Nat} : tkw sNAME (l.drop n) = k → bpt (l.drop (n + k)) = some (Str.ofString "con") → tkw sNAME (l.drop (n + k + 1)) = j → bpt (l.drop (n + k + 1 + j)) = some (Str.ofString "con") → tkw sNAME (l.drop (n + k + 1 + j + 1)) = i →
      bpt (l.drop (n + k + 1 + j + 1 + i)) = none → PyData.strOk (txt (l.drop n) k) = true → PyData.strOk (txt (l.drop (n + k + 1)) j) = true →
      GnOk l n (Str.ofString "con") (txt (l.drop (n + k + 1 + j + 1)) i) (.str (Txt.join (Str.ofString ".") [txt (l.drop n) k, txt (l.drop (n + k + 1)) j])) (k + 1 + j + 1 + i)
theorem txt_len {T : Str} {n k : Nat} (hT : T.length ≤ 4096) : (txt ((cpl T).drop n) k).length ≤ 4096 := by
  have hl : (cpl T).length = T.length := by simp [Str.length, cpl]
  show ((((cpl T).drop n).take k).toArray).size ≤ _
  rw [List.size_toArray, List.length_take, List.length_drop]
  omega
theorem whl_ret {prog : Program} {w : World} {A : Around} {E : Value → Shared → Prop} {env : Env} {test : PySem.Expr} {body orelse : List Stmt} {Q : Flow → Shared → Prop} {k : Nat} {v : Value} {s : Shared} (h : Q (.ret v) s) : WhlPost prog w A E env test body orelse Q k (.ret v) s := h
theorem ne_strs2 {prog : Program} {w : World} {A : Around} {E : Value → Shared → Prop} {s : Shared} {h₀ : Heap} {L a b : Addr} {news : List (Addr × Obj)} {x y : Str} {tx ty : Tok} {k kb : Nat} {Q : Value → Shared → Prop}
    (N : News h₀ L s.heap news) (ma : (a, W.listOf ((#[].push (Value.str x tx)).push (Value.str y ty)) k) ∈ news) (mb : (b, W.listOf #[] kb) ∈ news) (hx : PyData.strOk x = true) (hy : PyData.strOk y = true) (hu : A.units + 64 < cLine) (h : Q (.bool true) s) : wpAny (model prog w) A (compareOp .NotEq (.ref a) (.ref b)) Q E s := by
  refine kqd_ne (xs := [.str x tx, .str y ty]) (ys := []) (ds := [.str x, .str y]) (es := []) (n₁ := []) (n₂ := []) N ma rfl rfl (DatAll.cons (.str _ _) (.cons (.str _ _) .nil)) (fun _ h => nomatch h) mb rfl rfl .nil (fun _ h => nomatch h) ?_ (fun _ h => nomatch h) hu (by simpa using h)
  intro d hd
  rcases List.mem_cons.mp hd with rfl | hd
  · simpa [kqdOk] using hx
  · rcases List.mem_cons.mp hd with rfl | hd
    · simpa [kqdOk] using hy
    · cases hd
section
variable {w : World} {p : Program} {loose : List Str} {mean : ExcName → Option Value} {mg mb : Str → Option Value} {dp un : Nat} {gd : Option (List Code)} {cn : Str} {cs : Scope} {a : Addr} {ccd : Value} {cl : List (Str × Addr)} {outer : List Env} {A₀ : Around} {base h₀ : Heap} {L : Addr} {m : Str → Option Value} {news : List (Addr × Obj)} {s : Shared} {Q E : Value → Shared → Prop}
  (B : Below A₀ base outer h₀) (F : Fr h₀ L s.heap m) (X : (kk.heap_1 w.params).In h₀)
  (N : News h₀ L s.heap news) (Tp : Top p loose mean mg mb h₀) (hk : cs.kind = .function)
variable {sg d : Addr} {k1 k2 k3 k4 : Tok} {T : Str} {tT : Tok} {n : Nat} {ta tl tc : Tok}
  (hm1 : (sg, instObj 147 d) ∈ news) (hm2 : (d, sgS w k1 k2 k3 k4 T tT n ta tl tc) ∈ news) (hT : T.length ≤ 4096)
include B F X N Tp hk hm1 hm2 hT
theorem bpt_none (hd : dp + 3 < recursionLimit) (hb : bpt ((cpl T).drop n) = none)
    (hret : ∀ h' tk', Fr h₀ L h' m → News h₀ L h' news → Q .none { s with heap := h', toks := tk' }) :
    wpAny (model PySem.Challenge.pw_np0234_01 w) (ktrTop dp un gd cn cs L a ccd cl outer) (call (.ref 263) [.ref sg]) Q E s :=
  bpt_spec B F X N Tp hk hm1 hm2 hT hd (fun _ => hret) (fun x hx => by rw [hb] at hx; cases hx)
theorem bpt_lit {x : String} (hd : dp + 3 < recursionLimit) (hb : bpt ((cpl T).drop n) = some (Str.ofString x))
    (hret : ∀ h' tk' t', Fr h₀ L h' m → News h₀ L h' news → Q (.str (Str.ofString x) t') { s with heap := h', toks := tk' }) :
    wpAny (model PySem.Challenge.pw_np0234_01 w) (ktrTop dp un gd cn cs L a ccd cl outer) (call (.ref 263) [.ref sg]) Q E s :=
  bpt_spec B F X N Tp hk hm1 hm2 hT hd (fun hx => by rw [hb] at hx; cases hx) (fun y hy => by rw [hb] at hy; cases hy; exact hret)
end
theorem rg_F5b_40 : True := by
  k_with_none
  k_with "all" => assumption
  k_with "enter" => (refine' code_def ?enk1 ?enk2 ?enk3 ?enk4 ?enk5 ?enkA ?enkF ?enkK ?enk6 ?enk7 ?enk8 ?enk9 ?enkB ?_ ?enc2 ?enc3 ?enc4 ?enc5; (case enkA => exact rfl); (case enkF => exact rfl); (case enkK => first | exact rfl | assumption); (case enk1 => k_asm); (case enk2 => k_asm); (case enk3 => k_asm); (case enk4 => k_asm); (case enk5 => k_asm); (case enk6 => k_is); (case enk7 => k_is); (case enk8 => ktr_room); (case enk9 => first | exact BindsTo.of_eq rfl | exact binds_K (by k_in) rfl (by k_is) rfl rfl rfl); (case enc5 => decide); (case enkB => exact locs rfl); (case enc2 => exact rfl); (case enc3 => exact rfl); (case enc4 => exact rfl); k_whole; intro g' L' h' FG' F' N' B' X' T'; (try dsimp only); (try k_fold))
  k_with "my leaving ref" => (k_here; k_dflt (first | (refine leave_onR (by assumption) (by k_asm) (by k_asm) (by k_asm) ?_; k_whole; intro h' R' _ U'; (try dsimp only)) | (refine leave_we (by k_asm) (by k_asm) (by k_asm) ?_ (by exact rfl); k_whole; intro h' R' U'; (try dsimp only))))
  k_with "all" => first | assumption | exact List.forall_mem_nil _ | (refine off_cons (by k_asm) (by k_mem) (by k_mem) (by (intro e; have e9 := congrArg Obj.cls e; first | (simp at e9; done) | ((rename Obj.cls _ = Value.type "tuple_iterator" => hc9); rw [hc9] at e9; simp at e9; done))) (by k_all)) | (refine List.forall_mem_cons.mpr ⟨(by first | assumption | k_ne), (by k_all)⟩) | (refine List.forall_mem_append.mpr ⟨(by k_all), (by k_all)⟩)
  k_with "room" => ((have hcL9 := cLine_is); (simp only [units_in1, units_deeper, Around.mark_units, units_caller]); (try dsimp only [ktrTop]); omega)
  exact trivial
theorem rg_F5b_41 : True := by
  k_with "my exec While BoolOp cons nil" => (k_here; refine Stopped.at_ ?_)
  k_with "my exec While Name cons nil" => (k_here; refine Stopped.at_ ?_)
  k_with "my exec For Name Call cons nil" => (k_here; k_extra "for")
  k_with "my exec For Name Name cons nil" => (k_here; k_extra "for")
  k_with "my exec For Tuple Tuple cons nil" => (k_here; k_extra "for")
  k_with "my exec While Call cons nil" => (k_here; refine Stopped.at_ ?_)
  k_with "my compareOp In str ref" => (k_here; (with_reducible show wpAny _ _ (compareOp CmpOp.In (Value.str _ _) (Value.ref _)) _ _ _); k_dflt (refine in_topK (by k_asm) (by k_asm) (by k_is) (by repeat constructor) ?_; k_whole))
  k_with "my exec Raise some none" => (k_here; k_dflt (refine raise_stmt rfl ?_))
  k_with "my RaiseAt" => (k_here; k_dflt (refine raise_at (by k_asm) (by k_asm) (by k_asm) ?_; k_whole))
  k_with "my call ref" => (k_here; (with_reducible show wpAny _ _ (call (Value.ref 158) _ _) _ _ _); k_dflt (refine is_among_spec (by k_asm) (by k_asm) (by k_asm) (by k_asm) (by k_asm) (by first | exact rfl | assumption)  (by ktr_room) ?_; k_whole; intro h' tk' F' N'; (try dsimp only); (try k_sweep); (try k_fold)))
  k_with "my call ref" => (k_here; (with_reducible show wpAny _ _ (call (Value.ref 116) _ _) _ _ _); k_dflt (refine sign_spec (by k_asm) (by k_asm) (by k_asm) (by k_asm) (by k_asm) (by first | exact rfl | assumption) (by k_mem) (by k_mem) (by assumption) (by ktr_room) ?_; k_whole; intro h' tk' t' F' N'; (try dsimp only); (try k_sweep); (try k_fold)))
  k_with "my call ref" => (k_here; (with_reducible show wpAny _ _ (call (Value.ref 116) _ _) _ _ _); k_dflt (refine sign0_spec (by k_asm) (by k_asm) (by k_asm) (by k_asm) (by k_asm) (by first | exact rfl | assumption) (by k_mem) (by k_mem) (by assumption) (by ktr_room) ?_; k_whole; intro h' tk' t' F' N'; (try dsimp only); (try k_sweep); (try k_fold)))
  k_with "my call ref" => (k_here; (with_reducible show wpAny _ _ (call (Value.ref 165) _ _) _ _ _); k_dflt (refine name_letters_spec (by k_asm) (by k_asm) (by k_asm) (by k_asm) (by k_asm) (by first | exact rfl | assumption)  (by ktr_room) ?_; k_whole; intro h' tk' t' F' N'; (try dsimp only); (try k_sweep); (try k_fold)))
  k_with "my call ref" => (k_here; (with_reducible show wpAny _ _ (call (Value.ref 123) _ _) _ _ _); k_dflt (refine starts_spec (by k_asm) (by k_asm) (by k_asm) (by k_asm) (by k_asm) (by first | exact rfl | assumption) (by k_mem) (by k_mem) (by assumption) (by ktr_room) (by first | assumption | omega | decide) ?_; k_whole; intro h' tk' F' N'; (try dsimp only); (try k_sweep); (try k_fold)))
  k_with "my call ref" => (k_here; (with_reducible show wpAny _ _ (call (Value.ref 144) _ _) _ _ _); k_dflt (refine place_spec (by k_asm) (by k_asm) (by k_asm) (by k_asm) (by k_asm) (by first | exact rfl | assumption) (by k_mem) (by k_mem) (by assumption) (by ktr_room) ?_; k_whole; intro h' tk' q F' N' l1; (try dsimp only); (try k_sweep); (try k_fold)))
  k_with "my call ref" => (k_here; (with_reducible show wpAny _ _ (call (Value.ref 130) _ _) _ _ _); k_dflt (refine step_spec (by k_asm) (by k_asm) (by k_asm) (news_pick2 (by k_asm) (by (repeat (first | exact Pick.head | apply Pick.tail))) (by (repeat (first | exact Pick.head | apply Pick.tail)))) (by k_asm) (by first | exact rfl | assumption) (by first | assumption | k_ne) (by k_all) (by assumption) (by ktr_room) ?_; k_whole; intro h' tk' t' ta' tl' tc' F' N'; (try dsimp only); (try k_sweep); (try k_fold)))
  k_with "my call ref" => (k_here; (with_reducible show wpAny _ _ (call (Value.ref 137) _ _) _ _ _); k_dflt (refine take_spec (by k_asm) (by k_asm) (by k_asm) (news_pick2 (by k_asm) (by (repeat (first | exact Pick.head | apply Pick.tail))) (by (repeat (first | exact Pick.head | apply Pick.tail)))) (by k_asm) (by first | exact rfl | assumption) (by first | assumption | k_ne) (by k_all) (by assumption) (by ktr_room) ?_; k_whole; intro h' tk' t' ta' tl' tc' F' N'; (try dsimp only); (try k_sweep); (try k_fold)))
  k_with "my call ref" => (k_here; (with_reducible show wpAny _ _ (call (Value.ref 158) _ _) _ _ _); k_dflt (refine among_yes (by k_asm) (by k_asm) (by k_asm) (by k_asm) (by k_asm) (by first | exact rfl | assumption)  (by ktr_room) (by first | assumption | decide +kernel) ?_; k_whole; intro h' tk' F' N'; (try dsimp only); (try k_sweep); (try k_fold)))
  k_with "my call ref" => (k_here; (with_reducible show wpAny _ _ (call (Value.ref 158) _ _) _ _ _); k_dflt (refine among_no (by k_asm) (by k_asm) (by k_asm) (by k_asm) (by k_asm) (by first | exact rfl | assumption)  (by ktr_room) (by first | assumption | decide +kernel) ?_; k_whole; intro h' tk' F' N'; (try dsimp only); (try k_sweep); (try k_fold)))
  k_with "my call ref" => (k_here; (with_reducible show wpAny _ _ (call (Value.ref 116) _ _) _ _ _); k_dflt (refine sign0_lit (by k_asm) (by k_asm) (by k_asm) (by k_asm) (by k_asm) (by first | exact rfl | assumption) (by k_mem) (by k_mem) (by assumption) (by ktr_room) (by assumption) ?_; k_whole; intro h' tk' t' F' N'; (try dsimp only); (try k_sweep); (try k_fold)))
  k_with "my call ref" => (k_here; (with_reducible show wpAny _ _ (call (Value.ref 256) _ _) _ _ _); k_dflt (refine symk_spec (by k_asm) (by k_asm) (by k_asm) (by k_asm) (by k_asm) (by first | exact rfl | assumption)  (by ktr_room) (by assumption) ?_; k_whole; intro h' tk' t' F' N'; (try dsimp only); (try k_sweep); (try k_fold)))
  k_with "my call ref" => (k_here; (with_reducible show wpAny _ _ (call (Value.ref 277) _ _) _ _ _); k_dflt (refine syms_spec (by k_asm) (by k_asm) (by k_asm) (by k_asm) (by k_asm) (by first | exact rfl | assumption) (by k_mem) (by k_mem) (by assumption) (by ktr_room) ?_; k_whole; intro h' tk' t' F' N'; (try dsimp only); (try k_sweep); (try k_fold)))
  k_with "my call ref" => (k_here; (with_reducible show wpAny _ _ (call (Value.ref 263) _ _) _ _ _); k_dflt (refine bpt_none (by k_asm) (by k_asm) (by k_asm) (by k_asm) (by k_asm) (by first | exact rfl | assumption) (by k_mem) (by k_mem) (by assumption) (by ktr_room) (by assumption) ?_; k_whole; intro h' tk' F' N'; (try dsimp only); (try k_sweep); (try k_fold)))
  k_with "my call ref" => (k_here; (with_reducible show wpAny _ _ (call (Value.ref 263) _ _) _ _ _); k_dflt (refine bpt_lit (by k_asm) (by k_asm) (by k_asm) (by k_asm) (by k_asm) (by first | exact rfl | assumption) (by k_mem) (by k_mem) (by assumption) (by ktr_room) (by assumption) ?_; k_whole; intro h' tk' t' F' N'; (try dsimp only); (try k_sweep); (try k_fold)))
  k_with "my call ref" => (k_here; (with_reducible show wpAny _ _ (call (Value.ref 137) _ _) _ _ _); k_dflt (refine take_spec (by k_asm) (by k_asm) (by k_asm) (news_pick2 (by k_asm) (by (repeat (first | exact Pick.head | apply Pick.tail))) (by (repeat (first | exact Pick.head | apply Pick.tail)))) (by k_asm) (by first | exact rfl | assumption) (by first | assumption | k_ne) (by k_all) (by assumption) (by ktr_room) ?_; k_whole; intro h' tk' t' ta' tl' tc' F' N'; (try dsimp only); (try k_sweep); (try k_fold)))
  k_with "my call builtin:str.join" => (k_here; (with_reducible show wpAny _ _ (call (Value.builtin _) [Value.str _ _, Value.ref _]) _ _ _); k_dflt (refine join_listW (by is_list) (by (try simp only [List.toList_toArray]); repeat constructor) (by decide +kernel) (by simp only [List.map_cons, List.map_nil, List.sum_cons, List.sum_nil, List.length_cons, List.length_nil]; omega) ?_); intro _ _)
  k_with "my WhlPost" => (with_reducible refine whl_ret ?_)
  k_with "my compareOp NotEq ref ref" => (k_here; (with_reducible show wpAny _ _ (compareOp CmpOp.NotEq (Value.ref _) (Value.ref _)) _ _ _); k_dflt (refine ne_strs2 (by k_asm) (by k_mem) (by k_mem) (by assumption) (by assumption) (by ke_room) ?_; k_whole))
  exact trivial
section
variable {w : World} {p : Program} {loose : List Str} {mean : ExcName → Option Value} {mg mb : Str → Option Value} {dp un : Nat} {gd : Option (List Code)} {cn : Str} {cs : Scope} {a : Addr} {ccd : Value} {cl : List (Str × Addr)} {outer : List Env} {A₀ : Around} {base h₀ : Heap} {L : Addr} {m : Str → Option Value} {news : List (Addr × Obj)} {s : Shared} {Q E : Value → Shared → Prop}
  (B : Below A₀ base outer h₀) (F : Fr h₀ L s.heap m) (X : (kk.heap_1 w.params).In h₀)
variable {sg d : Addr} {k1 k2 k3 k4 : Tok} {T : Str} {tT : Tok} {n : Nat} {ta tl tc : Tok} {rest : List (Addr × Obj)}
  (N : News h₀ L s.heap ((d, sgS w k1 k2 k3 k4 T tT n ta tl tc) :: (sg, instObj 147 d) :: rest)) (Tp : Top p loose mean mg mb h₀) (hk : cs.kind = .function)
  (hsd : @Ne Nat sg d) (hne : ∀ p ∈ rest, p.1 ≠ d) (hT : T.length ≤ 4096)
include B F X N Tp hk hsd hne hT
set_option maxHeartbeats 4000000 in
theorem gn_plain {k : Nat} (hd : dp + 5 < recursionLimit) (hun : un + 1000 < cLine) (h1 : tkw sNAME ((cpl T).drop n) = k) (h2 : bpt ((cpl T).drop (n + k)) = none)
    (hret : ∀ h' tk' q t1 t2 t3 ta' tl' tc', Fr h₀ L h' m → News h₀ L h' ((d, sgS w k1 k2 k3 k4 T tT (n + k) ta' tl' tc') :: (sg, instObj 147 d) :: (q, tupO #[.str (Str.ofString "con") t1, .str (txt ((cpl T).drop n) k) t2, pvV .none t3]) :: rest) → Q (.ref q) { s with heap := h', toks := tk' }) :
    wpAny (model PySem.Challenge.pw_np0234_01 w) (ktrTop dp un gd cn cs L a ccd cl outer) (call (.ref 270) [.ref sg]) Q E s := by
  subst h1
  have hj1 : (txt ((cpl T).drop n) (tkw sNAME ((cpl T).drop n))).length ≤ 4096 := txt_len hT
  unfold sNAME at *
  refine wpAny_call ?_
  k_dflt k_extra "enter"
  k_steps
  try simp only [← Nat.add_assoc] at hret
  exact hret _ _ _ _ _ 0 _ _ _ (by k_asm) (by first | k_asm | (refine' cb_drop ?cbN ?cbS; (case cbN => assumption); (case cbS => kcj_all)))
set_option maxHeartbeats 4000000 in
theorem gn_var {k j : Nat} (hd : dp + 5 < recursionLimit) (hun : un + 1000 < cLine) (h1 : tkw sNAME ((cpl T).drop n) = k) (h2 : bpt ((cpl T).drop (n + k)) = some (Str.ofString "var")) (h3 : tkw sNAME ((cpl T).drop (n + k + 1)) = j)
    (hret : ∀ h' tk' q t1 t2 t3 ta' tl' tc', Fr h₀ L h' m → News h₀ L h' ((d, sgS w k1 k2 k3 k4 T tT (n + (k + 1 + j)) ta' tl' tc') :: (sg, instObj 147 d) :: (q, tupO #[.str (Str.ofString "var") t1, .str (txt ((cpl T).drop (n + k + 1)) j) t2, pvV (.str (Txt.join (Str.ofString ".") [txt ((cpl T).drop n) k])) t3]) :: rest) → Q (.ref q) { s with heap := h', toks := tk' }) :
    wpAny (model PySem.Challenge.pw_np0234_01 w) (ktrTop dp un gd cn cs L a ccd cl outer) (call (.ref 270) [.ref sg]) Q E s := by
  subst h1 h3
  have hj1 : (txt ((cpl T).drop n) (tkw sNAME ((cpl T).drop n))).length ≤ 4096 := txt_len hT
  unfold sNAME at *
  refine wpAny_call ?_
  k_dflt k_extra "enter"
  k_steps
  try simp only [← Nat.add_assoc] at hret
  exact hret _ _ _ _ _ _ _ _ _ (by k_asm) (by first | k_asm | (refine' cb_drop ?cbN ?cbS; (case cbN => assumption); (case cbS => kcj_all)))
set_option maxHeartbeats 4000000 in
theorem gn_sym {k j : Nat} (hd : dp + 5 < recursionLimit) (hun : un + 1000 < cLine) (h1 : tkw sNAME ((cpl T).drop n) = k) (h2 : bpt ((cpl T).drop (n + k)) = some (Str.ofString "sym")) (h3 : 0 < (syms ((cpl T).drop (n + k))).length) (h4 : (symk (syms ((cpl T).drop (n + k))) == Str.ofString "op") = false) (h5 : tkw sSYMBOLS ((cpl T).drop (n + k + 1)) = j) (h6 : 0 < (txt ((cpl T).drop (n + k + 1)) j).length)
    (hret : ∀ h' tk' q t1 t2 t3 ta' tl' tc', Fr h₀ L h' m → News h₀ L h' ((d, sgS w k1 k2 k3 k4 T tT (n + (k + 1 + j)) ta' tl' tc') :: (sg, instObj 147 d) :: (q, tupO #[.str (symk (txt ((cpl T).drop (n + k + 1)) j)) t1, .str (txt ((cpl T).drop (n + k + 1)) j) t2, pvV (.str (Txt.join (Str.ofString ".") [txt ((cpl T).drop n) k])) t3]) :: rest) → Q (.ref q) { s with heap := h', toks := tk' }) :
    wpAny (model PySem.Challenge.pw_np0234_01 w) (ktrTop dp un gd cn cs L a ccd cl outer) (call (.ref 270) [.ref sg]) Q E s := by
  subst h1 h5; unfold sSYMBOLS at *
  have hj1 : (txt ((cpl T).drop n) (tkw sNAME ((cpl T).drop n))).length ≤ 4096 := txt_len hT
  unfold sNAME at *
  refine wpAny_call ?_
  k_dflt k_extra "enter"
  k_steps
  try simp only [← Nat.add_assoc] at hret
  exact hret _ _ _ _ _ _ _ _ _ (by k_asm) (by first | k_asm | (refine' cb_drop ?cbN ?cbS; (case cbN => assumption); (case cbS => kcj_all)))
set_option maxHeartbeats 4000000 in
theorem gn_con {k j i : Nat} (hd : dp + 5 < recursionLimit) (hun : un + 1000 < cLine) (h1 : tkw sNAME ((cpl T).drop n) = k) (h2 : bpt ((cpl T).drop (n + k)) = some (Str.ofString "con")) (h3 : tkw sNAME ((cpl T).drop (n + k + 1)) = j) (h4 : bpt ((cpl T).drop (n + k + 1 + j)) = some (Str.ofString "con")) (h5 : tkw sNAME ((cpl T).drop (n + k + 1 + j + 1)) = i) (h6 : bpt ((cpl T).drop (n + k + 1 + j + 1 + i)) = none) (h7 : PyData.strOk (txt ((cpl T).drop n) k) = true) (h8 : PyData.strOk (txt ((cpl T).drop (n + k + 1)) j) = true)
    (hret : ∀ h' tk' q t1 t2 t3 ta' tl' tc', Fr h₀ L h' m → News h₀ L h' ((d, sgS w k1 k2 k3 k4 T tT (n + (k + 1 + j + 1 + i)) ta' tl' tc') :: (sg, instObj 147 d) :: (q, tupO #[.str (Str.ofString "con") t1, .str (txt ((cpl T).drop (n + k + 1 + j + 1)) i) t2, pvV (.str (Txt.join (Str.ofString ".") [txt ((cpl T).drop n) k, txt ((cpl T).drop (n + k + 1)) j])) t3]) :: rest) → Q (.ref q) { s with heap := h', toks := tk' }) :
    wpAny (model PySem.Challenge.pw_np0234_01 w) (ktrTop dp un gd cn cs L a ccd cl outer) (call (.ref 270) [.ref sg]) Q E s := by
  subst h1 h3 h5
  have hj1 : (txt ((cpl T).drop n) (tkw sNAME ((cpl T).drop n))).length ≤ 4096 := txt_len hT
  have hj2 : (txt ((cpl T).drop (n + tkw sNAME ((cpl T).drop n) + 1)) (tkw sNAME ((cpl T).drop (n + tkw sNAME ((cpl T).drop n) + 1)))).length ≤ 4096 := txt_len hT
  unfold sNAME at *
  refine wpAny_call ?_
  k_dflt k_extra "enter"
  k_steps
  try simp only [← Nat.add_assoc] at hret
  exact hret _ _ _ _ _ _ _ _ _ (by k_asm) (by first | k_asm | (refine' cb_drop ?cbN ?cbS; (case cbN => assumption); (case cbS => kcj_all)))
end
theorem rg_N6_42 : True := by
  k_with_none
  k_with "all" => assumption
  k_with "enter" => (refine' code_def ?enk1 ?enk2 ?enk3 ?enk4 ?enk5 ?enkA ?enkF ?enkK ?enk6 ?enk7 ?enk8 ?enk9 ?enkB ?_ ?enc2 ?enc3 ?enc4 ?enc5; (case enkA => exact rfl); (case enkF => exact rfl); (case enkK => first | exact rfl | assumption); (case enk1 => k_asm); (case enk2 => k_asm); (case enk3 => k_asm); (case enk4 => k_asm); (case enk5 => k_asm); (case enk6 => k_is); (case enk7 => k_is); (case enk8 => ktr_room); (case enk9 => first | exact BindsTo.of_eq rfl | exact binds_K (by k_in) rfl (by k_is) rfl rfl rfl); (case enc5 => decide); (case enkB => exact locs rfl); (case enc2 => exact rfl); (case enc3 => exact rfl); (case enc4 => exact rfl); k_whole; intro g' L' h' FG' F' N' B' X' T'; (try dsimp only); (try k_fold))
  k_with "my leaving ref" => (k_here; k_dflt (first | (refine leave_onR (by assumption) (by k_asm) (by k_asm) (by k_asm) ?_; k_whole; intro h' R' _ U'; (try dsimp only)) | (refine leave_we (by k_asm) (by k_asm) (by k_asm) ?_ (by exact rfl); k_whole; intro h' R' U'; (try dsimp only))))
  k_with "all" => first | assumption | exact List.forall_mem_nil _ | (refine off_cons (by k_asm) (by k_mem) (by k_mem) (by (intro e; have e9 := congrArg Obj.cls e; first | (simp at e9; done) | ((rename Obj.cls _ = Value.type "tuple_iterator" => hc9); rw [hc9] at e9; simp at e9; done))) (by k_all)) | (refine List.forall_mem_cons.mpr ⟨(by first | assumption | k_ne), (by k_all)⟩) | (refine List.forall_mem_append.mpr ⟨(by k_all), (by k_all)⟩)
  k_with "room" => ((have hcL9 := cLine_is); (simp only [units_in1, units_deeper, Around.mark_units, units_caller]); (try dsimp only [ktrTop]); omega)
  exact trivial
section
variable {w : World} {p : Program} {loose : List Str} {mean : ExcName → Option Value} {mg mb : Str → Option Value} {dp un : Nat} {gd : Option (List Code)} {cn : Str} {cs : Scope} {a : Addr} {ccd : Value} {cl : List (Str × Addr)} {outer : List Env} {A₀ : Around} {base h₀ : Heap} {L : Addr} {m : Str → Option Value} {news : List (Addr × Obj)} {s : Shared} {Q E : Value → Shared → Prop}
  (B : Below A₀ base outer h₀) (F : Fr h₀ L s.heap m) (X : (kk.heap_1 w.params).In h₀)
variable {sg d : Addr} {k1 k2 k3 k4 : Tok} {T : Str} {tT : Tok} {n : Nat} {ta tl tc : Tok} {rest : List (Addr × Obj)}
  (N : News h₀ L s.heap ((d, sgS w k1 k2 k3 k4 T tT n ta tl tc) :: (sg, instObj 147 d) :: rest)) (Tp : Top p loose mean mg mb h₀) (hk : cs.kind = .function)
  (hsd : @Ne Nat sg d) (hne : ∀ p ∈ rest, p.1 ≠ d) (hT : T.length ≤ 4096)
include B F X N Tp hk hsd hne hT
theorem gn_spec {kd tx : Str} {pv : PV} {k : Nat} (hd : dp + 5 < recursionLimit) (hun : un + 1000 < cLine) (hg : GnOk (cpl T) n kd tx pv k)
    (hret : ∀ h' tk' q t1 t2 t3 ta' tl' tc', Fr h₀ L h' m → News h₀ L h' ((d, sgS w k1 k2 k3 k4 T tT (n + k) ta' tl' tc') :: (sg, instObj 147 d) :: (q, tupO #[.str kd t1, .str tx t2, pvV pv t3]) :: rest) → Q (.ref q) { s with heap := h', toks := tk' }) :
    wpAny (model PySem.Challenge.pw_np0234_01 w) (ktrTop dp un gd cn cs L a ccd cl outer) (call (.ref 270) [.ref sg]) Q E s := by
  cases hg with
  | plain h1 h2 => exact gn_plain B F X N Tp hk hsd hne hT hd hun h1 h2 hret
  | var h1 h2 h3 => exact gn_var B F X N Tp hk hsd hne hT hd hun h1 h2 h3 hret
  | sym h1 h2 h3 h4 h5 h6 => exact gn_sym B F X N Tp hk hsd hne hT hd hun h1 h2 h3 h4 h5 h6 hret
  | con h1 h2 h3 h4 h5 h6 h7 h8 => exact gn_con B F X N Tp hk hsd hne hT hd hun h1 h2 h3 h4 h5 h6 h7 h8 hret
end
noncomputable def sSPECIALS : Str := Str.ofString "()[],;`{}"
/-- a word at place n: kind, text, third part, signs taken -/
inductive Rd (l : List Nat) (n : Nat) : Str → Str → PV → Nat → Prop
  | fin : sgn (l.drop n) 0 = Str.ofString "" → Rd l n (Str.ofString "end") (Str.ofString "") .none 0
  | special : (sgn (l.drop n) 0 == Str.ofString "") = false → among (sgn (l.drop n) 0) sSPECIALS = true → Rd l n (Str.ofString "special") (sgn (l.drop n) 0) .none 1
  | int {v : Int} {k : Nat} : (sgn (l.drop n) 0 == Str.ofString "") = false → among (sgn (l.drop n) 0) sSPECIALS = false → among (sgn (l.drop n) 0) sDIGITS = true → NumOk (l.drop n) v k → Rd l n (Str.ofString "int") (txt (l.drop n) k) (.int v) k
  | key {k : Nat} : (sgn (l.drop n) 0 == Str.ofString "") = false → among (sgn (l.drop n) 0) sSPECIALS = false → among (sgn (l.drop n) 0) sDIGITS = false → among (sgn (l.drop n) 0) sSMALL = true → tkw sNAME (l.drop n) = k → lKEYS.any (· == txt (l.drop n) k) = true →
      Rd l n (Str.ofString "key") (txt (l.drop n) k) .none k
  | var {k : Nat} : (sgn (l.drop n) 0 == Str.ofString "") = false → among (sgn (l.drop n) 0) sSPECIALS = false → among (sgn (l.drop n) 0) sDIGITS = false → among (sgn (l.drop n) 0) sSMALL = true → tkw sNAME (l.drop n) = k → lKEYS.any (· == txt (l.drop n) k) = false →
      Rd l n (Str.ofString "var") (txt (l.drop n) k) .none k
  | great {kd tx : Str} {pv : PV} {k : Nat} : (sgn (l.drop n) 0 == Str.ofString "") = false → among (sgn (l.drop n) 0) sSPECIALS = false → among (sgn (l.drop n) 0) sDIGITS = false → among (sgn (l.drop n) 0) sSMALL = false → among (sgn (l.drop n) 0) sGREAT = true →
      GnOk l n kd tx pv k → Rd l n kd tx pv k
  | sym {k : Nat} : (sgn (l.drop n) 0 == Str.ofString "") = false → among (sgn (l.drop n) 0) sSPECIALS = false → among (sgn (l.drop n) 0) sDIGITS = false → among (sgn (l.drop n) 0) sSMALL = false → among (sgn (l.drop n) 0) sGREAT = false → among (sgn (l.drop n) 0) sSYMBOLS = true →
      tkw sSYMBOLS (l.drop n) = k → 0 < (txt (l.drop n) k).length → Rd l n (symk (txt (l.drop n) k)) (txt (l.drop n) k) .none k
  | char {c k : Nat} : sgn (l.drop n) 0 = Str.ofString "'" → ChOk l n c k → Rd l n (Str.ofString "char") (txt (l.drop n) k) (.str (one c)) k
  | text {vs : List Nat} {k : Nat} : sgn (l.drop n) 0 = Str.ofString "\"" → TxOk l (n + 1) vs k → vs.length ≤ 1000 → Rd l n (Str.ofString "text") (txt (l.drop n) (1 + k)) (.str ⟨vs.toArray⟩) (1 + k)
inductive RdBad (l : List Nat) (n : Nat) : Prop
  | sign : sgn (l.drop n) 0 = Str.ofString "\x01" → RdBad l n
  | char : sgn (l.drop n) 0 = Str.ofString "'" → ChBad l n → RdBad l n
  | text {k : Nat} : sgn (l.drop n) 0 = Str.ofString "\"" → TxBad l (n + 1) k → k ≤ 1000 → RdBad l n
theorem sl_txt {T : Str} {n k : Nat} : Txt.slice T (some (n : Int)) (some ((n + k : Nat) : Int)) = txt ((cpl T).drop n) k := by
  rw [txt_sl (by omega), Nat.add_sub_cancel_left]
theorem rg_F6_43 : True := by
  k_with_none
  k_with "all" => assumption
  k_with "enter" => (refine' code_def ?enk1 ?enk2 ?enk3 ?enk4 ?enk5 ?enkA ?enkF ?enkK ?enk6 ?enk7 ?enk8 ?enk9 ?enkB ?_ ?enc2 ?enc3 ?enc4 ?enc5; (case enkA => exact rfl); (case enkF => exact rfl); (case enkK => first | exact rfl | assumption); (case enk1 => k_asm); (case enk2 => k_asm); (case enk3 => k_asm); (case enk4 => k_asm); (case enk5 => k_asm); (case enk6 => k_is); (case enk7 => k_is); (case enk8 => ktr_room); (case enk9 => first | exact BindsTo.of_eq rfl | exact binds_K (by k_in) rfl (by k_is) rfl rfl rfl); (case enc5 => decide); (case enkB => exact locs rfl); (case enc2 => exact rfl); (case enc3 => exact rfl); (case enc4 => exact rfl); k_whole; intro g' L' h' FG' F' N' B' X' T'; (try dsimp only); (try k_fold))
  k_with "my leaving ref" => (k_here; k_dflt (first | (refine leave_onR (by assumption) (by k_asm) (by k_asm) (by k_asm) ?_; k_whole; intro h' R' _ U'; (try dsimp only)) | (refine leave_we (by k_asm) (by k_asm) (by k_asm) ?_ (by exact rfl); k_whole; intro h' R' U'; (try dsimp only))))
  k_with "all" => first | assumption | exact List.forall_mem_nil _ | (refine off_cons (by k_asm) (by k_mem) (by k_mem) (by (intro e; have e9 := congrArg Obj.cls e; first | (simp at e9; done) | ((rename Obj.cls _ = Value.type "tuple_iterator" => hc9); rw [hc9] at e9; simp at e9; done))) (by k_all)) | (refine List.forall_mem_cons.mpr ⟨(by first | assumption | k_ne), (by k_all)⟩) | (refine List.forall_mem_append.mpr ⟨(by k_all), (by k_all)⟩)
  k_with "room" => ((have hcL9 := cLine_is); (simp only [units_in1, units_deeper, Around.mark_units, units_caller]); (try dsimp only [ktrTop]); omega)
  exact trivial
theorem rg_F6_44 : True := by
  k_with_none
  k_with "all" => assumption
  k_with "enter" => (refine' code_def ?enk1 ?enk2 ?enk3 ?enk4 ?enk5 ?enkA ?enkF ?enkK ?enk6 ?enk7 ?enk8 ?enk9 ?enkB ?_ ?enc2 ?enc3 ?enc4 ?enc5; (case enkA => exact rfl); (case enkF => exact rfl); (case enkK => first | exact rfl | assumption); (case enk1 => k_asm); (case enk2 => k_asm); (case enk3 => k_asm); (case enk4 => k_asm); (case enk5 => k_asm); (case enk6 => k_is); (case enk7 => k_is); (case enk8 => ktr_room); (case enk9 => first | exact BindsTo.of_eq rfl | exact binds_K (by k_in) rfl (by k_is) rfl rfl rfl); (case enc5 => decide); (case enkB => exact locs rfl); (case enc2 => exact rfl); (case enc3 => exact rfl); (case enc4 => exact rfl); k_whole; intro g' L' h' FG' F' N' B' X' T'; (try dsimp only); (try k_fold))
  k_with "my leaving ref" => (k_here; k_dflt (first | (refine leave_onR (by assumption) (by k_asm) (by k_asm) (by k_asm) ?_; k_whole; intro h' R' _ U'; (try dsimp only)) | (refine leave_we (by k_asm) (by k_asm) (by k_asm) ?_ (by exact rfl); k_whole; intro h' R' U'; (try dsimp only))))
  k_with "all" => first | assumption | exact List.forall_mem_nil _ | (refine off_cons (by k_asm) (by k_mem) (by k_mem) (by (intro e; have e9 := congrArg Obj.cls e; first | (simp at e9; done) | ((rename Obj.cls _ = Value.type "tuple_iterator" => hc9); rw [hc9] at e9; simp at e9; done))) (by k_all)) | (refine List.forall_mem_cons.mpr ⟨(by first | assumption | k_ne), (by k_all)⟩) | (refine List.forall_mem_append.mpr ⟨(by k_all), (by k_all)⟩)
  k_with "room" => ((have hcL9 := cLine_is); (simp only [units_in1, units_deeper, Around.mark_units, units_caller]); (try dsimp only [ktrTop]); omega)
  k_with "my exec While BoolOp cons nil" => (k_here; refine Stopped.at_ ?_)
  k_with "my exec While Compare cons nil" => (k_here; refine Stopped.at_ ?_)
  k_with "my exec While Name cons nil" => (k_here; refine Stopped.at_ ?_)
  k_with "my exec For Name Call cons nil" => (k_here; k_extra "for")
  k_with "my exec For Name Name cons nil" => (k_here; k_extra "for")
  k_with "my exec For Tuple Tuple cons nil" => (k_here; k_extra "for")
  k_with "my exec While Call cons nil" => (k_here; refine Stopped.at_ ?_)
  k_with "my compareOp In str ref" => (k_here; (with_reducible show wpAny _ _ (compareOp CmpOp.In (Value.str _ _) (Value.ref _)) _ _ _); k_dflt (refine in_topK (by k_asm) (by k_asm) (by k_is) (by repeat constructor) ?_; k_whole))
  k_with "my exec Raise some none" => (k_here; k_dflt (refine raise_stmt rfl ?_))
  k_with "my RaiseAt" => (k_here; k_dflt (refine raise_at (by k_asm) (by k_asm) (by k_asm) ?_; k_whole))
  k_with "my call ref" => (k_here; (with_reducible show wpAny _ _ (call (Value.ref 158) _ _) _ _ _); k_dflt (refine is_among_spec (by k_asm) (by k_asm) (by k_asm) (by k_asm) (by k_asm) (by first | exact rfl | assumption)  (by ktr_room) ?_; k_whole; intro h' tk' F' N'; (try dsimp only); (try k_sweep); (try k_fold)))
  k_with "my call ref" => (k_here; (with_reducible show wpAny _ _ (call (Value.ref 116) _ _) _ _ _); k_dflt (refine sign_spec (by k_asm) (by k_asm) (by k_asm) (by k_asm) (by k_asm) (by first | exact rfl | assumption) (by k_mem) (by k_mem) (by assumption) (by ktr_room) ?_; k_whole; intro h' tk' t' F' N'; (try dsimp only); (try k_sweep); (try k_fold)))
  k_with "my call ref" => (k_here; (with_reducible show wpAny _ _ (call (Value.ref 116) _ _) _ _ _); k_dflt (refine sign0_spec (by k_asm) (by k_asm) (by k_asm) (by k_asm) (by k_asm) (by first | exact rfl | assumption) (by k_mem) (by k_mem) (by assumption) (by ktr_room) ?_; k_whole; intro h' tk' t' F' N'; (try dsimp only); (try k_sweep); (try k_fold)))
  k_with "my call ref" => (k_here; (with_reducible show wpAny _ _ (call (Value.ref 165) _ _) _ _ _); k_dflt (refine name_letters_spec (by k_asm) (by k_asm) (by k_asm) (by k_asm) (by k_asm) (by first | exact rfl | assumption)  (by ktr_room) ?_; k_whole; intro h' tk' t' F' N'; (try dsimp only); (try k_sweep); (try k_fold)))
  k_with "my call ref" => (k_here; (with_reducible show wpAny _ _ (call (Value.ref 123) _ _) _ _ _); k_dflt (refine starts_spec (by k_asm) (by k_asm) (by k_asm) (by k_asm) (by k_asm) (by first | exact rfl | assumption) (by k_mem) (by k_mem) (by assumption) (by ktr_room) (by first | assumption | omega | decide) ?_; k_whole; intro h' tk' F' N'; (try dsimp only); (try k_sweep); (try k_fold)))
  k_with "my call ref" => (k_here; (with_reducible show wpAny _ _ (call (Value.ref 144) _ _) _ _ _); k_dflt (refine place_spec (by k_asm) (by k_asm) (by k_asm) (by k_asm) (by k_asm) (by first | exact rfl | assumption) (by k_mem) (by k_mem) (by assumption) (by ktr_room) ?_; k_whole; intro h' tk' q F' N' l1; (try dsimp only); (try k_sweep); (try k_fold)))
  k_with "my call ref" => (k_here; (with_reducible show wpAny _ _ (call (Value.ref 130) _ _) _ _ _); k_dflt (refine step_spec (by k_asm) (by k_asm) (by k_asm) (news_pick2 (by k_asm) (by (repeat (first | exact Pick.head | apply Pick.tail))) (by (repeat (first | exact Pick.head | apply Pick.tail)))) (by k_asm) (by first | exact rfl | assumption) (by first | assumption | k_ne) (by k_all) (by assumption) (by ktr_room) ?_; k_whole; intro h' tk' t' ta' tl' tc' F' N'; (try dsimp only); (try k_sweep); (try k_fold)))
  k_with "my call ref" => (k_here; (with_reducible show wpAny _ _ (call (Value.ref 137) _ _) _ _ _); k_dflt (refine take_spec (by k_asm) (by k_asm) (by k_asm) (news_pick2 (by k_asm) (by (repeat (first | exact Pick.head | apply Pick.tail))) (by (repeat (first | exact Pick.head | apply Pick.tail)))) (by k_asm) (by first | exact rfl | assumption) (by first | assumption | k_ne) (by k_all) (by assumption) (by ktr_room) ?_; k_whole; intro h' tk' t' ta' tl' tc' F' N'; (try dsimp only); (try k_sweep); (try k_fold)))
  k_with "my call ref" => (k_here; (with_reducible show wpAny _ _ (call (Value.ref 158) _ _) _ _ _); k_dflt (refine among_yes (by k_asm) (by k_asm) (by k_asm) (by k_asm) (by k_asm) (by first | exact rfl | assumption)  (by ktr_room) (by first | assumption | decide +kernel) ?_; k_whole; intro h' tk' F' N'; (try dsimp only); (try k_sweep); (try k_fold)))
  k_with "my call ref" => (k_here; (with_reducible show wpAny _ _ (call (Value.ref 158) _ _) _ _ _); k_dflt (refine among_no (by k_asm) (by k_asm) (by k_asm) (by k_asm) (by k_asm) (by first | exact rfl | assumption)  (by ktr_room) (by first | assumption | decide +kernel) ?_; k_whole; intro h' tk' F' N'; (try dsimp only); (try k_sweep); (try k_fold)))
  k_with "my call ref" => (k_here; (with_reducible show wpAny _ _ (call (Value.ref 116) _ _) _ _ _); k_dflt (refine sign0_lit (by k_asm) (by k_asm) (by k_asm) (by k_asm) (by k_asm) (by first | exact rfl | assumption) (by k_mem) (by k_mem) (by assumption) (by ktr_room) (by assumption) ?_; k_whole; intro h' tk' t' F' N'; (try dsimp only); (try k_sweep); (try k_fold)))
  k_with "my call ref" => (k_here; (with_reducible show wpAny _ _ (call (Value.ref 256) _ _) _ _ _); k_dflt (refine symk_spec (by k_asm) (by k_asm) (by k_asm) (by k_asm) (by k_asm) (by first | exact rfl | assumption)  (by ktr_room) (by assumption) ?_; k_whole; intro h' tk' t' F' N'; (try dsimp only); (try k_sweep); (try k_fold)))
  k_with "my call ref" => (k_here; (with_reducible show wpAny _ _ (call (Value.ref 277) _ _) _ _ _); k_dflt (refine syms_spec (by k_asm) (by k_asm) (by k_asm) (by k_asm) (by k_asm) (by first | exact rfl | assumption) (by k_mem) (by k_mem) (by assumption) (by ktr_room) ?_; k_whole; intro h' tk' t' F' N'; (try dsimp only); (try k_sweep); (try k_fold)))
  k_with "my call ref" => (k_here; (with_reducible show wpAny _ _ (call (Value.ref 263) _ _) _ _ _); k_dflt (refine bpt_none (by k_asm) (by k_asm) (by k_asm) (by k_asm) (by k_asm) (by first | exact rfl | assumption) (by k_mem) (by k_mem) (by assumption) (by ktr_room) (by assumption) ?_; k_whole; intro h' tk' F' N'; (try dsimp only); (try k_sweep); (try k_fold)))
  k_with "my call ref" => (k_here; (with_reducible show wpAny _ _ (call (Value.ref 263) _ _) _ _ _); k_dflt (refine bpt_lit (by k_asm) (by k_asm) (by k_asm) (by k_asm) (by k_asm) (by first | exact rfl | assumption) (by k_mem) (by k_mem) (by assumption) (by ktr_room) (by assumption) ?_; k_whole; intro h' tk' t' F' N'; (try dsimp only); (try k_sweep); (try k_fold)))
  k_with "my call ref" => (k_here; (with_reducible show wpAny _ _ (call (Value.ref 137) _ _) _ _ _); k_dflt (refine take_spec (by k_asm) (by k_asm) (by k_asm) (news_pick2 (by k_asm) (by (repeat (first | exact Pick.head | apply Pick.tail))) (by (repeat (first | exact Pick.head | apply Pick.tail)))) (by k_asm) (by first | exact rfl | assumption) (by first | assumption | k_ne) (by k_all) (by assumption) (by ktr_room) ?_; k_whole; intro h' tk' t' ta' tl' tc' F' N'; (try dsimp only); (try k_sweep); (try k_fold)))
  k_with "my call ref" => (k_here; (with_reducible show wpAny _ _ (call (Value.ref 207) _ _) _ _ _); k_dflt (refine read_number_spec (by k_asm) (by k_asm) (by k_asm) (news_pick2 (by k_asm) (by (repeat (first | exact Pick.head | apply Pick.tail))) (by (repeat (first | exact Pick.head | apply Pick.tail)))) (by k_asm) (by first | exact rfl | assumption) (by first | assumption | k_ne) (by k_all) (by assumption) (by ktr_room) (by assumption) ?_; k_whole; intro h' tk' t' ta' tl' tc' F' N'; (try dsimp only); (try k_sweep); (try k_fold)))
  k_with "my call ref" => (k_here; (with_reducible show wpAny _ _ (call (Value.ref 270) _ _) _ _ _); k_dflt (refine gn_spec (by k_asm) (by k_asm) (by k_asm) (news_pick2 (by k_asm) (by (repeat (first | exact Pick.head | apply Pick.tail))) (by (repeat (first | exact Pick.head | apply Pick.tail)))) (by k_asm) (by first | exact rfl | assumption) (by first | assumption | k_ne) (by k_all) (by assumption) (by ktr_room) (by (first | omega | ((have hcL9 := cLine_is); (try simp only [units_in1, units_deeper, Around.mark_units, units_caller]); (try dsimp only [ktrTop]); omega))) (by assumption) ?_; k_whole; intro h' tk' q' t1' t2' t3' ta' tl' tc' F' N'; (try dsimp only); (try k_sweep); (try k_fold)))
  k_with "my call ref" => (k_here; (with_reducible show wpAny _ _ (call (Value.ref 235) _ _) _ _ _); k_dflt (refine ch_ok (by k_asm) (by k_asm) (by k_asm) (news_pick2 (by k_asm) (by (repeat (first | exact Pick.head | apply Pick.tail))) (by (repeat (first | exact Pick.head | apply Pick.tail)))) (by k_asm) (by first | exact rfl | assumption) (by first | assumption | k_ne) (by k_all) (by assumption) (by ktr_room) (by assumption) ?_; k_whole; intro h' tk' t' ta' tl' tc' F' N'; (try dsimp only); (try k_sweep); (try k_fold)))
  k_with "my call ref" => (k_here; (with_reducible show wpAny _ _ (call (Value.ref 235) _ _) _ _ _); k_dflt (refine ch_bad (by k_asm) (by k_asm) (by k_asm) (news_pick2 (by k_asm) (by (repeat (first | exact Pick.head | apply Pick.tail))) (by (repeat (first | exact Pick.head | apply Pick.tail)))) (by k_asm) (by first | exact rfl | assumption) (by first | assumption | k_ne) (by k_all) (by assumption) (by ktr_room) (by assumption) ?_; k_whole; intro e' t' v' h' tk' G' R' F' U'; (try dsimp only)))
  k_with "my call ref" => (k_here; (with_reducible show wpAny _ _ (call (Value.ref 249) _ _) _ _ _); k_dflt (refine rt_ok (by k_asm) (by k_asm) (by k_asm) (news_pick2 (by k_asm) (by (repeat (first | exact Pick.head | apply Pick.tail))) (by (repeat (first | exact Pick.head | apply Pick.tail)))) (by k_asm) (by first | exact rfl | assumption) (by first | assumption | k_ne) (by k_all) (by assumption) (by ktr_room) (by assumption) (by assumption) ?_; k_whole; intro h' tk' t' ta' tl' tc' F' N'; (try dsimp only); (try k_sweep); (try k_fold)))
  k_with "my call ref" => (k_here; (with_reducible show wpAny _ _ (call (Value.ref 249) _ _) _ _ _); k_dflt (refine rt_bad (by k_asm) (by k_asm) (by k_asm) (news_pick2 (by k_asm) (by (repeat (first | exact Pick.head | apply Pick.tail))) (by (repeat (first | exact Pick.head | apply Pick.tail)))) (by k_asm) (by first | exact rfl | assumption) (by first | assumption | k_ne) (by k_all) (by assumption) (by ktr_room) (by assumption) (by assumption) ?_; k_whole; intro e' t' v' h' tk' G' R' F' U'; (try dsimp only)))
  k_with "my call ref" => (k_here; (with_reducible show wpAny _ _ (call (Value.ref 130) _ _) _ _ _); k_dflt (refine step_spec (by k_asm) (by k_asm) (by k_asm) (news_pick2 (by k_asm) (by (repeat (first | exact Pick.head | apply Pick.tail))) (by (repeat (first | exact Pick.head | apply Pick.tail)))) (by k_asm) (by first | exact rfl | assumption) (by first | assumption | k_ne) (by k_all) (by assumption) (by ktr_room) ?_; k_whole; intro h' tk' t' ta' tl' tc' F' N'; (try dsimp only); (try k_sweep); (try k_fold)))
  k_with "my call ref" => (k_here; (with_reducible show wpAny _ _ (call (Value.ref 52) _ _) _ _ _); k_dflt (refine werr_spec (by k_asm) (by k_asm) (by k_asm) (by k_asm) (by k_asm) (by first | exact rfl | assumption)  (by ktr_room) ?_; k_whole; intro e' t' D' h' tk' F' N'; (try dsimp only); (try k_sweep); (try k_fold)))
  exact trivial
section
variable {w : World} {p : Program} {loose : List Str} {mean : ExcName → Option Value} {mg mb : Str → Option Value} {dp un : Nat} {gd : Option (List Code)} {cn : Str} {cs : Scope} {a : Addr} {ccd : Value} {cl : List (Str × Addr)} {outer : List Env} {A₀ : Around} {base h₀ : Heap} {L : Addr} {m : Str → Option Value} {news : List (Addr × Obj)} {s : Shared} {Q E : Value → Shared → Prop}
  (B : Below A₀ base outer h₀) (F : Fr h₀ L s.heap m) (X : (kk.heap_1 w.params).In h₀)
variable {sg d : Addr} {k1 k2 k3 k4 : Tok} {T : Str} {tT : Tok} {n : Nat} {ta tl tc : Tok} {rest : List (Addr × Obj)}
  (N : News h₀ L s.heap ((d, sgS w k1 k2 k3 k4 T tT n ta tl tc) :: (sg, instObj 147 d) :: rest)) (Tp : Top p loose mean mg mb h₀) (hk : cs.kind = .function)
  (hsd : @Ne Nat sg d) (hne : ∀ p ∈ rest, p.1 ≠ d) (hT : T.length ≤ 4096)
include B F X N Tp hk hsd hne hT
set_option maxHeartbeats 4000000 in
theorem rw_fin (hd : dp + 7 < recursionLimit) (hun : un + 1100 < cLine) (h1 : sgn ((cpl T).drop n) 0 = Str.ofString "")
    (hret : ∀ h' tk' q t1 t2 t3 ta' tl' tc', Fr h₀ L h' m → News h₀ L h' ((d, sgS w k1 k2 k3 k4 T tT (n + 0) ta' tl' tc') :: (sg, instObj 147 d) :: (q, tupO #[.str (Str.ofString "end") t1, .str (Str.ofString "") t2, pvV .none t3]) :: rest) → Q (.ref q) { s with heap := h', toks := tk' }) :
    wpAny (model PySem.Challenge.pw_np0234_01 w) (ktrTop dp un gd cn cs L a ccd cl outer) (call (.ref 284) [.ref sg]) Q E s := by
  refine wpAny_call ?_
  k_dflt k_extra "enter"
  k_steps
  exact hret _ _ _ _ _ 0 _ _ _ (by k_asm) (by first | k_asm | (refine' cb_drop ?cbN ?cbS; (case cbN => assumption); (case cbS => kcj_all)))
set_option maxHeartbeats 4000000 in
theorem rw_special (hd : dp + 7 < recursionLimit) (hun : un + 1100 < cLine) (h1 : (sgn ((cpl T).drop n) 0 == Str.ofString "") = false) (h2 : among (sgn ((cpl T).drop n) 0) sSPECIALS = true)
    (hret : ∀ h' tk' q t1 t2 t3 ta' tl' tc', Fr h₀ L h' m → News h₀ L h' ((d, sgS w k1 k2 k3 k4 T tT (n + 1) ta' tl' tc') :: (sg, instObj 147 d) :: (q, tupO #[.str (Str.ofString "special") t1, .str (sgn ((cpl T).drop n) 0) t2, pvV .none t3]) :: rest) → Q (.ref q) { s with heap := h', toks := tk' }) :
    wpAny (model PySem.Challenge.pw_np0234_01 w) (ktrTop dp un gd cn cs L a ccd cl outer) (call (.ref 284) [.ref sg]) Q E s := by
  unfold sSPECIALS at *
  refine wpAny_call ?_
  k_dflt k_extra "enter"
  k_steps
  exact hret _ _ _ _ _ 0 _ _ _ (by k_asm) (by first | k_asm | (refine' cb_drop ?cbN ?cbS; (case cbN => assumption); (case cbS => kcj_all)))
set_option maxHeartbeats 4000000 in
theorem rw_int {v : Int} {k : Nat} (hd : dp + 7 < recursionLimit) (hun : un + 1100 < cLine) (h1 : (sgn ((cpl T).drop n) 0 == Str.ofString "") = false) (h2 : among (sgn ((cpl T).drop n) 0) sSPECIALS = false) (h3 : among (sgn ((cpl T).drop n) 0) sDIGITS = true) (h4 : NumOk ((cpl T).drop n) v k)
    (hret : ∀ h' tk' q t1 t2 t3 ta' tl' tc', Fr h₀ L h' m → News h₀ L h' ((d, sgS w k1 k2 k3 k4 T tT (n + k) ta' tl' tc') :: (sg, instObj 147 d) :: (q, tupO #[.str (Str.ofString "int") t1, .str (txt ((cpl T).drop n) k) t2, pvV (.int v) t3]) :: rest) → Q (.ref q) { s with heap := h', toks := tk' }) :
    wpAny (model PySem.Challenge.pw_np0234_01 w) (ktrTop dp un gd cn cs L a ccd cl outer) (call (.ref 284) [.ref sg]) Q E s := by
  unfold sSPECIALS at h2
  unfold sDIGITS at h3
  rw [← sl_txt] at hret
  refine wpAny_call ?_
  k_dflt k_extra "enter"
  k_steps
  exact hret _ _ _ _ _ _ _ _ _ (by k_asm) (by first | k_asm | (refine' cb_drop ?cbN ?cbS; (case cbN => assumption); (case cbS => kcj_all)))
set_option maxHeartbeats 4000000 in
theorem rw_key {k : Nat} (hd : dp + 7 < recursionLimit) (hun : un + 1100 < cLine) (h1 : (sgn ((cpl T).drop n) 0 == Str.ofString "") = false) (h2 : among (sgn ((cpl T).drop n) 0) sSPECIALS = false) (h3 : among (sgn ((cpl T).drop n) 0) sDIGITS = false) (h4 : among (sgn ((cpl T).drop n) 0) sSMALL = true) (h5 : tkw sNAME ((cpl T).drop n) = k) (h6 : lKEYS.any (· == txt ((cpl T).drop n) k) = true)
    (hret : ∀ h' tk' q t1 t2 t3 ta' tl' tc', Fr h₀ L h' m → News h₀ L h' ((d, sgS w k1 k2 k3 k4 T tT (n + k) ta' tl' tc') :: (sg, instObj 147 d) :: (q, tupO #[.str (Str.ofString "key") t1, .str (txt ((cpl T).drop n) k) t2, pvV .none t3]) :: rest) → Q (.ref q) { s with heap := h', toks := tk' }) :
    wpAny (model PySem.Challenge.pw_np0234_01 w) (ktrTop dp un gd cn cs L a ccd cl outer) (call (.ref 284) [.ref sg]) Q E s := by
  subst h5
  unfold sSPECIALS at h2
  unfold sDIGITS at h3
  unfold sSMALL at h4
  unfold sNAME at *
  unfold lKEYS at h6
  refine wpAny_call ?_
  k_dflt k_extra "enter"
  k_steps
  exact hret _ _ _ _ _ 0 _ _ _ (by k_asm) (by first | k_asm | (refine' cb_drop ?cbN ?cbS; (case cbN => assumption); (case cbS => kcj_all)))
set_option maxHeartbeats 4000000 in
theorem rw_var {k : Nat} (hd : dp + 7 < recursionLimit) (hun : un + 1100 < cLine) (h1 : (sgn ((cpl T).drop n) 0 == Str.ofString "") = false) (h2 : among (sgn ((cpl T).drop n) 0) sSPECIALS = false) (h3 : among (sgn ((cpl T).drop n) 0) sDIGITS = false) (h4 : among (sgn ((cpl T).drop n) 0) sSMALL = true) (h5 : tkw sNAME ((cpl T).drop n) = k) (h6 : lKEYS.any (· == txt ((cpl T).drop n) k) = false)
    (hret : ∀ h' tk' q t1 t2 t3 ta' tl' tc', Fr h₀ L h' m → News h₀ L h' ((d, sgS w k1 k2 k3 k4 T tT (n + k) ta' tl' tc') :: (sg, instObj 147 d) :: (q, tupO #[.str (Str.ofString "var") t1, .str (txt ((cpl T).drop n) k) t2, pvV .none t3]) :: rest) → Q (.ref q) { s with heap := h', toks := tk' }) :
    wpAny (model PySem.Challenge.pw_np0234_01 w) (ktrTop dp un gd cn cs L a ccd cl outer) (call (.ref 284) [.ref sg]) Q E s := by
  subst h5
  unfold sSPECIALS at h2
  unfold sDIGITS at h3
  unfold sSMALL at h4
  unfold sNAME at *
  unfold lKEYS at h6
  refine wpAny_call ?_
  k_dflt k_extra "enter"
  k_steps
  exact hret _ _ _ _ _ 0 _ _ _ (by k_asm) (by first | k_asm | (refine' cb_drop ?cbN ?cbS; (case cbN => assumption); (case cbS => kcj_all)))
set_option maxHeartbeats 4000000 in
theorem rw_great {kd tx : Str} {pv : PV} {k : Nat} (hd : dp + 7 < recursionLimit) (hun : un + 1100 < cLine) (h1 : (sgn ((cpl T).drop n) 0 == Str.ofString "") = false) (h2 : among (sgn ((cpl T).drop n) 0) sSPECIALS = false) (h3 : among (sgn ((cpl T).drop n) 0) sDIGITS = false) (h4 : among (sgn ((cpl T).drop n) 0) sSMALL = false) (h5 : among (sgn ((cpl T).drop n) 0) sGREAT = true) (h6 : GnOk (cpl T) n kd tx pv k)
    (hret : ∀ h' tk' q t1 t2 t3 ta' tl' tc', Fr h₀ L h' m → News h₀ L h' ((d, sgS w k1 k2 k3 k4 T tT (n + k) ta' tl' tc') :: (sg, instObj 147 d) :: (q, tupO #[.str kd t1, .str tx t2, pvV pv t3]) :: rest) → Q (.ref q) { s with heap := h', toks := tk' }) :
    wpAny (model PySem.Challenge.pw_np0234_01 w) (ktrTop dp un gd cn cs L a ccd cl outer) (call (.ref 284) [.ref sg]) Q E s := by
  unfold sSPECIALS at h2
  unfold sDIGITS at h3
  unfold sSMALL at h4
  unfold sGREAT at h5
  refine wpAny_call ?_
  k_dflt k_extra "enter"
  k_steps
  exact hret _ _ _ _ _ _ _ _ _ (by k_asm) (by first | k_asm | (refine' cb_drop ?cbN ?cbS; (case cbN => assumption); (case cbS => kcj_all)))
set_option maxHeartbeats 4000000 in
theorem rw_sym {k : Nat} (hd : dp + 7 < recursionLimit) (hun : un + 1100 < cLine) (h1 : (sgn ((cpl T).drop n) 0 == Str.ofString "") = false) (h2 : among (sgn ((cpl T).drop n) 0) sSPECIALS = false) (h3 : among (sgn ((cpl T).drop n) 0) sDIGITS = false) (h4 : among (sgn ((cpl T).drop n) 0) sSMALL = false) (h5 : among (sgn ((cpl T).drop n) 0) sGREAT = false) (h6 : among (sgn ((cpl T).drop n) 0) sSYMBOLS = true) (h7 : tkw sSYMBOLS ((cpl T).drop n) = k) (h8 : 0 < (txt ((cpl T).drop n) k).length)
    (hret : ∀ h' tk' q t1 t2 t3 ta' tl' tc', Fr h₀ L h' m → News h₀ L h' ((d, sgS w k1 k2 k3 k4 T tT (n + k) ta' tl' tc') :: (sg, instObj 147 d) :: (q, tupO #[.str (symk (txt ((cpl T).drop n) k)) t1, .str (txt ((cpl T).drop n) k) t2, pvV .none t3]) :: rest) → Q (.ref q) { s with heap := h', toks := tk' }) :
    wpAny (model PySem.Challenge.pw_np0234_01 w) (ktrTop dp un gd cn cs L a ccd cl outer) (call (.ref 284) [.ref sg]) Q E s := by
  subst h7
  unfold sSPECIALS at h2
  unfold sDIGITS at h3
  unfold sSMALL at h4
  unfold sGREAT at h5
  unfold sSYMBOLS at *
  refine wpAny_call ?_
  k_dflt k_extra "enter"
  k_steps
  exact hret _ _ _ _ _ 0 _ _ _ (by k_asm) (by first | k_asm | (refine' cb_drop ?cbN ?cbS; (case cbN => assumption); (case cbS => kcj_all)))
set_option maxHeartbeats 4000000 in
theorem rw_char {c k : Nat} (hd : dp + 7 < recursionLimit) (hun : un + 1100 < cLine) (h1 : sgn ((cpl T).drop n) 0 = Str.ofString "'") (h2 : ChOk (cpl T) n c k)
    (hret : ∀ h' tk' q t1 t2 t3 ta' tl' tc', Fr h₀ L h' m → News h₀ L h' ((d, sgS w k1 k2 k3 k4 T tT (n + k) ta' tl' tc') :: (sg, instObj 147 d) :: (q, tupO #[.str (Str.ofString "char") t1, .str (txt ((cpl T).drop n) k) t2, pvV (.str (one c)) t3]) :: rest) → Q (.ref q) { s with heap := h', toks := tk' }) :
    wpAny (model PySem.Challenge.pw_np0234_01 w) (ktrTop dp un gd cn cs L a ccd cl outer) (call (.ref 284) [.ref sg]) Q E s := by
  rw [← sl_txt] at hret
  refine wpAny_call ?_
  k_dflt k_extra "enter"
  k_steps
  exact hret _ _ _ _ _ _ _ _ _ (by k_asm) (by first | k_asm | (refine' cb_drop ?cbN ?cbS; (case cbN => assumption); (case cbS => kcj_all)))
set_option maxHeartbeats 4000000 in
theorem rw_text {vs : List Nat} {k : Nat} (hd : dp + 7 < recursionLimit) (hun : un + 1100 < cLine) (h1 : sgn ((cpl T).drop n) 0 = Str.ofString "\"") (h2 : TxOk (cpl T) (n + 1) vs k) (h3 : vs.length ≤ 1000)
    (hret : ∀ h' tk' q t1 t2 t3 ta' tl' tc', Fr h₀ L h' m → News h₀ L h' ((d, sgS w k1 k2 k3 k4 T tT (n + (1 + k)) ta' tl' tc') :: (sg, instObj 147 d) :: (q, tupO #[.str (Str.ofString "text") t1, .str (txt ((cpl T).drop n) (1 + k)) t2, pvV (.str ⟨vs.toArray⟩) t3]) :: rest) → Q (.ref q) { s with heap := h', toks := tk' }) :
    wpAny (model PySem.Challenge.pw_np0234_01 w) (ktrTop dp un gd cn cs L a ccd cl outer) (call (.ref 284) [.ref sg]) Q E s := by
  rw [← sl_txt] at hret
  simp only [← Nat.add_assoc] at hret
  refine wpAny_call ?_
  k_dflt k_extra "enter"
  k_steps
  exact hret _ _ _ _ _ _ _ _ _ (by k_asm) (by first | k_asm | (refine' cb_drop ?cbN ?cbS; (case cbN => assumption); (case cbS => kcj_all)))
set_option maxHeartbeats 4000000 in
theorem rb_sign (hd : dp + 7 < recursionLimit) (hun : un + 1100 < cLine) (h1 : sgn ((cpl T).drop n) 0 = Str.ofString "\x01")
    (hraise : ∀ e t v h' tk' G, RaisedS base G (envX cn cs L a ccd cl :: outer) e (.ref 52) t [v] [] h' → Fr h₀ L G m → G.UpToSlots h' → E (.ref e) { s with heap := h', toks := tk' }) :
    wpAny (model PySem.Challenge.pw_np0234_01 w) (ktrTop dp un gd cn cs L a ccd cl outer) (call (.ref 284) [.ref sg]) Q E s := by
  refine wpAny_call ?_
  k_dflt k_extra "enter"
  k_steps
  exact hraise _ _ _ _ _ _ (by assumption) (by k_asm) (by assumption)
set_option maxHeartbeats 4000000 in
theorem rb_char (hd : dp + 7 < recursionLimit) (hun : un + 1100 < cLine) (h1 : sgn ((cpl T).drop n) 0 = Str.ofString "'") (h2 : ChBad (cpl T) n)
    (hraise : ∀ e t v h' tk' G, RaisedS base G (envX cn cs L a ccd cl :: outer) e (.ref 52) t [v] [] h' → Fr h₀ L G m → G.UpToSlots h' → E (.ref e) { s with heap := h', toks := tk' }) :
    wpAny (model PySem.Challenge.pw_np0234_01 w) (ktrTop dp un gd cn cs L a ccd cl outer) (call (.ref 284) [.ref sg]) Q E s := by
  refine wpAny_call ?_
  k_dflt k_extra "enter"
  k_steps
  exact hraise _ _ _ _ _ _ (by assumption) (by k_asm) (by assumption)
set_option maxHeartbeats 4000000 in
theorem rb_text {k : Nat} (hd : dp + 7 < recursionLimit) (hun : un + 1100 < cLine) (h1 : sgn ((cpl T).drop n) 0 = Str.ofString "\"") (h2 : TxBad (cpl T) (n + 1) k) (h3 : k ≤ 1000)
    (hraise : ∀ e t v h' tk' G, RaisedS base G (envX cn cs L a ccd cl :: outer) e (.ref 52) t [v] [] h' → Fr h₀ L G m → G.UpToSlots h' → E (.ref e) { s with heap := h', toks := tk' }) :
    wpAny (model PySem.Challenge.pw_np0234_01 w) (ktrTop dp un gd cn cs L a ccd cl outer) (call (.ref 284) [.ref sg]) Q E s := by
  refine wpAny_call ?_
  k_dflt k_extra "enter"
  k_steps
  exact hraise _ _ _ _ _ _ (by assumption) (by k_asm) (by assumption)
set_option maxHeartbeats 4000000 in
theorem rw_ok {kd tx : Str} {pv : PV} {k : Nat} (hd : dp + 7 < recursionLimit) (hun : un + 1100 < cLine) (hx : Rd (cpl T) n kd tx pv k)
    (hret : ∀ h' tk' q t1 t2 t3 ta' tl' tc', Fr h₀ L h' m → News h₀ L h' ((d, sgS w k1 k2 k3 k4 T tT (n + k) ta' tl' tc') :: (sg, instObj 147 d) :: (q, tupO #[.str kd t1, .str tx t2, pvV pv t3]) :: rest) → Q (.ref q) { s with heap := h', toks := tk' }) :
    wpAny (model PySem.Challenge.pw_np0234_01 w) (ktrTop dp un gd cn cs L a ccd cl outer) (call (.ref 284) [.ref sg]) Q E s := by
  cases hx with
  | fin h1 => exact rw_fin B F X N Tp hk hsd hne hT hd hun h1 hret
  | special h1 h2 => exact rw_special B F X N Tp hk hsd hne hT hd hun h1 h2 hret
  | int h1 h2 h3 h4 => exact rw_int B F X N Tp hk hsd hne hT hd hun h1 h2 h3 h4 hret
  | key h1 h2 h3 h4 h5 h6 => exact rw_key B F X N Tp hk hsd hne hT hd hun h1 h2 h3 h4 h5 h6 hret
  | var h1 h2 h3 h4 h5 h6 => exact rw_var B F X N Tp hk hsd hne hT hd hun h1 h2 h3 h4 h5 h6 hret
  | great h1 h2 h3 h4 h5 h6 => exact rw_great B F X N Tp hk hsd hne hT hd hun h1 h2 h3 h4 h5 h6 hret
  | sym h1 h2 h3 h4 h5 h6 h7 h8 => exact rw_sym B F X N Tp hk hsd hne hT hd hun h1 h2 h3 h4 h5 h6 h7 h8 hret
  | char h1 h2 => exact rw_char B F X N Tp hk hsd hne hT hd hun h1 h2 hret
  | text h1 h2 h3 => exact rw_text B F X N Tp hk hsd hne hT hd hun h1 h2 h3 hret
set_option maxHeartbeats 4000000 in
theorem rw_bad (hd : dp + 7 < recursionLimit) (hun : un + 1100 < cLine) (hx : RdBad (cpl T) n)
    (hraise : ∀ e t v h' tk' G, RaisedS base G (envX cn cs L a ccd cl :: outer) e (.ref 52) t [v] [] h' → Fr h₀ L G m → G.UpToSlots h' → E (.ref e) { s with heap := h', toks := tk' }) :
    wpAny (model PySem.Challenge.pw_np0234_01 w) (ktrTop dp un gd cn cs L a ccd cl outer) (call (.ref 284) [.ref sg]) Q E s := by
  cases hx with
  | sign h1 => exact rb_sign B F X N Tp hk hsd hne hT hd hun h1 hraise
  | char h1 h2 => exact rb_char B F X N Tp hk hsd hne hT hd hun h1 h2 hraise
  | text h1 h2 h3 => exact rb_text B F X N Tp hk hsd hne hT hd hun h1 h2 h3 hraise
end
theorem rg_N7_45 : True := by
  k_with_none
  k_with "all" => assumption
  k_with "enter" => (refine' code_def ?enk1 ?enk2 ?enk3 ?enk4 ?enk5 ?enkA ?enkF ?enkK ?enk6 ?enk7 ?enk8 ?enk9 ?enkB ?_ ?enc2 ?enc3 ?enc4 ?enc5; (case enkA => exact rfl); (case enkF => exact rfl); (case enkK => first | exact rfl | assumption); (case enk1 => k_asm); (case enk2 => k_asm); (case enk3 => k_asm); (case enk4 => k_asm); (case enk5 => k_asm); (case enk6 => k_is); (case enk7 => k_is); (case enk8 => ktr_room); (case enk9 => first | exact BindsTo.of_eq rfl | exact binds_K (by k_in) rfl (by k_is) rfl rfl rfl); (case enc5 => decide); (case enkB => exact locs rfl); (case enc2 => exact rfl); (case enc3 => exact rfl); (case enc4 => exact rfl); k_whole; intro g' L' h' FG' F' N' B' X' T'; (try dsimp only); (try k_fold))
  k_with "my leaving ref" => (k_here; k_dflt (first | (refine leave_onR (by assumption) (by k_asm) (by k_asm) (by k_asm) ?_; k_whole; intro h' R' _ U'; (try dsimp only)) | (refine leave_we (by k_asm) (by k_asm) (by k_asm) ?_ (by exact rfl); k_whole; intro h' R' U'; (try dsimp only))))
  k_with "all" => first | assumption | exact List.forall_mem_nil _ | (refine off_cons (by k_asm) (by k_mem) (by k_mem) (by (intro e; have e9 := congrArg Obj.cls e; first | (simp at e9; done) | ((rename Obj.cls _ = Value.type "tuple_iterator" => hc9); rw [hc9] at e9; simp at e9; done))) (by k_all)) | (refine List.forall_mem_cons.mpr ⟨(by first | assumption | k_ne), (by k_all)⟩) | (refine List.forall_mem_append.mpr ⟨(by k_all), (by k_all)⟩)
  k_with "room" => ((have hcL9 := cLine_is); (simp only [units_in1, units_deeper, Around.mark_units, units_caller]); (try dsimp only [ktrTop]); omega)
  exact trivial
structure Wd where
  kd : Str
  tx : Str
  pv : PV
  line : Int
  col : Int
  first : Bool
/-- the words from place n on; b: the next one is the text's first -/
inductive Lex (l : List Nat) : Nat → Bool → List Wd → Prop
  | fin {n k : Nat} {b : Bool} : skp 64 (l.drop n) = some (some k) → Rd l (n + k) (Str.ofString "end") (Str.ofString "") .none 0 →
      Lex l n b [⟨Str.ofString "end", Str.ofString "", .none, (posAt l (n + k)).1, (posAt l (n + k)).2, decide ((posAt l n).1 < (posAt l (n + k)).1) || b⟩]
  | word {n k j : Nat} {b : Bool} {kd tx : Str} {pv : PV} {ws : List Wd} : skp 64 (l.drop n) = some (some k) → Rd l (n + k) kd tx pv j → (kd != Str.ofString "end") = true → Lex l (n + k + j) false ws →
      Lex l n b (⟨kd, tx, pv, (posAt l (n + k)).1, (posAt l (n + k)).2, decide ((posAt l n).1 < (posAt l (n + k)).1) || b⟩ :: ws)
inductive LexBad (l : List Nat) : Nat → Nat → Prop
  | skip {n : Nat} : skp 64 (l.drop n) = some none → LexBad l n 0
  | read {n k : Nat} : skp 64 (l.drop n) = some (some k) → RdBad l (n + k) → LexBad l n 0
  | word {n k j m : Nat} {kd tx : Str} {pv : PV} : skp 64 (l.drop n) = some (some k) → Rd l (n + k) kd tx pv j → (kd != Str.ofString "end") = true → LexBad l (n + k + j) m → LexBad l n (m + 1)
theorem Lex.cast {l : List Nat} {n n' : Nat} {b : Bool} {ws ws' : List Wd} (h : Lex l n b ws) (e1 : n = n') (e2 : ws = ws') : Lex l n' b ws' := by subst e1 e2; exact h
theorem rg_P0_46 : True := by
  k_with_none
  k_with "all" => assumption
  k_with "enter" => (refine' code_def ?enk1 ?enk2 ?enk3 ?enk4 ?enk5 ?enkA ?enkF ?enkK ?enk6 ?enk7 ?enk8 ?enk9 ?enkB ?_ ?enc2 ?enc3 ?enc4 ?enc5; (case enkA => exact rfl); (case enkF => exact rfl); (case enkK => first | exact rfl | assumption); (case enk1 => k_asm); (case enk2 => k_asm); (case enk3 => k_asm); (case enk4 => k_asm); (case enk5 => k_asm); (case enk6 => k_is); (case enk7 => k_is); (case enk8 => ktr_room); (case enk9 => first | exact BindsTo.of_eq rfl | exact binds_K (by k_in) rfl (by k_is) rfl rfl rfl); (case enc5 => decide); (case enkB => exact locs rfl); (case enc2 => exact rfl); (case enc3 => exact rfl); (case enc4 => exact rfl); k_whole; intro g' L' h' FG' F' N' B' X' T'; (try dsimp only); (try k_fold))
  k_with "my leaving ref" => (k_here; k_dflt (first | (refine leave_onR (by assumption) (by k_asm) (by k_asm) (by k_asm) ?_; k_whole; intro h' R' _ U'; (try dsimp only)) | (refine leave_we (by k_asm) (by k_asm) (by k_asm) ?_ (by exact rfl); k_whole; intro h' R' U'; (try dsimp only))))
  k_with "all" => first | assumption | exact List.forall_mem_nil _ | (refine off_cons (by k_asm) (by k_mem) (by k_mem) (by (intro e; have e9 := congrArg Obj.cls e; first | (simp at e9; done) | ((rename Obj.cls _ = Value.type "tuple_iterator" => hc9); rw [hc9] at e9; simp at e9; done))) (by k_all)) | (refine List.forall_mem_cons.mpr ⟨(by first | assumption | k_ne), (by k_all)⟩) | (refine List.forall_mem_append.mpr ⟨(by k_all), (by k_all)⟩)
  k_with "room" => ((have hcL9 := cLine_is); (simp only [units_in1, units_deeper, Around.mark_units, units_caller]); (try dsimp only [ktrTop]); omega)
  exact trivial
noncomputable def SkpAt (m : Nat) (r : List Nat) (ρ : Option Nat) : Prop := ∀ f, skp (f + m) r = some ρ
theorem sk_blank {m : Nat} {r : List Nat} {ρ : Option Nat} {c : Nat} (h : SkpAt m r ρ) (hc : has sBLANK (c :: r) = true) : SkpAt (m + 1) (c :: r) (ρ.map (· + 1)) := fun f => by
  show skp ((f + m) + 1) _ = _
  rw [skp_1 hc]
  show (skp (f + m) r).map _ = _
  rw [h f]; rfl
theorem sk_line {m k : Nat} {r x : List Nat} {ρ : Option Nat} (h : SkpAt m r ρ) (h1 : has sBLANK x = false) (h2 : ilc x = true) (h3 : tkp nnl x = k) (h4 : x.drop k = r) : SkpAt (m + 1) x (ρ.map (· + k)) := fun f => by
  show skp ((f + m) + 1) _ = _
  rw [skp_2 h1 h2, h3, h4, h f]; rfl
theorem sk_nest {m k : Nat} {r x : List Nat} {ρ : Option Nat} (h : SkpAt m r ρ) (h1 : has sBLANK x = false) (h2 : ilc x = false) (h3 : (txt x 2 == Str.ofString "{-") = true) (h5 : nest 64 0 x = some (some k)) (h4 : x.drop k = r) : SkpAt (m + 1) x (ρ.map (· + k)) := fun f => by
  show skp ((f + m) + 1) _ = _
  rw [skp_nest_some h1 h2 h3 h5, h4, h f]; rfl
/-- no blank and no comment begins here -/
noncomputable def Start (r : List Nat) : Prop := has sBLANK r = false ∧ ilc r = false ∧ (txt r 2 == Str.ofString "{-") = false
theorem sk_start {r : List Nat} (h : Start r) : SkpAt 1 r (some 0) := fun f => skp_4 h.1 h.2.1 h.2.2
noncomputable def bCodes : Nat → List Nat
  | 0 => [32] | 1 => [10] | 2 => [10, 32, 32, 32] | 3 => [9] | 4 => [32, 9, 32]
  | 5 => [32, 45, 45, 32, 45, 45, 62, 32, 99, 10]
  | 6 => [123, 45, 32, 97, 32, 123, 45, 32, 98, 32, 45, 125, 10, 45, 45, 32, 45, 125, 32]
  | 7 => [123, 45, 45, 125, 32]
  | _ => [10, 10, 9]
theorem sk_mono {m m' : Nat} {r : List Nat} {ρ : Option Nat} (h : SkpAt m r ρ) (hm : m ≤ m') : SkpAt m' r ρ := fun f => by
  have := h (f + (m' - m))
  rwa [Nat.add_assoc, Nat.sub_add_cancel hm] at this
theorem sk_eq {m : Nat} {r : List Nat} {ρ ρ' : Option Nat} (h : SkpAt m r ρ) (e : ρ = ρ') : SkpAt m r ρ' := e ▸ h
theorem sk_btw {m : Nat} {r : List Nat} {ρ : Option Nat} (h : SkpAt m r ρ) : ∀ j, j < 9 → SkpAt (m + 4) (bCodes j ++ r) (ρ.map (· + (bCodes j).length))
  | 0, _ => sk_mono (sk_blank h (by kernel_rfl)) (by omega)
  | 1, _ => sk_mono (sk_blank h (by kernel_rfl)) (by omega)
  | 2, _ => sk_eq (sk_blank (sk_blank (sk_blank (sk_blank h (by kernel_rfl)) (by kernel_rfl)) (by kernel_rfl)) (by kernel_rfl)) (by cases ρ <;> rfl)
  | 3, _ => sk_mono (sk_blank h (by kernel_rfl)) (by omega)
  | 4, _ => sk_mono (sk_eq (sk_blank (sk_blank (sk_blank h (by kernel_rfl)) (by kernel_rfl)) (by kernel_rfl)) (by cases ρ <;> rfl)) (by omega)
  | 5, _ => sk_mono (sk_eq (sk_blank (sk_line (k := 8) (x := [45, 45, 32, 45, 45, 62, 32, 99, 10] ++ r) (r := 10 :: r) (sk_blank h (by kernel_rfl)) (by kernel_rfl) (by kernel_rfl) (by kernel_rfl) (by kernel_rfl)) (by kernel_rfl)) (by cases ρ <;> rfl)) (by omega)
  | 6, _ => sk_mono (sk_eq (sk_nest (k := 18) (x := bCodes 6 ++ r) (r := 32 :: r) (sk_blank h (by kernel_rfl)) (by kernel_rfl) (by kernel_rfl) (by kernel_rfl) (by kernel_rfl) (by kernel_rfl)) (by cases ρ <;> rfl)) (by omega)
  | 7, _ => sk_mono (sk_eq (sk_nest (k := 4) (x := bCodes 7 ++ r) (r := 32 :: r) (sk_blank h (by kernel_rfl)) (by kernel_rfl) (by kernel_rfl) (by kernel_rfl) (by kernel_rfl) (by kernel_rfl)) (by cases ρ <;> rfl)) (by omega)
  | 8, _ => sk_mono (sk_eq (sk_blank (sk_blank (sk_blank h (by kernel_rfl)) (by kernel_rfl)) (by kernel_rfl)) (by cases ρ <;> rfl)) (by omega)
  | n + 9, h => absurd h (by omega)
theorem rg_P1_47 : True := by
  k_with_none
  k_with "all" => assumption
  k_with "enter" => (refine' code_def ?enk1 ?enk2 ?enk3 ?enk4 ?enk5 ?enkA ?enkF ?enkK ?enk6 ?enk7 ?enk8 ?enk9 ?enkB ?_ ?enc2 ?enc3 ?enc4 ?enc5; (case enkA => exact rfl); (case enkF => exact rfl); (case enkK => first | exact rfl | assumption); (case enk1 => k_asm); (case enk2 => k_asm); (case enk3 => k_asm); (case enk4 => k_asm); (case enk5 => k_asm); (case enk6 => k_is); (case enk7 => k_is); (case enk8 => ktr_room); (case enk9 => first | exact BindsTo.of_eq rfl | exact binds_K (by k_in) rfl (by k_is) rfl rfl rfl); (case enc5 => decide); (case enkB => exact locs rfl); (case enc2 => exact rfl); (case enc3 => exact rfl); (case enc4 => exact rfl); k_whole; intro g' L' h' FG' F' N' B' X' T'; (try dsimp only); (try k_fold))
  k_with "my leaving ref" => (k_here; k_dflt (first | (refine leave_onR (by assumption) (by k_asm) (by k_asm) (by k_asm) ?_; k_whole; intro h' R' _ U'; (try dsimp only)) | (refine leave_we (by k_asm) (by k_asm) (by k_asm) ?_ (by exact rfl); k_whole; intro h' R' U'; (try dsimp only))))
  k_with "all" => first | assumption | exact List.forall_mem_nil _ | (refine off_cons (by k_asm) (by k_mem) (by k_mem) (by (intro e; have e9 := congrArg Obj.cls e; first | (simp at e9; done) | ((rename Obj.cls _ = Value.type "tuple_iterator" => hc9); rw [hc9] at e9; simp at e9; done))) (by k_all)) | (refine List.forall_mem_cons.mpr ⟨(by first | assumption | k_ne), (by k_all)⟩) | (refine List.forall_mem_append.mpr ⟨(by k_all), (by k_all)⟩)
  k_with "room" => ((have hcL9 := cLine_is); (simp only [units_in1, units_deeper, Around.mark_units, units_caller]); (try dsimp only [ktrTop]); omega)
  exact trivial
theorem Rd.cast {l : List Nat} {n k k' : Nat} {kd kd' tx tx' : Str} {pv pv' : PV} (h : Rd l n kd tx pv k) (e1 : kd = kd') (e2 : tx = tx') (e3 : pv = pv') (e4 : k = k') : Rd l n kd' tx' pv' k' := by subst e1 e2 e3 e4; exact h
theorem NumOk.cast {r : List Nat} {v v' : Int} {k k' : Nat} (h : NumOk r v k) (e1 : v = v') (e2 : k = k') : NumOk r v' k' := by subst e1 e2; exact h
theorem GnOk.cast {l : List Nat} {n k k' : Nat} {kd kd' tx tx' : Str} {pv pv' : PV} (h : GnOk l n kd tx pv k) (e1 : kd = kd') (e2 : tx = tx') (e3 : pv = pv') (e4 : k = k') : GnOk l n kd' tx' pv' k' := by subst e1 e2 e3 e4; exact h
theorem EscOk.cast {l : List Nat} {n k k' c c' : Nat} (h : EscOk l n c k) (e1 : c = c') (e2 : k = k') : EscOk l n c' k' := by subst e1 e2; exact h
theorem ChOk.cast {l : List Nat} {n k k' c c' : Nat} (h : ChOk l n c k) (e1 : c = c') (e2 : k = k') : ChOk l n c' k' := by subst e1 e2; exact h
/-- the signs that may stand behind a word -/
noncomputable def Nx (c : Nat) : Prop := c = 32 ∨ c = 10 ∨ c = 9 ∨ c = 123
theorem dropj {l x : List Nat} {n : Nat} (hr : l.drop n = x) (j : Nat) : l.drop (n + j) = x.drop j := by rw [← List.drop_drop, hr]
noncomputable def wCodes : Nat → List Nat
  | 0 => [120, 39]
  | 1 => [95, 121]
  | 2 => [99, 97, 115, 101]
  | 3 => [95]
  | 4 => [67, 111, 110, 50]
  | 5 => [45, 45, 62]
  | 6 => [124, 45, 45]
  | 7 => [33]
  | 8 => [58, 43]
  | 9 => [58]
  | 10 => [92]
  | 11 => [46, 46]
  | 12 => [61, 62]
  | 13 => [40]
  | 14 => [96]
  | 15 => [125]
  | 16 => [99, 97, 115, 101, 115]
  | 17 => [77, 46, 120]
  | 18 => [65, 46, 66, 46, 67]
  | 19 => [77, 46, 43, 46]
  | 20 => [77, 46, 58, 43]
  | 21 => [48, 120, 49, 70]
  | 22 => [48, 79, 49, 55]
  | 23 => [49, 50, 48]
  | 24 => [39, 92, 110, 39]
  | 25 => [39, 92, 39, 39]
  | _ => [34, 97, 92, 49, 48, 92, 38, 57, 92, 83, 79, 72, 98, 92, 83, 79, 92, 38, 72, 92, 120, 52, 49, 92, 94, 65, 92, 34, 34]
noncomputable def wKd : Nat → Str
  | 0 => (Str.ofString "var")
  | 1 => (Str.ofString "var")
  | 2 => (Str.ofString "key")
  | 3 => (Str.ofString "key")
  | 4 => (Str.ofString "con")
  | 5 => (Str.ofString "varsym")
  | 6 => (Str.ofString "varsym")
  | 7 => (Str.ofString "varsym")
  | 8 => (Str.ofString "consym")
  | 9 => (Str.ofString "op")
  | 10 => (Str.ofString "op")
  | 11 => (Str.ofString "op")
  | 12 => (Str.ofString "op")
  | 13 => (Str.ofString "special")
  | 14 => (Str.ofString "special")
  | 15 => (Str.ofString "special")
  | 16 => (Str.ofString "var")
  | 17 => (Str.ofString "var")
  | 18 => (Str.ofString "con")
  | 19 => (Str.ofString "varsym")
  | 20 => (Str.ofString "consym")
  | 21 => (Str.ofString "int")
  | 22 => (Str.ofString "int")
  | 23 => (Str.ofString "int")
  | 24 => (Str.ofString "char")
  | 25 => (Str.ofString "char")
  | _ => (Str.ofString "text")
noncomputable def wTold : Nat → Str
  | 0 => (Str.ofString "x'")
  | 1 => (Str.ofString "_y")
  | 2 => (Str.ofString "case")
  | 3 => (Str.ofString "_")
  | 4 => (Str.ofString "Con2")
  | 5 => (Str.ofString "-->")
  | 6 => (Str.ofString "|--")
  | 7 => (Str.ofString "!")
  | 8 => (Str.ofString ":+")
  | 9 => (Str.ofString ":")
  | 10 => (Str.ofString "\\")
  | 11 => (Str.ofString "..")
  | 12 => (Str.ofString "=>")
  | 13 => (Str.ofString "(")
  | 14 => (Str.ofString "`")
  | 15 => (Str.ofString "}")
  | 16 => (Str.ofString "cases")
  | 17 => (Str.ofString "x")
  | 18 => (Str.ofString "C")
  | 19 => (Str.ofString "+.")
  | 20 => (Str.ofString ":+")
  | 21 => (Str.ofString "0x1F")
  | 22 => (Str.ofString "0O17")
  | 23 => (Str.ofString "120")
  | 24 => (Str.ofString "'\\n'")
  | 25 => (Str.ofString "'\\''")
  | _ => (Str.ofString "\"a\\10\\&9\\SOHb\\SO\\&H\\x41\\^A\\\"\"")
noncomputable def wPV : Nat → PV
  | 0 => .none
  | 1 => .none
  | 2 => .none
  | 3 => .none
  | 4 => .none
  | 5 => .none
  | 6 => .none
  | 7 => .none
  | 8 => .none
  | 9 => .none
  | 10 => .none
  | 11 => .none
  | 12 => .none
  | 13 => .none
  | 14 => .none
  | 15 => .none
  | 16 => .none
  | 17 => (.str (Str.ofString "M"))
  | 18 => (.str (Str.ofString "A.B"))
  | 19 => (.str (Str.ofString "M"))
  | 20 => (.str (Str.ofString "M"))
  | 21 => (.int 31)
  | 22 => (.int 15)
  | 23 => (.int 120)
  | 24 => (.str (Str.ofString "\n"))
  | 25 => (.str (Str.ofString "'"))
  | _ => (.str (Str.ofString "a\n9\x01b\x0eHA\x01\""))
theorem word_0 {l t : List Nat} {n c : Nat} (hc : Nx c) (hr : l.drop n = [120, 39] ++ c :: t) : Rd l n (wKd 0) (wTold 0) (wPV 0) 2 := by
  have hj := dropj hr
  rcases hc with rfl | rfl | rfl | rfl
  all_goals exact Rd.cast (Rd.var (k := 2) (by rw [hr]; kernel_rfl) (by rw [hr]; kernel_rfl) (by rw [hr]; kernel_rfl) (by rw [hr]; kernel_rfl) (by rw [hr]; kernel_rfl) (by rw [hr]; kernel_rfl)) rfl (by rw [hr]; first | rfl | kernel_rfl) rfl rfl
theorem word_1 {l t : List Nat} {n c : Nat} (hc : Nx c) (hr : l.drop n = [95, 121] ++ c :: t) : Rd l n (wKd 1) (wTold 1) (wPV 1) 2 := by
  have hj := dropj hr
  rcases hc with rfl | rfl | rfl | rfl
  all_goals exact Rd.cast (Rd.var (k := 2) (by rw [hr]; kernel_rfl) (by rw [hr]; kernel_rfl) (by rw [hr]; kernel_rfl) (by rw [hr]; kernel_rfl) (by rw [hr]; kernel_rfl) (by rw [hr]; kernel_rfl)) rfl (by rw [hr]; first | rfl | kernel_rfl) rfl rfl
theorem word_2 {l t : List Nat} {n c : Nat} (hc : Nx c) (hr : l.drop n = [99, 97, 115, 101] ++ c :: t) : Rd l n (wKd 2) (wTold 2) (wPV 2) 4 := by
  have hj := dropj hr
  rcases hc with rfl | rfl | rfl | rfl
  all_goals exact Rd.cast (Rd.key (k := 4) (by rw [hr]; kernel_rfl) (by rw [hr]; kernel_rfl) (by rw [hr]; kernel_rfl) (by rw [hr]; kernel_rfl) (by rw [hr]; kernel_rfl) (by rw [hr]; kernel_rfl)) rfl (by rw [hr]; first | rfl | kernel_rfl) rfl rfl
theorem word_3 {l t : List Nat} {n c : Nat} (hc : Nx c) (hr : l.drop n = [95] ++ c :: t) : Rd l n (wKd 3) (wTold 3) (wPV 3) 1 := by
  have hj := dropj hr
  rcases hc with rfl | rfl | rfl | rfl
  all_goals exact Rd.cast (Rd.key (k := 1) (by rw [hr]; kernel_rfl) (by rw [hr]; kernel_rfl) (by rw [hr]; kernel_rfl) (by rw [hr]; kernel_rfl) (by rw [hr]; kernel_rfl) (by rw [hr]; kernel_rfl)) rfl (by rw [hr]; first | rfl | kernel_rfl) rfl rfl
theorem word_4 {l t : List Nat} {n c : Nat} (hc : Nx c) (hr : l.drop n = [67, 111, 110, 50] ++ c :: t) : Rd l n (wKd 4) (wTold 4) (wPV 4) 4 := by
  have hj := dropj hr
  rcases hc with rfl | rfl | rfl | rfl
  all_goals exact Rd.cast (Rd.great (by rw [hr]; kernel_rfl) (by rw [hr]; kernel_rfl) (by rw [hr]; kernel_rfl) (by rw [hr]; kernel_rfl) (by rw [hr]; kernel_rfl) (GnOk.plain (k := 4) (by rw [hr]; kernel_rfl) (by (try simp only [Nat.add_assoc]); rw [hj]; kernel_rfl))) rfl (by rw [hr]; first | rfl | kernel_rfl) rfl rfl
theorem word_5 {l t : List Nat} {n c : Nat} (hc : Nx c) (hr : l.drop n = [45, 45, 62] ++ c :: t) : Rd l n (wKd 5) (wTold 5) (wPV 5) 3 := by
  have hj := dropj hr
  rcases hc with rfl | rfl | rfl | rfl
  all_goals exact Rd.cast (Rd.sym (k := 3) (by rw [hr]; kernel_rfl) (by rw [hr]; kernel_rfl) (by rw [hr]; kernel_rfl) (by rw [hr]; kernel_rfl) (by rw [hr]; kernel_rfl) (by rw [hr]; kernel_rfl) (by rw [hr]; kernel_rfl) (by rw [hr]; exact Nat.lt_of_lt_of_eq (show 0 < 3 by decide) (by kernel_rfl))) (by rw [hr]; kernel_rfl) (by rw [hr]; first | rfl | kernel_rfl) rfl rfl
theorem word_6 {l t : List Nat} {n c : Nat} (hc : Nx c) (hr : l.drop n = [124, 45, 45] ++ c :: t) : Rd l n (wKd 6) (wTold 6) (wPV 6) 3 := by
  have hj := dropj hr
  rcases hc with rfl | rfl | rfl | rfl
  all_goals exact Rd.cast (Rd.sym (k := 3) (by rw [hr]; kernel_rfl) (by rw [hr]; kernel_rfl) (by rw [hr]; kernel_rfl) (by rw [hr]; kernel_rfl) (by rw [hr]; kernel_rfl) (by rw [hr]; kernel_rfl) (by rw [hr]; kernel_rfl) (by rw [hr]; exact Nat.lt_of_lt_of_eq (show 0 < 3 by decide) (by kernel_rfl))) (by rw [hr]; kernel_rfl) (by rw [hr]; first | rfl | kernel_rfl) rfl rfl
theorem word_7 {l t : List Nat} {n c : Nat} (hc : Nx c) (hr : l.drop n = [33] ++ c :: t) : Rd l n (wKd 7) (wTold 7) (wPV 7) 1 := by
  have hj := dropj hr
  rcases hc with rfl | rfl | rfl | rfl
  all_goals exact Rd.cast (Rd.sym (k := 1) (by rw [hr]; kernel_rfl) (by rw [hr]; kernel_rfl) (by rw [hr]; kernel_rfl) (by rw [hr]; kernel_rfl) (by rw [hr]; kernel_rfl) (by rw [hr]; kernel_rfl) (by rw [hr]; kernel_rfl) (by rw [hr]; exact Nat.lt_of_lt_of_eq (show 0 < 1 by decide) (by kernel_rfl))) (by rw [hr]; kernel_rfl) (by rw [hr]; first | rfl | kernel_rfl) rfl rfl
theorem word_8 {l t : List Nat} {n c : Nat} (hc : Nx c) (hr : l.drop n = [58, 43] ++ c :: t) : Rd l n (wKd 8) (wTold 8) (wPV 8) 2 := by
  have hj := dropj hr
  rcases hc with rfl | rfl | rfl | rfl
  all_goals exact Rd.cast (Rd.sym (k := 2) (by rw [hr]; kernel_rfl) (by rw [hr]; kernel_rfl) (by rw [hr]; kernel_rfl) (by rw [hr]; kernel_rfl) (by rw [hr]; kernel_rfl) (by rw [hr]; kernel_rfl) (by rw [hr]; kernel_rfl) (by rw [hr]; exact Nat.lt_of_lt_of_eq (show 0 < 2 by decide) (by kernel_rfl))) (by rw [hr]; kernel_rfl) (by rw [hr]; first | rfl | kernel_rfl) rfl rfl
theorem word_9 {l t : List Nat} {n c : Nat} (hc : Nx c) (hr : l.drop n = [58] ++ c :: t) : Rd l n (wKd 9) (wTold 9) (wPV 9) 1 := by
  have hj := dropj hr
  rcases hc with rfl | rfl | rfl | rfl
  all_goals exact Rd.cast (Rd.sym (k := 1) (by rw [hr]; kernel_rfl) (by rw [hr]; kernel_rfl) (by rw [hr]; kernel_rfl) (by rw [hr]; kernel_rfl) (by rw [hr]; kernel_rfl) (by rw [hr]; kernel_rfl) (by rw [hr]; kernel_rfl) (by rw [hr]; exact Nat.lt_of_lt_of_eq (show 0 < 1 by decide) (by kernel_rfl))) (by rw [hr]; kernel_rfl) (by rw [hr]; first | rfl | kernel_rfl) rfl rfl
theorem word_10 {l t : List Nat} {n c : Nat} (hc : Nx c) (hr : l.drop n = [92] ++ c :: t) : Rd l n (wKd 10) (wTold 10) (wPV 10) 1 := by
  have hj := dropj hr
  rcases hc with rfl | rfl | rfl | rfl
  all_goals exact Rd.cast (Rd.sym (k := 1) (by rw [hr]; kernel_rfl) (by rw [hr]; kernel_rfl) (by rw [hr]; kernel_rfl) (by rw [hr]; kernel_rfl) (by rw [hr]; kernel_rfl) (by rw [hr]; kernel_rfl) (by rw [hr]; kernel_rfl) (by rw [hr]; exact Nat.lt_of_lt_of_eq (show 0 < 1 by decide) (by kernel_rfl))) (by rw [hr]; kernel_rfl) (by rw [hr]; first | rfl | kernel_rfl) rfl rfl
theorem word_11 {l t : List Nat} {n c : Nat} (hc : Nx c) (hr : l.drop n = [46, 46] ++ c :: t) : Rd l n (wKd 11) (wTold 11) (wPV 11) 2 := by
  have hj := dropj hr
  rcases hc with rfl | rfl | rfl | rfl
  all_goals exact Rd.cast (Rd.sym (k := 2) (by rw [hr]; kernel_rfl) (by rw [hr]; kernel_rfl) (by rw [hr]; kernel_rfl) (by rw [hr]; kernel_rfl) (by rw [hr]; kernel_rfl) (by rw [hr]; kernel_rfl) (by rw [hr]; kernel_rfl) (by rw [hr]; exact Nat.lt_of_lt_of_eq (show 0 < 2 by decide) (by kernel_rfl))) (by rw [hr]; kernel_rfl) (by rw [hr]; first | rfl | kernel_rfl) rfl rfl
theorem word_12 {l t : List Nat} {n c : Nat} (hc : Nx c) (hr : l.drop n = [61, 62] ++ c :: t) : Rd l n (wKd 12) (wTold 12) (wPV 12) 2 := by
  have hj := dropj hr
  rcases hc with rfl | rfl | rfl | rfl
  all_goals exact Rd.cast (Rd.sym (k := 2) (by rw [hr]; kernel_rfl) (by rw [hr]; kernel_rfl) (by rw [hr]; kernel_rfl) (by rw [hr]; kernel_rfl) (by rw [hr]; kernel_rfl) (by rw [hr]; kernel_rfl) (by rw [hr]; kernel_rfl) (by rw [hr]; exact Nat.lt_of_lt_of_eq (show 0 < 2 by decide) (by kernel_rfl))) (by rw [hr]; kernel_rfl) (by rw [hr]; first | rfl | kernel_rfl) rfl rfl
theorem word_13 {l t : List Nat} {n c : Nat} (hc : Nx c) (hr : l.drop n = [40] ++ c :: t) : Rd l n (wKd 13) (wTold 13) (wPV 13) 1 := by
  have hj := dropj hr
  rcases hc with rfl | rfl | rfl | rfl
  all_goals exact Rd.cast (Rd.special (by rw [hr]; kernel_rfl) (by rw [hr]; kernel_rfl)) rfl (by rw [hr]; first | rfl | kernel_rfl) rfl rfl
theorem word_14 {l t : List Nat} {n c : Nat} (hc : Nx c) (hr : l.drop n = [96] ++ c :: t) : Rd l n (wKd 14) (wTold 14) (wPV 14) 1 := by
  have hj := dropj hr
  rcases hc with rfl | rfl | rfl | rfl
  all_goals exact Rd.cast (Rd.special (by rw [hr]; kernel_rfl) (by rw [hr]; kernel_rfl)) rfl (by rw [hr]; first | rfl | kernel_rfl) rfl rfl
theorem word_15 {l t : List Nat} {n c : Nat} (hc : Nx c) (hr : l.drop n = [125] ++ c :: t) : Rd l n (wKd 15) (wTold 15) (wPV 15) 1 := by
  have hj := dropj hr
  rcases hc with rfl | rfl | rfl | rfl
  all_goals exact Rd.cast (Rd.special (by rw [hr]; kernel_rfl) (by rw [hr]; kernel_rfl)) rfl (by rw [hr]; first | rfl | kernel_rfl) rfl rfl
theorem word_16 {l t : List Nat} {n c : Nat} (hc : Nx c) (hr : l.drop n = [99, 97, 115, 101, 115] ++ c :: t) : Rd l n (wKd 16) (wTold 16) (wPV 16) 5 := by
  have hj := dropj hr
  rcases hc with rfl | rfl | rfl | rfl
  all_goals exact Rd.cast (Rd.var (k := 5) (by rw [hr]; kernel_rfl) (by rw [hr]; kernel_rfl) (by rw [hr]; kernel_rfl) (by rw [hr]; kernel_rfl) (by rw [hr]; kernel_rfl) (by rw [hr]; kernel_rfl)) rfl (by rw [hr]; first | rfl | kernel_rfl) rfl rfl
theorem word_17 {l t : List Nat} {n c : Nat} (hc : Nx c) (hr : l.drop n = [77, 46, 120] ++ c :: t) : Rd l n (wKd 17) (wTold 17) (wPV 17) 3 := by
  have hj := dropj hr
  rcases hc with rfl | rfl | rfl | rfl
  all_goals exact Rd.cast (Rd.great (by rw [hr]; kernel_rfl) (by rw [hr]; kernel_rfl) (by rw [hr]; kernel_rfl) (by rw [hr]; kernel_rfl) (by rw [hr]; kernel_rfl) (GnOk.var (k := 1) (j := 1) (by rw [hr]; kernel_rfl) (by (try simp only [Nat.add_assoc]); rw [hj]; kernel_rfl) (by (try simp only [Nat.add_assoc]); rw [hj]; kernel_rfl))) (by (try simp only [Nat.add_assoc]); first | rfl | (rw [hj]; kernel_rfl)) (by (try simp only [Nat.add_assoc]); first | rfl | (rw [hj]; kernel_rfl)) (by rw [hr]; kernel_rfl) rfl
theorem word_18 {l t : List Nat} {n c : Nat} (hc : Nx c) (hr : l.drop n = [65, 46, 66, 46, 67] ++ c :: t) : Rd l n (wKd 18) (wTold 18) (wPV 18) 5 := by
  have hj := dropj hr
  rcases hc with rfl | rfl | rfl | rfl
  all_goals exact Rd.cast (Rd.great (by rw [hr]; kernel_rfl) (by rw [hr]; kernel_rfl) (by rw [hr]; kernel_rfl) (by rw [hr]; kernel_rfl) (by rw [hr]; kernel_rfl) (GnOk.con (k := 1) (j := 1) (i := 1) (by rw [hr]; kernel_rfl) (by (try simp only [Nat.add_assoc]); rw [hj]; kernel_rfl) (by (try simp only [Nat.add_assoc]); rw [hj]; kernel_rfl) (by (try simp only [Nat.add_assoc]); rw [hj]; kernel_rfl) (by (try simp only [Nat.add_assoc]); rw [hj]; kernel_rfl) (by (try simp only [Nat.add_assoc]); rw [hj]; kernel_rfl) (by rw [hr]; kernel_rfl) (by (try simp only [Nat.add_assoc]); rw [hj]; kernel_rfl))) (by (try simp only [Nat.add_assoc]); first | rfl | (rw [hj]; kernel_rfl)) (by (try simp only [Nat.add_assoc]); first | rfl | (rw [hj]; kernel_rfl)) (by (try simp only [Nat.add_assoc]); rw [hr, hj]; kernel_rfl) rfl
theorem word_19 {l t : List Nat} {n c : Nat} (hc : Nx c) (hr : l.drop n = [77, 46, 43, 46] ++ c :: t) : Rd l n (wKd 19) (wTold 19) (wPV 19) 4 := by
  have hj := dropj hr
  rcases hc with rfl | rfl | rfl | rfl
  all_goals exact Rd.cast (Rd.great (by rw [hr]; kernel_rfl) (by rw [hr]; kernel_rfl) (by rw [hr]; kernel_rfl) (by rw [hr]; kernel_rfl) (by rw [hr]; kernel_rfl) (GnOk.sym (k := 1) (j := 2) (by rw [hr]; kernel_rfl) (by (try simp only [Nat.add_assoc]); rw [hj]; kernel_rfl) (by (try simp only [Nat.add_assoc]); rw [hj]; exact Nat.lt_of_lt_of_eq (show 0 < 2 by decide) (by kernel_rfl)) (by (try simp only [Nat.add_assoc]); rw [hj]; kernel_rfl) (by (try simp only [Nat.add_assoc]); rw [hj]; kernel_rfl) (by (try simp only [Nat.add_assoc]); rw [hj]; exact Nat.lt_of_lt_of_eq (show 0 < 2 by decide) (by kernel_rfl)))) (by (try simp only [Nat.add_assoc]); first | rfl | (rw [hj]; kernel_rfl)) (by (try simp only [Nat.add_assoc]); first | rfl | (rw [hj]; kernel_rfl)) (by rw [hr]; kernel_rfl) rfl
theorem word_20 {l t : List Nat} {n c : Nat} (hc : Nx c) (hr : l.drop n = [77, 46, 58, 43] ++ c :: t) : Rd l n (wKd 20) (wTold 20) (wPV 20) 4 := by
  have hj := dropj hr
  rcases hc with rfl | rfl | rfl | rfl
  all_goals exact Rd.cast (Rd.great (by rw [hr]; kernel_rfl) (by rw [hr]; kernel_rfl) (by rw [hr]; kernel_rfl) (by rw [hr]; kernel_rfl) (by rw [hr]; kernel_rfl) (GnOk.sym (k := 1) (j := 2) (by rw [hr]; kernel_rfl) (by (try simp only [Nat.add_assoc]); rw [hj]; kernel_rfl) (by (try simp only [Nat.add_assoc]); rw [hj]; exact Nat.lt_of_lt_of_eq (show 0 < 2 by decide) (by kernel_rfl)) (by (try simp only [Nat.add_assoc]); rw [hj]; kernel_rfl) (by (try simp only [Nat.add_assoc]); rw [hj]; kernel_rfl) (by (try simp only [Nat.add_assoc]); rw [hj]; exact Nat.lt_of_lt_of_eq (show 0 < 2 by decide) (by kernel_rfl)))) (by (try simp only [Nat.add_assoc]); first | rfl | (rw [hj]; kernel_rfl)) (by (try simp only [Nat.add_assoc]); first | rfl | (rw [hj]; kernel_rfl)) (by rw [hr]; kernel_rfl) rfl
theorem word_21 {l t : List Nat} {n c : Nat} (hc : Nx c) (hr : l.drop n = [48, 120, 49, 70] ++ c :: t) : Rd l n (wKd 21) (wTold 21) (wPV 21) 4 := by
  have hj := dropj hr
  rcases hc with rfl | rfl | rfl | rfl
  all_goals exact Rd.cast (Rd.int (v := 31) (k := 4) (by rw [hr]; kernel_rfl) (by rw [hr]; kernel_rfl) (by rw [hr]; kernel_rfl) (by rw [hr]; exact NumOk.cast (NumOk.hex (by kernel_rfl) (by kernel_rfl) (by kernel_rfl)) (by kernel_rfl) (by kernel_rfl))) rfl (by rw [hr]; first | rfl | kernel_rfl) rfl rfl
theorem word_22 {l t : List Nat} {n c : Nat} (hc : Nx c) (hr : l.drop n = [48, 79, 49, 55] ++ c :: t) : Rd l n (wKd 22) (wTold 22) (wPV 22) 4 := by
  have hj := dropj hr
  rcases hc with rfl | rfl | rfl | rfl
  all_goals exact Rd.cast (Rd.int (v := 15) (k := 4) (by rw [hr]; kernel_rfl) (by rw [hr]; kernel_rfl) (by rw [hr]; kernel_rfl) (by rw [hr]; exact NumOk.cast (NumOk.oct (by kernel_rfl) (by kernel_rfl) (by kernel_rfl)) (by kernel_rfl) (by kernel_rfl))) rfl (by rw [hr]; first | rfl | kernel_rfl) rfl rfl
theorem word_23 {l t : List Nat} {n c : Nat} (hc : Nx c) (hr : l.drop n = [49, 50, 48] ++ c :: t) : Rd l n (wKd 23) (wTold 23) (wPV 23) 3 := by
  have hj := dropj hr
  rcases hc with rfl | rfl | rfl | rfl
  all_goals exact Rd.cast (Rd.int (v := 120) (k := 3) (by rw [hr]; kernel_rfl) (by rw [hr]; kernel_rfl) (by rw [hr]; kernel_rfl) (by rw [hr]; exact NumOk.cast (NumOk.dec (by kernel_rfl)) (by kernel_rfl) (by kernel_rfl))) rfl (by rw [hr]; first | rfl | kernel_rfl) rfl rfl
theorem word_24 {l t : List Nat} {n c : Nat} (hc : Nx c) (hr : l.drop n = [39, 92, 110, 39] ++ c :: t) : Rd l n (wKd 24) (wTold 24) (wPV 24) 4 := by
  have hj := dropj hr
  rcases hc with rfl | rfl | rfl | rfl
  all_goals exact Rd.cast (Rd.char (k := 4) (by rw [hr]; kernel_rfl) (ChOk.esc (by (try simp only [Nat.add_assoc]); rw [hj]; kernel_rfl) (EscOk.nl (by (try simp only [Nat.add_assoc]); rw [hj]; kernel_rfl)) (by (try simp only [Nat.add_assoc]); rw [hj]; kernel_rfl))) rfl (by rw [hr]; first | rfl | kernel_rfl) (by kernel_rfl) rfl
theorem word_25 {l t : List Nat} {n c : Nat} (hc : Nx c) (hr : l.drop n = [39, 92, 39, 39] ++ c :: t) : Rd l n (wKd 25) (wTold 25) (wPV 25) 4 := by
  have hj := dropj hr
  rcases hc with rfl | rfl | rfl | rfl
  all_goals exact Rd.cast (Rd.char (k := 4) (by rw [hr]; kernel_rfl) (ChOk.esc (by (try simp only [Nat.add_assoc]); rw [hj]; kernel_rfl) (EscOk.q1 (by (try simp only [Nat.add_assoc]); rw [hj]; kernel_rfl)) (by (try simp only [Nat.add_assoc]); rw [hj]; kernel_rfl))) rfl (by rw [hr]; first | rfl | kernel_rfl) (by kernel_rfl) rfl
theorem word_26 {l t : List Nat} {n c : Nat} (hc : Nx c) (hr : l.drop n = [34, 97, 92, 49, 48, 92, 38, 57, 92, 83, 79, 72, 98, 92, 83, 79, 92, 38, 72, 92, 120, 52, 49, 92, 94, 65, 92, 34, 34] ++ c :: t) : Rd l n (wKd 26) (wTold 26) (wPV 26) 29 := by
  have hj := dropj hr
  have t28 : TxOk l (n + 28) [] 1 := .done (by (try simp only [Nat.add_assoc]); rw [hj]; kernel_rfl)
  have t26 : TxOk l (n + 26) [34] 3 := .esc (c := 34) (j := 1) (k := 1) (by (try simp only [Nat.add_assoc]); rw [hj]; kernel_rfl) (by (try simp only [Nat.add_assoc]); rw [hj]; kernel_rfl) (by (try simp only [Nat.add_assoc]); rw [hj]; kernel_rfl) (.q2 (by (try simp only [Nat.add_assoc]); rw [hj]; kernel_rfl)) t28
  have t23 : TxOk l (n + 23) [1, 34] 6 := .esc (c := 1) (j := 2) (k := 3) (by (try simp only [Nat.add_assoc]); rw [hj]; kernel_rfl) (by (try simp only [Nat.add_assoc]); rw [hj]; kernel_rfl) (by (try simp only [Nat.add_assoc]); rw [hj]; kernel_rfl) (.ctl (by (try simp only [Nat.add_assoc]); rw [hj]; kernel_rfl) (by (try simp only [Nat.add_assoc]); rw [hj]; kernel_rfl) (by (try simp only [Nat.add_assoc]); rw [hj]; kernel_rfl)) t26
  have t19 : TxOk l (n + 19) [65, 1, 34] 10 := .esc (c := 65) (j := 3) (k := 6) (by (try simp only [Nat.add_assoc]); rw [hj]; kernel_rfl) (by (try simp only [Nat.add_assoc]); rw [hj]; kernel_rfl) (by (try simp only [Nat.add_assoc]); rw [hj]; kernel_rfl) (EscOk.cast (.hex (v := 65) (by (try simp only [Nat.add_assoc]); rw [hj]; kernel_rfl) (by (try simp only [Nat.add_assoc]); rw [hj]; kernel_rfl) (by (try simp only [Nat.add_assoc]); rw [hj]; kernel_rfl) (by decide) (by decide)) rfl (by (try simp only [Nat.add_assoc]); rw [hj]; kernel_rfl)) t23
  have t18 : TxOk l (n + 18) [72, 65, 1, 34] 11 := .plain (c := 72) (by (try simp only [Nat.add_assoc]); rw [hj]; kernel_rfl) (by (try simp only [Nat.add_assoc]); rw [hj]; kernel_rfl) (by (try simp only [Nat.add_assoc]); rw [hj]; kernel_rfl) (by (try simp only [Nat.add_assoc]); rw [hj]; kernel_rfl) t19
  have t16 : TxOk l (n + 16) [72, 65, 1, 34] 13 := .amp (by (try simp only [Nat.add_assoc]); rw [hj]; kernel_rfl) (by (try simp only [Nat.add_assoc]); rw [hj]; kernel_rfl) t18
  have t13 : TxOk l (n + 13) [14, 72, 65, 1, 34] 16 := .esc (c := 14) (j := 2) (k := 13) (by (try simp only [Nat.add_assoc]); rw [hj]; kernel_rfl) (by (try simp only [Nat.add_assoc]); rw [hj]; kernel_rfl) (by (try simp only [Nat.add_assoc]); rw [hj]; kernel_rfl) (EscOk.cast (.named (b := Str.ofString "SO") (i := 14) (by (try simp only [Nat.add_assoc]); rw [hj]; kernel_rfl) (by (try simp only [Nat.add_assoc]); rw [hj]; kernel_rfl) (by (try simp only [Nat.add_assoc]); rw [hj]; kernel_rfl)) rfl (by kernel_rfl)) t16
  have t12 : TxOk l (n + 12) [98, 14, 72, 65, 1, 34] 17 := .plain (c := 98) (by (try simp only [Nat.add_assoc]); rw [hj]; kernel_rfl) (by (try simp only [Nat.add_assoc]); rw [hj]; kernel_rfl) (by (try simp only [Nat.add_assoc]); rw [hj]; kernel_rfl) (by (try simp only [Nat.add_assoc]); rw [hj]; kernel_rfl) t13
  have t8 : TxOk l (n + 8) [1, 98, 14, 72, 65, 1, 34] 21 := .esc (c := 1) (j := 3) (k := 17) (by (try simp only [Nat.add_assoc]); rw [hj]; kernel_rfl) (by (try simp only [Nat.add_assoc]); rw [hj]; kernel_rfl) (by (try simp only [Nat.add_assoc]); rw [hj]; kernel_rfl) (EscOk.cast (.named (b := Str.ofString "SOH") (i := 1) (by (try simp only [Nat.add_assoc]); rw [hj]; kernel_rfl) (by (try simp only [Nat.add_assoc]); rw [hj]; kernel_rfl) (by (try simp only [Nat.add_assoc]); rw [hj]; kernel_rfl)) rfl (by kernel_rfl)) t12
  have t7 : TxOk l (n + 7) [57, 1, 98, 14, 72, 65, 1, 34] 22 := .plain (c := 57) (by (try simp only [Nat.add_assoc]); rw [hj]; kernel_rfl) (by (try simp only [Nat.add_assoc]); rw [hj]; kernel_rfl) (by (try simp only [Nat.add_assoc]); rw [hj]; kernel_rfl) (by (try simp only [Nat.add_assoc]); rw [hj]; kernel_rfl) t8
  have t5 : TxOk l (n + 5) [57, 1, 98, 14, 72, 65, 1, 34] 24 := .amp (by (try simp only [Nat.add_assoc]); rw [hj]; kernel_rfl) (by (try simp only [Nat.add_assoc]); rw [hj]; kernel_rfl) t7
  have t2 : TxOk l (n + 2) [10, 57, 1, 98, 14, 72, 65, 1, 34] 27 := .esc (c := 10) (j := 2) (k := 24) (by (try simp only [Nat.add_assoc]); rw [hj]; kernel_rfl) (by (try simp only [Nat.add_assoc]); rw [hj]; kernel_rfl) (by (try simp only [Nat.add_assoc]); rw [hj]; kernel_rfl) (EscOk.cast (.dec (v := 10) (by (try simp only [Nat.add_assoc]); rw [hj]; kernel_rfl) (by (try simp only [Nat.add_assoc]); rw [hj]; kernel_rfl) (by decide) (by decide)) rfl (by (try simp only [Nat.add_assoc]); rw [hj]; kernel_rfl)) t5
  have t1 : TxOk l (n + 1) [97, 10, 57, 1, 98, 14, 72, 65, 1, 34] 28 := .plain (c := 97) (by (try simp only [Nat.add_assoc]); rw [hj]; kernel_rfl) (by (try simp only [Nat.add_assoc]); rw [hj]; kernel_rfl) (by (try simp only [Nat.add_assoc]); rw [hj]; kernel_rfl) (by (try simp only [Nat.add_assoc]); rw [hj]; kernel_rfl) t2
  exact Rd.cast (Rd.text (by rw [hr]; kernel_rfl) t1 (by decide)) rfl (by rw [hr]; first | rfl | kernel_rfl) (by kernel_rfl) rfl
theorem rg_P2_48 : True := by
  k_with_none
  k_with "all" => assumption
  k_with "enter" => (refine' code_def ?enk1 ?enk2 ?enk3 ?enk4 ?enk5 ?enkA ?enkF ?enkK ?enk6 ?enk7 ?enk8 ?enk9 ?enkB ?_ ?enc2 ?enc3 ?enc4 ?enc5; (case enkA => exact rfl); (case enkF => exact rfl); (case enkK => first | exact rfl | assumption); (case enk1 => k_asm); (case enk2 => k_asm); (case enk3 => k_asm); (case enk4 => k_asm); (case enk5 => k_asm); (case enk6 => k_is); (case enk7 => k_is); (case enk8 => ktr_room); (case enk9 => first | exact BindsTo.of_eq rfl | exact binds_K (by k_in) rfl (by k_is) rfl rfl rfl); (case enc5 => decide); (case enkB => exact locs rfl); (case enc2 => exact rfl); (case enc3 => exact rfl); (case enc4 => exact rfl); k_whole; intro g' L' h' FG' F' N' B' X' T'; (try dsimp only); (try k_fold))
  k_with "my leaving ref" => (k_here; k_dflt (first | (refine leave_onR (by assumption) (by k_asm) (by k_asm) (by k_asm) ?_; k_whole; intro h' R' _ U'; (try dsimp only)) | (refine leave_we (by k_asm) (by k_asm) (by k_asm) ?_ (by exact rfl); k_whole; intro h' R' U'; (try dsimp only))))
  k_with "all" => first | assumption | exact List.forall_mem_nil _ | (refine off_cons (by k_asm) (by k_mem) (by k_mem) (by (intro e; have e9 := congrArg Obj.cls e; first | (simp at e9; done) | ((rename Obj.cls _ = Value.type "tuple_iterator" => hc9); rw [hc9] at e9; simp at e9; done))) (by k_all)) | (refine List.forall_mem_cons.mpr ⟨(by first | assumption | k_ne), (by k_all)⟩) | (refine List.forall_mem_append.mpr ⟨(by k_all), (by k_all)⟩)
  k_with "room" => ((have hcL9 := cLine_is); (simp only [units_in1, units_deeper, Around.mark_units, units_caller]); (try dsimp only [ktrTop]); omega)
  exact trivial
theorem start_w {t : List Nat} {c : Nat} (hc : Nx c) : ∀ i, i < 27 → Start (wCodes i ++ c :: t)
  | 0, _ => by rcases hc with rfl | rfl | rfl | rfl <;> exact ⟨by kernel_rfl, by kernel_rfl, by kernel_rfl⟩
  | 1, _ => by rcases hc with rfl | rfl | rfl | rfl <;> exact ⟨by kernel_rfl, by kernel_rfl, by kernel_rfl⟩
  | 2, _ => by rcases hc with rfl | rfl | rfl | rfl <;> exact ⟨by kernel_rfl, by kernel_rfl, by kernel_rfl⟩
  | 3, _ => by rcases hc with rfl | rfl | rfl | rfl <;> exact ⟨by kernel_rfl, by kernel_rfl, by kernel_rfl⟩
  | 4, _ => by rcases hc with rfl | rfl | rfl | rfl <;> exact ⟨by kernel_rfl, by kernel_rfl, by kernel_rfl⟩
  | 5, _ => by rcases hc with rfl | rfl | rfl | rfl <;> exact ⟨by kernel_rfl, by kernel_rfl, by kernel_rfl⟩
  | 6, _ => by rcases hc with rfl | rfl | rfl | rfl <;> exact ⟨by kernel_rfl, by kernel_rfl, by kernel_rfl⟩
  | 7, _ => by rcases hc with rfl | rfl | rfl | rfl <;> exact ⟨by kernel_rfl, by kernel_rfl, by kernel_rfl⟩
  | 8, _ => by rcases hc with rfl | rfl | rfl | rfl <;> exact ⟨by kernel_rfl, by kernel_rfl, by kernel_rfl⟩
  | 9, _ => by rcases hc with rfl | rfl | rfl | rfl <;> exact ⟨by kernel_rfl, by kernel_rfl, by kernel_rfl⟩
  | 10, _ => by rcases hc with rfl | rfl | rfl | rfl <;> exact ⟨by kernel_rfl, by kernel_rfl, by kernel_rfl⟩
  | 11, _ => by rcases hc with rfl | rfl | rfl | rfl <;> exact ⟨by kernel_rfl, by kernel_rfl, by kernel_rfl⟩
  | 12, _ => by rcases hc with rfl | rfl | rfl | rfl <;> exact ⟨by kernel_rfl, by kernel_rfl, by kernel_rfl⟩
  | 13, _ => by rcases hc with rfl | rfl | rfl | rfl <;> exact ⟨by kernel_rfl, by kernel_rfl, by kernel_rfl⟩
  | 14, _ => by rcases hc with rfl | rfl | rfl | rfl <;> exact ⟨by kernel_rfl, by kernel_rfl, by kernel_rfl⟩
  | 15, _ => by rcases hc with rfl | rfl | rfl | rfl <;> exact ⟨by kernel_rfl, by kernel_rfl, by kernel_rfl⟩
  | 16, _ => by rcases hc with rfl | rfl | rfl | rfl <;> exact ⟨by kernel_rfl, by kernel_rfl, by kernel_rfl⟩
  | 17, _ => by rcases hc with rfl | rfl | rfl | rfl <;> exact ⟨by kernel_rfl, by kernel_rfl, by kernel_rfl⟩
  | 18, _ => by rcases hc with rfl | rfl | rfl | rfl <;> exact ⟨by kernel_rfl, by kernel_rfl, by kernel_rfl⟩
  | 19, _ => by rcases hc with rfl | rfl | rfl | rfl <;> exact ⟨by kernel_rfl, by kernel_rfl, by kernel_rfl⟩
  | 20, _ => by rcases hc with rfl | rfl | rfl | rfl <;> exact ⟨by kernel_rfl, by kernel_rfl, by kernel_rfl⟩
  | 21, _ => by rcases hc with rfl | rfl | rfl | rfl <;> exact ⟨by kernel_rfl, by kernel_rfl, by kernel_rfl⟩
  | 22, _ => by rcases hc with rfl | rfl | rfl | rfl <;> exact ⟨by kernel_rfl, by kernel_rfl, by kernel_rfl⟩
  | 23, _ => by rcases hc with rfl | rfl | rfl | rfl <;> exact ⟨by kernel_rfl, by kernel_rfl, by kernel_rfl⟩
  | 24, _ => by rcases hc with rfl | rfl | rfl | rfl <;> exact ⟨by kernel_rfl, by kernel_rfl, by kernel_rfl⟩
  | 25, _ => by rcases hc with rfl | rfl | rfl | rfl <;> exact ⟨by kernel_rfl, by kernel_rfl, by kernel_rfl⟩
  | 26, _ => by rcases hc with rfl | rfl | rfl | rfl <;> exact ⟨by kernel_rfl, by kernel_rfl, by kernel_rfl⟩
  | n + 27, h => absurd h (by omega)
theorem word_w {l t : List Nat} {n c : Nat} (hc : Nx c) : ∀ i, i < 27 → l.drop n = wCodes i ++ c :: t → Rd l n (wKd i) (wTold i) (wPV i) (wCodes i).length
  | 0, _, hr => word_0 hc hr
  | 1, _, hr => word_1 hc hr
  | 2, _, hr => word_2 hc hr
  | 3, _, hr => word_3 hc hr
  | 4, _, hr => word_4 hc hr
  | 5, _, hr => word_5 hc hr
  | 6, _, hr => word_6 hc hr
  | 7, _, hr => word_7 hc hr
  | 8, _, hr => word_8 hc hr
  | 9, _, hr => word_9 hc hr
  | 10, _, hr => word_10 hc hr
  | 11, _, hr => word_11 hc hr
  | 12, _, hr => word_12 hc hr
  | 13, _, hr => word_13 hc hr
  | 14, _, hr => word_14 hc hr
  | 15, _, hr => word_15 hc hr
  | 16, _, hr => word_16 hc hr
  | 17, _, hr => word_17 hc hr
  | 18, _, hr => word_18 hc hr
  | 19, _, hr => word_19 hc hr
  | 20, _, hr => word_20 hc hr
  | 21, _, hr => word_21 hc hr
  | 22, _, hr => word_22 hc hr
  | 23, _, hr => word_23 hc hr
  | 24, _, hr => word_24 hc hr
  | 25, _, hr => word_25 hc hr
  | 26, _, hr => word_26 hc hr
  | n + 27, h, _ => absurd h (by omega)
theorem kd_w : ∀ i, i < 27 → (wKd i != Str.ofString "end") = true := by decide +kernel
noncomputable def mvs (x : List Nat) (p : Int × Int) : Int × Int := x.foldl (fun p c => mv (some c) p) p
theorem posAt_mvs : ∀ (x : List Nat) {l r : List Nat} {n : Nat}, l.drop n = x ++ r → posAt l (n + x.length) = mvs x (posAt l n)
  | [], _, _, _, _ => rfl
  | c :: x, l, r, n, h => by
    have h0 : l[n]? = some c := by
      have := congrArg (fun z => z[0]?) h
      simpa [List.getElem?_drop] using this
    have h1 : l.drop (n + 1) = x ++ r := by rw [← List.drop_drop, h]; rfl
    have e : n + (c :: x).length = (n + 1) + x.length := by rw [List.length_cons]; omega
    rw [e, posAt_mvs x h1]
    show mvs x (mv l[n]? (posAt l n)) = _
    rw [h0]; rfl
noncomputable def hasNl (b : Nat) : Bool := (bCodes b).contains 10
theorem line_btw (p : Int × Int) : ∀ b, b < 9 → decide (p.1 < (mvs (bCodes b) p).1) = hasNl b
  | 0, _ => decide_eq_false (by show ¬ p.1 < p.1; omega)
  | 1, _ => decide_eq_true (by show p.1 < p.1 + 1; omega)
  | 2, _ => decide_eq_true (by show p.1 < p.1 + 1; omega)
  | 3, _ => decide_eq_false (by show ¬ p.1 < p.1; omega)
  | 4, _ => decide_eq_false (by show ¬ p.1 < p.1; omega)
  | 5, _ => decide_eq_true (by show p.1 < p.1 + 1; omega)
  | 6, _ => decide_eq_true (by show p.1 < p.1 + 1; omega)
  | 7, _ => decide_eq_false (by show ¬ p.1 < p.1; omega)
  | 8, _ => decide_eq_true (by show p.1 < p.1 + 1 + 1; omega)
  | n + 9, h => absurd h (by omega)
theorem btw_head (r : List Nat) : ∀ b, b < 9 → ∃ c t, bCodes b ++ r = c :: t ∧ Nx c
  | 0, _ => ⟨_, _, rfl, .inl rfl⟩
  | 1, _ => ⟨_, _, rfl, .inr (.inl rfl)⟩
  | 2, _ => ⟨_, _, rfl, .inr (.inl rfl)⟩
  | 3, _ => ⟨_, _, rfl, .inr (.inr (.inl rfl))⟩
  | 4, _ => ⟨_, _, rfl, .inl rfl⟩
  | 5, _ => ⟨_, _, rfl, .inl rfl⟩
  | 6, _ => ⟨_, _, rfl, .inr (.inr (.inr rfl))⟩
  | 7, _ => ⟨_, _, rfl, .inr (.inr (.inr rfl))⟩
  | 8, _ => ⟨_, _, rfl, .inr (.inl rfl)⟩
  | n + 9, h => absurd h (by omega)
noncomputable abbrev Dr := Nat × Nat
noncomputable def dText : List Dr → List Nat
  | [] => []
  | x :: r => bCodes x.1 ++ (wCodes x.2 ++ dText r)
noncomputable def dDue : List Dr → Nat → Int × Int → Bool → List Wd
  | [], b, p, f => [⟨Str.ofString "end", Str.ofString "", .none, (mvs (bCodes b) p).1, (mvs (bCodes b) p).2, f || hasNl b⟩]
  | x :: r, b, p, f => ⟨wKd x.2, wTold x.2, wPV x.2, (mvs (bCodes x.1) p).1, (mvs (bCodes x.1) p).2, f || hasNl x.1⟩ :: dDue r b (mvs (wCodes x.2) (mvs (bCodes x.1) p)) false
theorem Wd_eq {l : List Nat} {n k b : Nat} {f : Bool} {kd tx : Str} {pv : PV} (hb : b < 9) (hp : posAt l (n + k) = mvs (bCodes b) (posAt l n)) :
    (⟨kd, tx, pv, (posAt l (n + k)).1, (posAt l (n + k)).2, decide ((posAt l n).1 < (posAt l (n + k)).1) || f⟩ : Wd) = ⟨kd, tx, pv, (mvs (bCodes b) (posAt l n)).1, (mvs (bCodes b) (posAt l n)).2, f || hasNl b⟩ := by
  rw [hp, line_btw _ b hb, Bool.or_comm]
theorem skp_of {m : Nat} {r : List Nat} {ρ : Option Nat} (h : SkpAt m r ρ) (hm : m ≤ 64) : skp 64 r = some ρ := by
  have := sk_mono h hm 0
  rwa [Nat.zero_add] at this
theorem dText_head (ds : List Dr) (b : Nat) (hb : b < 9) (hd : ∀ x ∈ ds, x.1 < 9 ∧ x.2 < 27) (r : List Nat) : ∃ c t, dText ds ++ (bCodes b ++ r) = c :: t ∧ Nx c := by
  cases ds with
  | nil => exact btw_head r b hb
  | cons x ds =>
    show ∃ c t, (bCodes x.1 ++ (wCodes x.2 ++ dText ds)) ++ (bCodes b ++ r) = c :: t ∧ Nx c
    rw [List.append_assoc]
    exact btw_head _ x.1 (hd x (.head _)).1
theorem lex_all {l : List Nat} {b : Nat} (hb : b < 9) : ∀ (ds : List Dr) {n : Nat} (f : Bool), (∀ x ∈ ds, x.1 < 9 ∧ x.2 < 27) → l.drop n = dText ds ++ (bCodes b ++ []) → Lex l n f (dDue ds b (posAt l n) f)
  | [], n, f, _, h => by
    have h : l.drop n = bCodes b ++ [] := h
    have hs := skp_of (sk_btw (sk_start (r := []) ⟨rfl, rfl, by kernel_rfl⟩) b hb) (by decide)
    rw [← h] at hs
    have hp := posAt_mvs _ h
    refine Lex.cast (Lex.fin (k := 0 + (bCodes b).length) hs (.fin ?_)) rfl ?_
    · rw [Nat.zero_add, dropj h, List.drop_left]; kernel_rfl
    · rw [Nat.zero_add, Wd_eq hb hp]; rfl
  | x :: ds, n, f, hd, h => by
    have hx := hd x (.head _)
    have h : l.drop n = (bCodes x.1 ++ (wCodes x.2 ++ dText ds)) ++ (bCodes b ++ []) := h
    rw [List.append_assoc, List.append_assoc] at h
    obtain ⟨c, t, e, hc⟩ := dText_head ds b hb (fun y hy => hd y (.tail _ hy)) []
    rw [e] at h
    have hs := skp_of (sk_btw (sk_start (start_w (t := t) hc x.2 hx.2)) x.1 hx.1) (by decide)
    rw [← h] at hs
    have hp := posAt_mvs _ h
    have h2 : l.drop (n + (bCodes x.1).length) = wCodes x.2 ++ c :: t := by rw [dropj h, List.drop_left]
    have hw := word_w hc x.2 hx.2 h2
    have h3 : l.drop (n + (bCodes x.1).length + (wCodes x.2).length) = dText ds ++ (bCodes b ++ []) := by rw [dropj h2, List.drop_left, e]
    have hp2 := posAt_mvs _ h2
    have ih := lex_all hb ds false (fun y hy => hd y (.tail _ hy)) h3
    have e0 : n + (0 + (bCodes x.1).length) = n + (bCodes x.1).length := by rw [Nat.zero_add]
    refine Lex.cast (Lex.word (k := 0 + (bCodes x.1).length) (b := f) hs (by rw [e0]; exact hw) (kd_w x.2 hx.2) (by rw [e0]; exact ih)) rfl ?_
    rw [Nat.zero_add, Wd_eq hx.1 hp, hp2, hp]; rfl
noncomputable def wrCodes : Nat → List Nat
  | 0 => [39, 97, 98, 39]
  | 1 => [39, 39]
  | 2 => [39, 92, 113, 39]
  | 3 => [34, 97]
  | 4 => [34, 97, 10, 34]
  | 5 => [123, 45, 32, 123, 45, 32, 45, 125]
  | 6 => [1]
  | 7 => [39, 97]
  | _ => [34, 92, 49, 49, 49, 52, 49, 49, 50, 34]
theorem start_wr : ∀ j, j < 9 → j ≠ 5 → Start (wrCodes j) := by
  unfold Start
  decide +kernel
theorem wr5 : SkpAt 1 (wrCodes 5) none := fun f => by
  show skp (f + 1) (wrCodes 5) = _
  rw [skp_3 (by kernel_rfl) (by kernel_rfl) (by kernel_rfl), show nest 64 0 (wrCodes 5) = some none by kernel_rfl]
theorem bad_wr {l : List Nat} {n : Nat} : ∀ j, j < 9 → j ≠ 5 → l.drop n = wrCodes j → RdBad l n
  | 0, _, _, hr => have hj := dropj hr; .char (by rw [hr]; kernel_rfl) (.long (by (try simp only [Nat.add_assoc]); rw [hj]; kernel_rfl) (by (try simp only [Nat.add_assoc]); rw [hj]; kernel_rfl))
  | 1, _, _, hr => have hj := dropj hr; .char (by rw [hr]; kernel_rfl) (.quote (by (try simp only [Nat.add_assoc]); rw [hj]; kernel_rfl))
  | 2, _, _, hr => have hj := dropj hr; .char (by rw [hr]; kernel_rfl) (.esc (by (try simp only [Nat.add_assoc]); rw [hj]; kernel_rfl) (.q (b := Str.ofString "") (by (try simp only [Nat.add_assoc]); rw [hj]; kernel_rfl) (by (try simp only [Nat.add_assoc]); rw [hj]; kernel_rfl) (by (try simp only [Nat.add_assoc]); rw [hj]; kernel_rfl)))
  | 3, _, _, hr => have hj := dropj hr; .text (by rw [hr]; kernel_rfl) (.plain (by (try simp only [Nat.add_assoc]); rw [hj]; kernel_rfl) (by (try simp only [Nat.add_assoc]); rw [hj]; kernel_rfl) (by (try simp only [Nat.add_assoc]); rw [hj]; kernel_rfl) (.fin (by (try simp only [Nat.add_assoc]); rw [hj]; kernel_rfl))) (by decide)
  | 4, _, _, hr => have hj := dropj hr; .text (by rw [hr]; kernel_rfl) (.plain (by (try simp only [Nat.add_assoc]); rw [hj]; kernel_rfl) (by (try simp only [Nat.add_assoc]); rw [hj]; kernel_rfl) (by (try simp only [Nat.add_assoc]); rw [hj]; kernel_rfl) (.nl (by (try simp only [Nat.add_assoc]); rw [hj]; kernel_rfl))) (by decide)
  | 5, _, h5, _ => absurd rfl h5
  | 6, _, _, hr => have hj := dropj hr; .sign (by rw [hr]; kernel_rfl)
  | 7, _, _, hr => have hj := dropj hr; .char (by rw [hr]; kernel_rfl) (.long (by (try simp only [Nat.add_assoc]); rw [hj]; kernel_rfl) (by (try simp only [Nat.add_assoc]); rw [hj]; kernel_rfl))
  | 8, _, _, hr => have hj := dropj hr; .text (by rw [hr]; kernel_rfl) (.esc (by (try simp only [Nat.add_assoc]); rw [hj]; kernel_rfl) (by (try simp only [Nat.add_assoc]); rw [hj]; kernel_rfl) (by (try simp only [Nat.add_assoc]); rw [hj]; kernel_rfl) (.big (v := 1114112) (by (try simp only [Nat.add_assoc]); rw [hj]; kernel_rfl) (by (try simp only [Nat.add_assoc]); rw [hj]; kernel_rfl) (by decide))) (by decide)
  | n + 9, h, _, _ => absurd h (by omega)
theorem lexbad_all {l : List Nat} {b j : Nat} (hb : b < 9) (hj : j < 9) : ∀ (ds : List Dr) {n : Nat}, (∀ x ∈ ds, x.1 < 9 ∧ x.2 < 27) → l.drop n = dText ds ++ (bCodes b ++ 32 :: wrCodes j) → LexBad l n ds.length
  | [], n, _, h => by
    have h : l.drop n = bCodes b ++ 32 :: wrCodes j := h
    by_cases h5 : j = 5
    · subst h5
      have hs := skp_of (sk_btw (sk_blank (c := 32) wr5 (by kernel_rfl)) b hb) (by decide)
      rw [← h] at hs
      exact .skip hs
    · have hs := skp_of (sk_btw (sk_blank (c := 32) (sk_start (start_wr j hj h5)) (by kernel_rfl)) b hb) (by decide)
      rw [← h] at hs
      refine .read (k := 0 + 1 + (bCodes b).length) hs (bad_wr j hj h5 ?_)
      rw [Nat.zero_add, Nat.add_comm 1, ← Nat.add_assoc, ← List.drop_drop, dropj h, List.drop_left]; rfl
  | x :: ds, n, hd, h => by
    have hx := hd x (.head _)
    have h : l.drop n = (bCodes x.1 ++ (wCodes x.2 ++ dText ds)) ++ (bCodes b ++ 32 :: wrCodes j) := h
    rw [List.append_assoc, List.append_assoc] at h
    obtain ⟨c, t, e, hc⟩ := dText_head ds b hb (fun y hy => hd y (.tail _ hy)) (32 :: wrCodes j)
    rw [e] at h
    have hs := skp_of (sk_btw (sk_start (start_w (t := t) hc x.2 hx.2)) x.1 hx.1) (by decide)
    rw [← h] at hs
    have h2 : l.drop (n + (bCodes x.1).length) = wCodes x.2 ++ c :: t := by rw [dropj h, List.drop_left]
    have hw := word_w hc x.2 hx.2 h2
    have h3 : l.drop (n + (bCodes x.1).length + (wCodes x.2).length) = dText ds ++ (bCodes b ++ 32 :: wrCodes j) := by rw [dropj h2, List.drop_left, e]
    have ih := lexbad_all hb hj ds (fun y hy => hd y (.tail _ hy)) h3
    have e0 : n + (0 + (bCodes x.1).length) = n + (bCodes x.1).length := by rw [Nat.zero_add]
    exact LexBad.word (k := 0 + (bCodes x.1).length) hs (by rw [e0]; exact hw) (kd_w x.2 hx.2) (by rw [e0]; exact ih)
theorem rg_N8_49 : True := by
  k_with_none
  k_with "all" => assumption
  k_with "enter" => (refine' code_def ?enk1 ?enk2 ?enk3 ?enk4 ?enk5 ?enkA ?enkF ?enkK ?enk6 ?enk7 ?enk8 ?enk9 ?enkB ?_ ?enc2 ?enc3 ?enc4 ?enc5; (case enkA => exact rfl); (case enkF => exact rfl); (case enkK => first | exact rfl | assumption); (case enk1 => k_asm); (case enk2 => k_asm); (case enk3 => k_asm); (case enk4 => k_asm); (case enk5 => k_asm); (case enk6 => k_is); (case enk7 => k_is); (case enk8 => ktr_room); (case enk9 => first | exact BindsTo.of_eq rfl | exact binds_K (by k_in) rfl (by k_is) rfl rfl rfl); (case enc5 => decide); (case enkB => exact locs rfl); (case enc2 => exact rfl); (case enc3 => exact rfl); (case enc4 => exact rfl); k_whole; intro g' L' h' FG' F' N' B' X' T'; (try dsimp only); (try k_fold))
  k_with "my leaving ref" => (k_here; k_dflt (first | (refine leave_onR (by assumption) (by k_asm) (by k_asm) (by k_asm) ?_; k_whole; intro h' R' _ U'; (try dsimp only)) | (refine leave_we (by k_asm) (by k_asm) (by k_asm) ?_ (by exact rfl); k_whole; intro h' R' U'; (try dsimp only))))
  k_with "all" => first | assumption | exact List.forall_mem_nil _ | (refine off_cons (by k_asm) (by k_mem) (by k_mem) (by (intro e; have e9 := congrArg Obj.cls e; first | (simp at e9; done) | ((rename Obj.cls _ = Value.type "tuple_iterator" => hc9); rw [hc9] at e9; simp at e9; done))) (by k_all)) | (refine List.forall_mem_cons.mpr ⟨(by first | assumption | k_ne), (by k_all)⟩) | (refine List.forall_mem_append.mpr ⟨(by k_all), (by k_all)⟩)
  k_with "room" => ((have hcL9 := cLine_is); (simp only [units_in1, units_deeper, Around.mark_units, units_caller]); (try dsimp only [ktrTop]); omega)
  exact trivial
theorem while_u {σ : Type} {prog : Program} {w : World} {A : Around} {E : Value → Shared → Prop} {Q : Flow → Shared → Prop} {s : Shared} {env : Env} {h₀ : Heap} {L : Addr} {test : Expr} {body : List Stmt} {pos : Pos} {u₀ : Str → Option Value}
    (I : σ → (Str → Option Value) → Prop) (μ : σ → Nat) (nw : σ → List (Addr × Obj)) (x₀ : σ)
    (F : Fr h₀ L s.heap u₀) (N : News h₀ L s.heap (nw x₀)) (hI : I x₀ u₀)
    (turn : ∀ x u h₁ tk₁, Fr h₀ L h₁ u → News h₀ L h₁ (nw x) → I x u →
      wpAny (model prog w) A (isTrue test env (eval test env)) (fun b s₂ =>
        if b = true then wpAny (model prog w) A (execs body env) (TurnEnd (σ := σ × (Str → Option Value)) h₀ L s (fun y => I y.1 y.2) (fun y => μ y.1) (fun y => y.2) (fun y => nw y.1) Q (x, u)) E s₂ else Q .next s₂) E { s with heap := h₁, toks := tk₁ })
    (hE : PassesOwn (model prog w) A env E) :
    wpAny (model prog w) A (exec (.While test body [] pos) env) Q E s :=
  while_loop (σ := σ × (Str → Option Value)) (fun y => I y.1 y.2) (fun y => μ y.1) (fun y => y.2) (fun y => nw y.1) (x₀, u₀) F N hI (fun x h₁ tk₁ F₁ N₁ hx => turn x.1 x.2 h₁ tk₁ F₁ N₁ hx) hE
theorem TurnEnd.nextU {σ : Type} {h₀ : Heap} {L : Addr} {s : Shared} {I : σ → (Str → Option Value) → Prop} {μ : σ → Nat} {nw : σ → List (Addr × Obj)} {Q : Flow → Shared → Prop} {x : σ × (Str → Option Value)} {h' : Heap} {tk : Nat} {u' : Str → Option Value} (x' : σ)
    (F : Fr h₀ L h' u') (N : News h₀ L h' (nw x')) (hm : μ x' < μ x.1) (hI : I x' u') :
    TurnEnd (σ := σ × (Str → Option Value)) h₀ L s (fun y => I y.1 y.2) (fun y => μ y.1) (fun y => y.2) (fun y => nw y.1) Q x .next { s with heap := h', toks := tk } := ⟨h', tk, (x', u'), rfl, F, N, hm, hI⟩
theorem Fr_know1 {h₀ h : Heap} {L : Addr} {u : Str → Option Value} {v1 : Str} {a1 : Value} (F : Fr h₀ L h u) (e1 : u v1 = some a1) : Fr h₀ L h (fun y => if y = v1 then some a1 else u y) :=
  Fr_ext F fun y => by
    by_cases h1 : y = v1
    · rw [if_pos h1, h1, e1]
    · rw [if_neg h1]
theorem Fr_know3 {h₀ h : Heap} {L : Addr} {u : Str → Option Value} {v1 v2 v3 : Str} {a1 a2 a3 : Value} (F : Fr h₀ L h u) (e1 : u v1 = some a1) (e2 : u v2 = some a2) (e3 : u v3 = some a3) : Fr h₀ L h (fun y => if y = v1 then some a1 else if y = v2 then some a2 else if y = v3 then some a3 else u y) :=
  Fr_ext F fun y => by
    by_cases h1 : y = v1
    · rw [if_pos h1, h1, e1]
    · rw [if_neg h1]
      by_cases h2 : y = v2
      · rw [if_pos h2, h2, e2]
      · rw [if_neg h2]
        by_cases h3 : y = v3
        · rw [if_pos h3, h3, e3]
        · rw [if_neg h3]
section
variable {prog : Program} {w : World} {A : Around} {E : Value → Shared → Prop} {s : Shared} {h₀ : Heap} {L a b : Addr} {news : List (Addr × Obj)} {Q : Value → Shared → Prop}
theorem item_last {value slice : PySem.Expr} {vs : List Value} {v : Value} {k : Nat} {t : Tok} (N : News h₀ L s.heap news) (ma : (a, W.listOf (vs ++ [v]).toArray k) ∈ news) (h : Q v s)
    (hs : subscripted slice false (.ref a) (.int (-1) t) = operate [.ref a, .int (-1) t] (getItem (.ref a) (.int (-1) t)) := by with_unfolding_all rfl) :
    wpAny (model prog w) A (subscriptTail value slice (.ref a) (.int (-1) t)) Q E s := by
  have hl : s.heap.IsList a (vs ++ [v]).toArray := ⟨_, (N _ ma).1, rfl, k, rfl⟩
  refine tail_any hl.typeIs slot_list_getitem.lookup (wpAny_getItem_list_neg hl (by decide) (by simp; omega) (by decide) ?_ h) hs
  have e : (-1 + (((vs ++ [v]).toArray.size : Nat) : Int)).toNat = vs.length := by simp; omega
  rw [e]
  simp
theorem eq_empty_no {vs : List Value} {v : Value} {k kb : Nat} (N : News h₀ L s.heap news) (ma : (a, W.listOf (vs ++ [v]).toArray k) ∈ news) (mb : (b, W.listOf #[] kb) ∈ news) (hu : A.units < cLine) (h : Q (.bool false) s) :
    wpAny (model prog w) A (compareOp .Eq (.ref a) (.ref b)) Q E s :=
  P.eq_list_lengths (N _ ma).1 (N _ mb).1 (by simp) hu h
end
/-- a Word's own dict -/
noncomputable abbrev wdO (w : World) (k1 k2 k3 k4 k5 k6 t1 t2 t3 t4 t5 : Tok) (x : Wd) : Obj :=
  dictOf [⟨PyData.keyHash w.params (Str.ofString "kind"), .str (Str.ofString "kind") k1, .str x.kd t1⟩, ⟨PyData.keyHash w.params (Str.ofString "text"), .str (Str.ofString "text") k2, .str x.tx t2⟩,
    ⟨PyData.keyHash w.params (Str.ofString "line"), .str (Str.ofString "line") k3, .int x.line t3⟩, ⟨PyData.keyHash w.params (Str.ofString "column"), .str (Str.ofString "column") k4, .int x.col t4⟩,
    ⟨PyData.keyHash w.params (Str.ofString "value"), .str (Str.ofString "value") k5, pvV x.pv t5⟩, ⟨PyData.keyHash w.params (Str.ofString "is_first"), .str (Str.ofString "is_first") k6, .bool x.first⟩] 6
/-- the list's items are these words, told in the ledger -/
inductive WIn (w : World) (wl : List (Addr × Obj)) : List Value → List Wd → Prop
  | nil : WIn w wl [] []
  | cons {a dd : Addr} {k1 k2 k3 k4 k5 k6 t1 t2 t3 t4 t5 : Tok} {x : Wd} {vs : List Value} {ws : List Wd} : (a, instObj 90 dd) ∈ wl → (dd, wdO w k1 k2 k3 k4 k5 k6 t1 t2 t3 t4 t5 x) ∈ wl → WIn w wl vs ws → WIn w wl (.ref a :: vs) (x :: ws)
theorem WIn.mono {w : World} {wl wl' : List (Addr × Obj)} (hs : ∀ p ∈ wl, p ∈ wl') {vs : List Value} {ws : List Wd} (h : WIn w wl vs ws) : WIn w wl' vs ws := by
  induction h with
  | nil => exact .nil
  | cons h1 h2 _ ih => exact .cons (hs _ h1) (hs _ h2) ih
theorem WIn.snoc {w : World} {wl : List (Addr × Obj)} {vs : List Value} {ws : List Wd} (h : WIn w wl vs ws) {a dd : Addr} {k1 k2 k3 k4 k5 k6 t1 t2 t3 t4 t5 : Tok} {x : Wd} (h1 : (a, instObj 90 dd) ∈ wl) (h2 : (dd, wdO w k1 k2 k3 k4 k5 k6 t1 t2 t3 t4 t5 x) ∈ wl) :
    WIn w wl (vs ++ [.ref a]) (ws ++ [x]) := by
  induction h with
  | nil => exact .cons h1 h2 .nil
  | cons g1 g2 _ ih => exact .cons g1 g2 ih
theorem WIn.length {w : World} {wl : List (Addr × Obj)} {vs : List Value} {ws : List Wd} (h : WIn w wl vs ws) : vs.length = ws.length := by
  induction h with
  | nil => rfl
  | cons _ _ _ ih => rw [List.length_cons, List.length_cons, ih]
theorem ne_cls {h₀ h : Heap} {L d q : Addr} {o o' : Obj} {news : List (Addr × Obj)} (N : News h₀ L h news) (hp : (q, o) ∈ news) (hd : (d, o') ∈ news) (hc : o ≠ o') : q ≠ d := fun e => by
  have h1 := (N _ hp).1
  have h2 := (N _ hd).1
  have h3 : some o = some o' := h1.symm.trans ((congrArg h.get? e).trans h2)
  injection h3 with h3
  exact hc h3
structure WS where
  n : Nat
  b : Bool
  fin : Bool
  vs : List Value
  cap : Nat
  wl : List (Addr × Obj)
  dn : List Wd
  rem : List Wd
  mu : Nat
  ta : Tok
  tl : Tok
  tc : Tok
/-- what is still to be read: these words, or a word that is none -/
noncomputable def StW (l : List Nat) (wo : Option (List Wd)) (n : Nat) (b fin : Bool) (dn rem : List Wd) (mu : Nat) : Prop :=
  match wo with
  | some ws => ws = dn ++ rem ∧ mu = rem.length ∧ ((fin = false ∧ Lex l n b rem ∧ ∀ y ∈ dn, (y.kd != Str.ofString "end") = true) ∨ (fin = true ∧ rem = [] ∧ ∃ dn' y, dn = dn' ++ [y] ∧ (y.kd != Str.ofString "end") = false))
  | none => fin = false ∧ LexBad l n mu ∧ ∀ y ∈ dn, (y.kd != Str.ofString "end") = true
theorem end_end : (Str.ofString "end" != Str.ofString "end") = false := by decide +kernel
theorem StW.open {l : List Nat} {wo : Option (List Wd)} {n mu : Nat} {b : Bool} {dn rem : List Wd} (h : StW l wo n b false dn rem mu) :
    (∃ k kd tx pv j rem' mu' fin', skp 64 (l.drop n) = some (some k) ∧ Rd l (n + k) kd tx pv j ∧ mu' < mu ∧ StW l wo (n + k + j) false fin' (dn ++ [⟨kd, tx, pv, (posAt l (n + k)).1, (posAt l (n + k)).2, decide ((posAt l n).1 < (posAt l (n + k)).1) || b⟩]) rem' mu') ∨
    (wo = none ∧ skp 64 (l.drop n) = some none) ∨ (wo = none ∧ ∃ k, skp 64 (l.drop n) = some (some k) ∧ RdBad l (n + k)) := by
  cases wo with
  | some ws =>
    obtain ⟨h1, h2, h3⟩ := h
    rcases h3 with ⟨_, h3, h4⟩ | ⟨h3, _⟩
    · cases h3 with
      | fin g1 g2 => exact .inl ⟨_, _, _, _, _, [], 0, true, g1, g2, by rw [h2]; exact Nat.lt_succ_self _, by rw [h1, List.append_nil], rfl, .inr ⟨rfl, rfl, dn, _, rfl, end_end⟩⟩
      | word g1 g2 g3 g4 =>
        refine .inl ⟨_, _, _, _, _, _, _, false, g1, g2, by rw [h2]; exact Nat.lt_succ_self _, by rw [h1, List.append_assoc]; rfl, rfl, .inl ⟨rfl, g4, fun z hz => (List.mem_append.mp hz).elim (h4 z) fun h => by rw [List.mem_singleton.mp h]; exact g3⟩⟩
    · cases h3
  | none =>
    obtain ⟨_, h3, h4⟩ := h
    cases h3 with
    | skip g1 => exact .inr (.inl ⟨rfl, g1⟩)
    | read g1 g2 => exact .inr (.inr ⟨rfl, _, g1, g2⟩)
    | word g1 g2 g3 g4 => exact .inl ⟨_, _, _, _, _, [], _, false, g1, g2, Nat.lt_succ_self _, rfl, g4, fun z hz => (List.mem_append.mp hz).elim (h4 z) fun h => by rw [List.mem_singleton.mp h]; exact g3⟩
theorem StW.notend {l : List Nat} {wo : Option (List Wd)} {n mu : Nat} {b : Bool} {dn rem : List Wd} (h : StW l wo n b false dn rem mu) : ∀ y ∈ dn, (y.kd != Str.ofString "end") = true := by
  cases wo with
  | some ws =>
    rcases h.2.2 with ⟨_, _, h⟩ | ⟨h, _⟩
    · exact h
    · cases h
  | none => exact h.2.2
theorem StW.ended {l : List Nat} {wo : Option (List Wd)} {n mu : Nat} {b : Bool} {dn rem : List Wd} (h : StW l wo n b true dn rem mu) : wo = some dn ∧ ∃ dn' y, dn = dn' ++ [y] ∧ (y.kd != Str.ofString "end") = false := by
  cases wo with
  | some ws =>
    rcases h.2.2 with ⟨h, _⟩ | ⟨_, h1, h2⟩
    · cases h
    · exact ⟨by rw [h.1, h1, List.append_nil], h2⟩
  | none => cases h.1
/-- what holds between the turns of words_of -/
structure WSI (w : World) (l : List Nat) (f sg d : Addr) (news : List (Addr × Obj)) (wo : Option (List Wd)) (x : WS) (u : Str → Option Value) : Prop where
  hd0 : ∀ p ∈ news, p.1 ≠ d
  st : StW l wo x.n x.b x.fin x.dn x.rem x.mu
  sz : x.dn.length + x.mu ≤ 1000
  vals : WIn w x.wl x.vs x.dn
  un : u (Str.ofString "is_first") = some (.bool x.b)
  uf : u (Str.ofString "found") = some (.ref f)
  us : u (Str.ofString "signs") = some (.ref sg)
  od : ∀ p ∈ x.wl, p.1 ≠ d
  of : ∀ p ∈ x.wl, p.1 ≠ f
  fresh : ∀ p ∈ x.wl, ∀ q ∈ news, q.1 < p.1
theorem WIn.unsnoc {w : World} {wl : List (Addr × Obj)} {x : Wd} : ∀ {ws : List Wd} {vs : List Value}, WIn w wl vs (ws ++ [x]) → ∃ vs' a dd k1 k2 k3 k4 k5 k6 t1 t2 t3 t4 t5, vs = vs' ++ [.ref a] ∧ (a, instObj 90 dd) ∈ wl ∧ (dd, wdO w k1 k2 k3 k4 k5 k6 t1 t2 t3 t4 t5 x) ∈ wl
  | [], vs, h => by
    cases h with
    | cons h1 h2 h3 => cases h3; exact ⟨[], _, _, _, _, _, _, _, _, _, _, _, _, _, rfl, h1, h2⟩
  | y :: ws, vs, h => by
    cases h with
    | cons h1 h2 h3 =>
      obtain ⟨vs', a, dd, k1, k2, k3, k4, k5, k6, t1, t2, t3, t4, t5, e, g1, g2⟩ := WIn.unsnoc h3
      exact ⟨_ :: vs', a, dd, k1, k2, k3, k4, k5, k6, t1, t2, t3, t4, t5, by rw [e]; rfl, g1, g2⟩
theorem news_two {h₀ h : Heap} {L : Addr} {x y a b c : Addr × Obj} {r : List (Addr × Obj)} (N : News h₀ L h (x :: y :: c :: r)) (h1 : a ∈ r) (h2 : b ∈ r) : News h₀ L h (x :: y :: c :: a :: b :: r) := fun p hp => N p (by
  rcases List.mem_cons.mp hp with rfl | hp
  · exact .head _
  · rcases List.mem_cons.mp hp with rfl | hp
    · exact .tail _ (.head _)
    · rcases List.mem_cons.mp hp with rfl | hp
      · exact .tail _ (.tail _ (.head _))
      · rcases List.mem_cons.mp hp with rfl | hp
        · exact .tail _ (.tail _ (.tail _ h1))
        · rcases List.mem_cons.mp hp with rfl | hp
          · exact .tail _ (.tail _ (.tail _ h2))
          · exact .tail _ (.tail _ (.tail _ hp)))
theorem lt_of_all {d : Addr} {l : List (Addr × Obj)} (h : AllLt d l) : ∀ p ∈ l, p.1 < d := by
  induction l with
  | nil => exact fun _ h => nomatch h
  | cons q r ih =>
    intro p hp
    rcases List.mem_cons.mp hp with rfl | hp
    · exact h.1
    · exact ih h.2 p hp
theorem nil_or_snoc {α : Type} (l : List α) : l = [] ∨ ∃ l' y, l = l' ++ [y] := by
  rcases List.eq_nil_or_concat l with h | ⟨l', y, h⟩
  · exact .inl h
  · exact .inr ⟨l', y, by rw [h, List.concat_eq_append]⟩
theorem ws_end {g : Heap} {L : Addr} {s : Shared} {h' : Heap} {tk : Nat} {Q : Flow → Shared → Prop} {z : WS × (Str → Option Value)} {w : World} {T : Str} {tT : Tok} {a1 a2 a3 a4 : Tok} {f sg d x dd : Addr} {news wl r : List (Addr × Obj)} {wo : Option (List Wd)} {dn rem : List Wd} {y : Wd} {vs : List Value} {n' cap mu : Nat} {fin : Bool} {k1 k2 k3 k4 k5 k6 t1 t2 t3 t4 t5 ta tl tc : Tok} {u : Str → Option Value} {q1 q2 : Addr × Obj}
    (st : StW (cpl T) wo n' false fin (dn ++ [y]) rem mu) (sz : dn.length + z.1.mu ≤ 1000) (F : Fr g L h' u)
    (N : News g L h' ((x, instObj 90 dd) :: (dd, wdO w k1 k2 k3 k4 k5 k6 t1 t2 t3 t4 t5 y) :: (d, sgS w a1 a2 a3 a4 T tT n' ta tl tc) :: (sg, instObj 147 d) :: q1 :: q2 :: (f, W.listOf (vs ++ [Value.ref x]).toArray cap) :: r))
    (hm : mu < z.1.mu)
    (hd0 : ∀ p ∈ news, p.1 ≠ d) (hv : WIn w wl vs dn) (hod : ∀ p ∈ wl, p.1 ≠ d) (hof : ∀ p ∈ wl, p.1 ≠ f) (hfr : ∀ p ∈ wl, ∀ q ∈ news, q.1 < p.1)
    (l1 : @LT.lt Nat _ d dd) (l2 : @LT.lt Nat _ f dd) (l3 : AllLt dd r) (hr : ∀ p ∈ wl ++ news, p ∈ r) (l4 : @LT.lt Nat _ dd x)
    (hu : u (Str.ofString "is_first") = some (.bool false)) (huf : u (Str.ofString "found") = some (.ref f)) (hus : u (Str.ofString "signs") = some (.ref sg)) :
    TurnEnd (σ := WS × (Str → Option Value)) g L s (fun y => WSI w (cpl T) f sg d news wo y.1 y.2) (fun y => y.1.mu) (fun y => y.2) (fun y => (d, sgS w a1 a2 a3 a4 T tT y.1.n y.1.ta y.1.tl y.1.tc) :: (sg, instObj 147 d) :: (f, W.listOf y.1.vs.toArray y.1.cap) :: (y.1.wl ++ news)) Q z .next { s with heap := h', toks := tk } := by
  have hlt := lt_of_all l3
  have N' : News g L h' ((d, sgS w a1 a2 a3 a4 T tT n' ta tl tc) :: (sg, instObj 147 d) :: (f, W.listOf (vs ++ [Value.ref x]).toArray cap) :: (((x, instObj 90 dd) :: (dd, wdO w k1 k2 k3 k4 k5 k6 t1 t2 t3 t4 t5 y) :: wl) ++ news)) := fun p hp => N p (by
    rcases List.mem_cons.mp hp with rfl | hp
    · exact .tail _ (.tail _ (.head _))
    rcases List.mem_cons.mp hp with rfl | hp
    · exact .tail _ (.tail _ (.tail _ (.head _)))
    rcases List.mem_cons.mp hp with rfl | hp
    · exact .tail _ (.tail _ (.tail _ (.tail _ (.tail _ (.tail _ (.head _))))))
    rcases List.mem_cons.mp hp with rfl | hp
    · exact .head _
    rcases List.mem_cons.mp hp with rfl | hp
    · exact .tail _ (.head _)
    exact .tail _ (.tail _ (.tail _ (.tail _ (.tail _ (.tail _ (.tail _ (hr _ hp))))))))
  refine TurnEnd.nextU (I := WSI w (cpl T) f sg d news wo) (μ := fun x => x.mu) (nw := fun x => (d, sgS w a1 a2 a3 a4 T tT x.n x.ta x.tl x.tc) :: (sg, instObj 147 d) :: (f, W.listOf x.vs.toArray x.cap) :: (x.wl ++ news))
    ⟨n', false, fin, vs ++ [.ref x], cap, (x, instObj 90 dd) :: (dd, wdO w k1 k2 k3 k4 k5 k6 t1 t2 t3 t4 t5 y) :: wl, dn ++ [y], rem, mu, ta, tl, tc⟩ F N' hm ⟨hd0, st, by rw [List.length_append]; dsimp only [List.length_cons, List.length_nil]; omega, (hv.mono fun p hp => .tail _ (.tail _ hp)).snoc (.head _) (.tail _ (.head _)), hu, huf, hus, ?_, ?_, ?_⟩
  · intro p hp
    rcases List.mem_cons.mp hp with rfl | hp
    · exact Nat.ne_of_gt (Nat.lt_trans l1 l4)
    rcases List.mem_cons.mp hp with rfl | hp
    · exact Nat.ne_of_gt l1
    exact hod p hp
  · intro p hp
    rcases List.mem_cons.mp hp with rfl | hp
    · exact Nat.ne_of_gt (Nat.lt_trans l2 l4)
    rcases List.mem_cons.mp hp with rfl | hp
    · exact Nat.ne_of_gt l2
    exact hof p hp
  · intro p hp q hq
    have hq' := hlt q (hr q (List.mem_append.mpr (.inr hq)))
    rcases List.mem_cons.mp hp with rfl | hp
    · exact Nat.lt_trans hq' l4
    rcases List.mem_cons.mp hp with rfl | hp
    · exact hq'
    exact hfr p hp q hq
/-- a test's end -/
noncomputable def GoT (s : Shared) (P : Heap → Nat → Prop) (b : Bool) (s₂ : Shared) : Prop := b = true ∧ ∃ h tk, s₂ = { s with heap := h, toks := tk } ∧ P h tk
theorem go_split {M : Model} {A : Around} {E : Value → Shared → Prop} {t : Sem Bool} {R : Bool → Shared → Prop} {s : Shared} {g : Heap} {L : Addr} {u : Str → Option Value} {nw : List (Addr × Obj)} (F : Fr g L s.heap u) (N : News g L s.heap nw)
    (ht : wpAny M A t (GoT s (fun h _ => Fr g L h u ∧ News g L h nw)) E s)
    (hb : ∀ h tk, Fr g L h u → News g L h nw → R true { s with heap := h, toks := tk }) : wpAny M A t R E s := by
  refine wpAny_mono ht (fun b s₂ h => ?_) fun _ _ e => e
  obtain ⟨rfl, h, tk, rfl, F', N'⟩ := h
  exact hb h tk F' N'
theorem GoT.done {s : Shared} {g : Heap} {L : Addr} {u : Str → Option Value} {nw : List (Addr × Obj)} {h' : Heap} {tk : Nat} (F : Fr g L h' u) (N : News g L h' nw) : GoT s (fun h _ => Fr g L h u ∧ News g L h nw) true { s with heap := h', toks := tk } := ⟨rfl, h', tk, rfl, F, N⟩
theorem rg_F7_50 : True := by
  k_with_none
  k_with "all" => assumption
  k_with "enter" => (refine' code_def ?enk1 ?enk2 ?enk3 ?enk4 ?enk5 ?enkA ?enkF ?enkK ?enk6 ?enk7 ?enk8 ?enk9 ?enkB ?_ ?enc2 ?enc3 ?enc4 ?enc5; (case enkA => exact rfl); (case enkF => exact rfl); (case enkK => first | exact rfl | assumption); (case enk1 => k_asm); (case enk2 => k_asm); (case enk3 => k_asm); (case enk4 => k_asm); (case enk5 => k_asm); (case enk6 => k_is); (case enk7 => k_is); (case enk8 => ktr_room); (case enk9 => first | exact BindsTo.of_eq rfl | exact binds_K (by k_in) rfl (by k_is) rfl rfl rfl); (case enc5 => decide); (case enkB => exact locs rfl); (case enc2 => exact rfl); (case enc3 => exact rfl); (case enc4 => exact rfl); k_whole; intro g' L' h' FG' F' N' B' X' T'; (try dsimp only); (try k_fold))
  k_with "my leaving ref" => (k_here; k_dflt (first | (refine leave_onR (by assumption) (by k_asm) (by k_asm) (by k_asm) ?_; k_whole; intro h' R' _ U'; (try dsimp only)) | (refine leave_we (by k_asm) (by k_asm) (by k_asm) ?_ (by exact rfl); k_whole; intro h' R' U'; (try dsimp only))))
  k_with "all" => first | assumption | exact List.forall_mem_nil _ | (refine off_cons (by k_asm) (by k_mem) (by k_mem) (by (intro e; have e9 := congrArg Obj.cls e; first | (simp at e9; done) | ((rename Obj.cls _ = Value.type "tuple_iterator" => hc9); rw [hc9] at e9; simp at e9; done))) (by k_all)) | (refine List.forall_mem_cons.mpr ⟨(by first | assumption | k_ne), (by k_all)⟩) | (refine List.forall_mem_append.mpr ⟨(by k_all), (by k_all)⟩)
  k_with "room" => ((have hcL9 := cLine_is); (simp only [units_in1, units_deeper, Around.mark_units, units_caller]); (try dsimp only [ktrTop]); omega)
  k_with "ne" => first | (refine neN ?_; (try dsimp only); omega) | ((try dsimp only); refine ne_cls (by k_asm) (by k_mem) (by k_mem) (by (intro e; have e9 := congrArg Obj.cls e; simp at e9; done)))
  exact trivial
section
variable {w : World} {p : Program} {loose : List Str} {mean : ExcName → Option Value} {mg mb : Str → Option Value} {dp un : Nat} {gd : Option (List Code)} {cn : Str} {cs : Scope} {a : Addr} {ccd : Value} {cl : List (Str × Addr)} {outer : List Env} {A₀ : Around} {base h₀ : Heap} {L : Addr} {m : Str → Option Value} {news : List (Addr × Obj)} {s : Shared} {Q E : Value → Shared → Prop}
  (B : Below A₀ base outer h₀) (F : Fr h₀ L s.heap m) (X : (kk.heap_1 w.params).In h₀)
variable {sg d : Addr} {k1 k2 k3 k4 : Tok} {T : Str} {tT : Tok} {n : Nat} {ta tl tc : Tok} {rest : List (Addr × Obj)}
  (N : News h₀ L s.heap ((d, sgS w k1 k2 k3 k4 T tT n ta tl tc) :: (sg, instObj 147 d) :: rest)) (Tp : Top p loose mean mg mb h₀) (hk : cs.kind = .function)
  (hsd : @Ne Nat sg d) (hne : ∀ p ∈ rest, p.1 ≠ d) (hT : T.length ≤ 4096)
include B F X N Tp hk hsd hne hT
theorem skp_ok {k : Nat} (hd : dp + 5 < recursionLimit) (hf : skp 64 ((cpl T).drop n) = some (some k))
    (hret : ∀ h' tk' ta' tl' tc', Fr h₀ L h' m → News h₀ L h' ((d, sgS w k1 k2 k3 k4 T tT (n + k) ta' tl' tc') :: (sg, instObj 147 d) :: rest) → Q (.bool (decide ((posAt (cpl T) n).1 < (posAt (cpl T) (n + k)).1))) { s with heap := h', toks := tk' }) :
    wpAny (model PySem.Challenge.pw_np0234_01 w) (ktrTop dp un gd cn cs L a ccd cl outer) (call (.ref 186) [.ref sg]) Q E s :=
  skp_spec B F X N Tp hk hsd hne hT hd hf (fun j hj => by cases hj; exact hret) (fun h => by cases h)
theorem skp_bad (hd : dp + 5 < recursionLimit) (hf : skp 64 ((cpl T).drop n) = some none)
    (hraise : ∀ e t v h' tk' G, RaisedS base G (envX cn cs L a ccd cl :: outer) e (.ref 52) t [v] [] h' → Fr h₀ L G m → G.UpToSlots h' → E (.ref e) { s with heap := h', toks := tk' }) :
    wpAny (model PySem.Challenge.pw_np0234_01 w) (ktrTop dp un gd cn cs L a ccd cl outer) (call (.ref 186) [.ref sg]) Q E s :=
  skp_spec B F X N Tp hk hsd hne hT hd hf (fun j hj => by cases hj) (fun _ => hraise)
end
theorem rg_F7_51 : True := by
  k_with_none
  k_with "all" => assumption
  k_with "enter" => (refine' code_def ?enk1 ?enk2 ?enk3 ?enk4 ?enk5 ?enkA ?enkF ?enkK ?enk6 ?enk7 ?enk8 ?enk9 ?enkB ?_ ?enc2 ?enc3 ?enc4 ?enc5; (case enkA => exact rfl); (case enkF => exact rfl); (case enkK => first | exact rfl | assumption); (case enk1 => k_asm); (case enk2 => k_asm); (case enk3 => k_asm); (case enk4 => k_asm); (case enk5 => k_asm); (case enk6 => k_is); (case enk7 => k_is); (case enk8 => ktr_room); (case enk9 => first | exact BindsTo.of_eq rfl | exact binds_K (by k_in) rfl (by k_is) rfl rfl rfl); (case enc5 => decide); (case enkB => exact locs rfl); (case enc2 => exact rfl); (case enc3 => exact rfl); (case enc4 => exact rfl); k_whole; intro g' L' h' FG' F' N' B' X' T'; (try dsimp only); (try k_fold))
  k_with "my leaving ref" => (k_here; k_dflt (first | (refine leave_onR (by assumption) (by k_asm) (by k_asm) (by k_asm) ?_; k_whole; intro h' R' _ U'; (try dsimp only)) | (refine leave_we (by k_asm) (by k_asm) (by k_asm) ?_ (by exact rfl); k_whole; intro h' R' U'; (try dsimp only))))
  k_with "all" => first | assumption | exact List.forall_mem_nil _ | (refine off_cons (by k_asm) (by k_mem) (by k_mem) (by (intro e; have e9 := congrArg Obj.cls e; first | (simp at e9; done) | ((rename Obj.cls _ = Value.type "tuple_iterator" => hc9); rw [hc9] at e9; simp at e9; done))) (by k_all)) | (refine List.forall_mem_cons.mpr ⟨(by first | assumption | k_ne), (by k_all)⟩) | (refine List.forall_mem_append.mpr ⟨(by k_all), (by k_all)⟩)
  k_with "room" => ((have hcL9 := cLine_is); (simp only [units_in1, units_deeper, Around.mark_units, units_caller]); (try dsimp only [ktrTop]); omega)
  k_with "ne" => first | (refine neN ?_; (try dsimp only); omega) | ((try dsimp only); refine ne_cls (by k_asm) (by k_mem) (by k_mem) (by (intro e; have e9 := congrArg Obj.cls e; simp at e9; done)))
  k_with "my exec While BoolOp cons nil" => (k_here; refine Stopped.at_ ?_)
  k_with "my exec While Compare cons nil" => (k_here; refine Stopped.at_ ?_)
  k_with "my exec While Name cons nil" => (k_here; refine Stopped.at_ ?_)
  k_with "my exec For Name Call cons nil" => (k_here; k_extra "for")
  k_with "my exec For Name Name cons nil" => (k_here; k_extra "for")
  k_with "my exec For Tuple Tuple cons nil" => (k_here; k_extra "for")
  k_with "my exec While Call cons nil" => (k_here; refine Stopped.at_ ?_)
  k_with "my compareOp In str ref" => (k_here; (with_reducible show wpAny _ _ (compareOp CmpOp.In (Value.str _ _) (Value.ref _)) _ _ _); k_dflt (refine in_topK (by k_asm) (by k_asm) (by k_is) (by repeat constructor) ?_; k_whole))
  k_with "my exec Raise some none" => (k_here; k_dflt (refine raise_stmt rfl ?_))
  k_with "my RaiseAt" => (k_here; k_dflt (refine raise_at (by k_asm) (by k_asm) (by k_asm) ?_; k_whole))
  k_with "my call ref" => (k_here; (with_reducible show wpAny _ _ (call (Value.ref 284) _ _) _ _ _); k_dflt (refine rw_ok (by k_asm) (by k_asm) (by k_asm) (news_pick2 (by k_asm) (by (repeat (first | exact Pick.head | apply Pick.tail))) (by (repeat (first | exact Pick.head | apply Pick.tail)))) (by k_asm) (by first | exact rfl | assumption) (by first | assumption | k_ne) (by k_all) (by assumption) (by ktr_room) (by (first | omega | ((have hcL9 := cLine_is); (try simp only [units_in1, units_deeper, Around.mark_units, units_caller]); (try dsimp only [ktrTop]); omega))) (by assumption) ?_; k_whole; intro h' tk' q' t1' t2' t3' ta' tl' tc' F' N'; (try dsimp only); (try k_sweep); (try k_fold)))
  k_with "my call ref" => (k_here; (with_reducible show wpAny _ _ (call (Value.ref 284) _ _) _ _ _); k_dflt (refine rw_bad (by k_asm) (by k_asm) (by k_asm) (news_pick2 (by k_asm) (by (repeat (first | exact Pick.head | apply Pick.tail))) (by (repeat (first | exact Pick.head | apply Pick.tail)))) (by k_asm) (by first | exact rfl | assumption) (by first | assumption | k_ne) (by k_all) (by assumption) (by ktr_room) (by (first | omega | ((have hcL9 := cLine_is); (try simp only [units_in1, units_deeper, Around.mark_units, units_caller]); (try dsimp only [ktrTop]); omega))) (by assumption) ?_; k_whole; intro e' t' v' h' tk' G' R' F' U'; (try dsimp only)))
  k_with "my call ref" => (k_here; (with_reducible show wpAny _ _ (call (Value.ref 186) _ _) _ _ _); k_dflt (refine skp_ok (by k_asm) (by k_asm) (by k_asm) (news_pick2 (by k_asm) (by (repeat (first | exact Pick.head | apply Pick.tail))) (by (repeat (first | exact Pick.head | apply Pick.tail)))) (by k_asm) (by first | exact rfl | assumption) (by first | assumption | k_ne) (by k_all) (by assumption) (by ktr_room) (by assumption) ?_; k_whole; intro h' tk' ta' tl' tc' F' N'; (try dsimp only); (try k_sweep); (try k_fold)))
  k_with "my call ref" => (k_here; (with_reducible show wpAny _ _ (call (Value.ref 186) _ _) _ _ _); k_dflt (refine skp_bad (by k_asm) (by k_asm) (by k_asm) (news_pick2 (by k_asm) (by (repeat (first | exact Pick.head | apply Pick.tail))) (by (repeat (first | exact Pick.head | apply Pick.tail)))) (by k_asm) (by first | exact rfl | assumption) (by first | assumption | k_ne) (by k_all) (by assumption) (by ktr_room) (by assumption) ?_; k_whole; intro e' t' v' h' tk' G' R' F' U'; (try dsimp only)))
  k_with "my call ref" => (k_here; (with_reducible show wpAny _ _ (call (Value.ref 144) _ _) _ _ _); k_dflt (refine place_spec (by k_asm) (by k_asm) (by k_asm) (by k_asm) (by k_asm) (by first | exact rfl | assumption) (by k_mem) (by k_mem) (by assumption) (by ktr_room) ?_; k_whole; intro h' tk' q F' N' l1; (try dsimp only); (try k_sweep); (try k_fold)))
  k_with "fits" => (simp only [List.size_toArray, PySem.sizeLine_eq]; omega)
  k_with "my compareOp Eq ref ref" => (k_here; (with_reducible show wpAny _ _ (compareOp CmpOp.Eq (Value.ref _) (Value.ref _)) _ _ _); k_dflt (refine eq_empty_no (by k_asm) (by k_mem) (by k_mem) (by ((have hcL9 := cLine_is); (simp only [units_in1, units_deeper, Around.mark_units, units_caller]); (try dsimp only [ktrTop]); omega)) ?_; k_whole))
  k_with "my subscriptTail" => (k_here; (with_reducible show wpAny _ _ (subscriptTail _ _ (Value.ref _) (Value.int _ _)) _ _ _); (with_unfolding_all refine item_last (by k_asm) (by k_mem) ?_ (by with_unfolding_all rfl); k_whole))
  exact trivial
section
variable {w : World} {p : Program} {loose : List Str} {mean : ExcName → Option Value} {mg mb : Str → Option Value} {dp un : Nat} {gd : Option (List Code)} {cn : Str} {cs : Scope} {a : Addr} {ccd : Value} {cl : List (Str × Addr)} {outer : List Env} {A₀ : Around} {base h₀ : Heap} {L : Addr} {m : Str → Option Value} {news : List (Addr × Obj)} {s : Shared} {Q E : Value → Shared → Prop}
  (B : Below A₀ base outer h₀) (F : Fr h₀ L s.heap m) (X : (kk.heap_1 w.params).In h₀)
variable {T : Str} {tT : Tok}
  (N : News h₀ L s.heap news) (Tp : Top p loose mean mg mb h₀) (hk : cs.kind = .function)  (hT : T.length ≤ 4096)
include B F X N Tp hk hT
set_option maxHeartbeats 8000000 in
theorem words_any {wo : Option (List Wd)} {mu : Nat} (hd : dp + 8 < recursionLimit) (hun : un + 1200 < cLine) (hst : StW (cpl T) wo 0 true false [] (wo.getD []) mu) (hmu : mu ≤ 1000)
    (hret : ∀ ws, wo = some ws → ∀ h' tk' f vs cap wl, Fr h₀ L h' m → News h₀ L h' ((f, listOf vs.toArray cap) :: (wl ++ news)) → WIn w wl vs ws → (∀ p ∈ wl, ∀ q ∈ news, q.1 < p.1) → (∀ q ∈ news, q.1 < f) → Q (.ref f) { s with heap := h', toks := tk' })
    (hraise : wo = none → ∀ e t v h' tk' G, RaisedS base G (envX cn cs L a ccd cl :: outer) e (.ref 52) t [v] [] h' → Fr h₀ L G m → G.UpToSlots h' → E (.ref e) { s with heap := h', toks := tk' }) :
    wpAny (model PySem.Challenge.pw_np0234_01 w) (ktrTop dp un gd cn cs L a ccd cl outer) (call (.ref 291) [.str T tT]) Q E s := by
  refine wpAny_call ?_
  k_dflt k_extra "enter"
  k_steps
  rename (∀ p : Addr × Obj, p ∈ news → p.1 < _) => l9
  have hdf : ∀ p ∈ news, p.1 ≠ _ := fun p hp => Nat.ne_of_lt (l9 p hp)
  rename _ ∧ _ ∧ AllLt _ _ => l1
  obtain ⟨hl1, hl2, hl4⟩ := l1
  have hof := off_lt hl4
  have hlf := lt_of_all hl4
  refine Stopped.go ?_
  refine while_u (σ := WS) (WSI w (cpl T) _ _ _ news wo) (fun x => x.mu) (fun x => (_, sgS w _ _ _ _ T tT x.n x.ta x.tl x.tc) :: (_, instObj 147 _) :: (_, listOf x.vs.toArray x.cap) :: (x.wl ++ news)) ⟨0, true, false, [], 0, [], [], wo.getD [], mu, _, _, _⟩ (by k_asm) (by first | k_asm | (refine' cb_drop ?cbN ?cbS; (case cbN => assumption); (case cbS => kcj_all))) ⟨hdf, hst, by simpa using hmu, .nil, by rfl, by rfl, by rfl, by simp, by simp, by simp⟩ ?_ (by passes_own)
  rintro ⟨n, b, fin, vs, cap, wl, dn, rem, mu, ta, tl, tc⟩ u h₁ tk₁ F₁ N₁ ⟨hd0, hst, hsz, hvals, hun', huf, hus, hod, hof', hfr⟩
  dsimp only at F₁ N₁ hst hsz hvals hun' huf hus hod hof' hfr
  have F₂ := Fr_know3 F₁ hun' huf hus
  clear F₁
  have hvl := hvals.length
  cases fin with
  | true =>
    obtain ⟨hwo, dn', y, hdn, hend⟩ := hst.ended
    subst hdn
    obtain ⟨vs', a, dd, j1, j2, j3, j4, j5, j6, t1, t2, t3, t4, t5, rfl, g1, g2⟩ := hvals.unsnoc
    have N₂ := news_two N₁ (List.mem_append.mpr (.inl g1)) (List.mem_append.mpr (.inl g2))
    clear N₁
    k_steps
    exact hret _ hwo _ _ _ _ _ wl (by k_asm) (by first | k_asm | (refine' cb_drop ?cbN ?cbS; (case cbN => assumption); (case cbS => kcj_all))) hvals hfr hlf
  | false =>
    refine go_split F₂ N₁ ?_ ?_
    · rcases nil_or_snoc dn with rfl | ⟨dn', y, rfl⟩
      · cases hvals
        k_steps
        exact GoT.done (by k_asm) (by first | k_asm | exact news_tail (by k_asm))
      · obtain ⟨vs', a, dd, j1, j2, j3, j4, j5, j6, t1, t2, t3, t4, t5, rfl, g1, g2⟩ := hvals.unsnoc
        have N₂ := news_two N₁ (List.mem_append.mpr (.inl g1)) (List.mem_append.mpr (.inl g2))
        have hyk := hst.notend y (List.mem_append.mpr (.inr (.head _)))
        clear N₁
        k_steps
        exact GoT.done (by k_asm) (by first | k_asm | exact news_tail (by k_asm) | (refine' cb_drop ?cbN ?cbS; (case cbN => assumption); (case cbS => kcj_all)))
    · clear F₂ N₁
      intro h₂ tk₂ F₂ N₂
      rcases hst.open with ⟨k, kd, tx, pv, j, rem', mu', fin', h1, h2, hmu', hst'⟩ | ⟨hwo, h1⟩ | ⟨hwo, k, h1, h2⟩
      · k_steps
        all_goals
          rename News _ _ _ _ => N3
          simp only [List.push_toArray] at N3
          rename _ ∧ _ ∧ _ ∧ _ ∧ _ ∧ AllLt _ _ => l5
          rename @LT.lt Nat _ _ _ => l6
          first
            | (rename ¬ (@LT.lt Int _ _ _) => hc; replace hc := decide_eq_false hc)
            | (rename @LT.lt Int _ _ _ => hc; replace hc := decide_eq_true hc)
          rw [hc] at hst'
          try simp only [Bool.true_or, Bool.false_or] at hst'
          try rw [hc] at N3
          rename Fr _ _ _ _ => F3
          exact ws_end hst' hsz F3 N3 hmu' hd0 hvals hod hof' hfr l5.1 l5.2.2.2.2.1 l5.2.2.2.2.2 (fun _ h => h) l6 (by rfl) (by rfl) (by rfl)
      · k_steps
        exact hraise hwo _ _ _ _ _ _ (by assumption) (by k_asm) (by assumption)
      · k_steps
        all_goals exact hraise hwo _ _ _ _ _ _ (by assumption) (by k_asm) (by assumption)
end
theorem rg_N9_52 : True := by
  k_with_none
  k_with "all" => assumption
  k_with "enter" => (refine' code_def ?enk1 ?enk2 ?enk3 ?enk4 ?enk5 ?enkA ?enkF ?enkK ?enk6 ?enk7 ?enk8 ?enk9 ?enkB ?_ ?enc2 ?enc3 ?enc4 ?enc5; (case enkA => exact rfl); (case enkF => exact rfl); (case enkK => first | exact rfl | assumption); (case enk1 => k_asm); (case enk2 => k_asm); (case enk3 => k_asm); (case enk4 => k_asm); (case enk5 => k_asm); (case enk6 => k_is); (case enk7 => k_is); (case enk8 => ktr_room); (case enk9 => first | exact BindsTo.of_eq rfl | exact binds_K (by k_in) rfl (by k_is) rfl rfl rfl); (case enc5 => decide); (case enkB => exact locs rfl); (case enc2 => exact rfl); (case enc3 => exact rfl); (case enc4 => exact rfl); k_whole; intro g' L' h' FG' F' N' B' X' T'; (try dsimp only); (try k_fold))
  k_with "my leaving ref" => (k_here; k_dflt (first | (refine leave_onR (by assumption) (by k_asm) (by k_asm) (by k_asm) ?_; k_whole; intro h' R' _ U'; (try dsimp only)) | (refine leave_we (by k_asm) (by k_asm) (by k_asm) ?_ (by exact rfl); k_whole; intro h' R' U'; (try dsimp only))))
  k_with "all" => first | assumption | exact List.forall_mem_nil _ | (refine off_cons (by k_asm) (by k_mem) (by k_mem) (by (intro e; have e9 := congrArg Obj.cls e; first | (simp at e9; done) | ((rename Obj.cls _ = Value.type "tuple_iterator" => hc9); rw [hc9] at e9; simp at e9; done))) (by k_all)) | (refine List.forall_mem_cons.mpr ⟨(by first | assumption | k_ne), (by k_all)⟩) | (refine List.forall_mem_append.mpr ⟨(by k_all), (by k_all)⟩)
  k_with "room" => ((have hcL9 := cLine_is); (simp only [units_in1, units_deeper, Around.mark_units, units_caller]); (try dsimp only [ktrTop]); omega)
  k_with "ne" => first | (refine neN ?_; (try dsimp only); omega) | ((try dsimp only); refine ne_cls (by k_asm) (by k_mem) (by k_mem) (by (intro e; have e9 := congrArg Obj.cls e; simp at e9; done)))
  exact trivial
theorem news_pick1 {h₀ h : Heap} {L : Addr} {x : Addr × Obj} {news rest : List (Addr × Obj)} (N : News h₀ L h news) (p1 : Pick x news rest) : News h₀ L h (x :: rest) := fun q hq => N q (p1.sub q hq)
section
variable {prog : Program} {w : World} {A : Around} {E : Value → Shared → Prop} {s : Shared}
theorem mulX {va Y : Int} {t u : Tok} {Q : Value → Shared → Prop} (h : Q (.int (Y.fmod 2147483647 * Y.fmod 2147483647) s.toks) { s with toks := s.toks + 1 }) :
    wpAny (model prog w) A (binaryOp .Mult (.int ([va, Y.fmod 2147483647].getD (Int.toNat 1) 0) t) (.int ([va, Y.fmod 2147483647].getD (Int.toNat 1) 0) u)) Q E s := by
  have h0 := Int.fmod_nonneg_of_pos Y (show (0 : Int) < 2147483647 by decide)
  have h1 := Int.fmod_lt_of_pos Y (show (0 : Int) < 2147483647 by decide)
  exact mul_int h (PySem.IntMulOk.of_right (PySem.intBits_le_64 (by show _ < Y.fmod 2147483647; omega) (by show Y.fmod 2147483647 < _; omega)))
end
theorem Fr_know2 {h₀ h : Heap} {L : Addr} {u : Str → Option Value} {v1 v2 : Str} {a1 a2 : Value} (F : Fr h₀ L h u) (e1 : u v1 = some a1) (e2 : u v2 = some a2) : Fr h₀ L h (fun y => if y = v1 then some a1 else if y = v2 then some a2 else u y) :=
  Fr_ext F fun y => by
    by_cases h1 : y = v1
    · rw [if_pos h1, h1, e1]
    · rw [if_neg h1]
      by_cases h2 : y = v2
      · rw [if_pos h2, h2, e2]
      · rw [if_neg h2]
theorem mvs_snoc (x : List Nat) (c : Nat) (p : Int × Int) : mvs (x ++ [c]) p = mv (some c) (mvs x p) := by
  unfold mvs
  rw [List.foldl_append]; rfl
theorem take_snoc {x : List Nat} {i c : Nat} (h : x[i]? = some c) : x.take (i + 1) = x.take i ++ [c] := by
  rw [List.take_add_one, h]; rfl
theorem mv_nl {c : Nat} (h : ((⟨#[c]⟩ : Str) == Str.ofString "\n") = true) (p : Int × Int) : mv (some c) p = (p.1 + 1, 1) := by
  have h := beq_iff_eq.mp h
  rw [show Str.ofString "\n" = (⟨#[10]⟩ : Str) from by decide +kernel] at h
  cases str_one h; rfl
theorem mv_tab {c : Nat} (h : ((⟨#[c]⟩ : Str) == Str.ofString "\t") = true) (p : Int × Int) : mv (some c) p = (p.1, p.2 + 8 - (p.2 - 1).fmod 8) := by
  have h := beq_iff_eq.mp h
  rw [show Str.ofString "\t" = (⟨#[9]⟩ : Str) from by decide +kernel] at h
  cases str_one h
  have e := Int.mul_fdiv_add_fmod (p.2 - 1) 8
  show (p.1, Int.fdiv (p.2 - 1) 8 * 8 + 8 + 1) = _
  have : Int.fdiv (p.2 - 1) 8 * 8 + 8 + 1 = p.2 + 8 - (p.2 - 1).fmod 8 := by omega
  rw [this]
theorem mv_other {c : Nat} (h : ((⟨#[c]⟩ : Str) == Str.ofString "\n") = false) (h' : ((⟨#[c]⟩ : Str) == Str.ofString "\t") = false) (p : Int × Int) : mv (some c) p = (p.1, p.2 + 1) := by
  rw [show Str.ofString "\n" = (⟨#[10]⟩ : Str) from by decide +kernel] at h
  rw [show Str.ofString "\t" = (⟨#[9]⟩ : Str) from by decide +kernel] at h'
  unfold mv
  split
  · rename_i e; injection e with e; subst e; simp at h
  · rename_i e; injection e with e; subst e; simp at h'
  · rfl
theorem rg_F8_53 : True := by
  k_with_none
  k_with "all" => assumption
  k_with "enter" => (refine' code_def ?enk1 ?enk2 ?enk3 ?enk4 ?enk5 ?enkA ?enkF ?enkK ?enk6 ?enk7 ?enk8 ?enk9 ?enkB ?_ ?enc2 ?enc3 ?enc4 ?enc5; (case enkA => exact rfl); (case enkF => exact rfl); (case enkK => first | exact rfl | assumption); (case enk1 => k_asm); (case enk2 => k_asm); (case enk3 => k_asm); (case enk4 => k_asm); (case enk5 => k_asm); (case enk6 => k_is); (case enk7 => k_is); (case enk8 => ktr_room); (case enk9 => first | exact BindsTo.of_eq rfl | exact binds_K (by k_in) rfl (by k_is) rfl rfl rfl); (case enc5 => decide); (case enkB => exact locs rfl); (case enc2 => exact rfl); (case enc3 => exact rfl); (case enc4 => exact rfl); k_whole; intro g' L' h' FG' F' N' B' X' T'; (try dsimp only); (try k_fold))
  k_with "my leaving ref" => (k_here; k_dflt (first | (refine leave_onR (by assumption) (by k_asm) (by k_asm) (by k_asm) ?_; k_whole; intro h' R' _ U'; (try dsimp only)) | (refine leave_we (by k_asm) (by k_asm) (by k_asm) ?_ (by exact rfl); k_whole; intro h' R' U'; (try dsimp only))))
  k_with "all" => first | assumption | exact List.forall_mem_nil _ | (refine off_cons (by k_asm) (by k_mem) (by k_mem) (by (intro e; have e9 := congrArg Obj.cls e; first | (simp at e9; done) | ((rename Obj.cls _ = Value.type "tuple_iterator" => hc9); rw [hc9] at e9; simp at e9; done))) (by k_all)) | (refine List.forall_mem_cons.mpr ⟨(by first | assumption | k_ne), (by k_all)⟩) | (refine List.forall_mem_append.mpr ⟨(by k_all), (by k_all)⟩)
  k_with "room" => ((have hcL9 := cLine_is); (simp only [units_in1, units_deeper, Around.mark_units, units_caller]); (try dsimp only [ktrTop]); omega)
  k_with "ne" => first | (refine neN ?_; (try dsimp only); omega) | ((try dsimp only); refine ne_cls (by k_asm) (by k_mem) (by k_mem) (by (intro e; have e9 := congrArg Obj.cls e; simp at e9; done)))
  exact trivial
theorem rg_F8_54 : True := by
  k_with_none
  k_with "all" => assumption
  k_with "enter" => (refine' code_def ?enk1 ?enk2 ?enk3 ?enk4 ?enk5 ?enkA ?enkF ?enkK ?enk6 ?enk7 ?enk8 ?enk9 ?enkB ?_ ?enc2 ?enc3 ?enc4 ?enc5; (case enkA => exact rfl); (case enkF => exact rfl); (case enkK => first | exact rfl | assumption); (case enk1 => k_asm); (case enk2 => k_asm); (case enk3 => k_asm); (case enk4 => k_asm); (case enk5 => k_asm); (case enk6 => k_is); (case enk7 => k_is); (case enk8 => ktr_room); (case enk9 => first | exact BindsTo.of_eq rfl | exact binds_K (by k_in) rfl (by k_is) rfl rfl rfl); (case enc5 => decide); (case enkB => exact locs rfl); (case enc2 => exact rfl); (case enc3 => exact rfl); (case enc4 => exact rfl); k_whole; intro g' L' h' FG' F' N' B' X' T'; (try dsimp only); (try k_fold))
  k_with "my leaving ref" => (k_here; k_dflt (first | (refine leave_onR (by assumption) (by k_asm) (by k_asm) (by k_asm) ?_; k_whole; intro h' R' _ U'; (try dsimp only)) | (refine leave_we (by k_asm) (by k_asm) (by k_asm) ?_ (by exact rfl); k_whole; intro h' R' U'; (try dsimp only))))
  k_with "all" => first | assumption | exact List.forall_mem_nil _ | (refine off_cons (by k_asm) (by k_mem) (by k_mem) (by (intro e; have e9 := congrArg Obj.cls e; first | (simp at e9; done) | ((rename Obj.cls _ = Value.type "tuple_iterator" => hc9); rw [hc9] at e9; simp at e9; done))) (by k_all)) | (refine List.forall_mem_cons.mpr ⟨(by first | assumption | k_ne), (by k_all)⟩) | (refine List.forall_mem_append.mpr ⟨(by k_all), (by k_all)⟩)
  k_with "room" => ((have hcL9 := cLine_is); (simp only [units_in1, units_deeper, Around.mark_units, units_caller]); (try dsimp only [ktrTop]); omega)
  k_with "ne" => first | (refine neN ?_; (try dsimp only); omega) | ((try dsimp only); refine ne_cls (by k_asm) (by k_mem) (by k_mem) (by (intro e; have e9 := congrArg Obj.cls e; simp at e9; done)))
  k_with "my exec While BoolOp cons nil" => (k_here; refine Stopped.at_ ?_)
  k_with "my exec While Compare cons nil" => (k_here; refine Stopped.at_ ?_)
  k_with "my exec While Name cons nil" => (k_here; refine Stopped.at_ ?_)
  k_with "my exec For Name Call cons nil" => (k_here; k_extra "for")
  k_with "my exec For Name Name cons nil" => (k_here; k_extra "for")
  k_with "my exec For Tuple Tuple cons nil" => (k_here; k_extra "for")
  k_with "my exec While Call cons nil" => (k_here; refine Stopped.at_ ?_)
  k_with "my compareOp In str ref" => (k_here; (with_reducible show wpAny _ _ (compareOp CmpOp.In (Value.str _ _) (Value.ref _)) _ _ _); k_dflt (refine in_topK (by k_asm) (by k_asm) (by k_is) (by repeat constructor) ?_; k_whole))
  k_with "my exec Raise some none" => (k_here; k_dflt (refine raise_stmt rfl ?_))
  k_with "my RaiseAt" => (k_here; k_dflt (refine raise_at (by k_asm) (by k_asm) (by k_asm) ?_; k_whole))
  k_with "my binaryOp FloorDiv int int" => (k_here; (with_reducible refine floordiv_int ?kbe ?_ (Or.inl (PyProof.noPylong_small ?kbp))); (case kbe => omega); (case kbp => omega))
  k_with "my binaryOp Mod int int" => (k_here; (with_reducible refine mod_int ?kbe ?_); (case kbe => omega))
  k_with "my binaryOp Mult int int" => (k_here; refine mulX ?_)
  exact trivial
section
variable {w : World} {p : Program} {loose : List Str} {mean : ExcName → Option Value} {mg mb : Str → Option Value} {dp un : Nat} {gd : Option (List Code)} {cn : Str} {cs : Scope} {a : Addr} {ccd : Value} {cl : List (Str × Addr)} {outer : List Env} {A₀ : Around} {base h₀ : Heap} {L : Addr} {m : Str → Option Value} {news : List (Addr × Obj)} {s : Shared} {Q E : Value → Shared → Prop}
  (B : Below A₀ base outer h₀) (F : Fr h₀ L s.heap m) (X : (kk.heap_1 w.params).In h₀)
variable {so : Addr} {va vb : Int} {t1 t2 : Tok} {cap : Nat} {rest : List (Addr × Obj)}
  (N : News h₀ L s.heap ((so, listOf #[.int va t1, .int vb t2] cap) :: rest)) (Tp : Top p loose mean mg mb h₀) (hk : cs.kind = .function) (hoff : ∀ p ∈ rest, p.1 ≠ so)
include B F X N Tp hk hoff
set_option maxHeartbeats 4000000 in
theorem ltake_spec {tp : Int} {tt : Tok} (hd : dp + 3 < recursionLimit) (htp : 0 < tp) (htp2 : tp ≤ 27) (hb0 : 0 ≤ vb) (hb1 : vb < 2147483647)
    (hret : ∀ h' tk' t' va' vb' t1' t2' cap' v, Fr h₀ L h' m → News h₀ L h' ((so, listOf #[.int va' t1', .int vb' t2'] cap') :: rest) → 0 ≤ vb' → vb' < 2147483647 → 0 ≤ v → v < tp → Q (.int v t') { s with heap := h', toks := tk' }) :
    wpAny (model PySem.Challenge.pw_np0234_01 w) (ktrTop dp un gd cn cs L a ccd cl outer) (call (.ref 305) [.ref so, .int tp tt]) Q E s := by
  refine wpAny_call ?_
  k_dflt k_extra "enter"
  k_steps
  · exact hret _ _ _ _ _ _ _ _ _ (by k_asm) (by k_asm) hb0 hb1 (Int.fmod_nonneg_of_pos _ htp) (Int.fmod_lt_of_pos _ htp)
  · exact hret _ _ _ _ _ _ _ _ _ (by k_asm) (by k_asm) (Int.fmod_nonneg_of_pos _ (by decide)) (Int.fmod_lt_of_pos _ (by decide)) (Int.fmod_nonneg_of_pos _ htp) (Int.fmod_lt_of_pos _ htp)
end
theorem rg_F9_55 : True := by
  k_with_none
  k_with "all" => assumption
  k_with "enter" => (refine' code_def ?enk1 ?enk2 ?enk3 ?enk4 ?enk5 ?enkA ?enkF ?enkK ?enk6 ?enk7 ?enk8 ?enk9 ?enkB ?_ ?enc2 ?enc3 ?enc4 ?enc5; (case enkA => exact rfl); (case enkF => exact rfl); (case enkK => first | exact rfl | assumption); (case enk1 => k_asm); (case enk2 => k_asm); (case enk3 => k_asm); (case enk4 => k_asm); (case enk5 => k_asm); (case enk6 => k_is); (case enk7 => k_is); (case enk8 => ktr_room); (case enk9 => first | exact BindsTo.of_eq rfl | exact binds_K (by k_in) rfl (by k_is) rfl rfl rfl); (case enc5 => decide); (case enkB => exact locs rfl); (case enc2 => exact rfl); (case enc3 => exact rfl); (case enc4 => exact rfl); k_whole; intro g' L' h' FG' F' N' B' X' T'; (try dsimp only); (try k_fold))
  k_with "my leaving ref" => (k_here; k_dflt (first | (refine leave_onR (by assumption) (by k_asm) (by k_asm) (by k_asm) ?_; k_whole; intro h' R' _ U'; (try dsimp only)) | (refine leave_we (by k_asm) (by k_asm) (by k_asm) ?_ (by exact rfl); k_whole; intro h' R' U'; (try dsimp only))))
  k_with "all" => first | assumption | exact List.forall_mem_nil _ | (refine off_cons (by k_asm) (by k_mem) (by k_mem) (by (intro e; have e9 := congrArg Obj.cls e; first | (simp at e9; done) | ((rename Obj.cls _ = Value.type "tuple_iterator" => hc9); rw [hc9] at e9; simp at e9; done))) (by k_all)) | (refine List.forall_mem_cons.mpr ⟨(by first | assumption | k_ne), (by k_all)⟩) | (refine List.forall_mem_append.mpr ⟨(by k_all), (by k_all)⟩)
  k_with "room" => ((have hcL9 := cLine_is); (simp only [units_in1, units_deeper, Around.mark_units, units_caller]); (try dsimp only [ktrTop]); omega)
  k_with "ne" => first | (refine neN ?_; (try dsimp only); omega) | ((try dsimp only); refine ne_cls (by k_asm) (by k_mem) (by k_mem) (by (intro e; have e9 := congrArg Obj.cls e; simp at e9; done)))
  exact trivial
theorem rg_F9_56 : True := by
  k_with_none
  k_with "all" => assumption
  k_with "enter" => (refine' code_def ?enk1 ?enk2 ?enk3 ?enk4 ?enk5 ?enkA ?enkF ?enkK ?enk6 ?enk7 ?enk8 ?enk9 ?enkB ?_ ?enc2 ?enc3 ?enc4 ?enc5; (case enkA => exact rfl); (case enkF => exact rfl); (case enkK => first | exact rfl | assumption); (case enk1 => k_asm); (case enk2 => k_asm); (case enk3 => k_asm); (case enk4 => k_asm); (case enk5 => k_asm); (case enk6 => k_is); (case enk7 => k_is); (case enk8 => ktr_room); (case enk9 => first | exact BindsTo.of_eq rfl | exact binds_K (by k_in) rfl (by k_is) rfl rfl rfl); (case enc5 => decide); (case enkB => exact locs rfl); (case enc2 => exact rfl); (case enc3 => exact rfl); (case enc4 => exact rfl); k_whole; intro g' L' h' FG' F' N' B' X' T'; (try dsimp only); (try k_fold))
  k_with "my leaving ref" => (k_here; k_dflt (first | (refine leave_onR (by assumption) (by k_asm) (by k_asm) (by k_asm) ?_; k_whole; intro h' R' _ U'; (try dsimp only)) | (refine leave_we (by k_asm) (by k_asm) (by k_asm) ?_ (by exact rfl); k_whole; intro h' R' U'; (try dsimp only))))
  k_with "all" => first | assumption | exact List.forall_mem_nil _ | (refine off_cons (by k_asm) (by k_mem) (by k_mem) (by (intro e; have e9 := congrArg Obj.cls e; first | (simp at e9; done) | ((rename Obj.cls _ = Value.type "tuple_iterator" => hc9); rw [hc9] at e9; simp at e9; done))) (by k_all)) | (refine List.forall_mem_cons.mpr ⟨(by first | assumption | k_ne), (by k_all)⟩) | (refine List.forall_mem_append.mpr ⟨(by k_all), (by k_all)⟩)
  k_with "room" => ((have hcL9 := cLine_is); (simp only [units_in1, units_deeper, Around.mark_units, units_caller]); (try dsimp only [ktrTop]); omega)
  k_with "ne" => first | (refine neN ?_; (try dsimp only); omega) | ((try dsimp only); refine ne_cls (by k_asm) (by k_mem) (by k_mem) (by (intro e; have e9 := congrArg Obj.cls e; simp at e9; done)))
  k_with "my exec While BoolOp cons nil" => (k_here; refine Stopped.at_ ?_)
  k_with "my exec While Compare cons nil" => (k_here; refine Stopped.at_ ?_)
  k_with "my exec While Name cons nil" => (k_here; refine Stopped.at_ ?_)
  k_with "my exec For Name Call cons nil" => (k_here; k_extra "for")
  k_with "my exec For Name Name cons nil" => (k_here; k_extra "for")
  k_with "my exec For Tuple Tuple cons nil" => (k_here; k_extra "for")
  k_with "my exec While Call cons nil" => (k_here; refine Stopped.at_ ?_)
  k_with "my compareOp In str ref" => (k_here; (with_reducible show wpAny _ _ (compareOp CmpOp.In (Value.str _ _) (Value.ref _)) _ _ _); k_dflt (refine in_topK (by k_asm) (by k_asm) (by k_is) (by repeat constructor) ?_; k_whole))
  k_with "my exec Raise some none" => (k_here; k_dflt (refine raise_stmt rfl ?_))
  k_with "my RaiseAt" => (k_here; k_dflt (refine raise_at (by k_asm) (by k_asm) (by k_asm) ?_; k_whole))
  k_with "my exec For Name Call cons nil" => (k_here; (rename Fr _ _ _ _ => lF'); (with_unfolding_all refine For_invVF lF' (by exact rfl) (by exact rfl) ?_; k_whole))
  k_with "my exec For Name Name cons nil" => (k_here; (rename Fr _ _ _ _ => lF'); (with_unfolding_all refine For_invVF lF' (by exact rfl) (by exact rfl) ?_; k_whole))
  k_with "my pyIter ref" => (k_here; refine Stopped.at_ ?_)
  k_with "my pyIter str" => (k_here; refine Stopped.at_ ?_)
  exact trivial
section
variable {w : World} {p : Program} {loose : List Str} {mean : ExcName → Option Value} {mg mb : Str → Option Value} {dp un : Nat} {gd : Option (List Code)} {cn : Str} {cs : Scope} {a : Addr} {ccd : Value} {cl : List (Str × Addr)} {outer : List Env} {A₀ : Around} {base h₀ : Heap} {L : Addr} {m : Str → Option Value} {news : List (Addr × Obj)} {s : Shared} {Q E : Value → Shared → Prop}
  (B : Below A₀ base outer h₀) (F : Fr h₀ L s.heap m) (X : (kk.heap_1 w.params).In h₀)
  (N : News h₀ L s.heap news) (Tp : Top p loose mean mg mb h₀) (hk : cs.kind = .function)
include B F X N Tp hk
set_option maxHeartbeats 4000000 in
theorem moved_spec {q : Addr} {l c : Int} {t1 t2 ty : Tok} {y : Str} (hq : (q, tupO #[.int l t1, .int c t2]) ∈ news) (hd : dp + 3 < recursionLimit)
    (hret : ∀ h' tk' q' t1' t2', Fr h₀ L h' m → News h₀ L h' ((q', tupO #[.int (mvs y.cps.toList (l, c)).1 t1', .int (mvs y.cps.toList (l, c)).2 t2']) :: news) → (∀ p ∈ news, p.1 < q') → Q (.ref q') { s with heap := h', toks := tk' }) :
    wpAny (model PySem.Challenge.pw_np0234_01 w) (ktrTop dp un gd cn cs L a ccd cl outer) (call (.ref 324) [.ref q, .str y ty]) Q E s := by
  have N2 : News h₀ L s.heap ((q, tupO #[.int l t1, .int c t2]) :: news) := fun p hp => by
    rcases List.mem_cons.mp hp with rfl | hp
    · exact N _ hq
    · exact N _ hp
  refine wpAny_call ?_
  k_dflt k_extra "enter"
  k_steps
  refine Stopped.go ?_
  refine for_str (σ := (Int × Int × Tok × Tok) × (Str → Option Value)) (by rfl) (fun x => x.2) (fun _ => news) (fun i x => (x.1.1, x.1.2.1) = mvs (y.cps.toList.take i) (l, c) ∧ x.2 (Str.ofString "line") = some (.int x.1.1 x.1.2.2.1) ∧ x.2 (Str.ofString "column") = some (.int x.1.2.1 x.1.2.2.2)) ((l, c, _, _), _) (by k_asm) (by first | k_asm | exact news_tail (by k_asm)) ⟨rfl, by rfl, by rfl⟩ ?_ ?_
  · rintro I i c' u ⟨⟨l', c2, tl, tc⟩, uu⟩ h₁ tk₁ own hi ⟨hp, e1, e2⟩ hown _ hI F₁ N₁
    dsimp only at F₁ N₁ hp e1 e2 hI
    have F₂ := Fr_know2 (v1 := Str.ofString "line") (v2 := Str.ofString "column") F₁ (by rw [if_neg (by decide +kernel)]; exact e1) (by rw [if_neg (by decide +kernel)]; exact e2)
    clear F₁
    have hs := take_snoc (x := y.cps.toList) (i := i) (c := c') (by simpa using hi)
    k_steps
    · rename (_ == Str.ofString "\n") = true => h1
      rename Fr _ _ _ _ => F3
      exact ForEnd.next ((l' + 1, 1, _, _), _) F3 (fun _ _ => rfl) (by first | k_asm | exact news_tail (by k_asm)) hI ⟨by rw [hs, mvs_snoc, ← hp, mv_nl h1], by rfl, by rfl⟩
    · rename (_ == Str.ofString "\t") = true => h1
      rename Fr _ _ _ _ => F3
      exact ForEnd.next ((l', c2 + 8 - (c2 - 1).fmod 8, _, _), _) F3 (fun _ _ => rfl) (by first | k_asm | exact news_tail (by k_asm)) hI ⟨by rw [hs, mvs_snoc, ← hp, mv_tab h1], by rfl, by rfl⟩
    · rename (_ == Str.ofString "\n") = false => h1
      rename (_ == Str.ofString "\t") = false => h2
      rename Fr _ _ _ _ => F3
      exact ForEnd.next ((l', c2 + 1, _, _), _) F3 (fun _ _ => rfl) (by first | k_asm | exact news_tail (by k_asm)) hI ⟨by rw [hs, mvs_snoc, ← hp, mv_other h1 h2], by rfl, by rfl⟩
  · rintro ⟨⟨l', c2, tl, tc⟩, uu⟩ u h₁ tk₁ ⟨hp, e1, e2⟩ F₁ N₁
    dsimp only at F₁ N₁ hp e1 e2
    have F₂ := Fr_know2 (v1 := Str.ofString "line") (v2 := Str.ofString "column") F₁ (by rw [if_neg (by decide +kernel)]; exact e1) (by rw [if_neg (by decide +kernel)]; exact e2)
    clear F₁
    have e : y.cps.toList.take y.cps.size = y.cps.toList := List.take_of_length_le (by simp)
    rw [e] at hp
    rw [← hp] at hret
    k_steps
    exact hret _ _ _ _ _ (by k_asm) (by k_asm) (by assumption)
end
theorem rg_F10_57 : True := by
  k_with_none
  k_with "all" => assumption
  k_with "enter" => (refine' code_def ?enk1 ?enk2 ?enk3 ?enk4 ?enk5 ?enkA ?enkF ?enkK ?enk6 ?enk7 ?enk8 ?enk9 ?enkB ?_ ?enc2 ?enc3 ?enc4 ?enc5; (case enkA => exact rfl); (case enkF => exact rfl); (case enkK => first | exact rfl | assumption); (case enk1 => k_asm); (case enk2 => k_asm); (case enk3 => k_asm); (case enk4 => k_asm); (case enk5 => k_asm); (case enk6 => k_is); (case enk7 => k_is); (case enk8 => ktr_room); (case enk9 => first | exact BindsTo.of_eq rfl | exact binds_K (by k_in) rfl (by k_is) rfl rfl rfl); (case enc5 => decide); (case enkB => exact locs rfl); (case enc2 => exact rfl); (case enc3 => exact rfl); (case enc4 => exact rfl); k_whole; intro g' L' h' FG' F' N' B' X' T'; (try dsimp only); (try k_fold))
  k_with "my leaving ref" => (k_here; k_dflt (first | (refine leave_onR (by assumption) (by k_asm) (by k_asm) (by k_asm) ?_; k_whole; intro h' R' _ U'; (try dsimp only)) | (refine leave_we (by k_asm) (by k_asm) (by k_asm) ?_ (by exact rfl); k_whole; intro h' R' U'; (try dsimp only))))
  k_with "all" => first | assumption | exact List.forall_mem_nil _ | (refine off_cons (by k_asm) (by k_mem) (by k_mem) (by (intro e; have e9 := congrArg Obj.cls e; first | (simp at e9; done) | ((rename Obj.cls _ = Value.type "tuple_iterator" => hc9); rw [hc9] at e9; simp at e9; done))) (by k_all)) | (refine List.forall_mem_cons.mpr ⟨(by first | assumption | k_ne), (by k_all)⟩) | (refine List.forall_mem_append.mpr ⟨(by k_all), (by k_all)⟩)
  k_with "room" => ((have hcL9 := cLine_is); (simp only [units_in1, units_deeper, Around.mark_units, units_caller]); (try dsimp only [ktrTop]); omega)
  k_with "ne" => first | (refine neN ?_; (try dsimp only); omega) | ((try dsimp only); refine ne_cls (by k_asm) (by k_mem) (by k_mem) (by (intro e; have e9 := congrArg Obj.cls e; simp at e9; done)))
  exact trivial
theorem btw_str : ∀ j, j < 9 → [Str.ofString " ", Str.ofString "\n", Str.ofString "\n   ", Str.ofString "\t", Str.ofString " \t ", Str.ofString " -- --> c\n", Str.ofString "{- a {- b -}\n-- -} ", Str.ofString "{--} ", Str.ofString "\n\n\t"].getD j Str.empty = ⟨(bCodes j).toArray⟩ := by decide +kernel
theorem rg_F10_58 : True := by
  k_with_none
  k_with "all" => assumption
  k_with "enter" => (refine' code_def ?enk1 ?enk2 ?enk3 ?enk4 ?enk5 ?enkA ?enkF ?enkK ?enk6 ?enk7 ?enk8 ?enk9 ?enkB ?_ ?enc2 ?enc3 ?enc4 ?enc5; (case enkA => exact rfl); (case enkF => exact rfl); (case enkK => first | exact rfl | assumption); (case enk1 => k_asm); (case enk2 => k_asm); (case enk3 => k_asm); (case enk4 => k_asm); (case enk5 => k_asm); (case enk6 => k_is); (case enk7 => k_is); (case enk8 => ktr_room); (case enk9 => first | exact BindsTo.of_eq rfl | exact binds_K (by k_in) rfl (by k_is) rfl rfl rfl); (case enc5 => decide); (case enkB => exact locs rfl); (case enc2 => exact rfl); (case enc3 => exact rfl); (case enc4 => exact rfl); k_whole; intro g' L' h' FG' F' N' B' X' T'; (try dsimp only); (try k_fold))
  k_with "my leaving ref" => (k_here; k_dflt (first | (refine leave_onR (by assumption) (by k_asm) (by k_asm) (by k_asm) ?_; k_whole; intro h' R' _ U'; (try dsimp only)) | (refine leave_we (by k_asm) (by k_asm) (by k_asm) ?_ (by exact rfl); k_whole; intro h' R' U'; (try dsimp only))))
  k_with "all" => first | assumption | exact List.forall_mem_nil _ | (refine off_cons (by k_asm) (by k_mem) (by k_mem) (by (intro e; have e9 := congrArg Obj.cls e; first | (simp at e9; done) | ((rename Obj.cls _ = Value.type "tuple_iterator" => hc9); rw [hc9] at e9; simp at e9; done))) (by k_all)) | (refine List.forall_mem_cons.mpr ⟨(by first | assumption | k_ne), (by k_all)⟩) | (refine List.forall_mem_append.mpr ⟨(by k_all), (by k_all)⟩)
  k_with "room" => ((have hcL9 := cLine_is); (simp only [units_in1, units_deeper, Around.mark_units, units_caller]); (try dsimp only [ktrTop]); omega)
  k_with "ne" => first | (refine neN ?_; (try dsimp only); omega) | ((try dsimp only); refine ne_cls (by k_asm) (by k_mem) (by k_mem) (by (intro e; have e9 := congrArg Obj.cls e; simp at e9; done)))
  k_with "my exec While BoolOp cons nil" => (k_here; refine Stopped.at_ ?_)
  k_with "my exec While Compare cons nil" => (k_here; refine Stopped.at_ ?_)
  k_with "my exec While Name cons nil" => (k_here; refine Stopped.at_ ?_)
  k_with "my exec For Name Call cons nil" => (k_here; k_extra "for")
  k_with "my exec For Name Name cons nil" => (k_here; k_extra "for")
  k_with "my exec For Tuple Tuple cons nil" => (k_here; k_extra "for")
  k_with "my exec While Call cons nil" => (k_here; refine Stopped.at_ ?_)
  k_with "my compareOp In str ref" => (k_here; (with_reducible show wpAny _ _ (compareOp CmpOp.In (Value.str _ _) (Value.ref _)) _ _ _); k_dflt (refine in_topK (by k_asm) (by k_asm) (by k_is) (by repeat constructor) ?_; k_whole))
  k_with "my exec Raise some none" => (k_here; k_dflt (refine raise_stmt rfl ?_))
  k_with "my RaiseAt" => (k_here; k_dflt (refine raise_at (by k_asm) (by k_asm) (by k_asm) ?_; k_whole))
  k_with "my call ref" => (k_here; (with_reducible show wpAny _ _ (call (Value.ref 305) _ _) _ _ _); k_dflt (refine ltake_spec (by k_asm) (by k_asm) (by k_asm) (news_pick1 (by k_asm) (by (repeat (first | exact Pick.head | apply Pick.tail)))) (by k_asm) (by first | exact rfl | assumption) (by k_all) (by ktr_room) (by omega) (by omega) (by assumption) (by assumption) ?_; k_whole; intro h' tk' t' va' vb' t1' t2' cap' v' F' N' hb0' hb1' hv0' hv1'; (try dsimp only); (try k_sweep); (try k_fold)))
  exact trivial
section
variable {w : World} {p : Program} {loose : List Str} {mean : ExcName → Option Value} {mg mb : Str → Option Value} {dp un : Nat} {gd : Option (List Code)} {cn : Str} {cs : Scope} {a : Addr} {ccd : Value} {cl : List (Str × Addr)} {outer : List Env} {A₀ : Around} {base h₀ : Heap} {L : Addr} {m : Str → Option Value} {news : List (Addr × Obj)} {s : Shared} {Q E : Value → Shared → Prop}
  (B : Below A₀ base outer h₀) (F : Fr h₀ L s.heap m) (X : (kk.heap_1 w.params).In h₀)
variable {so : Addr} {va vb : Int} {t1 t2 : Tok} {cap : Nat} {rest : List (Addr × Obj)}
  (N : News h₀ L s.heap ((so, listOf #[.int va t1, .int vb t2] cap) :: rest)) (Tp : Top p loose mean mg mb h₀) (hk : cs.kind = .function) (hoff : ∀ p ∈ rest, p.1 ≠ so)
include B F X N Tp hk hoff
set_option maxHeartbeats 4000000 in
theorem lbetween_spec (hd : dp + 5 < recursionLimit) (hb0 : 0 ≤ vb) (hb1 : vb < 2147483647)
    (hret : ∀ h' tk' t' va' vb' t1' t2' cap' j, Fr h₀ L h' m → News h₀ L h' ((so, listOf #[.int va' t1', .int vb' t2'] cap') :: rest) → 0 ≤ vb' → vb' < 2147483647 → j < 9 → Q (.str ⟨(bCodes j).toArray⟩ t') { s with heap := h', toks := tk' }) :
    wpAny (model PySem.Challenge.pw_np0234_01 w) (ktrTop dp un gd cn cs L a ccd cl outer) (call (.ref 317) [.ref so]) Q E s := by
  refine wpAny_call ?_
  k_dflt k_extra "enter"
  k_steps
  rename 0 ≤ _ => h0
  rename @LT.lt Int _ _ 9 => h9
  refine q_eq (hret _ _ _ _ _ _ _ _ _ (by k_asm) (by first | k_asm | exact news_tail (by k_asm) | (refine' cb_drop ?cbN ?cbS; (case cbN => assumption); (case cbS => kcj_all))) (by assumption) (by assumption) ?_) (congrArg (fun x => Value.str x _) (btw_str _ ?_))
  · omega
  · omega
end
/-- two-part rows that are told in the ledger -/
theorem rg_N10_59 : True := by
  k_with_none
  k_with "all" => assumption
  k_with "enter" => (refine' code_def ?enk1 ?enk2 ?enk3 ?enk4 ?enk5 ?enkA ?enkF ?enkK ?enk6 ?enk7 ?enk8 ?enk9 ?enkB ?_ ?enc2 ?enc3 ?enc4 ?enc5; (case enkA => exact rfl); (case enkF => exact rfl); (case enkK => first | exact rfl | assumption); (case enk1 => k_asm); (case enk2 => k_asm); (case enk3 => k_asm); (case enk4 => k_asm); (case enk5 => k_asm); (case enk6 => k_is); (case enk7 => k_is); (case enk8 => ktr_room); (case enk9 => first | exact BindsTo.of_eq rfl | exact binds_K (by k_in) rfl (by k_is) rfl rfl rfl); (case enc5 => decide); (case enkB => exact locs rfl); (case enc2 => exact rfl); (case enc3 => exact rfl); (case enc4 => exact rfl); k_whole; intro g' L' h' FG' F' N' B' X' T'; (try dsimp only); (try k_fold))
  k_with "my leaving ref" => (k_here; k_dflt (first | (refine leave_onR (by assumption) (by k_asm) (by k_asm) (by k_asm) ?_; k_whole; intro h' R' _ U'; (try dsimp only)) | (refine leave_we (by k_asm) (by k_asm) (by k_asm) ?_ (by exact rfl); k_whole; intro h' R' U'; (try dsimp only))))
  k_with "all" => first | assumption | exact List.forall_mem_nil _ | (refine off_cons (by k_asm) (by k_mem) (by k_mem) (by (intro e; have e9 := congrArg Obj.cls e; first | (simp at e9; done) | ((rename Obj.cls _ = Value.type "tuple_iterator" => hc9); rw [hc9] at e9; simp at e9; done))) (by k_all)) | (refine List.forall_mem_cons.mpr ⟨(by first | assumption | k_ne), (by k_all)⟩) | (refine List.forall_mem_append.mpr ⟨(by k_all), (by k_all)⟩)
  k_with "room" => ((have hcL9 := cLine_is); (simp only [units_in1, units_deeper, Around.mark_units, units_caller]); (try dsimp only [ktrTop]); omega)
  k_with "ne" => first | (refine neN ?_; (try dsimp only); omega) | ((try dsimp only); refine ne_cls (by k_asm) (by k_mem) (by k_mem) (by (intro e; have e9 := congrArg Obj.cls e; simp at e9; done)))
  exact trivial
inductive PW (wl : List (Addr × Obj)) : List Value → List (Str × Str) → Prop
  | nil : PW wl [] []
  | cons {a : Addr} {t1 t2 : Tok} {x : Str × Str} {vs : List Value} {r : List (Str × Str)} : (a, tupO #[.str x.1 t1, .str x.2 t2]) ∈ wl → PW wl vs r → PW wl (.ref a :: vs) (x :: r)
theorem PW.mono {wl wl' : List (Addr × Obj)} (hs : ∀ p ∈ wl, p ∈ wl') {vs : List Value} {r : List (Str × Str)} (h : PW wl vs r) : PW wl' vs r := by
  induction h with
  | nil => exact .nil
  | cons h1 _ ih => exact .cons (hs _ h1) ih
theorem PW.length {wl : List (Addr × Obj)} {vs : List Value} {r : List (Str × Str)} (h : PW wl vs r) : vs.length = r.length := by
  induction h with
  | nil => rfl
  | cons _ _ ih => rw [List.length_cons, List.length_cons, ih]
theorem PW.get {wl : List (Addr × Obj)} {vs : List Value} {r : List (Str × Str)} (h : PW wl vs r) : ∀ (i : Nat) (v : Value), vs[i]? = some v → ∃ a t1 t2 x, v = .ref a ∧ r[i]? = some x ∧ (a, tupO #[.str x.1 t1, .str x.2 t2]) ∈ wl := by
  induction h with
  | nil => intro i v h; simp at h
  | cons h1 _ ih =>
    intro i v h
    cases i with
    | zero => simp at h; subst h; exact ⟨_, _, _, _, rfl, rfl, h1⟩
    | succ i => exact ih i v (by simpa using h)
inductive Rows : List Expr → List (Str × Str) → Prop
  | nil : Rows [] []
  | cons {x y : Str} {i j k p q o} {r : List Expr} {ds : List (Str × Str)} : Rows r ds → Rows (.Tuple [.Constant (.str x) i p, .Constant (.str y) j q] k o :: r) ((x, y) :: ds)
section
variable {M : Model} {A : Around} {E : Value → Shared → Prop} {h₀ : Heap} {L : Addr} {m : Str → Option Value} {env : Env}
theorem rows_pair {pos : Pos} {rows : List Expr} {ds : List (Str × Str)} (hr : Rows rows ds) : ∀ (s : Shared) (news : List (Addr × Obj)) (Q : List Value → Shared → Prop), Fr h₀ L s.heap m → News h₀ L s.heap news →
    (∀ vs wl h' tk, Fr h₀ L h' m → News h₀ L h' (wl ++ news) → PW wl vs ds → (∀ p ∈ wl, ∀ q ∈ news, q.1 < p.1) → Q vs { s with heap := h', toks := tk }) → wpAny M A (spliced (backTo pos (starEach rows env))) Q E s := by
  induction hr with
  | nil => exact fun s news Q F N h => spliced_none (h [] [] s.heap s.toks F N .nil (fun _ h => nomatch h))
  | @cons x y _ _ _ _ _ _ r ds' _ ih =>
    intro s news Q F N h
    refine spliced_more ?_
    refine Tuple_ (spliced_more ?_)
    refine eval_litDatum (d := .str x) rfl fun v tk hv => ?_
    refine spliced_more ?_
    refine eval_litDatum (d := .str y) rfl fun v2 tk2 hv2 => ?_
    refine spliced_none ?_
    obtain ⟨t1, rfl⟩ : ∃ t, v = .str x t := by have := hv s.heap; cases this; exact ⟨_, rfl⟩
    obtain ⟨t2, rfl⟩ : ∃ t, v2 = .str y t := by have := hv2 s.heap; cases this; exact ⟨_, rfl⟩
    refine newTuple_N (s := { s with toks := _ }) F N (fun h' F' N' => ?_) (by show 2 ≤ sizeLine; decide)
    refine ih _ _ _ F' N' fun vs wl h₂ tk F₂ N₂ hp hfr => ?_
    have e : wl ++ ((s.heap.objs.size, tupO #[.str x t1, .str y t2]) :: news) = (wl ++ [(s.heap.objs.size, tupO #[.str x t1, .str y t2])]) ++ news := by simp
    refine h _ (wl ++ [(s.heap.objs.size, tupO #[.str x t1, .str y t2])]) h₂ tk F₂ (e ▸ N₂) (.cons (List.mem_append.mpr (.inr (.head _))) (hp.mono fun p hp => List.mem_append.mpr (.inl hp))) ?_
    intro p hp q hq
    rcases List.mem_append.mp hp with hp | hp
    · exact hfr p hp q (.tail _ hq)
    · rw [List.mem_singleton.mp hp]; exact Heap.lt_size (N q hq).1
theorem list_pair {pos : Pos} {rows : List Expr} {ds : List (Str × Str)} {s : Shared} {news : List (Addr × Obj)} {Q : Value → Shared → Prop} (hr : Rows rows ds) (hl : ds.length ≤ 100) (F : Fr h₀ L s.heap m) (N : News h₀ L s.heap news)
    (h : ∀ l vs wl h' tk, Fr h₀ L h' m → News h₀ L h' ((l, W.listOf vs.toArray 0) :: (wl ++ news)) → PW wl vs ds → (∀ p ∈ wl, ∀ q ∈ news, q.1 < p.1) → (∀ p ∈ wl ++ news, p.1 < l) → Q (.ref l) { s with heap := h', toks := tk }) :
    wpAny M A (eval (.List rows pos) env) Q E s := by
  refine List_ (rows_pair hr s news _ F N fun vs wl h' tk F' N' hp hfr => ?_)
  exact newList_K (s := { s with heap := h', toks := tk }) F' N' (fun l h₂ F₂ N₂ hlt => h l vs wl h₂ tk F₂ N₂ hp hfr hlt) (by rw [hp.length, sizeLine_eq]; omega)
end
/-- four-part rows that are told in the ledger -/
noncomputable abbrev QW := Str × Str × Str × PV
inductive TW (wl : List (Addr × Obj)) : List Value → List QW → Prop
  | nil : TW wl [] []
  | cons {a : Addr} {t1 t2 t3 t4 : Tok} {x : QW} {vs : List Value} {r : List QW} : (a, tupO #[.str x.1 t1, .str x.2.1 t2, .str x.2.2.1 t3, pvV x.2.2.2 t4]) ∈ wl → TW wl vs r → TW wl (.ref a :: vs) (x :: r)
theorem TW.mono {wl wl' : List (Addr × Obj)} (hs : ∀ p ∈ wl, p ∈ wl') {vs : List Value} {r : List QW} (h : TW wl vs r) : TW wl' vs r := by
  induction h with
  | nil => exact .nil
  | cons h1 _ ih => exact .cons (hs _ h1) ih
theorem TW.append {wl : List (Addr × Obj)} {vs vs' : List Value} {r r' : List QW} (h : TW wl vs r) (h' : TW wl vs' r') : TW wl (vs ++ vs') (r ++ r') := by
  induction h with
  | nil => exact h'
  | cons h1 _ ih => exact .cons h1 ih
theorem TW.length {wl : List (Addr × Obj)} {vs : List Value} {r : List QW} (h : TW wl vs r) : vs.length = r.length := by
  induction h with
  | nil => rfl
  | cons _ _ ih => rw [List.length_cons, List.length_cons, ih]
theorem TW.get {wl : List (Addr × Obj)} {vs : List Value} {r : List QW} (h : TW wl vs r) : ∀ (i : Nat) (x : QW), r[i]? = some x → ∃ a t1 t2 t3 t4, vs[i]? = some (.ref a) ∧ (a, tupO #[.str x.1 t1, .str x.2.1 t2, .str x.2.2.1 t3, pvV x.2.2.2 t4]) ∈ wl := by
  induction h with
  | nil => intro i v h; simp at h
  | cons h1 _ ih =>
    intro i v h
    cases i with
    | zero => simp at h; subst h; exact ⟨_, _, _, _, _, rfl, h1⟩
    | succ i => simpa using ih i v (by simpa using h)
noncomputable def dbl (x : Str × Str) : QW := (x.1, x.2, x.1, .none)
section
variable {prog : Program} {w : World} {A : Around} {E : Value → Shared → Prop} {h₀ : Heap} {L : Addr} {m : Str → Option Value} {env : Env}
open LCp LCg
theorem comp_pair {scope : Scope} {cl : List (Str × Addr)} {pl : Addr} {vs : List Value} {ds : List (Str × Str)} {base : List (Addr × Obj)} {elt : Expr} {x x₂ : Str} {s : Shared} {Fin : List Value → List (Addr × Obj) → Prop} (hp : PW base vs ds) (hS : SrcAt h₀ pl vs.toArray base)
    (el : ∀ v₁ v₂ C oC m₂ all h tk (Q : Value → Shared → Prop) (E' : Value → Shared → Prop), NsObj oC m₂ → m₂ x = some v₁ → m₂ x₂ = some v₂ → (C, oC) ∈ all → Fr h₀ L h m → News h₀ L h all →
      (∀ q h' tk', Fr h₀ L h' m → News h₀ L h' ((q, tupO #[v₁, v₂, v₁, .none]) :: all) → (∀ p ∈ all, p.1 < q) → Q (.ref q) { s with heap := h', toks := tk' }) →
      wpAny (model prog w) A (eval elt (compEnvC scope cl C env)) Q E' { s with heap := h, toks := tk })
    (fin : ∀ ys wl, TW wl ys (ds.map dbl) → (∀ p ∈ wl, ∀ q ∈ base, q.1 < p.1) → Fin ys (wl ++ base)) :
    ∀ (k i : Nat) (ys : List Value) (wl : List (Addr × Obj)), k + i = ds.length → TW wl ys ((ds.take i).map dbl) → (∀ p ∈ wl, ∀ q ∈ base, q.1 < p.1) →
      CompRestP prog w A h₀ L m env elt x x₂ scope cl s (SrcAt h₀ pl vs.toArray) (fun i v => vs.toArray[i]? = some v) Fin k i ys (wl ++ base)
  | 0, i, ys, wl, hi, ht, hfr => .zero (by
    rw [List.take_of_length_le (by omega)] at ht
    exact fin ys wl ht hfr)
  | k + 1, i, ys, wl, hi, ht, hfr => .succ (fun v hv => by
    obtain ⟨a, t1, t2, y, rfl, hy, hm⟩ := hp.get i v (by simpa using hv)
    refine ⟨a, _, _, _, 0, rfl, List.mem_append.mpr (.inr hm), rfl, rfl, ?_⟩
    intro I oI C oC D m₂ h tk E' hC h1 h2 F N off hne
    refine el _ _ C oC m₂ _ h tk _ E' hC h1 h2 (.tail _ (.head _)) F N fun q h' tk' F' N' hlt => ?_
    have off3 := off.mem
    refine ⟨h', tk', ((q, tupO #[.str y.1 t1, .str y.2 t2, .str y.1 t1, .none]) :: wl) ++ base, rfl, F', fun p hp => N' p ?_, Off3.of fun p hp => ?_, ?_, ?_⟩
    · rcases List.mem_cons.mp hp with rfl | hp
      · exact .tail _ (.head _)
      rcases List.mem_cons.mp hp with rfl | hp
      · exact .tail _ (.tail _ (.head _))
      rcases List.mem_cons.mp hp with rfl | hp
      · exact .tail _ (.tail _ (.tail _ (.head _)))
      rcases List.mem_cons.mp hp with rfl | hp
      · exact .head _
      · exact .tail _ (.tail _ (.tail _ (.tail _ hp)))
    · rcases List.mem_cons.mp hp with rfl | hp
      · exact ⟨Nat.ne_of_gt (hlt _ (.head _)), Nat.ne_of_gt (hlt _ (.tail _ (.head _))), Nat.ne_of_gt (hlt _ (.tail _ (.tail _ (.head _))))⟩
      · exact off3 p hp
    · rcases hS with hS | ⟨o, hm, r⟩
      · exact .inl hS
      · exact .inr ⟨o, List.mem_append.mpr (.inr hm), r⟩
    · refine comp_pair hp hS el fin k (i + 1) (ys ++ [.ref q]) ((q, tupO #[.str y.1 t1, .str y.2 t2, .str y.1 t1, .none]) :: wl) (by omega) ?_ ?_
      · have e : ds.take (i + 1) = ds.take i ++ [y] := by rw [List.take_add_one, hy]; rfl
        rw [e, List.map_append]
        exact (ht.mono fun p hp => .tail _ hp).append (.cons (x := dbl y) (t1 := t1) (t2 := t2) (t3 := t1) (t4 := 0) (.head _) .nil)
      · intro p hp q' hq'
        rcases List.mem_cons.mp hp with rfl | hp
        · exact hlt _ (.tail _ (.tail _ (.tail _ (List.mem_append.mpr (.inr hq')))))
        · exact hfr p hp q' hq')
end
theorem rg_N11_60 : True := by
  k_with_none
  k_with "all" => assumption
  k_with "enter" => (refine' code_def ?enk1 ?enk2 ?enk3 ?enk4 ?enk5 ?enkA ?enkF ?enkK ?enk6 ?enk7 ?enk8 ?enk9 ?enkB ?_ ?enc2 ?enc3 ?enc4 ?enc5; (case enkA => exact rfl); (case enkF => exact rfl); (case enkK => first | exact rfl | assumption); (case enk1 => k_asm); (case enk2 => k_asm); (case enk3 => k_asm); (case enk4 => k_asm); (case enk5 => k_asm); (case enk6 => k_is); (case enk7 => k_is); (case enk8 => ktr_room); (case enk9 => first | exact BindsTo.of_eq rfl | exact binds_K (by k_in) rfl (by k_is) rfl rfl rfl); (case enc5 => decide); (case enkB => exact locs rfl); (case enc2 => exact rfl); (case enc3 => exact rfl); (case enc4 => exact rfl); k_whole; intro g' L' h' FG' F' N' B' X' T'; (try dsimp only); (try k_fold))
  k_with "my leaving ref" => (k_here; k_dflt (first | (refine leave_onR (by assumption) (by k_asm) (by k_asm) (by k_asm) ?_; k_whole; intro h' R' _ U'; (try dsimp only)) | (refine leave_we (by k_asm) (by k_asm) (by k_asm) ?_ (by exact rfl); k_whole; intro h' R' U'; (try dsimp only))))
  k_with "all" => first | assumption | exact List.forall_mem_nil _ | (refine off_cons (by k_asm) (by k_mem) (by k_mem) (by (intro e; have e9 := congrArg Obj.cls e; first | (simp at e9; done) | ((rename Obj.cls _ = Value.type "tuple_iterator" => hc9); rw [hc9] at e9; simp at e9; done))) (by k_all)) | (refine List.forall_mem_cons.mpr ⟨(by first | assumption | k_ne), (by k_all)⟩) | (refine List.forall_mem_append.mpr ⟨(by k_all), (by k_all)⟩)
  k_with "room" => ((have hcL9 := cLine_is); (simp only [units_in1, units_deeper, Around.mark_units, units_caller]); (try dsimp only [ktrTop]); omega)
  k_with "ne" => first | (refine neN ?_; (try dsimp only); omega) | ((try dsimp only); refine ne_cls (by k_asm) (by k_mem) (by k_mem) (by (intro e; have e9 := congrArg Obj.cls e; simp at e9; done)))
  exact trivial
noncomputable def PLAIN : List (Str × Str) := [((Str.ofString "x'"), (Str.ofString "var")), ((Str.ofString "_y"), (Str.ofString "var")), ((Str.ofString "case"), (Str.ofString "key")), ((Str.ofString "_"), (Str.ofString "key")), ((Str.ofString "Con2"), (Str.ofString "con")), ((Str.ofString "-->"), (Str.ofString "varsym")), ((Str.ofString "|--"), (Str.ofString "varsym")), ((Str.ofString "!"), (Str.ofString "varsym")), ((Str.ofString ":+"), (Str.ofString "consym")), ((Str.ofString ":"), (Str.ofString "op")), ((Str.ofString "\\"), (Str.ofString "op")), ((Str.ofString ".."), (Str.ofString "op")), ((Str.ofString "=>"), (Str.ofString "op")), ((Str.ofString "("), (Str.ofString "special")), ((Str.ofString "`"), (Str.ofString "special")), ((Str.ofString "}"), (Str.ofString "special")), ((Str.ofString "cases"), (Str.ofString "var"))]
noncomputable def NINE : List QW := [((Str.ofString "M.x"), (Str.ofString "var"), (Str.ofString "x"), (.str (Str.ofString "M"))), ((Str.ofString "A.B.C"), (Str.ofString "con"), (Str.ofString "C"), (.str (Str.ofString "A.B"))), ((Str.ofString "M.+."), (Str.ofString "varsym"), (Str.ofString "+."), (.str (Str.ofString "M"))), ((Str.ofString "M.:+"), (Str.ofString "consym"), (Str.ofString ":+"), (.str (Str.ofString "M"))), ((Str.ofString "0x1F"), (Str.ofString "int"), (Str.ofString "0x1F"), (.int 31)), ((Str.ofString "0O17"), (Str.ofString "int"), (Str.ofString "0O17"), (.int 15)), ((Str.ofString "120"), (Str.ofString "int"), (Str.ofString "120"), (.int 120)), ((Str.ofString "'\\n'"), (Str.ofString "char"), (Str.ofString "'\\n'"), (.str (Str.ofString "\n"))), ((Str.ofString "'\\''"), (Str.ofString "char"), (Str.ofString "'\\''"), (.str (Str.ofString "'")))]
noncomputable def ONE : List QW := [((Str.ofString "\"a\\10\\&9\\SOHb\\SO\\&H\\x41\\^A\\\"\""), (Str.ofString "text"), (Str.ofString "\"a\\10\\&9\\SOHb\\SO\\&H\\x41\\^A\\\"\""), (.str (Str.ofString "a\n9\x01b\x0eHA\x01\"")))]
noncomputable def WORDS : List QW := (PLAIN.map dbl ++ NINE) ++ ONE
theorem words_get : ∀ i, i < 27 → WORDS[i]? = some (⟨(wCodes i).toArray⟩, wKd i, wTold i, wPV i)
  | 0, _ => by kernel_rfl
  | 1, _ => by kernel_rfl
  | 2, _ => by kernel_rfl
  | 3, _ => by kernel_rfl
  | 4, _ => by kernel_rfl
  | 5, _ => by kernel_rfl
  | 6, _ => by kernel_rfl
  | 7, _ => by kernel_rfl
  | 8, _ => by kernel_rfl
  | 9, _ => by kernel_rfl
  | 10, _ => by kernel_rfl
  | 11, _ => by kernel_rfl
  | 12, _ => by kernel_rfl
  | 13, _ => by kernel_rfl
  | 14, _ => by kernel_rfl
  | 15, _ => by kernel_rfl
  | 16, _ => by kernel_rfl
  | 17, _ => by kernel_rfl
  | 18, _ => by kernel_rfl
  | 19, _ => by kernel_rfl
  | 20, _ => by kernel_rfl
  | 21, _ => by kernel_rfl
  | 22, _ => by kernel_rfl
  | 23, _ => by kernel_rfl
  | 24, _ => by kernel_rfl
  | 25, _ => by kernel_rfl
  | 26, _ => by kernel_rfl
  | n + 27, h => absurd h (by omega)
/-- the same, and the ledger holds nothing else -/
inductive TX : List (Addr × Obj) → List Value → List QW → Prop
  | nil : TX [] [] []
  | cons {a : Addr} {t1 t2 t3 t4 : Tok} {x : QW} {wl : List (Addr × Obj)} {vs : List Value} {r : List QW} : TX wl vs r → TX ((a, tupO #[.str x.1 t1, .str x.2.1 t2, .str x.2.2.1 t3, pvV x.2.2.2 t4]) :: wl) (.ref a :: vs) (x :: r)
theorem TW.exact {wl : List (Addr × Obj)} {vs : List Value} {r : List QW} (h : TW wl vs r) : ∃ wx, TX wx vs r ∧ ∀ p ∈ wx, p ∈ wl := by
  induction h with
  | nil => exact ⟨[], .nil, fun _ h => nomatch h⟩
  | @cons a t1 t2 t3 t4 x vs r h1 _ ih =>
    obtain ⟨wx, h2, h3⟩ := ih
    refine ⟨_, .cons (t1 := t1) (t2 := t2) (t3 := t3) (t4 := t4) h2, fun p hp => ?_⟩
    rcases List.mem_cons.mp hp with rfl | hp
    · exact h1
    · exact h3 p hp
theorem TX.tw {wl : List (Addr × Obj)} {vs : List Value} {r : List QW} (h : TX wl vs r) : TW wl vs r := by
  induction h with
  | nil => exact .nil
  | cons _ ih => exact .cons (.head _) (ih.mono fun p hp => .tail _ hp)
theorem TX.tup {wl : List (Addr × Obj)} {vs : List Value} {r : List QW} (h : TX wl vs r) : ∀ p ∈ wl, p.2.cls = .type "tuple" := by
  induction h with
  | nil => exact fun _ h => nomatch h
  | cons _ ih =>
    intro p hp
    rcases List.mem_cons.mp hp with rfl | hp
    · rfl
    · exact ih p hp
theorem lw_fin {h₀ h : Heap} {L l : Addr} {vs : List Value} {cap : Nat} {Z news : List (Addr × Obj)} (N : News h₀ L h ((l, W.listOf vs.toArray cap) :: Z)) (hT : TW Z vs WORDS) (hs : ∀ q ∈ news, q ∈ Z) (hl : AllLt l Z) :
    ∃ wx, News h₀ L h ((l, W.listOf vs.toArray cap) :: (wx ++ news)) ∧ TX wx vs WORDS ∧ ∀ q ∈ news, q.1 < l := by
  obtain ⟨wx, h2, h3⟩ := hT.exact
  refine ⟨wx, fun p hp => N p ?_, h2, fun q hq => lt_of_all hl q (hs q hq)⟩
  rcases List.mem_cons.mp hp with rfl | hp
  · exact .head _
  rcases List.mem_append.mp hp with hp | hp
  · exact .tail _ (h3 p hp)
  · exact .tail _ (hs p hp)
section
variable {prog : Program} {w : World} {A : Around} {E : Value → Shared → Prop} {s : Shared} {h₀ : Heap} {L a b : Addr} {m : Str → Option Value} {news : List (Addr × Obj)} {Q : Value → Shared → Prop}
theorem add_ledger {vs ws : List Value} {k1 k2 : Nat} (F : Fr h₀ L s.heap m) (N : News h₀ L s.heap news) (ma : (a, W.listOf vs.toArray k1) ∈ news) (mb : (b, W.listOf ws.toArray k2) ∈ news) (hsz : vs.length + ws.length ≤ 1000)
    (h : ∀ D h', Fr h₀ L h' m → News h₀ L h' ((D, W.listOf (vs ++ ws).toArray 0) :: news) → (∀ p ∈ news, p.1 < D) → Q (.ref D) { s with heap := h' }) : wpAny (model prog w) A (binaryOp .Add (.ref a) (.ref b)) Q E s :=
  add_lists F N ⟨_, (N _ ma).1, rfl, _, rfl⟩ ⟨_, (N _ mb).1, rfl, _, rfl⟩ (fun h' F' N' => h _ h' F' N' fun p hp => Heap.lt_size (N p hp).1) (by rw [sizeLine_eq]; omega)
end
theorem rg_F11_61 : True := by
  k_with_none
  k_with "all" => assumption
  k_with "enter" => (refine' code_def ?enk1 ?enk2 ?enk3 ?enk4 ?enk5 ?enkA ?enkF ?enkK ?enk6 ?enk7 ?enk8 ?enk9 ?enkB ?_ ?enc2 ?enc3 ?enc4 ?enc5; (case enkA => exact rfl); (case enkF => exact rfl); (case enkK => first | exact rfl | assumption); (case enk1 => k_asm); (case enk2 => k_asm); (case enk3 => k_asm); (case enk4 => k_asm); (case enk5 => k_asm); (case enk6 => k_is); (case enk7 => k_is); (case enk8 => ktr_room); (case enk9 => first | exact BindsTo.of_eq rfl | exact binds_K (by k_in) rfl (by k_is) rfl rfl rfl); (case enc5 => decide); (case enkB => exact locs rfl); (case enc2 => exact rfl); (case enc3 => exact rfl); (case enc4 => exact rfl); k_whole; intro g' L' h' FG' F' N' B' X' T'; (try dsimp only); (try k_fold))
  k_with "my leaving ref" => (k_here; k_dflt (first | (refine leave_onR (by assumption) (by k_asm) (by k_asm) (by k_asm) ?_; k_whole; intro h' R' _ U'; (try dsimp only)) | (refine leave_we (by k_asm) (by k_asm) (by k_asm) ?_ (by exact rfl); k_whole; intro h' R' U'; (try dsimp only))))
  k_with "all" => first | assumption | exact List.forall_mem_nil _ | (refine off_cons (by k_asm) (by k_mem) (by k_mem) (by (intro e; have e9 := congrArg Obj.cls e; first | (simp at e9; done) | ((rename Obj.cls _ = Value.type "tuple_iterator" => hc9); rw [hc9] at e9; simp at e9; done))) (by k_all)) | (refine List.forall_mem_cons.mpr ⟨(by first | assumption | k_ne), (by k_all)⟩) | (refine List.forall_mem_append.mpr ⟨(by k_all), (by k_all)⟩)
  k_with "room" => ((have hcL9 := cLine_is); (simp only [units_in1, units_deeper, Around.mark_units, units_caller]); (try dsimp only [ktrTop]); omega)
  k_with "ne" => first | (refine neN ?_; (try dsimp only); omega) | ((try dsimp only); refine ne_cls (by k_asm) (by k_mem) (by k_mem) (by (intro e; have e9 := congrArg Obj.cls e; simp at e9; done)))
  exact trivial
theorem rg_F11_62 : True := by
  k_with_none
  k_with "all" => assumption
  k_with "enter" => (refine' code_def ?enk1 ?enk2 ?enk3 ?enk4 ?enk5 ?enkA ?enkF ?enkK ?enk6 ?enk7 ?enk8 ?enk9 ?enkB ?_ ?enc2 ?enc3 ?enc4 ?enc5; (case enkA => exact rfl); (case enkF => exact rfl); (case enkK => first | exact rfl | assumption); (case enk1 => k_asm); (case enk2 => k_asm); (case enk3 => k_asm); (case enk4 => k_asm); (case enk5 => k_asm); (case enk6 => k_is); (case enk7 => k_is); (case enk8 => ktr_room); (case enk9 => first | exact BindsTo.of_eq rfl | exact binds_K (by k_in) rfl (by k_is) rfl rfl rfl); (case enc5 => decide); (case enkB => exact locs rfl); (case enc2 => exact rfl); (case enc3 => exact rfl); (case enc4 => exact rfl); k_whole; intro g' L' h' FG' F' N' B' X' T'; (try dsimp only); (try k_fold))
  k_with "my leaving ref" => (k_here; k_dflt (first | (refine leave_onR (by assumption) (by k_asm) (by k_asm) (by k_asm) ?_; k_whole; intro h' R' _ U'; (try dsimp only)) | (refine leave_we (by k_asm) (by k_asm) (by k_asm) ?_ (by exact rfl); k_whole; intro h' R' U'; (try dsimp only))))
  k_with "all" => first | assumption | exact List.forall_mem_nil _ | (refine off_cons (by k_asm) (by k_mem) (by k_mem) (by (intro e; have e9 := congrArg Obj.cls e; first | (simp at e9; done) | ((rename Obj.cls _ = Value.type "tuple_iterator" => hc9); rw [hc9] at e9; simp at e9; done))) (by k_all)) | (refine List.forall_mem_cons.mpr ⟨(by first | assumption | k_ne), (by k_all)⟩) | (refine List.forall_mem_append.mpr ⟨(by k_all), (by k_all)⟩)
  k_with "room" => ((have hcL9 := cLine_is); (simp only [units_in1, units_deeper, Around.mark_units, units_caller]); (try dsimp only [ktrTop]); omega)
  k_with "ne" => first | (refine neN ?_; (try dsimp only); omega) | ((try dsimp only); refine ne_cls (by k_asm) (by k_mem) (by k_mem) (by (intro e; have e9 := congrArg Obj.cls e; simp at e9; done)))
  k_with "my exec While BoolOp cons nil" => (k_here; refine Stopped.at_ ?_)
  k_with "my exec While Compare cons nil" => (k_here; refine Stopped.at_ ?_)
  k_with "my exec While Name cons nil" => (k_here; refine Stopped.at_ ?_)
  k_with "my exec For Name Call cons nil" => (k_here; k_extra "for")
  k_with "my exec For Name Name cons nil" => (k_here; k_extra "for")
  k_with "my exec For Tuple Tuple cons nil" => (k_here; k_extra "for")
  k_with "my exec While Call cons nil" => (k_here; refine Stopped.at_ ?_)
  k_with "my compareOp In str ref" => (k_here; (with_reducible show wpAny _ _ (compareOp CmpOp.In (Value.str _ _) (Value.ref _)) _ _ _); k_dflt (refine in_topK (by k_asm) (by k_asm) (by k_is) (by repeat constructor) ?_; k_whole))
  k_with "my exec Raise some none" => (k_here; k_dflt (refine raise_stmt rfl ?_))
  k_with "my RaiseAt" => (k_here; k_dflt (refine raise_at (by k_asm) (by k_asm) (by k_asm) ?_; k_whole))
  k_with "my eval List" => (k_here; (with_reducible show wpAny _ _ (eval (Expr.List (Expr.Tuple [_, _] _ _ :: _) _) _) _ _ _); refine Stopped.at_ ?_)
  k_with "my exec Assign cons ListComp" => (k_here; refine Stopped.at_ ?_)
  k_with "my SrcLP" => (k_here; refine Stopped.at_ ?_)
  k_with "my binaryOp Add ref ref" => (k_here; k_dflt (refine add_ledger (by k_asm) (by k_asm) (by k_mem) (by k_mem) (by (simp only [List.length_append, List.length_cons, List.length_nil]; omega)) ?_; k_whole); intro D' h' F' N' l1; (try k_lt l1))
  exact trivial
section
variable {w : World} {p : Program} {loose : List Str} {mean : ExcName → Option Value} {mg mb : Str → Option Value} {dp un : Nat} {gd : Option (List Code)} {cn : Str} {cs : Scope} {a : Addr} {ccd : Value} {cl : List (Str × Addr)} {outer : List Env} {A₀ : Around} {base h₀ : Heap} {L : Addr} {m : Str → Option Value} {news : List (Addr × Obj)} {s : Shared} {Q E : Value → Shared → Prop}
  (B : Below A₀ base outer h₀) (F : Fr h₀ L s.heap m) (X : (kk.heap_1 w.params).In h₀)
  (N : News h₀ L s.heap news) (Tp : Top p loose mean mg mb h₀) (hk : cs.kind = .function)
include B F X N Tp hk
set_option maxHeartbeats 8000000 in
theorem lwords_spec (hd : dp + 5 < recursionLimit)
    (hret : ∀ h' tk' l vs wl cap, Fr h₀ L h' m → News h₀ L h' ((l, listOf vs.toArray cap) :: (wl ++ news)) → TX wl vs WORDS → (∀ q ∈ news, q.1 < l) → Q (.ref l) { s with heap := h', toks := tk' }) :
    wpAny (model PySem.Challenge.pw_np0234_01 w) (ktrTop dp un gd cn cs L a ccd cl outer) (call (.ref 310) []) Q E s := by
  refine wpAny_call ?_
  k_dflt k_extra "enter"
  k_steps
  refine Stopped.go ?_
  k_dflt refine' list_pair ?lr ?ll ?lF ?lN ?_
  case lr => repeat (first | exact Rows.nil | apply Rows.cons)
  case ll => decide +kernel
  case lF => k_asm
  case lN => k_asm
  k_whole
  intro l' vs' wl' h' tk' F' N' hp' hfr' hl'
  k_steps
  refine Stopped.go ?_
  refine LCp.Assign_ListComp_P (F₀ := by k_asm) (by rfl) (by with_unfolding_all rfl) (by with_unfolding_all rfl) (by decide) (by rfl) (by decide) (by rfl) (by rfl) (by decide) (by rfl) (by rfl) ?_
  k_steps
  try refine Stopped.go ?_
  rename PW _ _ _ => hp
  rename (∀ p : Addr × Obj, p ∈ _ → ∀ q : Addr × Obj, q ∈ _ → q.1 < p.1) => hfr
  rename News _ _ _ _ => N3
  have hpl := hp.length
  refine LCp.SrcLP.ledger (by rfl) (by k_asm) N3 (.head _) (by rw [List.size_toArray, hpl]; decide +kernel) ?_
  intro g
  refine (fun h => by rw [List.size_toArray, hpl]; exact h) (comp_pair (hp.mono fun p hp => .tail _ (List.mem_append.mpr (.inl hp))) (.inr ⟨_, .head _, rfl, _, rfl⟩) ?_ ?_ 17 0 [] [] (by decide +kernel) .nil (fun _ h => nomatch h))
  · intro v₁ v₂ C oC m₂ all h tk Q E' hC h1 h2 hm F N hq
    refine Tuple_ (spliced_more (LCgL.ld_own N hm hC h1 (spliced_more (LCgL.ld_own N hm hC h2 (spliced_more (LCgL.ld_own N hm hC h1 (spliced_more ?_)))))))
    refine eval_litDatum (d := .none) rfl fun v tk hv => ?_
    obtain rfl : v = .none := by have := hv h; cases this; rfl
    refine spliced_none ?_
    exact kup_newTuple (s := { s with heap := h, toks := tk }) F N (fun q h' F' N' hlt => hq q h' tk F' N' hlt) (by show 4 ≤ sizeLine; decide)
  · intro ys wl ht hfr2 D h tk F1 N4 off
    have hyl : ys.length ≤ 20 := by rw [ht.length, List.length_map]; exact Nat.le_trans (Nat.le_of_eq hpl.symm) (by rw [hpl]; decide +kernel)
    k_steps
    rename News _ _ _ _ => N5
    rename _ ∧ _ => l5
    obtain ⟨wx, N6, hx, hlt⟩ := lw_fin (news := news) N5 (by
      show TW _ _ ((PLAIN.map dbl ++ NINE) ++ ONE)
      refine TW.append (TW.append (ht.mono fun p hp => ?_) ?_) ?_
      · repeat (first | exact List.mem_append.mpr (.inl hp) | apply List.mem_cons_of_mem)
      · unfold NINE
        exact (TW.cons (by k_mem) (TW.cons (by k_mem) (TW.cons (by k_mem) (TW.cons (by k_mem) (TW.cons (by k_mem) (TW.cons (by k_mem) (TW.cons (by k_mem) (TW.cons (by k_mem) (TW.cons (by k_mem) .nil)))))))))
      · unfold ONE
        exact TW.cons (by k_mem) .nil) (fun q hq => by repeat (first | assumption | apply List.mem_cons_of_mem | apply List.mem_append_right)) l5
    exact hret _ _ _ _ wx _ (by k_asm) N6 hx hlt
end
theorem rg_N12_63 : True := by
  k_with_none
  k_with "all" => assumption
  k_with "enter" => (refine' code_def ?enk1 ?enk2 ?enk3 ?enk4 ?enk5 ?enkA ?enkF ?enkK ?enk6 ?enk7 ?enk8 ?enk9 ?enkB ?_ ?enc2 ?enc3 ?enc4 ?enc5; (case enkA => exact rfl); (case enkF => exact rfl); (case enkK => first | exact rfl | assumption); (case enk1 => k_asm); (case enk2 => k_asm); (case enk3 => k_asm); (case enk4 => k_asm); (case enk5 => k_asm); (case enk6 => k_is); (case enk7 => k_is); (case enk8 => ktr_room); (case enk9 => first | exact BindsTo.of_eq rfl | exact binds_K (by k_in) rfl (by k_is) rfl rfl rfl); (case enc5 => decide); (case enkB => exact locs rfl); (case enc2 => exact rfl); (case enc3 => exact rfl); (case enc4 => exact rfl); k_whole; intro g' L' h' FG' F' N' B' X' T'; (try dsimp only); (try k_fold))
  k_with "my leaving ref" => (k_here; k_dflt (first | (refine leave_onR (by assumption) (by k_asm) (by k_asm) (by k_asm) ?_; k_whole; intro h' R' _ U'; (try dsimp only)) | (refine leave_we (by k_asm) (by k_asm) (by k_asm) ?_ (by exact rfl); k_whole; intro h' R' U'; (try dsimp only))))
  k_with "all" => first | assumption | exact List.forall_mem_nil _ | (refine off_cons (by k_asm) (by k_mem) (by k_mem) (by (intro e; have e9 := congrArg Obj.cls e; first | (simp at e9; done) | ((rename Obj.cls _ = Value.type "tuple_iterator" => hc9); rw [hc9] at e9; simp at e9; done))) (by k_all)) | (refine List.forall_mem_cons.mpr ⟨(by first | assumption | k_ne), (by k_all)⟩) | (refine List.forall_mem_append.mpr ⟨(by k_all), (by k_all)⟩)
  k_with "room" => ((have hcL9 := cLine_is); (simp only [units_in1, units_deeper, Around.mark_units, units_caller]); (try dsimp only [ktrTop]); omega)
  k_with "ne" => first | (refine neN ?_; (try dsimp only); omega) | ((try dsimp only); refine ne_cls (by k_asm) (by k_mem) (by k_mem) (by (intro e; have e9 := congrArg Obj.cls e; simp at e9; done)))
  exact trivial
theorem TX.length {wl : List (Addr × Obj)} {vs : List Value} {r : List QW} (h : TX wl vs r) : vs.length = r.length := h.tw.length
theorem WORDS_len : WORDS.length = 27 := by decide +kernel
/-- the rows that are due, told in the ledger -/
inductive DW (dl : List (Addr × Obj)) : List Value → List Wd → Prop
  | nil : DW dl [] []
  | cons {a p : Addr} {t1 t2 t3 t4 t5 : Tok} {x : Wd} {vs : List Value} {r : List Wd} : (a, tupO #[.str x.kd t1, .str x.tx t2, pvV x.pv t3, .ref p, .bool x.first]) ∈ dl → (p, tupO #[.int x.line t4, .int x.col t5]) ∈ dl → DW dl vs r → DW dl (.ref a :: vs) (x :: r)
theorem DW.mono {wl wl' : List (Addr × Obj)} (hs : ∀ p ∈ wl, p ∈ wl') {vs : List Value} {r : List Wd} (h : DW wl vs r) : DW wl' vs r := by
  induction h with
  | nil => exact .nil
  | cons h1 h2 _ ih => exact .cons (hs _ h1) (hs _ h2) ih
theorem DW.append {wl : List (Addr × Obj)} {vs vs' : List Value} {r r' : List Wd} (h : DW wl vs r) (h' : DW wl vs' r') : DW wl (vs ++ vs') (r ++ r') := by
  induction h with
  | nil => exact h'
  | cons h1 h2 _ ih => exact .cons h1 h2 ih
theorem DW.length {wl : List (Addr × Obj)} {vs : List Value} {r : List Wd} (h : DW wl vs r) : vs.length = r.length := by
  induction h with
  | nil => rfl
  | cons _ _ _ ih => rw [List.length_cons, List.length_cons, ih]
noncomputable def dPos : List Dr → Int × Int → Int × Int
  | [], p => p
  | x :: r, p => dPos r (mvs (wCodes x.2) (mvs (bCodes x.1) p))
noncomputable def dWs : List Dr → Int × Int → Bool → List Wd
  | [], _, _ => []
  | x :: r, p, f => ⟨wKd x.2, wTold x.2, wPV x.2, (mvs (bCodes x.1) p).1, (mvs (bCodes x.1) p).2, f || hasNl x.1⟩ :: dWs r (mvs (wCodes x.2) (mvs (bCodes x.1) p)) false
noncomputable def dFst : List Dr → Bool → Bool
  | [], f => f
  | _ :: _, _ => false
theorem dFst_false (ds : List Dr) : dFst ds false = false := by cases ds <;> rfl
theorem dDue_eq (b : Nat) : ∀ (ds : List Dr) (p : Int × Int) (f : Bool), dDue ds b p f = dWs ds p f ++ [⟨Str.ofString "end", Str.ofString "", .none, (mvs (bCodes b) (dPos ds p)).1, (mvs (bCodes b) (dPos ds p)).2, dFst ds f || hasNl b⟩]
  | [], _, _ => rfl
  | x :: r, p, f => by
    show _ :: dDue r b _ false = _ :: (dWs r _ false ++ _)
    rw [dDue_eq b r, dFst_false]
    rfl
theorem dWs_snoc (x : Dr) : ∀ (ds : List Dr) (p : Int × Int) (f : Bool), dWs (ds ++ [x]) p f = dWs ds p f ++ [⟨wKd x.2, wTold x.2, wPV x.2, (mvs (bCodes x.1) (dPos ds p)).1, (mvs (bCodes x.1) (dPos ds p)).2, dFst ds f || hasNl x.1⟩]
  | [], _, _ => rfl
  | y :: r, p, f => by
    show _ :: dWs (r ++ [x]) _ false = _ :: (dWs r _ false ++ _)
    rw [dWs_snoc x r, dFst_false]
    rfl
theorem dPos_snoc (x : Dr) : ∀ (ds : List Dr) (p : Int × Int), dPos (ds ++ [x]) p = mvs (wCodes x.2) (mvs (bCodes x.1) (dPos ds p))
  | [], _ => rfl
  | y :: r, p => dPos_snoc x r _
theorem dFst_snoc (x : Dr) (ds : List Dr) (f : Bool) : dFst (ds ++ [x]) f = false := by cases ds <;> rfl
theorem dText_snoc (x : Dr) : ∀ ds : List Dr, dText (ds ++ [x]) = dText ds ++ (bCodes x.1 ++ wCodes x.2)
  | [] => by show bCodes x.1 ++ (wCodes x.2 ++ []) = [] ++ _; simp
  | y :: r => by
    show bCodes y.1 ++ (wCodes y.2 ++ dText (r ++ [x])) = (bCodes y.1 ++ (wCodes y.2 ++ dText r)) ++ _
    rw [dText_snoc x r]; simp
theorem nl_in (b : Nat) (hb : b < 9) : (!(Builtin.Str.occurrences ⟨(bCodes b).toArray⟩ (Str.ofString "\n") 0 (⟨(bCodes b).toArray⟩ : Str).length 1).isEmpty) = hasNl b := by
  have : ∀ b, b < 9 → (!(Builtin.Str.occurrences ⟨(bCodes b).toArray⟩ (Str.ofString "\n") 0 (⟨(bCodes b).toArray⟩ : Str).length 1).isEmpty) = hasNl b := by decide +kernel
  exact this b hb
theorem own_one {h₀ h : Heap} {L I : Addr} {A own : List (Addr × Obj)} (N : News h₀ L h (A ++ own)) (hown : ∀ p ∈ own, p.1 = I) {oI : Obj} (hI : (I, oI) ∈ own) : ∀ p ∈ own, p = (I, oI) := fun p hp => by
  have h1 := (N _ (List.mem_append.mpr (.inr hp))).1
  have h2 := (N _ (List.mem_append.mpr (.inr hI))).1
  obtain ⟨a, o⟩ := p
  have e := hown _ hp
  dsimp only at e h1 h2
  subst e
  rw [h1] at h2
  cases h2
  rfl
theorem bCodes_len : ∀ b, (bCodes b).length ≤ 19 := by
  intro b
  by_cases h : b < 9
  · exact (by decide +kernel : ∀ b, b < 9 → (bCodes b).length ≤ 19) b h
  · have : bCodes b = [10, 10, 9] := by
      unfold bCodes
      split <;> first | rfl | omega
    rw [this]; decide
theorem wCodes_len : ∀ i, i < 27 → (wCodes i).length ≤ 29 := by decide +kernel
theorem dr5 {i k : Nat} {B : Int} (e : k = i) (hi : i < B.toNat) (h : B < 6) : k ≤ 5 := by omega
theorem dr5' {k : Nat} {B : Int} (e : k = B.toNat) (h0 : 0 ≤ B) (h : B < 6) : k ≤ 5 := by omega
theorem dr240 {n k : Nat} (e : n ≤ 48 * k) (h : k ≤ 5) : n ≤ 240 := Nat.le_trans e (Nat.mul_le_mul_left 48 h)
theorem dText_len : ∀ ds : List Dr, (∀ x ∈ ds, x.1 < 9 ∧ x.2 < 27) → (dText ds).length ≤ 48 * ds.length
  | [], _ => by simp [dText]
  | x :: r, h => by
    have h1 := bCodes_len x.1
    have h2 := wCodes_len x.2 (h x (.head _)).2
    have h3 := dText_len r (fun y hy => h y (.tail _ hy))
    show (bCodes x.1 ++ (wCodes x.2 ++ dText r)).length ≤ _
    rw [List.length_append, List.length_append, List.length_cons]
    omega
section
variable {prog : Program} {w : World} {A : Around} {E : Value → Shared → Prop} {s : Shared} {h₀ : Heap} {L a : Addr} {m : Str → Option Value} {news wx : List (Addr × Obj)} {Q : Value → Shared → Prop}
theorem item_words {value slice : PySem.Expr} {vs : List Value} {k : Nat} {v : Int} {t : Tok} (N : News h₀ L s.heap news) (ma : (a, W.listOf vs.toArray k) ∈ news) (hx : TX wx vs WORDS) (hw : ∀ p ∈ wx, p ∈ news) (h0 : 0 ≤ v) (h1 : v < 27)
    (h : ∀ i b t1 t2 t3 t4, i < 27 → (b, tupO #[.str ⟨(wCodes i).toArray⟩ t1, .str (wKd i) t2, .str (wTold i) t3, pvV (wPV i) t4]) ∈ wx → IsTup s.heap b #[.str ⟨(wCodes i).toArray⟩ t1, .str (wKd i) t2, .str (wTold i) t3, pvV (wPV i) t4] → Q (.ref b) s)
    (hs : subscripted slice false (.ref a) (.int v t) = operate [.ref a, .int v t] (getItem (.ref a) (.int v t)) := by with_unfolding_all rfl) :
    wpAny (model prog w) A (subscriptTail value slice (.ref a) (.int v t)) Q E s := by
  have hl : s.heap.IsList a vs.toArray := ⟨_, (N _ ma).1, rfl, k, rfl⟩
  obtain ⟨b, t1, t2, t3, t4, e, hm⟩ := hx.tw.get v.toNat _ (words_get v.toNat (by omega))
  exact tail_any hl.typeIs slot_list_getitem.lookup (wpAny_getItem_list hl h0 (by omega) (by simpa using e) (h v.toNat b t1 t2 t3 t4 (by omega) hm ⟨_, (N _ (hw _ hm)).1, rfl, _, rfl⟩)) hs
end
theorem tup_off {h₀ h : Heap} {L so : Addr} {A : Addr × Obj} {its : Array Value} {c : Nat} {wx rest : List (Addr × Obj)} {vs : List Value} {r : List QW} (N : News h₀ L h (A :: (wx ++ ((so, W.listOf its c) :: rest)))) (hx : TX wx vs r) : ∀ p ∈ wx, p.1 ≠ so := fun p hp e => by
  have h1 := (N p (.tail _ (List.mem_append.mpr (.inl hp)))).1
  have h2 := (N _ (.tail _ (List.mem_append.mpr (.inr (.head _))))).1
  rw [e] at h1
  have h3 := hx.tup p hp
  rw [h1] at h2
  injection h2 with h2
  rw [h2] at h3
  simp at h3
theorem news_so {h₀ h : Heap} {L : Addr} {A S : Addr × Obj} {wx rest : List (Addr × Obj)} (N : News h₀ L h (A :: (wx ++ (S :: rest)))) : News h₀ L h (S :: A :: (wx ++ rest)) := fun p hp => N p (by
  rcases List.mem_cons.mp hp with rfl | hp
  · exact .tail _ (List.mem_append.mpr (.inr (.head _)))
  rcases List.mem_cons.mp hp with rfl | hp
  · exact .head _
  rcases List.mem_append.mp hp with hp | hp
  · exact .tail _ (List.mem_append.mpr (.inl hp))
  · exact .tail _ (List.mem_append.mpr (.inr (.tail _ hp))))
/-- a bound that the walk does not split -/
noncomputable def InB (v tp : Int) : Prop := 0 ≤ v ∧ v < tp
noncomputable def chainV : List (Str × Value) → (Str → Option Value) → Str → Option Value
  | [], u, y => u y
  | p :: r, u, y => if y = p.1 then some p.2 else chainV r u y
theorem Fr_knowL {h₀ h : Heap} {L : Addr} {u : Str → Option Value} (ks : List (Str × Value)) (hk : ∀ p ∈ ks, u p.1 = some p.2) (F : Fr h₀ L h u) : Fr h₀ L h (fun y => chainV ks u y) := Fr_ext F fun y => by
  induction ks with
  | nil => rfl
  | cons p r ih =>
    show u y = if y = p.1 then some p.2 else chainV r u y
    by_cases h1 : y = p.1
    · rw [if_pos h1, h1, hk p (.head _)]
    · rw [if_neg h1]; exact ih fun q hq => hk q (.tail _ hq)
structure LS where
  va : Int
  vb : Int
  t1 : Tok
  t2 : Tok
  scap : Nat
  dvs : List Value
  cap : Nat
  pl : Addr
  t3 : Tok
  t4 : Tok
  tt : Tok
  dl : List (Addr × Obj)
  ds : List Dr
noncomputable def dTx (ds : List Dr) : Str := ⟨(dText ds).toArray⟩
/-- what holds between the turns of _law_drawn -/
structure LSI (so lw du : Addr) (i : Nat) (x : LS) (u : Str → Option Value) : Prop where
  len : x.ds.length = i
  ok : ∀ y ∈ x.ds, y.1 < 9 ∧ y.2 < 27
  b0 : 0 ≤ x.vb
  b1 : x.vb < 2147483647
  due : DW x.dl x.dvs (dWs x.ds (1, 1) true)
  os : ∀ p ∈ x.dl, p.1 ≠ so
  od : ∀ p ∈ x.dl, p.1 ≠ du
  uw : u (Str.ofString "words") = some (.ref lw)
  ut : u (Str.ofString "text") = some (.str (dTx x.ds) x.tt)
  ud : u (Str.ofString "due") = some (.ref du)
  up : u (Str.ofString "place") = some (.ref x.pl)
  uf : u (Str.ofString "is_first") = some (.bool (dFst x.ds true))
  us : u (Str.ofString "source") = some (.ref so)
theorem news_own {h₀ h : Heap} {L : Addr} {a b c d e : Addr × Obj} {r own : List (Addr × Obj)} (N : News h₀ L h ((a :: b :: c :: d :: r) ++ own)) (he : e ∈ own) : News h₀ L h (a :: b :: c :: d :: e :: r) := fun p hp => N p (by
  rcases List.mem_cons.mp hp with rfl | hp
  · exact .head _
  rcases List.mem_cons.mp hp with rfl | hp
  · exact .tail _ (.head _)
  rcases List.mem_cons.mp hp with rfl | hp
  · exact .tail _ (.tail _ (.head _))
  rcases List.mem_cons.mp hp with rfl | hp
  · exact .tail _ (.tail _ (.tail _ (.head _)))
  rcases List.mem_cons.mp hp with rfl | hp
  · exact List.mem_append.mpr (.inr he)
  · exact .tail _ (.tail _ (.tail _ (.tail _ (List.mem_append.mpr (.inl hp))))))
theorem news_init {h₀ h : Heap} {L : Addr} {S D P U V : Addr × Obj} {r : List (Addr × Obj)} (N : News h₀ L h (S :: D :: P :: U :: V :: r)) : News h₀ L h (S :: U :: V :: P :: ([] ++ r)) := fun p hp => N p (by
  rcases List.mem_cons.mp hp with rfl | hp
  · exact .head _
  rcases List.mem_cons.mp hp with rfl | hp
  · exact .tail _ (.tail _ (.tail _ (.head _)))
  rcases List.mem_cons.mp hp with rfl | hp
  · exact .tail _ (.tail _ (.tail _ (.tail _ (.head _))))
  rcases List.mem_cons.mp hp with rfl | hp
  · exact .tail _ (.tail _ (.head _))
  · exact .tail _ (.tail _ (.tail _ (.tail _ (.tail _ hp)))))
theorem len_words {prog : Program} {w : World} {A : Around} {E : Value → Shared → Prop} {s : Shared} {h₀ : Heap} {L a : Addr} {news wx : List (Addr × Obj)} {Q : Value → Shared → Prop} {vs : List Value} {k : Nat} (N : News h₀ L s.heap news) (ma : (a, W.listOf vs.toArray k) ∈ news) (hx : TX wx vs WORDS)
    (h : Q (.int 27 (s.toks + 1)) { s with toks := s.toks + 1 + 1 }) : wpAny (model prog w) A (call (.builtin "len") [.ref a]) Q E s := by
  have e : vs.toArray.size = 27 := by rw [List.size_toArray, hx.length, WORDS_len]
  exact len_list ⟨_, (N _ ma).1, rfl, k, rfl⟩ (by rw [e]; decide) (by rw [e]; exact h)
theorem dWs_len : ∀ (ds : List Dr) (p : Int × Int) (f : Bool), (dWs ds p f).length = ds.length
  | [], _, _ => rfl
  | x :: r, p, f => by
    show (dWs r _ false).length + 1 = r.length + 1
    rw [dWs_len r]
theorem sb_len (j : Nat) : (⟨(bCodes j).toArray⟩ : Str).length ≤ 400 := by
  have := bCodes_len j
  show (bCodes j).toArray.size ≤ 400
  rw [List.size_toArray]; omega
theorem sw_len {i : Nat} (h : i < 27) : (⟨(wCodes i).toArray⟩ : Str).length ≤ 400 := by
  have := wCodes_len i h
  show (wCodes i).toArray.size ≤ 400
  rw [List.size_toArray]; omega
theorem add_len {x : Str} {j : Nat} (h : x.length ≤ 240) : (x ++ (⟨(bCodes j).toArray⟩ : Str)).length ≤ 400 := by
  have := bCodes_len j
  show (x.cps ++ (bCodes j).toArray).size ≤ 400
  rw [Array.size_append, List.size_toArray]
  exact Nat.le_trans (Nat.add_le_add h this) (by decide)
theorem txt_add {prog : Program} {w : World} {A : Around} {E : Value → Shared → Prop} {s : Shared} {Q : Value → Shared → Prop} {x y : Str} {t u : Tok} (hx : x.length ≤ 400) (hy : y.length ≤ 400) (h : ∀ t' tk, Q (.str (x ++ y) t') { s with toks := tk }) :
    wpAny (model prog w) A (binaryOp .Add (.str x t) (.str y u)) Q E s := SBL.add (hsz := by rw [sizeLine_eq]; omega) fun t' k _ => h t' k
theorem dTx_snoc (ds : List Dr) (j i : Nat) : dTx ds ++ (⟨(bCodes j).toArray⟩ : Str) ++ (⟨(wCodes i).toArray⟩ : Str) = dTx (ds ++ [(j, i)]) := by
  show (⟨(dText ds).toArray ++ (bCodes j).toArray ++ (wCodes i).toArray⟩ : Str) = ⟨(dText (ds ++ [(j, i)])).toArray⟩
  rw [dText_snoc]
  simp
theorem ls_end {g : Heap} {L : Addr} {s : Shared} {I : Addr} {own : List (Addr × Obj)} {Q : Flow → Shared → Prop} {nm : Str} {k tk : Nat} {h' : Heap} {u' : Str → Option Value} {so lw du r q1 q2 pl DD : Addr} {oD oP oI oW : Obj} {va vb : Int} {t1 t2 t3 t4 t5 t6 t7 t8 t9 tt : Tok} {scap cap : Nat} {dvs : List Value} {dl wr : List (Addr × Obj)} {ds : List Dr} {j i : Nat} {F : Bool}
    (Fr' : Fr g L h' u')
    (N : News g L h' ((DD, oD) :: (q2, tupO #[.int (mvs (wCodes i) (mvs (bCodes j) (dPos ds (1, 1)))).1 t3, .int (mvs (wCodes i) (mvs (bCodes j) (dPos ds (1, 1)))).2 t4]) :: (r, tupO #[.str (wKd i) t5, .str (wTold i) t6, pvV (wPV i) t7, .ref q1, .bool F]) :: (q1, tupO #[.int (mvs (bCodes j) (dPos ds (1, 1))).1 t8, .int (mvs (bCodes j) (dPos ds (1, 1))).2 t9]) ::
      (so, W.listOf #[.int va t1, .int vb t2] scap) :: (du, W.listOf (dvs ++ [Value.ref r]).toArray cap) :: (lw, oW) :: (pl, oP) :: (I, oI) :: (dl ++ wr)))
    (hF : F = (dFst ds true || hasNl j)) (hj : j < 9) (hi : i < 27) (hlen : ds.length = k) (hok : ∀ y ∈ ds, y.1 < 9 ∧ y.2 < 27) (b0 : 0 ≤ vb) (b1 : vb < 2147483647) (hdue : DW dl dvs (dWs ds (1, 1) true)) (hos : ∀ p ∈ dl, p.1 ≠ so) (hod : ∀ p ∈ dl, p.1 ≠ du)
    (hI1 : @Ne Nat so I) (hI2 : @Ne Nat du I) (hI3 : @Ne Nat lw I) (hId : ∀ p ∈ dl ++ wr, p.1 ≠ I) (hown : ∀ p ∈ own, p = (I, oI))
    (l6 : @LT.lt Nat _ so q1 ∧ @LT.lt Nat _ du q1 ∧ @LT.lt Nat _ lw q1 ∧ @LT.lt Nat _ pl q1 ∧ @LT.lt Nat _ I q1 ∧ AllLt q1 (dl ++ wr)) (l5 : @LT.lt Nat _ q1 r ∧ @LT.lt Nat _ so r ∧ @LT.lt Nat _ du r ∧ @LT.lt Nat _ lw r ∧ @LT.lt Nat _ pl r ∧ @LT.lt Nat _ I r ∧ AllLt r (dl ++ wr))
    (l7 : @LT.lt Nat _ r q2 ∧ @LT.lt Nat _ q1 q2 ∧ @LT.lt Nat _ so q2 ∧ @LT.lt Nat _ du q2 ∧ @LT.lt Nat _ lw q2 ∧ @LT.lt Nat _ pl q2 ∧ @LT.lt Nat _ I q2 ∧ AllLt q2 (dl ++ wr))
    (uw : u' (Str.ofString "words") = some (.ref lw)) (ut : u' (Str.ofString "text") = some (.str (dTx ds ++ (⟨(bCodes j).toArray⟩ : Str) ++ (⟨(wCodes i).toArray⟩ : Str)) tt)) (ud : u' (Str.ofString "due") = some (.ref du)) (up : u' (Str.ofString "place") = some (.ref q2)) (uf : u' (Str.ofString "is_first") = some (.bool false)) (us : u' (Str.ofString "source") = some (.ref so)) :
    ForEnd (σ := LS × (Str → Option Value)) g L s I (fun i x => LSI so lw du i x.1 x.2) (fun x => x.2) (fun x => (so, W.listOf #[.int x.1.va x.1.t1, .int x.1.vb x.1.t2] x.1.scap) :: (du, W.listOf x.1.dvs.toArray x.1.cap) :: (lw, oW) :: (x.1.pl, tupO #[.int (dPos x.1.ds (1, 1)).1 x.1.t3, .int (dPos x.1.ds (1, 1)).2 x.1.t4]) :: (x.1.dl ++ wr)) nm own Q k .next { s with heap := h', toks := tk } := by
  refine ForEnd.next (⟨va, vb, t1, t2, scap, dvs ++ [.ref r], cap, q2, t3, t4, tt, (r, tupO #[.str (wKd i) t5, .str (wTold i) t6, pvV (wPV i) t7, .ref q1, .bool F]) :: (q1, tupO #[.int (mvs (bCodes j) (dPos ds (1, 1))).1 t8, .int (mvs (bCodes j) (dPos ds (1, 1))).2 t9]) :: dl, ds ++ [(j, i)]⟩, u') Fr' (fun _ _ => rfl) ?_ ?_ ?_
  · dsimp only
    rw [dPos_snoc]
    intro p hp
    refine N p ?_
    rcases List.mem_append.mp hp with hp | hp
    · rcases List.mem_cons.mp hp with rfl | hp
      · exact .tail _ (.tail _ (.tail _ (.tail _ (.head _))))
      rcases List.mem_cons.mp hp with rfl | hp
      · exact .tail _ (.tail _ (.tail _ (.tail _ (.tail _ (.head _)))))
      rcases List.mem_cons.mp hp with rfl | hp
      · exact .tail _ (.tail _ (.tail _ (.tail _ (.tail _ (.tail _ (.head _))))))
      rcases List.mem_cons.mp hp with rfl | hp
      · exact .tail _ (.head _)
      rcases List.mem_cons.mp hp with rfl | hp
      · exact .tail _ (.tail _ (.head _))
      rcases List.mem_cons.mp hp with rfl | hp
      · exact .tail _ (.tail _ (.tail _ (.head _)))
      · exact .tail _ (.tail _ (.tail _ (.tail _ (.tail _ (.tail _ (.tail _ (.tail _ (.tail _ hp))))))))
    · rw [hown p hp]
      exact .tail _ (.tail _ (.tail _ (.tail _ (.tail _ (.tail _ (.tail _ (.tail _ (.head _))))))))
  · dsimp only
    intro p hp
    rcases List.mem_cons.mp hp with rfl | hp
    · exact hI1
    rcases List.mem_cons.mp hp with rfl | hp
    · exact hI2
    rcases List.mem_cons.mp hp with rfl | hp
    · exact hI3
    rcases List.mem_cons.mp hp with rfl | hp
    · exact Nat.ne_of_gt l7.2.2.2.2.2.2.1
    rcases List.mem_cons.mp hp with rfl | hp
    · exact Nat.ne_of_gt l5.2.2.2.2.2.1
    rcases List.mem_cons.mp hp with rfl | hp
    · exact Nat.ne_of_gt l6.2.2.2.2.1
    · exact hId p hp
  · refine ⟨?_, ?_, b0, b1, ?_, ?_, ?_, uw, by rw [← dTx_snoc]; exact ut, ud, up, by rw [dFst_snoc]; exact uf, us⟩
    · dsimp only; rw [List.length_append, hlen]; rfl
    · intro y hy
      rcases List.mem_append.mp hy with hy | hy
      · exact hok y hy
      · rw [List.mem_singleton.mp hy]; exact ⟨hj, hi⟩
    · dsimp only
      rw [dWs_snoc, ← hF]
      exact (hdue.mono fun p hp => .tail _ (.tail _ hp)).append (.cons (.head _) (.tail _ (.head _)) .nil)
    · intro p hp
      rcases List.mem_cons.mp hp with rfl | hp
      · exact Nat.ne_of_gt l5.2.1
      rcases List.mem_cons.mp hp with rfl | hp
      · exact Nat.ne_of_gt l6.1
      · exact hos p hp
    · intro p hp
      rcases List.mem_cons.mp hp with rfl | hp
      · exact Nat.ne_of_gt l5.2.2.1
      rcases List.mem_cons.mp hp with rfl | hp
      · exact Nat.ne_of_gt l6.2.1
      · exact hod p hp
noncomputable def dEnd (ds : List Dr) (b : Nat) : Str := dTx ds ++ (⟨(bCodes b).toArray⟩ : Str)
theorem ld_end {g h' : Heap} {L so lw du r q1 pl q : Addr} {oP oW oq : Obj} {va vb : Int} {t1 t2 t5 t6 t7 t8 t9 : Tok} {scap cap : Nat} {dvs : List Value} {dl wx rest : List (Addr × Obj)} {ds : List Dr} {j : Nat} {F : Bool}
    (N : News g L h' ((q, oq) :: (r, tupO #[.str (Str.ofString "end") t5, .str (Str.ofString "") t6, pvV .none t7, .ref q1, .bool F]) :: (q1, tupO #[.int (mvs (bCodes j) (dPos ds (1, 1))).1 t8, .int (mvs (bCodes j) (dPos ds (1, 1))).2 t9]) ::
      (so, W.listOf #[.int va t1, .int vb t2] scap) :: (du, W.listOf (dvs ++ [Value.ref r]).toArray cap) :: (lw, oW) :: (pl, oP) :: (dl ++ (wx ++ rest))))
    (hF : F = (dFst ds true || hasNl j)) (hdue : DW dl dvs (dWs ds (1, 1) true)) (hos : ∀ p ∈ dl, p.1 ≠ so)
    (l6 : @LT.lt Nat _ so q1 ∧ @LT.lt Nat _ du q1 ∧ @LT.lt Nat _ lw q1 ∧ @LT.lt Nat _ pl q1 ∧ AllLt q1 (dl ++ (wx ++ rest))) (l5 : @LT.lt Nat _ q1 r ∧ @LT.lt Nat _ so r ∧ @LT.lt Nat _ du r ∧ @LT.lt Nat _ lw r ∧ @LT.lt Nat _ pl r ∧ AllLt r (dl ++ (wx ++ rest))) :
    ∃ dl', News g L h' ((so, W.listOf #[.int va t1, .int vb t2] scap) :: (q, oq) :: (du, W.listOf (dvs ++ [Value.ref r]).toArray cap) :: (dl' ++ rest)) ∧ DW dl' (dvs ++ [Value.ref r]) (dDue ds j (1, 1) true) ∧ ∀ p ∈ dl', p.1 ≠ so := by
  refine ⟨(r, tupO #[.str (Str.ofString "end") t5, .str (Str.ofString "") t6, pvV .none t7, .ref q1, .bool F]) :: (q1, tupO #[.int (mvs (bCodes j) (dPos ds (1, 1))).1 t8, .int (mvs (bCodes j) (dPos ds (1, 1))).2 t9]) :: dl, fun p hp => N p ?_, ?_, fun p hp => ?_⟩
  · rcases List.mem_cons.mp hp with rfl | hp
    · exact .tail _ (.tail _ (.tail _ (.head _)))
    rcases List.mem_cons.mp hp with rfl | hp
    · exact .head _
    rcases List.mem_cons.mp hp with rfl | hp
    · exact .tail _ (.tail _ (.tail _ (.tail _ (.head _))))
    rcases List.mem_cons.mp hp with rfl | hp
    · exact .tail _ (.head _)
    rcases List.mem_cons.mp hp with rfl | hp
    · exact .tail _ (.tail _ (.head _))
    refine .tail _ (.tail _ (.tail _ (.tail _ (.tail _ (.tail _ (.tail _ ?_))))))
    rcases List.mem_append.mp hp with hp | hp
    · exact List.mem_append.mpr (.inl hp)
    · exact List.mem_append.mpr (.inr (List.mem_append.mpr (.inr hp)))
  · rw [dDue_eq, ← hF]
    exact (hdue.mono fun p hp => .tail _ (.tail _ hp)).append (.cons (.head _) (.tail _ (.head _)) .nil)
  · rcases List.mem_cons.mp hp with rfl | hp
    · exact Nat.ne_of_gt l5.2.1
    rcases List.mem_cons.mp hp with rfl | hp
    · exact Nat.ne_of_gt l6.1
    · exact hos p hp
theorem rg_F12_64 : True := by
  k_with_none
  k_with "all" => assumption
  k_with "enter" => (refine' code_def ?enk1 ?enk2 ?enk3 ?enk4 ?enk5 ?enkA ?enkF ?enkK ?enk6 ?enk7 ?enk8 ?enk9 ?enkB ?_ ?enc2 ?enc3 ?enc4 ?enc5; (case enkA => exact rfl); (case enkF => exact rfl); (case enkK => first | exact rfl | assumption); (case enk1 => k_asm); (case enk2 => k_asm); (case enk3 => k_asm); (case enk4 => k_asm); (case enk5 => k_asm); (case enk6 => k_is); (case enk7 => k_is); (case enk8 => ktr_room); (case enk9 => first | exact BindsTo.of_eq rfl | exact binds_K (by k_in) rfl (by k_is) rfl rfl rfl); (case enc5 => decide); (case enkB => exact locs rfl); (case enc2 => exact rfl); (case enc3 => exact rfl); (case enc4 => exact rfl); k_whole; intro g' L' h' FG' F' N' B' X' T'; (try dsimp only); (try k_fold))
  k_with "my leaving ref" => (k_here; k_dflt (first | (refine leave_onR (by assumption) (by k_asm) (by k_asm) (by k_asm) ?_; k_whole; intro h' R' _ U'; (try dsimp only)) | (refine leave_we (by k_asm) (by k_asm) (by k_asm) ?_ (by exact rfl); k_whole; intro h' R' U'; (try dsimp only))))
  k_with "all" => first | assumption | exact List.forall_mem_nil _ | (refine off_cons (by k_asm) (by k_mem) (by k_mem) (by (intro e; have e9 := congrArg Obj.cls e; first | (simp at e9; done) | ((rename Obj.cls _ = Value.type "tuple_iterator" => hc9); rw [hc9] at e9; simp at e9; done))) (by k_all)) | (refine List.forall_mem_cons.mpr ⟨(by first | assumption | k_ne), (by k_all)⟩) | (refine List.forall_mem_append.mpr ⟨(by k_all), (by k_all)⟩)
  k_with "room" => ((have hcL9 := cLine_is); (simp only [units_in1, units_deeper, Around.mark_units, units_caller]); (try dsimp only [ktrTop]); omega)
  k_with "ne" => first | (refine neN ?_; (try dsimp only); omega) | ((try dsimp only); refine ne_cls (by k_asm) (by k_mem) (by k_mem) (by (intro e; have e9 := congrArg Obj.cls e; simp at e9; done)))
  exact trivial
theorem rg_F12_65 : True := by
  k_with_none
  k_with "all" => assumption
  k_with "enter" => (refine' code_def ?enk1 ?enk2 ?enk3 ?enk4 ?enk5 ?enkA ?enkF ?enkK ?enk6 ?enk7 ?enk8 ?enk9 ?enkB ?_ ?enc2 ?enc3 ?enc4 ?enc5; (case enkA => exact rfl); (case enkF => exact rfl); (case enkK => first | exact rfl | assumption); (case enk1 => k_asm); (case enk2 => k_asm); (case enk3 => k_asm); (case enk4 => k_asm); (case enk5 => k_asm); (case enk6 => k_is); (case enk7 => k_is); (case enk8 => ktr_room); (case enk9 => first | exact BindsTo.of_eq rfl | exact binds_K (by k_in) rfl (by k_is) rfl rfl rfl); (case enc5 => decide); (case enkB => exact locs rfl); (case enc2 => exact rfl); (case enc3 => exact rfl); (case enc4 => exact rfl); k_whole; intro g' L' h' FG' F' N' B' X' T'; (try dsimp only); (try k_fold))
  k_with "my leaving ref" => (k_here; k_dflt (first | (refine leave_onR (by assumption) (by k_asm) (by k_asm) (by k_asm) ?_; k_whole; intro h' R' _ U'; (try dsimp only)) | (refine leave_we (by k_asm) (by k_asm) (by k_asm) ?_ (by exact rfl); k_whole; intro h' R' U'; (try dsimp only))))
  k_with "all" => first | assumption | exact List.forall_mem_nil _ | (refine off_cons (by k_asm) (by k_mem) (by k_mem) (by (intro e; have e9 := congrArg Obj.cls e; first | (simp at e9; done) | ((rename Obj.cls _ = Value.type "tuple_iterator" => hc9); rw [hc9] at e9; simp at e9; done))) (by k_all)) | (refine List.forall_mem_cons.mpr ⟨(by first | assumption | k_ne), (by k_all)⟩) | (refine List.forall_mem_append.mpr ⟨(by k_all), (by k_all)⟩)
  k_with "room" => ((have hcL9 := cLine_is); (simp only [units_in1, units_deeper, Around.mark_units, units_caller]); (try dsimp only [ktrTop]); omega)
  k_with "ne" => first | (refine neN ?_; (try dsimp only); omega) | ((try dsimp only); refine ne_cls (by k_asm) (by k_mem) (by k_mem) (by (intro e; have e9 := congrArg Obj.cls e; simp at e9; done)))
  k_with "my exec While BoolOp cons nil" => (k_here; refine Stopped.at_ ?_)
  k_with "my exec While Compare cons nil" => (k_here; refine Stopped.at_ ?_)
  k_with "my exec While Name cons nil" => (k_here; refine Stopped.at_ ?_)
  k_with "my exec For Name Call cons nil" => (k_here; k_extra "for")
  k_with "my exec For Name Name cons nil" => (k_here; k_extra "for")
  k_with "my exec For Tuple Tuple cons nil" => (k_here; k_extra "for")
  k_with "my exec While Call cons nil" => (k_here; refine Stopped.at_ ?_)
  k_with "my compareOp In str ref" => (k_here; (with_reducible show wpAny _ _ (compareOp CmpOp.In (Value.str _ _) (Value.ref _)) _ _ _); k_dflt (refine in_topK (by k_asm) (by k_asm) (by k_is) (by repeat constructor) ?_; k_whole))
  k_with "my exec Raise some none" => (k_here; k_dflt (refine raise_stmt rfl ?_))
  k_with "my RaiseAt" => (k_here; k_dflt (refine raise_at (by k_asm) (by k_asm) (by k_asm) ?_; k_whole))
  k_with "my call ref" => (k_here; (with_reducible show wpAny _ _ (call (Value.ref 305) _ _) _ _ _); k_dflt (refine ltake_spec (by k_asm) (by k_asm) (by k_asm) (news_pick1 (by k_asm) (by (repeat (first | exact Pick.head | apply Pick.tail)))) (by k_asm) (by first | exact rfl | assumption) (by k_all) (by ktr_room) (by omega) (by omega) (by assumption) (by assumption) ?_; k_whole; intro h' tk' t' va' vb' t1' t2' cap' v' F' N' hb0' hb1' hv0' hv1'; (have hv' : InB v' _ := ⟨hv0', hv1'⟩); (clear hv0' hv1'); (try dsimp only); (try k_sweep); (try k_fold)))
  k_with "my call ref" => (k_here; (with_reducible show wpAny _ _ (call (Value.ref 317) _ _) _ _ _); k_dflt (refine lbetween_spec (by k_asm) (by k_asm) (by k_asm) (news_pick1 (by k_asm) (by (repeat (first | exact Pick.head | apply Pick.tail)))) (by k_asm) (by first | exact rfl | assumption) (by k_all) (by ktr_room) (by assumption) (by assumption) ?_; k_whole; intro h' tk' t' va' vb' t1' t2' cap' j' F' N' hb0' hb1' hj'; (try dsimp only); (try k_sweep); (try k_fold)))
  k_with "my call ref" => (k_here; (with_reducible show wpAny _ _ (call (Value.ref 324) _ _) _ _ _); k_dflt (refine moved_spec (by k_asm) (by k_asm) (by k_asm) (by k_asm) (by k_asm) (by first | exact rfl | assumption) (by k_mem) (by ktr_room) ?_; k_whole; intro h' tk' q' t1' t2' F' N' l1'; (try dsimp only); (try k_lt l1'); (try k_sweep); (try k_fold)))
  k_with "my call ref" => (k_here; (with_reducible show wpAny _ _ (call (Value.ref 310) _ _) _ _ _); k_dflt (refine lwords_spec (by k_asm) (by k_asm) (by k_asm) (by k_asm) (by k_asm) (by first | exact rfl | assumption) (by ktr_room) ?_; k_whole; intro h' tk' l' vs' wx' cap' F' N' hx' hl'; (have hw' := tup_off N' hx'); (have hz' := (TX.length hx').trans WORDS_len); (replace N' := news_so N'); (k_lt hl'); (try dsimp only); (try k_sweep); (try k_fold)))
  k_with "my subscriptTail" => (k_here; (with_reducible show wpAny _ _ (subscriptTail _ _ (Value.ref _) (Value.int _ _)) _ _ _); (with_unfolding_all refine item_words (by k_asm) (by k_mem) (by assumption) (by (intro p9 hp9; repeat (first | assumption | apply List.mem_cons_of_mem | (apply List.mem_append_left; assumption) | apply List.mem_append_right))) (by exact And.left (by assumption : InB _ _)) (by (refine Int.lt_of_lt_of_le (And.right (by assumption : InB _ _)) ?_; omega)) ?_ (by with_unfolding_all rfl); k_whole); intro i' b' t1' t2' t3' t4' hi' hm' hT')
  k_with "my call builtin:len" => (k_here; (with_reducible show wpAny _ _ (call (Value.builtin _) [Value.ref _]) _ _ _); k_dflt (refine len_words (by k_asm) (by k_mem) (by assumption) ?_; k_whole))
  k_with "my binaryOp Add str str" => (k_here; (with_reducible show wpAny _ _ (binaryOp Operator.Add (Value.str _ _) (Value.str _ _)) _ _ _); k_dflt (refine txt_add (by first | exact Nat.le_trans (by assumption) (by decide : 240 ≤ 400) | exact add_len (by assumption)) (by first | exact sb_len _ | exact sw_len (by assumption)) ?_; k_whole); intro t' tk')
  k_with "my exec For Name Call cons nil" => (k_here; (rename Fr _ _ _ _ => lF'); (with_unfolding_all refine For_invVF lF' (by exact rfl) (by exact rfl) ?_; k_whole))
  k_with "my exec For Name Name cons nil" => (k_here; (rename Fr _ _ _ _ => lF'); (with_unfolding_all refine For_invVF lF' (by exact rfl) (by exact rfl) ?_; k_whole))
  k_with "my pyIter ref" => (k_here; refine Stopped.at_ ?_)
  k_with "my pyIter str" => (k_here; refine Stopped.at_ ?_)
  k_with "fits" => (simp only [List.size_toArray, PySem.sizeLine_eq]; omega)
  exact trivial
section
variable {w : World} {p : Program} {loose : List Str} {mean : ExcName → Option Value} {mg mb : Str → Option Value} {dp un : Nat} {gd : Option (List Code)} {cn : Str} {cs : Scope} {a : Addr} {ccd : Value} {cl : List (Str × Addr)} {outer : List Env} {A₀ : Around} {base h₀ : Heap} {L : Addr} {m : Str → Option Value} {news : List (Addr × Obj)} {s : Shared} {Q E : Value → Shared → Prop}
  (B : Below A₀ base outer h₀) (F : Fr h₀ L s.heap m) (X : (kk.heap_1 w.params).In h₀)
variable {so : Addr} {va vb : Int} {t1 t2 : Tok} {cap : Nat} {rest : List (Addr × Obj)}
  (N : News h₀ L s.heap ((so, listOf #[.int va t1, .int vb t2] cap) :: rest)) (Tp : Top p loose mean mg mb h₀) (hk : cs.kind = .function) (hoff : ∀ p ∈ rest, p.1 ≠ so)
include B F X N Tp hk hoff
set_option maxHeartbeats 8000000 in
theorem drawn_spec (hd : dp + 8 < recursionLimit) (hun : un + 1200 < cLine) (hb0 : 0 ≤ vb) (hb1 : vb < 2147483647)
    (hret : ∀ h' tk' q du dvs cap dl tt va' vb' t1' t2' cap' ds b, Fr h₀ L h' m → News h₀ L h' ((so, listOf #[.int va' t1', .int vb' t2'] cap') :: (q, tupO #[.str (dEnd ds b) tt, .ref du]) :: (du, listOf dvs.toArray cap) :: (dl ++ rest)) → 0 ≤ vb' → vb' < 2147483647 → ds.length ≤ 5 → (∀ x ∈ ds, x.1 < 9 ∧ x.2 < 27) → b < 9 → DW dl dvs (dDue ds b (1, 1) true) → (∀ p ∈ dl, p.1 ≠ so) → @LT.lt Nat _ so du → @LT.lt Nat _ so q → Q (.ref q) { s with heap := h', toks := tk' }) :
    wpAny (model PySem.Challenge.pw_np0234_01 w) (ktrTop dp un gd cn cs L a ccd cl outer) (call (.ref 331) [.ref so]) Q E s := by
  refine wpAny_call ?_
  k_dflt k_extra "enter"
  k_steps
  rename _ ∧ _ ∧ AllLt _ _ => l2
  obtain ⟨e1, e2, e3⟩ := l2
  rename _ ∧ AllLt _ rest => l3
  obtain ⟨e4, e5⟩ := l3
  have hwdu := fun p hp => Nat.ne_of_lt (lt_of_all e3 p (List.mem_append_left _ hp))
  have hrdu := fun p hp => Nat.ne_of_lt (lt_of_all e3 p (List.mem_append_right _ hp))
  rename InB _ 6 => hB
  obtain ⟨hB0, hB6⟩ := hB
  refine Stopped.go ?_
  rename IsRange _ _ _ _ _ _ _ _ => hR
  rename News _ _ _ _ => N3
  have N4 := news_init N3
  refine for_range (σ := LS × (Str → Option Value)) (by rfl) hR (Int.toNat_of_nonneg hB0).symm (by omega) (fun x => x.2)
    (fun x => (so, listOf #[.int x.1.va x.1.t1, .int x.1.vb x.1.t2] x.1.scap) :: (_, listOf x.1.dvs.toArray x.1.cap) :: (_, listOf _ _) :: (x.1.pl, tupO #[.int (dPos x.1.ds (1, 1)).1 x.1.t3, .int (dPos x.1.ds (1, 1)).2 x.1.t4]) :: (x.1.dl ++ (_ ++ rest)))
    (fun i x => LSI so _ _ i x.1 x.2) (⟨_, _, _, _, _, [], 0, _, _, _, _, [], []⟩, _) (by k_asm) N4 ⟨rfl, by simp, by assumption, by assumption, .nil, by simp, by simp, by rfl, by rfl, by rfl, by rfl, by rfl, by rfl⟩ ?_ ?_
  · rintro I i u ⟨⟨va, vb, t1, t2, scap, dvs, cap, pl, t3, t4, tt, dl, ds⟩, uu⟩ h₁ tk₁ own hi hx hown hIo hI F₁ N₁
    obtain ⟨hlen, hok, hb0', hb1', hdue, hos, hod, uw, ut, ud, up, uf, us⟩ := hx
    dsimp only at F₁ N₁ hI hlen hok hb0' hb1' hdue hos hod uw ut ud up uf us
    obtain ⟨oI, hIo⟩ := hIo
    have h1 := own_one N₁ hown hIo
    have hI1 : @Ne Nat _ I := hI _ (.head _)
    have hI2 : @Ne Nat _ I := hI _ (.tail _ (.head _))
    have hI3 : @Ne Nat _ I := hI _ (.tail _ (.tail _ (.head _)))
    have hI4 : @Ne Nat _ I := hI _ (.tail _ (.tail _ (.tail _ (.head _))))
    dsimp only at hI1 hI2 hI3 hI4
    have nm : ∀ {k : Str} {v : Value}, k ≠ Str.ofString "turn" → uu k = some v → (fun y => if y = Str.ofString "turn" then some (.int (i : Int) u) else uu y) k = some v := fun hk e => by
      show (if _ then _ else _) = _
      rw [if_neg hk]; exact e
    have F₂ := Fr_knowL [(Str.ofString "words", _), (Str.ofString "text", _), (Str.ofString "due", _), (Str.ofString "place", _), (Str.ofString "is_first", _), (Str.ofString "source", _)] (by
      intro p hp
      rcases List.mem_cons.mp hp with rfl | hp
      · exact nm (by dsimp only; decide +kernel) uw
      rcases List.mem_cons.mp hp with rfl | hp
      · exact nm (by dsimp only; decide +kernel) ut
      rcases List.mem_cons.mp hp with rfl | hp
      · exact nm (by dsimp only; decide +kernel) ud
      rcases List.mem_cons.mp hp with rfl | hp
      · exact nm (by dsimp only; decide +kernel) up
      rcases List.mem_cons.mp hp with rfl | hp
      · exact nm (by dsimp only; decide +kernel) uf
      rcases List.mem_cons.mp hp with rfl | hp
      · exact nm (by dsimp only; decide +kernel) us
      cases hp) F₁
    simp only [chainV] at F₂
    have N₂ := news_own N₁ hIo
    have hdl : dvs.length ≤ 5 := by rw [hdue.length, dWs_len]; exact dr5 hlen hi hB6
    have htl : (dTx ds).length ≤ 240 := by
      have e := dText_len ds hok
      show (dText ds).toArray.size ≤ 240
      rw [List.size_toArray]; exact dr240 e (dr5 hlen hi hB6)
    clear F₁
    k_steps
    all_goals
      rename News _ _ _ _ => N5
      simp only [List.push_toArray] at N5
      rename _ ∧ _ ∧ _ ∧ _ ∧ _ ∧ AllLt _ _ => l6
      rename _ ∧ _ ∧ _ ∧ _ ∧ _ ∧ _ ∧ AllLt _ _ => l5
      rename _ ∧ _ ∧ _ ∧ _ ∧ _ ∧ _ ∧ _ ∧ AllLt _ _ => l7
      rename Fr _ _ _ _ => F3
      rename dFst ds true = _ => hf
      exact ls_end F3 N5 (by first | (rw [hf]; rfl) | (rw [hf, Bool.false_or]; exact nl_in _ (by assumption))) (by assumption) (by assumption) hlen hok (by assumption) (by assumption) hdue hos hod hI1 hI2 hI3 (fun p hp => hI p (.tail _ (.tail _ (.tail _ (.tail _ hp))))) h1 l6 l5 l7 (by rfl) (by rfl) (by rfl) (by rfl) (by rfl) (by rfl)
  · rintro ⟨⟨va, vb, t1, t2, scap, dvs, cap, pl, t3, t4, tt, dl, ds⟩, uu⟩ u h₁ tk₁ hx F₁ N₁
    obtain ⟨hlen, hok, hb0', hb1', hdue, hos, hod, uw, ut, ud, up, uf, us⟩ := hx
    dsimp only at F₁ N₁ hlen hok hb0' hb1' hdue hos hod uw ut ud up uf us
    have nm : ∀ {k : Str} {v : Value}, k ≠ Str.ofString "turn" → uu k = some v → (fun y => if y = Str.ofString "turn" then u else uu y) k = some v := fun hk e => by
      show (if _ then _ else _) = _
      rw [if_neg hk]; exact e
    have F₂ := Fr_knowL [(Str.ofString "words", _), (Str.ofString "text", _), (Str.ofString "due", _), (Str.ofString "place", _), (Str.ofString "is_first", _), (Str.ofString "source", _)] (by
      intro p hp
      rcases List.mem_cons.mp hp with rfl | hp
      · exact nm (by dsimp only; decide +kernel) uw
      rcases List.mem_cons.mp hp with rfl | hp
      · exact nm (by dsimp only; decide +kernel) ut
      rcases List.mem_cons.mp hp with rfl | hp
      · exact nm (by dsimp only; decide +kernel) ud
      rcases List.mem_cons.mp hp with rfl | hp
      · exact nm (by dsimp only; decide +kernel) up
      rcases List.mem_cons.mp hp with rfl | hp
      · exact nm (by dsimp only; decide +kernel) uf
      rcases List.mem_cons.mp hp with rfl | hp
      · exact nm (by dsimp only; decide +kernel) us
      cases hp) F₁
    simp only [chainV] at F₂
    clear F₁
    have hdl : dvs.length ≤ 5 := by rw [hdue.length, dWs_len]; exact dr5' hlen hB0 hB6
    have htl : (dTx ds).length ≤ 240 := by
      have e := dText_len ds hok
      show (dText ds).toArray.size ≤ 240
      rw [List.size_toArray]; exact dr240 e (dr5' hlen hB0 hB6)
    k_steps
    all_goals
      rename News _ _ _ _ => N5
      simp only [List.push_toArray] at N5
      rename _ ∧ _ ∧ _ ∧ _ ∧ AllLt _ _ => l6
      rename _ ∧ _ ∧ _ ∧ _ ∧ _ ∧ AllLt _ _ => l5
      rename _ ∧ _ ∧ _ ∧ _ ∧ _ ∧ _ ∧ AllLt _ _ => l7
      rename dFst ds true = _ => hf
      obtain ⟨dl', N6, hdw, hos'⟩ := ld_end (t7 := 0) N5 (by first | (rw [hf]; rfl) | (rw [hf, Bool.false_or]; exact nl_in _ (by assumption))) hdue hos l6 l5
      exact hret _ _ _ _ _ _ dl' _ _ _ _ _ _ ds _ (by k_asm) N6 (by assumption) (by assumption) (dr5' hlen hB0 hB6) hok (by assumption) hdw hos' e1 l7.2.2.1
end
theorem rg_F13_66 : True := by
  k_with_none
  k_with "all" => assumption
  k_with "enter" => (refine' code_def ?enk1 ?enk2 ?enk3 ?enk4 ?enk5 ?enkA ?enkF ?enkK ?enk6 ?enk7 ?enk8 ?enk9 ?enkB ?_ ?enc2 ?enc3 ?enc4 ?enc5; (case enkA => exact rfl); (case enkF => exact rfl); (case enkK => first | exact rfl | assumption); (case enk1 => k_asm); (case enk2 => k_asm); (case enk3 => k_asm); (case enk4 => k_asm); (case enk5 => k_asm); (case enk6 => k_is); (case enk7 => k_is); (case enk8 => ktr_room); (case enk9 => first | exact BindsTo.of_eq rfl | exact binds_K (by k_in) rfl (by k_is) rfl rfl rfl); (case enc5 => decide); (case enkB => exact locs rfl); (case enc2 => exact rfl); (case enc3 => exact rfl); (case enc4 => exact rfl); k_whole; intro g' L' h' FG' F' N' B' X' T'; (try dsimp only); (try k_fold))
  k_with "my leaving ref" => (k_here; k_dflt (first | (refine leave_onR (by assumption) (by k_asm) (by k_asm) (by k_asm) ?_; k_whole; intro h' R' _ U'; (try dsimp only)) | (refine leave_we (by k_asm) (by k_asm) (by k_asm) ?_ (by exact rfl); k_whole; intro h' R' U'; (try dsimp only))))
  k_with "all" => first | assumption | exact List.forall_mem_nil _ | (refine off_cons (by k_asm) (by k_mem) (by k_mem) (by (intro e; have e9 := congrArg Obj.cls e; first | (simp at e9; done) | ((rename Obj.cls _ = Value.type "tuple_iterator" => hc9); rw [hc9] at e9; simp at e9; done))) (by k_all)) | (refine List.forall_mem_cons.mpr ⟨(by first | assumption | k_ne), (by k_all)⟩) | (refine List.forall_mem_append.mpr ⟨(by k_all), (by k_all)⟩)
  k_with "room" => ((have hcL9 := cLine_is); (simp only [units_in1, units_deeper, Around.mark_units, units_caller]); (try dsimp only [ktrTop]); omega)
  k_with "ne" => first | (refine neN ?_; (try dsimp only); omega) | ((try dsimp only); refine ne_cls (by k_asm) (by k_mem) (by k_mem) (by (intro e; have e9 := congrArg Obj.cls e; simp at e9; done)))
  exact trivial
section
variable {w : World} {p : Program} {loose : List Str} {mean : ExcName → Option Value} {mg mb : Str → Option Value} {dp un : Nat} {gd : Option (List Code)} {cn : Str} {cs : Scope} {a : Addr} {ccd : Value} {cl : List (Str × Addr)} {outer : List Env} {A₀ : Around} {base h₀ : Heap} {L : Addr} {m : Str → Option Value} {news : List (Addr × Obj)} {s : Shared} {Q E : Value → Shared → Prop}
  (B : Below A₀ base outer h₀) (F : Fr h₀ L s.heap m) (X : (kk.heap_1 w.params).In h₀)
variable {T : Str} {tT : Tok}
  (N : News h₀ L s.heap news) (Tp : Top p loose mean mg mb h₀) (hk : cs.kind = .function)
include B F X N Tp hk
theorem words_ok {ws : List Wd} (hd : dp + 8 < recursionLimit) (hun : un + 1200 < cLine) (hT : T.length ≤ 4096) (hx : Lex (cpl T) 0 true ws) (hl : ws.length ≤ 1000)
    (hret : ∀ h' tk' f vs cap wl, Fr h₀ L h' m → News h₀ L h' ((f, listOf vs.toArray cap) :: (wl ++ news)) → WIn w wl vs ws → (∀ p ∈ wl, ∀ q ∈ news, q.1 < p.1) → (∀ q ∈ news, q.1 < f) → Q (.ref f) { s with heap := h', toks := tk' }) :
    wpAny (model PySem.Challenge.pw_np0234_01 w) (ktrTop dp un gd cn cs L a ccd cl outer) (call (.ref 291) [.str T tT]) Q E s :=
  words_any B F X N Tp hk hT (wo := some ws) (mu := ws.length) hd hun ⟨by simp, rfl, .inl ⟨rfl, hx, fun _ h => nomatch h⟩⟩ hl (fun ws' e => by cases e; exact hret) (fun e => by cases e)
theorem words_bad {mu : Nat} (hd : dp + 8 < recursionLimit) (hun : un + 1200 < cLine) (hT : T.length ≤ 4096) (hx : LexBad (cpl T) 0 mu) (hl : mu ≤ 1000)
    (hraise : ∀ e t v h' tk' G, RaisedS base G (envX cn cs L a ccd cl :: outer) e (.ref 52) t [v] [] h' → Fr h₀ L G m → G.UpToSlots h' → E (.ref e) { s with heap := h', toks := tk' }) :
    wpAny (model PySem.Challenge.pw_np0234_01 w) (ktrTop dp un gd cn cs L a ccd cl outer) (call (.ref 291) [.str T tT]) Q E s :=
  words_any B F X N Tp hk hT (wo := none) (mu := mu) hd hun ⟨rfl, hx, fun _ h => nomatch h⟩ hl (fun ws' e => by cases e) (fun _ => hraise)
end
theorem rg_N13_67 : True := by
  k_with_none
  k_with "all" => assumption
  k_with "enter" => (refine' code_def ?enk1 ?enk2 ?enk3 ?enk4 ?enk5 ?enkA ?enkF ?enkK ?enk6 ?enk7 ?enk8 ?enk9 ?enkB ?_ ?enc2 ?enc3 ?enc4 ?enc5; (case enkA => exact rfl); (case enkF => exact rfl); (case enkK => first | exact rfl | assumption); (case enk1 => k_asm); (case enk2 => k_asm); (case enk3 => k_asm); (case enk4 => k_asm); (case enk5 => k_asm); (case enk6 => k_is); (case enk7 => k_is); (case enk8 => ktr_room); (case enk9 => first | exact BindsTo.of_eq rfl | exact binds_K (by k_in) rfl (by k_is) rfl rfl rfl); (case enc5 => decide); (case enkB => exact locs rfl); (case enc2 => exact rfl); (case enc3 => exact rfl); (case enc4 => exact rfl); k_whole; intro g' L' h' FG' F' N' B' X' T'; (try dsimp only); (try k_fold))
  k_with "my leaving ref" => (k_here; k_dflt (first | (refine leave_onR (by assumption) (by k_asm) (by k_asm) (by k_asm) ?_; k_whole; intro h' R' _ U'; (try dsimp only)) | (refine leave_we (by k_asm) (by k_asm) (by k_asm) ?_ (by exact rfl); k_whole; intro h' R' U'; (try dsimp only))))
  k_with "all" => first | assumption | exact List.forall_mem_nil _ | (refine off_cons (by k_asm) (by k_mem) (by k_mem) (by (intro e; have e9 := congrArg Obj.cls e; first | (simp at e9; done) | ((rename Obj.cls _ = Value.type "tuple_iterator" => hc9); rw [hc9] at e9; simp at e9; done))) (by k_all)) | (refine List.forall_mem_cons.mpr ⟨(by first | assumption | k_ne), (by k_all)⟩) | (refine List.forall_mem_append.mpr ⟨(by k_all), (by k_all)⟩)
  k_with "room" => ((have hcL9 := cLine_is); (simp only [units_in1, units_deeper, Around.mark_units, units_caller]); (try dsimp only [ktrTop]); omega)
  k_with "ne" => first | (refine neN ?_; (try dsimp only); omega) | ((try dsimp only); refine ne_cls (by k_asm) (by k_mem) (by k_mem) (by (intro e; have e9 := congrArg Obj.cls e; simp at e9; done)))
  exact trivial
theorem isl_keep {h h' : Heap} {a : Addr} {its : Array Value} (hS : h.IsList a its) (k : ∀ b o, h.get? b = some o → h'.get? b = some o) : h'.IsList a its := by
  obtain ⟨o, ho, r⟩ := hS
  exact ⟨o, k _ _ ho, r⟩
theorem fold_in {σ τ : Type} (P : σ → Prop) (f : σ → τ → σ) : ∀ (l : List τ) (i : σ), P i → (∀ s k, P s → P (f s k)) → P (l.foldl f i)
  | [], _, h, _ => h
  | k :: r, i, h, hs => fold_in P f r (f i k) (hs _ _ h) hs
theorem init_in (X : Int) : 0 ≤ X.fmod 2147483629 + 17 ∧ X.fmod 2147483629 + 17 < 2147483647 := by
  have h0 := Int.fmod_nonneg_of_pos X (show (0 : Int) < 2147483629 by decide)
  have h1 := Int.fmod_lt_of_pos X (show (0 : Int) < 2147483629 by decide)
  omega
theorem fold_in1 {ρ τ : Type} (f : Int × ρ → τ → Int × ρ) (l : List τ) (i : Int × ρ) (h : 0 ≤ i.1 ∧ i.1 < 2147483647) (hs : ∀ s k, 0 ≤ (f s k).1 ∧ (f s k).1 < 2147483647) : 0 ≤ (l.foldl f i).1 ∧ (l.foldl f i).1 < 2147483647 :=
  fold_in (fun s => 0 ≤ s.1 ∧ s.1 < 2147483647) f l i h fun s k _ => hs s k
theorem rg_F15_68 : True := by
  k_with_none
  k_with "all" => assumption
  k_with "enter" => (refine' code_def ?enk1 ?enk2 ?enk3 ?enk4 ?enk5 ?enkA ?enkF ?enkK ?enk6 ?enk7 ?enk8 ?enk9 ?enkB ?_ ?enc2 ?enc3 ?enc4 ?enc5; (case enkA => exact rfl); (case enkF => exact rfl); (case enkK => first | exact rfl | assumption); (case enk1 => k_asm); (case enk2 => k_asm); (case enk3 => k_asm); (case enk4 => k_asm); (case enk5 => k_asm); (case enk6 => k_is); (case enk7 => k_is); (case enk8 => ktr_room); (case enk9 => first | exact BindsTo.of_eq rfl | exact binds_K (by k_in) rfl (by k_is) rfl rfl rfl); (case enc5 => decide); (case enkB => exact locs rfl); (case enc2 => exact rfl); (case enc3 => exact rfl); (case enc4 => exact rfl); k_whole; intro g' L' h' FG' F' N' B' X' T'; (try dsimp only); (try k_fold))
  k_with "my leaving ref" => (k_here; k_dflt (first | (refine leave_onR (by assumption) (by k_asm) (by k_asm) (by k_asm) ?_; k_whole; intro h' R' _ U'; (try dsimp only)) | (refine leave_we (by k_asm) (by k_asm) (by k_asm) ?_ (by exact rfl); k_whole; intro h' R' U'; (try dsimp only))))
  k_with "all" => first | assumption | exact List.forall_mem_nil _ | (refine off_cons (by k_asm) (by k_mem) (by k_mem) (by (intro e; have e9 := congrArg Obj.cls e; first | (simp at e9; done) | ((rename Obj.cls _ = Value.type "tuple_iterator" => hc9); rw [hc9] at e9; simp at e9; done))) (by k_all)) | (refine List.forall_mem_cons.mpr ⟨(by first | assumption | k_ne), (by k_all)⟩) | (refine List.forall_mem_append.mpr ⟨(by k_all), (by k_all)⟩)
  k_with "room" => ((have hcL9 := cLine_is); (simp only [units_in1, units_deeper, Around.mark_units, units_caller]); (try dsimp only [ktrTop]); omega)
  k_with "ne" => first | (refine neN ?_; (try dsimp only); omega) | ((try dsimp only); refine ne_cls (by k_asm) (by k_mem) (by k_mem) (by (intro e; have e9 := congrArg Obj.cls e; simp at e9; done)))
  exact trivial
theorem rg_F15_69 : True := by
  k_with_none
  k_with "all" => assumption
  k_with "enter" => (refine' code_def ?enk1 ?enk2 ?enk3 ?enk4 ?enk5 ?enkA ?enkF ?enkK ?enk6 ?enk7 ?enk8 ?enk9 ?enkB ?_ ?enc2 ?enc3 ?enc4 ?enc5; (case enkA => exact rfl); (case enkF => exact rfl); (case enkK => first | exact rfl | assumption); (case enk1 => k_asm); (case enk2 => k_asm); (case enk3 => k_asm); (case enk4 => k_asm); (case enk5 => k_asm); (case enk6 => k_is); (case enk7 => k_is); (case enk8 => ktr_room); (case enk9 => first | exact BindsTo.of_eq rfl | exact binds_K (by k_in) rfl (by k_is) rfl rfl rfl); (case enc5 => decide); (case enkB => exact locs rfl); (case enc2 => exact rfl); (case enc3 => exact rfl); (case enc4 => exact rfl); k_whole; intro g' L' h' FG' F' N' B' X' T'; (try dsimp only); (try k_fold))
  k_with "my leaving ref" => (k_here; k_dflt (first | (refine leave_onR (by assumption) (by k_asm) (by k_asm) (by k_asm) ?_; k_whole; intro h' R' _ U'; (try dsimp only)) | (refine leave_we (by k_asm) (by k_asm) (by k_asm) ?_ (by exact rfl); k_whole; intro h' R' U'; (try dsimp only))))
  k_with "all" => first | assumption | exact List.forall_mem_nil _ | (refine off_cons (by k_asm) (by k_mem) (by k_mem) (by (intro e; have e9 := congrArg Obj.cls e; first | (simp at e9; done) | ((rename Obj.cls _ = Value.type "tuple_iterator" => hc9); rw [hc9] at e9; simp at e9; done))) (by k_all)) | (refine List.forall_mem_cons.mpr ⟨(by first | assumption | k_ne), (by k_all)⟩) | (refine List.forall_mem_append.mpr ⟨(by k_all), (by k_all)⟩)
  k_with "room" => ((have hcL9 := cLine_is); (simp only [units_in1, units_deeper, Around.mark_units, units_caller]); (try dsimp only [ktrTop]); omega)
  k_with "ne" => first | (refine neN ?_; (try dsimp only); omega) | ((try dsimp only); refine ne_cls (by k_asm) (by k_mem) (by k_mem) (by (intro e; have e9 := congrArg Obj.cls e; simp at e9; done)))
  k_with "my exec While BoolOp cons nil" => (k_here; refine Stopped.at_ ?_)
  k_with "my exec While Compare cons nil" => (k_here; refine Stopped.at_ ?_)
  k_with "my exec While Name cons nil" => (k_here; refine Stopped.at_ ?_)
  k_with "my exec For Name Call cons nil" => (k_here; k_extra "for")
  k_with "my exec For Name Name cons nil" => (k_here; k_extra "for")
  k_with "my exec For Tuple Tuple cons nil" => (k_here; k_extra "for")
  k_with "my exec While Call cons nil" => (k_here; refine Stopped.at_ ?_)
  k_with "my compareOp In str ref" => (k_here; (with_reducible show wpAny _ _ (compareOp CmpOp.In (Value.str _ _) (Value.ref _)) _ _ _); k_dflt (refine in_topK (by k_asm) (by k_asm) (by k_is) (by repeat constructor) ?_; k_whole))
  k_with "my exec Raise some none" => (k_here; k_dflt (refine raise_stmt rfl ?_))
  k_with "my RaiseAt" => (k_here; k_dflt (refine raise_at (by k_asm) (by k_asm) (by k_asm) ?_; k_whole))
  exact trivial
section
variable {w : World} {p : Program} {loose : List Str} {mean : ExcName → Option Value} {mg mb : Str → Option Value} {dp un : Nat} {gd : Option (List Code)} {cn : Str} {cs : Scope} {a : Addr} {ccd : Value} {cl : List (Str × Addr)} {outer : List Env} {A₀ : Around} {base h₀ : Heap} {L : Addr} {m : Str → Option Value} {news : List (Addr × Obj)} {s : Shared} {Q E : Value → Shared → Prop}
  (B : Below A₀ base outer h₀) (F : Fr h₀ L s.heap m) (X : (kk.heap_1 w.params).In h₀)
variable (Tp : Top p loose mean mg mb h₀) (hk : cs.kind = .function)
include B F X Tp hk
set_option maxHeartbeats 8000000 in
theorem pool_spec {sa : Addr} {vs : List Value} {ns : List Int} (N : News h₀ L s.heap []) (hS : h₀.IsList sa vs.toArray) (hI : IntsAre vs ns) (hlen : ¬ (63 : Int) < (ns.length : Int)) (hlay : (PyData.list (List.map PyData.int ns)).layable0 = true) (hd : dp + 3 < recursionLimit) (hun : un + 200 < cLine)
    (hret : ∀ h' tk' so va vb t1 t2 cap, Fr h₀ L h' m → News h₀ L h' [(so, listOf #[.int va t1, .int vb t2] cap)] → 0 ≤ vb → vb < 2147483647 → Q (.ref so) { s with heap := h', toks := tk' }) :
    wpAny (model PySem.Challenge.pw_np0234_01 w) (ktrTop dp un gd cn cs L a ccd cl outer) (call (.ref 298) [.ref sa]) Q E s := by
  (k_with "pyIter ref" => k_invariant "mixed" (fun a => 0 ≤ a ∧ a < 2147483647))
  refine wpAny_call ?_
  k_dflt k_extra "enter"
  rename Fr h₀ L _ _ => FG
  have hS2 := isl_keep hS FG.keep
  clear hS
  k_steps
  all_goals
    refine hret _ _ _ _ _ _ _ _ (by k_asm) (by first | k_asm | (refine' cb_drop ?cbN ?cbS; (case cbN => assumption); (case cbS => kcj_all))) ?_ ?_
    all_goals first | assumption | exact (fold_in1 _ _ _ (init_in _) (fun _ _ => ⟨Int.fmod_nonneg_of_pos _ (by decide), Int.fmod_lt_of_pos _ (by decide)⟩)).1 | exact (fold_in1 _ _ _ (init_in _) (fun _ _ => ⟨Int.fmod_nonneg_of_pos _ (by decide), Int.fmod_lt_of_pos _ (by decide)⟩)).2 | exact (init_in _).1 | exact (init_in _).2 | (rename 0 ≤ _ ∧ _ => hm; exact hm.1) | (rename 0 ≤ _ ∧ _ => hm; exact hm.2) | decide | trace_state
end
theorem rg_N14_70 : True := by
  k_with_none
  k_with "all" => assumption
  k_with "enter" => (refine' code_def ?enk1 ?enk2 ?enk3 ?enk4 ?enk5 ?enkA ?enkF ?enkK ?enk6 ?enk7 ?enk8 ?enk9 ?enkB ?_ ?enc2 ?enc3 ?enc4 ?enc5; (case enkA => exact rfl); (case enkF => exact rfl); (case enkK => first | exact rfl | assumption); (case enk1 => k_asm); (case enk2 => k_asm); (case enk3 => k_asm); (case enk4 => k_asm); (case enk5 => k_asm); (case enk6 => k_is); (case enk7 => k_is); (case enk8 => ktr_room); (case enk9 => first | exact BindsTo.of_eq rfl | exact binds_K (by k_in) rfl (by k_is) rfl rfl rfl); (case enc5 => decide); (case enkB => exact locs rfl); (case enc2 => exact rfl); (case enc3 => exact rfl); (case enc4 => exact rfl); k_whole; intro g' L' h' FG' F' N' B' X' T'; (try dsimp only); (try k_fold))
  k_with "my leaving ref" => (k_here; k_dflt (first | (refine leave_onR (by assumption) (by k_asm) (by k_asm) (by k_asm) ?_; k_whole; intro h' R' _ U'; (try dsimp only)) | (refine leave_we (by k_asm) (by k_asm) (by k_asm) ?_ (by exact rfl); k_whole; intro h' R' U'; (try dsimp only))))
  k_with "all" => first | assumption | exact List.forall_mem_nil _ | (refine off_cons (by k_asm) (by k_mem) (by k_mem) (by (intro e; have e9 := congrArg Obj.cls e; first | (simp at e9; done) | ((rename Obj.cls _ = Value.type "tuple_iterator" => hc9); rw [hc9] at e9; simp at e9; done))) (by k_all)) | (refine List.forall_mem_cons.mpr ⟨(by first | assumption | k_ne), (by k_all)⟩) | (refine List.forall_mem_append.mpr ⟨(by k_all), (by k_all)⟩)
  k_with "room" => ((have hcL9 := cLine_is); (simp only [units_in1, units_deeper, Around.mark_units, units_caller]); (try dsimp only [ktrTop]); omega)
  k_with "ne" => first | (refine neN ?_; (try dsimp only); omega) | ((try dsimp only); refine ne_cls (by k_asm) (by k_mem) (by k_mem) (by (intro e; have e9 := congrArg Obj.cls e; simp at e9; done)))
  exact trivial
theorem WIn.get {w : World} {wl : List (Addr × Obj)} {vs : List Value} {ws : List Wd} (h : WIn w wl vs ws) : ∀ (i : Nat) (v : Value), vs[i]? = some v → ∃ a dd k1 k2 k3 k4 k5 k6 t1 t2 t3 t4 t5 x, v = .ref a ∧ ws[i]? = some x ∧ (a, instObj 90 dd) ∈ wl ∧ (dd, wdO w k1 k2 k3 k4 k5 k6 t1 t2 t3 t4 t5 x) ∈ wl := by
  induction h with
  | nil => intro i v h; simp at h
  | cons h1 h2 _ ih =>
    intro i v h
    cases i with
    | zero => simp at h; subst h; exact ⟨_, _, _, _, _, _, _, _, _, _, _, _, _, _, rfl, rfl, h1, h2⟩
    | succ i => exact ih i v (by simpa using h)
section
variable {prog : Program} {w : World} {A : Around} {E : Value → Shared → Prop} {h₀ : Heap} {L : Addr} {m : Str → Option Value} {env : Env}
open LCg
/-- one word told -/
noncomputable def ElTold (prog : Program) (w : World) (A : Around) (h₀ : Heap) (L : Addr) (m : Str → Option Value) (env : Env) (elt : Expr) (x : Str) (scope : Scope) (cl : List (Str × Addr)) (s : Shared) : Prop :=
  ∀ a dd k1 k2 k3 k4 k5 k6 t1 t2 t3 t4 t5 (y : Wd) I oI C oC D ys m₂ all h tk (Q : Value → Shared → Prop) (E' : Value → Shared → Prop), NsObj oC m₂ → m₂ x = some (.ref a) → Fr h₀ L h m → News h₀ L h ((I, oI) :: (C, oC) :: (D, lst ys) :: (a, instObj 90 dd) :: (dd, wdO w k1 k2 k3 k4 k5 k6 t1 t2 t3 t4 t5 y) :: all) →
    (∀ q p h' tk' u1 u2 u3 u4 u5, Fr h₀ L h' m → News h₀ L h' ((q, tupO #[.str y.kd u1, .str y.tx u2, pvV y.pv u3, .ref p, .bool y.first]) :: (p, tupO #[.int y.line u4, .int y.col u5]) :: (I, oI) :: (C, oC) :: (D, lst ys) :: all) → (∀ z ∈ (I, oI) :: (C, oC) :: (D, lst ys) :: all, z.1 < p) → p < q → Q (.ref q) { s with heap := h', toks := tk' }) →
      wpAny (model prog w) A (eval elt (compEnvC scope cl C env)) Q E' { s with heap := h, toks := tk }
theorem comp_word {scope : Scope} {cl : List (Str × Addr)} {fl : Addr} {vs : List Value} {ws : List Wd} {base : List (Addr × Obj)} {elt : Expr} {x : Str} {s : Shared} {Fin : List Value → List (Addr × Obj) → Prop} (hp : WIn w base vs ws) (hS : SrcAt h₀ fl vs.toArray base)
    (el : ElTold prog w A h₀ L m env elt x scope cl s)
    (fin : ∀ ys wl, DW wl ys ws → (∀ p ∈ wl, ∀ q ∈ base, q.1 < p.1) → Fin ys (wl ++ base)) :
    ∀ (k i : Nat) (ys : List Value) (wl : List (Addr × Obj)), k + i = ws.length → DW wl ys (ws.take i) → (∀ p ∈ wl, ∀ q ∈ base, q.1 < p.1) →
      CompRest prog w A h₀ L m env elt x scope cl s (SrcAt h₀ fl vs.toArray) (fun i v => vs.toArray[i]? = some v) Fin k i ys (wl ++ base)
  | 0, i, ys, wl, hi, ht, hfr => .zero (by
    rw [List.take_of_length_le (by omega)] at ht
    exact fin ys wl ht hfr)
  | k + 1, i, ys, wl, hi, ht, hfr => .succ (fun v I oI C oC D m₂ h tk E' hv hC h1 F N off hne => by
    obtain ⟨a, dd, k1, k2, k3, k4, k5, k6, t1, t2, t3, t4, t5, y, rfl, hy, hm1, hm2⟩ := hp.get i v (by simpa using hv)
    have N2 : News h₀ L h ((I, oI) :: (C, oC) :: (D, lst ys) :: (a, instObj 90 dd) :: (dd, wdO w k1 k2 k3 k4 k5 k6 t1 t2 t3 t4 t5 y) :: (wl ++ base)) := fun p hp => N p (by
      rcases List.mem_cons.mp hp with rfl | hp
      · exact .head _
      rcases List.mem_cons.mp hp with rfl | hp
      · exact .tail _ (.head _)
      rcases List.mem_cons.mp hp with rfl | hp
      · exact .tail _ (.tail _ (.head _))
      rcases List.mem_cons.mp hp with rfl | hp
      · exact .tail _ (.tail _ (.tail _ (List.mem_append.mpr (.inr hm1))))
      rcases List.mem_cons.mp hp with rfl | hp
      · exact .tail _ (.tail _ (.tail _ (List.mem_append.mpr (.inr hm2))))
      · exact .tail _ (.tail _ (.tail _ hp)))
    refine el a dd k1 k2 k3 k4 k5 k6 t1 t2 t3 t4 t5 y I oI C oC D ys m₂ _ h tk _ E' hC h1 F N2 fun q p h' tk' u1 u2 u3 u4 u5 F' N' hlt hpq => ?_
    have off3 := off.mem
    have hlq : ∀ z ∈ (I, oI) :: (C, oC) :: (D, lst ys) :: (wl ++ base), z.1 < q := fun z hz => Nat.lt_trans (hlt z hz) hpq
    refine ⟨h', tk', ((q, tupO #[.str y.kd u1, .str y.tx u2, pvV y.pv u3, .ref p, .bool y.first]) :: (p, tupO #[.int y.line u4, .int y.col u5]) :: wl) ++ base, rfl, F', fun z hz => N' z ?_, Off3.of fun z hz => ?_, ?_, ?_⟩
    · rcases List.mem_cons.mp hz with rfl | hz
      · exact .tail _ (.tail _ (.head _))
      rcases List.mem_cons.mp hz with rfl | hz
      · exact .tail _ (.tail _ (.tail _ (.head _)))
      rcases List.mem_cons.mp hz with rfl | hz
      · exact .tail _ (.tail _ (.tail _ (.tail _ (.head _))))
      rcases List.mem_cons.mp hz with rfl | hz
      · exact .head _
      rcases List.mem_cons.mp hz with rfl | hz
      · exact .tail _ (.head _)
      · exact .tail _ (.tail _ (.tail _ (.tail _ (.tail _ hz))))
    · rcases List.mem_cons.mp hz with rfl | hz
      · exact ⟨Nat.ne_of_gt (hlq _ (.head _)), Nat.ne_of_gt (hlq _ (.tail _ (.head _))), Nat.ne_of_gt (hlq _ (.tail _ (.tail _ (.head _))))⟩
      rcases List.mem_cons.mp hz with rfl | hz
      · exact ⟨Nat.ne_of_gt (hlt _ (.head _)), Nat.ne_of_gt (hlt _ (.tail _ (.head _))), Nat.ne_of_gt (hlt _ (.tail _ (.tail _ (.head _))))⟩
      · exact off3 z hz
    · rcases hS with hS | ⟨o, hm, r⟩
      · exact .inl hS
      · exact .inr ⟨o, List.mem_append.mpr (.inr hm), r⟩
    · refine comp_word hp hS el fin k (i + 1) (ys ++ [.ref q]) ((q, tupO #[.str y.kd u1, .str y.tx u2, pvV y.pv u3, .ref p, .bool y.first]) :: (p, tupO #[.int y.line u4, .int y.col u5]) :: wl) (by omega) ?_ ?_
      · have e : ws.take (i + 1) = ws.take i ++ [y] := by rw [List.take_add_one, hy]; rfl
        rw [e]
        exact (ht.mono fun z hz => .tail _ (.tail _ hz)).append (.cons (.head _) (.tail _ (.head _)) .nil)
      · intro z hz z' hz'
        rcases List.mem_cons.mp hz with rfl | hz
        · exact hlq _ (.tail _ (.tail _ (.tail _ (List.mem_append.mpr (.inr hz')))))
        rcases List.mem_cons.mp hz with rfl | hz
        · exact hlt _ (.tail _ (.tail _ (.tail _ (List.mem_append.mpr (.inr hz')))))
        · exact hfr z hz z' hz')
end
/-! ## what is told is what is due -/
noncomputable def pvP : PV → PyData
  | .none => .none
  | .int i => .int i
  | .str x => .str x
noncomputable def wdP (x : Wd) : PyData := .tuple [.str x.kd, .str x.tx, pvP x.pv, .tuple [.int x.line, .int x.col], .bool x.first]
noncomputable def okW (x : Wd) : Prop := PyData.strOk x.kd = true ∧ PyData.strOk x.tx = true ∧ (pvP x.pv).canLay0 = true
theorem pv_reads (h : Heap) (p : PV) (t : Tok) : Reads h (pvV p t) (pvP p) [] := by cases p <;> constructor
theorem DW.reads {h₀ h : Heap} {L : Addr} {news : List (Addr × Obj)} (N : News h₀ L h news) {vs : List Value} {ws : List Wd} (d : DW news vs ws) : ReadsAll h vs (ws.map wdP) [] := by
  induction d with
  | nil => exact .nil
  | cons h1 h2 _ ih =>
    refine ReadsAll.cons (as := []) (bs := []) ?_ ih
    refine Reads.tuple (N _ h1).1 rfl rfl ?_
    refine ReadsAll.cons (as := []) (bs := []) (.str _ _) (ReadsAll.cons (as := []) (bs := []) (.str _ _) (ReadsAll.cons (as := []) (bs := []) (pv_reads _ _ _) (ReadsAll.cons (as := []) (bs := []) ?_ (ReadsAll.cons (as := []) (bs := []) (.bool _) .nil))))
    exact Reads.tuple (N _ h2).1 rfl rfl (ReadsAll.cons (as := []) (bs := []) (.int _ _) (ReadsAll.cons (as := []) (bs := []) (.int _ _) .nil))
noncomputable def pvOk : PV → Bool
  | .str x => PyData.strOk x
  | _ => true
theorem pv_lay (p : PV) : (pvP p).canLay0 = pvOk p := by cases p <;> simp [PyData.canLay0, pvP, pvOk]
theorem pv_depth (p : PV) : (pvP p).depth ≤ 1 := by cases p <;> simp [PyData.depth, pvP]
theorem okW_all : ∀ i, i < 27 → (PyData.strOk (wKd i) && PyData.strOk (wTold i) && pvOk (wPV i)) = true := by decide +kernel
theorem okW_i {i : Nat} (hi : i < 27) (a b : Int) (f : Bool) : okW ⟨wKd i, wTold i, wPV i, a, b, f⟩ := by
  have h := okW_all i hi
  rw [Bool.and_eq_true, Bool.and_eq_true] at h
  exact ⟨h.1.1, h.1.2, by rw [pv_lay]; exact h.2⟩
theorem okW_due (b : Nat) : ∀ (ds : List Dr) (p : Int × Int) (f : Bool), (∀ x ∈ ds, x.1 < 9 ∧ x.2 < 27) → ∀ y ∈ dDue ds b p f, okW y
  | [], p, f, _, y, hy => by
    have hy : y ∈ [_] := hy
    rw [List.mem_singleton.mp hy]
    exact ⟨(by decide +kernel : PyData.strOk (Str.ofString "end") = true), (by decide +kernel : PyData.strOk (Str.ofString "") = true), by simp [PyData.canLay0, pvP]⟩
  | x :: r, p, f, h, y, hy => by
    rcases List.mem_cons.mp hy with rfl | hy
    · exact okW_i (h x (.head _)).2 _ _ _
    · exact okW_due b r _ _ (fun z hz => h z (.tail _ hz)) y hy
theorem lay_all : ∀ ws : List Wd, (∀ x ∈ ws, okW x) → PyData.canLayAll0 (ws.map wdP) = true
  | [], _ => by simp [PyData.canLayAll0]
  | x :: r, h => by
    obtain ⟨h1, h2, h3⟩ := h x (.head _)
    have ih := lay_all r (fun y hy => h y (.tail _ hy))
    simp [PyData.canLayAll0, wdP, PyData.canLay0, h1, h2, h3, ih]
theorem depth_all : ∀ ws : List Wd, PyData.depthAll (ws.map wdP) ≤ 3
  | [] => by simp [PyData.depthAll]
  | x :: r => by
    have ih := depth_all r
    have hp := pv_depth x.pv
    simp only [List.map_cons, PyData.depthAll, wdP, PyData.depth]
    exact Nat.max_le.mpr ⟨Nat.succ_le_succ (Nat.max_le.mpr ⟨by decide, Nat.max_le.mpr ⟨by decide, Nat.max_le.mpr ⟨Nat.le_trans hp (by decide), by decide⟩⟩⟩), ih⟩
theorem shaped_ws {ws : List Wd} (h : ∀ x ∈ ws, okW x) : PySem.SeqAt.shaped (.list (ws.map wdP)) = true := by
  unfold PySem.SeqAt.shaped
  have h2 := depth_all ws
  rw [Bool.and_eq_true]
  refine ⟨by simp only [PyData.canLay0]; exact lay_all ws h, decide_eq_true ?_⟩
  simp only [PyData.depth]
  exact Nat.le_trans (Nat.succ_le_succ h2) (by decide)
theorem ne_told {prog : Program} {w : World} {A : Around} {E : Value → Shared → Prop} {s : Shared} {h₀ : Heap} {L a b : Addr} {news : List (Addr × Obj)} {Q : Value → Shared → Prop} {vs us : List Value} {k1 k2 : Nat} {ws : List Wd} (N : News h₀ L s.heap news) (ma : (a, W.listOf vs.toArray k1) ∈ news) (mb : (b, W.listOf us.toArray k2) ∈ news)
    (d1 : DW news vs ws) (d2 : DW news us ws) (ok : ∀ x ∈ ws, okW x) (hu : A.units + 64 < cLine) (h : Q (.bool false) s) : wpAny (model prog w) A (compareOp .NotEq (.ref a) (.ref b)) Q E s := by
  have hs := shaped_ws ok
  have hl : PyData.canLay0 (.list (ws.map wdP)) = true := by simp only [PyData.canLay0]; exact lay_all ws ok
  refine ne_dataH (Reads.list (N _ ma).1 rfl rfl (by simpa using d1.reads N)) (Reads.list (N _ mb).1 rfl rfl (by simpa using d2.reads N)) hs hs hu ?_
  rw [_root_.PySem.SeqAt.eqv_refl _ hl]
  exact h
theorem rg_N15_71 : True := by
  k_with_none
  k_with "all" => assumption
  k_with "enter" => (refine' code_def ?enk1 ?enk2 ?enk3 ?enk4 ?enk5 ?enkA ?enkF ?enkK ?enk6 ?enk7 ?enk8 ?enk9 ?enkB ?_ ?enc2 ?enc3 ?enc4 ?enc5; (case enkA => exact rfl); (case enkF => exact rfl); (case enkK => first | exact rfl | assumption); (case enk1 => k_asm); (case enk2 => k_asm); (case enk3 => k_asm); (case enk4 => k_asm); (case enk5 => k_asm); (case enk6 => k_is); (case enk7 => k_is); (case enk8 => ktr_room); (case enk9 => first | exact BindsTo.of_eq rfl | exact binds_K (by k_in) rfl (by k_is) rfl rfl rfl); (case enc5 => decide); (case enkB => exact locs rfl); (case enc2 => exact rfl); (case enc3 => exact rfl); (case enc4 => exact rfl); k_whole; intro g' L' h' FG' F' N' B' X' T'; (try dsimp only); (try k_fold))
  k_with "my leaving ref" => (k_here; k_dflt (first | (refine leave_onR (by assumption) (by k_asm) (by k_asm) (by k_asm) ?_; k_whole; intro h' R' _ U'; (try dsimp only)) | (refine leave_we (by k_asm) (by k_asm) (by k_asm) ?_ (by exact rfl); k_whole; intro h' R' U'; (try dsimp only))))
  k_with "all" => first | assumption | exact List.forall_mem_nil _ | (refine off_cons (by k_asm) (by k_mem) (by k_mem) (by (intro e; have e9 := congrArg Obj.cls e; first | (simp at e9; done) | ((rename Obj.cls _ = Value.type "tuple_iterator" => hc9); rw [hc9] at e9; simp at e9; done))) (by k_all)) | (refine List.forall_mem_cons.mpr ⟨(by first | assumption | k_ne), (by k_all)⟩) | (refine List.forall_mem_append.mpr ⟨(by k_all), (by k_all)⟩)
  k_with "room" => ((have hcL9 := cLine_is); (simp only [units_in1, units_deeper, Around.mark_units, units_caller]); (try dsimp only [ktrTop]); omega)
  k_with "ne" => first | (refine neN ?_; (try dsimp only); omega) | ((try dsimp only); refine ne_cls (by k_asm) (by k_mem) (by k_mem) (by (intro e; have e9 := congrArg Obj.cls e; simp at e9; done)))
  exact trivial
theorem cpl_dEnd (ds : List Dr) (b : Nat) : cpl (dEnd ds b) = dText ds ++ bCodes b := by
  show ((dText ds).toArray ++ (bCodes b).toArray).toList = _
  simp
theorem lex_dEnd {ds : List Dr} {b : Nat} (hok : ∀ x ∈ ds, x.1 < 9 ∧ x.2 < 27) (hb : b < 9) : Lex (cpl (dEnd ds b)) 0 true (dDue ds b (1, 1) true) := by
  have h := lex_all (l := cpl (dEnd ds b)) hb ds (n := 0) true hok (by rw [List.drop_zero, cpl_dEnd, List.append_nil])
  exact h
theorem dEnd_len {ds : List Dr} {b : Nat} (hok : ∀ x ∈ ds, x.1 < 9 ∧ x.2 < 27) (hds : ds.length ≤ 5) : (dEnd ds b).length ≤ 300 := by
  have h1 := dText_len ds hok
  have h2 := bCodes_len b
  show ((dText ds).toArray ++ (bCodes b).toArray).size ≤ 300
  rw [Array.size_append, List.size_toArray, List.size_toArray]
  omega
theorem dDue_len (b : Nat) : ∀ (ds : List Dr) (p : Int × Int) (f : Bool), (dDue ds b p f).length = ds.length + 1
  | [], _, _ => rfl
  | x :: r, p, f => by
    show (dDue r b _ _).length + 1 = _
    rw [dDue_len b r]; rfl
theorem wr_str : ∀ n, n < 9 → [Str.ofString "'ab'", Str.ofString "''", Str.ofString "'\\q'", Str.ofString "\"a", Str.ofString "\"a\n\"", Str.ofString "{- {- -}", Str.ofString "\x01", Str.ofString "'a", Str.ofString "\"\\1114112\""].getD n Str.empty = ⟨(wrCodes n).toArray⟩ := by decide +kernel
theorem wr_len (n : Nat) : (wrCodes n).length ≤ 20 := by
  by_cases h : n < 9
  · exact (by decide +kernel : ∀ n, n < 9 → (wrCodes n).length ≤ 20) n h
  · have : wrCodes n = wrCodes 8 := by
      unfold wrCodes
      split <;> first | rfl | omega
    rw [this]; decide
noncomputable def dBad (ds : List Dr) (b j : Nat) : Str := dEnd ds b ++ Str.ofString " " ++ (⟨(wrCodes j).toArray⟩ : Str)
theorem cpl_dBad (ds : List Dr) (b j : Nat) : cpl (dBad ds b j) = dText ds ++ (bCodes b ++ 32 :: wrCodes j) := by
  have e : Str.ofString " " = (⟨#[32]⟩ : Str) := by decide +kernel
  unfold dBad
  rw [e]
  show (((dText ds).toArray ++ (bCodes b).toArray) ++ #[32] ++ (wrCodes j).toArray).toList = _
  simp
theorem lex_dBad {ds : List Dr} {b j : Nat} (hok : ∀ x ∈ ds, x.1 < 9 ∧ x.2 < 27) (hb : b < 9) (hj : j < 9) : LexBad (cpl (dBad ds b j)) 0 ds.length :=
  lexbad_all hb hj ds hok (by rw [List.drop_zero, cpl_dBad])
theorem dBad_len {ds : List Dr} {b j : Nat} (hok : ∀ x ∈ ds, x.1 < 9 ∧ x.2 < 27) (hds : ds.length ≤ 5) : (dBad ds b j).length ≤ 4096 := by
  have h1 := dText_len ds hok
  have h2 := bCodes_len b
  have h3 := wr_len j
  have e : (dBad ds b j).length = (cpl (dBad ds b j)).length := by simp [Str.length, cpl]
  rw [e, cpl_dBad, List.length_append, List.length_append, List.length_cons]
  omega
theorem dEnd_sp {ds : List Dr} {b : Nat} (h : (dEnd ds b).length ≤ 300) : (dEnd ds b ++ Str.ofString " ").length ≤ 400 := by
  have e : Str.ofString " " = (⟨#[32]⟩ : Str) := by decide +kernel
  rw [e]
  show ((dEnd ds b).cps ++ #[32]).size ≤ 400
  rw [Array.size_append]
  exact Nat.le_trans (Nat.add_le_add h (Nat.le_refl _)) (by decide)
theorem wr_get_len (n : Nat) : ([Str.ofString "'ab'", Str.ofString "''", Str.ofString "'\\q'", Str.ofString "\"a", Str.ofString "\"a\n\"", Str.ofString "{- {- -}", Str.ofString "\x01", Str.ofString "'a", Str.ofString "\"\\1114112\""].getD n Str.empty).length ≤ 400 := by
  by_cases h : n < 9
  · rw [wr_str n h]
    have := wr_len n
    show (wrCodes n).toArray.size ≤ 400
    rw [List.size_toArray]; omega
  · rw [List.getD_eq_getElem?_getD, List.getElem?_eq_none (by show 9 ≤ n; omega)]
    decide
theorem law_facts {ds : List Dr} {b : Nat} (hok : ∀ x ∈ ds, x.1 < 9 ∧ x.2 < 27) (hb : b < 9) (hds : ds.length ≤ 5) :
    Lex (cpl (dEnd ds b)) 0 true (dDue ds b (1, 1) true) ∧ (dEnd ds b).length ≤ 300 ∧ (dEnd ds b).length ≤ 4096 ∧ (dDue ds b (1, 1) true).length ≤ 1000 ∧ ∀ y ∈ dDue ds b (1, 1) true, okW y :=
  ⟨lex_dEnd hok hb, dEnd_len hok hds, Nat.le_trans (dEnd_len hok hds) (by decide), by rw [dDue_len]; omega, okW_due b ds _ _ hok⟩
theorem src_at {h₀ : Heap} {f : Addr} {its : Array Value} {k : Nat} {r : List (Addr × Obj)} : LCg.SrcAt h₀ f its ((f, W.listOf its k) :: r) := .inr ⟨_, .head _, rfl, _, rfl⟩
theorem comp_word0 {prog : Program} {w : World} {A : Around} {h₀ : Heap} {L : Addr} {m : Str → Option Value} {env : Env} {scope : Scope} {cl : List (Str × Addr)} {fl : Addr} {vs : List Value} {ws : List Wd} {wl r : List (Addr × Obj)} {cap : Nat} {elt : Expr} {x : Str} {s : Shared} {Fin : List Value → List (Addr × Obj) → Prop} (hp : WIn w wl vs ws)
    (el : ElTold prog w A h₀ L m env elt x scope cl s)
    (fin : ∀ ys wl', DW wl' ys ws → (∀ p ∈ wl', ∀ q ∈ (fl, W.listOf vs.toArray cap) :: (wl ++ r), q.1 < p.1) → Fin ys (wl' ++ ((fl, W.listOf vs.toArray cap) :: (wl ++ r)))) :
    LCg.CompRest prog w A h₀ L m env elt x scope cl s (LCg.SrcAt h₀ fl vs.toArray) (fun i v => vs.toArray[i]? = some v) Fin vs.toArray.size 0 [] ((fl, W.listOf vs.toArray cap) :: (wl ++ r)) :=
  comp_word (hp.mono fun p hp => .tail _ (List.mem_append.mpr (.inl hp))) src_at el fin vs.toArray.size 0 [] [] (by rw [Nat.add_zero, List.size_toArray, hp.length]) .nil (fun _ h => nomatch h)
theorem news_el {h₀ h : Heap} {L : Addr} {q p I C D a d : Addr × Obj} {all : List (Addr × Obj)} (N : News h₀ L h (q :: p :: I :: C :: D :: a :: d :: all)) : News h₀ L h (q :: p :: I :: C :: D :: all) := fun z hz => N z (by
  rcases List.mem_cons.mp hz with rfl | hz
  · exact .head _
  rcases List.mem_cons.mp hz with rfl | hz
  · exact .tail _ (.head _)
  rcases List.mem_cons.mp hz with rfl | hz
  · exact .tail _ (.tail _ (.head _))
  rcases List.mem_cons.mp hz with rfl | hz
  · exact .tail _ (.tail _ (.tail _ (.head _)))
  rcases List.mem_cons.mp hz with rfl | hz
  · exact .tail _ (.tail _ (.tail _ (.tail _ (.head _))))
  · exact .tail _ (.tail _ (.tail _ (.tail _ (.tail _ (.tail _ (.tail _ hz)))))))
theorem lt_el {p I C D a d : Addr} {oI oC oD : Obj} {all : List (Addr × Obj)} (l : @LT.lt Nat _ I p ∧ @LT.lt Nat _ C p ∧ @LT.lt Nat _ D p ∧ @LT.lt Nat _ a p ∧ @LT.lt Nat _ d p ∧ AllLt p all) : ∀ z ∈ (I, oI) :: (C, oC) :: (D, oD) :: all, z.1 < p := fun z hz => by
  rcases List.mem_cons.mp hz with rfl | hz
  · exact l.1
  rcases List.mem_cons.mp hz with rfl | hz
  · exact l.2.1
  rcases List.mem_cons.mp hz with rfl | hz
  · exact l.2.2.1
  · exact lt_of_all l.2.2.2.2.2 z hz
theorem so_only {h₀ h : Heap} {L : Addr} {D f S : Addr × Obj} {wl wl' r : List (Addr × Obj)} (N : News h₀ L h (D :: (wl ++ (f :: (wl' ++ (S :: r)))))) : News h₀ L h [S] := fun z hz => N z (by
  rw [List.mem_singleton.mp hz]
  exact .tail _ (List.mem_append.mpr (.inr (.tail _ (List.mem_append.mpr (.inr (.head _)))))))
theorem toNat9 {v : Int} (h0 : 0 ≤ v) (h : v < 9) : v.toNat < 9 := by omega
theorem bad_facts {ds : List Dr} {b j : Nat} (hok : ∀ x ∈ ds, x.1 < 9 ∧ x.2 < 27) (hb : b < 9) (hds : ds.length ≤ 5) (hj : j < 9) :
    LexBad (cpl (dEnd ds b ++ Str.ofString " " ++ (⟨(wrCodes j).toArray⟩ : Str))) 0 ds.length ∧ (dEnd ds b ++ Str.ofString " " ++ (⟨(wrCodes j).toArray⟩ : Str)).length ≤ 4096 ∧ ds.length ≤ 1000 :=
  ⟨lex_dBad hok hb hj, dBad_len hok hds, Nat.le_trans hds (by decide)⟩
theorem rg_F16_72 : True := by
  k_with_none
  k_with "all" => assumption
  k_with "enter" => (refine' code_def ?enk1 ?enk2 ?enk3 ?enk4 ?enk5 ?enkA ?enkF ?enkK ?enk6 ?enk7 ?enk8 ?enk9 ?enkB ?_ ?enc2 ?enc3 ?enc4 ?enc5; (case enkA => exact rfl); (case enkF => exact rfl); (case enkK => first | exact rfl | assumption); (case enk1 => k_asm); (case enk2 => k_asm); (case enk3 => k_asm); (case enk4 => k_asm); (case enk5 => k_asm); (case enk6 => k_is); (case enk7 => k_is); (case enk8 => ktr_room); (case enk9 => first | exact BindsTo.of_eq rfl | exact binds_K (by k_in) rfl (by k_is) rfl rfl rfl); (case enc5 => decide); (case enkB => exact locs rfl); (case enc2 => exact rfl); (case enc3 => exact rfl); (case enc4 => exact rfl); k_whole; intro g' L' h' FG' F' N' B' X' T'; (try dsimp only); (try k_fold))
  k_with "my leaving ref" => (k_here; k_dflt (first | (refine leave_onR (by assumption) (by k_asm) (by k_asm) (by k_asm) ?_; k_whole; intro h' R' _ U'; (try dsimp only)) | (refine leave_we (by k_asm) (by k_asm) (by k_asm) ?_ (by exact rfl); k_whole; intro h' R' U'; (try dsimp only))))
  k_with "all" => first | assumption | exact List.forall_mem_nil _ | (refine off_cons (by k_asm) (by k_mem) (by k_mem) (by (intro e; have e9 := congrArg Obj.cls e; first | (simp at e9; done) | ((rename Obj.cls _ = Value.type "tuple_iterator" => hc9); rw [hc9] at e9; simp at e9; done))) (by k_all)) | (refine List.forall_mem_cons.mpr ⟨(by first | assumption | k_ne), (by k_all)⟩) | (refine List.forall_mem_append.mpr ⟨(by k_all), (by k_all)⟩)
  k_with "room" => ((have hcL9 := cLine_is); (simp only [units_in1, units_deeper, Around.mark_units, units_caller]); (try dsimp only [ktrTop]); omega)
  k_with "ne" => first | (refine neN ?_; (try dsimp only); omega) | ((try dsimp only); refine ne_cls (by k_asm) (by k_mem) (by k_mem) (by (intro e; have e9 := congrArg Obj.cls e; simp at e9; done)))
  exact trivial
theorem rg_F16_73 : True := by
  k_with_none
  k_with "all" => assumption
  k_with "enter" => (refine' code_def ?enk1 ?enk2 ?enk3 ?enk4 ?enk5 ?enkA ?enkF ?enkK ?enk6 ?enk7 ?enk8 ?enk9 ?enkB ?_ ?enc2 ?enc3 ?enc4 ?enc5; (case enkA => exact rfl); (case enkF => exact rfl); (case enkK => first | exact rfl | assumption); (case enk1 => k_asm); (case enk2 => k_asm); (case enk3 => k_asm); (case enk4 => k_asm); (case enk5 => k_asm); (case enk6 => k_is); (case enk7 => k_is); (case enk8 => ktr_room); (case enk9 => first | exact BindsTo.of_eq rfl | exact binds_K (by k_in) rfl (by k_is) rfl rfl rfl); (case enc5 => decide); (case enkB => exact locs rfl); (case enc2 => exact rfl); (case enc3 => exact rfl); (case enc4 => exact rfl); k_whole; intro g' L' h' FG' F' N' B' X' T'; (try dsimp only); (try k_fold))
  k_with "my leaving ref" => (k_here; k_dflt (first | (refine leave_onR (by assumption) (by k_asm) (by k_asm) (by k_asm) ?_; k_whole; intro h' R' _ U'; (try dsimp only)) | (refine leave_we (by k_asm) (by k_asm) (by k_asm) ?_ (by exact rfl); k_whole; intro h' R' U'; (try dsimp only))))
  k_with "all" => first | assumption | exact List.forall_mem_nil _ | (refine off_cons (by k_asm) (by k_mem) (by k_mem) (by (intro e; have e9 := congrArg Obj.cls e; first | (simp at e9; done) | ((rename Obj.cls _ = Value.type "tuple_iterator" => hc9); rw [hc9] at e9; simp at e9; done))) (by k_all)) | (refine List.forall_mem_cons.mpr ⟨(by first | assumption | k_ne), (by k_all)⟩) | (refine List.forall_mem_append.mpr ⟨(by k_all), (by k_all)⟩)
  k_with "room" => ((have hcL9 := cLine_is); (simp only [units_in1, units_deeper, Around.mark_units, units_caller]); (try dsimp only [ktrTop]); omega)
  k_with "ne" => first | (refine neN ?_; (try dsimp only); omega) | ((try dsimp only); refine ne_cls (by k_asm) (by k_mem) (by k_mem) (by (intro e; have e9 := congrArg Obj.cls e; simp at e9; done)))
  k_with "my exec While BoolOp cons nil" => (k_here; refine Stopped.at_ ?_)
  k_with "my exec While Compare cons nil" => (k_here; refine Stopped.at_ ?_)
  k_with "my exec While Name cons nil" => (k_here; refine Stopped.at_ ?_)
  k_with "my exec For Name Call cons nil" => (k_here; k_extra "for")
  k_with "my exec For Name Name cons nil" => (k_here; k_extra "for")
  k_with "my exec For Tuple Tuple cons nil" => (k_here; k_extra "for")
  k_with "my exec While Call cons nil" => (k_here; refine Stopped.at_ ?_)
  k_with "my compareOp In str ref" => (k_here; (with_reducible show wpAny _ _ (compareOp CmpOp.In (Value.str _ _) (Value.ref _)) _ _ _); k_dflt (refine in_topK (by k_asm) (by k_asm) (by k_is) (by repeat constructor) ?_; k_whole))
  k_with "my exec Raise some none" => (k_here; k_dflt (refine raise_stmt rfl ?_))
  k_with "my RaiseAt" => (k_here; k_dflt (refine raise_at (by k_asm) (by k_asm) (by k_asm) ?_; k_whole))
  k_with "my call ref" => (k_here; (with_reducible show wpAny _ _ (call (Value.ref 305) _ _) _ _ _); k_dflt (refine ltake_spec (by k_asm) (by k_asm) (by k_asm) (news_pick1 (by k_asm) (by (repeat (first | exact Pick.head | apply Pick.tail)))) (by k_asm) (by first | exact rfl | assumption) (by k_all) (by ktr_room) (by omega) (by omega) (by assumption) (by assumption) ?_; k_whole; intro h' tk' t' va' vb' t1' t2' cap' v' F' N' hb0' hb1' hv0' hv1'; (have hv' : InB v' _ := ⟨hv0', hv1'⟩); (clear hv0' hv1'); (try dsimp only); (try k_sweep); (try k_fold)))
  k_with "my call ref" => (k_here; (with_reducible show wpAny _ _ (call (Value.ref 331) _ _) _ _ _); k_dflt (refine drawn_spec (by k_asm) (by k_asm) (by k_asm) (news_pick1 (by k_asm) (by (repeat (first | exact Pick.head | apply Pick.tail)))) (by k_asm) (by first | exact rfl | assumption) (by k_all) (by ktr_room) (by ((have hcL9 := cLine_is); (try simp only [units_in1, units_deeper, Around.mark_units, units_caller]); (try dsimp only [ktrTop]); omega)) (by first | assumption | omega) (by first | assumption | omega) ?_; k_whole; intro h' tk' q' du' dvs' cap' dl' tt' va' vb' t1' t2' cap2' ds' b' F' N' hb0' hb1' hds' hok' hb' hdw' hdo' hsd' hsq'; (try dsimp only); (try k_sweep); (try k_fold)))
  k_with "my call ref" => (k_here; (with_reducible show wpAny _ _ (call (Value.ref 291) _ _) _ _ _); k_dflt (refine words_ok (by k_asm) (by k_asm) (by k_asm) (by k_asm) (by k_asm) (by first | exact rfl | assumption)  (by ktr_room) (by (first | omega | ((have hcL9 := cLine_is); (try simp only [units_in1, units_deeper, Around.mark_units, units_caller]); (try dsimp only [ktrTop]); omega))) (by assumption) (by assumption) (by assumption) ?_; k_whole; intro h' tk' f' vs' cap' wl' F' N' hw' hfr' hff'; (try dsimp only); (try k_sweep); (try k_fold)))
  k_with "my call ref" => (k_here; (with_reducible show wpAny _ _ (call (Value.ref 298) _ _) _ _ _); k_dflt (refine pool_spec (by k_asm) (by k_asm) (by k_asm) (by k_asm) (by first | exact rfl | assumption) (by k_asm) (by first | assumption | k_asm) (by assumption) (by assumption) (by assumption) (by ktr_room) (by ((have hcL9 := cLine_is); (try simp only [units_in1, units_deeper, Around.mark_units, units_caller]); (try dsimp only [ktrTop]); omega)) ?_; k_whole; intro h' tk' so' va' vb' t1' t2' cap' F' N' hb0' hb1'; (try dsimp only); (try k_sweep); (try k_fold)))
  k_with "my call ref" => (k_here; (with_reducible show wpAny _ _ (call (Value.ref 291) _ _) _ _ _); k_dflt (refine words_bad (by k_asm) (by k_asm) (by k_asm) (by k_asm) (by k_asm) (by first | exact rfl | assumption)  (by ktr_room) (by (first | omega | ((have hcL9 := cLine_is); (try simp only [units_in1, units_deeper, Around.mark_units, units_caller]); (try dsimp only [ktrTop]); omega))) (by assumption) (by assumption) (by assumption) ?_; k_whole; intro e' t' v' h' tk' G' R' F' U'; (try dsimp only)))
  k_with "my exec Assign cons ListComp" => (k_here; refine Stopped.at_ ?_)
  k_with "my call ref" => (k_here; (with_reducible show wpAny _ _ (call (Value.ref 338) _ _) _ _ _); refine Stopped.at_ ?_)
  k_with "my subscriptTail" => (k_here; (rename InB _ 9 => hv9); (obtain ⟨hv91, hv92⟩ := hv9); walk_at "subscriptTail")
  k_with "my binaryOp Add str str" => (k_here; (with_reducible show wpAny _ _ (binaryOp Operator.Add (Value.str _ _) (Value.str _ _)) _ _ _); k_dflt (refine txt_add (by first | exact Nat.le_trans (by assumption) (by decide : 300 ≤ 400) | exact dEnd_sp (by assumption)) (by first | exact wr_get_len _ | decide +kernel) ?_; k_whole); intro t' tk')
  k_with "my CompSrc" => (k_here; refine Stopped.at_ ?_)
  k_with "my compareOp NotEq ref ref" => (k_here; refine Stopped.at_ ?_)
  k_with "my ite" => (k_here; (with_reducible refine ite_ff ?_))
  exact trivial
local macro_rules | `(tactic| k_qdec) => `(tactic| decide +kernel)
set_option maxHeartbeats 8000000 in
theorem tst : PySem.Challenge.rw_np0234_01.Holds := by
  w_on
  refine holds_law well_ok fun said => ?_
  refine holds_open (r := PySem.Challenge.rw_np0234_01.row) (q := q2) (loose := [Str.ofString "LazyError", Str.ofString "PLAIN_ESCAPES"]) (Xt := fun s => xlAt q2 [] s && recOk (RowW.records (OpenRow.toRowW PySem.Challenge.rw_np0234_01.row)) s) (XP := XL q2 []) (Yf := Hook.obs (kHook kk.heap_1 ks ks_eq)) (Ya := Hook.val (kHook kk.heap_1 ks ks_eq)) (YP := Hook.says (kHook kk.heap_1 ks ks_eq)) (N := 4900) left (Hook.of (kHook kk.heap_1 ks ks_eq)) (Hook.keeps (kHook kk.heap_1 ks ks_eq)) (fun s e => xl_of s (Bool.and_eq_true_iff.mp e).1) XL.keeps (by rfl) (by rfl) (by rfl) (fun s e => recFacts_of (Bool.and_eq_true_iff.mp e).2) (by rfl) said (by decide +kernel) ⟨rfl, rfl, rfl, rfl, rfl, by decide +kernel⟩ ?hw ?hc
  case hw => w_witness2
  clear said
  k_go0
  (all_goals try k_fold)
  k_steps
  refine Stopped.go ?_
  rename DW _ _ _ => hdw
  rename (∀ x : Dr, x ∈ _ → _ ∧ _) => hok
  rename @LT.lt Nat _ _ 9 => hb
  rename List.length _ ≤ 5 => hds
  obtain ⟨hlex, hel, hel2, hdl, hoks⟩ := law_facts hok hb hds
  refine LCg.Assign_ListComp_U (F₀ := by k_asm) (by rfl) (by with_unfolding_all rfl) (by with_unfolding_all rfl) (by decide) (by rfl) (by decide) (by rfl) (by rfl) (by rfl) ?_
  k_steps
  refine Stopped.go ?_
  rename WIn _ _ _ _ => hw
  rename News _ _ _ _ => N3
  have hwl := hw.length
  refine LCg.CompSrc.ledger (by rfl) (by k_asm) N3 (.head _) (by rw [List.size_toArray, hwl, sizeLine_eq]; omega) ?_
  intro g
  refine comp_word0 hw ?_ ?_
  · intro a dd k1 k2 k3 k4 k5 k6 t1 t2 t3 t4 t5 y I oI C oC D ys m₂ all h tk Q E' hC h1 F1 N1 hq
    clear N3
    obtain ⟨kd, tx, pv, ln, cc, ff⟩ := y
    cases pv
    all_goals
      dsimp only [pvV] at N1 hq
      k_steps
      rename News _ _ _ _ => N5
      rename _ ∧ _ ∧ _ ∧ _ ∧ _ ∧ AllLt _ all => l6
      rename _ ∧ _ ∧ _ ∧ _ ∧ _ ∧ _ ∧ AllLt _ all => l7
      exact hq _ _ _ _ t1 t2 t5 t3 t4 (by k_asm) (news_el N5) (lt_el l6) l7.1
  · intro ys wl ht hfr2 D h tk F1 N4 off
    k_steps
    refine Stopped.go ?_
    have N6 := so_only N4
    refine ne_told N4 (.head _) (by repeat (first | exact List.Mem.head _ | apply List.mem_cons_of_mem | apply List.mem_append_right)) (ht.mono (fun p hp => .tail _ (List.mem_append.mpr (.inl hp)))) (hdw.mono (fun p hp => by repeat (first | exact List.mem_append.mpr (.inl hp) | apply List.mem_cons_of_mem | apply List.mem_append_right))) hoks (by units_room) ?_
    clear N4 N3
    k_steps
    refine Stopped.go ?_
    rename @LT.lt Int _ _ 9 => hv2
    have hj := toNat9 (by assumption) hv2
    rw [wr_str _ hj]
    obtain ⟨hbad, hbl, hdm⟩ := bad_facts hok hb hds hj
    k_dflt (refine wpAny_call ?_; kts_go)
    k_steps
end Mine
theorem PySem.Challenge.cw_np0234_01_holds : PySem.Challenge.rw_np0234_01.Holds :=
  Mine.tst
