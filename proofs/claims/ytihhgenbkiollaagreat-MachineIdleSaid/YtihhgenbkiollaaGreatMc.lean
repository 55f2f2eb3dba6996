/- The abstract machine, part fq: its table of types is the program's. No condition. -/
import Derived.Test.YtihhgenbkiollaaGreatMb
import Derived.Test.YtihhgenbkiollaaGreatProg
import Derived.KernelRfl
import Derived.Lib.SliceRun
/- The abstract machine, part fq: its table of types is the program's. No condition. -/
namespace Go.Proofs.YtihhgenbkiollaaGreat
open Go Go.Proofs Go.RowKit
set_option maxRecDepth 100000
def zB : List Value → List Leaf → Bool
  | [], [] => true
  | .int k n :: vs, .int k' n' :: ls => decide (k = k') && decide (n = n') && zB vs ls
  | .bool a :: vs, .bool b :: ls => (a == b) && zB vs ls
  | .string s :: vs, .str s' :: ls => s.data.toList.isEmpty && s'.data.toList.isEmpty && zB vs ls
  | .slice none 0 0 :: vs, .nils :: ls => zB vs ls
  | .pointer none :: vs, .nilp :: ls => zB vs ls
  | .nilFunc :: vs, .nilf :: ls => zB vs ls
  | .nilIface :: vs, .nili :: ls => zB vs ls
  | .chan none :: vs, .nilc :: ls => zB vs ls
  | .map none :: vs, .nilm :: ls => zB vs ls
  | _, _ => false
theorem zB_ok (w : World) (D : Nat → Nat → Prop) : ∀ (vs : List Value) (ls : List Leaf), zB vs ls = true → Rs (PL w D) vs ls := by
  intro vs
  induction vs with
  | nil => intro ls h; cases ls with | nil => trivial | cons => simp [zB] at h
  | cons v vs ih =>
    intro ls h
    unfold zB at h
    split at h
    · rename_i h1; cases h1
    · rename_i h1; cases h1; simp only [Bool.and_eq_true, decide_eq_true_eq] at h; obtain ⟨⟨rfl, rfl⟩, h⟩ := h; exact ⟨.int _ _, ih _ h⟩
    · rename_i h1; cases h1; simp only [Bool.and_eq_true, beq_iff_eq] at h; obtain ⟨rfl, h⟩ := h; exact ⟨.bool _, ih _ h⟩
    · rename_i s _ s' _ h1
      cases h1
      simp only [Bool.and_eq_true, List.isEmpty_iff] at h
      have e : s = s' := ByteArray.ext (Array.ext' (h.1.1.trans h.1.2.symm))
      subst e; exact ⟨.str _, ih _ h.2⟩
    · rename_i h1; cases h1; exact ⟨.nils, ih _ h⟩
    · rename_i h1; cases h1; exact ⟨.nilp, ih _ h⟩
    · rename_i h1; cases h1; exact ⟨.nilf, ih _ h⟩
    · rename_i h1; cases h1; exact ⟨.nili, ih _ h⟩
    · rename_i h1; cases h1; exact ⟨.nilc, ih _ h⟩
    · rename_i h1; cases h1; exact ⟨.nilm, ih _ h⟩
    · cases h
def AllTI (P : Program) : Gam → Prop
  | [] => True
  | (t, i) :: r => TIok P i t ∧ AllTI P r
theorem AllTI.ok {P : Program} : ∀ {Γ : Gam}, AllTI P Γ → GamOk P Γ
  | [], _, t, i, h => by cases h
  | (u, j) :: Γ, ha, t, i, h => by
    simp only [lk] at h
    cases he : Nat.beq u t with
    | true => rw [he] at h; cases beq_eq he; cases h; exact ha.1
    | false => rw [he] at h; exact AllTI.ok ha.2 t i h
theorem ti3 : TIok Tryz.prog ⟨1, 8, [.int .i64 0], true, .int .i64⟩ 3 where
  info := ⟨Tryz.t3, by kernel_rfl, rfl, rfl, _, rfl, rfl, fun w D => zB_ok w D _ _ (by kernel_rfl), (fun h => by cases h), fun _ => rfl⟩
  und := Tryz.underlying3
  pos := by decide
  eqp := fun h => ⟨by kernel_rfl, by kernel_rfl⟩
theorem ti4 : TIok Tryz.prog ⟨1, 1, [.bool false], true, .bool⟩ 4 where
  info := ⟨Tryz.t4, by kernel_rfl, rfl, rfl, _, rfl, rfl, fun w D => zB_ok w D _ _ (by kernel_rfl), (fun h => by cases h), fun _ => rfl⟩
  und := Tryz.underlying4
  pos := by decide
  eqp := fun h => ⟨by kernel_rfl, by kernel_rfl⟩
theorem ti5 : TIok Tryz.prog ⟨1, 1, [.int .u8 0], true, .int .u8⟩ 5 where
  info := ⟨Tryz.t5, by kernel_rfl, rfl, rfl, _, rfl, rfl, fun w D => zB_ok w D _ _ (by kernel_rfl), (fun h => by cases h), fun _ => rfl⟩
  und := Tryz.underlying5
  pos := by decide
  eqp := fun h => ⟨by kernel_rfl, by kernel_rfl⟩
theorem ti9 : TIok Tryz.prog ⟨1, 16, [.str ⟨#[]⟩], false, .str⟩ 9 where
  info := ⟨Tryz.t9, by kernel_rfl, rfl, rfl, _, rfl, rfl, fun w D => zB_ok w D _ _ (by kernel_rfl), (fun h => by cases h), fun _ => rfl⟩
  und := Tryz.underlying9
  pos := by decide
  eqp := fun h => by cases h
theorem ti20 : TIok Tryz.prog ⟨1, 16, [.nili], false, .ifc⟩ 20 where
  info := ⟨Tryz.t20, by kernel_rfl, rfl, rfl, _, rfl, rfl, fun w D => zB_ok w D _ _ (by kernel_rfl), (fun h => by cases h), fun _ => rfl⟩
  und := ⟨_, Tryz.underlying20⟩
  pos := by decide
  eqp := fun h => by cases h
theorem ti22 : TIok Tryz.prog ⟨12, 96, [.int .i64 0, .int .i64 0, .int .i64 0, .int .i64 0, .int .i64 0, .int .i64 0, .int .i64 0, .int .i64 0, .bool false, .int .i64 0, .int .i64 0, .int .i64 0], true, .struct [(0, 3), (1, 3), (2, 3), (3, 3), (4, 3), (5, 3), (6, 3), (7, 3), (8, 4), (9, 3), (10, 3), (11, 3)]⟩ 22 where
  info := ⟨Tryz.t22, by kernel_rfl, rfl, rfl, _, rfl, rfl, fun w D => zB_ok w D _ _ (by kernel_rfl), fun _ => rfl, fun h => by cases h⟩
  und := ⟨_, Tryz.underlying22, rfl, List.all_eq_true.1 (by kernel_rfl)⟩
  pos := by decide
  eqp := fun h => ⟨by kernel_rfl, Tryz.eqGuardType22⟩
theorem ti23 : TIok Tryz.prog ⟨12, 96, [.int .i64 0, .int .i64 0, .int .i64 0, .int .i64 0, .int .i64 0, .int .i64 0, .int .i64 0, .int .i64 0, .bool false, .int .i64 0, .int .i64 0, .int .i64 0], true, .struct [(0, 3), (1, 3), (2, 3), (3, 3), (4, 3), (5, 3), (6, 3), (7, 3), (8, 4), (9, 3), (10, 3), (11, 3)]⟩ 23 where
  info := ⟨Tryz.t23, by kernel_rfl, rfl, rfl, _, rfl, rfl, fun w D => zB_ok w D _ _ (by kernel_rfl), fun _ => rfl, fun h => by cases h⟩
  und := ⟨_, Tryz.underlying23, rfl, List.all_eq_true.1 (by kernel_rfl)⟩
  pos := by decide
  eqp := fun h => ⟨by kernel_rfl, Tryz.eqGuardType23⟩
theorem ti24 : TIok Tryz.prog ⟨1, 24, [.nils], false, .slice 63 .sent⟩ 24 where
  info := ⟨Tryz.t24, by kernel_rfl, rfl, rfl, _, rfl, rfl, fun w D => zB_ok w D _ _ (by kernel_rfl), (fun h => by cases h), fun _ => rfl⟩
  und := Tryz.underlying24
  pos := by decide
  eqp := fun h => by cases h
theorem ti25 : TIok Tryz.prog ⟨1, 24, [.nils], false, .slice 3 .int⟩ 25 where
  info := ⟨Tryz.t25, by kernel_rfl, rfl, rfl, _, rfl, rfl, fun w D => zB_ok w D _ _ (by kernel_rfl), (fun h => by cases h), fun _ => rfl⟩
  und := Tryz.underlying25
  pos := by decide
  eqp := fun h => by cases h
theorem ti26 : TIok Tryz.prog ⟨12, 96, [.int .i64 0, .int .i64 0, .int .i64 0, .int .i64 0, .int .i64 0, .int .i64 0, .int .i64 0, .int .i64 0, .bool false, .int .i64 0, .int .i64 0, .int .i64 0], true, .struct [(0, 3), (1, 3), (2, 3), (3, 3), (4, 3), (5, 3), (6, 3), (7, 3), (8, 4), (9, 3), (10, 3), (11, 3)]⟩ 26 where
  info := ⟨Tryz.t26, by kernel_rfl, rfl, rfl, _, rfl, rfl, fun w D => zB_ok w D _ _ (by kernel_rfl), fun _ => rfl, fun h => by cases h⟩
  und := ⟨_, Tryz.underlying26, rfl, List.all_eq_true.1 (by kernel_rfl)⟩
  pos := by decide
  eqp := fun h => ⟨by kernel_rfl, Tryz.eqGuardType26⟩
theorem ti29 : TIok Tryz.prog ⟨1, 24, [.nils], false, .slice 54 .box⟩ 29 where
  info := ⟨Tryz.t29, by kernel_rfl, rfl, rfl, _, rfl, rfl, fun w D => zB_ok w D _ _ (by kernel_rfl), (fun h => by cases h), fun _ => rfl⟩
  und := Tryz.underlying29
  pos := by decide
  eqp := fun h => by cases h
theorem ti31 : TIok Tryz.prog ⟨2, 48, [.nils, .nils], false, .struct [(0, 25), (1, 29)]⟩ 31 where
  info := ⟨Tryz.t31, by kernel_rfl, rfl, rfl, _, rfl, rfl, fun w D => zB_ok w D _ _ (by kernel_rfl), fun _ => rfl, fun h => by cases h⟩
  und := ⟨_, Tryz.underlying31, rfl, List.all_eq_true.1 (by kernel_rfl)⟩
  pos := by decide
  eqp := fun h => by cases h
theorem ti32 : TIok Tryz.prog ⟨1, 24, [.nils], false, .slice 57 .thr⟩ 32 where
  info := ⟨Tryz.t32, by kernel_rfl, rfl, rfl, _, rfl, rfl, fun w D => zB_ok w D _ _ (by kernel_rfl), (fun h => by cases h), fun _ => rfl⟩
  und := Tryz.underlying32
  pos := by decide
  eqp := fun h => by cases h
theorem ti34 : TIok Tryz.prog ⟨2, 32, [.nils, .int .i64 0], false, .struct [(0, 25), (1, 3)]⟩ 34 where
  info := ⟨Tryz.t34, by kernel_rfl, rfl, rfl, _, rfl, rfl, fun w D => zB_ok w D _ _ (by kernel_rfl), fun _ => rfl, fun h => by cases h⟩
  und := ⟨_, Tryz.underlying34, rfl, List.all_eq_true.1 (by kernel_rfl)⟩
  pos := by decide
  eqp := fun h => by cases h
theorem ti35 : TIok Tryz.prog ⟨1, 24, [.nils], false, .slice 65 .mark⟩ 35 where
  info := ⟨Tryz.t35, by kernel_rfl, rfl, rfl, _, rfl, rfl, fun w D => zB_ok w D _ _ (by kernel_rfl), (fun h => by cases h), fun _ => rfl⟩
  und := Tryz.underlying35
  pos := by decide
  eqp := fun h => by cases h
theorem ti36 : TIok Tryz.prog ⟨1, 24, [.nils], false, .slice 50 .evt⟩ 36 where
  info := ⟨Tryz.t36, by kernel_rfl, rfl, rfl, _, rfl, rfl, fun w D => zB_ok w D _ _ (by kernel_rfl), (fun h => by cases h), fun _ => rfl⟩
  und := Tryz.underlying36
  pos := by decide
  eqp := fun h => by cases h
theorem ti38 : TIok Tryz.prog ⟨21, 264, [.int .i64 0, .int .i64 0, .int .i64 0, .int .i64 0, .int .i64 0, .int .i64 0, .int .i64 0, .int .i64 0, .bool false, .int .i64 0, .int .i64 0, .int .i64 0, .nils, .nils, .nils, .int .i64 0, .int .i64 0, .nils, .int .i64 0, .nils, .nils], false, .struct [(0, 23), (12, 31), (14, 32), (15, 3), (16, 3), (17, 34), (19, 35), (20, 36)]⟩ 38 where
  info := ⟨Tryz.t38, by kernel_rfl, rfl, rfl, _, rfl, rfl, fun w D => zB_ok w D _ _ (by kernel_rfl), fun _ => rfl, fun h => by cases h⟩
  und := ⟨_, Tryz.underlying38, rfl, List.all_eq_true.1 (by kernel_rfl)⟩
  pos := by decide
  eqp := fun h => by cases h
theorem ti39 : TIok Tryz.prog ⟨1, 8, [.int .i64 0], true, .int .i64⟩ 39 where
  info := ⟨Tryz.t39, by kernel_rfl, rfl, rfl, _, rfl, rfl, fun w D => zB_ok w D _ _ (by kernel_rfl), (fun h => by cases h), fun _ => rfl⟩
  und := Tryz.underlying39
  pos := by decide
  eqp := fun h => ⟨by kernel_rfl, by kernel_rfl⟩
theorem ti48 : TIok Tryz.prog ⟨2, 16, [.int .i64 0, .int .i64 0], true, .struct [(0, 3), (1, 3)]⟩ 48 where
  info := ⟨Tryz.t48, by kernel_rfl, rfl, rfl, _, rfl, rfl, fun w D => zB_ok w D _ _ (by kernel_rfl), fun _ => rfl, fun h => by cases h⟩
  und := ⟨_, Tryz.underlying48, rfl, List.all_eq_true.1 (by kernel_rfl)⟩
  pos := by decide
  eqp := fun h => ⟨by kernel_rfl, Tryz.eqGuardType48⟩
theorem ti50 : TIok Tryz.prog ⟨8, 64, [.int .i64 0, .int .i64 0, .int .i64 0, .int .i64 0, .int .i64 0, .int .i64 0, .bool false, .int .i64 0], true, .struct [(0, 3), (1, 3), (2, 3), (3, 48), (5, 3), (6, 4), (7, 3)]⟩ 50 where
  info := ⟨Tryz.t50, by kernel_rfl, rfl, rfl, _, rfl, rfl, fun w D => zB_ok w D _ _ (by kernel_rfl), fun _ => rfl, fun h => by cases h⟩
  und := ⟨_, Tryz.underlying50, rfl, List.all_eq_true.1 (by kernel_rfl)⟩
  pos := by decide
  eqp := fun h => ⟨by kernel_rfl, Tryz.eqGuardType50⟩
theorem ti54 : TIok Tryz.prog ⟨1, 24, [.nils], false, .slice 160 .ent⟩ 54 where
  info := ⟨Tryz.t54, by kernel_rfl, rfl, rfl, _, rfl, rfl, fun w D => zB_ok w D _ _ (by kernel_rfl), (fun h => by cases h), fun _ => rfl⟩
  und := Tryz.underlying54
  pos := by decide
  eqp := fun h => by cases h
theorem ti55 : TIok Tryz.prog ⟨1, 24, [.nils], false, .slice 202 .kid⟩ 55 where
  info := ⟨Tryz.t55, by kernel_rfl, rfl, rfl, _, rfl, rfl, fun w D => zB_ok w D _ _ (by kernel_rfl), (fun h => by cases h), fun _ => rfl⟩
  und := Tryz.underlying55
  pos := by decide
  eqp := fun h => by cases h
theorem ti57 : TIok Tryz.prog ⟨17, 184, [.int .i64 0, .int .i64 0, .int .i64 0, .int .i64 0, .nils, .nils, .nils, .int .i64 0, .int .i64 0, .int .i64 0, .int .i64 0, .int .i64 0, .int .i64 0, .int .i64 0, .int .i64 0, .int .i64 0, .int .i64 0], false, .struct [(0, 3), (1, 3), (2, 48), (4, 54), (5, 55), (6, 25), (7, 3), (8, 3), (9, 3), (10, 3), (11, 3), (12, 3), (13, 3), (14, 3), (15, 3), (16, 3)]⟩ 57 where
  info := ⟨Tryz.t57, by kernel_rfl, rfl, rfl, _, rfl, rfl, fun w D => zB_ok w D _ _ (by kernel_rfl), fun _ => rfl, fun h => by cases h⟩
  und := ⟨_, Tryz.underlying57, rfl, List.all_eq_true.1 (by kernel_rfl)⟩
  pos := by decide
  eqp := fun h => by cases h
theorem ti63 : TIok Tryz.prog ⟨5, 40, [.int .i64 0, .int .i64 0, .int .i64 0, .int .i64 0, .int .i64 0], true, .struct [(0, 3), (1, 3), (2, 3), (3, 48)]⟩ 63 where
  info := ⟨Tryz.t63, by kernel_rfl, rfl, rfl, _, rfl, rfl, fun w D => zB_ok w D _ _ (by kernel_rfl), fun _ => rfl, fun h => by cases h⟩
  und := ⟨_, Tryz.underlying63, rfl, List.all_eq_true.1 (by kernel_rfl)⟩
  pos := by decide
  eqp := fun h => ⟨by kernel_rfl, Tryz.eqGuardType63⟩
theorem ti65 : TIok Tryz.prog ⟨6, 48, [.int .i64 0, .int .i64 0, .int .i64 0, .int .i64 0, .int .i64 0, .int .i64 0], true, .struct [(0, 3), (1, 3), (2, 48), (4, 3), (5, 3)]⟩ 65 where
  info := ⟨Tryz.t65, by kernel_rfl, rfl, rfl, _, rfl, rfl, fun w D => zB_ok w D _ _ (by kernel_rfl), fun _ => rfl, fun h => by cases h⟩
  und := ⟨_, Tryz.underlying65, rfl, List.all_eq_true.1 (by kernel_rfl)⟩
  pos := by decide
  eqp := fun h => ⟨by kernel_rfl, Tryz.eqGuardType65⟩
theorem ti69 : TIok Tryz.prog ⟨37, 408, [.int .i64 0, .int .i64 0, .int .i64 0, .int .i64 0, .int .i64 0, .int .i64 0, .int .i64 0, .int .i64 0, .bool false, .int .i64 0, .int .i64 0, .int .i64 0, .int .i64 0, .int .i64 0, .nils, .nils, .int .i64 0, .int .i64 0, .int .i64 0, .int .i64 0, .nils, .nils, .nils, .int .i64 0, .int .i64 0, .int .i64 0, .int .i64 0, .int .i64 0, .int .i64 0, .int .i64 0, .int .i64 0, .int .i64 0, .int .i64 0, .nils, .int .i64 0, .nils, .bool false], false, .struct [(0, 23), (12, 3), (13, 3), (14, 31), (16, 57), (33, 34), (35, 35), (36, 4)]⟩ 69 where
  info := ⟨Tryz.t69, by kernel_rfl, rfl, rfl, _, rfl, rfl, fun w D => zB_ok w D _ _ (by kernel_rfl), fun _ => rfl, fun h => by cases h⟩
  und := ⟨_, Tryz.underlying69, rfl, List.all_eq_true.1 (by kernel_rfl)⟩
  pos := by decide
  eqp := fun h => by cases h
theorem ti72 : TIok Tryz.prog ⟨1, 24, [.nils], false, .slice 76 .box⟩ 72 where
  info := ⟨Tryz.t72, by kernel_rfl, rfl, rfl, _, rfl, rfl, fun w D => zB_ok w D _ _ (by kernel_rfl), (fun h => by cases h), fun _ => rfl⟩
  und := Tryz.underlying72
  pos := by decide
  eqp := fun h => by cases h
theorem ti74 : TIok Tryz.prog ⟨2, 48, [.nils, .nils], false, .struct [(0, 25), (1, 72)]⟩ 74 where
  info := ⟨Tryz.t74, by kernel_rfl, rfl, rfl, _, rfl, rfl, fun w D => zB_ok w D _ _ (by kernel_rfl), fun _ => rfl, fun h => by cases h⟩
  und := ⟨_, Tryz.underlying74, rfl, List.all_eq_true.1 (by kernel_rfl)⟩
  pos := by decide
  eqp := fun h => by cases h
theorem ti75 : TIok Tryz.prog ⟨2, 16, [.int .i64 0, .int .i64 0], true, .struct [(0, 3), (1, 3)]⟩ 75 where
  info := ⟨Tryz.t75, by kernel_rfl, rfl, rfl, _, rfl, rfl, fun w D => zB_ok w D _ _ (by kernel_rfl), fun _ => rfl, fun h => by cases h⟩
  und := ⟨_, Tryz.underlying75, rfl, List.all_eq_true.1 (by kernel_rfl)⟩
  pos := by decide
  eqp := fun h => ⟨by kernel_rfl, Tryz.eqGuardType75⟩
theorem ti76 : TIok Tryz.prog ⟨1, 24, [.nils], false, .slice 162 .ent⟩ 76 where
  info := ⟨Tryz.t76, by kernel_rfl, rfl, rfl, _, rfl, rfl, fun w D => zB_ok w D _ _ (by kernel_rfl), (fun h => by cases h), fun _ => rfl⟩
  und := Tryz.underlying76
  pos := by decide
  eqp := fun h => by cases h
theorem ti77 : TIok Tryz.prog ⟨1, 24, [.nils], false, .slice 199 .kid⟩ 77 where
  info := ⟨Tryz.t77, by kernel_rfl, rfl, rfl, _, rfl, rfl, fun w D => zB_ok w D _ _ (by kernel_rfl), (fun h => by cases h), fun _ => rfl⟩
  und := Tryz.underlying77
  pos := by decide
  eqp := fun h => by cases h
theorem ti79 : TIok Tryz.prog ⟨17, 184, [.int .i64 0, .int .i64 0, .int .i64 0, .int .i64 0, .nils, .nils, .nils, .int .i64 0, .int .i64 0, .int .i64 0, .int .i64 0, .int .i64 0, .int .i64 0, .int .i64 0, .int .i64 0, .int .i64 0, .int .i64 0], false, .struct [(0, 3), (1, 3), (2, 75), (4, 76), (5, 77), (6, 25), (7, 3), (8, 3), (9, 3), (10, 3), (11, 3), (12, 3), (13, 3), (14, 3), (15, 3), (16, 3)]⟩ 79 where
  info := ⟨Tryz.t79, by kernel_rfl, rfl, rfl, _, rfl, rfl, fun w D => zB_ok w D _ _ (by kernel_rfl), fun _ => rfl, fun h => by cases h⟩
  und := ⟨_, Tryz.underlying79, rfl, List.all_eq_true.1 (by kernel_rfl)⟩
  pos := by decide
  eqp := fun h => by cases h
theorem ti80 : TIok Tryz.prog ⟨2, 32, [.nils, .int .i64 0], false, .struct [(0, 25), (1, 3)]⟩ 80 where
  info := ⟨Tryz.t80, by kernel_rfl, rfl, rfl, _, rfl, rfl, fun w D => zB_ok w D _ _ (by kernel_rfl), fun _ => rfl, fun h => by cases h⟩
  und := ⟨_, Tryz.underlying80, rfl, List.all_eq_true.1 (by kernel_rfl)⟩
  pos := by decide
  eqp := fun h => by cases h
theorem ti81 : TIok Tryz.prog ⟨1, 24, [.nils], false, .slice 201 .mark⟩ 81 where
  info := ⟨Tryz.t81, by kernel_rfl, rfl, rfl, _, rfl, rfl, fun w D => zB_ok w D _ _ (by kernel_rfl), (fun h => by cases h), fun _ => rfl⟩
  und := Tryz.underlying81
  pos := by decide
  eqp := fun h => by cases h
theorem ti83 : TIok Tryz.prog ⟨37, 408, [.int .i64 0, .int .i64 0, .int .i64 0, .int .i64 0, .int .i64 0, .int .i64 0, .int .i64 0, .int .i64 0, .bool false, .int .i64 0, .int .i64 0, .int .i64 0, .int .i64 0, .int .i64 0, .nils, .nils, .int .i64 0, .int .i64 0, .int .i64 0, .int .i64 0, .nils, .nils, .nils, .int .i64 0, .int .i64 0, .int .i64 0, .int .i64 0, .int .i64 0, .int .i64 0, .int .i64 0, .int .i64 0, .int .i64 0, .int .i64 0, .nils, .int .i64 0, .nils, .bool false], false, .struct [(0, 26), (12, 3), (13, 3), (14, 74), (16, 79), (33, 80), (35, 81), (36, 4)]⟩ 83 where
  info := ⟨Tryz.t83, by kernel_rfl, rfl, rfl, _, rfl, rfl, fun w D => zB_ok w D _ _ (by kernel_rfl), fun _ => rfl, fun h => by cases h⟩
  und := ⟨_, Tryz.underlying83, rfl, List.all_eq_true.1 (by kernel_rfl)⟩
  pos := by decide
  eqp := fun h => by cases h
theorem ti85 : TIok Tryz.prog ⟨1, 8, [.nilf], false, .fnc⟩ 85 where
  info := ⟨Tryz.t85, by kernel_rfl, rfl, rfl, _, rfl, rfl, fun w D => zB_ok w D _ _ (by kernel_rfl), (fun h => by cases h), fun _ => rfl⟩
  und := ⟨_, _, _, Tryz.underlying85⟩
  pos := by decide
  eqp := fun h => by cases h
theorem ti101 : TIok Tryz.prog ⟨1, 24, [.nils], false, .slice 126 .sent⟩ 101 where
  info := ⟨Tryz.t101, by kernel_rfl, rfl, rfl, _, rfl, rfl, fun w D => zB_ok w D _ _ (by kernel_rfl), (fun h => by cases h), fun _ => rfl⟩
  und := Tryz.underlying101
  pos := by decide
  eqp := fun h => by cases h
theorem ti109 : TIok Tryz.prog ⟨1, 24, [.nils], false, .slice 79 .thr⟩ 109 where
  info := ⟨Tryz.t109, by kernel_rfl, rfl, rfl, _, rfl, rfl, fun w D => zB_ok w D _ _ (by kernel_rfl), (fun h => by cases h), fun _ => rfl⟩
  und := Tryz.underlying109
  pos := by decide
  eqp := fun h => by cases h
theorem ti110 : TIok Tryz.prog ⟨1, 24, [.nils], false, .slice 177 .evt⟩ 110 where
  info := ⟨Tryz.t110, by kernel_rfl, rfl, rfl, _, rfl, rfl, fun w D => zB_ok w D _ _ (by kernel_rfl), (fun h => by cases h), fun _ => rfl⟩
  und := Tryz.underlying110
  pos := by decide
  eqp := fun h => by cases h
theorem ti112 : TIok Tryz.prog ⟨21, 264, [.int .i64 0, .int .i64 0, .int .i64 0, .int .i64 0, .int .i64 0, .int .i64 0, .int .i64 0, .int .i64 0, .bool false, .int .i64 0, .int .i64 0, .int .i64 0, .nils, .nils, .nils, .int .i64 0, .int .i64 0, .nils, .int .i64 0, .nils, .nils], false, .struct [(0, 26), (12, 74), (14, 109), (15, 3), (16, 3), (17, 80), (19, 81), (20, 110)]⟩ 112 where
  info := ⟨Tryz.t112, by kernel_rfl, rfl, rfl, _, rfl, rfl, fun w D => zB_ok w D _ _ (by kernel_rfl), fun _ => rfl, fun h => by cases h⟩
  und := ⟨_, Tryz.underlying112, rfl, List.all_eq_true.1 (by kernel_rfl)⟩
  pos := by decide
  eqp := fun h => by cases h
theorem ti126 : TIok Tryz.prog ⟨5, 40, [.int .i64 0, .int .i64 0, .int .i64 0, .int .i64 0, .int .i64 0], true, .struct [(0, 3), (1, 3), (2, 3), (3, 75)]⟩ 126 where
  info := ⟨Tryz.t126, by kernel_rfl, rfl, rfl, _, rfl, rfl, fun w D => zB_ok w D _ _ (by kernel_rfl), fun _ => rfl, fun h => by cases h⟩
  und := ⟨_, Tryz.underlying126, rfl, List.all_eq_true.1 (by kernel_rfl)⟩
  pos := by decide
  eqp := fun h => ⟨by kernel_rfl, Tryz.eqGuardType126⟩
theorem ti129 : TIok Tryz.prog ⟨1, 24, [.nils], false, .slice 48 .opn⟩ 129 where
  info := ⟨Tryz.t129, by kernel_rfl, rfl, rfl, _, rfl, rfl, fun w D => zB_ok w D _ _ (by kernel_rfl), (fun h => by cases h), fun _ => rfl⟩
  und := Tryz.underlying129
  pos := by decide
  eqp := fun h => by cases h
theorem ti131 : TIok Tryz.prog ⟨1, 8, [.nilf], false, .fnc⟩ 131 where
  info := ⟨Tryz.t131, by kernel_rfl, rfl, rfl, _, rfl, rfl, fun w D => zB_ok w D _ _ (by kernel_rfl), (fun h => by cases h), fun _ => rfl⟩
  und := ⟨_, _, _, Tryz.underlying131⟩
  pos := by decide
  eqp := fun h => by cases h
theorem ti133 : TIok Tryz.prog ⟨1, 8, [.nilf], false, .fnc⟩ 133 where
  info := ⟨Tryz.t133, by kernel_rfl, rfl, rfl, _, rfl, rfl, fun w D => zB_ok w D _ _ (by kernel_rfl), (fun h => by cases h), fun _ => rfl⟩
  und := ⟨_, _, _, Tryz.underlying133⟩
  pos := by decide
  eqp := fun h => by cases h
theorem ti134 : TIok Tryz.prog ⟨1, 8, [.nilf], false, .fnc⟩ 134 where
  info := ⟨Tryz.t134, by kernel_rfl, rfl, rfl, _, rfl, rfl, fun w D => zB_ok w D _ _ (by kernel_rfl), (fun h => by cases h), fun _ => rfl⟩
  und := ⟨_, _, _, Tryz.underlying134⟩
  pos := by decide
  eqp := fun h => by cases h
theorem ti140 : TIok Tryz.prog ⟨1, 8, [.nilp], false, .other⟩ 140 where
  info := ⟨Tryz.t140, by kernel_rfl, rfl, rfl, _, rfl, rfl, fun w D => zB_ok w D _ _ (by kernel_rfl), (fun h => by cases h), fun _ => rfl⟩
  und := ⟨_, Tryz.underlying140, trivial⟩
  pos := by decide
  eqp := fun h => by cases h
theorem ti149 : TIok Tryz.prog ⟨1, 8, [.nilf], false, .fnc⟩ 149 where
  info := ⟨Tryz.t149, by kernel_rfl, rfl, rfl, _, rfl, rfl, fun w D => zB_ok w D _ _ (by kernel_rfl), (fun h => by cases h), fun _ => rfl⟩
  und := ⟨_, _, _, Tryz.underlying149⟩
  pos := by decide
  eqp := fun h => by cases h
theorem ti151 : TIok Tryz.prog ⟨2, 24, [.str ⟨#[]⟩, .nilf], false, .struct [(0, 9), (1, 149)]⟩ 151 where
  info := ⟨Tryz.t151, by kernel_rfl, rfl, rfl, _, rfl, rfl, fun w D => zB_ok w D _ _ (by kernel_rfl), fun _ => rfl, fun h => by cases h⟩
  und := ⟨_, Tryz.underlying151, rfl, List.all_eq_true.1 (by kernel_rfl)⟩
  pos := by decide
  eqp := fun h => by cases h
theorem ti152 : TIok Tryz.prog ⟨1, 24, [.nils], false, .slice 151 .part⟩ 152 where
  info := ⟨Tryz.t152, by kernel_rfl, rfl, rfl, _, rfl, rfl, fun w D => zB_ok w D _ _ (by kernel_rfl), (fun h => by cases h), fun _ => rfl⟩
  und := Tryz.underlying152
  pos := by decide
  eqp := fun h => by cases h
theorem ti155 : TIok Tryz.prog ⟨1, 8, [.int .u64 0], true, .int .u64⟩ 155 where
  info := ⟨Tryz.t155, by kernel_rfl, rfl, rfl, _, rfl, rfl, fun w D => zB_ok w D _ _ (by kernel_rfl), (fun h => by cases h), fun _ => rfl⟩
  und := Tryz.underlying155
  pos := by decide
  eqp := fun h => ⟨by kernel_rfl, by kernel_rfl⟩
theorem ti160 : TIok Tryz.prog ⟨3, 24, [.int .i64 0, .int .i64 0, .int .i64 0], true, .struct [(0, 3), (1, 48)]⟩ 160 where
  info := ⟨Tryz.t160, by kernel_rfl, rfl, rfl, _, rfl, rfl, fun w D => zB_ok w D _ _ (by kernel_rfl), fun _ => rfl, fun h => by cases h⟩
  und := ⟨_, Tryz.underlying160, rfl, List.all_eq_true.1 (by kernel_rfl)⟩
  pos := by decide
  eqp := fun h => ⟨by kernel_rfl, Tryz.eqGuardType160⟩
theorem ti162 : TIok Tryz.prog ⟨3, 24, [.int .i64 0, .int .i64 0, .int .i64 0], true, .struct [(0, 3), (1, 75)]⟩ 162 where
  info := ⟨Tryz.t162, by kernel_rfl, rfl, rfl, _, rfl, rfl, fun w D => zB_ok w D _ _ (by kernel_rfl), fun _ => rfl, fun h => by cases h⟩
  und := ⟨_, Tryz.underlying162, rfl, List.all_eq_true.1 (by kernel_rfl)⟩
  pos := by decide
  eqp := fun h => ⟨by kernel_rfl, Tryz.eqGuardType162⟩
theorem ti163 : TIok Tryz.prog ⟨1, 8, [.nilp], false, .other⟩ 163 where
  info := ⟨Tryz.t163, by kernel_rfl, rfl, rfl, _, rfl, rfl, fun w D => zB_ok w D _ _ (by kernel_rfl), (fun h => by cases h), fun _ => rfl⟩
  und := ⟨_, Tryz.underlying163, trivial⟩
  pos := by decide
  eqp := fun h => by cases h
theorem ti164 : TIok Tryz.prog ⟨1, 16, [.str ⟨#[]⟩], false, .struct [(0, 9)]⟩ 164 where
  info := ⟨Tryz.t164, by kernel_rfl, rfl, rfl, _, rfl, rfl, fun w D => zB_ok w D _ _ (by kernel_rfl), fun _ => rfl, fun h => by cases h⟩
  und := ⟨_, Tryz.underlying164, rfl, List.all_eq_true.1 (by kernel_rfl)⟩
  pos := by decide
  eqp := fun h => by cases h
theorem ti165 : TIok Tryz.prog ⟨1, 16, [.str ⟨#[]⟩], false, .struct [(0, 9)]⟩ 165 where
  info := ⟨Tryz.t165, by kernel_rfl, rfl, rfl, _, rfl, rfl, fun w D => zB_ok w D _ _ (by kernel_rfl), fun _ => rfl, fun h => by cases h⟩
  und := ⟨_, Tryz.underlying165, rfl, List.all_eq_true.1 (by kernel_rfl)⟩
  pos := by decide
  eqp := fun h => by cases h
theorem ti166 : TIok Tryz.prog ⟨1, 8, [.nilf], false, .fnc⟩ 166 where
  info := ⟨Tryz.t166, by kernel_rfl, rfl, rfl, _, rfl, rfl, fun w D => zB_ok w D _ _ (by kernel_rfl), (fun h => by cases h), fun _ => rfl⟩
  und := ⟨_, _, _, Tryz.underlying166⟩
  pos := by decide
  eqp := fun h => by cases h
theorem ti168 : TIok Tryz.prog ⟨1, 8, [.int .u64 0], true, .int .u64⟩ 168 where
  info := ⟨Tryz.t168, by kernel_rfl, rfl, rfl, _, rfl, rfl, fun w D => zB_ok w D _ _ (by kernel_rfl), (fun h => by cases h), fun _ => rfl⟩
  und := Tryz.underlying168
  pos := by decide
  eqp := fun h => ⟨by kernel_rfl, by kernel_rfl⟩
theorem ti177 : TIok Tryz.prog ⟨8, 64, [.int .i64 0, .int .i64 0, .int .i64 0, .int .i64 0, .int .i64 0, .int .i64 0, .bool false, .int .i64 0], true, .struct [(0, 3), (1, 3), (2, 3), (3, 75), (5, 3), (6, 4), (7, 3)]⟩ 177 where
  info := ⟨Tryz.t177, by kernel_rfl, rfl, rfl, _, rfl, rfl, fun w D => zB_ok w D _ _ (by kernel_rfl), fun _ => rfl, fun h => by cases h⟩
  und := ⟨_, Tryz.underlying177, rfl, List.all_eq_true.1 (by kernel_rfl)⟩
  pos := by decide
  eqp := fun h => ⟨by kernel_rfl, Tryz.eqGuardType177⟩
theorem ti188 : TIok Tryz.prog ⟨3, 24, [.int .i64 0, .int .i64 0, .int .i64 0], false, .array 3 3⟩ 188 where
  info := ⟨Tryz.t188, by kernel_rfl, rfl, rfl, _, rfl, rfl, fun w D => zB_ok w D _ _ (by kernel_rfl), fun _ => rfl, fun h => by cases h⟩
  und := Tryz.underlying188
  pos := by decide
  eqp := fun h => by cases h
theorem ti189 : TIok Tryz.prog ⟨24, 192, [.int .i64 0, .int .i64 0, .int .i64 0, .int .i64 0, .int .i64 0, .int .i64 0, .int .i64 0, .int .i64 0, .int .i64 0, .int .i64 0, .int .i64 0, .int .i64 0, .int .i64 0, .int .i64 0, .int .i64 0, .int .i64 0, .int .i64 0, .int .i64 0, .int .i64 0, .int .i64 0, .int .i64 0, .int .i64 0, .int .i64 0, .int .i64 0], false, .array 8 188⟩ 189 where
  info := ⟨Tryz.t189, by kernel_rfl, rfl, rfl, _, rfl, rfl, fun w D => zB_ok w D _ _ (by kernel_rfl), fun _ => rfl, fun h => by cases h⟩
  und := Tryz.underlying189
  pos := by decide
  eqp := fun h => by cases h
theorem ti199 : TIok Tryz.prog ⟨2, 16, [.int .i64 0, .int .i64 0], true, .struct [(0, 3), (1, 3)]⟩ 199 where
  info := ⟨Tryz.t199, by kernel_rfl, rfl, rfl, _, rfl, rfl, fun w D => zB_ok w D _ _ (by kernel_rfl), fun _ => rfl, fun h => by cases h⟩
  und := ⟨_, Tryz.underlying199, rfl, List.all_eq_true.1 (by kernel_rfl)⟩
  pos := by decide
  eqp := fun h => ⟨by kernel_rfl, Tryz.eqGuardType199⟩
theorem ti201 : TIok Tryz.prog ⟨6, 48, [.int .i64 0, .int .i64 0, .int .i64 0, .int .i64 0, .int .i64 0, .int .i64 0], true, .struct [(0, 3), (1, 3), (2, 75), (4, 3), (5, 3)]⟩ 201 where
  info := ⟨Tryz.t201, by kernel_rfl, rfl, rfl, _, rfl, rfl, fun w D => zB_ok w D _ _ (by kernel_rfl), fun _ => rfl, fun h => by cases h⟩
  und := ⟨_, Tryz.underlying201, rfl, List.all_eq_true.1 (by kernel_rfl)⟩
  pos := by decide
  eqp := fun h => ⟨by kernel_rfl, Tryz.eqGuardType201⟩
theorem ti202 : TIok Tryz.prog ⟨2, 16, [.int .i64 0, .int .i64 0], true, .struct [(0, 3), (1, 3)]⟩ 202 where
  info := ⟨Tryz.t202, by kernel_rfl, rfl, rfl, _, rfl, rfl, fun w D => zB_ok w D _ _ (by kernel_rfl), fun _ => rfl, fun h => by cases h⟩
  und := ⟨_, Tryz.underlying202, rfl, List.all_eq_true.1 (by kernel_rfl)⟩
  pos := by decide
  eqp := fun h => ⟨by kernel_rfl, Tryz.eqGuardType202⟩
theorem ti206 : TIok Tryz.prog ⟨37, 408, [.int .i64 0, .int .i64 0, .int .i64 0, .int .i64 0, .int .i64 0, .int .i64 0, .int .i64 0, .int .i64 0, .bool false, .int .i64 0, .int .i64 0, .int .i64 0, .int .i64 0, .int .i64 0, .nils, .nils, .int .i64 0, .int .i64 0, .int .i64 0, .int .i64 0, .nils, .nils, .nils, .int .i64 0, .int .i64 0, .int .i64 0, .int .i64 0, .int .i64 0, .int .i64 0, .int .i64 0, .int .i64 0, .int .i64 0, .int .i64 0, .nils, .int .i64 0, .nils, .bool false], false, .struct [(0, 69)]⟩ 206 where
  info := ⟨Tryz.t206, by kernel_rfl, rfl, rfl, _, rfl, rfl, fun w D => zB_ok w D _ _ (by kernel_rfl), fun _ => rfl, fun h => by cases h⟩
  und := ⟨_, Tryz.underlying206, rfl, List.all_eq_true.1 (by kernel_rfl)⟩
  pos := by decide
  eqp := fun h => by cases h
theorem ti207 : TIok Tryz.prog ⟨1, 8, [.nilf], false, .fnc⟩ 207 where
  info := ⟨Tryz.t207, by kernel_rfl, rfl, rfl, _, rfl, rfl, fun w D => zB_ok w D _ _ (by kernel_rfl), (fun h => by cases h), fun _ => rfl⟩
  und := ⟨_, _, _, Tryz.underlying207⟩
  pos := by decide
  eqp := fun h => by cases h
theorem ti208 : TIok Tryz.prog ⟨1, 8, [.nilm], false, .map⟩ 208 where
  info := ⟨Tryz.t208, by kernel_rfl, rfl, rfl, _, rfl, rfl, fun w D => zB_ok w D _ _ (by kernel_rfl), (fun h => by cases h), fun _ => rfl⟩
  und := ⟨_, _, Tryz.underlying208, Tryz.underlying3, Tryz.t207, by kernel_rfl, rfl⟩
  pos := by decide
  eqp := fun h => by cases h
theorem ti211 : TIok Tryz.prog ⟨2, 16, [.int .i64 0, .int .i64 0], true, .struct [(0, 3), (1, 3)]⟩ 211 where
  info := ⟨Tryz.t211, by kernel_rfl, rfl, rfl, _, rfl, rfl, fun w D => zB_ok w D _ _ (by kernel_rfl), fun _ => rfl, fun h => by cases h⟩
  und := ⟨_, Tryz.underlying211, rfl, List.all_eq_true.1 (by kernel_rfl)⟩
  pos := by decide
  eqp := fun h => ⟨by kernel_rfl, Tryz.eqGuardType211⟩
theorem ti218 : TIok Tryz.prog ⟨1, 8, [.nilp], false, .other⟩ 218 where
  info := ⟨Tryz.t218, by kernel_rfl, rfl, rfl, _, rfl, rfl, fun w D => zB_ok w D _ _ (by kernel_rfl), (fun h => by cases h), fun _ => rfl⟩
  und := ⟨_, Tryz.underlying218, trivial⟩
  pos := by decide
  eqp := fun h => by cases h
theorem ti220 : TIok Tryz.prog ⟨38, 416, [.int .i64 0, .int .i64 0, .int .i64 0, .int .i64 0, .int .i64 0, .int .i64 0, .int .i64 0, .int .i64 0, .bool false, .int .i64 0, .int .i64 0, .int .i64 0, .int .i64 0, .int .i64 0, .nils, .nils, .int .i64 0, .int .i64 0, .int .i64 0, .int .i64 0, .nils, .nils, .nils, .int .i64 0, .int .i64 0, .int .i64 0, .int .i64 0, .int .i64 0, .int .i64 0, .int .i64 0, .int .i64 0, .int .i64 0, .int .i64 0, .nils, .int .i64 0, .nils, .bool false, .int .i64 0], false, .struct [(0, 69), (37, 3)]⟩ 220 where
  info := ⟨Tryz.t220, by kernel_rfl, rfl, rfl, _, rfl, rfl, fun w D => zB_ok w D _ _ (by kernel_rfl), fun _ => rfl, fun h => by cases h⟩
  und := ⟨_, Tryz.underlying220, rfl, List.all_eq_true.1 (by kernel_rfl)⟩
  pos := by decide
  eqp := fun h => by cases h
theorem ti222 : TIok Tryz.prog ⟨1, 8, [.nilf], false, .fnc⟩ 222 where
  info := ⟨Tryz.t222, by kernel_rfl, rfl, rfl, _, rfl, rfl, fun w D => zB_ok w D _ _ (by kernel_rfl), (fun h => by cases h), fun _ => rfl⟩
  und := ⟨_, _, _, Tryz.underlying222⟩
  pos := by decide
  eqp := fun h => by cases h
theorem ti225 : TIok Tryz.prog ⟨1, 8, [.int .i64 0], true, .struct [(0, 3)]⟩ 225 where
  info := ⟨Tryz.t225, by kernel_rfl, rfl, rfl, _, rfl, rfl, fun w D => zB_ok w D _ _ (by kernel_rfl), fun _ => rfl, fun h => by cases h⟩
  und := ⟨_, Tryz.underlying225, rfl, List.all_eq_true.1 (by kernel_rfl)⟩
  pos := by decide
  eqp := fun h => ⟨by kernel_rfl, Tryz.eqGuardType225⟩
theorem ti228 : TIok Tryz.prog ⟨3, 24, [.int .i64 0, .int .i64 0, .int .i64 0], true, .struct [(0, 3), (1, 3), (2, 3)]⟩ 228 where
  info := ⟨Tryz.t228, by kernel_rfl, rfl, rfl, _, rfl, rfl, fun w D => zB_ok w D _ _ (by kernel_rfl), fun _ => rfl, fun h => by cases h⟩
  und := ⟨_, Tryz.underlying228, rfl, List.all_eq_true.1 (by kernel_rfl)⟩
  pos := by decide
  eqp := fun h => ⟨by kernel_rfl, Tryz.eqGuardType228⟩
theorem ti232 : TIok Tryz.prog ⟨4, 32, [.int .i64 0, .int .i64 0, .int .i64 0, .int .i64 0], true, .struct [(0, 3), (1, 3), (2, 3), (3, 3)]⟩ 232 where
  info := ⟨Tryz.t232, by kernel_rfl, rfl, rfl, _, rfl, rfl, fun w D => zB_ok w D _ _ (by kernel_rfl), fun _ => rfl, fun h => by cases h⟩
  und := ⟨_, Tryz.underlying232, rfl, List.all_eq_true.1 (by kernel_rfl)⟩
  pos := by decide
  eqp := fun h => ⟨by kernel_rfl, Tryz.eqGuardType232⟩
theorem ti244 : TIok Tryz.prog ⟨3, 24, [.int .i64 0, .int .i64 0, .int .i64 0], true, .struct [(0, 48), (2, 3)]⟩ 244 where
  info := ⟨Tryz.t244, by kernel_rfl, rfl, rfl, _, rfl, rfl, fun w D => zB_ok w D _ _ (by kernel_rfl), fun _ => rfl, fun h => by cases h⟩
  und := ⟨_, Tryz.underlying244, rfl, List.all_eq_true.1 (by kernel_rfl)⟩
  pos := by decide
  eqp := fun h => ⟨by kernel_rfl, Tryz.eqGuardType244⟩
theorem ti252 : TIok Tryz.prog ⟨1, 8, [.nilc], false, .chan⟩ 252 where
  info := ⟨Tryz.t252, by kernel_rfl, rfl, rfl, _, rfl, rfl, fun w D => zB_ok w D _ _ (by kernel_rfl), (fun h => by cases h), fun _ => rfl⟩
  und := ⟨_, _, Tryz.underlying252, Tryz.t69, by kernel_rfl, by decide⟩
  pos := by decide
  eqp := fun h => by cases h
theorem ti269 : TIok Tryz.prog ⟨2, 16, [.int .i64 0, .int .i64 0], true, .struct [(0, 3), (1, 3)]⟩ 269 where
  info := ⟨Tryz.t269, by kernel_rfl, rfl, rfl, _, rfl, rfl, fun w D => zB_ok w D _ _ (by kernel_rfl), fun _ => rfl, fun h => by cases h⟩
  und := ⟨_, Tryz.underlying269, rfl, List.all_eq_true.1 (by kernel_rfl)⟩
  pos := by decide
  eqp := fun h => ⟨by kernel_rfl, Tryz.eqGuardType269⟩
theorem ti315 : TIok Tryz.prog ⟨1, 24, [.nils], false, .slice 55 .kids⟩ 315 where
  info := ⟨Tryz.t315, by kernel_rfl, rfl, rfl, _, rfl, rfl, fun w D => zB_ok w D _ _ (by kernel_rfl), (fun h => by cases h), fun _ => rfl⟩
  und := Tryz.underlying315
  pos := by decide
  eqp := fun h => by cases h
theorem ti317 : TIok Tryz.prog ⟨1, 8, [.nilc], false, .chan⟩ 317 where
  info := ⟨Tryz.t317, by kernel_rfl, rfl, rfl, _, rfl, rfl, fun w D => zB_ok w D _ _ (by kernel_rfl), (fun h => by cases h), fun _ => rfl⟩
  und := ⟨_, _, Tryz.underlying317, Tryz.t3, by kernel_rfl, by decide⟩
  pos := by decide
  eqp := fun h => by cases h
theorem gam_ok : GamOk Tryz.prog gam := AllTI.ok ⟨ti3, ti4, ti5, ti9, ti20, ti22, ti23, ti24, ti25, ti26, ti29, ti31, ti32, ti34, ti35, ti36, ti38, ti39, ti48, ti50, ti54, ti55, ti57, ti63, ti65, ti69, ti72, ti74, ti75, ti76, ti77, ti79, ti80, ti81, ti83, ti85, ti101, ti109, ti110, ti112, ti126, ti129, ti131, ti133, ti134, ti140, ti149, ti151, ti152, ti155, ti160, ti162, ti163, ti164, ti165, ti166, ti168, ti177, ti188, ti189, ti199, ti201, ti202, ti206, ti207, ti208, ti211, ti218, ti220, ti222, ti225, ti228, ti232, ti244, ti252, ti269, ti315, ti317, trivial⟩
theorem mix_ok : Tryz.prog.follows .mixedOrders = true := by kernel_rfl
end Go.Proofs.YtihhgenbkiollaaGreat

/- The abstract machine, part fr: a function's contract, by its evaluation. No condition. -/
namespace Go.Proofs.YtihhgenbkiollaaGreat
open Go Go.Proofs Go.RowKit
/-- the loops of a code, with the blocks that they stand in -/
def loopsAt : Code → Nat → List (Nat × Code)
  | .seq a b, bid => loopsAt a bid ++ loopsAt b bid
  | .cond _ a b, bid => loopsAt a bid ++ loopsAt b bid
  | .block id c, _ => loopsAt c id
  | .loop c, bid => (bid, c) :: loopsAt c bid
  | .scope c, bid => loopsAt c bid
  | _, _ => []
/-- the regions, and the ranges over functions, that may be run by hand -/
def handAt : Code → Nat → List (Nat × Code)
  | .seq a b, bid => handAt a bid ++ handAt b bid
  | .cond _ a b, bid => handAt a bid ++ handAt b bid
  | .block id c, _ => handAt c id
  | .loop c, bid => handAt c bid
  | .scope c, bid => handAt c bid
  | .region id ops draw, _ => [(2 * id, .region id ops draw)]
  | .rangeFunc f ps a b, bid => [(2 * bid + 1, .rangeFunc f ps a b)]
  | _, _ => []
section
variable {R : Type} {P : Program}
theorem CodeOk.of {C : Cfgs R} {N : Nat} {fid : FuncId} : ∀ (c : Code) (bid : Nat), (∀ d ∈ codeDsts c, d < N) → (∀ l ∈ loopsAt c bid, ∀ a, C.la fid l.1 = some (.ann a) → RunOk P N (.loop l.2) (evalAnn a)) →
    (∀ l ∈ handAt c bid, ∀ run, C.ra fid l.1 = some run → RunOk P N l.2 run) → CodeOk P C N fid c bid
  | .region id ops draw, _, hd, _, hr => ⟨fun o ho d hod => hd d (List.mem_filterMap.2 ⟨o, ho, hod⟩), hr (2 * id, .region id ops draw) (List.mem_cons_self ..)⟩
  | .seq a b, bid, hd, hl, hr => ⟨CodeOk.of a bid (fun d h => hd d (List.mem_append_left _ h)) (fun l h => hl l (List.mem_append_left _ h)) (fun l h => hr l (List.mem_append_left _ h)), CodeOk.of b bid (fun d h => hd d (List.mem_append_right _ h)) (fun l h => hl l (List.mem_append_right _ h)) (fun l h => hr l (List.mem_append_right _ h))⟩
  | .cond _ a b, bid, hd, hl, hr => ⟨CodeOk.of a bid (fun d h => hd d (List.mem_append_left _ h)) (fun l h => hl l (List.mem_append_left _ h)) (fun l h => hr l (List.mem_append_left _ h)), CodeOk.of b bid (fun d h => hd d (List.mem_append_right _ h)) (fun l h => hl l (List.mem_append_right _ h)) (fun l h => hr l (List.mem_append_right _ h))⟩
  | .block id c, _, hd, hl, hr => CodeOk.of c id hd hl hr
  | .loop c, bid, hd, hl, hr => ⟨CodeOk.of c bid hd (fun l h => hl l (List.mem_cons_of_mem _ h)) hr, hl (bid, c) (List.mem_cons_self ..)⟩
  | .scope c, bid, hd, hl, hr => CodeOk.of c bid hd hl hr
  | .skip, _, _, _, _ => trivial
  | .ret, _, _, _, _ => trivial
  | .exit _, _, _, _, _ => trivial
  | .goto _, _, _, _, _ => trivial
  | .label _, _, _, _, _ => trivial
  | .rangeFunc f ps a b, bid, _, _, hr => hr (2 * bid + 1, .rangeFunc f ps a b) (List.mem_cons_self ..)
  | .refuse _, _, _, _, _ => trivial
end
/-- contracts that hold -/
def CtrsOk (cs : List (FuncId × Ctr)) : Prop := ∀ g c, lk g cs = some c → Enters Tryz.prog g ∧ c.Ok Tryz.prog g
theorem CtrsOk.nil : CtrsOk [] := fun _ _ h => by cases h
theorem CtrsOk.cons {g : FuncId} {c : Ctr} {cs : List (FuncId × Ctr)} (h : Enters Tryz.prog g ∧ c.Ok Tryz.prog g) (hs : CtrsOk cs) : CtrsOk ((g, c) :: cs) := by
  intro g' c' h'
  simp only [lk] at h'
  cases he : Nat.beq g g' with
  | true => rw [he] at h'; cases beq_eq he; cases h'; exact h
  | false => rw [he] at h'; exact hs g' c' h'
/-- functions that are run inline -/
def FnsIn (fns : List (FuncId × Func)) : Prop := ∀ g fn, lk g fns = some fn → Tryz.prog.funcs[g]? = some fn ∧ (fn.name == "runtime.NumGoroutine") = false
theorem FnsIn.nil : FnsIn [] := fun _ _ h => by cases h
theorem FnsIn.cons {g : FuncId} {fn : Func} {fns : List (FuncId × Func)} (h1 : Tryz.prog.funcs[g]? = some fn) (h2 : (fn.name == "runtime.NumGoroutine") = false) (hs : FnsIn fns) : FnsIn ((g, fn) :: fns) := by
  intro g' fn' h'
  simp only [lk] at h'
  cases he : Nat.beq g g' with
  | true => rw [he] at h'; cases beq_eq he; cases h'; exact ⟨h1, h2⟩
  | false => rw [he] at h'; exact hs g' fn' h'
theorem enters {g : FuncId} {fn : Func} (h1 : Tryz.prog.funcs[g]? = some fn) (h2 : (fn.name == "runtime.NumGoroutine") = false) (h3 : fn.body.isNone = false) : Enters Tryz.prog g := ⟨fn, h1, h2, h3⟩
theorem ctrs_some {R : Type} {cs : List (FuncId × Ctr)} (h : CtrsOk cs) (g : FuncId) (c : List AV → (CRes → Option R) → Option R) (hc : ctrs cs g = some c) : Enters Tryz.prog g ∧ CtrOk Tryz.prog g c := by
  unfold ctrs at hc
  split at hc
  · rename_i c' h'
    cases hc
    exact ⟨(h g c' h').1, Ctr.ok (h g c' h').2⟩
  · cases hc
theorem cfg_ok {R : Type} {cs fs ds : List (FuncId × Ctr)} {fns : List (FuncId × Func)} {la : FuncId → Nat → Option (LAnn R)} {ra : FuncId → Nat → Option (Run R)} (hc : CtrsOk cs) (hf : CtrsOk fs) (hd : CtrsOk ds) : CfgOk Tryz.prog (cfgR cs fs ds fns la ra) :=
  ⟨gam_ok, fun g c h => ctrs_some hc g c h, fun g c h => ctrs_some hf g c h, fun g c h => ctrs_some hd g c h, mix_ok⟩
/-- the annotated loops are as they say -/
def LoopsIn {R : Type} (fns : List (FuncId × Func)) (la : FuncId → Nat → Option (LAnn R)) : Prop :=
  ∀ g fn c, lk g fns = some fn → fn.body = some c → ∀ l ∈ loopsAt c 0, ∀ a, la g l.1 = some (.ann a) → RunOk Tryz.prog fn.ntmps (.loop l.2) (evalAnn a)
theorem LoopsIn.none {R : Type} {fns : List (FuncId × Func)} {la : FuncId → Nat → Option (LAnn R)} (h : ∀ g b a, la g b ≠ some (.ann a)) : LoopsIn fns la := fun g _ _ _ _ l _ a ha => absurd ha (h g l.1 a)
/-- what a function answers, by its evaluation -/
theorem valid_of_eval {ρ : RT} {cs fs ds : List (FuncId × Ctr)} {fns : List (FuncId × Func)} {la : FuncId → Nat → Option (LAnn ρ.C)} (hc : CtrsOk cs) (hf : CtrsOk fs) (hd : CtrsOk ds) (hn : FnsIn fns) (hl : LoopsIn fns la) {d : Nat} {g : FuncId} {args : List AV} {y : ρ.C}
    (h : evalFn (cfg cs fs ds fns la) d g args ρ.dec = some y) : Valid Tryz.prog g args (ρ.enc y) := by
  have hC : CfgOk Tryz.prog (cfg cs fs ds fns la) := cfg_ok hc hf hd
  intro w D vs hD hvs
  refine (evalFn_ok hC hn (fun g fn c h1 h2 h3 => CodeOk.of c 0 h3 (hl g fn c h1 h2) (fun _ _ _ h => by cases h)) (drawOk_ok hC) h w D vs hD hvs).mono fun e w' => ?_
  rintro ⟨res, h1, h2⟩
  exact h2.dec h1
/-- what a function answers that has pieces run by hand -/
theorem valid_of_evalR {ρ : RT} {cs fs ds : List (FuncId × Ctr)} {fns : List (FuncId × Func)} {la : FuncId → Nat → Option (LAnn ρ.C)} {ra : FuncId → Nat → Option (Run ρ.C)} (hc : CtrsOk cs) (hf : CtrsOk fs) (hd : CtrsOk ds) (hn : FnsIn fns) (hl : LoopsIn fns la)
    (hr : ∀ g fn c, lk g fns = some fn → fn.body = some c → ∀ l ∈ handAt c 0, ∀ run, ra g l.1 = some run → RunOk Tryz.prog fn.ntmps l.2 run) {d : Nat} {g : FuncId} {args : List AV} {y : ρ.C}
    (h : evalFn (cfgR cs fs ds fns la ra) d g args ρ.dec = some y) : Valid Tryz.prog g args (ρ.enc y) := by
  have hC : CfgOk Tryz.prog (cfgR cs fs ds fns la ra) := cfg_ok hc hf hd
  intro w D vs hD hvs
  refine (evalFn_ok hC hn (fun g fn c h1 h2 h3 => CodeOk.of c 0 h3 (hl g fn c h1 h2) (hr g fn c h1 h2)) (drawOk_ok hC) h w D vs hD hvs).mono fun e w' => ?_
  rintro ⟨res, h1, h2⟩
  exact h2.dec h1
/-- an evaluation in a loop's body -/
theorem run_of_eval {R : Type} {cs fs ds : List (FuncId × Ctr)} {fns : List (FuncId × Func)} {la : FuncId → Nat → Option (LAnn R)} (hc : CtrsOk cs) (hf : CtrsOk fs) (hd : CtrsOk ds) (hn : FnsIn fns) (hl : LoopsIn fns la) (d N : Nat) (fid : FuncId) (c : Code) (bid : Nat)
    (hdst : ∀ d ∈ codeDsts c, d < N) (hlp : ∀ l ∈ loopsAt c bid, ∀ a, la fid l.1 = some (.ann a) → RunOk Tryz.prog N (.loop l.2) (evalAnn a)) : RunOk Tryz.prog N c (evalD (cfg cs fs ds fns la) d fid c bid) := by
  have hC : CfgOk Tryz.prog (cfg cs fs ds fns la) := cfg_ok hc hf hd
  exact evalD_ok hC hn (fun g fn c h1 h2 h3 => CodeOk.of c 0 h3 (hl g fn c h1 h2) (fun _ _ _ h => by cases h)) (drawOk_ok hC) d N fid c bid (CodeOk.of c bid hdst hlp (fun _ _ _ h => by cases h))
end Go.Proofs.YtihhgenbkiollaaGreat

/- The abstract machine, part fs: loops as functions of what they carry. No condition. -/
namespace Go.Proofs.YtihhgenbkiollaaGreat
open Go Go.Proofs Go.RowKit
/-- a loop: on with a state, or out with an end -/
def loopF {V E : Type} (S : V → Option (V ⊕ E)) : Nat → V → Option E
  | 0, _ => none
  | n + 1, v => match S v with
    | none => none
    | some (.inl v') => loopF S n v'
    | some (.inr e) => some e
/-- more rounds than any loop has -/
def bigN : Nat := 18446744073709551616
def onOut {V E R : Type} (rec : V → Option R) (out : E → Option R) : V ⊕ E → Option R
  | .inl v => rec v
  | .inr e => out e
theorem need_cond {α R : Type} (b : Bool) (x y : Option α) (f : α → Option R) : need (cond b x y) f = cond b (need x f) (need y f) := by cases b <;> rfl
theorem need_need {α β R : Type} (x : Option α) (g : α → Option β) (f : β → Option R) : need (need x g) f = need x fun a => need (g a) f := by cases x <;> rfl
theorem need_obind {α β R : Type} (x : Option α) (g : α → Option β) (f : β → Option R) : need (x.bind g) f = x.bind fun a => need (g a) f := by cases x <;> rfl
theorem need_val {α R : Type} (a : α) (f : α → Option R) : need (some a) f = f a := rfl
theorem need_none {α R : Type} (f : α → Option R) : need none f = none := rfl
theorem onOut_inl {V E R : Type} (rec : V → Option R) (out : E → Option R) (v : V) : onOut rec out (.inl v) = rec v := rfl
theorem onOut_inr {V E R : Type} (rec : V → Option R) (out : E → Option R) (e : E) : onOut rec out (.inr e) = out e := rfl
theorem need_eq_bind {α R : Type} (x : Option α) (f : α → Option R) : need x f = x.bind f := by cases x <;> rfl
section
variable {R : Type} {P : Program} {N : Nat}
/-- a loop of one kind of end -/
def annOf (cs : List Car) (fs : List Fix) (nx : Nat) {E : Type} (X : Vars cs → Option E) (kx : (Ex → Vars cs → Option R) → E → Option R) : Ann R := ⟨cs, fs, nx, fun v k => need (X v) (kx k)⟩
theorem loop_ok {cs : List Car} {fs : List Fix} {nx : Nat} {E : Type} {S : Vars cs → Option (Vars cs ⊕ E)} {X : Vars cs → Option E} (hX : X = loopF S bigN) {kx : (Ex → Vars cs → Option R) → E → Option R} {c : Code} {body : Run R} (hbody : RunOk P N c body)
    (hB : ∀ (rec : Vars cs → Option R) (k : Ex → Vars cs → Option R) (v : Vars cs), (need (lay nx cs fs v) fun p => body ⟨[], []⟩ p.2 p.1 (fun x _ s' => need (take nx cs fs (getT ⟨[], []⟩ s') (getH ⟨[], []⟩ s')) fun p => match x with | .normal => rec p.1 | x => k x p.1)) = need (S v) (onOut rec (kx k))) :
    RunOk P N (.loop c) (evalAnn (annOf cs fs nx X kx)) := by
  subst hX
  refine evalAnn_ok (a := annOf cs fs nx (loopF S bigN) kx) hbody (fun n v k => need (loopF S n v) (kx k)) (fun _ _ => rfl) (fun n v k r h s0 n0 hl => ?_) (fun v k r h => ⟨bigN, h⟩)
  have hb := hB (fun v => need (loopF S n v) (kx k)) k v
  rw [show lay nx cs fs v = some (s0, n0) from hl] at hb
  refine (show body ⟨[], []⟩ n0 s0 _ = _ from hb).trans ?_
  have h : need (loopF S (n + 1) v) (kx k) = some r := h
  simp only [loopF] at h
  cases hS : S v with
  | none => rw [hS] at h; exact h
  | some q =>
    rw [hS] at h
    cases q with
    | inl v' => exact h
    | inr e => exact h
end
/-- the loop that stands in a block of a function -/
def bodyAt (fn : Func) (b : Nat) : Code := match fn.body with | some c => (match lk b (loopsAt c 0) with | some l => l | none => .skip) | none => .skip
def loopsOf (fn : Func) : List (Nat × Code) := match fn.body with | some c => loopsAt c 0 | none => []
def LoopsAll {R : Type} (N : Nat) (la : FuncId → Nat → Option (LAnn R)) (g : FuncId) : List (Nat × Code) → Prop
  | [] => True
  | (b, c) :: r => (∀ a, la g b = some (.ann a) → RunOk Tryz.prog N (.loop c) (evalAnn a)) ∧ LoopsAll N la g r
theorem LoopsAll.get {R : Type} {N : Nat} {la : FuncId → Nat → Option (LAnn R)} {g : FuncId} : ∀ {ls : List (Nat × Code)}, LoopsAll N la g ls → ∀ l ∈ ls, ∀ a, la g l.1 = some (.ann a) → RunOk Tryz.prog N (.loop l.2) (evalAnn a)
  | [], _, _, h => by cases h
  | (b, c) :: r, hl, l, h => by
    cases h with
    | head => exact hl.1
    | tail _ h => exact LoopsAll.get hl.2 l h
theorem LoopsIn.nil {R : Type} {la : FuncId → Nat → Option (LAnn R)} : LoopsIn [] la := fun _ _ _ h => by cases h
theorem LoopsIn.cons {R : Type} {la : FuncId → Nat → Option (LAnn R)} {g : FuncId} {fn : Func} {fns : List (FuncId × Func)} {ls : List (Nat × Code)} (hls : loopsOf fn = ls) (h : LoopsAll fn.ntmps la g ls) (hs : LoopsIn fns la) : LoopsIn ((g, fn) :: fns) la := by
  intro g' fn' c h' hb
  simp only [lk] at h'
  cases he : Nat.beq g g' with
  | true =>
    rw [he] at h'; cases beq_eq he; cases h'
    have : loopsAt c 0 = ls := by rw [← hls]; simp only [loopsOf, hb]
    rw [this]; exact h.get
  | false => rw [he] at h'; exact hs g' fn' c h' hb
theorem LoopsIn.skip {R : Type} {la : FuncId → Nat → Option (LAnn R)} {g : FuncId} {fn : Func} {fns : List (FuncId × Func)} (h : ∀ b, la g b = Option.none) (hs : LoopsIn fns la) : LoopsIn ((g, fn) :: fns) la := by
  intro g' fn' c h' hb l _ a ha
  simp only [lk] at h'
  cases he : Nat.beq g g' with
  | true => cases beq_eq he; rw [h] at ha; cases ha
  | false => rw [he] at h'; exact hs g' fn' c h' hb l ‹_› a ha
theorem hlp_of {R : Type} {N : Nat} {la : FuncId → Nat → Option (LAnn R)} {g : FuncId} {c : Code} {b : Nat} {ls : List (Nat × Code)} (hls : loopsAt c b = ls) (h : LoopsAll N la g ls) : ∀ l ∈ loopsAt c b, ∀ a, la g l.1 = some (.ann a) → RunOk Tryz.prog N (.loop l.2) (evalAnn a) := by rw [hls]; exact h.get
theorem dstB {c : Code} {N : Nat} (h : ((codeDsts c).all fun d => Nat.blt d N) = true) : ∀ d ∈ codeDsts c, d < N := fun d hd => ble_le (List.all_eq_true.1 h d hd)
theorem annEq {R : Type} {a a' : Ann R} {x : Option (LAnn R)} (h : x = some (.ann a')) (hx : x = some (.ann a)) : a = a' := by rw [hx] at h; cases h; rfl
end Go.Proofs.YtihhgenbkiollaaGreat

/- The abstract machine, part ft: answers with a row of the caller's own. No condition. -/
namespace Go.Proofs.YtihhgenbkiollaaGreat
open Go Go.Proofs Go.RowKit
theorem memB_false {b : Nat} {l : List Nat} (h : memB b l = false) : b ∉ l := fun hm => by rw [memB_iff.2 hm] at h; cases h
theorem fixL_plainC {H : Nat → Option Obj} {l l' : Leaf} (h : fixL H l = some l') : plainC l' = true := by
  unfold fixL at h
  split at h
  · split at h
    · cases h; rfl
    · cases h
  · cases h
  · cases h
  · cases h
  · cases h
  · cases h
  · rename_i h1 h2 h3 h4 h5 h6
    cases h
    cases l <;> first | rfl | exact absurd rfl (h1 _) | exact absurd rfl (h2 _) | exact absurd rfl (h3 _ _ _ _) | exact absurd rfl (h4 _ _ _) | exact absurd rfl (h5 _) | exact absurd rfl (h6 _)
theorem fixLs_plainC {H : Nat → Option Obj} : ∀ {ls ls' : List Leaf}, fixLs H ls = some ls' → ls'.all plainC = true
  | [], _, h => by cases h; rfl
  | l :: ls, ls', h => by
    simp only [fixLs] at h
    split at h
    · rename_i y ys h1 h2; cases h; simp only [List.all_cons, fixL_plainC h1, fixLs_plainC h2, Bool.and_self]
    · cases h
/-- the rows that are lent at the end -/
def lentOf (s : St) : Nat → List Leaf → List Nat
  | _, [] => []
  | 0, _ :: r => ownsL r
  | j + 1, l :: r => ownsL [l] ++ lentOf s j r
section
variable {R : Type} {P : Program} {s : St} {k : Kd}
theorem mixLs_lends : ∀ {j : Nat} {ls ls' : List Leaf} {xs : List k.C} {b : Option Nat}, mixLs s k j ls = some (ls', xs, b) → ∃ m, lends (getH ⟨[], []⟩ s) (lentOf s j ls) = some m
  | 0, [], _, _, _, h => by cases h
  | _ + 1, [], _, _, _, h => by cases h
  | 0, l :: r, ls', xs, b, h => by
    simp only [mixLs] at h
    split at h
    · rename_i r' hr; exact lends_of_fixLs _ hr
    · cases h
  | j + 1, l :: r, ls', xs, b, h => by
    simp only [mixLs] at h
    split at h
    · rename_i l' r' ys b' hl hr
      obtain ⟨m, hm⟩ := mixLs_lends hr
      have hl1 : fixLs (getH ⟨[], []⟩ s) [l] = some [l'] := by simp only [fixLs, hl]
      obtain ⟨m', hm'⟩ := lends_of_fixLs _ hl1
      exact lends_append _ _ hm' hm
    · cases h
/-- the row that stays the caller's own is not lent -/
theorem mixLs_row : ∀ {j : Nat} {ls ls' : List Leaf} {xs : List k.C} {b : Nat}, mixLs s k j ls = some (ls', xs, some b) → b ∉ lentOf s j ls ∧ getH ⟨[], []⟩ s b = some (.arr k xs false)
  | 0, [], _, _, _, h => by cases h
  | _ + 1, [], _, _, _, h => by cases h
  | 0, l :: r, ls', xs, b, h => by
    simp only [mixLs] at h
    split at h
    · split at h
      · cases h
      · rename_i c
        cases hm : memB c (ownsL r) with
        | true => rw [hm] at h; cases h
        | false =>
          rw [hm] at h
          simp only [cond_false] at h
          split at h
          · rename_i q ys hb
            split at h
            · rename_i zs hz
              obtain ⟨rfl, hz⟩ := Kd.cast_eq hz
              have hz : ys = zs := hz
              subst hz
              cases h
              exact ⟨memB_false hm, by simp [getH, hb]⟩
            · cases h
          · cases h
      · cases h
    · cases h
  | j + 1, l :: r, ls', xs, b, h => by
    simp only [mixLs] at h
    split at h
    · rename_i l' r' ys b' hl hr
      split at h
      · rename_i c
        cases hm : memB c (ownsL [l]) with
        | true => rw [hm] at h; cases h
        | false =>
          rw [hm] at h
          simp only [cond_false, Option.some.injEq, Prod.mk.injEq] at h
          obtain ⟨rfl, rfl, hb⟩ := h
          cases hb
          obtain ⟨h1, h2⟩ := mixLs_row hr
          exact ⟨fun hmem => (List.mem_append.1 hmem).elim (memB_false hm) h1, h2⟩
      · cases h
    · cases h
theorem lends_lk {H : Nat → Option Obj} {b : Nat} : ∀ {bs : List Nat} {l : List (Nat × Option Obj)}, lends H bs = some l → b ∉ bs → lk b l = none
  | [], l, h, _ => by cases h; rfl
  | c :: bs, l, h, hb => by
    simp only [lends] at h
    split at h
    · rename_i y ys h1 h2
      cases h
      unfold lendOne at h1
      split at h1
      · cases h1
        rw [lk_ne _ _ (fun e => hb (by rw [e]; exact List.mem_cons_self ..))]
        exact lends_lk h2 fun hm => hb (List.mem_cons_of_mem _ hm)
      · cases h1
    · cases h
variable {x : Cx} {w : World}
theorem Mx.of_pl {D : Nat → Nat → Prop} {ob : Option Nat} {n cap : Nat} : ∀ {vs : List Value} {ls : List Leaf}, Rs (PL w D) vs ls → ls.all plainC = true → Rs (Mx w D ob n cap) vs ls
  | [], [], _, _ => trivial
  | v :: vs, l :: ls, h, hp => by
    simp only [List.all_cons, Bool.and_eq_true] at hp
    exact ⟨.inr ⟨hp.1, h.1⟩, Mx.of_pl h.2 hp.2⟩
  | [], _ :: _, h, _ => h.elim
  | _ :: _, [], h, _ => h.elim
theorem mixLs_ok {D1 : Nat → Nat → Prop} (hD : ∀ b q, x.D b q → D1 b q) {xs : List k.C} {b : Option Nat} {ob : Option Nat} {cap : Nat}
    (hob : match b with | none => xs = [] ∧ ob = none ∧ cap = 0 | some c => x.ρ c = some ob ∧ x.κ c = (xs.length, cap)) : ∀ {j : Nat} {ls ls' : List Leaf} {vs : List Value}, mixLs s k j ls = some (ls', xs, b) → Rs (RL x w) vs ls →
    (∀ c ∈ lentOf s j ls, ∀ q (ys : List q.C) lt, getH ⟨[], []⟩ s c = some (.arr q ys lt) → ∀ v, RL x w v (.own c) → PL w D1 v (.list q ys)) → Rs (Mx w D1 ob xs.length cap) vs ls'
  | 0, [], _, _, h, _, _ => by cases h
  | _ + 1, [], _, _, h, _, _ => by cases h
  | 0, l :: r, ls', vs, h, hv, hp => by
    cases vs with
    | nil => exact hv.elim
    | cons v vs =>
      simp only [mixLs] at h
      split at h
      · rename_i r' hr
        have hrest : Rs (Mx w D1 ob xs.length cap) vs r' := Mx.of_pl (Rs.fixed hD hv.2 hr hp) (fixLs_plainC hr)
        split at h
        · cases h
          obtain ⟨_, rfl, rfl⟩ := hob
          have := hv.1.nils
          subst this
          exact ⟨.inl ⟨rfl, rfl⟩, hrest⟩
        · rename_i c
          cases hm : memB c (ownsL r) with
          | true => rw [hm] at h; cases h
          | false =>
            rw [hm] at h
            simp only [cond_false] at h
            split at h
            · split at h
              · cases h
                obtain ⟨h1, h2⟩ := hob
                obtain ⟨ob', g1, g2⟩ := hv.1.own
                rw [h1] at g1; cases g1
                rw [h2] at g2
                exact ⟨.inl ⟨rfl, g2⟩, hrest⟩
              · cases h
            · cases h
        · cases h
      · cases h
  | j + 1, l :: r, ls', vs, h, hv, hp => by
    cases vs with
    | nil => exact hv.elim
    | cons v vs =>
      simp only [mixLs] at h
      split at h
      · rename_i l' r' ys b' hl hr
        have hl1 : fixLs (getH ⟨[], []⟩ s) [l] = some [l'] := by simp only [fixLs, hl]
        have h0 : Rs (RL x w) [v] [l] := ⟨hv.1, trivial⟩
        have h1 := Mx.of_pl (ob := ob) (n := xs.length) (cap := cap) (Rs.fixed hD h0 hl1 fun c hc => hp c (List.mem_append_left _ hc)) (fixLs_plainC hl1)
        have fin : mixLs s k j r = some (r', xs, b) → Rs (Mx w D1 ob xs.length cap) (v :: vs) (l' :: r') := fun hr => ⟨h1.1, mixLs_ok hD hob hr hv.2 fun c hc => hp c (List.mem_append_right _ hc)⟩
        split at h
        · rename_i c
          cases hm : memB c (ownsL [l]) with
          | true => rw [hm] at h; cases h
          | false =>
            rw [hm] at h
            simp only [cond_false, Option.some.injEq, Prod.mk.injEq] at h
            obtain ⟨rfl, rfl, rfl⟩ := h
            exact fin hr
        · simp only [Option.some.injEq, Prod.mk.injEq] at h
          obtain ⟨rfl, rfl, rfl⟩ := h
          exact fin hr
      · cases h
theorem evalFnM_ok {C : Cfgs R} (hC : CfgOk P C) (hF : FnsOk P C) (hA : AnnsOk P C) (hdraw : DrawOk P C) {d : Nat} {g : FuncId} {args : List AV} {kd : Kd} {j : Nat} {kk : CRes → Option R} {r : R} (h : evalFnM C d g args kd j kk = some r)
    (w : World) (D : Nat → Nat → Prop) (vs : List Value) (hD : ∀ b o, D b o → b < w.heap.size) (hvs : Rs (RA (frz D) w) vs args) : Calls P g vs.toArray w fun e w' => ∃ res, kk res = some r ∧ Ret w D res e w' := by
  have hrun := runFn_ok hC hF hA (evalD_ok hC hF hA hdraw d)
  have hx : Fresh 0 (⟨fun _ => none, fun _ => (0, 0), D⟩ : Cx) := fun _ _ => rfl
  obtain ⟨_, hc⟩ := hrun g args ⟨[], []⟩ 0 ⟨[], []⟩ _ r w.heap.size w 0 _ _ w vs (Sim.start w D hD) hx hvs h
  refine hc.mono fun e w' => ?_
  rintro ⟨v, rfl, x', nx', u, s', h1, h2, h3, h4, h5⟩
  have base : ∀ (D' : Nat → Nat → Prop) (res : CRes), (∀ b q, x'.D b q → D' b q) → (∀ b q, D' b q → b < w'.heap.size) → (∀ b q, D' b q → b < w.heap.size → x'.D b q) → Answers w w' D' v res → Ret w D res (.returned v) w' := fun D' res g1 g2 g3 g4 =>
    ⟨v, rfl, h5.below, D', fun b q h => g1 b q (h2.evo.D b q h), g2, (fun b q h hlt => by
      rcases h2.evo.dn b q hlt (g3 b q h hlt) with h | ⟨c, hc⟩
      · exact h
      · cases hc), g4⟩
  have main : ∀ (ls ls' : List Leaf) (xs : List kd.C) (b : Option Nat), mixLs s' kd j ls = some (ls', xs, b) → ∃ D1 : Nat → Nat → Prop, (∀ b q, x'.D b q → D1 b q) ∧ (∀ b q, D1 b q → b < w'.heap.size) ∧ (∀ b q, D1 b q → b < w.heap.size → x'.D b q) ∧
      ∃ ob cap, (∀ blk, ob = some blk → w.heap.size ≤ blk ∧ blk < w'.heap.size) ∧ Lies ⟨fun _ => none, fun _ => (0, 0), D1⟩ w' ob (xs.length, cap) (.arr kd xs false) ∧ ∀ us, Rs (RL x' w') us ls → Rs (Mx w' D1 ob xs.length cap) us ls' := by
    intro ls ls' xs b hm
    obtain ⟨l, hl⟩ := mixLs_lends hm
    obtain ⟨D1, e1, s1, p1, _⟩ := h5.lend _ l hl
    have d3 : ∀ b q, D1 b q → b < w.heap.size → x'.D b q := fun b q h hlt => by
      rcases e1.dn b q (Nat.lt_of_lt_of_le hlt h2.evo.sz) h with h | ⟨c, hc⟩
      · exact h
      · obtain ⟨c', hc'⟩ := h2.evo.rn c b hlt hc
        cases hc'
    refine ⟨D1, e1.D, s1.dlt, d3, ?_⟩
    cases b with
    | none =>
      have hx0 : xs = [] := by
        have key : ∀ {j : Nat} {ls ls' : List Leaf}, mixLs s' kd j ls = some (ls', xs, none) → xs = [] := by
          intro j
          induction j with
          | zero =>
            intro ls ls' h
            cases ls with
            | nil => cases h
            | cons l r =>
              simp only [mixLs] at h
              split at h
              · split at h
                · cases h; rfl
                · rename_i c
                  cases hm : memB c (ownsL r) with
                  | true => rw [hm] at h; cases h
                  | false =>
                    rw [hm] at h
                    simp only [cond_false] at h
                    split at h
                    · split at h
                      · cases h
                      · cases h
                    · cases h
                · cases h
              · cases h
          | succ j ih =>
            intro ls ls' h
            cases ls with
            | nil => cases h
            | cons l r =>
              simp only [mixLs] at h
              split at h
              · rename_i l' r' ys b' hl hr
                split at h
                · rename_i c
                  cases hm : memB c (ownsL [l]) with
                  | true => rw [hm] at h; cases h
                  | false => rw [hm] at h; cases h
                · cases h; exact ih hr
              · cases h
        exact key hm
      subst hx0
      exact ⟨none, 0, (fun _ h => by cases h), ⟨rfl, Nat.le_refl _, .inl ⟨rfl, rfl⟩⟩, fun us hus => mixLs_ok (b := none) (xs := []) (ob := none) (cap := 0) e1.D ⟨rfl, rfl, rfl⟩ hm hus p1⟩
    | some c =>
      obtain ⟨hnot, hHc⟩ := mixLs_row hm
      have hH' : updH (getH ⟨[], []⟩ s') l c = some (.arr kd xs false) := by simp only [updH, lends_lk hl hnot]; exact hHc
      obtain ⟨ob, g1, g2, g3⟩ := s1.heap c _ hH'
      have hlen : (x'.κ c).1 = xs.length := g3.1
      have hκ : x'.κ c = (xs.length, (x'.κ c).2) := by rw [← hlen]
      refine ⟨ob, (x'.κ c).2, fun blk hblk => g2 blk hblk, ?_, fun us hus => mixLs_ok (b := some c) (xs := xs) (ob := ob) (cap := (x'.κ c).2) e1.D ⟨g1, hκ⟩ hm hus p1⟩
      rw [← hκ]
      exact Lies.ctx rfl g3
  split at h1
  · rename_i ls
    obtain ⟨⟨ls', xs, b⟩, hm, h1⟩ := need_some h1
    obtain ⟨D1, d1, d2, d3, ob, cap, g1, g2, g3⟩ := main ls ls' xs b hm
    obtain ⟨us, rfl, hus⟩ := h3
    exact ⟨_, h1, base D1 _ d1 d2 d3 ⟨ob, cap, g1, g2, us, rfl, g3 us hus⟩⟩
  · rename_i ls q n
    obtain ⟨⟨ls', xs, b⟩, hm, h1⟩ := need_some h1
    obtain ⟨D1, d1, d2, d3, ob, cap, g1, g2, g3⟩ := main ls ls' xs b hm
    obtain ⟨vs', rfl, hvs'⟩ := h3
    match vs', hvs' with
    | [u1, u2], ⟨⟨us, hu1, hus⟩, hu2, _⟩ =>
      obtain ⟨l2, e2, hl2⟩ := hu2
      cases e2
      refine ⟨_, h1, base D1 _ d1 d2 d3 ⟨ob, cap, g1, g2, [u1, u2], rfl, ⟨us, hu1, g3 us hus⟩, ⟨_, rfl, .inr ⟨rfl, ?_⟩⟩, trivial⟩⟩
      rw [hl2.int]; exact .int _ _
  · cases h1
end
theorem valid_of_evalM {ρ : RT} {cs fs ds : List (FuncId × Ctr)} {fns : List (FuncId × Func)} {la : FuncId → Nat → Option (LAnn ρ.C)} (hc : CtrsOk cs) (hf : CtrsOk fs) (hd : CtrsOk ds) (hn : FnsIn fns) (hl : LoopsIn fns la) {d : Nat} {g : FuncId} {args : List AV} {y : ρ.C} {kd : Kd} {j : Nat}
    (h : evalFnM (cfg cs fs ds fns la) d g args kd j ρ.dec = some y) : Valid Tryz.prog g args (ρ.enc y) := by
  have hC : CfgOk Tryz.prog (cfg cs fs ds fns la) := cfg_ok hc hf hd
  intro w D vs hD hvs
  refine (evalFnM_ok hC hn (fun g fn c h1 h2 h3 => CodeOk.of c 0 h3 (hl g fn c h1 h2) (fun _ _ _ h => by cases h)) (drawOk_ok hC) h w D vs hD hvs).mono fun e w' => ?_
  rintro ⟨res, h1, h2⟩
  exact h2.dec h1
end Go.Proofs.YtihhgenbkiollaaGreat

/- The abstract machine, part fu: whether a row is nil, and slices.Clone. No condition. -/
namespace Go.Proofs.YtihhgenbkiollaaGreat
open Go Go.Proofs Go.RowKit
def bothL {α : Type} (x y : Option (List α)) : Option (List α) := match x, y with | some [], some [] => some [] | _, _ => none
theorem bothL_some {α : Type} {x y : Option (List α)} {r : List α} (h : bothL x y = some r) : x = some r ∧ y = some r := by
  unfold bothL at h
  split at h
  · cases h; exact ⟨rfl, rfl⟩
  · cases h
/-- a region that asks whether a row is nil: which it is may be either, where the row has no element -/
def nilRun {α : Type} (t0 t3 t4 : Nat) : Run (List α) := fun e nx s k => match getT e s t0 with
  | some (.v ⟨false, [.list q xs]⟩) => match xs with
    | [] => bothL (k .normal (nx + 2) (putDst (some t4) (some (.l (.bool true))) (putDst (some t3) (some (.l (.list q []))) s))) (k .normal (nx + 2) (putDst (some t4) (some (.l (.bool false))) (putDst (some t3) (some (.l (.list q []))) s)))
    | y :: ys => k .normal (nx + 2) (putDst (some t4) (some (.l (.bool false))) (putDst (some t3) (some (.l (.list q (y :: ys)))) s))
  | _ => none
theorem nilRun_ok {α : Type} {P : Program} {N : Nat} {t0 t3 t4 id : Nat} {ts te : TypeId} (hu : P.underlying ts = some (.slice te)) {o0 o1 : Oper} {ty : TypeId} (h0 : o0.op = .move (.tmp t0)) (hd0 : o0.dst = some t3) (hg0 : o0.guard = none)
    (h1 : o1.op = .binOp .eql ts (.tmp t3) (.const (.slice none 0 0)) ty) (hd1 : o1.dst = some t4) (hg1 : o1.guard = none) (h3 : t3 < N) (h4 : t4 < N) : RunOk P N (.region id #[o0, o1] false) (nilRun (α := α) t0 t3 t4) := by
  intro e nx s k r B w0 x a w sim hf h
  unfold nilRun at h
  split at h
  · rename_i q xs ht
    have hv := (sim.tmps t0 _ ht).leaf
    obtain ⟨ad, cap, cs, hval, hcap, hs, hr⟩ := hv.list.list_inv
    have hd0' : ∀ d, o0.dst = some d → d < N := fun d h => by rw [hd0] at h; cases h; exact h3
    have hd1' : ∀ d, o1.dst = some d → d < N := fun d h => by rw [hd1] at h; cases h; exact h4
    have key : k .normal (nx + 2) (putDst (some t4) (some (.l (.bool ad.isNone))) (putDst (some t3) (some (.l (.list q xs))) s)) = some r := by
      cases xs with
      | nil =>
        obtain ⟨g1, g2⟩ := bothL_some h
        cases ad with
        | none => exact g1
        | some _ => exact g2
      | cons y ys =>
        obtain ⟨b, o, had, _⟩ := hs 0 0 (by simp) (Kd.sz_pos q)
        rw [had]; exact h
    have hvt : RV x w (a.eval (.tmp t0)) (.l (.list q xs)) := sim.tmps t0 _ ht
    have hval0 : a.eval (.tmp t0) = .slice ad xs.length cap := hval
    have run0 : (execOp a.eval o0).run P w = .ok (.value (a.eval (.tmp t0))) w := by simp [execOp, h0]
    refine wp_of_opsDo (opsDo_cons (o := o0) rfl (by simp [Region.wanted, hg0]) (does_value (next := fun a1 w1 => a1 = a.put (some t3) (a.eval (.tmp t0)) ∧ w1 = w) run0 ⟨by rw [hd0], rfl⟩) fun a1 w1 => ?_)
    rintro ⟨rfl, rfl⟩
    have sim1 := sim.put (d := some t3) (fun d h => by cases h; exact h3) (v := a.eval (.tmp t0)) (av := some (.l (.list q xs))) (fun u hu => by cases hu; exact hvt)
    have hev : (a.put (some t3) (a.eval (.tmp t0))).eval (.tmp t3) = .slice ad xs.length cap := by
      show (a.put (some t3) (a.eval (.tmp t0))).tmps.getD t3 undef = _
      rw [Act.getD_put (fun d' h' => by cases h'; rw [sim.slots]; exact h3), if_pos rfl, hval0]
    have run1 : (execOp (a.put (some t3) (a.eval (.tmp t0))).eval o1).run P w1 = .ok (.value (.bool ad.isNone)) w1 := by
      have hc : (a.put (some t3) (a.eval (.tmp t0))).eval (.const (.slice none 0 0)) = .slice none 0 0 := rfl
      have hb := Lib.run_eql_slice_nil (P := P) w1 ts te ad xs.length cap 0 0 hu
      simp only [execOp, h1, hev, hc, eqGuard, Sem.run_bind, Sem.run_pure, Result.andThen_ok, Sem.run_ite]
      simp [hb]
    refine opsDo_cons (o := o1) rfl (by simp [Region.wanted, hg1]) (does_value (next := fun a2 w2 => a2 = (a.put (some t3) (a.eval (.tmp t0))).put (some t4) (.bool ad.isNone) ∧ w2 = w1) run1 ⟨by rw [hd1], rfl⟩) fun a2 w2 => ?_
    rintro ⟨rfl, rfl⟩
    have sim2 := sim1.put (d := some t4) (fun d h => by cases h; exact h4) (v := .bool ad.isNone) (av := some (.l (.bool ad.isNone))) (fun u hu => by cases hu; exact RL.mk (RL.of_pl (.bool _)))
    exact opsDo_nil ⟨.normal, x, nx + 2, _, rfl, key, ⟨.refl _ _, by omega, fun _ _ => rfl⟩, by rw [getT_put, getH_put, getT_put, getH_put]; exact sim2⟩
  · cases h
def handsOf (fn : Func) : List (Nat × Code) := match fn.body with | some c => handAt c 0 | none => []
def HandAll {R : Type} (N : Nat) (ra : FuncId → Nat → Option (Run R)) (g : FuncId) : List (Nat × Code) → Prop
  | [] => True
  | (b, c) :: r => (∀ run, ra g b = some run → RunOk Tryz.prog N c run) ∧ HandAll N ra g r
theorem HandAll.get {R : Type} {N : Nat} {ra : FuncId → Nat → Option (Run R)} {g : FuncId} : ∀ {ls : List (Nat × Code)}, HandAll N ra g ls → ∀ l ∈ ls, ∀ run, ra g l.1 = some run → RunOk Tryz.prog N l.2 run
  | [], _, _, h => by cases h
  | (b, c) :: r, hl, l, h => by
    cases h with
    | head => exact hl.1
    | tail _ h => exact HandAll.get hl.2 l h
theorem handIn {R : Type} {ra : FuncId → Nat → Option (Run R)} {g : FuncId} {fn : Func} (h : HandAll fn.ntmps ra g (handsOf fn)) :
    ∀ g' fn' c, lk g' [(g, fn)] = some fn' → fn'.body = some c → ∀ l ∈ handAt c 0, ∀ run, ra g' l.1 = some run → RunOk Tryz.prog fn'.ntmps l.2 run := by
  intro g' fn' c h' hb
  obtain ⟨rfl, rfl⟩ := lk_one h'
  have : handAt c 0 = handsOf fn' := by simp only [handsOf, hb]
  rw [this]; exact h.get
/-- slices.Clone, of a row that is not too long -/
def cloneF {α : Type} (xs : List α) : Option (List α) := cond (decide (0 + xs.length < 4294967296) && true) (some xs) none
end Go.Proofs.YtihhgenbkiollaaGreat
