/- AuthdataValidates: for every input the law returns true, and each argument reads as it read before: no condition. -/
import Derived.Test.YtengonaonfdlkaaRows
import Derived.Test.YtengonaonfdlkaaAuthdataValidatesK
import Derived.Test.YtengonaonfdlkaaAuthdataValidatesL
import Derived.OpenShut
import Derived.ShutString
import Derived.ChangeOld
import Derived.Below
namespace Go.Proofs.Ytengonaonfdlkaa
open Go.Vm Go.RowKit
theorem authdataValidates_lifted (os : Os) (started : os.Started) (H : Type) (enc : TypeId × Value → H) :
    ReturnsInHanded {} Try.checked os 3 .any (Rows.authdataValidatesSpec.pre6 enc Try.prog Try.f3 Rows.authdataValidatesRow.domain false) (Rows.authdataValidatesSpec.post enc Try.prog Try.f3 false true false false) :=
  law_lifted (C := Try.checked) (φ := Go.Vm.Ytengonaonfdlkaa.AuthdataValidates.phi) (S := Go.Vm.Ytengonaonfdlkaa.AuthdataValidates.S) (by kernel_rfl) started (by kernel_rfl) Try.func3
    (ChangeSpec.witness6 (enc := enc) (C := Try.checked) false ⟨#[], #[.agg #[.int .u64 0, .int .i64 0, .int .i64 0, .int .i64 0, .int .u64 0, .slice none 0 0, .int .i64 0, .int .u64 0], .int .i64 0, .int .u64 0], []⟩ 8 (by kernel_rfl) (by kernel_rfl) (by kernel_rfl) (by kernel_rfl))
    (by kernel_rfl) rfl (ts := [27, 3, 22]) rfl (rt := 4) rfl (by kernel_rfl) (fun ds h => by
      match ds, h with
      | [a0, a1, a2], _ => rfl) (by kernel_rfl) Go.Vm.Ytengonaonfdlkaa.AuthdataValidates.hS Go.Vm.Ytengonaonfdlkaa.AuthdataValidates.hphi rfl (tys := [(.st (.pair (.int .u64) (.pair (.int .i64) (.pair (.int .i64) (.pair (.int .i64) (.pair (.int .u64) (.pair (.list (.int .u8)) (.st (.pair (.int .i64) (.int .u64)))))))))), (.int .i64), (.int .u64)]) (by kernel_rfl) Go.Vm.Ytengonaonfdlkaa.AuthdataValidates.k_passkeylaw14_AuthdataValidates (y := true) rfl (fun x _ => AuthdataValidates_true x)
theorem authdataValidates_holds : Rows.AuthdataValidatesSaid :=
  OpenClaim.holds_of_wide 3 Try.f3 rfl rfl rfl rfl rfl rfl rfl ⟨rfl, rfl, rfl, rfl, rfl⟩ rfl rfl rfl rfl rfl (by kernel_rfl) Try.func3 (by kernel_rfl)
    (of_decide_eq_true (by kernel_rfl)) (by unfold Func.isWrapper; first | (rw [if_pos (by decide +kernel)]; kernel_rfl) | (rw [if_neg (by decide +kernel)]; exact ⟨rfl, rfl⟩))
    (fun os started H enc _ => authdataValidates_lifted os started H enc)
end Go.Proofs.Ytengonaonfdlkaa
#print axioms Go.Proofs.Ytengonaonfdlkaa.authdataValidates_holds
