/- AuthdataDecodes: for every input the law returns true, and each argument reads as it read before: no condition. -/
import Derived.Test.YtengonaonfdlkaaRows
import Derived.Test.YtengonaonfdlkaaAuthdataDecodesK
import Derived.Test.YtengonaonfdlkaaAuthdataDecodesL
import Derived.OpenShut
import Derived.ShutString
import Derived.ChangeOld
import Derived.Below
namespace Go.Proofs.Ytengonaonfdlkaa
open Go.Vm Go.RowKit
theorem authdataDecodes_lifted (os : Os) (started : os.Started) (H : Type) (enc : TypeId × Value → H) :
    ReturnsInHanded {} Try.checked os 5 .any (Rows.authdataDecodesSpec.pre6 enc Try.prog Try.f5 Rows.authdataDecodesRow.domain false) (Rows.authdataDecodesSpec.post enc Try.prog Try.f5 false true false false) :=
  law_lifted (C := Try.checked) (φ := Go.Vm.Ytengonaonfdlkaa.AuthdataDecodes.phi) (S := Go.Vm.Ytengonaonfdlkaa.AuthdataDecodes.S) (by kernel_rfl) started (by kernel_rfl) Try.func5
    (ChangeSpec.witness6 (enc := enc) (C := Try.checked) false ⟨#[], #[.slice none 0 0, .int .i64 0, .int .i64 0, .int .u8 0], []⟩ 8 (by kernel_rfl) (by kernel_rfl) (by kernel_rfl) (by kernel_rfl))
    (by kernel_rfl) rfl (ts := [23, 3, 3, 5]) rfl (rt := 4) rfl (by kernel_rfl) (fun ds h => by
      match ds, h with
      | [a0, a1, a2, a3], _ => rfl) (by kernel_rfl) Go.Vm.Ytengonaonfdlkaa.AuthdataDecodes.hS Go.Vm.Ytengonaonfdlkaa.AuthdataDecodes.hphi rfl (tys := [(.list (.int .u8)), (.int .i64), (.int .i64), (.int .u8)]) (by kernel_rfl) Go.Vm.Ytengonaonfdlkaa.AuthdataDecodes.k_passkeylaw14_AuthdataDecodes (y := true) rfl (fun x hx => AuthdataDecodes_true x hx)
theorem authdataDecodes_holds : Rows.AuthdataDecodesSaid :=
  OpenClaim.holds_of_wide 5 Try.f5 rfl rfl rfl rfl rfl rfl rfl ⟨rfl, rfl, rfl, rfl, rfl⟩ rfl rfl rfl rfl rfl (by kernel_rfl) Try.func5 (by kernel_rfl)
    (of_decide_eq_true (by kernel_rfl)) (by unfold Func.isWrapper; first | (rw [if_pos (by decide +kernel)]; kernel_rfl) | (rw [if_neg (by decide +kernel)]; exact ⟨rfl, rfl⟩))
    (fun os started H enc _ => authdataDecodes_lifted os started H enc)
end Go.Proofs.Ytengonaonfdlkaa
#print axioms Go.Proofs.Ytengonaonfdlkaa.authdataDecodes_holds
