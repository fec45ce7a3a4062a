/- LeaseParts: for every input the law returns true, and each argument reads as it read before: no condition. -/
import Derived.Test.YtleemhgnapoofaaRows
import Derived.Test.YtleemhgnapoofaaLeasePartsK
import Derived.Test.YtleemhgnapoofaaLeasePartsL
import Derived.OpenShut
import Derived.ShutString
import Derived.ChangeOld
import Derived.Below
namespace Go.Proofs.Ytleemhgnapoofaa
open Go.Vm Go.RowKit
theorem leaseParts_lifted (os : Os) (started : os.Started) (H : Type) (enc : TypeId × Value → H) :
    ReturnsInHanded {} Try.checked os 5 .any (Rows.leasePartsSpec.pre6 enc Try.prog Try.f5 Rows.leasePartsRow.domain false) (Rows.leasePartsSpec.post enc Try.prog Try.f5 false true false false) :=
  law_lifted (C := Try.checked) (φ := Go.Vm.Ytleemhgnapoofaa.LeaseParts.phi) (S := Go.Vm.Ytleemhgnapoofaa.LeaseParts.S) (by kernel_rfl) started (by kernel_rfl) Try.func5
    (ChangeSpec.witness6 (enc := enc) (C := Try.checked) false ⟨#[], #[.slice none 0 0, .int .u8 0, .int .i64 0], []⟩ 8 (by kernel_rfl) (by kernel_rfl) (by kernel_rfl) (by kernel_rfl))
    (by kernel_rfl) rfl (ts := [23, 5, 3]) rfl (rt := 4) rfl (by kernel_rfl) (fun ds h => by
      match ds, h with
      | [a0, a1, a2], _ => rfl) (by kernel_rfl) Go.Vm.Ytleemhgnapoofaa.LeaseParts.hS Go.Vm.Ytleemhgnapoofaa.LeaseParts.hphi rfl (tys := [(.list (.int .i64)), (.int .u8), (.int .i64)]) (by kernel_rfl) Go.Vm.Ytleemhgnapoofaa.LeaseParts.k_passkeylaw10_LeaseParts (y := true) rfl (fun x _ => LeaseParts_true x)
theorem leaseParts_holds : Rows.LeasePartsSaid :=
  OpenClaim.holds_of_wide 5 Try.f5 rfl rfl rfl rfl rfl rfl rfl ⟨rfl, rfl, rfl, rfl, rfl⟩ rfl rfl rfl rfl rfl (by kernel_rfl) Try.func5 (by kernel_rfl)
    (of_decide_eq_true (by kernel_rfl)) (by unfold Func.isWrapper; first | (rw [if_pos (by decide +kernel)]; kernel_rfl) | (rw [if_neg (by decide +kernel)]; exact ⟨rfl, rfl⟩))
    (fun os started H enc _ => leaseParts_lifted os started H enc)
end Go.Proofs.Ytleemhgnapoofaa
#print axioms Go.Proofs.Ytleemhgnapoofaa.leaseParts_holds
