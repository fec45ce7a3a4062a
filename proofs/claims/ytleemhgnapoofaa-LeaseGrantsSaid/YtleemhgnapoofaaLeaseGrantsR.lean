/- LeaseGrants: for every input the law returns true, and each argument reads as it read before: no condition. -/
import Derived.Test.YtleemhgnapoofaaRows
import Derived.Test.YtleemhgnapoofaaLeaseGrantsK
import Derived.Test.YtleemhgnapoofaaLeaseGrantsL
import Derived.OpenShut
import Derived.ShutString
import Derived.ChangeOld
import Derived.Below
namespace Go.Proofs.Ytleemhgnapoofaa
open Go.Vm Go.RowKit
theorem leaseGrants_lifted (os : Os) (started : os.Started) (H : Type) (enc : TypeId × Value → H) :
    ReturnsInHanded {} Try.checked os 4 .any (Rows.leaseGrantsSpec.pre6 enc Try.prog Try.f4 Rows.leaseGrantsRow.domain false) (Rows.leaseGrantsSpec.post enc Try.prog Try.f4 false true false false) :=
  law_lifted (C := Try.checked) (φ := Go.Vm.Ytleemhgnapoofaa.LeaseGrants.phi) (S := Go.Vm.Ytleemhgnapoofaa.LeaseGrants.S) (by kernel_rfl) started (by kernel_rfl) Try.func4
    (ChangeSpec.witness6 (enc := enc) (C := Try.checked) false ⟨#[], #[.slice none 0 0, .int .u64 0, .int .i64 0], []⟩ 8 (by kernel_rfl) (by kernel_rfl) (by kernel_rfl) (by kernel_rfl))
    (by kernel_rfl) rfl (ts := [23, 24, 3]) rfl (rt := 4) rfl (by kernel_rfl) (fun ds h => by
      match ds, h with
      | [a0, a1, a2], _ => rfl) (by kernel_rfl) Go.Vm.Ytleemhgnapoofaa.LeaseGrants.hS Go.Vm.Ytleemhgnapoofaa.LeaseGrants.hphi rfl (tys := [(.list (.int .i64)), (.int .u64), (.int .i64)]) (by kernel_rfl) Go.Vm.Ytleemhgnapoofaa.LeaseGrants.k_passkeylaw10_LeaseGrants (y := true) rfl (fun x _ => LeaseGrants_true x)
theorem leaseGrants_holds : Rows.LeaseGrantsSaid :=
  OpenClaim.holds_of_wide 4 Try.f4 rfl rfl rfl rfl rfl rfl rfl ⟨rfl, rfl, rfl, rfl, rfl⟩ rfl rfl rfl rfl rfl (by kernel_rfl) Try.func4 (by kernel_rfl)
    (of_decide_eq_true (by kernel_rfl)) (by unfold Func.isWrapper; first | (rw [if_pos (by decide +kernel)]; kernel_rfl) | (rw [if_neg (by decide +kernel)]; exact ⟨rfl, rfl⟩))
    (fun os started H enc _ => leaseGrants_lifted os started H enc)
end Go.Proofs.Ytleemhgnapoofaa
#print axioms Go.Proofs.Ytleemhgnapoofaa.leaseGrants_holds
