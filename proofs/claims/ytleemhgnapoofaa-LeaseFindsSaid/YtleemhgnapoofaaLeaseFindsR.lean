/- LeaseFinds: for every input the law returns true, and each argument reads as it read before: no condition. -/
import Derived.Test.YtleemhgnapoofaaRows
import Derived.Test.YtleemhgnapoofaaLeaseFindsK
import Derived.Test.YtleemhgnapoofaaLeaseFindsL
import Derived.OpenShut
import Derived.ShutString
import Derived.ChangeOld
import Derived.Below
namespace Go.Proofs.Ytleemhgnapoofaa
open Go.Vm Go.RowKit
theorem leaseFinds_lifted (os : Os) (started : os.Started) (H : Type) (enc : TypeId × Value → H) :
    ReturnsInHanded {} Try.checked os 3 .any (Rows.leaseFindsSpec.pre6 enc Try.prog Try.f3 Rows.leaseFindsRow.domain false) (Rows.leaseFindsSpec.post enc Try.prog Try.f3 false true false false) :=
  law_lifted (C := Try.checked) (φ := Go.Vm.Ytleemhgnapoofaa.LeaseFinds.phi) (S := Go.Vm.Ytleemhgnapoofaa.LeaseFinds.S) (by kernel_rfl) started (by kernel_rfl) Try.func3
    (ChangeSpec.witness6 (enc := enc) (C := Try.checked) false ⟨#[], #[.slice none 0 0, .slice none 0 0, .int .u64 0, .int .u8 0], []⟩ 8 (by kernel_rfl) (by kernel_rfl) (by kernel_rfl) (by kernel_rfl))
    (by kernel_rfl) rfl (ts := [22, 23, 24, 5]) rfl (rt := 4) rfl (by kernel_rfl) (fun ds h => by
      match ds, h with
      | [a0, a1, a2, a3], _ => rfl) (by kernel_rfl) Go.Vm.Ytleemhgnapoofaa.LeaseFinds.hS Go.Vm.Ytleemhgnapoofaa.LeaseFinds.hphi rfl (tys := [(.list (.st (.pair (.int .u64) (.pair (.int .i64) (.pair (.int .i64) (.int .i64)))))), (.list (.int .i64)), (.int .u64), (.int .u8)]) (by kernel_rfl) Go.Vm.Ytleemhgnapoofaa.LeaseFinds.k_passkeylaw10_LeaseFinds (y := true) rfl (fun x _ => LeaseFinds_true x)
theorem leaseFinds_holds : Rows.LeaseFindsSaid :=
  OpenClaim.holds_of_wide 3 Try.f3 rfl rfl rfl rfl rfl rfl rfl ⟨rfl, rfl, rfl, rfl, rfl⟩ rfl rfl rfl rfl rfl (by kernel_rfl) Try.func3 (by kernel_rfl)
    (of_decide_eq_true (by kernel_rfl)) (by unfold Func.isWrapper; first | (rw [if_pos (by decide +kernel)]; kernel_rfl) | (rw [if_neg (by decide +kernel)]; exact ⟨rfl, rfl⟩))
    (fun os started H enc _ => leaseFinds_lifted os started H enc)
end Go.Proofs.Ytleemhgnapoofaa
#print axioms Go.Proofs.Ytleemhgnapoofaa.leaseFinds_holds
