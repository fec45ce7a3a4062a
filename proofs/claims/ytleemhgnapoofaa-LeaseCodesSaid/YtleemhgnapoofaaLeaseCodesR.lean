/- LeaseCodes: for every input the law returns true, and each argument reads as it read before: no condition. -/
import Derived.Test.YtleemhgnapoofaaRows
import Derived.Test.YtleemhgnapoofaaLeaseCodesK
import Derived.Test.YtleemhgnapoofaaLeaseCodesL
import Derived.OpenShut
import Derived.ShutString
import Derived.ChangeOld
import Derived.Below
namespace Go.Proofs.Ytleemhgnapoofaa
open Go.Vm Go.RowKit
theorem leaseCodes_lifted (os : Os) (started : os.Started) (H : Type) (enc : TypeId × Value → H) :
    ReturnsInHanded {} Try.checked os 8 .any (Rows.leaseCodesSpec.pre6 enc Try.prog Try.f8 Rows.leaseCodesRow.domain false) (Rows.leaseCodesSpec.post enc Try.prog Try.f8 false true false false) :=
  law_lifted (C := Try.checked) (φ := Go.Vm.Ytleemhgnapoofaa.LeaseCodes.phi) (S := Go.Vm.Ytleemhgnapoofaa.LeaseCodes.S) (by kernel_rfl) started (by kernel_rfl) Try.func8
    (ChangeSpec.witness6 (enc := enc) (C := Try.checked) false ⟨#[], #[.agg #[.int .u64 0, .int .i64 0, .int .i64 0, .int .i64 0], .slice none 0 0, .slice none 0 0], []⟩ 8 (by kernel_rfl) (by kernel_rfl) (by kernel_rfl) (by kernel_rfl))
    (by kernel_rfl) rfl (ts := [48, 23, 49]) rfl (rt := 4) rfl (by kernel_rfl) (fun ds h => by
      match ds, h with
      | [a0, a1, a2], _ => rfl) (by kernel_rfl) Go.Vm.Ytleemhgnapoofaa.LeaseCodes.hS Go.Vm.Ytleemhgnapoofaa.LeaseCodes.hphi rfl (tys := [(.st (.pair (.int .u64) (.pair (.int .i64) (.pair (.int .i64) (.int .i64))))), (.list (.int .i64)), (.list (.int .u8))]) (by kernel_rfl) Go.Vm.Ytleemhgnapoofaa.LeaseCodes.k_passkeylaw10_LeaseCodes (y := true) rfl (fun x hx => LeaseCodes_true x hx)
theorem leaseCodes_holds : Rows.LeaseCodesSaid :=
  OpenClaim.holds_of_wide 8 Try.f8 rfl rfl rfl rfl rfl rfl rfl ⟨rfl, rfl, rfl, rfl, rfl⟩ rfl rfl rfl rfl rfl (by kernel_rfl) Try.func8 (by kernel_rfl)
    (of_decide_eq_true (by kernel_rfl)) (by unfold Func.isWrapper; first | (rw [if_pos (by decide +kernel)]; kernel_rfl) | (rw [if_neg (by decide +kernel)]; exact ⟨rfl, rfl⟩))
    (fun os started H enc _ => leaseCodes_lifted os started H enc)
end Go.Proofs.Ytleemhgnapoofaa
#print axioms Go.Proofs.Ytleemhgnapoofaa.leaseCodes_holds
