/- LeaseDisjoint: for every input the law returns true, and each argument reads as it read before: no condition. -/
import Derived.Test.YtleemhgnapoofaaRows
import Derived.Test.YtleemhgnapoofaaLeaseDisjointK
import Derived.Test.YtleemhgnapoofaaLeaseDisjointL
import Derived.OpenShut
import Derived.ShutString
import Derived.ChangeOld
import Derived.Below
namespace Go.Proofs.Ytleemhgnapoofaa
open Go.Vm Go.RowKit
theorem leaseDisjoint_lifted (os : Os) (started : os.Started) (H : Type) (enc : TypeId × Value → H) :
    ReturnsInHanded {} Try.checked os 6 .any (Rows.leaseDisjointSpec.pre6 enc Try.prog Try.f6 Rows.leaseDisjointRow.domain false) (Rows.leaseDisjointSpec.post enc Try.prog Try.f6 false true false false) :=
  law_lifted (C := Try.checked) (φ := Go.Vm.Ytleemhgnapoofaa.LeaseDisjoint.phi) (S := Go.Vm.Ytleemhgnapoofaa.LeaseDisjoint.S) (by kernel_rfl) started (by kernel_rfl) Try.func6
    (ChangeSpec.witness6 (enc := enc) (C := Try.checked) false ⟨#[], #[.slice none 0 0], []⟩ 8 (by kernel_rfl) (by kernel_rfl) (by kernel_rfl) (by kernel_rfl))
    (by kernel_rfl) rfl (ts := [23]) rfl (rt := 4) rfl (by kernel_rfl) (fun ds h => by
      match ds, h with
      | [a0], _ => rfl) (by kernel_rfl) Go.Vm.Ytleemhgnapoofaa.LeaseDisjoint.hS Go.Vm.Ytleemhgnapoofaa.LeaseDisjoint.hphi rfl (tys := [(.list (.int .i64))]) (by kernel_rfl) Go.Vm.Ytleemhgnapoofaa.LeaseDisjoint.k_passkeylaw10_LeaseDisjoint (y := true) rfl (fun x _ => LeaseDisjoint_true x)
theorem leaseDisjoint_holds : Rows.LeaseDisjointSaid :=
  OpenClaim.holds_of_wide 6 Try.f6 rfl rfl rfl rfl rfl rfl rfl ⟨rfl, rfl, rfl, rfl, rfl⟩ rfl rfl rfl rfl rfl (by kernel_rfl) Try.func6 (by kernel_rfl)
    (of_decide_eq_true (by kernel_rfl)) (by unfold Func.isWrapper; first | (rw [if_pos (by decide +kernel)]; kernel_rfl) | (rw [if_neg (by decide +kernel)]; exact ⟨rfl, rfl⟩))
    (fun os started H enc _ => leaseDisjoint_lifted os started H enc)
end Go.Proofs.Ytleemhgnapoofaa
#print axioms Go.Proofs.Ytleemhgnapoofaa.leaseDisjoint_holds
