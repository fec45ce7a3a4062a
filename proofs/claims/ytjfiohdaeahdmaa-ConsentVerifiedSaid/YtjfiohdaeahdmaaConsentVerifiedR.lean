/- ConsentVerified: for every input the law returns true, and each argument reads as it read before: no condition. -/
import Derived.Test.YtjfiohdaeahdmaaRows
import Derived.Test.YtjfiohdaeahdmaaConsentVerifiedK
import Derived.Test.YtjfiohdaeahdmaaConsentVerifiedL
import Derived.OpenShut
import Derived.ShutString
import Derived.ChangeOld
import Derived.Below
namespace Go.Proofs.Ytjfiohdaeahdmaa
open Go.Vm Go.RowKit
theorem consentVerified_lifted (os : Os) (started : os.Started) (H : Type) (enc : TypeId × Value → H) :
    ReturnsInHanded {} Try.checked os 6 .any (Rows.consentVerifiedSpec.pre6 enc Try.prog Try.f6 Rows.consentVerifiedRow.domain false) (Rows.consentVerifiedSpec.post enc Try.prog Try.f6 false true false false) :=
  law_lifted (C := Try.checked) (φ := Go.Vm.Ytjfiohdaeahdmaa.ConsentVerified.phi) (S := Go.Vm.Ytjfiohdaeahdmaa.ConsentVerified.S) (by kernel_rfl) started (by kernel_rfl) Try.func6
    (ChangeSpec.witness6 (enc := enc) (C := Try.checked) false ⟨#[], #[.int .u16 0, .bool false, .bool false, .slice none 0 0], []⟩ 8 (by kernel_rfl) (by kernel_rfl) (by kernel_rfl) (by kernel_rfl))
    (by kernel_rfl) rfl (ts := [24, 4, 4, 23]) rfl (rt := 4) rfl (by kernel_rfl) (fun ds h => by
      match ds, h with
      | [a0, a1, a2, a3], _ => rfl) (by kernel_rfl) Go.Vm.Ytjfiohdaeahdmaa.ConsentVerified.hS Go.Vm.Ytjfiohdaeahdmaa.ConsentVerified.hphi rfl (tys := [(.int .u16), .bool, .bool, (.list (.int .u16))]) (by kernel_rfl) Go.Vm.Ytjfiohdaeahdmaa.ConsentVerified.k_passkeylaw13_ConsentVerified (y := true) rfl (fun x hx => ConsentVerified_true x hx)
theorem consentVerified_holds : Rows.ConsentVerifiedSaid :=
  OpenClaim.holds_of_wide 6 Try.f6 rfl rfl rfl rfl rfl rfl rfl ⟨rfl, rfl, rfl, rfl, rfl⟩ rfl rfl rfl rfl rfl (by kernel_rfl) Try.func6 (by kernel_rfl)
    (of_decide_eq_true (by kernel_rfl)) (by unfold Func.isWrapper; first | (rw [if_pos (by decide +kernel)]; kernel_rfl) | (rw [if_neg (by decide +kernel)]; exact ⟨rfl, rfl⟩))
    (fun os started H enc _ => consentVerified_lifted os started H enc)
end Go.Proofs.Ytjfiohdaeahdmaa
#print axioms Go.Proofs.Ytjfiohdaeahdmaa.consentVerified_holds
