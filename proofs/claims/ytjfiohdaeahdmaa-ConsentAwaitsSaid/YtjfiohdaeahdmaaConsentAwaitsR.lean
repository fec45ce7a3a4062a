/- ConsentAwaits: for every input the law returns true, and each argument reads as it read before: no condition. -/
import Derived.Test.YtjfiohdaeahdmaaRows
import Derived.Test.YtjfiohdaeahdmaaConsentAwaitsK
import Derived.Test.YtjfiohdaeahdmaaConsentAwaitsL
import Derived.OpenShut
import Derived.ShutString
import Derived.ChangeOld
import Derived.Below
namespace Go.Proofs.Ytjfiohdaeahdmaa
open Go.Vm Go.RowKit
theorem consentAwaits_lifted (os : Os) (started : os.Started) (H : Type) (enc : TypeId × Value → H) :
    ReturnsInHanded {} Try.checked os 3 .any (Rows.consentAwaitsSpec.pre6 enc Try.prog Try.f3 Rows.consentAwaitsRow.domain false) (Rows.consentAwaitsSpec.post enc Try.prog Try.f3 false true false false) :=
  law_lifted (C := Try.checked) (φ := Go.Vm.Ytjfiohdaeahdmaa.ConsentAwaits.phi) (S := Go.Vm.Ytjfiohdaeahdmaa.ConsentAwaits.S) (by kernel_rfl) started (by kernel_rfl) Try.func3
    (ChangeSpec.witness6 (enc := enc) (C := Try.checked) false ⟨#[], #[.int .i64 0, .bool false, .bool false, .slice none 0 0, .slice none 0 0, .int .u16 0], []⟩ 8 (by kernel_rfl) (by kernel_rfl) (by kernel_rfl) (by kernel_rfl))
    (by kernel_rfl) rfl (ts := [3, 4, 4, 22, 23, 24]) rfl (rt := 4) rfl (by kernel_rfl) (fun ds h => by
      match ds, h with
      | [a0, a1, a2, a3, a4, a5], _ => rfl) (by kernel_rfl) Go.Vm.Ytjfiohdaeahdmaa.ConsentAwaits.hS Go.Vm.Ytjfiohdaeahdmaa.ConsentAwaits.hphi rfl (tys := [(.int .i64), .bool, .bool, (.list (.st (.pair (.int .i64) (.int .i64)))), (.list (.int .u16)), (.int .u16)]) (by kernel_rfl) Go.Vm.Ytjfiohdaeahdmaa.ConsentAwaits.k_passkeylaw13_ConsentAwaits (y := true) rfl (fun x hx => ConsentAwaits_true x hx)
theorem consentAwaits_holds : Rows.ConsentAwaitsSaid :=
  OpenClaim.holds_of_wide 3 Try.f3 rfl rfl rfl rfl rfl rfl rfl ⟨rfl, rfl, rfl, rfl, rfl⟩ rfl rfl rfl rfl rfl (by kernel_rfl) Try.func3 (by kernel_rfl)
    (of_decide_eq_true (by kernel_rfl)) (by unfold Func.isWrapper; first | (rw [if_pos (by decide +kernel)]; kernel_rfl) | (rw [if_neg (by decide +kernel)]; exact ⟨rfl, rfl⟩))
    (fun os started H enc _ => consentAwaits_lifted os started H enc)
end Go.Proofs.Ytjfiohdaeahdmaa
#print axioms Go.Proofs.Ytjfiohdaeahdmaa.consentAwaits_holds
