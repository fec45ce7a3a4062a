/- SessionMany: for every input the law returns true, and each argument reads as it read before: no condition. -/
import Derived.Test.YtippilcegapjfaaRows
import Derived.Test.YtippilcegapjfaaSessionManyK
import Derived.Test.YtippilcegapjfaaSessionManyL
import Derived.OpenShut
import Derived.ShutString
import Derived.ChangeOld
import Derived.Below
namespace Go.Proofs.Ytippilcegapjfaa
open Go.Vm Go.RowKit
theorem sessionMany_lifted (os : Os) (started : os.Started) (H : Type) (enc : TypeId × Value → H) :
    ReturnsInHanded {} Try.checked os 4 .any (Rows.sessionManySpec.pre6 enc Try.prog Try.f4 Rows.sessionManyRow.domain false) (Rows.sessionManySpec.post enc Try.prog Try.f4 false true false false) :=
  law_lifted (C := Try.checked) (φ := Go.Vm.Ytippilcegapjfaa.SessionMany.phi) (S := Go.Vm.Ytippilcegapjfaa.SessionMany.S) (by kernel_rfl) started (by kernel_rfl) Try.func4
    (ChangeSpec.witness6 (enc := enc) (C := Try.checked) false ⟨#[], #[.int .u64 0, .int .u8 0], []⟩ 8 (by kernel_rfl) (by kernel_rfl) (by kernel_rfl) (by kernel_rfl))
    (by kernel_rfl) rfl (ts := [22, 5]) rfl (rt := 4) rfl (by kernel_rfl) (fun ds h => by
      match ds, h with
      | [a0, a1], _ => rfl) (by kernel_rfl) Go.Vm.Ytippilcegapjfaa.SessionMany.hS Go.Vm.Ytippilcegapjfaa.SessionMany.hphi rfl (tys := [(.int .u64), (.int .u8)]) (by kernel_rfl) Go.Vm.Ytippilcegapjfaa.SessionMany.k_passkeylaw34_SessionMany (y := true) rfl (fun x hx => Goods2 x hx)
theorem sessionMany_holds : Rows.SessionManySaid :=
  OpenClaim.holds_of_wide 4 Try.f4 rfl rfl rfl rfl rfl rfl rfl ⟨rfl, rfl, rfl, rfl, rfl⟩ rfl rfl rfl rfl rfl (by kernel_rfl) Try.func4 (by kernel_rfl)
    (of_decide_eq_true (by kernel_rfl)) (by unfold Func.isWrapper; first | (rw [if_pos (by decide +kernel)]; kernel_rfl) | (rw [if_neg (by decide +kernel)]; exact ⟨rfl, rfl⟩))
    (fun os started H enc _ => sessionMany_lifted os started H enc)
end Go.Proofs.Ytippilcegapjfaa
#print axioms Go.Proofs.Ytippilcegapjfaa.sessionMany_holds
