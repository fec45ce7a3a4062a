/- SessionBytes: for every input the law returns true, and each argument reads as it read before: no condition. -/
import Derived.Test.YtippilcegapjfaaRows
import Derived.Test.YtippilcegapjfaaSessionBytesK
import Derived.Test.YtippilcegapjfaaSessionBytesL
import Derived.OpenShut
import Derived.ShutString
import Derived.ChangeOld
import Derived.Below
namespace Go.Proofs.Ytippilcegapjfaa
open Go.Vm Go.RowKit
theorem sessionBytes_lifted (os : Os) (started : os.Started) (H : Type) (enc : TypeId × Value → H) :
    ReturnsInHanded {} Try.checked os 3 .any (Rows.sessionBytesSpec.pre6 enc Try.prog Try.f3 Rows.sessionBytesRow.domain false) (Rows.sessionBytesSpec.post enc Try.prog Try.f3 false true false false) :=
  law_lifted (C := Try.checked) (φ := Go.Vm.Ytippilcegapjfaa.SessionBytes.phi) (S := Go.Vm.Ytippilcegapjfaa.SessionBytes.S) (by kernel_rfl) started (by kernel_rfl) Try.func3
    (ChangeSpec.witness6 (enc := enc) (C := Try.checked) false ⟨#[], #[.agg #[.int .u64 0, .int .i64 0, .slice none 0 0], .agg #[.int .i64 0, .string ByteArray.empty, .slice none 0 0, .int .u64 0, .int .i64 0, .int .i64 0]], []⟩ 8 (by kernel_rfl) (by kernel_rfl) (by kernel_rfl) (by kernel_rfl))
    (by kernel_rfl) rfl (ts := [25, 28]) rfl (rt := 4) rfl (by kernel_rfl) (fun ds h => by
      match ds, h with
      | [a0, a1], _ => rfl) (by kernel_rfl) Go.Vm.Ytippilcegapjfaa.SessionBytes.hS Go.Vm.Ytippilcegapjfaa.SessionBytes.hphi rfl (tys := [(.st (.pair (.int .u64) (.pair (.int .i64) (.list (.st (.pair (.int .i64) (.pair .str (.pair (.list (.int .u8)) (.pair (.int .u64) (.pair (.int .i64) (.int .i64))))))))))), (.st (.pair (.int .i64) (.pair .str (.pair (.list (.int .u8)) (.pair (.int .u64) (.pair (.int .i64) (.int .i64)))))))]) (by kernel_rfl) Go.Vm.Ytippilcegapjfaa.SessionBytes.k_passkeylaw34_SessionBytes (y := true) rfl (fun x _ => SessionBytes_true x)
theorem sessionBytes_holds : Rows.SessionBytesSaid :=
  OpenClaim.holds_of_wide 3 Try.f3 rfl rfl rfl rfl rfl rfl rfl ⟨rfl, rfl, rfl, rfl, rfl⟩ rfl rfl rfl rfl rfl (by kernel_rfl) Try.func3 (by kernel_rfl)
    (of_decide_eq_true (by kernel_rfl)) (by unfold Func.isWrapper; first | (rw [if_pos (by decide +kernel)]; kernel_rfl) | (rw [if_neg (by decide +kernel)]; exact ⟨rfl, rfl⟩))
    (fun os started H enc _ => sessionBytes_lifted os started H enc)
end Go.Proofs.Ytippilcegapjfaa
#print axioms Go.Proofs.Ytippilcegapjfaa.sessionBytes_holds
