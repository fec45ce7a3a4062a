/- AuthdataWords: for every input the law returns true, and each argument reads as it read before: no condition. -/
import Derived.Test.YtengonaonfdlkaaRows
import Derived.Test.YtengonaonfdlkaaAuthdataWordsK
import Derived.Test.YtengonaonfdlkaaAuthdataWordsL
import Derived.OpenShut
import Derived.ShutString
import Derived.ChangeOld
import Derived.Below
namespace Go.Proofs.Ytengonaonfdlkaa
open Go.Vm Go.RowKit
theorem authdataWords_lifted (os : Os) (started : os.Started) (H : Type) (enc : TypeId × Value → H) :
    ReturnsInHanded {} Try.checked os 4 .any (Rows.authdataWordsSpec.pre6 enc Try.prog Try.f4 Rows.authdataWordsRow.domain false) (Rows.authdataWordsSpec.post enc Try.prog Try.f4 false true false false) :=
  law_lifted (C := Try.checked) (φ := Go.Vm.Ytengonaonfdlkaa.AuthdataWords.phi) (S := Go.Vm.Ytengonaonfdlkaa.AuthdataWords.S) (by kernel_rfl) started (by kernel_rfl) Try.func4
    (ChangeSpec.witness6 (enc := enc) (C := Try.checked) false ⟨#[], #[.string ByteArray.empty, .slice none 0 0, .int .u64 0], []⟩ 8 (by kernel_rfl) (by kernel_rfl) (by kernel_rfl) (by kernel_rfl))
    (by kernel_rfl) rfl (ts := [9, 23, 22]) rfl (rt := 4) rfl (by kernel_rfl) (fun ds h => by
      match ds, h with
      | [a0, a1, a2], _ => rfl) (by kernel_rfl) Go.Vm.Ytengonaonfdlkaa.AuthdataWords.hS Go.Vm.Ytengonaonfdlkaa.AuthdataWords.hphi rfl (tys := [.str, (.list (.int .u8)), (.int .u64)]) (by kernel_rfl) Go.Vm.Ytengonaonfdlkaa.AuthdataWords.k_passkeylaw14_AuthdataWords (y := true) rfl (fun x hx => AuthdataWords_true x hx)
theorem authdataWords_holds : Rows.AuthdataWordsSaid :=
  OpenClaim.holds_of_wide 4 Try.f4 rfl rfl rfl rfl rfl rfl rfl ⟨rfl, rfl, rfl, rfl, rfl⟩ rfl rfl rfl rfl rfl (by kernel_rfl) Try.func4 (by kernel_rfl)
    (of_decide_eq_true (by kernel_rfl)) (by unfold Func.isWrapper; first | (rw [if_pos (by decide +kernel)]; kernel_rfl) | (rw [if_neg (by decide +kernel)]; exact ⟨rfl, rfl⟩))
    (fun os started H enc _ => authdataWords_lifted os started H enc)
end Go.Proofs.Ytengonaonfdlkaa
#print axioms Go.Proofs.Ytengonaonfdlkaa.authdataWords_holds
