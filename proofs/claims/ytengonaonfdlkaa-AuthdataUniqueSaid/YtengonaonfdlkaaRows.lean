/-
  No cell of these rows narrows 'for every input' (looked for: loops, veiled, ifaces, maps, wideKeys, modest, calm, conditions, laid).
  DERIVED. THE GIVEN ROWS OF THIS SEAT. 5 by the template 'for every input the law returns true; each argument reads behind the call as it read before'; 0 by the template 'total and deterministic' (their statements: YtengonaonfdlkaaTotals.lean).
  GIVEN WITH THE SEED: the statements are not yours to turn. If you find one false, say at which input.
  Laid BY PROGRAM, IN A SANDBOX (cutbox-rows.mjs): the forced cells as the released guide's own fill.sh prints them over the translation ab3953d1421cefbb… (all of the seat's roots in one cut). By AI agents, Wed Nov 11 2026. No macro, syntax, notation, axiom, sorry.
-/
import Derived.Test.YtengonaonfdlkaaChecked
import GoSem.Claim
import GoSem.ClaimJoined
import GoSem.ClaimMapViews
import Derived.JoinedTies
import Derived.KernelRfl
namespace Go.Proofs.Ytengonaonfdlkaa
/- THE CELL 'sum', in the pinned program and in every row, IS THE sha256 OF THE DUMP (.gsa) THAT YtengonaonfdlkaaProg.lean LOADS. Nothing in Lean hashes anything: it is a label: what it is worth is what the hold of that sum in a sandbox is worth. -/
noncomputable def Try.pinned : Pinned := { name := "ytengonaonfdlkaa", sum := "ab3953d1421cefbbca429e7afaa15e926ddfe39d0271e7df9b1b8e61a9601b06", checked := Try.checked }
namespace Rows
def none {H : Type} : Left H := { results := [], args := [] }

/-- 'passkeylaw14.AuthdataValidates': WHATEVER THE INPUT: true; the input reads as it did. -/
def authdataValidatesSpec : ChangeSpec := { name := "authdataValidates", fn := fun _ => fun
  | [d1, d2, d3] => { results := [.lit (.bool true)], args := [d1, d2, d3] }
  | _ => none }
def authdataValidatesRow : OpenClaim := { program := "ytengonaonfdlkaa", sum := "ab3953d1421cefbbca429e7afaa15e926ddfe39d0271e7df9b1b8e61a9601b06", func := "passkey/passkeylaw14.AuthdataValidates", spec := "authdataValidates", apart := false }
def AuthdataValidatesSaid : Prop := authdataValidatesRow.holds Try.pinned (OpenSpec.ofChange authdataValidatesSpec)

/-- ITS FALSE NEIGHBOUR: 'it returns false'. Refute it at one input. -/
def authdataValidatesWrong : ChangeSpec := { name := "authdataValidates", fn := fun _ => fun
  | [d1, d2, d3] => { results := [.lit (.bool false)], args := [d1, d2, d3] }
  | _ => none }
def AuthdataValidatesWrongFalsely : Prop := authdataValidatesRow.holds Try.pinned (OpenSpec.ofChange authdataValidatesWrong)

/-- 'passkeylaw14.AuthdataWords': WHATEVER THE INPUT: true; the input reads as it did. -/
def authdataWordsSpec : ChangeSpec := { name := "authdataWords", fn := fun _ => fun
  | [d1, d2, d3] => { results := [.lit (.bool true)], args := [d1, d2, d3] }
  | _ => none }
def authdataWordsRow : OpenClaim := { program := "ytengonaonfdlkaa", sum := "ab3953d1421cefbbca429e7afaa15e926ddfe39d0271e7df9b1b8e61a9601b06", func := "passkey/passkeylaw14.AuthdataWords", spec := "authdataWords", apart := false }
def AuthdataWordsSaid : Prop := authdataWordsRow.holds Try.pinned (OpenSpec.ofChange authdataWordsSpec)

/-- ITS FALSE NEIGHBOUR: 'it returns false'. Refute it at one input. -/
def authdataWordsWrong : ChangeSpec := { name := "authdataWords", fn := fun _ => fun
  | [d1, d2, d3] => { results := [.lit (.bool false)], args := [d1, d2, d3] }
  | _ => none }
def AuthdataWordsWrongFalsely : Prop := authdataWordsRow.holds Try.pinned (OpenSpec.ofChange authdataWordsWrong)

/-- 'passkeylaw14.AuthdataDecodes': WHATEVER THE INPUT: true; the input reads as it did. -/
def authdataDecodesSpec : ChangeSpec := { name := "authdataDecodes", fn := fun _ => fun
  | [d1, d2, d3, d4] => { results := [.lit (.bool true)], args := [d1, d2, d3, d4] }
  | _ => none }
def authdataDecodesRow : OpenClaim := { program := "ytengonaonfdlkaa", sum := "ab3953d1421cefbbca429e7afaa15e926ddfe39d0271e7df9b1b8e61a9601b06", func := "passkey/passkeylaw14.AuthdataDecodes", spec := "authdataDecodes", apart := false }
def AuthdataDecodesSaid : Prop := authdataDecodesRow.holds Try.pinned (OpenSpec.ofChange authdataDecodesSpec)

/-- ITS FALSE NEIGHBOUR: 'it returns false'. Refute it at one input. -/
def authdataDecodesWrong : ChangeSpec := { name := "authdataDecodes", fn := fun _ => fun
  | [d1, d2, d3, d4] => { results := [.lit (.bool false)], args := [d1, d2, d3, d4] }
  | _ => none }
def AuthdataDecodesWrongFalsely : Prop := authdataDecodesRow.holds Try.pinned (OpenSpec.ofChange authdataDecodesWrong)

/-- 'passkeylaw14.AuthdataBack': WHATEVER THE INPUT: true; the input reads as it did. -/
def authdataBackSpec : ChangeSpec := { name := "authdataBack", fn := fun _ => fun
  | [d1, d2] => { results := [.lit (.bool true)], args := [d1, d2] }
  | _ => none }
def authdataBackRow : OpenClaim := { program := "ytengonaonfdlkaa", sum := "ab3953d1421cefbbca429e7afaa15e926ddfe39d0271e7df9b1b8e61a9601b06", func := "passkey/passkeylaw14.AuthdataBack", spec := "authdataBack", apart := false }
def AuthdataBackSaid : Prop := authdataBackRow.holds Try.pinned (OpenSpec.ofChange authdataBackSpec)

/-- ITS FALSE NEIGHBOUR: 'it returns false'. Refute it at one input. -/
def authdataBackWrong : ChangeSpec := { name := "authdataBack", fn := fun _ => fun
  | [d1, d2] => { results := [.lit (.bool false)], args := [d1, d2] }
  | _ => none }
def AuthdataBackWrongFalsely : Prop := authdataBackRow.holds Try.pinned (OpenSpec.ofChange authdataBackWrong)

/-- 'passkeylaw14.AuthdataUnique': WHATEVER THE INPUT: true; the input reads as it did. -/
def authdataUniqueSpec : ChangeSpec := { name := "authdataUnique", fn := fun _ => fun
  | [d1, d2, d3, d4] => { results := [.lit (.bool true)], args := [d1, d2, d3, d4] }
  | _ => none }
def authdataUniqueRow : OpenClaim := { program := "ytengonaonfdlkaa", sum := "ab3953d1421cefbbca429e7afaa15e926ddfe39d0271e7df9b1b8e61a9601b06", func := "passkey/passkeylaw14.AuthdataUnique", spec := "authdataUnique", apart := false }
def AuthdataUniqueSaid : Prop := authdataUniqueRow.holds Try.pinned (OpenSpec.ofChange authdataUniqueSpec)

/-- ITS FALSE NEIGHBOUR: 'it returns false'. Refute it at one input. -/
def authdataUniqueWrong : ChangeSpec := { name := "authdataUnique", fn := fun _ => fun
  | [d1, d2, d3, d4] => { results := [.lit (.bool false)], args := [d1, d2, d3, d4] }
  | _ => none }
def AuthdataUniqueWrongFalsely : Prop := authdataUniqueRow.holds Try.pinned (OpenSpec.ofChange authdataUniqueWrong)

/- THE SECOND FORM. 'bulk': how many values and letters a reading holds, each counted each time it is reached (what is shared counts as often as it is met; a slice's spare places count too). A statement '..UptoSaid' is the law's where the arguments, and the package variables that the reading takes, are together of bulk at most 1048576: NARROWER than '..Said'. Prove '..Said' where nothing that the law and all that it calls make is longer than what came in: it says more and counts as full. Else prove '..UptoSaid'. A law counts once. -/
mutual
def uptoBulk {H : Type} : DataW H → Nat
  | .lit (.string bytes) => bytes.length + 1
  | .lit _ => 1
  | .nil => 1
  | .ptr d => uptoBulk d + 1
  | .slice elems spare => uptoBulkAll elems + uptoBulkAll spare + 1
  | .agg parts => uptoBulkAll parts + 1
  | .iface _ d => uptoBulk d + 1
  | .map entries => uptoBulkEntries entries + 1
  | .held _ => 1
def uptoBulkAll {H : Type} : List (DataW H) → Nat
  | [] => 0
  | d :: r => uptoBulk d + uptoBulkAll r
def uptoBulkEntries {H : Type} : List (Lit × DataW H) → Nat
  | [] => 0
  | x :: r => uptoBulkEntry x + uptoBulkEntries r
def uptoBulkEntry {H : Type} : Lit × DataW H → Nat
  | (.string bytes, d) => bytes.length + uptoBulk d + 1
  | (_, d) => uptoBulk d + 1
 end
def uptoSmall : (H : Type) → List (DataW H) → Bool := fun _ ds => decide (uptoBulkAll ds ≤ 1048576)
def OpenSpec.upto (s : _root_.Go.ChangeSpec) : _root_.Go.OpenSpec := { _root_.Go.OpenSpec.ofChange s with cond := some uptoSmall }

/-- 'passkeylaw14.AuthdataValidates', WHERE WHAT IT READS IS OF BULK AT MOST 1048576: true; the input reads as it did. -/
def authdataValidatesUptoRow : OpenClaim := { program := "ytengonaonfdlkaa", sum := "ab3953d1421cefbbca429e7afaa15e926ddfe39d0271e7df9b1b8e61a9601b06", func := "passkey/passkeylaw14.AuthdataValidates", spec := "authdataValidates", apart := false, narrowed := true }
def AuthdataValidatesUptoSaid : Prop := authdataValidatesUptoRow.holds Try.pinned (OpenSpec.upto authdataValidatesSpec)

/-- 'passkeylaw14.AuthdataWords', WHERE WHAT IT READS IS OF BULK AT MOST 1048576: true; the input reads as it did. -/
def authdataWordsUptoRow : OpenClaim := { program := "ytengonaonfdlkaa", sum := "ab3953d1421cefbbca429e7afaa15e926ddfe39d0271e7df9b1b8e61a9601b06", func := "passkey/passkeylaw14.AuthdataWords", spec := "authdataWords", apart := false, narrowed := true }
def AuthdataWordsUptoSaid : Prop := authdataWordsUptoRow.holds Try.pinned (OpenSpec.upto authdataWordsSpec)

/-- 'passkeylaw14.AuthdataDecodes', WHERE WHAT IT READS IS OF BULK AT MOST 1048576: true; the input reads as it did. -/
def authdataDecodesUptoRow : OpenClaim := { program := "ytengonaonfdlkaa", sum := "ab3953d1421cefbbca429e7afaa15e926ddfe39d0271e7df9b1b8e61a9601b06", func := "passkey/passkeylaw14.AuthdataDecodes", spec := "authdataDecodes", apart := false, narrowed := true }
def AuthdataDecodesUptoSaid : Prop := authdataDecodesUptoRow.holds Try.pinned (OpenSpec.upto authdataDecodesSpec)

/-- 'passkeylaw14.AuthdataBack', WHERE WHAT IT READS IS OF BULK AT MOST 1048576: true; the input reads as it did. -/
def authdataBackUptoRow : OpenClaim := { program := "ytengonaonfdlkaa", sum := "ab3953d1421cefbbca429e7afaa15e926ddfe39d0271e7df9b1b8e61a9601b06", func := "passkey/passkeylaw14.AuthdataBack", spec := "authdataBack", apart := false, narrowed := true }
def AuthdataBackUptoSaid : Prop := authdataBackUptoRow.holds Try.pinned (OpenSpec.upto authdataBackSpec)

/-- 'passkeylaw14.AuthdataUnique', WHERE WHAT IT READS IS OF BULK AT MOST 1048576: true; the input reads as it did. -/
def authdataUniqueUptoRow : OpenClaim := { program := "ytengonaonfdlkaa", sum := "ab3953d1421cefbbca429e7afaa15e926ddfe39d0271e7df9b1b8e61a9601b06", func := "passkey/passkeylaw14.AuthdataUnique", spec := "authdataUnique", apart := false, narrowed := true }
def AuthdataUniqueUptoSaid : Prop := authdataUniqueUptoRow.holds Try.pinned (OpenSpec.upto authdataUniqueSpec)

end Rows
end Go.Proofs.Ytengonaonfdlkaa
