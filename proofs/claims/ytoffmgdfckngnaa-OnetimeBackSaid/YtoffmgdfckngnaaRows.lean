/-
  No cell of these rows narrows 'for every input' (looked for: loops, veiled, ifaces, maps, wideKeys, modest, calm, conditions, laid).
  DERIVED. THE GIVEN ROWS OF THIS SEAT. 7 by the template 'for every input the law returns true; each argument reads behind the call as it read before'; 0 by the template 'total and deterministic' (their statements: YtoffmgdfckngnaaTotals.lean).
  GIVEN WITH THE SEED: the statements are not yours to turn. If you find one false, say at which input.
  Laid BY PROGRAM, IN A SANDBOX (cutbox-rows.mjs): the forced cells as the released guide's own fill.sh prints them over the translation 502c9fb8189a1e45… (all of the seat's roots in one cut). By AI agents, Wed Nov 11 2026. No macro, syntax, notation, axiom, sorry.
-/
import Derived.Test.YtoffmgdfckngnaaChecked
import GoSem.Claim
import GoSem.ClaimJoined
import GoSem.ClaimMapViews
import Derived.JoinedTies
import Derived.KernelRfl
namespace Go.Proofs.Ytoffmgdfckngnaa
/- THE CELL 'sum', in the pinned program and in every row, IS THE sha256 OF THE DUMP (.gsa) THAT YtoffmgdfckngnaaProg.lean LOADS. Nothing in Lean hashes anything: it is a label: what it is worth is what the hold of that sum in a sandbox is worth. -/
noncomputable def Try.pinned : Pinned := { name := "ytoffmgdfckngnaa", sum := "502c9fb8189a1e45d885b9669ab4b963b61194c187c09963ec2e201fab01729a", checked := Try.checked }
namespace Rows
def none {H : Type} : Left H := { results := [], args := [] }

/-- 'passkeylaw3.OnetimeSplits': WHATEVER THE INPUT: true; the input reads as it did. -/
def onetimeSplitsSpec : ChangeSpec := { name := "onetimeSplits", fn := fun _ => fun
  | [d] => { results := [.lit (.bool true)], args := [d] }
  | _ => none }
def onetimeSplitsRow : OpenClaim := { program := "ytoffmgdfckngnaa", sum := "502c9fb8189a1e45d885b9669ab4b963b61194c187c09963ec2e201fab01729a", func := "passkey/passkeylaw3.OnetimeSplits", spec := "onetimeSplits", apart := false }
def OnetimeSplitsSaid : Prop := onetimeSplitsRow.holds Try.pinned (OpenSpec.ofChange onetimeSplitsSpec)

/-- ITS FALSE NEIGHBOUR: 'it returns false'. Refute it at one input. -/
def onetimeSplitsWrong : ChangeSpec := { name := "onetimeSplits", fn := fun _ => fun
  | [d] => { results := [.lit (.bool false)], args := [d] }
  | _ => none }
def OnetimeSplitsWrongFalsely : Prop := onetimeSplitsRow.holds Try.pinned (OpenSpec.ofChange onetimeSplitsWrong)

/-- 'passkeylaw3.OnetimeIncomparable': WHATEVER THE INPUT: true; the input reads as it did. -/
def onetimeIncomparableSpec : ChangeSpec := { name := "onetimeIncomparable", fn := fun _ => fun
  | [d1, d2, d3] => { results := [.lit (.bool true)], args := [d1, d2, d3] }
  | _ => none }
def onetimeIncomparableRow : OpenClaim := { program := "ytoffmgdfckngnaa", sum := "502c9fb8189a1e45d885b9669ab4b963b61194c187c09963ec2e201fab01729a", func := "passkey/passkeylaw3.OnetimeIncomparable", spec := "onetimeIncomparable", apart := false }
def OnetimeIncomparableSaid : Prop := onetimeIncomparableRow.holds Try.pinned (OpenSpec.ofChange onetimeIncomparableSpec)

/-- ITS FALSE NEIGHBOUR: 'it returns false'. Refute it at one input. -/
def onetimeIncomparableWrong : ChangeSpec := { name := "onetimeIncomparable", fn := fun _ => fun
  | [d1, d2, d3] => { results := [.lit (.bool false)], args := [d1, d2, d3] }
  | _ => none }
def OnetimeIncomparableWrongFalsely : Prop := onetimeIncomparableRow.holds Try.pinned (OpenSpec.ofChange onetimeIncomparableWrong)

/-- 'passkeylaw3.OnetimeRuns': WHATEVER THE INPUT: true; the input reads as it did. -/
def onetimeRunsSpec : ChangeSpec := { name := "onetimeRuns", fn := fun _ => fun
  | [d1, d2, d3, d4, d5] => { results := [.lit (.bool true)], args := [d1, d2, d3, d4, d5] }
  | _ => none }
def onetimeRunsRow : OpenClaim := { program := "ytoffmgdfckngnaa", sum := "502c9fb8189a1e45d885b9669ab4b963b61194c187c09963ec2e201fab01729a", func := "passkey/passkeylaw3.OnetimeRuns", spec := "onetimeRuns", apart := false }
def OnetimeRunsSaid : Prop := onetimeRunsRow.holds Try.pinned (OpenSpec.ofChange onetimeRunsSpec)

/-- ITS FALSE NEIGHBOUR: 'it returns false'. Refute it at one input. -/
def onetimeRunsWrong : ChangeSpec := { name := "onetimeRuns", fn := fun _ => fun
  | [d1, d2, d3, d4, d5] => { results := [.lit (.bool false)], args := [d1, d2, d3, d4, d5] }
  | _ => none }
def OnetimeRunsWrongFalsely : Prop := onetimeRunsRow.holds Try.pinned (OpenSpec.ofChange onetimeRunsWrong)

/-- 'passkeylaw3.OnetimeForward': WHATEVER THE INPUT: true; the input reads as it did. -/
def onetimeForwardSpec : ChangeSpec := { name := "onetimeForward", fn := fun _ => fun
  | [d1, d2, d3, d4, d5, d6] => { results := [.lit (.bool true)], args := [d1, d2, d3, d4, d5, d6] }
  | _ => none }
def onetimeForwardRow : OpenClaim := { program := "ytoffmgdfckngnaa", sum := "502c9fb8189a1e45d885b9669ab4b963b61194c187c09963ec2e201fab01729a", func := "passkey/passkeylaw3.OnetimeForward", spec := "onetimeForward", apart := false }
def OnetimeForwardSaid : Prop := onetimeForwardRow.holds Try.pinned (OpenSpec.ofChange onetimeForwardSpec)

/-- ITS FALSE NEIGHBOUR: 'it returns false'. Refute it at one input. -/
def onetimeForwardWrong : ChangeSpec := { name := "onetimeForward", fn := fun _ => fun
  | [d1, d2, d3, d4, d5, d6] => { results := [.lit (.bool false)], args := [d1, d2, d3, d4, d5, d6] }
  | _ => none }
def OnetimeForwardWrongFalsely : Prop := onetimeForwardRow.holds Try.pinned (OpenSpec.ofChange onetimeForwardWrong)

/-- 'passkeylaw3.OnetimeKeys': WHATEVER THE INPUT: true; the input reads as it did. -/
def onetimeKeysSpec : ChangeSpec := { name := "onetimeKeys", fn := fun _ => fun
  | [d1, d2, d3] => { results := [.lit (.bool true)], args := [d1, d2, d3] }
  | _ => none }
def onetimeKeysRow : OpenClaim := { program := "ytoffmgdfckngnaa", sum := "502c9fb8189a1e45d885b9669ab4b963b61194c187c09963ec2e201fab01729a", func := "passkey/passkeylaw3.OnetimeKeys", spec := "onetimeKeys", apart := false }
def OnetimeKeysSaid : Prop := onetimeKeysRow.holds Try.pinned (OpenSpec.ofChange onetimeKeysSpec)

/-- ITS FALSE NEIGHBOUR: 'it returns false'. Refute it at one input. -/
def onetimeKeysWrong : ChangeSpec := { name := "onetimeKeys", fn := fun _ => fun
  | [d1, d2, d3] => { results := [.lit (.bool false)], args := [d1, d2, d3] }
  | _ => none }
def OnetimeKeysWrongFalsely : Prop := onetimeKeysRow.holds Try.pinned (OpenSpec.ofChange onetimeKeysWrong)

/-- 'passkeylaw3.OnetimeSigns': WHATEVER THE INPUT: true; the input reads as it did. -/
def onetimeSignsSpec : ChangeSpec := { name := "onetimeSigns", fn := fun _ => fun
  | [d1, d2, d3, d4, d5] => { results := [.lit (.bool true)], args := [d1, d2, d3, d4, d5] }
  | _ => none }
def onetimeSignsRow : OpenClaim := { program := "ytoffmgdfckngnaa", sum := "502c9fb8189a1e45d885b9669ab4b963b61194c187c09963ec2e201fab01729a", func := "passkey/passkeylaw3.OnetimeSigns", spec := "onetimeSigns", apart := false }
def OnetimeSignsSaid : Prop := onetimeSignsRow.holds Try.pinned (OpenSpec.ofChange onetimeSignsSpec)

/-- ITS FALSE NEIGHBOUR: 'it returns false'. Refute it at one input. -/
def onetimeSignsWrong : ChangeSpec := { name := "onetimeSigns", fn := fun _ => fun
  | [d1, d2, d3, d4, d5] => { results := [.lit (.bool false)], args := [d1, d2, d3, d4, d5] }
  | _ => none }
def OnetimeSignsWrongFalsely : Prop := onetimeSignsRow.holds Try.pinned (OpenSpec.ofChange onetimeSignsWrong)

/-- 'passkeylaw3.OnetimeBack': WHATEVER THE INPUT: true; the input reads as it did. -/
def onetimeBackSpec : ChangeSpec := { name := "onetimeBack", fn := fun _ => fun
  | [d1, d2, d3] => { results := [.lit (.bool true)], args := [d1, d2, d3] }
  | _ => none }
def onetimeBackRow : OpenClaim := { program := "ytoffmgdfckngnaa", sum := "502c9fb8189a1e45d885b9669ab4b963b61194c187c09963ec2e201fab01729a", func := "passkey/passkeylaw3.OnetimeBack", spec := "onetimeBack", apart := false }
def OnetimeBackSaid : Prop := onetimeBackRow.holds Try.pinned (OpenSpec.ofChange onetimeBackSpec)

/-- ITS FALSE NEIGHBOUR: 'it returns false'. Refute it at one input. -/
def onetimeBackWrong : ChangeSpec := { name := "onetimeBack", fn := fun _ => fun
  | [d1, d2, d3] => { results := [.lit (.bool false)], args := [d1, d2, d3] }
  | _ => none }
def OnetimeBackWrongFalsely : Prop := onetimeBackRow.holds Try.pinned (OpenSpec.ofChange onetimeBackWrong)

/- THE SECOND FORM. 'bulk': how many values and letters a reading holds, each counted each time it is reached (what is shared counts as often as it is met; a slice's spare places count too). A statement '..UptoSaid' is the law's where the arguments, and the package variables that the reading takes, are together of bulk at most 1048576: NARROWER than '..Said'. Prove '..Said' where nothing that the law and all that it calls make is longer than what came in: it says more and counts as full. Else prove '..UptoSaid'. A law counts once. -/
mutual
def uptoBulk {H : Type} : DataW H → Nat
  | .lit (.string bytes) => bytes.length + 1
  | .lit _ => 1
  | .nil => 1
  | .ptr d => uptoBulk d + 1
  | .slice elems spare => uptoBulkAll elems + uptoBulkAll spare + 1
  | .agg parts => uptoBulkAll parts + 1
  | .iface _ d => uptoBulk d + 1
  | .map entries => uptoBulkEntries entries + 1
  | .held _ => 1
def uptoBulkAll {H : Type} : List (DataW H) → Nat
  | [] => 0
  | d :: r => uptoBulk d + uptoBulkAll r
def uptoBulkEntries {H : Type} : List (Lit × DataW H) → Nat
  | [] => 0
  | x :: r => uptoBulkEntry x + uptoBulkEntries r
def uptoBulkEntry {H : Type} : Lit × DataW H → Nat
  | (.string bytes, d) => bytes.length + uptoBulk d + 1
  | (_, d) => uptoBulk d + 1
 end
def uptoSmall : (H : Type) → List (DataW H) → Bool := fun _ ds => decide (uptoBulkAll ds ≤ 1048576)
def OpenSpec.upto (s : _root_.Go.ChangeSpec) : _root_.Go.OpenSpec := { _root_.Go.OpenSpec.ofChange s with cond := some uptoSmall }

/-- 'passkeylaw3.OnetimeSplits', WHERE WHAT IT READS IS OF BULK AT MOST 1048576: true; the input reads as it did. -/
def onetimeSplitsUptoRow : OpenClaim := { program := "ytoffmgdfckngnaa", sum := "502c9fb8189a1e45d885b9669ab4b963b61194c187c09963ec2e201fab01729a", func := "passkey/passkeylaw3.OnetimeSplits", spec := "onetimeSplits", apart := false, narrowed := true }
def OnetimeSplitsUptoSaid : Prop := onetimeSplitsUptoRow.holds Try.pinned (OpenSpec.upto onetimeSplitsSpec)

/-- 'passkeylaw3.OnetimeIncomparable', WHERE WHAT IT READS IS OF BULK AT MOST 1048576: true; the input reads as it did. -/
def onetimeIncomparableUptoRow : OpenClaim := { program := "ytoffmgdfckngnaa", sum := "502c9fb8189a1e45d885b9669ab4b963b61194c187c09963ec2e201fab01729a", func := "passkey/passkeylaw3.OnetimeIncomparable", spec := "onetimeIncomparable", apart := false, narrowed := true }
def OnetimeIncomparableUptoSaid : Prop := onetimeIncomparableUptoRow.holds Try.pinned (OpenSpec.upto onetimeIncomparableSpec)

/-- 'passkeylaw3.OnetimeRuns', WHERE WHAT IT READS IS OF BULK AT MOST 1048576: true; the input reads as it did. -/
def onetimeRunsUptoRow : OpenClaim := { program := "ytoffmgdfckngnaa", sum := "502c9fb8189a1e45d885b9669ab4b963b61194c187c09963ec2e201fab01729a", func := "passkey/passkeylaw3.OnetimeRuns", spec := "onetimeRuns", apart := false, narrowed := true }
def OnetimeRunsUptoSaid : Prop := onetimeRunsUptoRow.holds Try.pinned (OpenSpec.upto onetimeRunsSpec)

/-- 'passkeylaw3.OnetimeForward', WHERE WHAT IT READS IS OF BULK AT MOST 1048576: true; the input reads as it did. -/
def onetimeForwardUptoRow : OpenClaim := { program := "ytoffmgdfckngnaa", sum := "502c9fb8189a1e45d885b9669ab4b963b61194c187c09963ec2e201fab01729a", func := "passkey/passkeylaw3.OnetimeForward", spec := "onetimeForward", apart := false, narrowed := true }
def OnetimeForwardUptoSaid : Prop := onetimeForwardUptoRow.holds Try.pinned (OpenSpec.upto onetimeForwardSpec)

/-- 'passkeylaw3.OnetimeKeys', WHERE WHAT IT READS IS OF BULK AT MOST 1048576: true; the input reads as it did. -/
def onetimeKeysUptoRow : OpenClaim := { program := "ytoffmgdfckngnaa", sum := "502c9fb8189a1e45d885b9669ab4b963b61194c187c09963ec2e201fab01729a", func := "passkey/passkeylaw3.OnetimeKeys", spec := "onetimeKeys", apart := false, narrowed := true }
def OnetimeKeysUptoSaid : Prop := onetimeKeysUptoRow.holds Try.pinned (OpenSpec.upto onetimeKeysSpec)

/-- 'passkeylaw3.OnetimeSigns', WHERE WHAT IT READS IS OF BULK AT MOST 1048576: true; the input reads as it did. -/
def onetimeSignsUptoRow : OpenClaim := { program := "ytoffmgdfckngnaa", sum := "502c9fb8189a1e45d885b9669ab4b963b61194c187c09963ec2e201fab01729a", func := "passkey/passkeylaw3.OnetimeSigns", spec := "onetimeSigns", apart := false, narrowed := true }
def OnetimeSignsUptoSaid : Prop := onetimeSignsUptoRow.holds Try.pinned (OpenSpec.upto onetimeSignsSpec)

/-- 'passkeylaw3.OnetimeBack', WHERE WHAT IT READS IS OF BULK AT MOST 1048576: true; the input reads as it did. -/
def onetimeBackUptoRow : OpenClaim := { program := "ytoffmgdfckngnaa", sum := "502c9fb8189a1e45d885b9669ab4b963b61194c187c09963ec2e201fab01729a", func := "passkey/passkeylaw3.OnetimeBack", spec := "onetimeBack", apart := false, narrowed := true }
def OnetimeBackUptoSaid : Prop := onetimeBackUptoRow.holds Try.pinned (OpenSpec.upto onetimeBackSpec)

end Rows
end Go.Proofs.Ytoffmgdfckngnaa
