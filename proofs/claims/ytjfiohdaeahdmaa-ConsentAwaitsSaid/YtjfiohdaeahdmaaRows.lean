/-
  No cell of these rows narrows 'for every input' (looked for: loops, veiled, ifaces, maps, wideKeys, modest, calm, conditions, laid).
  DERIVED. THE GIVEN ROWS OF THIS SEAT. 4 by the template 'for every input the law returns true; each argument reads behind the call as it read before'; 0 by the template 'total and deterministic' (their statements: YtjfiohdaeahdmaaTotals.lean).
  GIVEN WITH THE SEED: the statements are not yours to turn. If you find one false, say at which input.
  Laid BY PROGRAM, IN A SANDBOX (cutbox-rows.mjs): the forced cells as the released guide's own fill.sh prints them over the translation 9d7f7e41fc89fb75… (all of the seat's roots in one cut). By AI agents, Wed Nov 11 2026. No macro, syntax, notation, axiom, sorry.
-/
import Derived.Test.YtjfiohdaeahdmaaChecked
import GoSem.Claim
import GoSem.ClaimJoined
import GoSem.ClaimMapViews
import Derived.JoinedTies
import Derived.KernelRfl
namespace Go.Proofs.Ytjfiohdaeahdmaa
/- THE CELL 'sum', in the pinned program and in every row, IS THE sha256 OF THE DUMP (.gsa) THAT YtjfiohdaeahdmaaProg.lean LOADS. Nothing in Lean hashes anything: it is a label: what it is worth is what the hold of that sum in a sandbox is worth. -/
noncomputable def Try.pinned : Pinned := { name := "ytjfiohdaeahdmaa", sum := "9d7f7e41fc89fb75eedecfa207963dadf3f314004c368e39129e1cb77c09e104", checked := Try.checked }
namespace Rows
def none {H : Type} : Left H := { results := [], args := [] }

/-- 'passkeylaw13.ConsentAwaits': WHATEVER THE INPUT: true; the input reads as it did. -/
def consentAwaitsSpec : ChangeSpec := { name := "consentAwaits", fn := fun _ => fun
  | [d1, d2, d3, d4, d5, d6] => { results := [.lit (.bool true)], args := [d1, d2, d3, d4, d5, d6] }
  | _ => none }
def consentAwaitsRow : OpenClaim := { program := "ytjfiohdaeahdmaa", sum := "9d7f7e41fc89fb75eedecfa207963dadf3f314004c368e39129e1cb77c09e104", func := "passkey/passkeylaw13.ConsentAwaits", spec := "consentAwaits", unfollowed := true, recurses := true, apart := false }
def ConsentAwaitsSaid : Prop := consentAwaitsRow.holds Try.pinned (OpenSpec.ofChange consentAwaitsSpec)

/-- ITS FALSE NEIGHBOUR: 'it returns false'. Refute it at one input. -/
def consentAwaitsWrong : ChangeSpec := { name := "consentAwaits", fn := fun _ => fun
  | [d1, d2, d3, d4, d5, d6] => { results := [.lit (.bool false)], args := [d1, d2, d3, d4, d5, d6] }
  | _ => none }
def ConsentAwaitsWrongFalsely : Prop := consentAwaitsRow.holds Try.pinned (OpenSpec.ofChange consentAwaitsWrong)

/-- 'passkeylaw13.ConsentOrder': WHATEVER THE INPUT: true; the input reads as it did. -/
def consentOrderSpec : ChangeSpec := { name := "consentOrder", fn := fun _ => fun
  | [d1, d2, d3, d4] => { results := [.lit (.bool true)], args := [d1, d2, d3, d4] }
  | _ => none }
def consentOrderRow : OpenClaim := { program := "ytjfiohdaeahdmaa", sum := "9d7f7e41fc89fb75eedecfa207963dadf3f314004c368e39129e1cb77c09e104", func := "passkey/passkeylaw13.ConsentOrder", spec := "consentOrder", unfollowed := true, recurses := true, apart := false }
def ConsentOrderSaid : Prop := consentOrderRow.holds Try.pinned (OpenSpec.ofChange consentOrderSpec)

/-- ITS FALSE NEIGHBOUR: 'it returns false'. Refute it at one input. -/
def consentOrderWrong : ChangeSpec := { name := "consentOrder", fn := fun _ => fun
  | [d1, d2, d3, d4] => { results := [.lit (.bool false)], args := [d1, d2, d3, d4] }
  | _ => none }
def ConsentOrderWrongFalsely : Prop := consentOrderRow.holds Try.pinned (OpenSpec.ofChange consentOrderWrong)

/-- 'passkeylaw13.ConsentWindow': WHATEVER THE INPUT: true; the input reads as it did. -/
def consentWindowSpec : ChangeSpec := { name := "consentWindow", fn := fun _ => fun
  | [d1, d2, d3, d4, d5] => { results := [.lit (.bool true)], args := [d1, d2, d3, d4, d5] }
  | _ => none }
def consentWindowRow : OpenClaim := { program := "ytjfiohdaeahdmaa", sum := "9d7f7e41fc89fb75eedecfa207963dadf3f314004c368e39129e1cb77c09e104", func := "passkey/passkeylaw13.ConsentWindow", spec := "consentWindow", unfollowed := true, recurses := true, apart := false }
def ConsentWindowSaid : Prop := consentWindowRow.holds Try.pinned (OpenSpec.ofChange consentWindowSpec)

/-- ITS FALSE NEIGHBOUR: 'it returns false'. Refute it at one input. -/
def consentWindowWrong : ChangeSpec := { name := "consentWindow", fn := fun _ => fun
  | [d1, d2, d3, d4, d5] => { results := [.lit (.bool false)], args := [d1, d2, d3, d4, d5] }
  | _ => none }
def ConsentWindowWrongFalsely : Prop := consentWindowRow.holds Try.pinned (OpenSpec.ofChange consentWindowWrong)

/-- 'passkeylaw13.ConsentVerified': WHATEVER THE INPUT: true; the input reads as it did. -/
def consentVerifiedSpec : ChangeSpec := { name := "consentVerified", fn := fun _ => fun
  | [d1, d2, d3, d4] => { results := [.lit (.bool true)], args := [d1, d2, d3, d4] }
  | _ => none }
def consentVerifiedRow : OpenClaim := { program := "ytjfiohdaeahdmaa", sum := "9d7f7e41fc89fb75eedecfa207963dadf3f314004c368e39129e1cb77c09e104", func := "passkey/passkeylaw13.ConsentVerified", spec := "consentVerified", unfollowed := true, recurses := true, apart := false }
def ConsentVerifiedSaid : Prop := consentVerifiedRow.holds Try.pinned (OpenSpec.ofChange consentVerifiedSpec)

/-- ITS FALSE NEIGHBOUR: 'it returns false'. Refute it at one input. -/
def consentVerifiedWrong : ChangeSpec := { name := "consentVerified", fn := fun _ => fun
  | [d1, d2, d3, d4] => { results := [.lit (.bool false)], args := [d1, d2, d3, d4] }
  | _ => none }
def ConsentVerifiedWrongFalsely : Prop := consentVerifiedRow.holds Try.pinned (OpenSpec.ofChange consentVerifiedWrong)

/- THE SECOND FORM. 'bulk': how many values and letters a reading holds, each counted each time it is reached (what is shared counts as often as it is met; a slice's spare places count too). A statement '..UptoSaid' is the law's where the arguments, and the package variables that the reading takes, are together of bulk at most 1048576: NARROWER than '..Said'. Prove '..Said' where nothing that the law and all that it calls make is longer than what came in: it says more and counts as full. Else prove '..UptoSaid'. A law counts once. -/
mutual
def uptoBulk {H : Type} : DataW H → Nat
  | .lit (.string bytes) => bytes.length + 1
  | .lit _ => 1
  | .nil => 1
  | .ptr d => uptoBulk d + 1
  | .slice elems spare => uptoBulkAll elems + uptoBulkAll spare + 1
  | .agg parts => uptoBulkAll parts + 1
  | .iface _ d => uptoBulk d + 1
  | .map entries => uptoBulkEntries entries + 1
  | .held _ => 1
def uptoBulkAll {H : Type} : List (DataW H) → Nat
  | [] => 0
  | d :: r => uptoBulk d + uptoBulkAll r
def uptoBulkEntries {H : Type} : List (Lit × DataW H) → Nat
  | [] => 0
  | x :: r => uptoBulkEntry x + uptoBulkEntries r
def uptoBulkEntry {H : Type} : Lit × DataW H → Nat
  | (.string bytes, d) => bytes.length + uptoBulk d + 1
  | (_, d) => uptoBulk d + 1
 end
def uptoSmall : (H : Type) → List (DataW H) → Bool := fun _ ds => decide (uptoBulkAll ds ≤ 1048576)
def OpenSpec.upto (s : _root_.Go.ChangeSpec) : _root_.Go.OpenSpec := { _root_.Go.OpenSpec.ofChange s with cond := some uptoSmall }

/-- 'passkeylaw13.ConsentAwaits', WHERE WHAT IT READS IS OF BULK AT MOST 1048576: true; the input reads as it did. -/
def consentAwaitsUptoRow : OpenClaim := { program := "ytjfiohdaeahdmaa", sum := "9d7f7e41fc89fb75eedecfa207963dadf3f314004c368e39129e1cb77c09e104", func := "passkey/passkeylaw13.ConsentAwaits", spec := "consentAwaits", unfollowed := true, recurses := true, apart := false, narrowed := true }
def ConsentAwaitsUptoSaid : Prop := consentAwaitsUptoRow.holds Try.pinned (OpenSpec.upto consentAwaitsSpec)

/-- 'passkeylaw13.ConsentOrder', WHERE WHAT IT READS IS OF BULK AT MOST 1048576: true; the input reads as it did. -/
def consentOrderUptoRow : OpenClaim := { program := "ytjfiohdaeahdmaa", sum := "9d7f7e41fc89fb75eedecfa207963dadf3f314004c368e39129e1cb77c09e104", func := "passkey/passkeylaw13.ConsentOrder", spec := "consentOrder", unfollowed := true, recurses := true, apart := false, narrowed := true }
def ConsentOrderUptoSaid : Prop := consentOrderUptoRow.holds Try.pinned (OpenSpec.upto consentOrderSpec)

/-- 'passkeylaw13.ConsentWindow', WHERE WHAT IT READS IS OF BULK AT MOST 1048576: true; the input reads as it did. -/
def consentWindowUptoRow : OpenClaim := { program := "ytjfiohdaeahdmaa", sum := "9d7f7e41fc89fb75eedecfa207963dadf3f314004c368e39129e1cb77c09e104", func := "passkey/passkeylaw13.ConsentWindow", spec := "consentWindow", unfollowed := true, recurses := true, apart := false, narrowed := true }
def ConsentWindowUptoSaid : Prop := consentWindowUptoRow.holds Try.pinned (OpenSpec.upto consentWindowSpec)

/-- 'passkeylaw13.ConsentVerified', WHERE WHAT IT READS IS OF BULK AT MOST 1048576: true; the input reads as it did. -/
def consentVerifiedUptoRow : OpenClaim := { program := "ytjfiohdaeahdmaa", sum := "9d7f7e41fc89fb75eedecfa207963dadf3f314004c368e39129e1cb77c09e104", func := "passkey/passkeylaw13.ConsentVerified", spec := "consentVerified", unfollowed := true, recurses := true, apart := false, narrowed := true }
def ConsentVerifiedUptoSaid : Prop := consentVerifiedUptoRow.holds Try.pinned (OpenSpec.upto consentVerifiedSpec)

end Rows
end Go.Proofs.Ytjfiohdaeahdmaa
