/-
  No cell of these rows narrows 'for every input' (looked for: loops, veiled, ifaces, maps, wideKeys, modest, calm, conditions, laid).
  DERIVED. THE GIVEN ROWS OF THIS SEAT. 3 by the template 'for every input the law returns true; each argument reads behind the call as it read before'; 0 by the template 'total and deterministic' (their statements: YtippilcegapjfaaTotals.lean).
  GIVEN WITH THE SEED: the statements are not yours to turn. If you find one false, say at which input.
  Laid BY PROGRAM, IN A SANDBOX (cutbox-rows.mjs): the forced cells as the released guide's own fill.sh prints them over the translation 057232b85010c05c… (all of the seat's roots in one cut). By AI agents, Wed Nov 11 2026. No macro, syntax, notation, axiom, sorry.
-/
import Derived.Test.YtippilcegapjfaaChecked
import GoSem.Claim
import GoSem.ClaimJoined
import GoSem.ClaimMapViews
import Derived.JoinedTies
import Derived.KernelRfl
namespace Go.Proofs.Ytippilcegapjfaa
/- THE CELL 'sum', in the pinned program and in every row, IS THE sha256 OF THE DUMP (.gsa) THAT YtippilcegapjfaaProg.lean LOADS. Nothing in Lean hashes anything: it is a label: what it is worth is what the hold of that sum in a sandbox is worth. -/
noncomputable def Try.pinned : Pinned := { name := "ytippilcegapjfaa", sum := "057232b85010c05c8fcd539a5d159072bd99e51980a1e54d264df944187e9875", checked := Try.checked }
namespace Rows
def none {H : Type} : Left H := { results := [], args := [] }

/-- 'passkeylaw34.SessionBytes': WHATEVER THE INPUT: true; the input reads as it did. -/
def sessionBytesSpec : ChangeSpec := { name := "sessionBytes", fn := fun _ => fun
  | [d1, d2] => { results := [.lit (.bool true)], args := [d1, d2] }
  | _ => none }
def sessionBytesRow : OpenClaim := { program := "ytippilcegapjfaa", sum := "057232b85010c05c8fcd539a5d159072bd99e51980a1e54d264df944187e9875", func := "passkey/passkeylaw34.SessionBytes", spec := "sessionBytes", unfollowed := true, recurses := true, apart := false }
def SessionBytesSaid : Prop := sessionBytesRow.holds Try.pinned (OpenSpec.ofChange sessionBytesSpec)

/-- ITS FALSE NEIGHBOUR: 'it returns false'. Refute it at one input. -/
def sessionBytesWrong : ChangeSpec := { name := "sessionBytes", fn := fun _ => fun
  | [d1, d2] => { results := [.lit (.bool false)], args := [d1, d2] }
  | _ => none }
def SessionBytesWrongFalsely : Prop := sessionBytesRow.holds Try.pinned (OpenSpec.ofChange sessionBytesWrong)

/-- 'passkeylaw34.SessionMany': WHATEVER THE INPUT: true; the input reads as it did. -/
def sessionManySpec : ChangeSpec := { name := "sessionMany", fn := fun _ => fun
  | [d1, d2] => { results := [.lit (.bool true)], args := [d1, d2] }
  | _ => none }
def sessionManyRow : OpenClaim := { program := "ytippilcegapjfaa", sum := "057232b85010c05c8fcd539a5d159072bd99e51980a1e54d264df944187e9875", func := "passkey/passkeylaw34.SessionMany", spec := "sessionMany", unfollowed := true, recurses := true, apart := false }
def SessionManySaid : Prop := sessionManyRow.holds Try.pinned (OpenSpec.ofChange sessionManySpec)

/-- ITS FALSE NEIGHBOUR: 'it returns false'. Refute it at one input. -/
def sessionManyWrong : ChangeSpec := { name := "sessionMany", fn := fun _ => fun
  | [d1, d2] => { results := [.lit (.bool false)], args := [d1, d2] }
  | _ => none }
def SessionManyWrongFalsely : Prop := sessionManyRow.holds Try.pinned (OpenSpec.ofChange sessionManyWrong)

/-- 'passkeylaw34.SessionGone': WHATEVER THE INPUT: true; the input reads as it did. -/
def sessionGoneSpec : ChangeSpec := { name := "sessionGone", fn := fun _ => fun
  | [d1, d2, d3, d4] => { results := [.lit (.bool true)], args := [d1, d2, d3, d4] }
  | _ => none }
def sessionGoneRow : OpenClaim := { program := "ytippilcegapjfaa", sum := "057232b85010c05c8fcd539a5d159072bd99e51980a1e54d264df944187e9875", func := "passkey/passkeylaw34.SessionGone", spec := "sessionGone", unfollowed := true, recurses := true, apart := false }
def SessionGoneSaid : Prop := sessionGoneRow.holds Try.pinned (OpenSpec.ofChange sessionGoneSpec)

/-- ITS FALSE NEIGHBOUR: 'it returns false'. Refute it at one input. -/
def sessionGoneWrong : ChangeSpec := { name := "sessionGone", fn := fun _ => fun
  | [d1, d2, d3, d4] => { results := [.lit (.bool false)], args := [d1, d2, d3, d4] }
  | _ => none }
def SessionGoneWrongFalsely : Prop := sessionGoneRow.holds Try.pinned (OpenSpec.ofChange sessionGoneWrong)

/- THE SECOND FORM. 'bulk': how many values and letters a reading holds, each counted each time it is reached (what is shared counts as often as it is met; a slice's spare places count too). A statement '..UptoSaid' is the law's where the arguments, and the package variables that the reading takes, are together of bulk at most 1048576: NARROWER than '..Said'. Prove '..Said' where nothing that the law and all that it calls make is longer than what came in: it says more and counts as full. Else prove '..UptoSaid'. A law counts once. -/
mutual
def uptoBulk {H : Type} : DataW H → Nat
  | .lit (.string bytes) => bytes.length + 1
  | .lit _ => 1
  | .nil => 1
  | .ptr d => uptoBulk d + 1
  | .slice elems spare => uptoBulkAll elems + uptoBulkAll spare + 1
  | .agg parts => uptoBulkAll parts + 1
  | .iface _ d => uptoBulk d + 1
  | .map entries => uptoBulkEntries entries + 1
  | .held _ => 1
def uptoBulkAll {H : Type} : List (DataW H) → Nat
  | [] => 0
  | d :: r => uptoBulk d + uptoBulkAll r
def uptoBulkEntries {H : Type} : List (Lit × DataW H) → Nat
  | [] => 0
  | x :: r => uptoBulkEntry x + uptoBulkEntries r
def uptoBulkEntry {H : Type} : Lit × DataW H → Nat
  | (.string bytes, d) => bytes.length + uptoBulk d + 1
  | (_, d) => uptoBulk d + 1
 end
def uptoSmall : (H : Type) → List (DataW H) → Bool := fun _ ds => decide (uptoBulkAll ds ≤ 1048576)
def OpenSpec.upto (s : _root_.Go.ChangeSpec) : _root_.Go.OpenSpec := { _root_.Go.OpenSpec.ofChange s with cond := some uptoSmall }

/-- 'passkeylaw34.SessionBytes', WHERE WHAT IT READS IS OF BULK AT MOST 1048576: true; the input reads as it did. -/
def sessionBytesUptoRow : OpenClaim := { program := "ytippilcegapjfaa", sum := "057232b85010c05c8fcd539a5d159072bd99e51980a1e54d264df944187e9875", func := "passkey/passkeylaw34.SessionBytes", spec := "sessionBytes", unfollowed := true, recurses := true, apart := false, narrowed := true }
def SessionBytesUptoSaid : Prop := sessionBytesUptoRow.holds Try.pinned (OpenSpec.upto sessionBytesSpec)

/-- 'passkeylaw34.SessionMany', WHERE WHAT IT READS IS OF BULK AT MOST 1048576: true; the input reads as it did. -/
def sessionManyUptoRow : OpenClaim := { program := "ytippilcegapjfaa", sum := "057232b85010c05c8fcd539a5d159072bd99e51980a1e54d264df944187e9875", func := "passkey/passkeylaw34.SessionMany", spec := "sessionMany", unfollowed := true, recurses := true, apart := false, narrowed := true }
def SessionManyUptoSaid : Prop := sessionManyUptoRow.holds Try.pinned (OpenSpec.upto sessionManySpec)

/-- 'passkeylaw34.SessionGone', WHERE WHAT IT READS IS OF BULK AT MOST 1048576: true; the input reads as it did. -/
def sessionGoneUptoRow : OpenClaim := { program := "ytippilcegapjfaa", sum := "057232b85010c05c8fcd539a5d159072bd99e51980a1e54d264df944187e9875", func := "passkey/passkeylaw34.SessionGone", spec := "sessionGone", unfollowed := true, recurses := true, apart := false, narrowed := true }
def SessionGoneUptoSaid : Prop := sessionGoneUptoRow.holds Try.pinned (OpenSpec.upto sessionGoneSpec)

end Rows
end Go.Proofs.Ytippilcegapjfaa
