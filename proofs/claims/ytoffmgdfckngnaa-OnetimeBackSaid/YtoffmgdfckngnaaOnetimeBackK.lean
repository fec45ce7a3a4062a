/- The functions of the seat Ytoffmgdfckngnaa: what they compute. PRINTED by a program of this session's. -/
import Derived.Test.YtoffmgdfckngnaaProg
import Derived.KernelRfl
import Derived.Test.YtoffmgdfckngnaaOnetimeBackP
namespace Go.Vm.Ytoffmgdfckngnaa.OnetimeBack
open Go.Proofs
noncomputable def phi : Phi := mkPhi [26, 11, 28, 39, 42, 40, 38, 36, 27, 15, 13, 31, 17, 34, 33, 19, 21, 23, 9]
noncomputable def own : Nat → List Nat := fun g => (([] : List (Nat × List Nat)).lookup g).getD []
noncomputable def X (rh : List Nat) : Cx := { P := Try.prog, φ := phi, own := own, h := { rehome := rh } }
noncomputable def F26 : RFunc := (funcP (X []) Try.f26).getD default
theorem c26 : funcP (X []) Try.f26 = some F26 := some_getD (by kernel_rfl)
noncomputable def F11 : RFunc := (funcP (X []) Try.f11).getD default
theorem c11 : funcP (X []) Try.f11 = some F11 := some_getD (by kernel_rfl)
noncomputable def F28 : RFunc := (funcP (X []) Try.f28).getD default
theorem c28 : funcP (X []) Try.f28 = some F28 := some_getD (by kernel_rfl)
noncomputable def F39 : RFunc := (funcP (X []) Try.f39).getD default
theorem c39 : funcP (X []) Try.f39 = some F39 := some_getD (by kernel_rfl)
noncomputable def F42 : RFunc := (funcP (X []) Try.f42).getD default
theorem c42 : funcP (X []) Try.f42 = some F42 := some_getD (by kernel_rfl)
noncomputable def F40 : RFunc := (funcP (X []) Try.f40).getD default
theorem c40 : funcP (X []) Try.f40 = some F40 := some_getD (by kernel_rfl)
noncomputable def F38 : RFunc := (funcP (X []) Try.f38).getD default
theorem c38 : funcP (X []) Try.f38 = some F38 := some_getD (by kernel_rfl)
noncomputable def F36 : RFunc := (funcP (X []) Try.f36).getD default
theorem c36 : funcP (X []) Try.f36 = some F36 := some_getD (by kernel_rfl)
noncomputable def F27 : RFunc := (funcP (X []) Try.f27).getD default
theorem c27 : funcP (X []) Try.f27 = some F27 := some_getD (by kernel_rfl)
noncomputable def F15 : RFunc := (funcP (X []) Try.f15).getD default
theorem c15 : funcP (X []) Try.f15 = some F15 := some_getD (by kernel_rfl)
noncomputable def F13 : RFunc := (funcP (X []) Try.f13).getD default
theorem c13 : funcP (X []) Try.f13 = some F13 := some_getD (by kernel_rfl)
noncomputable def F31 : RFunc := (funcP (X []) Try.f31).getD default
theorem c31 : funcP (X []) Try.f31 = some F31 := some_getD (by kernel_rfl)
noncomputable def F17 : RFunc := (funcP (X []) Try.f17).getD default
theorem c17 : funcP (X []) Try.f17 = some F17 := some_getD (by kernel_rfl)
noncomputable def F34 : RFunc := (funcP (X []) Try.f34).getD default
theorem c34 : funcP (X []) Try.f34 = some F34 := some_getD (by kernel_rfl)
noncomputable def F33 : RFunc := (funcP (X []) Try.f33).getD default
theorem c33 : funcP (X []) Try.f33 = some F33 := some_getD (by kernel_rfl)
noncomputable def F19 : RFunc := (funcP (X []) Try.f19).getD default
theorem c19 : funcP (X []) Try.f19 = some F19 := some_getD (by kernel_rfl)
noncomputable def F21 : RFunc := (funcP (X []) Try.f21).getD default
theorem c21 : funcP (X []) Try.f21 = some F21 := some_getD (by kernel_rfl)
noncomputable def F23 : RFunc := (funcP (X []) Try.f23).getD default
theorem c23 : funcP (X []) Try.f23 = some F23 := some_getD (by kernel_rfl)
noncomputable def F9 : RFunc := (funcP (X []) Try.f9).getD default
theorem c9 : funcP (X []) Try.f9 = some F9 := some_getD (by kernel_rfl)
theorem hphi : PhiOK Try.prog phi := phi_ok (by kernel_rfl)
noncomputable def prims : List (Nat × (List AV → Option Res)) := []
theorem hprims : PrimsOK Try.prog phi prims := .nil
noncomputable def S : Sys := mkS [(26, F26), (11, F11), (28, F28), (39, F39), (42, F42), (40, F40), (38, F38), (36, F36), (27, F27), (15, F15), (13, F13), (31, F31), (17, F17), (34, F34), (33, F33), (19, F19), (21, F21), (23, F23), (9, F9)] prims
theorem hS : SysOK Try.prog phi S := sys_ok (.cons Try.func26 rfl rfl c26 (.cons Try.func11 rfl rfl c11 (.cons Try.func28 rfl rfl c28 (.cons Try.func39 rfl rfl c39 (.cons Try.func42 rfl rfl c42 (.cons Try.func40 rfl rfl c40 (.cons Try.func38 rfl rfl c38 (.cons Try.func36 rfl rfl c36 (.cons Try.func27 rfl rfl c27 (.cons Try.func15 rfl rfl c15 (.cons Try.func13 rfl rfl c13 (.cons Try.func31 rfl rfl c31 (.cons Try.func17 rfl rfl c17 (.cons Try.func34 rfl rfl c34 (.cons Try.func33 rfl rfl c33 (.cons Try.func19 rfl rfl c19 (.cons Try.func21 rfl rfl c21 (.cons Try.func23 rfl rfl c23 (.cons Try.func9 rfl rfl c9 .nil))))))))))))))))))) hprims
noncomputable def sig_onetime_split : Sig := ⟨[.val (.int .u64)], [(.agg, [.v (.arr 18 (.int .i64))])]⟩
noncomputable def fns_onetime_split : List (Nat × FnT) := []
noncomputable def anns_onetime_split : List (Nat × Ann) := [(1000008, ⟨0, 31, [(2, .c (.vref 128 0)), (3, .c (.v (.int .i64)))], [(128, [128], .var true [(.v (.arr 18 (.int .i64)))] false false)]⟩), (8, ⟨0, 31, [(0, .c (.v (.int .u64))), (2, .c (.vref 128 0)), (3, .c (.v (.int .i64))), (5, .c (.v (.int .i64)))], [(128, [128], .var true [(.v (.arr 18 (.int .i64)))] false false)]⟩)]
noncomputable def tys_onetime_split : List (Nat × Ty) := [(16, (.int .i64)), (19, (.int .i64)), (28, (.int .i64)), (29, (.int .i64))]
theorem d_onetime_split (x : pd sig_onetime_split.apt) : (runT (mkE fns_onetime_split anns_onetime_split tys_onetime_split) F26 sig_onetime_split x).den = sh_onetime_split x := by kernel_rfl
theorem k_onetime_split : FnOK S.lim 26 ⟨sig_onetime_split, sh_onetime_split⟩ := fn_ok' (fns := fns_onetime_split) (anns := anns_onetime_split) (tys := tys_onetime_split) .nil rfl rfl d_onetime_split
noncomputable def sig_onetime_Split : Sig := ⟨[.val (.int .u64)], [(.one, [.own (.int .i64)])]⟩
noncomputable def fns_onetime_Split : List (Nat × FnT) := [(26, ⟨sig_onetime_split, sh_onetime_split⟩)]
noncomputable def anns_onetime_Split : List (Nat × Ann) := []
noncomputable def tys_onetime_Split : List (Nat × Ty) := [(6, (.int .i64))]
theorem d_onetime_Split (x : pd sig_onetime_Split.apt) : (runT (mkE fns_onetime_Split anns_onetime_Split tys_onetime_Split) F11 sig_onetime_Split x).den = sh_onetime_Split x := by kernel_rfl
theorem k_onetime_Split : FnOK S.lim 11 ⟨sig_onetime_Split, sh_onetime_Split⟩ := fn_ok' (fns := fns_onetime_Split) (anns := anns_onetime_Split) (tys := tys_onetime_Split) (.cons k_onetime_split .nil) rfl rfl d_onetime_Split
noncomputable def sig_digest_Words : Sig := ⟨[.val (.list (.int .u64))], [(.one, [.own (.int .u8)])]⟩
noncomputable def fns_digest_Words : List (Nat × FnT) := []
noncomputable def anns_digest_Words : List (Nat × Ann) := [(1000008, ⟨0, 28, [(3, .c (.own 1000004 true))], [(1000004, [1536], .sl (.int .u8) false false)]⟩), (8, ⟨0, 28, [(3, .c (.own 1000003 true)), (7, .c (.lst (.int .u64) [])), (8, .c (.v (.int .i64))), (9, .c (.v (.int .i64)))], [(1000003, [1536], .sl (.int .u8) false false)]⟩), (1000022, ⟨2, 28, [(3, .c (.own 1000002 true)), (7, .c (.lst (.int .u64) [])), (8, .c (.v (.int .i64))), (9, .c (.v (.int .i64)))], [(1000002, [1536], .sl (.int .u8) false false)]⟩), (22, ⟨0, 28, [(3, .c (.own 1000001 true)), (5, .c (.v (.int .u64))), (7, .c (.lst (.int .u64) [])), (8, .c (.v (.int .i64))), (9, .c (.v (.int .i64))), (13, .c (.v (.int .i64)))], [(1000001, [1536], .sl (.int .u8) false false)]⟩)]
noncomputable def tys_digest_Words : List (Nat × Ty) := [(23, (.int .u8)), (24, (.int .u8))]
theorem d_digest_Words (x : pd sig_digest_Words.apt) : (runT (mkE fns_digest_Words anns_digest_Words tys_digest_Words) F28 sig_digest_Words x).den = sh_digest_Words x := by kernel_rfl
theorem k_digest_Words : FnOK S.lim 28 ⟨sig_digest_Words, sh_digest_Words⟩ := fn_ok' (fns := fns_digest_Words) (anns := anns_digest_Words) (tys := tys_digest_Words) .nil rfl rfl d_digest_Words
noncomputable def sig_digest_little : Sig := ⟨[.val (.list (.int .u8))], [(.one, [.v (.int .u64)])]⟩
noncomputable def fns_digest_little : List (Nat × FnT) := []
noncomputable def anns_digest_little : List (Nat × Ann) := [(1000008, ⟨0, 22, [(3, .c (.v (.int .u64)))], []⟩), (8, ⟨0, 22, [(3, .c (.v (.int .u64))), (6, .c (.lst (.int .u8) [])), (7, .c (.v (.int .i64))), (8, .c (.v (.int .i64)))], []⟩)]
noncomputable def tys_digest_little : List (Nat × Ty) := []
theorem d_digest_little (x : pd sig_digest_little.apt) : (runT (mkE fns_digest_little anns_digest_little tys_digest_little) F39 sig_digest_little x).den = sh_digest_little x := by kernel_rfl
theorem k_digest_little : FnOK S.lim 39 ⟨sig_digest_little, sh_digest_little⟩ := fn_ok' (fns := fns_digest_little) (anns := anns_digest_little) (tys := tys_digest_little) .nil rfl rfl d_digest_little
noncomputable def sig_math_bits_RotateLeft64 : Sig := ⟨[.val (.int .u64), .val (.int .i64)], [(.one, [.v (.int .u64)])]⟩
noncomputable def fns_math_bits_RotateLeft64 : List (Nat × FnT) := []
noncomputable def anns_math_bits_RotateLeft64 : List (Nat × Ann) := []
noncomputable def tys_math_bits_RotateLeft64 : List (Nat × Ty) := []
theorem d_math_bits_RotateLeft64 (x : pd sig_math_bits_RotateLeft64.apt) : (runT (mkE fns_math_bits_RotateLeft64 anns_math_bits_RotateLeft64 tys_math_bits_RotateLeft64) F42 sig_math_bits_RotateLeft64 x).den = sh_math_bits_RotateLeft64 x := by kernel_rfl
theorem k_math_bits_RotateLeft64 : FnOK S.lim 42 ⟨sig_math_bits_RotateLeft64, sh_math_bits_RotateLeft64⟩ := fn_ok' (fns := fns_math_bits_RotateLeft64) (anns := anns_math_bits_RotateLeft64) (tys := tys_math_bits_RotateLeft64) .nil rfl rfl d_math_bits_RotateLeft64
noncomputable def sig___passkey_digest_state__round : Sig := ⟨[.io [.v (.int .u64), .v (.int .u64), .v (.int .u64), .v (.int .u64)] [.v (.int .u64), .v (.int .u64), .v (.int .u64), .v (.int .u64)], .val (.int .i64)], []⟩
noncomputable def fns___passkey_digest_state__round : List (Nat × FnT) := [(42, ⟨sig_math_bits_RotateLeft64, sh_math_bits_RotateLeft64⟩)]
noncomputable def anns___passkey_digest_state__round : List (Nat × Ann) := [(1000003, ⟨0, 120, [], [(0, [0], .var true [(.v (.int .u64)), (.v (.int .u64)), (.v (.int .u64)), (.v (.int .u64))] false true)]⟩), (3, ⟨0, 120, [(0, .c (.vref 0 0)), (4, .c (.v (.int .i64))), (5, .c (.v (.int .i64)))], [(0, [0], .var true [(.v (.int .u64)), (.v (.int .u64)), (.v (.int .u64)), (.v (.int .u64))] false true)]⟩)]
noncomputable def tys___passkey_digest_state__round : List (Nat × Ty) := []
theorem d___passkey_digest_state__round (x : pd sig___passkey_digest_state__round.apt) : (runT (mkE fns___passkey_digest_state__round anns___passkey_digest_state__round tys___passkey_digest_state__round) F40 sig___passkey_digest_state__round x).den = sh___passkey_digest_state__round x := by kernel_rfl
theorem k___passkey_digest_state__round : FnOK S.lim 40 ⟨sig___passkey_digest_state__round, sh___passkey_digest_state__round⟩ := fn_ok' (fns := fns___passkey_digest_state__round) (anns := anns___passkey_digest_state__round) (tys := tys___passkey_digest_state__round) (.cons k_math_bits_RotateLeft64 .nil) rfl rfl d___passkey_digest_state__round
noncomputable def sig___passkey_digest_state__word : Sig := ⟨[.io [.v (.int .u64), .v (.int .u64), .v (.int .u64), .v (.int .u64)] [.v (.int .u64), .v (.int .u64), .v (.int .u64), .v (.int .u64)], .val (.int .u64)], []⟩
noncomputable def fns___passkey_digest_state__word : List (Nat × FnT) := [(40, ⟨sig___passkey_digest_state__round, sh___passkey_digest_state__round⟩)]
noncomputable def anns___passkey_digest_state__word : List (Nat × Ann) := []
noncomputable def tys___passkey_digest_state__word : List (Nat × Ty) := []
theorem d___passkey_digest_state__word (x : pd sig___passkey_digest_state__word.apt) : (runT (mkE fns___passkey_digest_state__word anns___passkey_digest_state__word tys___passkey_digest_state__word) F38 sig___passkey_digest_state__word x).den = sh___passkey_digest_state__word x := by kernel_rfl
theorem k___passkey_digest_state__word : FnOK S.lim 38 ⟨sig___passkey_digest_state__word, sh___passkey_digest_state__word⟩ := fn_ok' (fns := fns___passkey_digest_state__word) (anns := anns___passkey_digest_state__word) (tys := tys___passkey_digest_state__word) (.cons k___passkey_digest_state__round .nil) rfl rfl d___passkey_digest_state__word
noncomputable def sig_digest_Sum : Sig := ⟨[.val (.int .u64), .val (.int .u64), .val (.list (.int .u8))], [(.one, [.v (.int .u64)])]⟩
noncomputable def fns_digest_Sum : List (Nat × FnT) := [(39, ⟨sig_digest_little, sh_digest_little⟩), (40, ⟨sig___passkey_digest_state__round, sh___passkey_digest_state__round⟩), (38, ⟨sig___passkey_digest_state__word, sh___passkey_digest_state__word⟩)]
noncomputable def anns_digest_Sum : List (Nat × Ann) := [(1000008, ⟨0, 67, [(2, .c (.lst (.int .u8) [])), (7, .c (.vref 1152 0)), (8, .c (.v (.int .u64)))], [(1152, [1152], .var true [(.v (.int .u64)), (.v (.int .u64)), (.v (.int .u64)), (.v (.int .u64))] false false)]⟩), (8, ⟨0, 67, [(2, .c (.lst (.int .u8) [])), (7, .c (.vref 1152 0)), (8, .c (.v (.int .u64)))], [(1152, [1152], .var true [(.v (.int .u64)), (.v (.int .u64)), (.v (.int .u64)), (.v (.int .u64))] false false)]⟩)]
noncomputable def tys_digest_Sum : List (Nat × Ty) := []
theorem d_digest_Sum (x : pd sig_digest_Sum.apt) : (runT (mkE fns_digest_Sum anns_digest_Sum tys_digest_Sum) F36 sig_digest_Sum x).den = sh_digest_Sum x := by kernel_rfl
theorem k_digest_Sum : FnOK S.lim 36 ⟨sig_digest_Sum, sh_digest_Sum⟩ := fn_ok' (fns := fns_digest_Sum) (anns := anns_digest_Sum) (tys := tys_digest_Sum) (.cons k_digest_little (.cons k___passkey_digest_state__round (.cons k___passkey_digest_state__word .nil))) rfl rfl d_digest_Sum
noncomputable def sig_digest_Hash : Sig := ⟨[.val (.int .i64), .val (.list (.int .u8))], [(.one, [.v (.int .u64)])]⟩
noncomputable def fns_digest_Hash : List (Nat × FnT) := [(36, ⟨sig_digest_Sum, sh_digest_Sum⟩)]
noncomputable def anns_digest_Hash : List (Nat × Ann) := []
noncomputable def tys_digest_Hash : List (Nat × Ty) := []
theorem d_digest_Hash (x : pd sig_digest_Hash.apt) : (runT (mkE fns_digest_Hash anns_digest_Hash tys_digest_Hash) F27 sig_digest_Hash x).den = sh_digest_Hash x := by kernel_rfl
theorem k_digest_Hash : FnOK S.lim 27 ⟨sig_digest_Hash, sh_digest_Hash⟩ := fn_ok' (fns := fns_digest_Hash) (anns := anns_digest_Hash) (tys := tys_digest_Hash) (.cons k_digest_Sum .nil) rfl rfl d_digest_Hash
noncomputable def sig_onetime_Run : Sig := ⟨[.val (.int .i64), .val (.int .i64), .val (.int .i64), .val (.int .i64), .val (.int .u64)], [(.one, [.v (.int .u64)])]⟩
noncomputable def fns_onetime_Run : List (Nat × FnT) := [(28, ⟨sig_digest_Words, sh_digest_Words⟩), (27, ⟨sig_digest_Hash, sh_digest_Hash⟩)]
noncomputable def anns_onetime_Run : List (Nat × Ann) := [(1000006, ⟨0, 31, [(4, .c (.v (.int .u64)))], []⟩), (6, ⟨0, 31, [(0, .c (.v (.int .i64))), (1, .c (.v (.int .i64))), (3, .c (.v (.int .i64))), (4, .c (.v (.int .u64))), (11, .c (.v (.int .i64)))], []⟩)]
noncomputable def tys_onetime_Run : List (Nat × Ty) := [(27, (.int .u64))]
theorem d_onetime_Run (x : pd sig_onetime_Run.apt) : (runT (mkE fns_onetime_Run anns_onetime_Run tys_onetime_Run) F15 sig_onetime_Run x).den = sh_onetime_Run x := by kernel_rfl
theorem k_onetime_Run : FnOK S.lim 15 ⟨sig_onetime_Run, sh_onetime_Run⟩ := fn_ok' (fns := fns_onetime_Run) (anns := anns_onetime_Run) (tys := tys_onetime_Run) (.cons k_digest_Words (.cons k_digest_Hash .nil)) rfl rfl d_onetime_Run
noncomputable def sig_passkeylaw3_awake : Sig := ⟨[], [(.one, [.v .bool])]⟩
noncomputable def fns_passkeylaw3_awake : List (Nat × FnT) := [(11, ⟨sig_onetime_Split, sh_onetime_Split⟩), (15, ⟨sig_onetime_Run, sh_onetime_Run⟩)]
noncomputable def anns_passkeylaw3_awake : List (Nat × Ann) := []
noncomputable def tys_passkeylaw3_awake : List (Nat × Ty) := []
theorem d_passkeylaw3_awake (x : pd sig_passkeylaw3_awake.apt) : (runT (mkE fns_passkeylaw3_awake anns_passkeylaw3_awake tys_passkeylaw3_awake) F13 sig_passkeylaw3_awake x).den = sh_passkeylaw3_awake x := by kernel_rfl
theorem k_passkeylaw3_awake : FnOK S.lim 13 ⟨sig_passkeylaw3_awake, sh_passkeylaw3_awake⟩ := fn_ok' (fns := fns_passkeylaw3_awake) (anns := anns_passkeylaw3_awake) (tys := tys_passkeylaw3_awake) (.cons k_onetime_Split (.cons k_onetime_Run .nil)) rfl rfl d_passkeylaw3_awake
noncomputable def sig_digest_Mac : Sig := ⟨[.val (.int .u64), .val (.int .i64), .val (.list (.int .u8))], [(.one, [.v (.int .u64)])]⟩
noncomputable def fns_digest_Mac : List (Nat × FnT) := [(36, ⟨sig_digest_Sum, sh_digest_Sum⟩)]
noncomputable def anns_digest_Mac : List (Nat × Ann) := []
noncomputable def tys_digest_Mac : List (Nat × Ty) := []
theorem d_digest_Mac (x : pd sig_digest_Mac.apt) : (runT (mkE fns_digest_Mac anns_digest_Mac tys_digest_Mac) F31 sig_digest_Mac x).den = sh_digest_Mac x := by kernel_rfl
theorem k_digest_Mac : FnOK S.lim 31 ⟨sig_digest_Mac, sh_digest_Mac⟩ := fn_ok' (fns := fns_digest_Mac) (anns := anns_digest_Mac) (tys := tys_digest_Mac) (.cons k_digest_Sum .nil) rfl rfl d_digest_Mac
noncomputable def sig_onetime_Secret : Sig := ⟨[.val (.int .u64), .val (.int .i64), .val (.int .i64)], [(.one, [.v (.int .u64)])]⟩
noncomputable def fns_onetime_Secret : List (Nat × FnT) := [(28, ⟨sig_digest_Words, sh_digest_Words⟩), (31, ⟨sig_digest_Mac, sh_digest_Mac⟩)]
noncomputable def anns_onetime_Secret : List (Nat × Ann) := []
noncomputable def tys_onetime_Secret : List (Nat × Ty) := [(12, (.int .u64))]
theorem d_onetime_Secret (x : pd sig_onetime_Secret.apt) : (runT (mkE fns_onetime_Secret anns_onetime_Secret tys_onetime_Secret) F17 sig_onetime_Secret x).den = sh_onetime_Secret x := by kernel_rfl
theorem k_onetime_Secret : FnOK S.lim 17 ⟨sig_onetime_Secret, sh_onetime_Secret⟩ := fn_ok' (fns := fns_onetime_Secret) (anns := anns_onetime_Secret) (tys := tys_onetime_Secret) (.cons k_digest_Words (.cons k_digest_Mac .nil)) rfl rfl d_onetime_Secret
noncomputable def sig_onetime_at : Sig := ⟨[.val (.int .u64), .val (.int .i64), .val (.arr 18 (.int .i64))], [(.agg, [.v (.arr 18 (.int .u64))])]⟩
noncomputable def fns_onetime_at : List (Nat × FnT) := [(15, ⟨sig_onetime_Run, sh_onetime_Run⟩), (17, ⟨sig_onetime_Secret, sh_onetime_Secret⟩)]
noncomputable def anns_onetime_at : List (Nat × Ann) := [(1000006, ⟨0, 25, [(6, .c (.vref 384 0))], [(384, [384], .var true [(.v (.arr 18 (.int .u64)))] false false)]⟩), (6, ⟨0, 25, [(0, .c (.v (.int .u64))), (1, .c (.v (.int .i64))), (5, .c (.vref 320 0)), (6, .c (.vref 384 0)), (8, .c (.v (.int .i64)))], [(320, [320], .var true [(.v (.arr 18 (.int .i64)))] false false), (384, [384], .var true [(.v (.arr 18 (.int .u64)))] false false)]⟩)]
noncomputable def tys_onetime_at : List (Nat × Ty) := [(15, (.int .i64)), (22, (.int .u64))]
theorem d_onetime_at (x : pd sig_onetime_at.apt) : (runT (mkE fns_onetime_at anns_onetime_at tys_onetime_at) F34 sig_onetime_at x).den = sh_onetime_at x := by kernel_rfl
theorem k_onetime_at : FnOK S.lim 34 ⟨sig_onetime_at, sh_onetime_at⟩ := fn_ok' (fns := fns_onetime_at) (anns := anns_onetime_at) (tys := tys_onetime_at) (.cons k_onetime_Run (.cons k_onetime_Secret .nil)) rfl rfl d_onetime_at
noncomputable def sig_onetime_word : Sig := ⟨[.val (.int .i64), .val (.arr 18 (.int .u64))], [(.one, [.v (.int .u64)])]⟩
noncomputable def fns_onetime_word : List (Nat × FnT) := [(28, ⟨sig_digest_Words, sh_digest_Words⟩), (27, ⟨sig_digest_Hash, sh_digest_Hash⟩)]
noncomputable def anns_onetime_word : List (Nat × Ann) := []
noncomputable def tys_onetime_word : List (Nat × Ty) := [(7, (.int .u64)), (8, (.int .u64)), (9, (.int .u64))]
theorem d_onetime_word (x : pd sig_onetime_word.apt) : (runT (mkE fns_onetime_word anns_onetime_word tys_onetime_word) F33 sig_onetime_word x).den = sh_onetime_word x := by kernel_rfl
theorem k_onetime_word : FnOK S.lim 33 ⟨sig_onetime_word, sh_onetime_word⟩ := fn_ok' (fns := fns_onetime_word) (anns := anns_onetime_word) (tys := tys_onetime_word) (.cons k_digest_Words (.cons k_digest_Hash .nil)) rfl rfl d_onetime_word
noncomputable def sig_onetime_Public : Sig := ⟨[.val (.int .u64), .val (.int .i64)], [(.one, [.v (.int .u64)])]⟩
noncomputable def fns_onetime_Public : List (Nat × FnT) := [(34, ⟨sig_onetime_at, sh_onetime_at⟩), (33, ⟨sig_onetime_word, sh_onetime_word⟩)]
noncomputable def anns_onetime_Public : List (Nat × Ann) := [(1000008, ⟨0, 19, [(0, .c (.v (.int .u64))), (1, .c (.v (.int .i64))), (5, .c (.vref 320 0))], [(320, [320], .var true [(.v (.arr 18 (.int .i64)))] false false)]⟩), (8, ⟨0, 19, [(0, .c (.v (.int .u64))), (1, .c (.v (.int .i64))), (5, .c (.vref 320 0)), (7, .c (.v (.int .i64)))], [(320, [320], .var true [(.v (.arr 18 (.int .i64)))] false false)]⟩)]
noncomputable def tys_onetime_Public : List (Nat × Ty) := [(11, (.int .i64))]
theorem d_onetime_Public (x : pd sig_onetime_Public.apt) : (runT (mkE fns_onetime_Public anns_onetime_Public tys_onetime_Public) F19 sig_onetime_Public x).den = sh_onetime_Public x := by kernel_rfl
theorem k_onetime_Public : FnOK S.lim 19 ⟨sig_onetime_Public, sh_onetime_Public⟩ := fn_ok' (fns := fns_onetime_Public) (anns := anns_onetime_Public) (tys := tys_onetime_Public) (.cons k_onetime_at (.cons k_onetime_word .nil)) rfl rfl d_onetime_Public
noncomputable def sig_onetime_Sign : Sig := ⟨[.val (.int .u64), .val (.int .i64), .val (.int .u64)], [(.one, [.own (.int .u64)])]⟩
noncomputable def fns_onetime_Sign : List (Nat × FnT) := [(26, ⟨sig_onetime_split, sh_onetime_split⟩), (34, ⟨sig_onetime_at, sh_onetime_at⟩)]
noncomputable def anns_onetime_Sign : List (Nat × Ann) := []
noncomputable def tys_onetime_Sign : List (Nat × Ty) := [(13, (.int .u64))]
theorem d_onetime_Sign (x : pd sig_onetime_Sign.apt) : (runT (mkE fns_onetime_Sign anns_onetime_Sign tys_onetime_Sign) F21 sig_onetime_Sign x).den = sh_onetime_Sign x := by kernel_rfl
theorem k_onetime_Sign : FnOK S.lim 21 ⟨sig_onetime_Sign, sh_onetime_Sign⟩ := fn_ok' (fns := fns_onetime_Sign) (anns := anns_onetime_Sign) (tys := tys_onetime_Sign) (.cons k_onetime_split (.cons k_onetime_at .nil)) rfl rfl d_onetime_Sign
noncomputable def sig_onetime_Recover : Sig := ⟨[.val (.int .i64), .val (.int .u64), .val (.list (.int .u64))], [(.one, [.v (.int .u64)]), (.one, [.v (.int .i64)])]⟩
noncomputable def fns_onetime_Recover : List (Nat × FnT) := [(26, ⟨sig_onetime_split, sh_onetime_split⟩), (15, ⟨sig_onetime_Run, sh_onetime_Run⟩), (33, ⟨sig_onetime_word, sh_onetime_word⟩)]
noncomputable def anns_onetime_Recover : List (Nat × Ann) := [(1000018, ⟨0, 35, [(0, .c (.v (.int .i64))), (9, .c (.vref 576 0))], [(576, [576], .var true [(.v (.arr 18 (.int .u64)))] false false)]⟩), (18, ⟨0, 35, [(0, .c (.v (.int .i64))), (2, .c (.lst (.int .u64) [])), (8, .c (.vref 512 0)), (9, .c (.vref 576 0)), (16, .c (.v (.int .i64)))], [(512, [512], .var true [(.v (.arr 18 (.int .i64)))] false false), (576, [576], .var true [(.v (.arr 18 (.int .u64)))] false false)]⟩)]
noncomputable def tys_onetime_Recover : List (Nat × Ty) := [(23, (.int .i64)), (30, (.int .u64))]
theorem d_onetime_Recover (x : pd sig_onetime_Recover.apt) : (runT (mkE fns_onetime_Recover anns_onetime_Recover tys_onetime_Recover) F23 sig_onetime_Recover x).den = sh_onetime_Recover x := by kernel_rfl
theorem k_onetime_Recover : FnOK S.lim 23 ⟨sig_onetime_Recover, sh_onetime_Recover⟩ := fn_ok' (fns := fns_onetime_Recover) (anns := anns_onetime_Recover) (tys := tys_onetime_Recover) (.cons k_onetime_split (.cons k_onetime_Run (.cons k_onetime_word .nil))) rfl rfl d_onetime_Recover
noncomputable def sig_passkeylaw3_OnetimeBack : Sig := ⟨[.val (.int .u64), .val (.int .i64), .val (.int .u64)], [(.one, [.v .bool])]⟩
noncomputable def fns_passkeylaw3_OnetimeBack : List (Nat × FnT) := [(13, ⟨sig_passkeylaw3_awake, sh_passkeylaw3_awake⟩), (19, ⟨sig_onetime_Public, sh_onetime_Public⟩), (21, ⟨sig_onetime_Sign, sh_onetime_Sign⟩), (23, ⟨sig_onetime_Recover, sh_onetime_Recover⟩)]
noncomputable def anns_passkeylaw3_OnetimeBack : List (Nat × Ann) := []
noncomputable def tys_passkeylaw3_OnetimeBack : List (Nat × Ty) := []
theorem d_passkeylaw3_OnetimeBack (x : pd sig_passkeylaw3_OnetimeBack.apt) : (runT (mkE fns_passkeylaw3_OnetimeBack anns_passkeylaw3_OnetimeBack tys_passkeylaw3_OnetimeBack) F9 sig_passkeylaw3_OnetimeBack x).den = sh_passkeylaw3_OnetimeBack x := by kernel_rfl
theorem k_passkeylaw3_OnetimeBack : FnOK S.lim 9 ⟨sig_passkeylaw3_OnetimeBack, sh_passkeylaw3_OnetimeBack⟩ := fn_ok' (fns := fns_passkeylaw3_OnetimeBack) (anns := anns_passkeylaw3_OnetimeBack) (tys := tys_passkeylaw3_OnetimeBack) (.cons k_passkeylaw3_awake (.cons k_onetime_Public (.cons k_onetime_Sign (.cons k_onetime_Recover .nil)))) rfl rfl d_passkeylaw3_OnetimeBack
end Go.Vm.Ytoffmgdfckngnaa.OnetimeBack
