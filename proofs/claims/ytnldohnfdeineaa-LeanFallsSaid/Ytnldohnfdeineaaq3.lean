/- Part 3 of the proof: an abstract machine for the loaded code, and what the functions compute. No conditions. -/
import Derived.IntWalk
import Derived.Test.Ytnldohnfdeineaaq2
set_option linter.unusedVariables false
set_option linter.unusedSimpArgs false
/- The functions as formulas, printed by a program; each suffices for its code. -/
namespace Go.Proofs.Ytnldohnfdeineaa.Abs
open Go
set_option maxRecDepth 100000
/-! ### 9 rewind/rewindlaw09.LeanFalls -/
def s9_1 (C : CallRel) (R : RP) (J1 : AV → AV → AV → AV → List AV → List AO → Prop) (J2 : List AO → Prop) (v5 v6 v28 v29 : AV) (b3 : List AV) (hp : List AO) : Prop :=
 bv (abin .lss v29 v28) fun t30 =>
 cnd t30 (bv (ixaV 1 v5 v29) fun t34 =>
 bv (ld 3 true b3 0) fun t36 =>
 (bv (ldH hp 1 false t34) fun t35 =>
 callK C 24 [t36, v6, v29] hp <| rx (pn R) fun t39 hp5 =>
 bv (abin .neq t35 t39) fun t40 =>
 cnd t40 (retQ R hp5 (some [(.bool false)])) (bv (abin .add v29 (.int .i64 1)) fun t41 =>
 J1 v5 v6 v28 t41 b3 hp5)) ∧ (callK C 24 [t36, v6, v29] hp <| rx (pn R) fun t39 hp6 =>
 bv (ldH hp6 1 false t34) fun t35 =>
 bv (abin .neq t35 t39) fun t40 =>
 cnd t40 (retQ R hp6 (some [(.bool false)])) (bv (abin .add v29 (.int .i64 1)) fun t41 =>
 J1 v5 v6 v28 t41 b3 hp6))) (J2 hp)
def s9_2 (C : CallRel) (R : RP) (hp : List AO) : Prop :=
 retQ R hp (some [(.bool true)])
def s9_0 (C : CallRel) (R : RP) (J1 : AV → AV → AV → AV → List AV → List AO → Prop) (v0 : AV) (hp : List AO) : Prop :=
 callK C 21 [] hp <| rx (pn R) fun t8 hp1 =>
 bv (aun .not t8) fun t9 =>
 cnd t9 (retQ R hp1 (some [(.bool false)])) (callK C 15 [v0] hp1 <| rx (pn R) fun t12 hp2 =>
 bv (extV 0 t12) fun t13 =>
 bv (extV 1 t12) fun t14 =>
 ifT (notLoc 3 v0 && (notLoc 3 t9 && (notLoc 3 t12 && (notLoc 3 v0 && (notLoc 3 t12 && (notLoc 3 t13 && (notLoc 3 t14 && true))))))) <|
 ifT (okv 3 t13) <|
 bl (upd 0 (AV.cells t13) ([.sl .cap0 9 [], .sl .cap0 9 [], .sl .cap0 6 []])) fun b3_1 =>
 bv (aun .not t14) fun t16 =>
 cnd t16 (retQ R hp2 (some [(.bool true)])) (bv (ld 3 true b3_1 0) fun t17 =>
 callK C 22 [t17] hp2 <| rx (pn R) fun t18 hp3 =>
 bv (lenV false t18) fun t20 =>
 bv (ld 1 false b3_1 1) fun t22 =>
 bv (lenV false t22) fun t23 =>
 bv (abin .neq t20 t23) fun t24 =>
 cnd t24 (retQ R hp3 (some [(.bool false)])) (bv (ld 3 true b3_1 0) fun t25 =>
 callK C 23 [t25] hp3 <| rx (pn R) fun t26 hp4 =>
 bv (lenV false t18) fun t28 =>
 J1 t18 t26 t28 (.int .i64 0) b3_1 hp4)))
def s9 (C : CallRel) (R : RP) (v0 : AV) (hp : List AO) : Prop :=
 ∀ J1 : AV → AV → AV → AV → List AV → List AO → Prop,
 ∀ J2 : List AO → Prop,
 (∀ v5 v6 v28 v29 b3 hp, s9_1 C R J1 J2 v5 v6 v28 v29 b3 hp → J1 v5 v6 v28 v29 b3 hp) →
 (∀ hp, s9_2 C R hp → J2 hp) →
 s9_0 C R J1 v0 hp
def q9_2 (C : CallRel) (R : RP) : APost := (resQ a9.res R)
def p9_2 (C : CallRel) (R : RP) : APost := seqQ (fun st => awp C j9_2 (q9_2 C R) (st.keep [])) (q9_2 C R)
def J9_2 (C : CallRel) (R : RP) (hp : List AO) : Prop := awp C j9_2 (q9_2 C R) ⟨[], [], hp⟩
def p9_1 (C : CallRel) (R : RP) : APost := (blockQ 0 (p9_2 C R))
def J9_1 (C : CallRel) (R : RP) (v5 v6 v28 v29 : AV) (b3 : List AV) (hp : List AO) : Prop := awp C (.loop [3, 5, 6, 28, 29] j9_1) (p9_1 C R) ⟨[(3, (.loc 3 0)), (5, v5), (6, v6), (28, v28), (29, v29)], [(3, b3)], hp⟩
theorem e9_1 {C : CallRel} {R : RP} {v5 v6 v28 v29 : AV} {b3 : List AV} {hp : List AO} : s9_1 C R (J9_1 C R) (J9_2 C R) v5 v6 v28 v29 b3 hp = xwp C x9_1 (seqQ (awp C (.loop [3, 5, 6, 28, 29] j9_1) (p9_1 C R)) (p9_1 C R)) (St.keep ⟨[(3, (.loc 3 0)), (5, v5), (6, v6), (28, v28), (29, v29)], [(3, b3)], hp⟩ [3, 5, 6, 28, 29]) := by kernel_rfl
theorem e9_2 {C : CallRel} {R : RP} {hp : List AO} : s9_2 C R hp = xwp C x9_2 (q9_2 C R) ⟨[], [], hp⟩ := by kernel_rfl
theorem e9_0 {C : CallRel} {R : RP} {v0 : AV} {hp : List AO} : s9_0 C R (J9_1 C R) v0 hp = xwp C x9_0 (resQ a9.res R) ⟨enum 0 [v0], [], hp⟩ := by kernel_rfl
theorem w9 {C : CallRel} {R : RP} {v0 : AV} {hp : List AO} (hC : CMono C) (h : s9 C R v0 hp) : awp C a9.body (resQ a9.res R) ⟨enum 0 [v0], [], hp⟩ :=
 cut_in hC e9_0 (h (J9_1 C R) (J9_2 C R)
 (fun _ _ _ _ _ _ h => cut_loop hC e9_1 h)
 (fun _ h => cut_in hC e9_2 h))
/-! ### 15 rewind/rewindlaw07.Right -/
def s15_0 (C : CallRel) (R : RP) (v0 : AV) (hp : List AO) : Prop :=
 ifT (notLoc 2 v0 && true) <|
 bv (lenV true v0) fun t11 =>
 bv (abin .gtr t11 (.int .i64 800)) fun t12 =>
 cnd t12 (bv (bld [.sl .cap0 9 [], .sl .cap0 9 [], .sl .cap0 6 []] []) fun t13 =>
 ifT (okv 3 t13) <|
 bl (upd 0 (AV.cells t13) ([.sl .cap0 9 [], .sl .cap0 9 [], .sl .cap0 6 []])) fun b2_1 =>
 retQ R hp (Option.bind (ld 3 true b2_1 0) fun u2 => some [u2, (.bool false)])) (callK C 31 [v0] hp <| rx (pn R) fun t16 hp1 =>
 bv (extV 0 t16) fun t17 =>
 bv (extV 1 t16) fun t18 =>
 bv (extV 2 t16) fun t19 =>
 ifT (notLoc 4 v0 && (notLoc 4 t12 && (notLoc 4 t16 && (notLoc 4 v0 && (notLoc 4 t16 && (notLoc 4 t17 && (notLoc 4 t18 && (notLoc 4 t19 && true)))))))) <|
 ifT (okv 3 t17) <|
 bl (upd 0 (AV.cells t17) ([.sl .cap0 9 [], .sl .cap0 9 [], .sl .cap0 6 []])) fun b4_3 =>
 bv (abin .neq t19 (.int .i64 0)) fun t21 =>
 cnd t21 (bv (bld [.sl .cap0 9 [], .sl .cap0 9 [], .sl .cap0 6 []] []) fun t22 =>
 ifT (okv 3 t22) <|
 bl (upd 0 (AV.cells t22) ([.sl .cap0 9 [], .sl .cap0 9 [], .sl .cap0 6 []])) fun b2_4 =>
 retQ R hp1 (Option.bind (ld 3 true b2_4 0) fun u5 => some [u5, (.bool false)])) (bv (ld 3 true b4_3 0) fun t24 =>
 callK C 32 [t24] hp1 <| rx (pn R) fun t25 hp2 =>
 bv (extV 0 t25) fun t26 =>
 bv (extV 1 t25) fun t27 =>
 bv (extV 2 t25) fun t28 =>
 ifT (notLoc 7 t21 && (notLoc 7 t25 && (notLoc 7 t24 && (notLoc 7 t25 && (notLoc 7 t26 && (notLoc 7 t27 && (notLoc 7 t28 && true))))))) <|
 ifT (okv 5 t26) <|
 bl (upd 0 (AV.cells t26) ([.sl .cap0 1 [], .sl .cap0 1 [], .sl .cap0 1 [], .sl .cap0 1 [], .sl .cap0 1 []])) fun b7_6 =>
 bv (ld 3 true b4_3 0) fun t29 =>
 bv (abin .eql t28 (.int .i64 0)) fun t31 =>
 ifT (okv 3 t29) <|
 bl (upd 0 (AV.cells t29) ([.sl .cap0 9 [], .sl .cap0 9 [], .sl .cap0 6 []])) fun b2_7 =>
 retQ R hp2 (Option.bind (ld 3 true b2_7 0) fun u8 => some [u8, t31])))
def s15 (C : CallRel) (R : RP) (v0 : AV) (hp : List AO) : Prop :=
 s15_0 C R v0 hp
theorem e15_0 {C : CallRel} {R : RP} {v0 : AV} {hp : List AO} : s15_0 C R v0 hp = xwp C x15_0 (resQ a15.res R) ⟨enum 0 [v0], [], hp⟩ := by kernel_rfl
theorem w15 {C : CallRel} {R : RP} {v0 : AV} {hp : List AO} (hC : CMono C) (h : s15 C R v0 hp) : awp C a15.body (resQ a15.res R) ⟨enum 0 [v0], [], hp⟩ :=
 cut_in hC e15_0 (h)
/-! ### 22 rewind/lean.Falls -/
def s22_1 (C : CallRel) (R : RP) (J1 : AV → AV → AV → AV → List AO → Prop) (J2 : AV → List AO → Prop) (v3 v14 v15 v16 : AV) (hp : List AO) : Prop :=
 bv (abin .lss v16 v15) fun t17 =>
 cnd t17 (bv (ixaV 6 v14 v16) fun t18 =>
 bv (ldH hp 6 true t18) fun t19 =>
 ifT (notLoc 5 v3 && (notLoc 5 v14 && (notLoc 5 v15 && (notLoc 5 v16 && (notLoc 5 t17 && (notLoc 5 t18 && (notLoc 5 t19 && true))))))) <|
 ifT (okv 6 t19) <|
 bl (upd 0 (AV.cells t19) ([.str [], .int .i64 0, .int .i64 0, .sl .cap0 1 [], .int .i64 0, .sl .cap0 1 []])) fun b5_1 =>
 bv (ld 1 false b5_1 5) fun t22 =>
 callK C 35 [v3, t22, (.int .i64 (-1))] hp <| rx (pn R) fun t23 hp3 =>
 bv (abin .add v16 (.int .i64 1)) fun t24 =>
 J1 v3 v14 v15 t24 hp3) (J2 v3 hp)
def s22_2 (C : CallRel) (R : RP) (v3 : AV) (hp : List AO) : Prop :=
 bv (nilckV v3) fun t26 =>
 bv (faddV 3 t26) fun t27 =>
 bv (ldH hp 1 false t27) fun t28 =>
 retQ R hp (some [t28])
def s22_0 (C : CallRel) (R : RP) (J1 : AV → AV → AV → AV → List AO → Prop) (v0 : AV) (hp : List AO) : Prop :=
 ifT (AV.mem v0) <|
 ifT (notLoc 1 v0 && true) <|
 bv (ld 3 true (AV.cells v0) 0) fun t6 =>
 bv (ld 1 false (AV.cells v0) 1) fun t8 =>
 bv (lenV false t8) fun t9 =>
 ba (mkA hp [.int .i64 0] t9) fun t10 hp1 =>
 bv (bld [.sl .cap0 9 [], .sl .cap0 9 [], .sl .cap0 6 [], .sl .cap0 1 []] [(0, 3, t6), (3, 1, t10)]) fun t11 =>
 ifT (AV.mem t11) <|
 bn (.ptr (List.length hp1) 0) (hp1 ++ [.cells (AV.cells t11)]) fun t12 hp2 =>
 bv (ld 1 false (AV.cells v0) 2) fun t14 =>
 bv (lenV false t14) fun t15 =>
 J1 t12 t14 t15 (.int .i64 0) hp2
def s22 (C : CallRel) (R : RP) (v0 : AV) (hp : List AO) : Prop :=
 ∀ J1 : AV → AV → AV → AV → List AO → Prop,
 ∀ J2 : AV → List AO → Prop,
 (∀ v3 v14 v15 v16 hp, s22_1 C R J1 J2 v3 v14 v15 v16 hp → J1 v3 v14 v15 v16 hp) →
 (∀ v3 hp, s22_2 C R v3 hp → J2 v3 hp) →
 s22_0 C R J1 v0 hp
def q22_2 (C : CallRel) (R : RP) : APost := (resQ a22.res R)
def p22_2 (C : CallRel) (R : RP) : APost := seqQ (fun st => awp C j22_2 (q22_2 C R) (st.keep [3])) (q22_2 C R)
def J22_2 (C : CallRel) (R : RP) (v3 : AV) (hp : List AO) : Prop := awp C j22_2 (q22_2 C R) ⟨[(3, v3)], [], hp⟩
def p22_1 (C : CallRel) (R : RP) : APost := (blockQ 0 (p22_2 C R))
def J22_1 (C : CallRel) (R : RP) (v3 v14 v15 v16 : AV) (hp : List AO) : Prop := awp C (.loop [3, 14, 15, 16] j22_1) (p22_1 C R) ⟨[(3, v3), (14, v14), (15, v15), (16, v16)], [], hp⟩
theorem e22_1 {C : CallRel} {R : RP} {v3 v14 v15 v16 : AV} {hp : List AO} : s22_1 C R (J22_1 C R) (J22_2 C R) v3 v14 v15 v16 hp = xwp C x22_1 (seqQ (awp C (.loop [3, 14, 15, 16] j22_1) (p22_1 C R)) (p22_1 C R)) (St.keep ⟨[(3, v3), (14, v14), (15, v15), (16, v16)], [], hp⟩ [3, 14, 15, 16]) := by kernel_rfl
theorem e22_2 {C : CallRel} {R : RP} {v3 : AV} {hp : List AO} : s22_2 C R v3 hp = xwp C x22_2 (q22_2 C R) ⟨[(3, v3)], [], hp⟩ := by kernel_rfl
theorem e22_0 {C : CallRel} {R : RP} {v0 : AV} {hp : List AO} : s22_0 C R (J22_1 C R) v0 hp = xwp C x22_0 (resQ a22.res R) ⟨enum 0 [v0], [], hp⟩ := by kernel_rfl
theorem w22 {C : CallRel} {R : RP} {v0 : AV} {hp : List AO} (hC : CMono C) (h : s22 C R v0 hp) : awp C a22.body (resQ a22.res R) ⟨enum 0 [v0], [], hp⟩ :=
 cut_in hC e22_0 (h (J22_1 C R) (J22_2 C R)
 (fun _ _ _ _ _ h => cut_loop hC e22_1 h)
 (fun _ _ h => cut_in hC e22_2 h))
/-! ### 23 rewind/rewindref07.Places -/
def s23_1 (C : CallRel) (R : RP) (J1 : AV → AV → AV → List AV → List AO → Prop) (J2 : AV → List AO → Prop) (v3 v11 v12 : AV) (b1 : List AV) (hp : List AO) : Prop :=
 bv (abin .lss v12 v11) fun t13 =>
 cnd t13 (bv (ld 3 true b1 0) fun t15 =>
 bv (ld 1 false b1 2) fun t18 =>
 bv (ixaV 6 t18 v12) fun t20 =>
 bv (faddV 5 t20) fun t21 =>
 bv (ldH hp 1 false t21) fun t22 =>
 callK C 36 [t15, v3, t22, (.int .i64 (-1)), (.int .i64 (-1))] hp <| rx (pn R) fun t23 hp2 =>
 bv (abin .add v12 (.int .i64 1)) fun t24 =>
 J1 t23 v11 t24 b1 hp2) (J2 v3 hp)
def s23_2 (C : CallRel) (R : RP) (v3 : AV) (hp : List AO) : Prop :=
 retQ R hp (some [v3])
def s23_0 (C : CallRel) (R : RP) (J1 : AV → AV → AV → List AV → List AO → Prop) (v0 : AV) (hp : List AO) : Prop :=
 ifT (AV.mem v0) <|
 ifT (notLoc 1 v0 && true) <|
 bv (ld 1 false (AV.cells v0) 1) fun t6 =>
 bv (lenV false t6) fun t7 =>
 ba (mkA hp [.sl .cap0 1 [], .int .i64 0, .int .i64 0, .int .i64 0] t7) fun t8 hp1 =>
 bv (ld 1 false (AV.cells v0) 2) fun t10 =>
 bv (lenV false t10) fun t11 =>
 J1 t8 t11 (.int .i64 0) (AV.cells v0) hp1
def s23 (C : CallRel) (R : RP) (v0 : AV) (hp : List AO) : Prop :=
 ∀ J1 : AV → AV → AV → List AV → List AO → Prop,
 ∀ J2 : AV → List AO → Prop,
 (∀ v3 v11 v12 b1 hp, s23_1 C R J1 J2 v3 v11 v12 b1 hp → J1 v3 v11 v12 b1 hp) →
 (∀ v3 hp, s23_2 C R v3 hp → J2 v3 hp) →
 s23_0 C R J1 v0 hp
def q23_2 (C : CallRel) (R : RP) : APost := (resQ a23.res R)
def p23_2 (C : CallRel) (R : RP) : APost := seqQ (fun st => awp C j23_2 (q23_2 C R) (st.keep [3])) (q23_2 C R)
def J23_2 (C : CallRel) (R : RP) (v3 : AV) (hp : List AO) : Prop := awp C j23_2 (q23_2 C R) ⟨[(3, v3)], [], hp⟩
def p23_1 (C : CallRel) (R : RP) : APost := (blockQ 0 (p23_2 C R))
def J23_1 (C : CallRel) (R : RP) (v3 v11 v12 : AV) (b1 : List AV) (hp : List AO) : Prop := awp C (.loop [1, 3, 11, 12] j23_1) (p23_1 C R) ⟨[(1, (.loc 1 0)), (3, v3), (11, v11), (12, v12)], [(1, b1)], hp⟩
theorem e23_1 {C : CallRel} {R : RP} {v3 v11 v12 : AV} {b1 : List AV} {hp : List AO} : s23_1 C R (J23_1 C R) (J23_2 C R) v3 v11 v12 b1 hp = xwp C x23_1 (seqQ (awp C (.loop [1, 3, 11, 12] j23_1) (p23_1 C R)) (p23_1 C R)) (St.keep ⟨[(1, (.loc 1 0)), (3, v3), (11, v11), (12, v12)], [(1, b1)], hp⟩ [1, 3, 11, 12]) := by kernel_rfl
theorem e23_2 {C : CallRel} {R : RP} {v3 : AV} {hp : List AO} : s23_2 C R v3 hp = xwp C x23_2 (q23_2 C R) ⟨[(3, v3)], [], hp⟩ := by kernel_rfl
theorem e23_0 {C : CallRel} {R : RP} {v0 : AV} {hp : List AO} : s23_0 C R (J23_1 C R) v0 hp = xwp C x23_0 (resQ a23.res R) ⟨enum 0 [v0], [], hp⟩ := by kernel_rfl
theorem w23 {C : CallRel} {R : RP} {v0 : AV} {hp : List AO} (hC : CMono C) (h : s23 C R v0 hp) : awp C a23.body (resQ a23.res R) ⟨enum 0 [v0], [], hp⟩ :=
 cut_in hC e23_0 (h (J23_1 C R) (J23_2 C R)
 (fun _ _ _ _ _ h => cut_loop hC e23_1 h)
 (fun _ _ h => cut_in hC e23_2 h))
/-! ### 24 rewind/rewindref07.Behind -/
def s24_0 (C : CallRel) (R : RP) (v0 v1 v2 : AV) (hp : List AO) : Prop :=
 ifT (AV.mem v0) <|
 ifT (notLoc 3 v0 && (notLoc 3 v1 && (notLoc 3 v2 && true))) <|
 bv (ixaV 4 v1 v2) fun t10 =>
 bv (ldH hp 4 true t10) fun t11 =>
 ifT (notLoc 7 v1 && (notLoc 7 v2 && (notLoc 7 v1 && (notLoc 7 v2 && (notLoc 7 t10 && (notLoc 7 t11 && true)))))) <|
 ifT (okv 4 t11) <|
 bl (upd 0 (AV.cells t11) [.sl .cap0 1 [], .int .i64 0, .int .i64 0, .int .i64 0]) fun b7_1 =>
 bv (ld 1 false b7_1 1) fun t13 =>
 bv (abin .add t13 (.int .i64 1)) fun t14 =>
 bv (ld 1 false b7_1 0) fun t16 =>
 bv (lenV false t16) fun t17 =>
 bv (abin .lss t14 t17) fun t18 =>
 cnd t18 (bv (ld 1 false b7_1 0) fun t20 =>
 bv (ld 1 false b7_1 1) fun t22 =>
 bv (abin .add t22 (.int .i64 1)) fun t23 =>
 bv (ixaV 1 t20 t23) fun t24 =>
 bv (ldH hp 1 false t24) fun t25 =>
 retQ R hp (some [t25])) (bv (ld 1 false b7_1 2) fun t27 =>
 bv (abin .lss t27 (.int .i64 0)) fun t28 =>
 cnd t28 (retQ R hp (some [(.int .i64 (-1))])) (bv (ld 1 false (AV.cells v0) 1) fun t30 =>
 bv (ld 1 false b7_1 2) fun t32 =>
 bv (ixaV 9 t30 t32) fun t33 =>
 bv (faddV 0 t33) fun t34 =>
 bv (ldH hp 1 false t34) fun t35 =>
 bv (abin .eql t35 (.int .i64 6)) fun t36 =>
 cnd t36 (bv (ld 1 false b7_1 2) fun t38 =>
 retQ R hp (some [t38])) (bv (ld 3 true (AV.cells v0) 0) fun t39 =>
 bv (ld 1 false b7_1 2) fun t42 =>
 callK C 24 [t39, v1, t42] hp <| rx (pn R) fun t43 hp1 =>
 retQ R hp1 (some [t43]))))
def s24 (C : CallRel) (R : RP) (v0 v1 v2 : AV) (hp : List AO) : Prop :=
 s24_0 C R v0 v1 v2 hp
theorem e24_0 {C : CallRel} {R : RP} {v0 v1 v2 : AV} {hp : List AO} : s24_0 C R v0 v1 v2 hp = xwp C x24_0 (resQ a24.res R) ⟨enum 0 [v0, v1, v2], [], hp⟩ := by kernel_rfl
theorem w24 {C : CallRel} {R : RP} {v0 v1 v2 : AV} {hp : List AO} (hC : CMono C) (h : s24 C R v0 v1 v2 hp) : awp C a24.body (resQ a24.res R) ⟨enum 0 [v0, v1, v2], [], hp⟩ :=
 cut_in hC e24_0 (h)
/-! ### 31 rewind/rewindref04.Parse -/
def s31_1 (C : CallRel) (R : RP) (J1 : List AV → List AV → List AO → Prop) (J2 : List AV → List AV → List AO → Prop) (b2 : List AV) (b8 : List AV) (hp : List AO) : Prop :=
 bv (ld 1 false b8 6) fun t24 =>
 bv (abin .eql t24 (.int .i64 0)) fun t25 =>
 bv (gv (isB true t25) (faddV 3 (.loc 8 0))) fun t27 =>
 bv (gv (isB true t25) (faddV 2 t27)) fun t28 =>
 bv (gv (isB true t25) (ldL [(2, b2), (8, b8)] 1 false t28)) fun t29 =>
 bv (gv (isB true t25) (lenV false t29)) fun t30 =>
 bv (gv (isB true t25) (abin .eql t30 (.int .i64 0))) fun t31 =>
 bv (gv (isB true t25) (some t31)) fun t32 =>
 bv (gv (isB false t32) (faddV 1 (.loc 8 0))) fun t33 =>
 bv (gv (isB false t32) (ldL [(2, b2), (8, b8)] 1 false t33)) fun t34 =>
 bv (gv (isB false t32) (faddV 2 (.loc 8 0))) fun t35 =>
 bv (gv (isB false t32) (ldL [(2, b2), (8, b8)] 1 false t35)) fun t36 =>
 bv (gv (isB false t32) (ixaV 3 t34 t36)) fun t37 =>
 bv (gv (isB false t32) (faddV 0 t37)) fun t38 =>
 bv (gv (isB false t32) (ldH hp 1 false t38)) fun t39 =>
 bv (gv (isB false t32) (abin .neq t39 (.int .i64 0))) fun t40 =>
 bv (gv (isB true t25) (pickV t32 (.bool true) t40)) fun t41 =>
 bv (pickV t25 t41 (.bool false)) fun t42 =>
 cnd t42 (bv (ld 8 true b8 0) fun t43 =>
 callK C 44 [t43] hp <| rx (pn R) fun t44 hp2 =>
 ifT (okv 8 t44) <|
 bl (upd 0 (AV.cells t44) b8) fun b8_4 =>
 J1 b2 b8_4 hp2) (J2 b2 b8 hp)
def s31_2 (C : CallRel) (R : RP) (b2 : List AV) (b8 : List AV) (hp : List AO) : Prop :=
 bv (ld 1 false b8 6) fun t46 =>
 bv (abin .neq t46 (.int .i64 0)) fun t47 =>
 cnd t47 (bv (bld [.sl .cap0 9 [], .sl .cap0 9 [], .sl .cap0 6 []] []) fun t48 =>
 bv (ld 1 false b8 7) fun t50 =>
 bv (ld 1 false b8 6) fun t52 =>
 ifT (okv 3 t48) <|
 bl (upd 0 (AV.cells t48) b2) fun b2_5 =>
 retQ R hp (Option.bind (ld 3 true b2_5 0) fun u6 => some [u6, t50, t52])) (bv (ld 3 true b8 3) fun t54 =>
 ifT (okv 3 t54) <|
 bl (upd 0 (AV.cells t54) b2) fun b2_7 =>
 retQ R hp (Option.bind (ld 3 true b2_7 0) fun u8 => some [u8, (.int .i64 0), (.int .i64 0)]))
def s31_0 (C : CallRel) (R : RP) (J1 : List AV → List AV → List AO → Prop) (v0 : AV) (hp : List AO) : Prop :=
 ifT (notLoc 2 v0 && true) <|
 callK C 43 [v0] hp <| rx (pn R) fun t11 hp1 =>
 bv (extV 0 t11) fun t12 =>
 bv (extV 1 t11) fun t13 =>
 bv (extV 2 t11) fun t14 =>
 bv (abin .neq t14 (.int .i64 0)) fun t16 =>
 cnd t16 (bv (bld [.sl .cap0 9 [], .sl .cap0 9 [], .sl .cap0 6 []] []) fun t17 =>
 ifT (okv 3 t17) <|
 bl (upd 0 (AV.cells t17) ([.sl .cap0 9 [], .sl .cap0 9 [], .sl .cap0 6 []])) fun b2_1 =>
 retQ R hp1 (Option.bind (ld 3 true b2_1 0) fun u2 => some [u2, t13, t14])) (bv (bld [.str [], .sl .cap0 3 [], .int .i64 0, .sl .cap0 9 [], .sl .cap0 9 [], .sl .cap0 6 [], .int .i64 0, .int .i64 0] [(0, 1, v0), (1, 1, t12)]) fun t22 =>
 ifT (notLoc 8 v0 && (notLoc 8 t12 && (notLoc 8 t13 && (notLoc 8 t14 && (notLoc 8 t16 && (notLoc 8 v0 && (notLoc 8 t12 && (notLoc 8 t22 && true)))))))) <|
 ifT (okv 8 t22) <|
 bl (upd 0 (AV.cells t22) ([.str [], .sl .cap0 3 [], .int .i64 0, .sl .cap0 9 [], .sl .cap0 9 [], .sl .cap0 6 [], .int .i64 0, .int .i64 0])) fun b8_3 =>
 J1 ([.sl .cap0 9 [], .sl .cap0 9 [], .sl .cap0 6 []]) b8_3 hp1)
def s31 (C : CallRel) (R : RP) (v0 : AV) (hp : List AO) : Prop :=
 ∀ J1 : List AV → List AV → List AO → Prop,
 ∀ J2 : List AV → List AV → List AO → Prop,
 (∀ b2 b8 hp, s31_1 C R J1 J2 b2 b8 hp → J1 b2 b8 hp) →
 (∀ b2 b8 hp, s31_2 C R b2 b8 hp → J2 b2 b8 hp) →
 s31_0 C R J1 v0 hp
def q31_2 (C : CallRel) (R : RP) : APost := (resQ a31.res R)
def p31_2 (C : CallRel) (R : RP) : APost := seqQ (fun st => awp C j31_2 (q31_2 C R) (st.keep [2, 8])) (q31_2 C R)
def J31_2 (C : CallRel) (R : RP) (b2 : List AV) (b8 : List AV) (hp : List AO) : Prop := awp C j31_2 (q31_2 C R) ⟨[(2, (.loc 2 0)), (8, (.loc 8 0))], [(2, b2), (8, b8)], hp⟩
def p31_1 (C : CallRel) (R : RP) : APost := (blockQ 0 (p31_2 C R))
def J31_1 (C : CallRel) (R : RP) (b2 : List AV) (b8 : List AV) (hp : List AO) : Prop := awp C (.loop [2, 8] j31_1) (p31_1 C R) ⟨[(2, (.loc 2 0)), (8, (.loc 8 0))], [(2, b2), (8, b8)], hp⟩
theorem e31_1 {C : CallRel} {R : RP} {b2 : List AV} {b8 : List AV} {hp : List AO} : s31_1 C R (J31_1 C R) (J31_2 C R) b2 b8 hp = xwp C x31_1 (seqQ (awp C (.loop [2, 8] j31_1) (p31_1 C R)) (p31_1 C R)) (St.keep ⟨[(2, (.loc 2 0)), (8, (.loc 8 0))], [(2, b2), (8, b8)], hp⟩ [2, 8]) := by kernel_rfl
theorem e31_2 {C : CallRel} {R : RP} {b2 : List AV} {b8 : List AV} {hp : List AO} : s31_2 C R b2 b8 hp = xwp C x31_2 (q31_2 C R) ⟨[(2, (.loc 2 0)), (8, (.loc 8 0))], [(2, b2), (8, b8)], hp⟩ := by kernel_rfl
theorem e31_0 {C : CallRel} {R : RP} {v0 : AV} {hp : List AO} : s31_0 C R (J31_1 C R) v0 hp = xwp C x31_0 (resQ a31.res R) ⟨enum 0 [v0], [], hp⟩ := by kernel_rfl
theorem w31 {C : CallRel} {R : RP} {v0 : AV} {hp : List AO} (hC : CMono C) (h : s31 C R v0 hp) : awp C a31.body (resQ a31.res R) ⟨enum 0 [v0], [], hp⟩ :=
 cut_in hC e31_0 (h (J31_1 C R) (J31_2 C R)
 (fun _ _ _ h => cut_loop hC e31_1 h)
 (fun _ _ _ h => cut_in hC e31_2 h))
/-! ### 32 rewind/rewindref06.Check -/
def s32_1 (C : CallRel) (R : RP) (J1 : AV → AV → List AV → List AV → List AV → List AO → Prop) (J15 : List AV → List AV → List AV → List AO → Prop) (v15 v16 : AV) (b1 : List AV) (b2 : List AV) (b5 : List AV) (hp : List AO) : Prop :=
 bv (abin .lss v16 v15) fun t17 =>
 cnd t17 (bv (ld 1 false b5 3) fun t20 =>
 bv (mkSlV 1 [(.int .i64 0)]) fun t21 =>
 ba (apx true 1 hp t20 t21) fun t22 hp1 =>
 ifT (okv 1 t22) <|
 bl (upd 3 (AV.cells t22) b5) fun b5_2 =>
 bv (ld 1 false b5_2 4) fun t27 =>
 bv (mkSlV 1 [(.int .i64 (-1))]) fun t28 =>
 ba (apx true 1 hp1 t27 t28) fun t29 hp2 =>
 ifT (okv 1 t29) <|
 bl (upd 4 (AV.cells t29) b5_2) fun b5_3 =>
 bv (abin .add v16 (.int .i64 1)) fun t32 =>
 J1 v15 t32 b1 b2 b5_3 hp2) (J15 b1 b2 b5 hp)
def s32_2 (C : CallRel) (R : RP) (J2 : AV → AV → List AV → List AV → List AV → List AO → Prop) (J14 : List AV → List AV → List AV → List AO → Prop) (v35 v36 : AV) (b1 : List AV) (b2 : List AV) (b5 : List AV) (hp : List AO) : Prop :=
 bv (abin .lss v36 v35) fun t37 =>
 cnd t37 (bv (ld 1 false b5 5) fun t40 =>
 bv (mkSlV 1 [(.int .i64 (-1))]) fun t41 =>
 ba (apx true 1 hp t40 t41) fun t42 hp3 =>
 ifT (okv 1 t42) <|
 bl (upd 5 (AV.cells t42) b5) fun b5_4 =>
 bv (ld 1 false b5_4 6) fun t47 =>
 bv (mkSlV 1 [(.int .i64 0)]) fun t48 =>
 ba (apx true 1 hp3 t47 t48) fun t49 hp4 =>
 ifT (okv 1 t49) <|
 bl (upd 6 (AV.cells t49) b5_4) fun b5_5 =>
 bv (abin .add v36 (.int .i64 1)) fun t52 =>
 J2 v35 t52 b1 b2 b5_5 hp4) (J14 b1 b2 b5 hp)
def s32_3 (C : CallRel) (R : RP) (J4 : AV → AV → AV → AV → List AV → List AV → List AV → List AO → Prop) (J13 : List AV → List AV → List AV → List AO → Prop) (v55 v56 : AV) (b1 : List AV) (b2 : List AV) (b5 : List AV) (hp : List AO) : Prop :=
 bv (abin .lss v56 v55) fun t57 =>
 cnd t57 (bv (ld 1 false b5 7) fun t61 =>
 bv (mkSlV 1 [(.sl .cap0 1 [])]) fun t62 =>
 ba (apx true 1 hp t61 t62) fun t63 hp5 =>
 ifT (okv 1 t63) <|
 bl (upd 7 (AV.cells t63) b5) fun b5_6 =>
 J4 v56 (.int .i64 0) v55 v56 b1 b2 b5_6 hp5) (J13 b1 b2 b5 hp)
def s32_4 (C : CallRel) (R : RP) (J4 : AV → AV → AV → AV → List AV → List AV → List AV → List AO → Prop) (J5 : AV → AV → List AV → List AV → List AV → List AO → Prop) (v6 v7 v55 v56 : AV) (b1 : List AV) (b2 : List AV) (b5 : List AV) (hp : List AO) : Prop :=
 bv (abin .lss v7 v6) fun t68 =>
 cnd t68 (bv (ld 14 true b5 0) fun t71 =>
 bv (ld 1 false b1 2) fun t73 =>
 bv (ixaV 6 t73 v7) fun t75 =>
 bv (faddV 0 t75) fun t76 =>
 bv (ldE 1 false t76) fun t77 =>
 bv (ld 1 false b1 2) fun t79 =>
 bv (ixaV 6 t79 v6) fun t81 =>
 bv (faddV 0 t81) fun t82 =>
 bv (ldE 1 false t82) fun t83 =>
 bv (abin .neq t77 t83) fun t84 =>
 bv (ld 1 false b1 2) fun t86 =>
 bv (ixaV 6 t86 v6) fun t88 =>
 bv (faddV 1 t88) fun t89 =>
 bv (faddV 0 t89) fun t90 =>
 bv (ldE 1 false t90) fun t91 =>
 callK C 45 [t71, t84, t91, (.int .i64 7)] hp <| rx (pn R) fun t92 hp6 =>
 ifT (okv 14 t92) <|
 bl (upd 0 (AV.cells t92) b5) fun b5_7 =>
 bv (abin .add v7 (.int .i64 1)) fun t70 =>
 J4 v6 t70 v55 v56 b1 b2 b5_7 hp6) (J5 v55 v56 b1 b2 b5 hp)
def s32_5 (C : CallRel) (R : RP) (J3 : AV → AV → List AV → List AV → List AV → List AO → Prop) (v55 v56 : AV) (b1 : List AV) (b2 : List AV) (b5 : List AV) (hp : List AO) : Prop :=
 bv (abin .add v56 (.int .i64 1)) fun t93 =>
 J3 v55 t93 b1 b2 b5 hp
def s32_6 (C : CallRel) (R : RP) (J7 : AV → AV → AV → AV → AV → List AV → List AV → List AV → List AO → Prop) (J12 : List AV → List AV → List AO → Prop) (v127 v128 : AV) (b1 : List AV) (b2 : List AV) (b5 : List AV) (hp : List AO) : Prop :=
 bv (abin .lss v128 v127) fun t129 =>
 cnd t129 (ifT (okv 1 v128) <|
 bl (upd 8 (AV.cells v128) b5) fun b5_10 =>
 ifT (okv 1 (.sl .cap0 3 [])) <|
 bl (upd 9 (AV.cells (.sl .cap0 3 [])) b5_10) fun b5_11 =>
 ifT (okv 1 (.int .i64 0)) <|
 bl (upd 10 (AV.cells (.int .i64 0)) b5_11) fun b5_12 =>
 bv (ld 1 false b1 2) fun t136 =>
 bv (ixaV 6 t136 v128) fun t138 =>
 bv (faddV 3 t138) fun t139 =>
 bv (ldH hp 1 false t139) fun t140 =>
 bv (lenV false t140) fun t141 =>
 J7 v128 v127 v128 t141 (.int .i64 0) b1 b2 b5_12 hp) (J12 b2 b5 hp)
def s32_7 (C : CallRel) (R : RP) (J8 : AV → AV → AV → AV → AV → List AV → List AV → List AV → List AO → Prop) (J10 : AV → AV → AV → List AV → List AV → List AV → List AO → Prop) (v8 v127 v128 v141 v142 : AV) (b1 : List AV) (b2 : List AV) (b5 : List AV) (hp : List AO) : Prop :=
 bv (abin .lss v142 v141) fun t143 =>
 cnd t143 (bv (ld 1 false b5 12) fun t146 =>
 bv (abin .eql t146 (.int .i64 0)) fun t147 =>
 cnd t147 (bv (ld 14 true b5 0) fun t149 =>
 bv (ld 1 false b1 2) fun t151 =>
 bv (ixaV 6 t151 v8) fun t153 =>
 bv (faddV 3 t153) fun t154 =>
 bv (ldE 1 false t154) fun t155 =>
 bv (ixaV 1 t155 v142) fun t157 =>
 bv (ldE 1 false t157) fun t158 =>
 bv (ld 1 false b1 2) fun t160 =>
 bv (ixaV 6 t160 v8) fun t162 =>
 bv (faddV 1 t162) fun t163 =>
 bv (faddV 0 t163) fun t164 =>
 bv (ldE 1 false t164) fun t165 =>
 callK C 46 [t149, t158, (.int .i64 1), t165] hp <| rx (pn R) fun t166 hp9 =>
 bv (extV 0 t166) fun t167 =>
 bv (extV 1 t166) fun t168 =>
 ifT (okv 14 t167) <|
 bl (upd 0 (AV.cells t167) b5) fun b5_13 =>
 J8 v8 v127 v128 v141 v142 b1 b2 b5_13 hp9) (J8 v8 v127 v128 v141 v142 b1 b2 b5 hp)) (J10 v8 v127 v128 b1 b2 b5 hp)
def s32_8 (C : CallRel) (R : RP) (J7 : AV → AV → AV → AV → AV → List AV → List AV → List AV → List AO → Prop) (v8 v127 v128 v141 v142 : AV) (b1 : List AV) (b2 : List AV) (b5 : List AV) (hp : List AO) : Prop :=
 bv (abin .add v142 (.int .i64 1)) fun t169 =>
 J7 v8 v127 v128 v141 t169 b1 b2 b5 hp
def s32_9 (C : CallRel) (R : RP) (J9 : AV → AV → AV → AV → AV → List AV → List AV → List AV → List AO → Prop) (J11 : AV → AV → List AV → List AV → List AV → List AO → Prop) (v8 v127 v128 v176 v177 : AV) (b1 : List AV) (b2 : List AV) (b5 : List AV) (hp : List AO) : Prop :=
 bv (abin .lss v177 v176) fun t178 =>
 cnd t178 (bv (ld 14 true b5 0) fun t180 =>
 bv (ld 1 false b1 2) fun t182 =>
 bv (ixaV 6 t182 v8) fun t184 =>
 bv (faddV 5 t184) fun t185 =>
 bv (ldE 1 false t185) fun t186 =>
 bv (ixaV 1 t186 v177) fun t188 =>
 bv (ldE 1 false t188) fun t189 =>
 callK C 47 [t180, t189] hp <| rx (pn R) fun t190 hp10 =>
 ifT (okv 14 t190) <|
 bl (upd 0 (AV.cells t190) b5) fun b5_18 =>
 bv (abin .add v177 (.int .i64 1)) fun t191 =>
 J9 v8 v127 v128 v176 t191 b1 b2 b5_18 hp10) (J11 v127 v128 b1 b2 b5 hp)
def s32_10 (C : CallRel) (R : RP) (J9 : AV → AV → AV → AV → AV → List AV → List AV → List AV → List AO → Prop) (v8 v127 v128 : AV) (b1 : List AV) (b2 : List AV) (b5 : List AV) (hp : List AO) : Prop :=
 bv (ld 1 false b1 2) fun t171 =>
 bv (ixaV 6 t171 v8) fun t173 =>
 bv (faddV 5 t173) fun t174 =>
 bv (ldH hp 1 false t174) fun t175 =>
 bv (lenV false t175) fun t176 =>
 J9 v8 v127 v128 t176 (.int .i64 0) b1 b2 b5 hp
def s32_11 (C : CallRel) (R : RP) (J6 : AV → AV → List AV → List AV → List AV → List AO → Prop) (v127 v128 : AV) (b1 : List AV) (b2 : List AV) (b5 : List AV) (hp : List AO) : Prop :=
 bv (abin .add v128 (.int .i64 1)) fun t192 =>
 J6 v127 t192 b1 b2 b5 hp
def s32_12 (C : CallRel) (R : RP) (b2 : List AV) (b5 : List AV) (hp : List AO) : Prop :=
 bv (ld 1 false b5 12) fun t194 =>
 bv (abin .neq t194 (.int .i64 0)) fun t195 =>
 cnd t195 (bv (bld [.sl .cap0 1 [], .sl .cap0 1 [], .sl .cap0 1 [], .sl .cap0 1 [], .sl .cap0 1 []] []) fun t196 =>
 bv (ld 1 false b5 13) fun t198 =>
 bv (ld 1 false b5 12) fun t200 =>
 ifT (okv 5 t196) <|
 bl (upd 0 (AV.cells t196) b2) fun b2_14 =>
 retQ R hp (Option.bind (ld 5 true b2_14 0) fun u15 => some [u15, t198, t200])) (bv (ld 5 true b5 3) fun t202 =>
 ifT (okv 5 t202) <|
 bl (upd 0 (AV.cells t202) b2) fun b2_16 =>
 retQ R hp (Option.bind (ld 5 true b2_16 0) fun u17 => some [u17, (.int .i64 0), (.int .i64 0)]))
def s32_13 (C : CallRel) (R : RP) (J6 : AV → AV → List AV → List AV → List AV → List AO → Prop) (b1 : List AV) (b2 : List AV) (b5 : List AV) (hp : List AO) : Prop :=
 bv (ld 14 true b5 0) fun t94 =>
 bv (ld 1 false b1 2) fun t96 =>
 bv (ixaV 6 t96 (.int .i64 0)) fun t97 =>
 bv (faddV 0 t97) fun t98 =>
 bv (ldE 1 false t98) fun t99 =>
 bv (abin .eql t99 (.str [109, 97, 105, 110])) fun t100 =>
 callK C 45 [t94, t100, (.int .i64 0), (.int .i64 17)] hp <| rx (pn R) fun t101 hp7 =>
 ifT (okv 14 t101) <|
 bl (upd 0 (AV.cells t101) b5) fun b5_8 =>
 bv (ld 14 true b5_8 0) fun t102 =>
 bv (ld 1 false b1 2) fun t104 =>
 bv (ixaV 6 t104 (.int .i64 0)) fun t105 =>
 bv (faddV 3 t105) fun t106 =>
 bv (ldE 1 false t106) fun t107 =>
 bv (lenV false t107) fun t108 =>
 bv (abin .eql t108 (.int .i64 0)) fun t109 =>
 bv (gv (isB true t109) (faddV 2 (.loc 1 0))) fun t111 =>
 bv (gv (isB true t109) (lsV (some 1) [(1, b1), (2, b2), (5, b5_8)] 1 false t111)) fun t112 =>
 bv (gv (isB true t109) (ixaV 6 t112 (.int .i64 0))) fun t113 =>
 bv (gv (isB true t109) (faddV 4 t113)) fun t114 =>
 bv (gv (isB true t109) (ldE 1 false t114)) fun t115 =>
 bv (gv (isB true t109) (abin .eql t115 (.int .i64 4))) fun t116 =>
 bv (pickV t109 t116 (.bool false)) fun t117 =>
 bv (ld 1 false b1 2) fun t119 =>
 bv (ixaV 6 t119 (.int .i64 0)) fun t120 =>
 bv (faddV 1 t120) fun t121 =>
 bv (faddV 0 t121) fun t122 =>
 bv (ldE 1 false t122) fun t123 =>
 callK C 45 [t102, t117, t123, (.int .i64 8)] hp7 <| rx (pn R) fun t124 hp8 =>
 ifT (okv 14 t124) <|
 bl (upd 0 (AV.cells t124) b5_8) fun b5_9 =>
 bv (ld 1 false b1 2) fun t126 =>
 bv (lenV false t126) fun t127 =>
 J6 t127 (.int .i64 0) b1 b2 b5_9 hp8
def s32_14 (C : CallRel) (R : RP) (J3 : AV → AV → List AV → List AV → List AV → List AO → Prop) (b1 : List AV) (b2 : List AV) (b5 : List AV) (hp : List AO) : Prop :=
 bv (ld 1 false b1 2) fun t54 =>
 bv (lenV false t54) fun t55 =>
 J3 t55 (.int .i64 0) b1 b2 b5 hp
def s32_15 (C : CallRel) (R : RP) (J2 : AV → AV → List AV → List AV → List AV → List AO → Prop) (b1 : List AV) (b2 : List AV) (b5 : List AV) (hp : List AO) : Prop :=
 bv (ld 1 false b1 1) fun t34 =>
 bv (lenV false t34) fun t35 =>
 J2 t35 (.int .i64 0) b1 b2 b5 hp
def s32_0 (C : CallRel) (R : RP) (J1 : AV → AV → List AV → List AV → List AV → List AO → Prop) (v0 : AV) (hp : List AO) : Prop :=
 ifT (AV.mem v0) <|
 ifT (notLoc 1 v0 && true) <|
 ifT (notLoc 2 v0 && true) <|
 bv (ld 3 true (AV.cells v0) 0) fun t11 =>
 bv (bld [.sl .cap0 9 [], .sl .cap0 9 [], .sl .cap0 6 [], .sl .cap0 1 [], .sl .cap0 1 [], .sl .cap0 1 [], .sl .cap0 1 [], .sl .cap0 1 [], .int .i64 0, .sl .cap0 3 [], .int .i64 0, .int .i64 0, .int .i64 0, .int .i64 0] [(0, 3, t11)]) fun t12 =>
 ifT (notLoc 5 t11 && (notLoc 5 t12 && true)) <|
 ifT (okv 14 t12) <|
 bl (upd 0 (AV.cells t12) ([.sl .cap0 9 [], .sl .cap0 9 [], .sl .cap0 6 [], .sl .cap0 1 [], .sl .cap0 1 [], .sl .cap0 1 [], .sl .cap0 1 [], .sl .cap0 1 [], .int .i64 0, .sl .cap0 3 [], .int .i64 0, .int .i64 0, .int .i64 0, .int .i64 0])) fun b5_1 =>
 bv (ld 1 false (AV.cells v0) 0) fun t14 =>
 bv (lenV false t14) fun t15 =>
 J1 t15 (.int .i64 0) (AV.cells v0) ([.sl .cap0 1 [], .sl .cap0 1 [], .sl .cap0 1 [], .sl .cap0 1 [], .sl .cap0 1 []]) b5_1 hp
def s32 (C : CallRel) (R : RP) (v0 : AV) (hp : List AO) : Prop :=
 ∀ J1 : AV → AV → List AV → List AV → List AV → List AO → Prop,
 ∀ J2 : AV → AV → List AV → List AV → List AV → List AO → Prop,
 ∀ J3 : AV → AV → List AV → List AV → List AV → List AO → Prop,
 ∀ J4 : AV → AV → AV → AV → List AV → List AV → List AV → List AO → Prop,
 ∀ J5 : AV → AV → List AV → List AV → List AV → List AO → Prop,
 ∀ J6 : AV → AV → List AV → List AV → List AV → List AO → Prop,
 ∀ J7 : AV → AV → AV → AV → AV → List AV → List AV → List AV → List AO → Prop,
 ∀ J8 : AV → AV → AV → AV → AV → List AV → List AV → List AV → List AO → Prop,
 ∀ J9 : AV → AV → AV → AV → AV → List AV → List AV → List AV → List AO → Prop,
 ∀ J10 : AV → AV → AV → List AV → List AV → List AV → List AO → Prop,
 ∀ J11 : AV → AV → List AV → List AV → List AV → List AO → Prop,
 ∀ J12 : List AV → List AV → List AO → Prop,
 ∀ J13 : List AV → List AV → List AV → List AO → Prop,
 ∀ J14 : List AV → List AV → List AV → List AO → Prop,
 ∀ J15 : List AV → List AV → List AV → List AO → Prop,
 (∀ v15 v16 b1 b2 b5 hp, s32_1 C R J1 J15 v15 v16 b1 b2 b5 hp → J1 v15 v16 b1 b2 b5 hp) →
 (∀ v35 v36 b1 b2 b5 hp, s32_2 C R J2 J14 v35 v36 b1 b2 b5 hp → J2 v35 v36 b1 b2 b5 hp) →
 (∀ v55 v56 b1 b2 b5 hp, s32_3 C R J4 J13 v55 v56 b1 b2 b5 hp → J3 v55 v56 b1 b2 b5 hp) →
 (∀ v6 v7 v55 v56 b1 b2 b5 hp, s32_4 C R J4 J5 v6 v7 v55 v56 b1 b2 b5 hp → J4 v6 v7 v55 v56 b1 b2 b5 hp) →
 (∀ v55 v56 b1 b2 b5 hp, s32_5 C R J3 v55 v56 b1 b2 b5 hp → J5 v55 v56 b1 b2 b5 hp) →
 (∀ v127 v128 b1 b2 b5 hp, s32_6 C R J7 J12 v127 v128 b1 b2 b5 hp → J6 v127 v128 b1 b2 b5 hp) →
 (∀ v8 v127 v128 v141 v142 b1 b2 b5 hp, s32_7 C R J8 J10 v8 v127 v128 v141 v142 b1 b2 b5 hp → J7 v8 v127 v128 v141 v142 b1 b2 b5 hp) →
 (∀ v8 v127 v128 v141 v142 b1 b2 b5 hp, s32_8 C R J7 v8 v127 v128 v141 v142 b1 b2 b5 hp → J8 v8 v127 v128 v141 v142 b1 b2 b5 hp) →
 (∀ v8 v127 v128 v176 v177 b1 b2 b5 hp, s32_9 C R J9 J11 v8 v127 v128 v176 v177 b1 b2 b5 hp → J9 v8 v127 v128 v176 v177 b1 b2 b5 hp) →
 (∀ v8 v127 v128 b1 b2 b5 hp, s32_10 C R J9 v8 v127 v128 b1 b2 b5 hp → J10 v8 v127 v128 b1 b2 b5 hp) →
 (∀ v127 v128 b1 b2 b5 hp, s32_11 C R J6 v127 v128 b1 b2 b5 hp → J11 v127 v128 b1 b2 b5 hp) →
 (∀ b2 b5 hp, s32_12 C R b2 b5 hp → J12 b2 b5 hp) →
 (∀ b1 b2 b5 hp, s32_13 C R J6 b1 b2 b5 hp → J13 b1 b2 b5 hp) →
 (∀ b1 b2 b5 hp, s32_14 C R J3 b1 b2 b5 hp → J14 b1 b2 b5 hp) →
 (∀ b1 b2 b5 hp, s32_15 C R J2 b1 b2 b5 hp → J15 b1 b2 b5 hp) →
 s32_0 C R J1 v0 hp
def q32_15 (C : CallRel) (R : RP) : APost := (resQ a32.res R)
def p32_15 (C : CallRel) (R : RP) : APost := seqQ (fun st => awp C j32_15 (q32_15 C R) (st.keep [1, 2, 5])) (q32_15 C R)
def J32_15 (C : CallRel) (R : RP) (b1 : List AV) (b2 : List AV) (b5 : List AV) (hp : List AO) : Prop := awp C j32_15 (q32_15 C R) ⟨[(1, (.loc 1 0)), (2, (.loc 2 0)), (5, (.loc 5 0))], [(1, b1), (2, b2), (5, b5)], hp⟩
def p32_1 (C : CallRel) (R : RP) : APost := (blockQ 0 (p32_15 C R))
def J32_1 (C : CallRel) (R : RP) (v15 v16 : AV) (b1 : List AV) (b2 : List AV) (b5 : List AV) (hp : List AO) : Prop := awp C (.loop [1, 2, 5, 15, 16] j32_1) (p32_1 C R) ⟨[(1, (.loc 1 0)), (2, (.loc 2 0)), (5, (.loc 5 0)), (15, v15), (16, v16)], [(1, b1), (2, b2), (5, b5)], hp⟩
def q32_14 (C : CallRel) (R : RP) : APost := (resQ a32.res R)
def p32_14 (C : CallRel) (R : RP) : APost := seqQ (fun st => awp C j32_14 (q32_14 C R) (st.keep [1, 2, 5])) (q32_14 C R)
def J32_14 (C : CallRel) (R : RP) (b1 : List AV) (b2 : List AV) (b5 : List AV) (hp : List AO) : Prop := awp C j32_14 (q32_14 C R) ⟨[(1, (.loc 1 0)), (2, (.loc 2 0)), (5, (.loc 5 0))], [(1, b1), (2, b2), (5, b5)], hp⟩
def p32_2 (C : CallRel) (R : RP) : APost := (blockQ 2 (p32_14 C R))
def J32_2 (C : CallRel) (R : RP) (v35 v36 : AV) (b1 : List AV) (b2 : List AV) (b5 : List AV) (hp : List AO) : Prop := awp C (.loop [1, 2, 5, 35, 36] j32_2) (p32_2 C R) ⟨[(1, (.loc 1 0)), (2, (.loc 2 0)), (5, (.loc 5 0)), (35, v35), (36, v36)], [(1, b1), (2, b2), (5, b5)], hp⟩
def q32_13 (C : CallRel) (R : RP) : APost := (resQ a32.res R)
def p32_13 (C : CallRel) (R : RP) : APost := seqQ (fun st => awp C j32_13 (q32_13 C R) (st.keep [1, 2, 5])) (q32_13 C R)
def J32_13 (C : CallRel) (R : RP) (b1 : List AV) (b2 : List AV) (b5 : List AV) (hp : List AO) : Prop := awp C j32_13 (q32_13 C R) ⟨[(1, (.loc 1 0)), (2, (.loc 2 0)), (5, (.loc 5 0))], [(1, b1), (2, b2), (5, b5)], hp⟩
def p32_3 (C : CallRel) (R : RP) : APost := (blockQ 4 (p32_13 C R))
def J32_3 (C : CallRel) (R : RP) (v55 v56 : AV) (b1 : List AV) (b2 : List AV) (b5 : List AV) (hp : List AO) : Prop := awp C (.loop [1, 2, 5, 55, 56] j32_3) (p32_3 C R) ⟨[(1, (.loc 1 0)), (2, (.loc 2 0)), (5, (.loc 5 0)), (55, v55), (56, v56)], [(1, b1), (2, b2), (5, b5)], hp⟩
def q32_5 (C : CallRel) (R : RP) : APost := (seqQ (awp C (.loop [1, 2, 5, 55, 56] j32_3) (p32_3 C R)) (p32_3 C R))
def p32_5 (C : CallRel) (R : RP) : APost := seqQ (fun st => awp C j32_5 (q32_5 C R) (st.keep [1, 2, 5, 55, 56])) (q32_5 C R)
def J32_5 (C : CallRel) (R : RP) (v55 v56 : AV) (b1 : List AV) (b2 : List AV) (b5 : List AV) (hp : List AO) : Prop := awp C j32_5 (q32_5 C R) ⟨[(1, (.loc 1 0)), (2, (.loc 2 0)), (5, (.loc 5 0)), (55, v55), (56, v56)], [(1, b1), (2, b2), (5, b5)], hp⟩
def p32_4 (C : CallRel) (R : RP) : APost := (blockQ 6 (blockQ 5 (p32_5 C R)))
def J32_4 (C : CallRel) (R : RP) (v6 v7 v55 v56 : AV) (b1 : List AV) (b2 : List AV) (b5 : List AV) (hp : List AO) : Prop := awp C (.loop [1, 2, 5, 6, 7, 55, 56] j32_4) (p32_4 C R) ⟨[(1, (.loc 1 0)), (2, (.loc 2 0)), (5, (.loc 5 0)), (6, v6), (7, v7), (55, v55), (56, v56)], [(1, b1), (2, b2), (5, b5)], hp⟩
def q32_12 (C : CallRel) (R : RP) : APost := (resQ a32.res R)
def p32_12 (C : CallRel) (R : RP) : APost := seqQ (fun st => awp C j32_12 (q32_12 C R) (st.keep [2, 5])) (q32_12 C R)
def J32_12 (C : CallRel) (R : RP) (b2 : List AV) (b5 : List AV) (hp : List AO) : Prop := awp C j32_12 (q32_12 C R) ⟨[(2, (.loc 2 0)), (5, (.loc 5 0))], [(2, b2), (5, b5)], hp⟩
def p32_6 (C : CallRel) (R : RP) : APost := (blockQ 8 (p32_12 C R))
def J32_6 (C : CallRel) (R : RP) (v127 v128 : AV) (b1 : List AV) (b2 : List AV) (b5 : List AV) (hp : List AO) : Prop := awp C (.loop [1, 2, 5, 127, 128] j32_6) (p32_6 C R) ⟨[(1, (.loc 1 0)), (2, (.loc 2 0)), (5, (.loc 5 0)), (127, v127), (128, v128)], [(1, b1), (2, b2), (5, b5)], hp⟩
def q32_11 (C : CallRel) (R : RP) : APost := (seqQ (awp C (.loop [1, 2, 5, 127, 128] j32_6) (p32_6 C R)) (p32_6 C R))
def p32_11 (C : CallRel) (R : RP) : APost := seqQ (fun st => awp C j32_11 (q32_11 C R) (st.keep [1, 2, 5, 127, 128])) (q32_11 C R)
def J32_11 (C : CallRel) (R : RP) (v127 v128 : AV) (b1 : List AV) (b2 : List AV) (b5 : List AV) (hp : List AO) : Prop := awp C j32_11 (q32_11 C R) ⟨[(1, (.loc 1 0)), (2, (.loc 2 0)), (5, (.loc 5 0)), (127, v127), (128, v128)], [(1, b1), (2, b2), (5, b5)], hp⟩
def q32_10 (C : CallRel) (R : RP) : APost := (blockQ 9 (p32_11 C R))
def p32_10 (C : CallRel) (R : RP) : APost := seqQ (fun st => awp C j32_10 (q32_10 C R) (st.keep [1, 2, 5, 8, 127, 128])) (q32_10 C R)
def J32_10 (C : CallRel) (R : RP) (v8 v127 v128 : AV) (b1 : List AV) (b2 : List AV) (b5 : List AV) (hp : List AO) : Prop := awp C j32_10 (q32_10 C R) ⟨[(1, (.loc 1 0)), (2, (.loc 2 0)), (5, (.loc 5 0)), (8, v8), (127, v127), (128, v128)], [(1, b1), (2, b2), (5, b5)], hp⟩
def p32_7 (C : CallRel) (R : RP) : APost := (blockQ 10 (p32_10 C R))
def J32_7 (C : CallRel) (R : RP) (v8 v127 v128 v141 v142 : AV) (b1 : List AV) (b2 : List AV) (b5 : List AV) (hp : List AO) : Prop := awp C (.loop [1, 2, 5, 8, 127, 128, 141, 142] j32_7) (p32_7 C R) ⟨[(1, (.loc 1 0)), (2, (.loc 2 0)), (5, (.loc 5 0)), (8, v8), (127, v127), (128, v128), (141, v141), (142, v142)], [(1, b1), (2, b2), (5, b5)], hp⟩
def q32_8 (C : CallRel) (R : RP) : APost := (seqQ (awp C (.loop [1, 2, 5, 8, 127, 128, 141, 142] j32_7) (p32_7 C R)) (p32_7 C R))
def p32_8 (C : CallRel) (R : RP) : APost := seqQ (fun st => awp C j32_8 (q32_8 C R) (st.keep [1, 2, 5, 8, 127, 128, 141, 142])) (q32_8 C R)
def J32_8 (C : CallRel) (R : RP) (v8 v127 v128 v141 v142 : AV) (b1 : List AV) (b2 : List AV) (b5 : List AV) (hp : List AO) : Prop := awp C j32_8 (q32_8 C R) ⟨[(1, (.loc 1 0)), (2, (.loc 2 0)), (5, (.loc 5 0)), (8, v8), (127, v127), (128, v128), (141, v141), (142, v142)], [(1, b1), (2, b2), (5, b5)], hp⟩
def p32_9 (C : CallRel) (R : RP) : APost := (blockQ 12 (blockQ 9 (p32_11 C R)))
def J32_9 (C : CallRel) (R : RP) (v8 v127 v128 v176 v177 : AV) (b1 : List AV) (b2 : List AV) (b5 : List AV) (hp : List AO) : Prop := awp C (.loop [1, 2, 5, 8, 127, 128, 176, 177] j32_9) (p32_9 C R) ⟨[(1, (.loc 1 0)), (2, (.loc 2 0)), (5, (.loc 5 0)), (8, v8), (127, v127), (128, v128), (176, v176), (177, v177)], [(1, b1), (2, b2), (5, b5)], hp⟩
theorem e32_1 {C : CallRel} {R : RP} {v15 v16 : AV} {b1 : List AV} {b2 : List AV} {b5 : List AV} {hp : List AO} : s32_1 C R (J32_1 C R) (J32_15 C R) v15 v16 b1 b2 b5 hp = xwp C x32_1 (seqQ (awp C (.loop [1, 2, 5, 15, 16] j32_1) (p32_1 C R)) (p32_1 C R)) (St.keep ⟨[(1, (.loc 1 0)), (2, (.loc 2 0)), (5, (.loc 5 0)), (15, v15), (16, v16)], [(1, b1), (2, b2), (5, b5)], hp⟩ [1, 2, 5, 15, 16]) := by kernel_rfl
theorem e32_2 {C : CallRel} {R : RP} {v35 v36 : AV} {b1 : List AV} {b2 : List AV} {b5 : List AV} {hp : List AO} : s32_2 C R (J32_2 C R) (J32_14 C R) v35 v36 b1 b2 b5 hp = xwp C x32_2 (seqQ (awp C (.loop [1, 2, 5, 35, 36] j32_2) (p32_2 C R)) (p32_2 C R)) (St.keep ⟨[(1, (.loc 1 0)), (2, (.loc 2 0)), (5, (.loc 5 0)), (35, v35), (36, v36)], [(1, b1), (2, b2), (5, b5)], hp⟩ [1, 2, 5, 35, 36]) := by kernel_rfl
theorem e32_3 {C : CallRel} {R : RP} {v55 v56 : AV} {b1 : List AV} {b2 : List AV} {b5 : List AV} {hp : List AO} : s32_3 C R (J32_4 C R) (J32_13 C R) v55 v56 b1 b2 b5 hp = xwp C x32_3 (seqQ (awp C (.loop [1, 2, 5, 55, 56] j32_3) (p32_3 C R)) (p32_3 C R)) (St.keep ⟨[(1, (.loc 1 0)), (2, (.loc 2 0)), (5, (.loc 5 0)), (55, v55), (56, v56)], [(1, b1), (2, b2), (5, b5)], hp⟩ [1, 2, 5, 55, 56]) := by kernel_rfl
theorem e32_4 {C : CallRel} {R : RP} {v6 v7 v55 v56 : AV} {b1 : List AV} {b2 : List AV} {b5 : List AV} {hp : List AO} : s32_4 C R (J32_4 C R) (J32_5 C R) v6 v7 v55 v56 b1 b2 b5 hp = xwp C x32_4 (seqQ (awp C (.loop [1, 2, 5, 6, 7, 55, 56] j32_4) (p32_4 C R)) (p32_4 C R)) (St.keep ⟨[(1, (.loc 1 0)), (2, (.loc 2 0)), (5, (.loc 5 0)), (6, v6), (7, v7), (55, v55), (56, v56)], [(1, b1), (2, b2), (5, b5)], hp⟩ [1, 2, 5, 6, 7, 55, 56]) := by kernel_rfl
theorem e32_5 {C : CallRel} {R : RP} {v55 v56 : AV} {b1 : List AV} {b2 : List AV} {b5 : List AV} {hp : List AO} : s32_5 C R (J32_3 C R) v55 v56 b1 b2 b5 hp = xwp C x32_5 (q32_5 C R) ⟨[(1, (.loc 1 0)), (2, (.loc 2 0)), (5, (.loc 5 0)), (55, v55), (56, v56)], [(1, b1), (2, b2), (5, b5)], hp⟩ := by kernel_rfl
theorem e32_6 {C : CallRel} {R : RP} {v127 v128 : AV} {b1 : List AV} {b2 : List AV} {b5 : List AV} {hp : List AO} : s32_6 C R (J32_7 C R) (J32_12 C R) v127 v128 b1 b2 b5 hp = xwp C x32_6 (seqQ (awp C (.loop [1, 2, 5, 127, 128] j32_6) (p32_6 C R)) (p32_6 C R)) (St.keep ⟨[(1, (.loc 1 0)), (2, (.loc 2 0)), (5, (.loc 5 0)), (127, v127), (128, v128)], [(1, b1), (2, b2), (5, b5)], hp⟩ [1, 2, 5, 127, 128]) := by kernel_rfl
theorem e32_7 {C : CallRel} {R : RP} {v8 v127 v128 v141 v142 : AV} {b1 : List AV} {b2 : List AV} {b5 : List AV} {hp : List AO} : s32_7 C R (J32_8 C R) (J32_10 C R) v8 v127 v128 v141 v142 b1 b2 b5 hp = xwp C x32_7 (seqQ (awp C (.loop [1, 2, 5, 8, 127, 128, 141, 142] j32_7) (p32_7 C R)) (p32_7 C R)) (St.keep ⟨[(1, (.loc 1 0)), (2, (.loc 2 0)), (5, (.loc 5 0)), (8, v8), (127, v127), (128, v128), (141, v141), (142, v142)], [(1, b1), (2, b2), (5, b5)], hp⟩ [1, 2, 5, 8, 127, 128, 141, 142]) := by kernel_rfl
theorem e32_8 {C : CallRel} {R : RP} {v8 v127 v128 v141 v142 : AV} {b1 : List AV} {b2 : List AV} {b5 : List AV} {hp : List AO} : s32_8 C R (J32_7 C R) v8 v127 v128 v141 v142 b1 b2 b5 hp = xwp C x32_8 (q32_8 C R) ⟨[(1, (.loc 1 0)), (2, (.loc 2 0)), (5, (.loc 5 0)), (8, v8), (127, v127), (128, v128), (141, v141), (142, v142)], [(1, b1), (2, b2), (5, b5)], hp⟩ := by kernel_rfl
theorem e32_9 {C : CallRel} {R : RP} {v8 v127 v128 v176 v177 : AV} {b1 : List AV} {b2 : List AV} {b5 : List AV} {hp : List AO} : s32_9 C R (J32_9 C R) (J32_11 C R) v8 v127 v128 v176 v177 b1 b2 b5 hp = xwp C x32_9 (seqQ (awp C (.loop [1, 2, 5, 8, 127, 128, 176, 177] j32_9) (p32_9 C R)) (p32_9 C R)) (St.keep ⟨[(1, (.loc 1 0)), (2, (.loc 2 0)), (5, (.loc 5 0)), (8, v8), (127, v127), (128, v128), (176, v176), (177, v177)], [(1, b1), (2, b2), (5, b5)], hp⟩ [1, 2, 5, 8, 127, 128, 176, 177]) := by kernel_rfl
theorem e32_10 {C : CallRel} {R : RP} {v8 v127 v128 : AV} {b1 : List AV} {b2 : List AV} {b5 : List AV} {hp : List AO} : s32_10 C R (J32_9 C R) v8 v127 v128 b1 b2 b5 hp = xwp C x32_10 (q32_10 C R) ⟨[(1, (.loc 1 0)), (2, (.loc 2 0)), (5, (.loc 5 0)), (8, v8), (127, v127), (128, v128)], [(1, b1), (2, b2), (5, b5)], hp⟩ := by kernel_rfl
theorem e32_11 {C : CallRel} {R : RP} {v127 v128 : AV} {b1 : List AV} {b2 : List AV} {b5 : List AV} {hp : List AO} : s32_11 C R (J32_6 C R) v127 v128 b1 b2 b5 hp = xwp C x32_11 (q32_11 C R) ⟨[(1, (.loc 1 0)), (2, (.loc 2 0)), (5, (.loc 5 0)), (127, v127), (128, v128)], [(1, b1), (2, b2), (5, b5)], hp⟩ := by kernel_rfl
theorem e32_12 {C : CallRel} {R : RP} {b2 : List AV} {b5 : List AV} {hp : List AO} : s32_12 C R b2 b5 hp = xwp C x32_12 (q32_12 C R) ⟨[(2, (.loc 2 0)), (5, (.loc 5 0))], [(2, b2), (5, b5)], hp⟩ := by kernel_rfl
theorem e32_13 {C : CallRel} {R : RP} {b1 : List AV} {b2 : List AV} {b5 : List AV} {hp : List AO} : s32_13 C R (J32_6 C R) b1 b2 b5 hp = xwp C x32_13 (q32_13 C R) ⟨[(1, (.loc 1 0)), (2, (.loc 2 0)), (5, (.loc 5 0))], [(1, b1), (2, b2), (5, b5)], hp⟩ := by kernel_rfl
theorem e32_14 {C : CallRel} {R : RP} {b1 : List AV} {b2 : List AV} {b5 : List AV} {hp : List AO} : s32_14 C R (J32_3 C R) b1 b2 b5 hp = xwp C x32_14 (q32_14 C R) ⟨[(1, (.loc 1 0)), (2, (.loc 2 0)), (5, (.loc 5 0))], [(1, b1), (2, b2), (5, b5)], hp⟩ := by kernel_rfl
theorem e32_15 {C : CallRel} {R : RP} {b1 : List AV} {b2 : List AV} {b5 : List AV} {hp : List AO} : s32_15 C R (J32_2 C R) b1 b2 b5 hp = xwp C x32_15 (q32_15 C R) ⟨[(1, (.loc 1 0)), (2, (.loc 2 0)), (5, (.loc 5 0))], [(1, b1), (2, b2), (5, b5)], hp⟩ := by kernel_rfl
theorem e32_0 {C : CallRel} {R : RP} {v0 : AV} {hp : List AO} : s32_0 C R (J32_1 C R) v0 hp = xwp C x32_0 (resQ a32.res R) ⟨enum 0 [v0], [], hp⟩ := by kernel_rfl
theorem w32 {C : CallRel} {R : RP} {v0 : AV} {hp : List AO} (hC : CMono C) (h : s32 C R v0 hp) : awp C a32.body (resQ a32.res R) ⟨enum 0 [v0], [], hp⟩ :=
 cut_in hC e32_0 (h (J32_1 C R) (J32_2 C R) (J32_3 C R) (J32_4 C R) (J32_5 C R) (J32_6 C R) (J32_7 C R) (J32_8 C R) (J32_9 C R) (J32_10 C R) (J32_11 C R) (J32_12 C R) (J32_13 C R) (J32_14 C R) (J32_15 C R)
 (fun _ _ _ _ _ _ h => cut_loop hC e32_1 h)
 (fun _ _ _ _ _ _ h => cut_loop hC e32_2 h)
 (fun _ _ _ _ _ _ h => cut_loop hC e32_3 h)
 (fun _ _ _ _ _ _ _ _ h => cut_loop hC e32_4 h)
 (fun _ _ _ _ _ _ h => cut_in hC e32_5 h)
 (fun _ _ _ _ _ _ h => cut_loop hC e32_6 h)
 (fun _ _ _ _ _ _ _ _ _ h => cut_loop hC e32_7 h)
 (fun _ _ _ _ _ _ _ _ _ h => cut_in hC e32_8 h)
 (fun _ _ _ _ _ _ _ _ _ h => cut_loop hC e32_9 h)
 (fun _ _ _ _ _ _ _ h => cut_in hC e32_10 h)
 (fun _ _ _ _ _ _ h => cut_in hC e32_11 h)
 (fun _ _ _ h => cut_in hC e32_12 h)
 (fun _ _ _ _ h => cut_in hC e32_13 h)
 (fun _ _ _ _ h => cut_in hC e32_14 h)
 (fun _ _ _ _ h => cut_in hC e32_15 h))
/-! ### 35 (*rewind/lean.faller).list -/
def s35_1 (C : CallRel) (R : RP) (J3 : AV → AV → AV → AV → AV → AV → AV → AV → List AO → Prop) (v0 v1 v2 v10 v11 v12 : AV) (hp : List AO) : Prop :=
 bv (abin .lss v12 v11) fun t13 =>
 cnd t13 (bv (ixaV 1 v10 v12) fun t15 =>
 bv (ldH hp 1 false t15) fun t16 =>
 bv (abin .add v12 (.int .i64 1)) fun t19 =>
 bv (lenV false v1) fun t21 =>
 bv (abin .lss t19 t21) fun t22 =>
 cnd t22 (bv (abin .add v12 (.int .i64 1)) fun t25 =>
 bv (ixaV 1 v1 t25) fun t26 =>
 bv (ldH hp 1 false t26) fun t27 =>
 J3 v0 v1 v2 t16 t27 v10 v11 v12 hp) (J3 v0 v1 v2 t16 v2 v10 v11 v12 hp)) (retQ R hp (some []))
def s35_2 (C : CallRel) (R : RP) (J4 : AV → AV → AV → AV → AV → AV → List AO → Prop) (v0 v1 v2 v8 v10 v11 v12 : AV) (b9 : List AV) (hp : List AO) : Prop :=
 bv (ld 1 false b9 7) fun t49 =>
 callK C 35 [v0, t49, v8] hp <| rx (pn R) fun t51 hp2 =>
 bv (ld 1 false b9 8) fun t54 =>
 callK C 35 [v0, t54, v8] hp2 <| rx (pn R) fun t56 hp3 =>
 J4 v0 v1 v2 v10 v11 v12 hp3
def s35_3 (C : CallRel) (R : RP) (J2 : AV → AV → AV → AV → AV → AV → AV → List AV → List AO → Prop) (v0 v1 v2 v7 v8 v10 v11 v12 : AV) (hp : List AO) : Prop :=
 bv (nilckV v0) fun t29 =>
 bv (faddV 3 t29) fun t30 =>
 bv (ldH hp 1 false t30) fun t31 =>
 bv (ixaV 1 t31 v7) fun t34 =>
 bs (stH hp 1 v8 t34) fun hp1 =>
 bv (nilckV v0) fun t36 =>
 bv (faddV 0 t36) fun t37 =>
 bv (faddV 1 t37) fun t38 =>
 bv (ldH hp1 1 false t38) fun t39 =>
 bv (ixaV 9 t39 v7) fun t41 =>
 bv (ldH hp1 9 true t41) fun t42 =>
 ifT (notLoc 9 v0 && (notLoc 9 v1 && (notLoc 9 v2 && (notLoc 9 v7 && (notLoc 9 v8 && (notLoc 9 v10 && (notLoc 9 v11 && (notLoc 9 v12 && (notLoc 9 v0 && (notLoc 9 t36 && (notLoc 9 t37 && (notLoc 9 t38 && (notLoc 9 t39 && (notLoc 9 v7 && (notLoc 9 t41 && (notLoc 9 t42 && true)))))))))))))))) <|
 ifT (okv 9 t42) <|
 bl (upd 0 (AV.cells t42) ([.int .i64 0, .int .i64 0, .int .i64 0, .str [], .int .i64 0, .int .i64 0, .int .i64 0, .sl .cap0 1 [], .sl .cap0 1 []])) fun b9_1 =>
 bv (ld 1 false b9_1 0) fun t44 =>
 bv (abin .eql t44 (.int .i64 6)) fun t45 =>
 cnd t45 (J2 v0 v1 v2 v7 v10 v11 v12 b9_1 hp1) (J2 v0 v1 v2 v8 v10 v11 v12 b9_1 hp1)
def s35_4 (C : CallRel) (R : RP) (J1 : AV → AV → AV → AV → AV → AV → List AO → Prop) (v0 v1 v2 v10 v11 v12 : AV) (hp : List AO) : Prop :=
 bv (abin .add v12 (.int .i64 1)) fun t57 =>
 J1 v0 v1 v2 v10 v11 t57 hp
def s35_0 (C : CallRel) (R : RP) (J1 : AV → AV → AV → AV → AV → AV → List AO → Prop) (v0 v1 v2 : AV) (hp : List AO) : Prop :=
 bv (lenV false v1) fun t11 =>
 J1 v0 v1 v2 v1 t11 (.int .i64 0) hp
def s35 (C : CallRel) (R : RP) (v0 v1 v2 : AV) (hp : List AO) : Prop :=
 ∀ J1 : AV → AV → AV → AV → AV → AV → List AO → Prop,
 ∀ J2 : AV → AV → AV → AV → AV → AV → AV → List AV → List AO → Prop,
 ∀ J3 : AV → AV → AV → AV → AV → AV → AV → AV → List AO → Prop,
 ∀ J4 : AV → AV → AV → AV → AV → AV → List AO → Prop,
 (∀ v0 v1 v2 v10 v11 v12 hp, s35_1 C R J3 v0 v1 v2 v10 v11 v12 hp → J1 v0 v1 v2 v10 v11 v12 hp) →
 (∀ v0 v1 v2 v8 v10 v11 v12 b9 hp, s35_2 C R J4 v0 v1 v2 v8 v10 v11 v12 b9 hp → J2 v0 v1 v2 v8 v10 v11 v12 b9 hp) →
 (∀ v0 v1 v2 v7 v8 v10 v11 v12 hp, s35_3 C R J2 v0 v1 v2 v7 v8 v10 v11 v12 hp → J3 v0 v1 v2 v7 v8 v10 v11 v12 hp) →
 (∀ v0 v1 v2 v10 v11 v12 hp, s35_4 C R J1 v0 v1 v2 v10 v11 v12 hp → J4 v0 v1 v2 v10 v11 v12 hp) →
 s35_0 C R J1 v0 v1 v2 hp
def p35_1 (C : CallRel) (R : RP) : APost := (blockQ 0 (resQ a35.res R))
def J35_1 (C : CallRel) (R : RP) (v0 v1 v2 v10 v11 v12 : AV) (hp : List AO) : Prop := awp C (.loop [0, 1, 2, 10, 11, 12] j35_1) (p35_1 C R) ⟨[(0, v0), (1, v1), (2, v2), (10, v10), (11, v11), (12, v12)], [], hp⟩
def q35_4 (C : CallRel) (R : RP) : APost := (seqQ (awp C (.loop [0, 1, 2, 10, 11, 12] j35_1) (p35_1 C R)) (p35_1 C R))
def p35_4 (C : CallRel) (R : RP) : APost := seqQ (fun st => awp C j35_4 (q35_4 C R) (st.keep [0, 1, 2, 10, 11, 12])) (q35_4 C R)
def J35_4 (C : CallRel) (R : RP) (v0 v1 v2 v10 v11 v12 : AV) (hp : List AO) : Prop := awp C j35_4 (q35_4 C R) ⟨[(0, v0), (1, v1), (2, v2), (10, v10), (11, v11), (12, v12)], [], hp⟩
def q35_2 (C : CallRel) (R : RP) : APost := (blockQ 1 (p35_4 C R))
def p35_2 (C : CallRel) (R : RP) : APost := seqQ (fun st => awp C j35_2 (q35_2 C R) (st.keep [0, 1, 2, 8, 9, 10, 11, 12])) (q35_2 C R)
def J35_2 (C : CallRel) (R : RP) (v0 v1 v2 v8 v10 v11 v12 : AV) (b9 : List AV) (hp : List AO) : Prop := awp C j35_2 (q35_2 C R) ⟨[(0, v0), (1, v1), (2, v2), (8, v8), (9, (.loc 9 0)), (10, v10), (11, v11), (12, v12)], [(9, b9)], hp⟩
def q35_3 (C : CallRel) (R : RP) : APost := (blockQ 1 (p35_4 C R))
def p35_3 (C : CallRel) (R : RP) : APost := seqQ (fun st => awp C j35_3 (q35_3 C R) (st.keep [0, 1, 2, 7, 8, 10, 11, 12])) (q35_3 C R)
def J35_3 (C : CallRel) (R : RP) (v0 v1 v2 v7 v8 v10 v11 v12 : AV) (hp : List AO) : Prop := awp C j35_3 (q35_3 C R) ⟨[(0, v0), (1, v1), (2, v2), (7, v7), (8, v8), (10, v10), (11, v11), (12, v12)], [], hp⟩
theorem e35_1 {C : CallRel} {R : RP} {v0 v1 v2 v10 v11 v12 : AV} {hp : List AO} : s35_1 C R (J35_3 C R) v0 v1 v2 v10 v11 v12 hp = xwp C x35_1 (seqQ (awp C (.loop [0, 1, 2, 10, 11, 12] j35_1) (p35_1 C R)) (p35_1 C R)) (St.keep ⟨[(0, v0), (1, v1), (2, v2), (10, v10), (11, v11), (12, v12)], [], hp⟩ [0, 1, 2, 10, 11, 12]) := by kernel_rfl
theorem e35_2 {C : CallRel} {R : RP} {v0 v1 v2 v8 v10 v11 v12 : AV} {b9 : List AV} {hp : List AO} : s35_2 C R (J35_4 C R) v0 v1 v2 v8 v10 v11 v12 b9 hp = xwp C x35_2 (q35_2 C R) ⟨[(0, v0), (1, v1), (2, v2), (8, v8), (9, (.loc 9 0)), (10, v10), (11, v11), (12, v12)], [(9, b9)], hp⟩ := by kernel_rfl
theorem e35_3 {C : CallRel} {R : RP} {v0 v1 v2 v7 v8 v10 v11 v12 : AV} {hp : List AO} : s35_3 C R (J35_2 C R) v0 v1 v2 v7 v8 v10 v11 v12 hp = xwp C x35_3 (q35_3 C R) ⟨[(0, v0), (1, v1), (2, v2), (7, v7), (8, v8), (10, v10), (11, v11), (12, v12)], [], hp⟩ := by kernel_rfl
theorem e35_4 {C : CallRel} {R : RP} {v0 v1 v2 v10 v11 v12 : AV} {hp : List AO} : s35_4 C R (J35_1 C R) v0 v1 v2 v10 v11 v12 hp = xwp C x35_4 (q35_4 C R) ⟨[(0, v0), (1, v1), (2, v2), (10, v10), (11, v11), (12, v12)], [], hp⟩ := by kernel_rfl
theorem e35_0 {C : CallRel} {R : RP} {v0 v1 v2 : AV} {hp : List AO} : s35_0 C R (J35_1 C R) v0 v1 v2 hp = xwp C x35_0 (resQ a35.res R) ⟨enum 0 [v0, v1, v2], [], hp⟩ := by kernel_rfl
theorem w35 {C : CallRel} {R : RP} {v0 v1 v2 : AV} {hp : List AO} (hC : CMono C) (h : s35 C R v0 v1 v2 hp) : awp C a35.body (resQ a35.res R) ⟨enum 0 [v0, v1, v2], [], hp⟩ :=
 cut_in hC e35_0 (h (J35_1 C R) (J35_2 C R) (J35_3 C R) (J35_4 C R)
 (fun _ _ _ _ _ _ _ h => cut_loop hC e35_1 h)
 (fun _ _ _ _ _ _ _ _ _ h => cut_in hC e35_2 h)
 (fun _ _ _ _ _ _ _ _ _ h => cut_in hC e35_3 h)
 (fun _ _ _ _ _ _ _ h => cut_in hC e35_4 h))
/-! ### 36 rewind/rewindref07.lay -/
def s36_1 (C : CallRel) (R : RP) (J2 : AV → AV → AV → AV → AV → AV → AV → AV → List AV → List AV → List AO → Prop) (J4 : AV → List AO → Prop) (v1 v2 v3 v4 v15 v16 : AV) (b5 : List AV) (hp : List AO) : Prop :=
 bv (abin .lss v16 v15) fun t17 =>
 cnd t17 (ifT (((notLoc 12 v1 && (notLoc 12 v2 && (notLoc 12 v3 && (notLoc 12 v4 && (notLoc 12 v16 && (notLoc 12 v15 && (notLoc 12 v16 && true)))))))) && true) <|
 bv (ld 1 false b5 1) fun t20 =>
 bv (ixaV 1 v2 v16) fun t23 =>
 ifT (notLoc 12 v1 && (notLoc 12 v2 && (notLoc 12 v3 && (notLoc 12 v4 && (notLoc 12 v16 && (notLoc 12 v15 && (notLoc 12 v16 && (notLoc 12 t20 && (notLoc 12 v2 && (notLoc 12 v16 && (notLoc 12 t23 && true))))))))))) <|
 bv (ldH hp 1 false t23) fun t24 =>
 bv (ixaV 9 t20 t24) fun t25 =>
 bv (ldH hp 9 true t25) fun t26 =>
 ifT (okv 9 t26) <|
 bl (upd 0 (AV.cells t26) ([.int .i64 0, .int .i64 0, .int .i64 0, .str [], .int .i64 0, .int .i64 0, .int .i64 0, .sl .cap0 1 [], .sl .cap0 1 []])) fun b12_1 =>
 bv (ixaV 1 v2 v16) fun t30 =>
 bv (ldH hp 1 false t30) fun t31 =>
 bv (bld [.sl .cap0 1 [], .int .i64 0, .int .i64 0, .int .i64 0] [(0, 1, v2), (1, 1, v16), (2, 1, v3), (3, 1, v4)]) fun t36 =>
 bv (ixaV 4 v1 t31) fun t37 =>
 bs (stH hp 4 t36 t37) fun hp1 =>
 bv (ld 1 false b12_1 0) fun t40 =>
 bv (abin .eql t40 (.int .i64 6)) fun t41 =>
 cnd t41 (bv (ixaV 1 v2 v16) fun t44 =>
 bv (ldH hp1 1 false t44) fun t45 =>
 J2 v1 v2 v3 v4 v16 t45 v15 v16 b5 b12_1 hp1) (J2 v1 v2 v3 v4 v16 v4 v15 v16 b5 b12_1 hp1)) (J4 v1 hp)
def s36_2 (C : CallRel) (R : RP) (J3 : AV → AV → AV → AV → AV → AV → List AV → List AO → Prop) (v1 v2 v3 v4 v11 v13 v15 v16 : AV) (b5 : List AV) (b12 : List AV) (hp : List AO) : Prop :=
 bv (ld 3 true b5 0) fun t46 =>
 bv (ld 1 false b12 7) fun t49 =>
 bv (ixaV 1 v2 v11) fun t52 =>
 bv (ldH hp 1 false t52) fun t53 =>
 callK C 36 [t46, v1, t49, t53, v13] hp <| rx (pn R) fun t55 hp2 =>
 bv (ld 3 true b5 0) fun t56 =>
 bv (ld 1 false b12 8) fun t59 =>
 bv (ixaV 1 v2 v11) fun t62 =>
 bv (ldH hp2 1 false t62) fun t63 =>
 callK C 36 [t56, t55, t59, t63, v13] hp2 <| rx (pn R) fun t65 hp3 =>
 J3 t65 v2 v3 v4 v15 v16 b5 hp3
def s36_3 (C : CallRel) (R : RP) (J1 : AV → AV → AV → AV → AV → AV → List AV → List AO → Prop) (v1 v2 v3 v4 v15 v16 : AV) (b5 : List AV) (hp : List AO) : Prop :=
 bv (abin .add v16 (.int .i64 1)) fun t66 =>
 J1 v1 v2 v3 v4 v15 t66 b5 hp
def s36_4 (C : CallRel) (R : RP) (v1 : AV) (hp : List AO) : Prop :=
 retQ R hp (some [v1])
def s36_0 (C : CallRel) (R : RP) (J1 : AV → AV → AV → AV → AV → AV → List AV → List AO → Prop) (v0 v1 v2 v3 v4 : AV) (hp : List AO) : Prop :=
 ifT (AV.mem v0) <|
 ifT (notLoc 5 v0 && (notLoc 5 v1 && (notLoc 5 v2 && (notLoc 5 v3 && (notLoc 5 v4 && true))))) <|
 bv (lenV false v2) fun t15 =>
 J1 v1 v2 v3 v4 t15 (.int .i64 0) (AV.cells v0) hp
def s36 (C : CallRel) (R : RP) (v0 v1 v2 v3 v4 : AV) (hp : List AO) : Prop :=
 ∀ J1 : AV → AV → AV → AV → AV → AV → List AV → List AO → Prop,
 ∀ J2 : AV → AV → AV → AV → AV → AV → AV → AV → List AV → List AV → List AO → Prop,
 ∀ J3 : AV → AV → AV → AV → AV → AV → List AV → List AO → Prop,
 ∀ J4 : AV → List AO → Prop,
 (∀ v1 v2 v3 v4 v15 v16 b5 hp, s36_1 C R J2 J4 v1 v2 v3 v4 v15 v16 b5 hp → J1 v1 v2 v3 v4 v15 v16 b5 hp) →
 (∀ v1 v2 v3 v4 v11 v13 v15 v16 b5 b12 hp, s36_2 C R J3 v1 v2 v3 v4 v11 v13 v15 v16 b5 b12 hp → J2 v1 v2 v3 v4 v11 v13 v15 v16 b5 b12 hp) →
 (∀ v1 v2 v3 v4 v15 v16 b5 hp, s36_3 C R J1 v1 v2 v3 v4 v15 v16 b5 hp → J3 v1 v2 v3 v4 v15 v16 b5 hp) →
 (∀ v1 hp, s36_4 C R v1 hp → J4 v1 hp) →
 s36_0 C R J1 v0 v1 v2 v3 v4 hp
def q36_4 (C : CallRel) (R : RP) : APost := (resQ a36.res R)
def p36_4 (C : CallRel) (R : RP) : APost := seqQ (fun st => awp C j36_4 (q36_4 C R) (st.keep [1])) (q36_4 C R)
def J36_4 (C : CallRel) (R : RP) (v1 : AV) (hp : List AO) : Prop := awp C j36_4 (q36_4 C R) ⟨[(1, v1)], [], hp⟩
def p36_1 (C : CallRel) (R : RP) : APost := (blockQ 0 (p36_4 C R))
def J36_1 (C : CallRel) (R : RP) (v1 v2 v3 v4 v15 v16 : AV) (b5 : List AV) (hp : List AO) : Prop := awp C (.loop [1, 2, 3, 4, 5, 15, 16] j36_1) (p36_1 C R) ⟨[(1, v1), (2, v2), (3, v3), (4, v4), (5, (.loc 5 0)), (15, v15), (16, v16)], [(5, b5)], hp⟩
def q36_3 (C : CallRel) (R : RP) : APost := (seqQ (awp C (.loop [1, 2, 3, 4, 5, 15, 16] j36_1) (p36_1 C R)) (p36_1 C R))
def p36_3 (C : CallRel) (R : RP) : APost := seqQ (fun st => awp C j36_3 (q36_3 C R) (st.keep [1, 2, 3, 4, 5, 15, 16])) (q36_3 C R)
def J36_3 (C : CallRel) (R : RP) (v1 v2 v3 v4 v15 v16 : AV) (b5 : List AV) (hp : List AO) : Prop := awp C j36_3 (q36_3 C R) ⟨[(1, v1), (2, v2), (3, v3), (4, v4), (5, (.loc 5 0)), (15, v15), (16, v16)], [(5, b5)], hp⟩
def q36_2 (C : CallRel) (R : RP) : APost := (blockQ 1 (p36_3 C R))
def p36_2 (C : CallRel) (R : RP) : APost := seqQ (fun st => awp C j36_2 (q36_2 C R) (st.keep [1, 2, 3, 4, 5, 11, 12, 13, 15, 16])) (q36_2 C R)
def J36_2 (C : CallRel) (R : RP) (v1 v2 v3 v4 v11 v13 v15 v16 : AV) (b5 : List AV) (b12 : List AV) (hp : List AO) : Prop := awp C j36_2 (q36_2 C R) ⟨[(1, v1), (2, v2), (3, v3), (4, v4), (5, (.loc 5 0)), (11, v11), (12, (.loc 12 0)), (13, v13), (15, v15), (16, v16)], [(5, b5), (12, b12)], hp⟩
theorem e36_1 {C : CallRel} {R : RP} {v1 v2 v3 v4 v15 v16 : AV} {b5 : List AV} {hp : List AO} : s36_1 C R (J36_2 C R) (J36_4 C R) v1 v2 v3 v4 v15 v16 b5 hp = xwp C x36_1 (seqQ (awp C (.loop [1, 2, 3, 4, 5, 15, 16] j36_1) (p36_1 C R)) (p36_1 C R)) (St.keep ⟨[(1, v1), (2, v2), (3, v3), (4, v4), (5, (.loc 5 0)), (15, v15), (16, v16)], [(5, b5)], hp⟩ [1, 2, 3, 4, 5, 15, 16]) := by kernel_rfl
theorem e36_2 {C : CallRel} {R : RP} {v1 v2 v3 v4 v11 v13 v15 v16 : AV} {b5 : List AV} {b12 : List AV} {hp : List AO} : s36_2 C R (J36_3 C R) v1 v2 v3 v4 v11 v13 v15 v16 b5 b12 hp = xwp C x36_2 (q36_2 C R) ⟨[(1, v1), (2, v2), (3, v3), (4, v4), (5, (.loc 5 0)), (11, v11), (12, (.loc 12 0)), (13, v13), (15, v15), (16, v16)], [(5, b5), (12, b12)], hp⟩ := by kernel_rfl
theorem e36_3 {C : CallRel} {R : RP} {v1 v2 v3 v4 v15 v16 : AV} {b5 : List AV} {hp : List AO} : s36_3 C R (J36_1 C R) v1 v2 v3 v4 v15 v16 b5 hp = xwp C x36_3 (q36_3 C R) ⟨[(1, v1), (2, v2), (3, v3), (4, v4), (5, (.loc 5 0)), (15, v15), (16, v16)], [(5, b5)], hp⟩ := by kernel_rfl
theorem e36_4 {C : CallRel} {R : RP} {v1 : AV} {hp : List AO} : s36_4 C R v1 hp = xwp C x36_4 (q36_4 C R) ⟨[(1, v1)], [], hp⟩ := by kernel_rfl
theorem e36_0 {C : CallRel} {R : RP} {v0 v1 v2 v3 v4 : AV} {hp : List AO} : s36_0 C R (J36_1 C R) v0 v1 v2 v3 v4 hp = xwp C x36_0 (resQ a36.res R) ⟨enum 0 [v0, v1, v2, v3, v4], [], hp⟩ := by kernel_rfl
theorem w36 {C : CallRel} {R : RP} {v0 v1 v2 v3 v4 : AV} {hp : List AO} (hC : CMono C) (h : s36 C R v0 v1 v2 v3 v4 hp) : awp C a36.body (resQ a36.res R) ⟨enum 0 [v0, v1, v2, v3, v4], [], hp⟩ :=
 cut_in hC e36_0 (h (J36_1 C R) (J36_2 C R) (J36_3 C R) (J36_4 C R)
 (fun _ _ _ _ _ _ _ _ h => cut_loop hC e36_1 h)
 (fun _ _ _ _ _ _ _ _ _ _ _ h => cut_in hC e36_2 h)
 (fun _ _ _ _ _ _ _ _ h => cut_in hC e36_3 h)
 (fun _ _ h => cut_in hC e36_4 h))
/-! ### 40 (*rewind/fence.tree).finish$1 -/
def s40_1 (C : CallRel) (R : RP) (J2 : AV → AV → AV → AV → AV → AV → AV → List AO → Prop) (J3 : AV → AV → List AO → Prop) (v0 v1 v3 v4 v14 v15 v16 : AV) (hp : List AO) : Prop :=
 bv (abin .lss v16 v15) fun t17 =>
 cnd t17 (bv (ixaV 1 v14 v16) fun t18 =>
 bv (ldH hp 1 false t18) fun t19 =>
 bv (ldH hp 1 false v1) fun t20 =>
 bv (ixaV 1 t20 t19) fun t22 =>
 bv (ldH hp 1 false t22) fun t23 =>
 bv (aun .not t23) fun t24 =>
 cnd t24 (bv (ldH hp 1 false v3) fun t25 =>
 callVK C [t19] hp (rx (pn R) fun t27 hp2 =>
 J2 v0 v1 v3 v4 v14 v15 v16 hp2) t25) (J2 v0 v1 v3 v4 v14 v15 v16 hp)) (J3 v0 v4 hp)
def s40_2 (C : CallRel) (R : RP) (J1 : AV → AV → AV → AV → AV → AV → AV → List AO → Prop) (v0 v1 v3 v4 v14 v15 v16 : AV) (hp : List AO) : Prop :=
 bv (abin .add v16 (.int .i64 1)) fun t28 =>
 J1 v0 v1 v3 v4 v14 v15 t28 hp
def s40_3 (C : CallRel) (R : RP) (v0 v4 : AV) (hp : List AO) : Prop :=
 bv (ldH hp 1 false v4) fun t29 =>
 bv (mkSlV 1 [v0]) fun t31 =>
 ba (apx true 1 hp t29 t31) fun t32 hp3 =>
 bs (stH hp3 1 t32 v4) fun hp4 =>
 retQ R hp4 (some [])
def s40_0 (C : CallRel) (R : RP) (J1 : AV → AV → AV → AV → AV → AV → AV → List AO → Prop) (v0 v1 v2 v3 v4 : AV) (hp : List AO) : Prop :=
 bv (ldH hp 1 false v1) fun t8 =>
 bv (ixaV 1 t8 v0) fun t10 =>
 bs (stH hp 1 (.bool true) t10) fun hp1 =>
 bv (ldH hp1 1 false v2) fun t11 =>
 bv (ixaV 1 t11 v0) fun t13 =>
 bv (ldH hp1 1 false t13) fun t14 =>
 bv (lenV false t14) fun t15 =>
 J1 v0 v1 v3 v4 t14 t15 (.int .i64 0) hp1
def s40 (C : CallRel) (R : RP) (v0 v1 v2 v3 v4 : AV) (hp : List AO) : Prop :=
 ∀ J1 : AV → AV → AV → AV → AV → AV → AV → List AO → Prop,
 ∀ J2 : AV → AV → AV → AV → AV → AV → AV → List AO → Prop,
 ∀ J3 : AV → AV → List AO → Prop,
 (∀ v0 v1 v3 v4 v14 v15 v16 hp, s40_1 C R J2 J3 v0 v1 v3 v4 v14 v15 v16 hp → J1 v0 v1 v3 v4 v14 v15 v16 hp) →
 (∀ v0 v1 v3 v4 v14 v15 v16 hp, s40_2 C R J1 v0 v1 v3 v4 v14 v15 v16 hp → J2 v0 v1 v3 v4 v14 v15 v16 hp) →
 (∀ v0 v4 hp, s40_3 C R v0 v4 hp → J3 v0 v4 hp) →
 s40_0 C R J1 v0 v1 v2 v3 v4 hp
def q40_3 (C : CallRel) (R : RP) : APost := (resQ a40.res R)
def p40_3 (C : CallRel) (R : RP) : APost := seqQ (fun st => awp C j40_3 (q40_3 C R) (st.keep [0, 4])) (q40_3 C R)
def J40_3 (C : CallRel) (R : RP) (v0 v4 : AV) (hp : List AO) : Prop := awp C j40_3 (q40_3 C R) ⟨[(0, v0), (4, v4)], [], hp⟩
def p40_1 (C : CallRel) (R : RP) : APost := (blockQ 0 (p40_3 C R))
def J40_1 (C : CallRel) (R : RP) (v0 v1 v3 v4 v14 v15 v16 : AV) (hp : List AO) : Prop := awp C (.loop [0, 1, 3, 4, 14, 15, 16] j40_1) (p40_1 C R) ⟨[(0, v0), (1, v1), (3, v3), (4, v4), (14, v14), (15, v15), (16, v16)], [], hp⟩
def q40_2 (C : CallRel) (R : RP) : APost := (seqQ (awp C (.loop [0, 1, 3, 4, 14, 15, 16] j40_1) (p40_1 C R)) (p40_1 C R))
def p40_2 (C : CallRel) (R : RP) : APost := seqQ (fun st => awp C j40_2 (q40_2 C R) (st.keep [0, 1, 3, 4, 14, 15, 16])) (q40_2 C R)
def J40_2 (C : CallRel) (R : RP) (v0 v1 v3 v4 v14 v15 v16 : AV) (hp : List AO) : Prop := awp C j40_2 (q40_2 C R) ⟨[(0, v0), (1, v1), (3, v3), (4, v4), (14, v14), (15, v15), (16, v16)], [], hp⟩
theorem e40_1 {C : CallRel} {R : RP} {v0 v1 v3 v4 v14 v15 v16 : AV} {hp : List AO} : s40_1 C R (J40_2 C R) (J40_3 C R) v0 v1 v3 v4 v14 v15 v16 hp = xwp C x40_1 (seqQ (awp C (.loop [0, 1, 3, 4, 14, 15, 16] j40_1) (p40_1 C R)) (p40_1 C R)) (St.keep ⟨[(0, v0), (1, v1), (3, v3), (4, v4), (14, v14), (15, v15), (16, v16)], [], hp⟩ [0, 1, 3, 4, 14, 15, 16]) := by kernel_rfl
theorem e40_2 {C : CallRel} {R : RP} {v0 v1 v3 v4 v14 v15 v16 : AV} {hp : List AO} : s40_2 C R (J40_1 C R) v0 v1 v3 v4 v14 v15 v16 hp = xwp C x40_2 (q40_2 C R) ⟨[(0, v0), (1, v1), (3, v3), (4, v4), (14, v14), (15, v15), (16, v16)], [], hp⟩ := by kernel_rfl
theorem e40_3 {C : CallRel} {R : RP} {v0 v4 : AV} {hp : List AO} : s40_3 C R v0 v4 hp = xwp C x40_3 (q40_3 C R) ⟨[(0, v0), (4, v4)], [], hp⟩ := by kernel_rfl
theorem e40_0 {C : CallRel} {R : RP} {v0 v1 v2 v3 v4 : AV} {hp : List AO} : s40_0 C R (J40_1 C R) v0 v1 v2 v3 v4 hp = xwp C x40_0 (resQ a40.res R) ⟨enum 0 [v0, v1, v2, v3, v4], [], hp⟩ := by kernel_rfl
theorem w40 {C : CallRel} {R : RP} {v0 v1 v2 v3 v4 : AV} {hp : List AO} (hC : CMono C) (h : s40 C R v0 v1 v2 v3 v4 hp) : awp C a40.body (resQ a40.res R) ⟨enum 0 [v0, v1, v2, v3, v4], [], hp⟩ :=
 cut_in hC e40_0 (h (J40_1 C R) (J40_2 C R) (J40_3 C R)
 (fun _ _ _ _ _ _ _ _ h => cut_loop hC e40_1 h)
 (fun _ _ _ _ _ _ _ _ h => cut_in hC e40_2 h)
 (fun _ _ _ h => cut_in hC e40_3 h))
/-! ### 43 rewind/rewindref02.All -/
def s43_1 (C : CallRel) (R : RP) (J1 : AV → AV → AV → List AO → Prop) (v0 v5 v6 : AV) (hp : List AO) : Prop :=
 callK C 53 [v0, v6] hp <| rx (pn R) fun t15 hp1 =>
 bv (extV 0 t15) fun t16 =>
 bv (extV 1 t15) fun t17 =>
 ifT (notLoc 7 v0 && (notLoc 7 v5 && (notLoc 7 v6 && (notLoc 7 t15 && (notLoc 7 v0 && (notLoc 7 v6 && (notLoc 7 t15 && (notLoc 7 t16 && (notLoc 7 t17 && true))))))))) <|
 ifT (okv 3 t16) <|
 bl (upd 0 (AV.cells t16) [.int .i64 0, .int .i64 0, .int .i64 0]) fun b7_1 =>
 bv (abin .neq t17 (.int .i64 0)) fun t19 =>
 cnd t19 (bv (ld 1 false b7_1 1) fun t22 =>
 retQ R hp1 (some [(.sl .cap0 3 []), t22, t17])) (bv (ld 3 true b7_1 0) fun t25 =>
 bv (mkSlV 3 [t25]) fun t26 =>
 ba (apx false 3 hp1 v5 t26) fun t27 hp2 =>
 bv (ld 1 false b7_1 0) fun t29 =>
 bv (abin .eql t29 (.int .i64 0)) fun t30 =>
 cnd t30 (retQ R hp2 (some [t27, (.int .i64 0), (.int .i64 0)])) (bv (ld 1 false b7_1 2) fun t34 =>
 J1 v0 t27 t34 hp2))
def s43_0 (C : CallRel) (R : RP) (J1 : AV → AV → AV → List AO → Prop) (v0 : AV) (hp : List AO) : Prop :=
 bv (lenV true v0) fun t10 =>
 bv (abin .gtr t10 (.int .i64 20000)) fun t11 =>
 cnd t11 (retQ R hp (some [(.sl .cap0 3 []), (.int .i64 0), (.int .i64 1)])) (J1 v0 (.sl .cap0 3 []) (.int .i64 0) hp)
def s43 (C : CallRel) (R : RP) (v0 : AV) (hp : List AO) : Prop :=
 ∀ J1 : AV → AV → AV → List AO → Prop,
 (∀ v0 v5 v6 hp, s43_1 C R J1 v0 v5 v6 hp → J1 v0 v5 v6 hp) →
 s43_0 C R J1 v0 hp
def p43_1 (C : CallRel) (R : RP) : APost := (blockQ 0 (resQ a43.res R))
def J43_1 (C : CallRel) (R : RP) (v0 v5 v6 : AV) (hp : List AO) : Prop := awp C (.loop [0, 5, 6] j43_1) (p43_1 C R) ⟨[(0, v0), (5, v5), (6, v6)], [], hp⟩
theorem e43_1 {C : CallRel} {R : RP} {v0 v5 v6 : AV} {hp : List AO} : s43_1 C R (J43_1 C R) v0 v5 v6 hp = xwp C x43_1 (seqQ (awp C (.loop [0, 5, 6] j43_1) (p43_1 C R)) (p43_1 C R)) (St.keep ⟨[(0, v0), (5, v5), (6, v6)], [], hp⟩ [0, 5, 6]) := by kernel_rfl
theorem e43_0 {C : CallRel} {R : RP} {v0 : AV} {hp : List AO} : s43_0 C R (J43_1 C R) v0 hp = xwp C x43_0 (resQ a43.res R) ⟨enum 0 [v0], [], hp⟩ := by kernel_rfl
theorem w43 {C : CallRel} {R : RP} {v0 : AV} {hp : List AO} (hC : CMono C) (h : s43 C R v0 hp) : awp C a43.body (resQ a43.res R) ⟨enum 0 [v0], [], hp⟩ :=
 cut_in hC e43_0 (h (J43_1 C R)
 (fun _ _ _ _ h => cut_loop hC e43_1 h))
/-! ### 44 rewind/rewindref04.function -/
def s44_1 (C : CallRel) (R : RP) (J2 : AV → List AV → List AV → List AV → List AO → Prop) (J4 : AV → List AV → List AV → List AV → List AO → Prop) (v3 : AV) (b1 : List AV) (b2 : List AV) (b6 : List AV) (hp : List AO) : Prop :=
 bv (ld 1 false b1 6) fun t35 =>
 bv (abin .eql t35 (.int .i64 0)) fun t36 =>
 bv (gv (isB true t36) (ld 8 true b1 0)) fun t38 =>
 gcal C (isB true t36) 55 [t38, (.str [41])] hp (pn R) fun t39 hp7 =>
 bv (gv (isB true t36) (aun .not t39)) fun t40 =>
 bv (pickV t36 t40 (.bool false)) fun t41 =>
 cnd t41 (bv (ld 1 false b6 3) fun t43 =>
 bv (lenV false t43) fun t44 =>
 bv (abin .gtr t44 (.int .i64 0)) fun t45 =>
 cnd t45 (bv (ld 8 true b1 0) fun t46 =>
 callK C 58 [t46, (.str [44])] hp7 <| rx (pn R) fun t47 hp8 =>
 ifT (okv 8 t47) <|
 bl (upd 0 (AV.cells t47) b1) fun b1_5 =>
 J2 v3 b1_5 b2 b6 hp8) (J2 v3 b1 b2 b6 hp7)) (J4 v3 b1 b2 b6 hp7)
def s44_2 (C : CallRel) (R : RP) (J1 : AV → List AV → List AV → List AV → List AO → Prop) (v3 : AV) (b1 : List AV) (b2 : List AV) (b6 : List AV) (hp : List AO) : Prop :=
 bv (ld 8 true b1 0) fun t49 =>
 callK C 57 [t49, (.int .i64 1)] hp <| rx (pn R) fun t50 hp9 =>
 bv (extV 0 t50) fun t51 =>
 bv (extV 1 t50) fun t52 =>
 ifT (notLoc 7 v3 && (notLoc 7 t50 && (notLoc 7 t49 && (notLoc 7 t50 && (notLoc 7 t51 && (notLoc 7 t52 && true)))))) <|
 ifT (okv 8 t51) <|
 bl (upd 0 (AV.cells t51) ([.str [], .sl .cap0 3 [], .int .i64 0, .sl .cap0 9 [], .sl .cap0 9 [], .sl .cap0 6 [], .int .i64 0, .int .i64 0])) fun b7_6 =>
 bv (ld 8 true b7_6 0) fun t53 =>
 ifT (okv 8 t53) <|
 bl (upd 0 (AV.cells t53) b1) fun b1_7 =>
 bv (ld 1 false b6 3) fun t55 =>
 bv (mkSlV 1 [t52]) fun t57 =>
 ba (apx false 1 hp9 t55 t57) fun t58 hp10 =>
 ifT (okv 1 t58) <|
 bl (upd 3 (AV.cells t58) b6) fun b6_8 =>
 J1 v3 b1_7 b2 b6_8 hp10
def s44_3 (C : CallRel) (R : RP) (v3 : AV) (b1 : List AV) (b2 : List AV) (b6 : List AV) (hp : List AO) : Prop :=
 bv (ld 8 true b1 0) fun t68 =>
 callK C 59 [t68, (.int .i64 1)] hp <| rx (pn R) fun t69 hp14 =>
 bv (extV 0 t69) fun t70 =>
 bv (extV 1 t69) fun t71 =>
 ifT (notLoc 9 v3 && (notLoc 9 t69 && (notLoc 9 t68 && (notLoc 9 t69 && (notLoc 9 t70 && (notLoc 9 t71 && true)))))) <|
 ifT (okv 8 t70) <|
 bl (upd 0 (AV.cells t70) ([.str [], .sl .cap0 3 [], .int .i64 0, .sl .cap0 9 [], .sl .cap0 9 [], .sl .cap0 6 [], .int .i64 0, .int .i64 0])) fun b9_12 =>
 bv (ld 1 false b9_12 6) fun t73 =>
 bv (abin .neq t73 (.int .i64 0)) fun t74 =>
 cnd t74 (bv (ld 8 true b9_12 0) fun t75 =>
 ifT (okv 8 t75) <|
 bl (upd 0 (AV.cells t75) b2) fun b2_13 =>
 retQ R hp14 (Option.bind (ld 8 true b2_13 0) fun u14 => some [u14])) (ifT (okv 1 t71) <|
 bl (upd 5 (AV.cells t71) b6) fun b6_15 =>
 bv (ld 1 false b9_12 1) fun t80 =>
 bv (ld 1 false b9_12 2) fun t82 =>
 bv (abin .sub t82 (.int .i64 1)) fun t83 =>
 bv (ixaV 3 t80 t83) fun t84 =>
 bv (faddV 1 t84) fun t85 =>
 bv (faddV 1 t85) fun t86 =>
 bv (ldH hp14 1 false t86) fun t87 =>
 bv (bld [.int .i64 0, .int .i64 0] [(0, 1, v3), (1, 1, t87)]) fun t88 =>
 ifT (okv 2 t88) <|
 bl (upd 1 (AV.cells t88) b6_15) fun b6_16 =>
 bv (ld 1 false b9_12 5) fun t92 =>
 bv (ld 6 true b6_16 0) fun t93 =>
 bv (mkSlV 6 [t93]) fun t94 =>
 ba (apx false 6 hp14 t92 t94) fun t95 hp15 =>
 ifT (okv 1 t95) <|
 bl (upd 5 (AV.cells t95) b9_12) fun b9_17 =>
 bv (ld 8 true b9_17 0) fun t98 =>
 ifT (okv 8 t98) <|
 bl (upd 0 (AV.cells t98) b2) fun b2_18 =>
 retQ R hp15 (Option.bind (ld 8 true b2_18 0) fun u19 => some [u19]))
def s44_4 (C : CallRel) (R : RP) (J3 : AV → List AV → List AV → List AV → List AO → Prop) (v3 : AV) (b1 : List AV) (b2 : List AV) (b6 : List AV) (hp : List AO) : Prop :=
 bv (ld 8 true b1 0) fun t60 =>
 callK C 58 [t60, (.str [41])] hp <| rx (pn R) fun t61 hp11 =>
 ifT (okv 8 t61) <|
 bl (upd 0 (AV.cells t61) b1) fun b1_9 =>
 bv (ld 8 true b1_9 0) fun t62 =>
 callK C 55 [t62, (.str [105, 110, 116])] hp11 <| rx (pn R) fun t63 hp12 =>
 cnd t63 (bv (ld 8 true b1_9 0) fun t64 =>
 callK C 58 [t64, (.str [105, 110, 116])] hp12 <| rx (pn R) fun t65 hp13 =>
 ifT (okv 8 t65) <|
 bl (upd 0 (AV.cells t65) b1_9) fun b1_10 =>
 ifT (okv 1 (.int .i64 1)) <|
 bl (upd 4 (AV.cells (.int .i64 1)) b6) fun b6_11 =>
 J3 v3 b1_10 b2 b6_11 hp13) (J3 v3 b1_9 b2 b6 hp12)
def s44_5 (C : CallRel) (R : RP) (J1 : AV → List AV → List AV → List AV → List AO → Prop) (v3 : AV) (b1 : List AV) (b2 : List AV) (hp : List AO) : Prop :=
 bv (ld 8 true b1 0) fun t25 =>
 callK C 58 [t25, (.str [102, 117, 110, 99])] hp <| rx (pn R) fun t26 hp4 =>
 callK C 57 [t26, (.int .i64 1)] hp4 <| rx (pn R) fun t27 hp5 =>
 bv (extV 0 t27) fun t28 =>
 bv (extV 1 t27) fun t29 =>
 ifT (notLoc 4 v3 && (notLoc 4 t27 && (notLoc 4 t25 && (notLoc 4 t26 && (notLoc 4 t27 && (notLoc 4 t28 && (notLoc 4 t29 && true))))))) <|
 ifT (okv 8 t28) <|
 bl (upd 0 (AV.cells t28) ([.str [], .sl .cap0 3 [], .int .i64 0, .sl .cap0 9 [], .sl .cap0 9 [], .sl .cap0 6 [], .int .i64 0, .int .i64 0])) fun b4_2 =>
 bv (ld 8 true b4_2 0) fun t30 =>
 callK C 58 [t30, (.str [40])] hp5 <| rx (pn R) fun t31 hp6 =>
 ifT (okv 8 t31) <|
 bl (upd 0 (AV.cells t31) b1) fun b1_3 =>
 bv (bld [.str [], .int .i64 0, .int .i64 0, .sl .cap0 1 [], .int .i64 0, .sl .cap0 1 []] [(0, 1, t29), (4, 1, (.int .i64 4))]) fun t33 =>
 ifT (notLoc 6 v3 && (notLoc 6 t29 && (notLoc 6 t29 && (notLoc 6 t33 && true)))) <|
 ifT (okv 6 t33) <|
 bl (upd 0 (AV.cells t33) ([.str [], .int .i64 0, .int .i64 0, .sl .cap0 1 [], .int .i64 0, .sl .cap0 1 []])) fun b6_4 =>
 J1 v3 b1_3 b2 b6_4 hp6
def s44_0 (C : CallRel) (R : RP) (J5 : AV → List AV → List AV → List AO → Prop) (v0 : AV) (hp : List AO) : Prop :=
 ifT (AV.mem v0) <|
 ifT (notLoc 1 v0 && true) <|
 ifT (notLoc 2 v0 && true) <|
 bv (ld 8 true (AV.cells v0) 0) fun t11 =>
 callK C 54 [t11] hp <| rx (pn R) fun t12 hp1 =>
 bv (ld 8 true (AV.cells v0) 0) fun t13 =>
 callK C 55 [t13, (.str [102, 117, 110, 99])] hp1 <| rx (pn R) fun t14 hp2 =>
 bv (gv (isB true t14) (faddV 3 (.loc 1 0))) fun t16 =>
 bv (gv (isB true t14) (faddV 2 t16)) fun t17 =>
 bv (gv (isB true t14) (ldL [(1, (AV.cells v0)), (2, [.str [], .sl .cap0 3 [], .int .i64 0, .sl .cap0 9 [], .sl .cap0 9 [], .sl .cap0 6 [], .int .i64 0, .int .i64 0])] 1 false t17)) fun t18 =>
 bv (gv (isB true t14) (lenV false t18)) fun t19 =>
 bv (gv (isB true t14) (abin .geq t19 (.int .i64 32))) fun t20 =>
 bv (pickV t14 t20 (.bool false)) fun t21 =>
 cnd t21 (bv (ld 8 true (AV.cells v0) 0) fun t22 =>
 callK C 56 [t22, (.int .i64 5)] hp2 <| rx (pn R) fun t23 hp3 =>
 ifT (okv 8 t23) <|
 bl (upd 0 (AV.cells t23) (AV.cells v0)) fun b1_1 =>
 J5 t12 b1_1 ([.str [], .sl .cap0 3 [], .int .i64 0, .sl .cap0 9 [], .sl .cap0 9 [], .sl .cap0 6 [], .int .i64 0, .int .i64 0]) hp3) (J5 t12 (AV.cells v0) ([.str [], .sl .cap0 3 [], .int .i64 0, .sl .cap0 9 [], .sl .cap0 9 [], .sl .cap0 6 [], .int .i64 0, .int .i64 0]) hp2)
def s44 (C : CallRel) (R : RP) (v0 : AV) (hp : List AO) : Prop :=
 ∀ J1 : AV → List AV → List AV → List AV → List AO → Prop,
 ∀ J2 : AV → List AV → List AV → List AV → List AO → Prop,
 ∀ J3 : AV → List AV → List AV → List AV → List AO → Prop,
 ∀ J4 : AV → List AV → List AV → List AV → List AO → Prop,
 ∀ J5 : AV → List AV → List AV → List AO → Prop,
 (∀ v3 b1 b2 b6 hp, s44_1 C R J2 J4 v3 b1 b2 b6 hp → J1 v3 b1 b2 b6 hp) →
 (∀ v3 b1 b2 b6 hp, s44_2 C R J1 v3 b1 b2 b6 hp → J2 v3 b1 b2 b6 hp) →
 (∀ v3 b1 b2 b6 hp, s44_3 C R v3 b1 b2 b6 hp → J3 v3 b1 b2 b6 hp) →
 (∀ v3 b1 b2 b6 hp, s44_4 C R J3 v3 b1 b2 b6 hp → J4 v3 b1 b2 b6 hp) →
 (∀ v3 b1 b2 hp, s44_5 C R J1 v3 b1 b2 hp → J5 v3 b1 b2 hp) →
 s44_0 C R J5 v0 hp
def q44_4 (C : CallRel) (R : RP) : APost := (resQ a44.res R)
def p44_4 (C : CallRel) (R : RP) : APost := seqQ (fun st => awp C j44_4 (q44_4 C R) (st.keep [1, 2, 3, 6])) (q44_4 C R)
def J44_4 (C : CallRel) (R : RP) (v3 : AV) (b1 : List AV) (b2 : List AV) (b6 : List AV) (hp : List AO) : Prop := awp C j44_4 (q44_4 C R) ⟨[(1, (.loc 1 0)), (2, (.loc 2 0)), (3, v3), (6, (.loc 6 0))], [(1, b1), (2, b2), (6, b6)], hp⟩
def p44_1 (C : CallRel) (R : RP) : APost := (blockQ 0 (p44_4 C R))
def J44_1 (C : CallRel) (R : RP) (v3 : AV) (b1 : List AV) (b2 : List AV) (b6 : List AV) (hp : List AO) : Prop := awp C (.loop [1, 2, 3, 6] j44_1) (p44_1 C R) ⟨[(1, (.loc 1 0)), (2, (.loc 2 0)), (3, v3), (6, (.loc 6 0))], [(1, b1), (2, b2), (6, b6)], hp⟩
def q44_2 (C : CallRel) (R : RP) : APost := (blockQ 1 (seqQ (awp C (.loop [1, 2, 3, 6] j44_1) (p44_1 C R)) (p44_1 C R)))
def p44_2 (C : CallRel) (R : RP) : APost := seqQ (fun st => awp C j44_2 (q44_2 C R) (st.keep [1, 2, 3, 6])) (q44_2 C R)
def J44_2 (C : CallRel) (R : RP) (v3 : AV) (b1 : List AV) (b2 : List AV) (b6 : List AV) (hp : List AO) : Prop := awp C j44_2 (q44_2 C R) ⟨[(1, (.loc 1 0)), (2, (.loc 2 0)), (3, v3), (6, (.loc 6 0))], [(1, b1), (2, b2), (6, b6)], hp⟩
def q44_3 (C : CallRel) (R : RP) : APost := (resQ a44.res R)
def p44_3 (C : CallRel) (R : RP) : APost := seqQ (fun st => awp C j44_3 (q44_3 C R) (st.keep [1, 2, 3, 6])) (q44_3 C R)
def J44_3 (C : CallRel) (R : RP) (v3 : AV) (b1 : List AV) (b2 : List AV) (b6 : List AV) (hp : List AO) : Prop := awp C j44_3 (q44_3 C R) ⟨[(1, (.loc 1 0)), (2, (.loc 2 0)), (3, v3), (6, (.loc 6 0))], [(1, b1), (2, b2), (6, b6)], hp⟩
def q44_5 (C : CallRel) (R : RP) : APost := (resQ a44.res R)
def p44_5 (C : CallRel) (R : RP) : APost := seqQ (fun st => awp C j44_5 (q44_5 C R) (st.keep [1, 2, 3])) (q44_5 C R)
def J44_5 (C : CallRel) (R : RP) (v3 : AV) (b1 : List AV) (b2 : List AV) (hp : List AO) : Prop := awp C j44_5 (q44_5 C R) ⟨[(1, (.loc 1 0)), (2, (.loc 2 0)), (3, v3)], [(1, b1), (2, b2)], hp⟩
theorem e44_1 {C : CallRel} {R : RP} {v3 : AV} {b1 : List AV} {b2 : List AV} {b6 : List AV} {hp : List AO} : s44_1 C R (J44_2 C R) (J44_4 C R) v3 b1 b2 b6 hp = xwp C x44_1 (seqQ (awp C (.loop [1, 2, 3, 6] j44_1) (p44_1 C R)) (p44_1 C R)) (St.keep ⟨[(1, (.loc 1 0)), (2, (.loc 2 0)), (3, v3), (6, (.loc 6 0))], [(1, b1), (2, b2), (6, b6)], hp⟩ [1, 2, 3, 6]) := by kernel_rfl
theorem e44_2 {C : CallRel} {R : RP} {v3 : AV} {b1 : List AV} {b2 : List AV} {b6 : List AV} {hp : List AO} : s44_2 C R (J44_1 C R) v3 b1 b2 b6 hp = xwp C x44_2 (q44_2 C R) ⟨[(1, (.loc 1 0)), (2, (.loc 2 0)), (3, v3), (6, (.loc 6 0))], [(1, b1), (2, b2), (6, b6)], hp⟩ := by kernel_rfl
theorem e44_3 {C : CallRel} {R : RP} {v3 : AV} {b1 : List AV} {b2 : List AV} {b6 : List AV} {hp : List AO} : s44_3 C R v3 b1 b2 b6 hp = xwp C x44_3 (q44_3 C R) ⟨[(1, (.loc 1 0)), (2, (.loc 2 0)), (3, v3), (6, (.loc 6 0))], [(1, b1), (2, b2), (6, b6)], hp⟩ := by kernel_rfl
theorem e44_4 {C : CallRel} {R : RP} {v3 : AV} {b1 : List AV} {b2 : List AV} {b6 : List AV} {hp : List AO} : s44_4 C R (J44_3 C R) v3 b1 b2 b6 hp = xwp C x44_4 (q44_4 C R) ⟨[(1, (.loc 1 0)), (2, (.loc 2 0)), (3, v3), (6, (.loc 6 0))], [(1, b1), (2, b2), (6, b6)], hp⟩ := by kernel_rfl
theorem e44_5 {C : CallRel} {R : RP} {v3 : AV} {b1 : List AV} {b2 : List AV} {hp : List AO} : s44_5 C R (J44_1 C R) v3 b1 b2 hp = xwp C x44_5 (q44_5 C R) ⟨[(1, (.loc 1 0)), (2, (.loc 2 0)), (3, v3)], [(1, b1), (2, b2)], hp⟩ := by kernel_rfl
theorem e44_0 {C : CallRel} {R : RP} {v0 : AV} {hp : List AO} : s44_0 C R (J44_5 C R) v0 hp = xwp C x44_0 (resQ a44.res R) ⟨enum 0 [v0], [], hp⟩ := by kernel_rfl
theorem w44 {C : CallRel} {R : RP} {v0 : AV} {hp : List AO} (hC : CMono C) (h : s44 C R v0 hp) : awp C a44.body (resQ a44.res R) ⟨enum 0 [v0], [], hp⟩ :=
 cut_in hC e44_0 (h (J44_1 C R) (J44_2 C R) (J44_3 C R) (J44_4 C R) (J44_5 C R)
 (fun _ _ _ _ _ h => cut_loop hC e44_1 h)
 (fun _ _ _ _ _ h => cut_in hC e44_2 h)
 (fun _ _ _ _ _ h => cut_in hC e44_3 h)
 (fun _ _ _ _ _ h => cut_in hC e44_4 h)
 (fun _ _ _ _ h => cut_in hC e44_5 h))
/-! ### 45 rewind/rewindref06.need -/
def s45_1 (C : CallRel) (R : RP) (b4 : List AV) (b8 : List AV) (hp : List AO) : Prop :=
 bv (ld 14 true b4 0) fun t20 =>
 ifT (okv 14 t20) <|
 bl (upd 0 (AV.cells t20) b8) fun b8_3 =>
 retQ R hp (Option.bind (ld 14 true b8_3 0) fun u4 => some [u4])
def s45_0 (C : CallRel) (R : RP) (J1 : List AV → List AV → List AO → Prop) (v0 v1 v2 v3 : AV) (hp : List AO) : Prop :=
 ifT (AV.mem v0) <|
 ifT (notLoc 4 v0 && (notLoc 4 v1 && (notLoc 4 v2 && (notLoc 4 v3 && true)))) <|
 ifT (notLoc 8 v0 && (notLoc 8 v1 && (notLoc 8 v2 && (notLoc 8 v3 && true)))) <|
 bv (ld 1 false (AV.cells v0) 12) fun t10 =>
 bv (abin .eql t10 (.int .i64 0)) fun t11 =>
 bv (gv (isB true t11) (some v1)) fun t13 =>
 bv (gv (isB true t11) (aun .not t13)) fun t14 =>
 bv (pickV t11 t14 (.bool false)) fun t15 =>
 cnd t15 (ifT (okv 1 v3) <|
 bl (upd 12 (AV.cells v3) (AV.cells v0)) fun b4_1 =>
 ifT (okv 1 v2) <|
 bl (upd 13 (AV.cells v2) b4_1) fun b4_2 =>
 J1 b4_2 ([.sl .cap0 9 [], .sl .cap0 9 [], .sl .cap0 6 [], .sl .cap0 1 [], .sl .cap0 1 [], .sl .cap0 1 [], .sl .cap0 1 [], .sl .cap0 1 [], .int .i64 0, .sl .cap0 3 [], .int .i64 0, .int .i64 0, .int .i64 0, .int .i64 0]) hp) (J1 (AV.cells v0) ([.sl .cap0 9 [], .sl .cap0 9 [], .sl .cap0 6 [], .sl .cap0 1 [], .sl .cap0 1 [], .sl .cap0 1 [], .sl .cap0 1 [], .sl .cap0 1 [], .int .i64 0, .sl .cap0 3 [], .int .i64 0, .int .i64 0, .int .i64 0, .int .i64 0]) hp)
def s45 (C : CallRel) (R : RP) (v0 v1 v2 v3 : AV) (hp : List AO) : Prop :=
 ∀ J1 : List AV → List AV → List AO → Prop,
 (∀ b4 b8 hp, s45_1 C R b4 b8 hp → J1 b4 b8 hp) →
 s45_0 C R J1 v0 v1 v2 v3 hp
def q45_1 (C : CallRel) (R : RP) : APost := (resQ a45.res R)
def p45_1 (C : CallRel) (R : RP) : APost := seqQ (fun st => awp C j45_1 (q45_1 C R) (st.keep [4, 8])) (q45_1 C R)
def J45_1 (C : CallRel) (R : RP) (b4 : List AV) (b8 : List AV) (hp : List AO) : Prop := awp C j45_1 (q45_1 C R) ⟨[(4, (.loc 4 0)), (8, (.loc 8 0))], [(4, b4), (8, b8)], hp⟩
theorem e45_1 {C : CallRel} {R : RP} {b4 : List AV} {b8 : List AV} {hp : List AO} : s45_1 C R b4 b8 hp = xwp C x45_1 (q45_1 C R) ⟨[(4, (.loc 4 0)), (8, (.loc 8 0))], [(4, b4), (8, b8)], hp⟩ := by kernel_rfl
theorem e45_0 {C : CallRel} {R : RP} {v0 v1 v2 v3 : AV} {hp : List AO} : s45_0 C R (J45_1 C R) v0 v1 v2 v3 hp = xwp C x45_0 (resQ a45.res R) ⟨enum 0 [v0, v1, v2, v3], [], hp⟩ := by kernel_rfl
theorem w45 {C : CallRel} {R : RP} {v0 v1 v2 v3 : AV} {hp : List AO} (hC : CMono C) (h : s45 C R v0 v1 v2 v3 hp) : awp C a45.body (resQ a45.res R) ⟨enum 0 [v0, v1, v2, v3], [], hp⟩ :=
 cut_in hC e45_0 (h (J45_1 C R)
 (fun _ _ _ h => cut_in hC e45_1 h))
/-! ### 46 rewind/rewindref06.declare -/
def s46_1 (C : CallRel) (R : RP) (J1 : AV → AV → AV → AV → AV → AV → List AV → List AV → List AO → Prop) (J2 : AV → AV → AV → AV → List AV → List AV → List AO → Prop) (v1 v2 v3 v10 v15 v16 : AV) (b4 : List AV) (b8 : List AV) (hp : List AO) : Prop :=
 bv (abin .lss v16 v15) fun t17 =>
 cnd t17 (bv (gv (isB false v10) (faddV 9 (.loc 4 0))) fun t21 =>
 bv (gv (isB false v10) (lsV (some 4) [(4, b4), (8, b8)] 1 false t21)) fun t22 =>
 bv (gv (isB false v10) (some v16)) fun t23 =>
 bv (gv (isB false v10) (ixaV 3 t22 t23)) fun t24 =>
 bv (gv (isB false v10) (faddV 0 t24)) fun t25 =>
 bv (gv (isB false v10) (ldH hp 1 false t25)) fun t26 =>
 bv (gv (isB false v10) (some v1)) fun t27 =>
 bv (gv (isB false v10) (abin .eql t26 t27)) fun t28 =>
 bv (gv (isB false v10) (some t28)) fun t29 =>
 bv (gv (isB true t29) (faddV 9 (.loc 4 0))) fun t30 =>
 bv (gv (isB true t29) (lsV (some 4) [(4, b4), (8, b8)] 1 false t30)) fun t31 =>
 bv (gv (isB true t29) (some v16)) fun t32 =>
 bv (gv (isB true t29) (ixaV 3 t31 t32)) fun t33 =>
 bv (gv (isB true t29) (faddV 1 t33)) fun t34 =>
 bv (gv (isB true t29) (ldH hp 1 false t34)) fun t35 =>
 bv (gv (isB true t29) (faddV 10 (.loc 4 0))) fun t36 =>
 bv (gv (isB true t29) (lsV (some 4) [(4, b4), (8, b8)] 1 false t36)) fun t37 =>
 bv (gv (isB true t29) (abin .eql t35 t37)) fun t38 =>
 bv (gv (isB false v10) (pickV t29 t38 (.bool false))) fun t39 =>
 bv (pickV v10 (.bool true) t39) fun t40 =>
 bv (abin .add v16 (.int .i64 1)) fun t41 =>
 J1 v1 v2 v3 t40 v15 t41 b4 b8 hp) (J2 v1 v2 v3 v10 b4 b8 hp)
def s46_2 (C : CallRel) (R : RP) (v1 v2 v3 v10 : AV) (b4 : List AV) (b8 : List AV) (hp : List AO) : Prop :=
 bv (ld 1 false b4 7) fun t44 =>
 bv (ld 1 false b4 8) fun t46 =>
 bv (ixaV 1 t44 t46) fun t47 =>
 bv (ldH hp 1 false t47) fun t48 =>
 bv (lenV false t48) fun t49 =>
 bv (ld 14 true b4 0) fun t50 =>
 bv (aun .not v10) fun t52 =>
 callK C 45 [t50, t52, v3, (.int .i64 7)] hp <| rx (pn R) fun t54 hp1 =>
 bv (abin .lss t49 (.int .i64 64)) fun t56 =>
 callK C 45 [t54, t56, v3, (.int .i64 5)] hp1 <| rx (pn R) fun t58 hp2 =>
 ifT (okv 14 t58) <|
 bl (upd 0 (AV.cells t58) b4) fun b4_1 =>
 bv (ld 1 false b4_1 12) fun t60 =>
 bv (abin .neq t60 (.int .i64 0)) fun t61 =>
 cnd t61 (bv (ld 14 true b4_1 0) fun t62 =>
 ifT (okv 14 t62) <|
 bl (upd 0 (AV.cells t62) b8) fun b8_2 =>
 retQ R hp2 (Option.bind (ld 14 true b8_2 0) fun u3 => some [u3, (.int .i64 (-1))])) (bv (ld 1 false b4_1 7) fun t65 =>
 bv (ld 1 false b4_1 8) fun t67 =>
 bv (ld 1 false b4_1 7) fun t70 =>
 bv (ld 1 false b4_1 8) fun t72 =>
 bv (ixaV 1 t70 t72) fun t73 =>
 bv (mkSlV 1 [v2]) fun t76 =>
 bv (ldH hp2 1 false t73) fun t74 =>
 ba (apx false 1 hp2 t74 t76) fun t77 hp3 =>
 bv (ixaV 1 t65 t67) fun t78 =>
 bs (stH hp3 1 t77 t78) fun hp4 =>
 bv (ld 1 false b4_1 9) fun t81 =>
 bv (ld 1 false b4_1 10) fun t85 =>
 bv (bld [.str [], .int .i64 0, .int .i64 0] [(0, 1, v1), (1, 1, t85), (2, 1, t49)]) fun t87 =>
 bv (mkSlV 3 [t87]) fun t88 =>
 ba (apx false 3 hp4 (.sl .cap0 3 []) t81) fun t82 hp5 =>
 ba (apx false 3 hp5 t82 t88) fun t89 hp6 =>
 ifT (okv 1 t89) <|
 bl (upd 9 (AV.cells t89) b4_1) fun b4_4 =>
 bv (ld 14 true b4_4 0) fun t91 =>
 ifT (okv 14 t91) <|
 bl (upd 0 (AV.cells t91) b8) fun b8_5 =>
 retQ R hp6 (Option.bind (ld 14 true b8_5 0) fun u6 => some [u6, t49]))
def s46_0 (C : CallRel) (R : RP) (J1 : AV → AV → AV → AV → AV → AV → List AV → List AV → List AO → Prop) (v0 v1 v2 v3 : AV) (hp : List AO) : Prop :=
 ifT (AV.mem v0) <|
 ifT (notLoc 4 v0 && (notLoc 4 v1 && (notLoc 4 v2 && (notLoc 4 v3 && true)))) <|
 ifT (notLoc 8 v0 && (notLoc 8 v1 && (notLoc 8 v2 && (notLoc 8 v3 && true)))) <|
 bv (ld 1 false (AV.cells v0) 9) fun t14 =>
 bv (lenV false t14) fun t15 =>
 J1 v1 v2 v3 (.bool false) t15 (.int .i64 0) (AV.cells v0) ([.sl .cap0 9 [], .sl .cap0 9 [], .sl .cap0 6 [], .sl .cap0 1 [], .sl .cap0 1 [], .sl .cap0 1 [], .sl .cap0 1 [], .sl .cap0 1 [], .int .i64 0, .sl .cap0 3 [], .int .i64 0, .int .i64 0, .int .i64 0, .int .i64 0]) hp
def s46 (C : CallRel) (R : RP) (v0 v1 v2 v3 : AV) (hp : List AO) : Prop :=
 ∀ J1 : AV → AV → AV → AV → AV → AV → List AV → List AV → List AO → Prop,
 ∀ J2 : AV → AV → AV → AV → List AV → List AV → List AO → Prop,
 (∀ v1 v2 v3 v10 v15 v16 b4 b8 hp, s46_1 C R J1 J2 v1 v2 v3 v10 v15 v16 b4 b8 hp → J1 v1 v2 v3 v10 v15 v16 b4 b8 hp) →
 (∀ v1 v2 v3 v10 b4 b8 hp, s46_2 C R v1 v2 v3 v10 b4 b8 hp → J2 v1 v2 v3 v10 b4 b8 hp) →
 s46_0 C R J1 v0 v1 v2 v3 hp
def q46_2 (C : CallRel) (R : RP) : APost := (resQ a46.res R)
def p46_2 (C : CallRel) (R : RP) : APost := seqQ (fun st => awp C j46_2 (q46_2 C R) (st.keep [1, 2, 3, 4, 8, 10])) (q46_2 C R)
def J46_2 (C : CallRel) (R : RP) (v1 v2 v3 v10 : AV) (b4 : List AV) (b8 : List AV) (hp : List AO) : Prop := awp C j46_2 (q46_2 C R) ⟨[(1, v1), (2, v2), (3, v3), (4, (.loc 4 0)), (8, (.loc 8 0)), (10, v10)], [(4, b4), (8, b8)], hp⟩
def p46_1 (C : CallRel) (R : RP) : APost := (blockQ 0 (p46_2 C R))
def J46_1 (C : CallRel) (R : RP) (v1 v2 v3 v10 v15 v16 : AV) (b4 : List AV) (b8 : List AV) (hp : List AO) : Prop := awp C (.loop [1, 2, 3, 4, 8, 10, 15, 16] j46_1) (p46_1 C R) ⟨[(1, v1), (2, v2), (3, v3), (4, (.loc 4 0)), (8, (.loc 8 0)), (10, v10), (15, v15), (16, v16)], [(4, b4), (8, b8)], hp⟩
theorem e46_1 {C : CallRel} {R : RP} {v1 v2 v3 v10 v15 v16 : AV} {b4 : List AV} {b8 : List AV} {hp : List AO} : s46_1 C R (J46_1 C R) (J46_2 C R) v1 v2 v3 v10 v15 v16 b4 b8 hp = xwp C x46_1 (seqQ (awp C (.loop [1, 2, 3, 4, 8, 10, 15, 16] j46_1) (p46_1 C R)) (p46_1 C R)) (St.keep ⟨[(1, v1), (2, v2), (3, v3), (4, (.loc 4 0)), (8, (.loc 8 0)), (10, v10), (15, v15), (16, v16)], [(4, b4), (8, b8)], hp⟩ [1, 2, 3, 4, 8, 10, 15, 16]) := by kernel_rfl
theorem e46_2 {C : CallRel} {R : RP} {v1 v2 v3 v10 : AV} {b4 : List AV} {b8 : List AV} {hp : List AO} : s46_2 C R v1 v2 v3 v10 b4 b8 hp = xwp C x46_2 (q46_2 C R) ⟨[(1, v1), (2, v2), (3, v3), (4, (.loc 4 0)), (8, (.loc 8 0)), (10, v10)], [(4, b4), (8, b8)], hp⟩ := by kernel_rfl
theorem e46_0 {C : CallRel} {R : RP} {v0 v1 v2 v3 : AV} {hp : List AO} : s46_0 C R (J46_1 C R) v0 v1 v2 v3 hp = xwp C x46_0 (resQ a46.res R) ⟨enum 0 [v0, v1, v2, v3], [], hp⟩ := by kernel_rfl
theorem w46 {C : CallRel} {R : RP} {v0 v1 v2 v3 : AV} {hp : List AO} (hC : CMono C) (h : s46 C R v0 v1 v2 v3 hp) : awp C a46.body (resQ a46.res R) ⟨enum 0 [v0, v1, v2, v3], [], hp⟩ :=
 cut_in hC e46_0 (h (J46_1 C R) (J46_2 C R)
 (fun _ _ _ _ _ _ _ _ _ h => cut_loop hC e46_1 h)
 (fun _ _ _ _ _ _ _ h => cut_in hC e46_2 h))
/-! ### 47 rewind/rewindref06.Stmt -/
def s47_1 (C : CallRel) (R : RP) (J4 : AV → AV → List AV → List AV → List AO → Prop) (v1 v6 v7 v20 : AV) (b2 : List AV) (b4 : List AV) (hp : List AO) : Prop :=
 bv (ld 14 true b2 0) fun t233 =>
 bv (ld 1 false b2 2) fun t237 =>
 bv (ld 1 false b2 8) fun t239 =>
 bv (ixaV 6 t237 t239) fun t240 =>
 bv (faddV 4 t240) fun t241 =>
 bv (ldH hp 1 false t241) fun t242 =>
 bv (abin .eql v20 t242) fun t243 =>
 callK C 45 [t233, t243, v6, (.int .i64 8)] hp <| rx (pn R) fun t245 hp25 =>
 ifT (okv 14 t245) <|
 bl (upd 0 (AV.cells t245) b2) fun b2_36 =>
 J4 v1 v7 b2_36 b4 hp25
def s47_2 (C : CallRel) (R : RP) (J1 : AV → AV → AV → AV → List AV → List AV → List AO → Prop) (J4 : AV → AV → List AV → List AV → List AO → Prop) (v1 v6 v7 v42 v212 : AV) (b2 : List AV) (b4 : List AV) (b5 : List AV) (hp : List AO) : Prop :=
 cnd v212 (bv (ld 14 true b2 0) fun t215 =>
 bv (ld 1 false b2 11) fun t217 =>
 bv (abin .gtr t217 (.int .i64 0)) fun t218 =>
 callK C 45 [t215, t218, v6, (.int .i64 9)] hp <| rx (pn R) fun t220 hp21 =>
 ifT (okv 14 t220) <|
 bl (upd 0 (AV.cells t220) b2) fun b2_30 =>
 J4 v1 v7 b2_30 b4 hp21) (bv (abin .eql v42 (.int .i64 9)) fun t222 =>
 cnd t222 (bv (ld 1 false b5 5) fun t224 =>
 bv (abin .geq t224 (.int .i64 0)) fun t225 =>
 cnd t225 (bv (ld 14 true b2 0) fun t227 =>
 bv (ld 1 false b5 5) fun t229 =>
 callK C 60 [t227, t229] hp <| rx (pn R) fun t230 hp22 =>
 bv (extV 0 t230) fun t231 =>
 bv (extV 1 t230) fun t232 =>
 ifT (okv 14 t231) <|
 bl (upd 0 (AV.cells t231) b2) fun b2_31 =>
 J1 v1 v6 v7 t232 b2_31 b4 hp22) (J1 v1 v6 v7 (.int .i64 4) b2 b4 hp)) (bv (abin .eql v42 (.int .i64 10)) fun t247 =>
 cnd t247 (bv (ld 14 true b2 0) fun t249 =>
 bv (ld 1 false b5 5) fun t251 =>
 callK C 60 [t249, t251] hp <| rx (pn R) fun t252 hp23 =>
 bv (extV 0 t252) fun t253 =>
 bv (extV 1 t252) fun t254 =>
 ifT (okv 14 t253) <|
 bl (upd 0 (AV.cells t253) b2) fun b2_32 =>
 J4 v1 v7 b2_32 b4 hp23) (bv (abin .eql v42 (.int .i64 11)) fun t256 =>
 cnd t256 (bv (ld 14 true b2 0) fun t258 =>
 bv (ld 1 false b5 5) fun t260 =>
 callK C 63 [t258, t260] hp <| rx (pn R) fun t261 hp24 =>
 bv (extV 0 t261) fun t262 =>
 bv (extV 1 t261) fun t263 =>
 ifT (okv 14 t262) <|
 bl (upd 0 (AV.cells t262) b2) fun b2_33 =>
 J4 v1 v7 b2_33 b4 hp24) (J4 v1 v7 b2 b4 hp))))
def s47_3 (C : CallRel) (R : RP) (b2 : List AV) (b4 : List AV) (hp : List AO) : Prop :=
 bv (ld 14 true b2 0) fun t273 =>
 ifT (okv 14 t273) <|
 bl (upd 0 (AV.cells t273) b4) fun b4_34 =>
 retQ R hp (Option.bind (ld 14 true b4_34 0) fun u35 => some [u35])
def s47_4 (C : CallRel) (R : RP) (J3 : List AV → List AV → List AO → Prop) (v1 v7 : AV) (b2 : List AV) (b4 : List AV) (hp : List AO) : Prop :=
 bv (ld 1 false b2 12) fun t265 =>
 bv (abin .eql t265 (.int .i64 0)) fun t266 =>
 cnd t266 (bv (ld 1 false b2 5) fun t269 =>
 bv (ixaV 1 t269 v1) fun t272 =>
 bs (stH hp 1 v7 t272) fun hp20 =>
 J3 b2 b4 hp20) (J3 b2 b4 hp)
def s47_0 (C : CallRel) (R : RP) (J2 : AV → AV → AV → AV → AV → List AV → List AV → List AV → List AO → Prop) (J4 : AV → AV → List AV → List AV → List AO → Prop) (v0 v1 : AV) (hp : List AO) : Prop :=
 ifT (AV.mem v0) <|
 ifT (notLoc 2 v0 && (notLoc 2 v1 && true)) <|
 ifT (notLoc 4 v0 && (notLoc 4 v1 && true)) <|
 bv (ld 1 false (AV.cells v0) 12) fun t22 =>
 bv (abin .neq t22 (.int .i64 0)) fun t23 =>
 cnd t23 (bv (ld 14 true (AV.cells v0) 0) fun t24 =>
 ifT (okv 14 t24) <|
 bl (upd 0 (AV.cells t24) ([.sl .cap0 9 [], .sl .cap0 9 [], .sl .cap0 6 [], .sl .cap0 1 [], .sl .cap0 1 [], .sl .cap0 1 [], .sl .cap0 1 [], .sl .cap0 1 [], .int .i64 0, .sl .cap0 3 [], .int .i64 0, .int .i64 0, .int .i64 0, .int .i64 0])) fun b4_1 =>
 retQ R hp (Option.bind (ld 14 true b4_1 0) fun u2 => some [u2])) (bv (ld 1 false (AV.cells v0) 1) fun t27 =>
 bv (ixaV 9 t27 v1) fun t29 =>
 bv (ldH hp 9 true t29) fun t30 =>
 ifT (notLoc 5 v1 && (notLoc 5 t23 && (notLoc 5 t27 && (notLoc 5 v1 && (notLoc 5 t29 && (notLoc 5 t30 && true)))))) <|
 ifT (okv 9 t30) <|
 bl (upd 0 (AV.cells t30) ([.int .i64 0, .int .i64 0, .int .i64 0, .str [], .int .i64 0, .int .i64 0, .int .i64 0, .sl .cap0 1 [], .sl .cap0 1 []])) fun b5_3 =>
 bv (ld 1 false b5_3 1) fun t33 =>
 bv (ld 1 false (AV.cells v0) 6) fun t36 =>
 bv (ld 1 false (AV.cells v0) 8) fun t39 =>
 bv (ixaV 1 t36 v1) fun t40 =>
 bs (stH hp 1 t39 t40) fun hp1 =>
 bv (ld 1 false b5_3 0) fun t42 =>
 bv (abin .eql t42 (.int .i64 1)) fun t44 =>
 cnd t44 (bv (ld 14 true (AV.cells v0) 0) fun t46 =>
 bv (ld 1 false b5_3 5) fun t48 =>
 callK C 60 [t46, t48] hp1 <| rx (pn R) fun t49 hp2 =>
 bv (extV 0 t49) fun t50 =>
 bv (extV 1 t49) fun t51 =>
 ifT (notLoc 8 v1 && (notLoc 8 t33 && (notLoc 8 t42 && (notLoc 8 t44 && (notLoc 8 t49 && (notLoc 8 t46 && (notLoc 8 t48 && (notLoc 8 t49 && (notLoc 8 t50 && (notLoc 8 t51 && true)))))))))) <|
 ifT (okv 14 t50) <|
 bl (upd 0 (AV.cells t50) ([.sl .cap0 9 [], .sl .cap0 9 [], .sl .cap0 6 [], .sl .cap0 1 [], .sl .cap0 1 [], .sl .cap0 1 [], .sl .cap0 1 [], .sl .cap0 1 [], .int .i64 0, .sl .cap0 3 [], .int .i64 0, .int .i64 0, .int .i64 0, .int .i64 0])) fun b8_4 =>
 bv (ld 1 false b8_4 12) fun t53 =>
 bv (abin .neq t53 (.int .i64 0)) fun t54 =>
 cnd t54 (bv (ld 14 true b8_4 0) fun t55 =>
 ifT (okv 14 t55) <|
 bl (upd 0 (AV.cells t55) ([.sl .cap0 9 [], .sl .cap0 9 [], .sl .cap0 6 [], .sl .cap0 1 [], .sl .cap0 1 [], .sl .cap0 1 [], .sl .cap0 1 [], .sl .cap0 1 [], .int .i64 0, .sl .cap0 3 [], .int .i64 0, .int .i64 0, .int .i64 0, .int .i64 0])) fun b4_5 =>
 retQ R hp2 (Option.bind (ld 14 true b4_5 0) fun u6 => some [u6])) (bv (ld 14 true b8_4 0) fun t57 =>
 bv (ld 1 false b5_3 3) fun t59 =>
 callK C 46 [t57, t59, t51, t33] hp2 <| rx (pn R) fun t62 hp3 =>
 bv (extV 0 t62) fun t63 =>
 bv (extV 1 t62) fun t64 =>
 ifT (okv 14 t63) <|
 bl (upd 0 (AV.cells t63) (AV.cells v0)) fun b2_7 =>
 J4 v1 t64 b2_7 ([.sl .cap0 9 [], .sl .cap0 9 [], .sl .cap0 6 [], .sl .cap0 1 [], .sl .cap0 1 [], .sl .cap0 1 [], .sl .cap0 1 [], .sl .cap0 1 [], .int .i64 0, .sl .cap0 3 [], .int .i64 0, .int .i64 0, .int .i64 0, .int .i64 0]) hp3)) (bv (abin .eql t42 (.int .i64 2)) fun t66 =>
 cnd t66 (bv (ld 14 true (AV.cells v0) 0) fun t67 =>
 bv (ld 1 false b5_3 4) fun t69 =>
 bv (abin .geq t69 (.int .i64 1)) fun t70 =>
 bv (gv (isB true t70) (faddV 4 (.loc 5 0))) fun t72 =>
 bv (gv (isB true t70) (ldL [(2, (AV.cells v0)), (4, [.sl .cap0 9 [], .sl .cap0 9 [], .sl .cap0 6 [], .sl .cap0 1 [], .sl .cap0 1 [], .sl .cap0 1 [], .sl .cap0 1 [], .sl .cap0 1 [], .int .i64 0, .sl .cap0 3 [], .int .i64 0, .int .i64 0, .int .i64 0, .int .i64 0]), (5, b5_3)] 1 false t72)) fun t73 =>
 bv (gv (isB true t70) (abin .leq t73 (.int .i64 64))) fun t74 =>
 bv (pickV t70 t74 (.bool false)) fun t75 =>
 callK C 45 [t67, t75, t33, (.int .i64 15)] hp1 <| rx (pn R) fun t77 hp4 =>
 ifT (okv 14 t77) <|
 bl (upd 0 (AV.cells t77) (AV.cells v0)) fun b2_8 =>
 bv (ld 1 false b2_8 12) fun t79 =>
 bv (abin .neq t79 (.int .i64 0)) fun t80 =>
 cnd t80 (bv (ld 14 true b2_8 0) fun t81 =>
 ifT (okv 14 t81) <|
 bl (upd 0 (AV.cells t81) ([.sl .cap0 9 [], .sl .cap0 9 [], .sl .cap0 6 [], .sl .cap0 1 [], .sl .cap0 1 [], .sl .cap0 1 [], .sl .cap0 1 [], .sl .cap0 1 [], .int .i64 0, .sl .cap0 3 [], .int .i64 0, .int .i64 0, .int .i64 0, .int .i64 0])) fun b4_9 =>
 retQ R hp4 (Option.bind (ld 14 true b4_9 0) fun u10 => some [u10])) (bv (ld 14 true b2_8 0) fun t83 =>
 bv (ld 1 false b5_3 3) fun t85 =>
 callK C 46 [t83, t85, (.int .i64 3), t33] hp4 <| rx (pn R) fun t87 hp5 =>
 bv (extV 0 t87) fun t88 =>
 bv (extV 1 t87) fun t89 =>
 ifT (okv 14 t88) <|
 bl (upd 0 (AV.cells t88) b2_8) fun b2_11 =>
 J4 v1 t89 b2_11 ([.sl .cap0 9 [], .sl .cap0 9 [], .sl .cap0 6 [], .sl .cap0 1 [], .sl .cap0 1 [], .sl .cap0 1 [], .sl .cap0 1 [], .sl .cap0 1 [], .int .i64 0, .sl .cap0 3 [], .int .i64 0, .int .i64 0, .int .i64 0, .int .i64 0]) hp5)) (bv (abin .eql t42 (.int .i64 3)) fun t91 =>
 cnd t91 (bv (ld 14 true (AV.cells v0) 0) fun t93 =>
 bv (ld 1 false b5_3 5) fun t95 =>
 callK C 60 [t93, t95] hp1 <| rx (pn R) fun t96 hp6 =>
 bv (extV 0 t96) fun t97 =>
 bv (extV 1 t96) fun t98 =>
 ifT (notLoc 10 v1 && (notLoc 10 t33 && (notLoc 10 t42 && (notLoc 10 t91 && (notLoc 10 t96 && (notLoc 10 t93 && (notLoc 10 t95 && (notLoc 10 t96 && (notLoc 10 t97 && (notLoc 10 t98 && true)))))))))) <|
 ifT (okv 14 t97) <|
 bl (upd 0 (AV.cells t97) ([.sl .cap0 9 [], .sl .cap0 9 [], .sl .cap0 6 [], .sl .cap0 1 [], .sl .cap0 1 [], .sl .cap0 1 [], .sl .cap0 1 [], .sl .cap0 1 [], .int .i64 0, .sl .cap0 3 [], .int .i64 0, .int .i64 0, .int .i64 0, .int .i64 0])) fun b10_12 =>
 bv (ld 1 false b10_12 12) fun t100 =>
 bv (abin .neq t100 (.int .i64 0)) fun t101 =>
 cnd t101 (bv (ld 14 true b10_12 0) fun t102 =>
 ifT (okv 14 t102) <|
 bl (upd 0 (AV.cells t102) ([.sl .cap0 9 [], .sl .cap0 9 [], .sl .cap0 6 [], .sl .cap0 1 [], .sl .cap0 1 [], .sl .cap0 1 [], .sl .cap0 1 [], .sl .cap0 1 [], .int .i64 0, .sl .cap0 3 [], .int .i64 0, .int .i64 0, .int .i64 0, .int .i64 0])) fun b4_13 =>
 retQ R hp6 (Option.bind (ld 14 true b4_13 0) fun u14 => some [u14])) (bv (ld 14 true b10_12 0) fun t104 =>
 bv (ld 1 false b5_3 3) fun t106 =>
 callK C 61 [t104, t106, (.bool false), t33] hp6 <| rx (pn R) fun t108 hp7 =>
 bv (extV 0 t108) fun t109 =>
 bv (extV 1 t108) fun t110 =>
 ifT (okv 14 t109) <|
 bl (upd 0 (AV.cells t109) (AV.cells v0)) fun b2_15 =>
 bv (ld 1 false b2_15 12) fun t112 =>
 bv (abin .eql t112 (.int .i64 0)) fun t113 =>
 cnd t113 (bv (ld 14 true b2_15 0) fun t114 =>
 bv (ld 1 false b2_15 7) fun t118 =>
 bv (ld 1 false b2_15 8) fun t120 =>
 bv (ixaV 1 t118 t120) fun t121 =>
 bv (ldH hp7 1 false t121) fun t122 =>
 bv (ixaV 1 t122 t110) fun t124 =>
 bv (ldH hp7 1 false t124) fun t125 =>
 bv (abin .eql t98 t125) fun t126 =>
 callK C 45 [t114, t126, t33, (.int .i64 8)] hp7 <| rx (pn R) fun t128 hp8 =>
 ifT (okv 14 t128) <|
 bl (upd 0 (AV.cells t128) b2_15) fun b2_16 =>
 J4 v1 t110 b2_16 ([.sl .cap0 9 [], .sl .cap0 9 [], .sl .cap0 6 [], .sl .cap0 1 [], .sl .cap0 1 [], .sl .cap0 1 [], .sl .cap0 1 [], .sl .cap0 1 [], .int .i64 0, .sl .cap0 3 [], .int .i64 0, .int .i64 0, .int .i64 0, .int .i64 0]) hp8) (J4 v1 t110 b2_15 ([.sl .cap0 9 [], .sl .cap0 9 [], .sl .cap0 6 [], .sl .cap0 1 [], .sl .cap0 1 [], .sl .cap0 1 [], .sl .cap0 1 [], .sl .cap0 1 [], .int .i64 0, .sl .cap0 3 [], .int .i64 0, .int .i64 0, .int .i64 0, .int .i64 0]) hp7))) (bv (abin .eql t42 (.int .i64 4)) fun t130 =>
 cnd t130 (bv (ld 14 true (AV.cells v0) 0) fun t132 =>
 bv (ld 1 false b5_3 5) fun t134 =>
 callK C 60 [t132, t134] hp1 <| rx (pn R) fun t135 hp9 =>
 bv (extV 0 t135) fun t136 =>
 bv (extV 1 t135) fun t137 =>
 ifT (notLoc 12 v1 && (notLoc 12 t33 && (notLoc 12 t42 && (notLoc 12 t130 && (notLoc 12 t135 && (notLoc 12 t132 && (notLoc 12 t134 && (notLoc 12 t135 && (notLoc 12 t136 && (notLoc 12 t137 && true)))))))))) <|
 ifT (okv 14 t136) <|
 bl (upd 0 (AV.cells t136) ([.sl .cap0 9 [], .sl .cap0 9 [], .sl .cap0 6 [], .sl .cap0 1 [], .sl .cap0 1 [], .sl .cap0 1 [], .sl .cap0 1 [], .sl .cap0 1 [], .int .i64 0, .sl .cap0 3 [], .int .i64 0, .int .i64 0, .int .i64 0, .int .i64 0])) fun b12_17 =>
 bv (ld 14 true b12_17 0) fun t139 =>
 bv (ld 1 false b5_3 6) fun t141 =>
 callK C 60 [t139, t141] hp9 <| rx (pn R) fun t142 hp10 =>
 bv (extV 0 t142) fun t143 =>
 bv (extV 1 t142) fun t144 =>
 ifT (notLoc 14 v1 && (notLoc 14 t33 && (notLoc 14 t137 && (notLoc 14 t142 && (notLoc 14 t139 && (notLoc 14 t141 && (notLoc 14 t142 && (notLoc 14 t143 && (notLoc 14 t144 && true))))))))) <|
 ifT (okv 14 t143) <|
 bl (upd 0 (AV.cells t143) ([.sl .cap0 9 [], .sl .cap0 9 [], .sl .cap0 6 [], .sl .cap0 1 [], .sl .cap0 1 [], .sl .cap0 1 [], .sl .cap0 1 [], .sl .cap0 1 [], .int .i64 0, .sl .cap0 3 [], .int .i64 0, .int .i64 0, .int .i64 0, .int .i64 0])) fun b14_18 =>
 bv (ld 1 false b14_18 12) fun t146 =>
 bv (abin .neq t146 (.int .i64 0)) fun t147 =>
 cnd t147 (bv (ld 14 true b14_18 0) fun t148 =>
 ifT (okv 14 t148) <|
 bl (upd 0 (AV.cells t148) ([.sl .cap0 9 [], .sl .cap0 9 [], .sl .cap0 6 [], .sl .cap0 1 [], .sl .cap0 1 [], .sl .cap0 1 [], .sl .cap0 1 [], .sl .cap0 1 [], .int .i64 0, .sl .cap0 3 [], .int .i64 0, .int .i64 0, .int .i64 0, .int .i64 0])) fun b4_19 =>
 retQ R hp10 (Option.bind (ld 14 true b4_19 0) fun u20 => some [u20])) (bv (ld 14 true b14_18 0) fun t150 =>
 bv (ld 1 false b5_3 3) fun t152 =>
 callK C 61 [t150, t152, (.bool true), t33] hp10 <| rx (pn R) fun t154 hp11 =>
 bv (extV 0 t154) fun t155 =>
 bv (extV 1 t154) fun t156 =>
 ifT (okv 14 t155) <|
 bl (upd 0 (AV.cells t155) (AV.cells v0)) fun b2_21 =>
 bv (ld 14 true b2_21 0) fun t157 =>
 bv (abin .eql t137 (.int .i64 1)) fun t159 =>
 bv (gv (isB true t159) (some t144)) fun t161 =>
 bv (gv (isB true t159) (abin .eql t161 (.int .i64 1))) fun t162 =>
 bv (pickV t159 t162 (.bool false)) fun t163 =>
 callK C 45 [t157, t163, t33, (.int .i64 8)] hp11 <| rx (pn R) fun t165 hp12 =>
 ifT (okv 14 t165) <|
 bl (upd 0 (AV.cells t165) b2_21) fun b2_22 =>
 J4 v1 t156 b2_22 ([.sl .cap0 9 [], .sl .cap0 9 [], .sl .cap0 6 [], .sl .cap0 1 [], .sl .cap0 1 [], .sl .cap0 1 [], .sl .cap0 1 [], .sl .cap0 1 [], .int .i64 0, .sl .cap0 3 [], .int .i64 0, .int .i64 0, .int .i64 0, .int .i64 0]) hp12)) (bv (abin .eql t42 (.int .i64 5)) fun t167 =>
 cnd t167 (bv (ld 14 true (AV.cells v0) 0) fun t169 =>
 bv (ld 1 false b5_3 5) fun t171 =>
 callK C 60 [t169, t171] hp1 <| rx (pn R) fun t172 hp13 =>
 bv (extV 0 t172) fun t173 =>
 bv (extV 1 t172) fun t174 =>
 ifT (notLoc 16 v1 && (notLoc 16 t33 && (notLoc 16 t42 && (notLoc 16 t167 && (notLoc 16 t172 && (notLoc 16 t169 && (notLoc 16 t171 && (notLoc 16 t172 && (notLoc 16 t173 && (notLoc 16 t174 && true)))))))))) <|
 ifT (okv 14 t173) <|
 bl (upd 0 (AV.cells t173) ([.sl .cap0 9 [], .sl .cap0 9 [], .sl .cap0 6 [], .sl .cap0 1 [], .sl .cap0 1 [], .sl .cap0 1 [], .sl .cap0 1 [], .sl .cap0 1 [], .int .i64 0, .sl .cap0 3 [], .int .i64 0, .int .i64 0, .int .i64 0, .int .i64 0])) fun b16_23 =>
 bv (ld 14 true b16_23 0) fun t175 =>
 bv (abin .eql t174 (.int .i64 2)) fun t177 =>
 bv (ld 1 false b5_3 7) fun t181 =>
 callK C 45 [t175, t177, t33, (.int .i64 8)] hp13 <| rx (pn R) fun t179 hp14 =>
 callK C 62 [t179, t181] hp14 <| rx (pn R) fun t182 hp15 =>
 ifT (okv 14 t182) <|
 bl (upd 0 (AV.cells t182) (AV.cells v0)) fun b2_24 =>
 bv (ld 14 true b2_24 0) fun t183 =>
 bv (ld 1 false b5_3 8) fun t185 =>
 callK C 62 [t183, t185] hp15 <| rx (pn R) fun t186 hp16 =>
 ifT (okv 14 t186) <|
 bl (upd 0 (AV.cells t186) b2_24) fun b2_25 =>
 J4 v1 (.int .i64 (-1)) b2_25 ([.sl .cap0 9 [], .sl .cap0 9 [], .sl .cap0 6 [], .sl .cap0 1 [], .sl .cap0 1 [], .sl .cap0 1 [], .sl .cap0 1 [], .sl .cap0 1 [], .int .i64 0, .sl .cap0 3 [], .int .i64 0, .int .i64 0, .int .i64 0, .int .i64 0]) hp16) (bv (abin .eql t42 (.int .i64 6)) fun t188 =>
 cnd t188 (bv (ld 14 true (AV.cells v0) 0) fun t190 =>
 bv (ld 1 false b5_3 5) fun t192 =>
 callK C 60 [t190, t192] hp1 <| rx (pn R) fun t193 hp17 =>
 bv (extV 0 t193) fun t194 =>
 bv (extV 1 t193) fun t195 =>
 ifT (notLoc 18 v1 && (notLoc 18 t33 && (notLoc 18 t42 && (notLoc 18 t188 && (notLoc 18 t193 && (notLoc 18 t190 && (notLoc 18 t192 && (notLoc 18 t193 && (notLoc 18 t194 && (notLoc 18 t195 && true)))))))))) <|
 ifT (okv 14 t194) <|
 bl (upd 0 (AV.cells t194) ([.sl .cap0 9 [], .sl .cap0 9 [], .sl .cap0 6 [], .sl .cap0 1 [], .sl .cap0 1 [], .sl .cap0 1 [], .sl .cap0 1 [], .sl .cap0 1 [], .int .i64 0, .sl .cap0 3 [], .int .i64 0, .int .i64 0, .int .i64 0, .int .i64 0])) fun b18_26 =>
 bv (ld 1 false b18_26 11) fun t197 =>
 bv (abin .add t197 (.int .i64 1)) fun t198 =>
 ifT (okv 1 t198) <|
 bl (upd 11 (AV.cells t198) b18_26) fun b18_27 =>
 bv (ld 14 true b18_27 0) fun t200 =>
 bv (abin .eql t195 (.int .i64 2)) fun t202 =>
 bv (ld 1 false b5_3 7) fun t206 =>
 callK C 45 [t200, t202, t33, (.int .i64 8)] hp17 <| rx (pn R) fun t204 hp18 =>
 callK C 62 [t204, t206] hp18 <| rx (pn R) fun t207 hp19 =>
 ifT (okv 14 t207) <|
 bl (upd 0 (AV.cells t207) (AV.cells v0)) fun b2_28 =>
 bv (ld 1 false b2_28 11) fun t209 =>
 bv (abin .sub t209 (.int .i64 1)) fun t210 =>
 ifT (okv 1 t210) <|
 bl (upd 11 (AV.cells t210) b2_28) fun b2_29 =>
 J4 v1 (.int .i64 (-1)) b2_29 ([.sl .cap0 9 [], .sl .cap0 9 [], .sl .cap0 6 [], .sl .cap0 1 [], .sl .cap0 1 [], .sl .cap0 1 [], .sl .cap0 1 [], .sl .cap0 1 [], .int .i64 0, .sl .cap0 3 [], .int .i64 0, .int .i64 0, .int .i64 0, .int .i64 0]) hp19) (bv (abin .eql t42 (.int .i64 7)) fun t213 =>
 cnd t213 (J2 v1 t33 (.int .i64 (-1)) t42 t213 (AV.cells v0) ([.sl .cap0 9 [], .sl .cap0 9 [], .sl .cap0 6 [], .sl .cap0 1 [], .sl .cap0 1 [], .sl .cap0 1 [], .sl .cap0 1 [], .sl .cap0 1 [], .int .i64 0, .sl .cap0 3 [], .int .i64 0, .int .i64 0, .int .i64 0, .int .i64 0]) b5_3 hp1) (bv (abin .eql t42 (.int .i64 8)) fun t214 =>
 J2 v1 t33 (.int .i64 (-1)) t42 t214 (AV.cells v0) ([.sl .cap0 9 [], .sl .cap0 9 [], .sl .cap0 6 [], .sl .cap0 1 [], .sl .cap0 1 [], .sl .cap0 1 [], .sl .cap0 1 [], .sl .cap0 1 [], .int .i64 0, .sl .cap0 3 [], .int .i64 0, .int .i64 0, .int .i64 0, .int .i64 0]) b5_3 hp1))))))))
def s47 (C : CallRel) (R : RP) (v0 v1 : AV) (hp : List AO) : Prop :=
 ∀ J1 : AV → AV → AV → AV → List AV → List AV → List AO → Prop,
 ∀ J2 : AV → AV → AV → AV → AV → List AV → List AV → List AV → List AO → Prop,
 ∀ J3 : List AV → List AV → List AO → Prop,
 ∀ J4 : AV → AV → List AV → List AV → List AO → Prop,
 (∀ v1 v6 v7 v20 b2 b4 hp, s47_1 C R J4 v1 v6 v7 v20 b2 b4 hp → J1 v1 v6 v7 v20 b2 b4 hp) →
 (∀ v1 v6 v7 v42 v212 b2 b4 b5 hp, s47_2 C R J1 J4 v1 v6 v7 v42 v212 b2 b4 b5 hp → J2 v1 v6 v7 v42 v212 b2 b4 b5 hp) →
 (∀ b2 b4 hp, s47_3 C R b2 b4 hp → J3 b2 b4 hp) →
 (∀ v1 v7 b2 b4 hp, s47_4 C R J3 v1 v7 b2 b4 hp → J4 v1 v7 b2 b4 hp) →
 s47_0 C R J2 J4 v0 v1 hp
def q47_4 (C : CallRel) (R : RP) : APost := (resQ a47.res R)
def p47_4 (C : CallRel) (R : RP) : APost := seqQ (fun st => awp C j47_4 (q47_4 C R) (st.keep [1, 2, 4, 7])) (q47_4 C R)
def J47_4 (C : CallRel) (R : RP) (v1 v7 : AV) (b2 : List AV) (b4 : List AV) (hp : List AO) : Prop := awp C j47_4 (q47_4 C R) ⟨[(1, v1), (2, (.loc 2 0)), (4, (.loc 4 0)), (7, v7)], [(2, b2), (4, b4)], hp⟩
def q47_1 (C : CallRel) (R : RP) : APost := (blockQ 0 (p47_4 C R))
def p47_1 (C : CallRel) (R : RP) : APost := seqQ (fun st => awp C j47_1 (q47_1 C R) (st.keep [1, 2, 4, 6, 7, 20])) (q47_1 C R)
def J47_1 (C : CallRel) (R : RP) (v1 v6 v7 v20 : AV) (b2 : List AV) (b4 : List AV) (hp : List AO) : Prop := awp C j47_1 (q47_1 C R) ⟨[(1, v1), (2, (.loc 2 0)), (4, (.loc 4 0)), (6, v6), (7, v7), (20, v20)], [(2, b2), (4, b4)], hp⟩
def q47_2 (C : CallRel) (R : RP) : APost := (blockQ 0 (p47_4 C R))
def p47_2 (C : CallRel) (R : RP) : APost := seqQ (fun st => awp C j47_2 (q47_2 C R) (st.keep [1, 2, 4, 5, 6, 7, 42, 212])) (q47_2 C R)
def J47_2 (C : CallRel) (R : RP) (v1 v6 v7 v42 v212 : AV) (b2 : List AV) (b4 : List AV) (b5 : List AV) (hp : List AO) : Prop := awp C j47_2 (q47_2 C R) ⟨[(1, v1), (2, (.loc 2 0)), (4, (.loc 4 0)), (5, (.loc 5 0)), (6, v6), (7, v7), (42, v42), (212, v212)], [(2, b2), (4, b4), (5, b5)], hp⟩
def q47_3 (C : CallRel) (R : RP) : APost := (resQ a47.res R)
def p47_3 (C : CallRel) (R : RP) : APost := seqQ (fun st => awp C j47_3 (q47_3 C R) (st.keep [2, 4])) (q47_3 C R)
def J47_3 (C : CallRel) (R : RP) (b2 : List AV) (b4 : List AV) (hp : List AO) : Prop := awp C j47_3 (q47_3 C R) ⟨[(2, (.loc 2 0)), (4, (.loc 4 0))], [(2, b2), (4, b4)], hp⟩
theorem e47_1 {C : CallRel} {R : RP} {v1 v6 v7 v20 : AV} {b2 : List AV} {b4 : List AV} {hp : List AO} : s47_1 C R (J47_4 C R) v1 v6 v7 v20 b2 b4 hp = xwp C x47_1 (q47_1 C R) ⟨[(1, v1), (2, (.loc 2 0)), (4, (.loc 4 0)), (6, v6), (7, v7), (20, v20)], [(2, b2), (4, b4)], hp⟩ := by kernel_rfl
theorem e47_2 {C : CallRel} {R : RP} {v1 v6 v7 v42 v212 : AV} {b2 : List AV} {b4 : List AV} {b5 : List AV} {hp : List AO} : s47_2 C R (J47_1 C R) (J47_4 C R) v1 v6 v7 v42 v212 b2 b4 b5 hp = xwp C x47_2 (q47_2 C R) ⟨[(1, v1), (2, (.loc 2 0)), (4, (.loc 4 0)), (5, (.loc 5 0)), (6, v6), (7, v7), (42, v42), (212, v212)], [(2, b2), (4, b4), (5, b5)], hp⟩ := by kernel_rfl
theorem e47_3 {C : CallRel} {R : RP} {b2 : List AV} {b4 : List AV} {hp : List AO} : s47_3 C R b2 b4 hp = xwp C x47_3 (q47_3 C R) ⟨[(2, (.loc 2 0)), (4, (.loc 4 0))], [(2, b2), (4, b4)], hp⟩ := by kernel_rfl
theorem e47_4 {C : CallRel} {R : RP} {v1 v7 : AV} {b2 : List AV} {b4 : List AV} {hp : List AO} : s47_4 C R (J47_3 C R) v1 v7 b2 b4 hp = xwp C x47_4 (q47_4 C R) ⟨[(1, v1), (2, (.loc 2 0)), (4, (.loc 4 0)), (7, v7)], [(2, b2), (4, b4)], hp⟩ := by kernel_rfl
theorem e47_0 {C : CallRel} {R : RP} {v0 v1 : AV} {hp : List AO} : s47_0 C R (J47_2 C R) (J47_4 C R) v0 v1 hp = xwp C x47_0 (resQ a47.res R) ⟨enum 0 [v0, v1], [], hp⟩ := by kernel_rfl
theorem w47 {C : CallRel} {R : RP} {v0 v1 : AV} {hp : List AO} (hC : CMono C) (h : s47 C R v0 v1 hp) : awp C a47.body (resQ a47.res R) ⟨enum 0 [v0, v1], [], hp⟩ :=
 cut_in hC e47_0 (h (J47_1 C R) (J47_2 C R) (J47_3 C R) (J47_4 C R)
 (fun _ _ _ _ _ _ _ h => cut_in hC e47_1 h)
 (fun _ _ _ _ _ _ _ _ _ h => cut_in hC e47_2 h)
 (fun _ _ _ h => cut_in hC e47_3 h)
 (fun _ _ _ _ _ h => cut_in hC e47_4 h))
/-! ### 53 rewind/rewindref02.Next -/
def s53_1 (C : CallRel) (R : RP) (J1 : AV → AV → AV → List AV → List AO → Prop) (J2 : AV → AV → AV → List AV → List AO → Prop) (v0 v1 v6 : AV) (b4 : List AV) (hp : List AO) : Prop :=
 bv (lenV true v0) fun t27 =>
 bv (abin .lss v6 t27) fun t28 =>
 bv (gv (isB true t28) (some v0)) fun t30 =>
 bv (gv (isB true t28) (some v6)) fun t31 =>
 bv (gv (isB true t28) (ixsV t30 t31)) fun t32 =>
 gcal C (isB true t28) 69 [t32] hp (pn R) fun t33 hp3 =>
 bv (gv (isB true t28) (some t33)) fun t34 =>
 bv (gv (isB false t34) (some v0)) fun t35 =>
 bv (gv (isB false t34) (some v6)) fun t36 =>
 bv (gv (isB false t34) (ixsV t35 t36)) fun t37 =>
 gcal C (isB false t34) 70 [t37] hp3 (pn R) fun t38 hp4 =>
 bv (gv (isB true t28) (pickV t34 (.bool true) t38)) fun t39 =>
 bv (pickV t28 t39 (.bool false)) fun t40 =>
 cnd t40 (bv (abin .add v6 (.int .i64 1)) fun t42 =>
 J1 v0 v1 t42 b4 hp4) (J2 v0 v1 v6 b4 hp4)
def s53_2 (C : CallRel) (R : RP) (v0 v1 v6 : AV) (b4 : List AV) (hp : List AO) : Prop :=
 bv (slstrV v0 (bnX 0 (some v1)) (bnX (lenN v0) (some v6))) fun t47 =>
 callK C 72 [] hp <| rx (pn R) fun t43 hp6 =>
 callK C 71 [t43, t47] hp6 <| rx (pn R) fun t48 hp7 =>
 cnd t48 (bv (bld [.int .i64 0, .int .i64 0] [(0, 1, v1), (1, 1, v6)]) fun t51 =>
 bv (bld [.int .i64 0, .int .i64 0, .int .i64 0] [(0, 1, (.int .i64 3)), (1, 2, t51)]) fun t52 =>
 ifT (okv 3 t52) <|
 bl (upd 0 (AV.cells t52) b4) fun b4_3 =>
 retQ R hp7 (Option.bind (ld 3 true b4_3 0) fun u4 => some [u4, (.int .i64 0)])) (bv (bld [.int .i64 0, .int .i64 0] [(0, 1, v1), (1, 1, v6)]) fun t55 =>
 bv (bld [.int .i64 0, .int .i64 0, .int .i64 0] [(0, 1, (.int .i64 1)), (1, 2, t55)]) fun t56 =>
 ifT (okv 3 t56) <|
 bl (upd 0 (AV.cells t56) b4) fun b4_5 =>
 retQ R hp7 (Option.bind (ld 3 true b4_5 0) fun u6 => some [u6, (.int .i64 0)]))
def s53_3 (C : CallRel) (R : RP) (J3 : AV → AV → AV → List AV → List AO → Prop) (J4 : AV → AV → AV → List AV → List AO → Prop) (v0 v1 v6 : AV) (b4 : List AV) (hp : List AO) : Prop :=
 bv (lenV true v0) fun t63 =>
 bv (abin .lss v6 t63) fun t64 =>
 bv (gv (isB true t64) (some v0)) fun t66 =>
 bv (gv (isB true t64) (some v6)) fun t67 =>
 bv (gv (isB true t64) (ixsV t66 t67)) fun t68 =>
 gcal C (isB true t64) 70 [t68] hp (pn R) fun t69 hp8 =>
 bv (pickV t64 t69 (.bool false)) fun t70 =>
 cnd t70 (bv (abin .add v6 (.int .i64 1)) fun t72 =>
 J3 v0 v1 t72 b4 hp8) (J4 v0 v1 v6 b4 hp8)
def s53_4 (C : CallRel) (R : RP) (v0 v1 v6 : AV) (b4 : List AV) (hp : List AO) : Prop :=
 bv (abin .sub v6 v1) fun t75 =>
 bv (abin .gtr t75 (.int .i64 18)) fun t76 =>
 bv (gv (isB false t76) (some v6)) fun t78 =>
 bv (gv (isB false t76) (some v1)) fun t79 =>
 bv (gv (isB false t76) (abin .sub t78 t79)) fun t80 =>
 bv (gv (isB false t76) (abin .gtr t80 (.int .i64 1))) fun t81 =>
 bv (gv (isB false t76) (some t81)) fun t82 =>
 bv (gv (isB true t82) (some v0)) fun t83 =>
 bv (gv (isB true t82) (some v1)) fun t84 =>
 bv (gv (isB true t82) (ixsV t83 t84)) fun t85 =>
 bv (gv (isB true t82) (abin .eql t85 (.int .u8 48))) fun t86 =>
 bv (gv (isB false t76) (pickV t82 t86 (.bool false))) fun t87 =>
 bv (pickV t76 (.bool true) t87) fun t88 =>
 bv (gv (isB false t88) (some v6)) fun t90 =>
 bv (gv (isB false t88) (some v0)) fun t91 =>
 bv (gv (isB false t88) (lenV true t91)) fun t92 =>
 bv (gv (isB false t88) (abin .lss t90 t92)) fun t93 =>
 bv (gv (isB false t88) (some t93)) fun t94 =>
 bv (gv (isB true t94) (some v0)) fun t95 =>
 bv (gv (isB true t94) (some v6)) fun t96 =>
 bv (gv (isB true t94) (ixsV t95 t96)) fun t97 =>
 gcal C (isB true t94) 69 [t97] hp (pn R) fun t98 hp11 =>
 bv (gv (isB false t88) (pickV t94 t98 (.bool false))) fun t99 =>
 bv (pickV t88 (.bool true) t99) fun t100 =>
 cnd t100 (bv (bld [.int .i64 0, .int .i64 0] [(0, 1, v1), (1, 1, v1)]) fun t103 =>
 bv (bld [.int .i64 0, .int .i64 0, .int .i64 0] [(1, 2, t103)]) fun t104 =>
 ifT (okv 3 t104) <|
 bl (upd 0 (AV.cells t104) b4) fun b4_7 =>
 retQ R hp11 (Option.bind (ld 3 true b4_7 0) fun u8 => some [u8, (.int .i64 2)])) (bv (bld [.int .i64 0, .int .i64 0] [(0, 1, v1), (1, 1, v6)]) fun t107 =>
 bv (bld [.int .i64 0, .int .i64 0, .int .i64 0] [(0, 1, (.int .i64 2)), (1, 2, t107)]) fun t108 =>
 ifT (okv 3 t108) <|
 bl (upd 0 (AV.cells t108) b4) fun b4_9 =>
 retQ R hp11 (Option.bind (ld 3 true b4_9 0) fun u10 => some [u10, (.int .i64 0)]))
def s53_5 (C : CallRel) (R : RP) (v1 v6 : AV) (b4 : List AV) (hp : List AO) : Prop :=
 bv (abin .eql v6 v1) fun t138 =>
 cnd t138 (bv (bld [.int .i64 0, .int .i64 0] [(0, 1, v1), (1, 1, v1)]) fun t141 =>
 bv (bld [.int .i64 0, .int .i64 0, .int .i64 0] [(1, 2, t141)]) fun t142 =>
 ifT (okv 3 t142) <|
 bl (upd 0 (AV.cells t142) b4) fun b4_11 =>
 retQ R hp (Option.bind (ld 3 true b4_11 0) fun u12 => some [u12, (.int .i64 2)])) (bv (bld [.int .i64 0, .int .i64 0] [(0, 1, v1), (1, 1, v6)]) fun t145 =>
 bv (bld [.int .i64 0, .int .i64 0, .int .i64 0] [(0, 1, (.int .i64 4)), (1, 2, t145)]) fun t146 =>
 ifT (okv 3 t146) <|
 bl (upd 0 (AV.cells t146) b4) fun b4_13 =>
 retQ R hp (Option.bind (ld 3 true b4_13 0) fun u14 => some [u14, (.int .i64 0)]))
def s53_6 (C : CallRel) (R : RP) (J5 : AV → AV → List AV → List AO → Prop) (v0 v1 v6 : AV) (b4 : List AV) (hp : List AO) : Prop :=
 bv (mkSlV 1 [(.str [61, 61]), (.str [33, 61]), (.str [60, 61]), (.str [62, 61]), (.str [38, 38]), (.str [124, 124])]) fun t109 =>
 bv (mkSlV 1 [(.str [43]), (.str [45]), (.str [42]), (.str [47]), (.str [37]), (.str [60]), (.str [62]), (.str [33]), (.str [61]), (.str [40]), (.str [41]), (.str [123]), (.str [125]), (.str [91]), (.str [93]), (.str [44]), (.str [59])]) fun t110 =>
 bv (abin .add v1 (.int .i64 2)) fun t112 =>
 bv (lenV true v0) fun t114 =>
 bv (abin .leq t112 t114) fun t115 =>
 bv (gv (isB true t115) (some t109)) fun t117 =>
 bv (gv (isB true t115) (some v0)) fun t118 =>
 bv (gv (isB true t115) (some v1)) fun t119 =>
 bv (gv (isB true t115) (some v1)) fun t120 =>
 bv (gv (isB true t115) (abin .add t120 (.int .i64 2))) fun t121 =>
 bv (gv (isB true t115) (slstrV t118 (bnX 0 (some t119)) (bnX (lenN t118) (some t121)))) fun t122 =>
 gcal C (isB true t115) 71 [t117, t122] hp (pn R) fun t123 hp9 =>
 bv (pickV t115 t123 (.bool false)) fun t124 =>
 cnd t124 (bv (abin .add v1 (.int .i64 2)) fun t126 =>
 J5 v1 t126 b4 hp9) (bv (abin .add v1 (.int .i64 1)) fun t131 =>
 bv (slstrV v0 (bnX 0 (some v1)) (bnX (lenN v0) (some t131))) fun t132 =>
 callK C 71 [t110, t132] hp9 <| rx (pn R) fun t133 hp10 =>
 cnd t133 (bv (abin .add v1 (.int .i64 1)) fun t135 =>
 J5 v1 t135 b4 hp10) (J5 v1 v6 b4 hp10))
def s53_7 (C : CallRel) (R : RP) (J3 : AV → AV → AV → List AV → List AO → Prop) (J6 : AV → AV → AV → List AV → List AO → Prop) (v0 v1 v6 : AV) (b4 : List AV) (hp : List AO) : Prop :=
 bv (ixsV v0 v1) fun t59 =>
 callK C 70 [t59] hp <| rx (pn R) fun t60 hp5 =>
 cnd t60 (J3 v0 v1 v6 b4 hp5) (J6 v0 v1 v6 b4 hp5)
def s53_0 (C : CallRel) (R : RP) (J1 : AV → AV → AV → List AV → List AO → Prop) (J7 : AV → AV → AV → List AV → List AO → Prop) (v0 v1 : AV) (hp : List AO) : Prop :=
 ifT (notLoc 4 v0 && (notLoc 4 v1 && true)) <|
 callK C 68 [v0, v1] hp <| rx (pn R) fun t11 hp1 =>
 bv (lenV true v0) fun t14 =>
 bv (abin .eql t11 t14) fun t15 =>
 cnd t15 (bv (bld [.int .i64 0, .int .i64 0] [(0, 1, t11), (1, 1, t11)]) fun t18 =>
 bv (bld [.int .i64 0, .int .i64 0, .int .i64 0] [(1, 2, t18)]) fun t19 =>
 ifT (okv 3 t19) <|
 bl (upd 0 (AV.cells t19) [.int .i64 0, .int .i64 0, .int .i64 0]) fun b4_1 =>
 retQ R hp1 (Option.bind (ld 3 true b4_1 0) fun u2 => some [u2, (.int .i64 0)])) (bv (ixsV v0 t11) fun t23 =>
 callK C 69 [t23] hp1 <| rx (pn R) fun t24 hp2 =>
 cnd t24 (J1 v0 t11 t11 [.int .i64 0, .int .i64 0, .int .i64 0] hp2) (J7 v0 t11 t11 [.int .i64 0, .int .i64 0, .int .i64 0] hp2))
def s53 (C : CallRel) (R : RP) (v0 v1 : AV) (hp : List AO) : Prop :=
 ∀ J1 : AV → AV → AV → List AV → List AO → Prop,
 ∀ J2 : AV → AV → AV → List AV → List AO → Prop,
 ∀ J3 : AV → AV → AV → List AV → List AO → Prop,
 ∀ J4 : AV → AV → AV → List AV → List AO → Prop,
 ∀ J5 : AV → AV → List AV → List AO → Prop,
 ∀ J6 : AV → AV → AV → List AV → List AO → Prop,
 ∀ J7 : AV → AV → AV → List AV → List AO → Prop,
 (∀ v0 v1 v6 b4 hp, s53_1 C R J1 J2 v0 v1 v6 b4 hp → J1 v0 v1 v6 b4 hp) →
 (∀ v0 v1 v6 b4 hp, s53_2 C R v0 v1 v6 b4 hp → J2 v0 v1 v6 b4 hp) →
 (∀ v0 v1 v6 b4 hp, s53_3 C R J3 J4 v0 v1 v6 b4 hp → J3 v0 v1 v6 b4 hp) →
 (∀ v0 v1 v6 b4 hp, s53_4 C R v0 v1 v6 b4 hp → J4 v0 v1 v6 b4 hp) →
 (∀ v1 v6 b4 hp, s53_5 C R v1 v6 b4 hp → J5 v1 v6 b4 hp) →
 (∀ v0 v1 v6 b4 hp, s53_6 C R J5 v0 v1 v6 b4 hp → J6 v0 v1 v6 b4 hp) →
 (∀ v0 v1 v6 b4 hp, s53_7 C R J3 J6 v0 v1 v6 b4 hp → J7 v0 v1 v6 b4 hp) →
 s53_0 C R J1 J7 v0 v1 hp
def q53_7 (C : CallRel) (R : RP) : APost := (resQ a53.res R)
def p53_7 (C : CallRel) (R : RP) : APost := seqQ (fun st => awp C j53_7 (q53_7 C R) (st.keep [0, 1, 4, 6])) (q53_7 C R)
def J53_7 (C : CallRel) (R : RP) (v0 v1 v6 : AV) (b4 : List AV) (hp : List AO) : Prop := awp C j53_7 (q53_7 C R) ⟨[(0, v0), (1, v1), (4, (.loc 4 0)), (6, v6)], [(4, b4)], hp⟩
def q53_2 (C : CallRel) (R : RP) : APost := (p53_7 C R)
def p53_2 (C : CallRel) (R : RP) : APost := seqQ (fun st => awp C j53_2 (q53_2 C R) (st.keep [0, 1, 4, 6])) (q53_2 C R)
def J53_2 (C : CallRel) (R : RP) (v0 v1 v6 : AV) (b4 : List AV) (hp : List AO) : Prop := awp C j53_2 (q53_2 C R) ⟨[(0, v0), (1, v1), (4, (.loc 4 0)), (6, v6)], [(4, b4)], hp⟩
def p53_1 (C : CallRel) (R : RP) : APost := (blockQ 0 (p53_2 C R))
def J53_1 (C : CallRel) (R : RP) (v0 v1 v6 : AV) (b4 : List AV) (hp : List AO) : Prop := awp C (.loop [0, 1, 4, 6] j53_1) (p53_1 C R) ⟨[(0, v0), (1, v1), (4, (.loc 4 0)), (6, v6)], [(4, b4)], hp⟩
def q53_6 (C : CallRel) (R : RP) : APost := (resQ a53.res R)
def p53_6 (C : CallRel) (R : RP) : APost := seqQ (fun st => awp C j53_6 (q53_6 C R) (st.keep [0, 1, 4, 6])) (q53_6 C R)
def J53_6 (C : CallRel) (R : RP) (v0 v1 v6 : AV) (b4 : List AV) (hp : List AO) : Prop := awp C j53_6 (q53_6 C R) ⟨[(0, v0), (1, v1), (4, (.loc 4 0)), (6, v6)], [(4, b4)], hp⟩
def q53_4 (C : CallRel) (R : RP) : APost := (p53_6 C R)
def p53_4 (C : CallRel) (R : RP) : APost := seqQ (fun st => awp C j53_4 (q53_4 C R) (st.keep [0, 1, 4, 6])) (q53_4 C R)
def J53_4 (C : CallRel) (R : RP) (v0 v1 v6 : AV) (b4 : List AV) (hp : List AO) : Prop := awp C j53_4 (q53_4 C R) ⟨[(0, v0), (1, v1), (4, (.loc 4 0)), (6, v6)], [(4, b4)], hp⟩
def p53_3 (C : CallRel) (R : RP) : APost := (blockQ 2 (p53_4 C R))
def J53_3 (C : CallRel) (R : RP) (v0 v1 v6 : AV) (b4 : List AV) (hp : List AO) : Prop := awp C (.loop [0, 1, 4, 6] j53_3) (p53_3 C R) ⟨[(0, v0), (1, v1), (4, (.loc 4 0)), (6, v6)], [(4, b4)], hp⟩
def q53_5 (C : CallRel) (R : RP) : APost := (resQ a53.res R)
def p53_5 (C : CallRel) (R : RP) : APost := seqQ (fun st => awp C j53_5 (q53_5 C R) (st.keep [1, 4, 6])) (q53_5 C R)
def J53_5 (C : CallRel) (R : RP) (v1 v6 : AV) (b4 : List AV) (hp : List AO) : Prop := awp C j53_5 (q53_5 C R) ⟨[(1, v1), (4, (.loc 4 0)), (6, v6)], [(4, b4)], hp⟩
theorem e53_1 {C : CallRel} {R : RP} {v0 v1 v6 : AV} {b4 : List AV} {hp : List AO} : s53_1 C R (J53_1 C R) (J53_2 C R) v0 v1 v6 b4 hp = xwp C x53_1 (seqQ (awp C (.loop [0, 1, 4, 6] j53_1) (p53_1 C R)) (p53_1 C R)) (St.keep ⟨[(0, v0), (1, v1), (4, (.loc 4 0)), (6, v6)], [(4, b4)], hp⟩ [0, 1, 4, 6]) := by kernel_rfl
theorem e53_2 {C : CallRel} {R : RP} {v0 v1 v6 : AV} {b4 : List AV} {hp : List AO} : s53_2 C R v0 v1 v6 b4 hp = xwp C x53_2 (q53_2 C R) ⟨[(0, v0), (1, v1), (4, (.loc 4 0)), (6, v6)], [(4, b4)], hp⟩ := by kernel_rfl
theorem e53_3 {C : CallRel} {R : RP} {v0 v1 v6 : AV} {b4 : List AV} {hp : List AO} : s53_3 C R (J53_3 C R) (J53_4 C R) v0 v1 v6 b4 hp = xwp C x53_3 (seqQ (awp C (.loop [0, 1, 4, 6] j53_3) (p53_3 C R)) (p53_3 C R)) (St.keep ⟨[(0, v0), (1, v1), (4, (.loc 4 0)), (6, v6)], [(4, b4)], hp⟩ [0, 1, 4, 6]) := by kernel_rfl
theorem e53_4 {C : CallRel} {R : RP} {v0 v1 v6 : AV} {b4 : List AV} {hp : List AO} : s53_4 C R v0 v1 v6 b4 hp = xwp C x53_4 (q53_4 C R) ⟨[(0, v0), (1, v1), (4, (.loc 4 0)), (6, v6)], [(4, b4)], hp⟩ := by kernel_rfl
theorem e53_5 {C : CallRel} {R : RP} {v1 v6 : AV} {b4 : List AV} {hp : List AO} : s53_5 C R v1 v6 b4 hp = xwp C x53_5 (q53_5 C R) ⟨[(1, v1), (4, (.loc 4 0)), (6, v6)], [(4, b4)], hp⟩ := by kernel_rfl
theorem e53_6 {C : CallRel} {R : RP} {v0 v1 v6 : AV} {b4 : List AV} {hp : List AO} : s53_6 C R (J53_5 C R) v0 v1 v6 b4 hp = xwp C x53_6 (q53_6 C R) ⟨[(0, v0), (1, v1), (4, (.loc 4 0)), (6, v6)], [(4, b4)], hp⟩ := by kernel_rfl
theorem e53_7 {C : CallRel} {R : RP} {v0 v1 v6 : AV} {b4 : List AV} {hp : List AO} : s53_7 C R (J53_3 C R) (J53_6 C R) v0 v1 v6 b4 hp = xwp C x53_7 (q53_7 C R) ⟨[(0, v0), (1, v1), (4, (.loc 4 0)), (6, v6)], [(4, b4)], hp⟩ := by kernel_rfl
theorem e53_0 {C : CallRel} {R : RP} {v0 v1 : AV} {hp : List AO} : s53_0 C R (J53_1 C R) (J53_7 C R) v0 v1 hp = xwp C x53_0 (resQ a53.res R) ⟨enum 0 [v0, v1], [], hp⟩ := by kernel_rfl
theorem w53 {C : CallRel} {R : RP} {v0 v1 : AV} {hp : List AO} (hC : CMono C) (h : s53 C R v0 v1 hp) : awp C a53.body (resQ a53.res R) ⟨enum 0 [v0, v1], [], hp⟩ :=
 cut_in hC e53_0 (h (J53_1 C R) (J53_2 C R) (J53_3 C R) (J53_4 C R) (J53_5 C R) (J53_6 C R) (J53_7 C R)
 (fun _ _ _ _ _ h => cut_loop hC e53_1 h)
 (fun _ _ _ _ _ h => cut_in hC e53_2 h)
 (fun _ _ _ _ _ h => cut_loop hC e53_3 h)
 (fun _ _ _ _ _ h => cut_in hC e53_4 h)
 (fun _ _ _ _ h => cut_in hC e53_5 h)
 (fun _ _ _ _ _ h => cut_in hC e53_6 h)
 (fun _ _ _ _ _ h => cut_in hC e53_7 h))
/-! ### 54 rewind/rewindref04.here -/
def s54_0 (C : CallRel) (R : RP) (v0 : AV) (hp : List AO) : Prop :=
 ifT (AV.mem v0) <|
 ifT (notLoc 1 v0 && true) <|
 bv (ld 1 false (AV.cells v0) 1) fun t4 =>
 bv (ld 1 false (AV.cells v0) 2) fun t6 =>
 bv (ixaV 3 t4 t6) fun t7 =>
 bv (faddV 1 t7) fun t8 =>
 bv (faddV 0 t8) fun t9 =>
 bv (ldH hp 1 false t9) fun t10 =>
 retQ R hp (some [t10])
def s54 (C : CallRel) (R : RP) (v0 : AV) (hp : List AO) : Prop :=
 s54_0 C R v0 hp
theorem e54_0 {C : CallRel} {R : RP} {v0 : AV} {hp : List AO} : s54_0 C R v0 hp = xwp C x54_0 (resQ a54.res R) ⟨enum 0 [v0], [], hp⟩ := by kernel_rfl
theorem w54 {C : CallRel} {R : RP} {v0 : AV} {hp : List AO} (hC : CMono C) (h : s54 C R v0 hp) : awp C a54.body (resQ a54.res R) ⟨enum 0 [v0], [], hp⟩ :=
 cut_in hC e54_0 (h)
/-! ### 55 rewind/rewindref04.is -/
def s55_0 (C : CallRel) (R : RP) (v0 v1 : AV) (hp : List AO) : Prop :=
 ifT (AV.mem v0) <|
 ifT (notLoc 2 v0 && (notLoc 2 v1 && true)) <|
 bv (ld 1 false (AV.cells v0) 6) fun t6 =>
 bv (abin .eql t6 (.int .i64 0)) fun t7 =>
 bv (gv (isB true t7) (faddV 1 (.loc 2 0))) fun t9 =>
 bv (gv (isB true t7) (ldL [(2, (AV.cells v0))] 1 false t9)) fun t10 =>
 bv (gv (isB true t7) (faddV 2 (.loc 2 0))) fun t11 =>
 bv (gv (isB true t7) (ldL [(2, (AV.cells v0))] 1 false t11)) fun t12 =>
 bv (gv (isB true t7) (ixaV 3 t10 t12)) fun t13 =>
 bv (gv (isB true t7) (faddV 0 t13)) fun t14 =>
 bv (gv (isB true t7) (ldH hp 1 false t14)) fun t15 =>
 bv (gv (isB true t7) (abin .neq t15 (.int .i64 0))) fun t16 =>
 bv (pickV t7 t16 (.bool false)) fun t17 =>
 bv (gv (isB true t17) (ld 8 true (AV.cells v0) 0)) fun t19 =>
 gcal C (isB true t17) 73 [t19] hp (pn R) fun t20 hp1 =>
 bv (gv (isB true t17) (some v1)) fun t21 =>
 bv (gv (isB true t17) (abin .eql t20 t21)) fun t22 =>
 bv (pickV t17 t22 (.bool false)) fun t23 =>
 retQ R hp1 (some [t23])
def s55 (C : CallRel) (R : RP) (v0 v1 : AV) (hp : List AO) : Prop :=
 s55_0 C R v0 v1 hp
theorem e55_0 {C : CallRel} {R : RP} {v0 v1 : AV} {hp : List AO} : s55_0 C R v0 v1 hp = xwp C x55_0 (resQ a55.res R) ⟨enum 0 [v0, v1], [], hp⟩ := by kernel_rfl
theorem w55 {C : CallRel} {R : RP} {v0 v1 : AV} {hp : List AO} (hC : CMono C) (h : s55 C R v0 v1 hp) : awp C a55.body (resQ a55.res R) ⟨enum 0 [v0, v1], [], hp⟩ :=
 cut_in hC e55_0 (h)
/-! ### 56 rewind/rewindref04.fail -/
def s56_1 (C : CallRel) (R : RP) (b2 : List AV) (b4 : List AV) (hp : List AO) : Prop :=
 bv (ld 8 true b2 0) fun t13 =>
 ifT (okv 8 t13) <|
 bl (upd 0 (AV.cells t13) b4) fun b4_3 =>
 retQ R hp (Option.bind (ld 8 true b4_3 0) fun u4 => some [u4])
def s56_0 (C : CallRel) (R : RP) (J1 : List AV → List AV → List AO → Prop) (v0 v1 : AV) (hp : List AO) : Prop :=
 ifT (AV.mem v0) <|
 ifT (notLoc 2 v0 && (notLoc 2 v1 && true)) <|
 ifT (notLoc 4 v0 && (notLoc 4 v1 && true)) <|
 bv (ld 1 false (AV.cells v0) 6) fun t6 =>
 bv (abin .eql t6 (.int .i64 0)) fun t7 =>
 cnd t7 (ifT (okv 1 v1) <|
 bl (upd 6 (AV.cells v1) (AV.cells v0)) fun b2_1 =>
 bv (ld 8 true b2_1 0) fun t10 =>
 callK C 54 [t10] hp <| rx (pn R) fun t11 hp1 =>
 ifT (okv 1 t11) <|
 bl (upd 7 (AV.cells t11) b2_1) fun b2_2 =>
 J1 b2_2 ([.str [], .sl .cap0 3 [], .int .i64 0, .sl .cap0 9 [], .sl .cap0 9 [], .sl .cap0 6 [], .int .i64 0, .int .i64 0]) hp1) (J1 (AV.cells v0) ([.str [], .sl .cap0 3 [], .int .i64 0, .sl .cap0 9 [], .sl .cap0 9 [], .sl .cap0 6 [], .int .i64 0, .int .i64 0]) hp)
def s56 (C : CallRel) (R : RP) (v0 v1 : AV) (hp : List AO) : Prop :=
 ∀ J1 : List AV → List AV → List AO → Prop,
 (∀ b2 b4 hp, s56_1 C R b2 b4 hp → J1 b2 b4 hp) →
 s56_0 C R J1 v0 v1 hp
def q56_1 (C : CallRel) (R : RP) : APost := (resQ a56.res R)
def p56_1 (C : CallRel) (R : RP) : APost := seqQ (fun st => awp C j56_1 (q56_1 C R) (st.keep [2, 4])) (q56_1 C R)
def J56_1 (C : CallRel) (R : RP) (b2 : List AV) (b4 : List AV) (hp : List AO) : Prop := awp C j56_1 (q56_1 C R) ⟨[(2, (.loc 2 0)), (4, (.loc 4 0))], [(2, b2), (4, b4)], hp⟩
theorem e56_1 {C : CallRel} {R : RP} {b2 : List AV} {b4 : List AV} {hp : List AO} : s56_1 C R b2 b4 hp = xwp C x56_1 (q56_1 C R) ⟨[(2, (.loc 2 0)), (4, (.loc 4 0))], [(2, b2), (4, b4)], hp⟩ := by kernel_rfl
theorem e56_0 {C : CallRel} {R : RP} {v0 v1 : AV} {hp : List AO} : s56_0 C R (J56_1 C R) v0 v1 hp = xwp C x56_0 (resQ a56.res R) ⟨enum 0 [v0, v1], [], hp⟩ := by kernel_rfl
theorem w56 {C : CallRel} {R : RP} {v0 v1 : AV} {hp : List AO} (hC : CMono C) (h : s56 C R v0 v1 hp) : awp C a56.body (resQ a56.res R) ⟨enum 0 [v0, v1], [], hp⟩ :=
 cut_in hC e56_0 (h (J56_1 C R)
 (fun _ _ _ h => cut_in hC e56_1 h))
/-! ### 57 rewind/rewindref04.kind -/
def s57_0 (C : CallRel) (R : RP) (v0 v1 : AV) (hp : List AO) : Prop :=
 ifT (AV.mem v0) <|
 ifT (notLoc 2 v0 && (notLoc 2 v1 && true)) <|
 ifT (notLoc 4 v0 && (notLoc 4 v1 && true)) <|
 bv (ld 1 false (AV.cells v0) 6) fun t8 =>
 bv (abin .neq t8 (.int .i64 0)) fun t9 =>
 bv (gv (isB false t9) (faddV 1 (.loc 2 0))) fun t11 =>
 bv (gv (isB false t9) (ldL [(2, (AV.cells v0)), (4, [.str [], .sl .cap0 3 [], .int .i64 0, .sl .cap0 9 [], .sl .cap0 9 [], .sl .cap0 6 [], .int .i64 0, .int .i64 0])] 1 false t11)) fun t12 =>
 bv (gv (isB false t9) (faddV 2 (.loc 2 0))) fun t13 =>
 bv (gv (isB false t9) (ldL [(2, (AV.cells v0)), (4, [.str [], .sl .cap0 3 [], .int .i64 0, .sl .cap0 9 [], .sl .cap0 9 [], .sl .cap0 6 [], .int .i64 0, .int .i64 0])] 1 false t13)) fun t14 =>
 bv (gv (isB false t9) (ixaV 3 t12 t14)) fun t15 =>
 bv (gv (isB false t9) (faddV 0 t15)) fun t16 =>
 bv (gv (isB false t9) (ldH hp 1 false t16)) fun t17 =>
 bv (gv (isB false t9) (some v1)) fun t18 =>
 bv (gv (isB false t9) (abin .neq t17 t18)) fun t19 =>
 bv (pickV t9 (.bool true) t19) fun t20 =>
 cnd t20 (bv (ld 8 true (AV.cells v0) 0) fun t21 =>
 callK C 56 [t21, (.int .i64 3)] hp <| rx (pn R) fun t22 hp1 =>
 ifT (okv 8 t22) <|
 bl (upd 0 (AV.cells t22) ([.str [], .sl .cap0 3 [], .int .i64 0, .sl .cap0 9 [], .sl .cap0 9 [], .sl .cap0 6 [], .int .i64 0, .int .i64 0])) fun b4_1 =>
 retQ R hp1 (Option.bind (ld 8 true b4_1 0) fun u2 => some [u2, (.str [])])) (bv (ld 8 true (AV.cells v0) 0) fun t23 =>
 callK C 73 [t23] hp <| rx (pn R) fun t24 hp2 =>
 bv (ld 1 false (AV.cells v0) 2) fun t26 =>
 bv (abin .add t26 (.int .i64 1)) fun t27 =>
 ifT (okv 1 t27) <|
 bl (upd 2 (AV.cells t27) (AV.cells v0)) fun b2_3 =>
 bv (ld 8 true b2_3 0) fun t29 =>
 ifT (okv 8 t29) <|
 bl (upd 0 (AV.cells t29) ([.str [], .sl .cap0 3 [], .int .i64 0, .sl .cap0 9 [], .sl .cap0 9 [], .sl .cap0 6 [], .int .i64 0, .int .i64 0])) fun b4_4 =>
 retQ R hp2 (Option.bind (ld 8 true b4_4 0) fun u5 => some [u5, t24]))
def s57 (C : CallRel) (R : RP) (v0 v1 : AV) (hp : List AO) : Prop :=
 s57_0 C R v0 v1 hp
theorem e57_0 {C : CallRel} {R : RP} {v0 v1 : AV} {hp : List AO} : s57_0 C R v0 v1 hp = xwp C x57_0 (resQ a57.res R) ⟨enum 0 [v0, v1], [], hp⟩ := by kernel_rfl
theorem w57 {C : CallRel} {R : RP} {v0 v1 : AV} {hp : List AO} (hC : CMono C) (h : s57 C R v0 v1 hp) : awp C a57.body (resQ a57.res R) ⟨enum 0 [v0, v1], [], hp⟩ :=
 cut_in hC e57_0 (h)
/-! ### 58 rewind/rewindref04.want -/
def s58_0 (C : CallRel) (R : RP) (v0 v1 : AV) (hp : List AO) : Prop :=
 ifT (AV.mem v0) <|
 ifT (notLoc 2 v0 && (notLoc 2 v1 && true)) <|
 ifT (notLoc 4 v0 && (notLoc 4 v1 && true)) <|
 bv (ld 8 true (AV.cells v0) 0) fun t5 =>
 callK C 55 [t5, v1] hp <| rx (pn R) fun t7 hp1 =>
 bv (aun .not t7) fun t8 =>
 cnd t8 (bv (ld 8 true (AV.cells v0) 0) fun t9 =>
 callK C 56 [t9, (.int .i64 3)] hp1 <| rx (pn R) fun t10 hp2 =>
 ifT (okv 8 t10) <|
 bl (upd 0 (AV.cells t10) ([.str [], .sl .cap0 3 [], .int .i64 0, .sl .cap0 9 [], .sl .cap0 9 [], .sl .cap0 6 [], .int .i64 0, .int .i64 0])) fun b4_1 =>
 retQ R hp2 (Option.bind (ld 8 true b4_1 0) fun u2 => some [u2])) (bv (ld 1 false (AV.cells v0) 2) fun t12 =>
 bv (abin .add t12 (.int .i64 1)) fun t13 =>
 ifT (okv 1 t13) <|
 bl (upd 2 (AV.cells t13) (AV.cells v0)) fun b2_3 =>
 bv (ld 8 true b2_3 0) fun t15 =>
 ifT (okv 8 t15) <|
 bl (upd 0 (AV.cells t15) ([.str [], .sl .cap0 3 [], .int .i64 0, .sl .cap0 9 [], .sl .cap0 9 [], .sl .cap0 6 [], .int .i64 0, .int .i64 0])) fun b4_4 =>
 retQ R hp1 (Option.bind (ld 8 true b4_4 0) fun u5 => some [u5]))
def s58 (C : CallRel) (R : RP) (v0 v1 : AV) (hp : List AO) : Prop :=
 s58_0 C R v0 v1 hp
theorem e58_0 {C : CallRel} {R : RP} {v0 v1 : AV} {hp : List AO} : s58_0 C R v0 v1 hp = xwp C x58_0 (resQ a58.res R) ⟨enum 0 [v0, v1], [], hp⟩ := by kernel_rfl
theorem w58 {C : CallRel} {R : RP} {v0 v1 : AV} {hp : List AO} (hC : CMono C) (h : s58 C R v0 v1 hp) : awp C a58.body (resQ a58.res R) ⟨enum 0 [v0, v1], [], hp⟩ :=
 cut_in hC e58_0 (h)
/-! ### 59 rewind/rewindref04.block -/
def s59_1 (C : CallRel) (R : RP) (J1 : AV → AV → List AV → List AV → List AO → Prop) (J2 : AV → List AV → List AV → List AO → Prop) (v1 v6 : AV) (b2 : List AV) (b4 : List AV) (hp : List AO) : Prop :=
 bv (ld 1 false b2 6) fun t17 =>
 bv (abin .eql t17 (.int .i64 0)) fun t18 =>
 bv (gv (isB true t18) (ld 8 true b2 0)) fun t20 =>
 gcal C (isB true t18) 55 [t20, (.str [125])] hp (pn R) fun t21 hp4 =>
 bv (gv (isB true t18) (aun .not t21)) fun t22 =>
 bv (pickV t18 t22 (.bool false)) fun t23 =>
 cnd t23 (bv (ld 8 true b2 0) fun t25 =>
 callK C 75 [t25, v1] hp4 <| rx (pn R) fun t27 hp5 =>
 bv (extV 0 t27) fun t28 =>
 bv (extV 1 t27) fun t29 =>
 ifT (notLoc 7 v1 && (notLoc 7 v6 && (notLoc 7 t23 && (notLoc 7 t27 && (notLoc 7 t25 && (notLoc 7 v1 && (notLoc 7 t27 && (notLoc 7 t28 && (notLoc 7 t29 && true))))))))) <|
 ifT (okv 8 t28) <|
 bl (upd 0 (AV.cells t28) ([.str [], .sl .cap0 3 [], .int .i64 0, .sl .cap0 9 [], .sl .cap0 9 [], .sl .cap0 6 [], .int .i64 0, .int .i64 0])) fun b7_3 =>
 bv (ld 8 true b7_3 0) fun t30 =>
 ifT (okv 8 t30) <|
 bl (upd 0 (AV.cells t30) b2) fun b2_4 =>
 bv (mkSlV 1 [t29]) fun t33 =>
 ba (apx false 1 hp5 v6 t33) fun t34 hp6 =>
 J1 v1 t34 b2_4 b4 hp6) (J2 v6 b2 b4 hp4)
def s59_2 (C : CallRel) (R : RP) (v6 : AV) (b2 : List AV) (b4 : List AV) (hp : List AO) : Prop :=
 bv (ld 8 true b2 0) fun t35 =>
 callK C 58 [t35, (.str [125])] hp <| rx (pn R) fun t36 hp7 =>
 ifT (okv 8 t36) <|
 bl (upd 0 (AV.cells t36) b4) fun b4_5 =>
 retQ R hp7 (Option.bind (ld 8 true b4_5 0) fun u6 => some [u6, v6])
def s59_3 (C : CallRel) (R : RP) (J1 : AV → AV → List AV → List AV → List AO → Prop) (v1 : AV) (b2 : List AV) (b4 : List AV) (hp : List AO) : Prop :=
 bv (ld 8 true b2 0) fun t14 =>
 callK C 58 [t14, (.str [123])] hp <| rx (pn R) fun t15 hp3 =>
 ifT (okv 8 t15) <|
 bl (upd 0 (AV.cells t15) b2) fun b2_2 =>
 J1 v1 (.sl .cap0 1 []) b2_2 b4 hp3
def s59_0 (C : CallRel) (R : RP) (J3 : AV → List AV → List AV → List AO → Prop) (v0 v1 : AV) (hp : List AO) : Prop :=
 ifT (AV.mem v0) <|
 ifT (notLoc 2 v0 && (notLoc 2 v1 && true)) <|
 ifT (notLoc 4 v0 && (notLoc 4 v1 && true)) <|
 bv (ld 8 true (AV.cells v0) 0) fun t9 =>
 callK C 55 [t9, (.str [123])] hp <| rx (pn R) fun t10 hp1 =>
 cnd t10 (bv (ld 8 true (AV.cells v0) 0) fun t11 =>
 callK C 74 [t11, v1] hp1 <| rx (pn R) fun t13 hp2 =>
 ifT (okv 8 t13) <|
 bl (upd 0 (AV.cells t13) (AV.cells v0)) fun b2_1 =>
 J3 v1 b2_1 ([.str [], .sl .cap0 3 [], .int .i64 0, .sl .cap0 9 [], .sl .cap0 9 [], .sl .cap0 6 [], .int .i64 0, .int .i64 0]) hp2) (J3 v1 (AV.cells v0) ([.str [], .sl .cap0 3 [], .int .i64 0, .sl .cap0 9 [], .sl .cap0 9 [], .sl .cap0 6 [], .int .i64 0, .int .i64 0]) hp1)
def s59 (C : CallRel) (R : RP) (v0 v1 : AV) (hp : List AO) : Prop :=
 ∀ J1 : AV → AV → List AV → List AV → List AO → Prop,
 ∀ J2 : AV → List AV → List AV → List AO → Prop,
 ∀ J3 : AV → List AV → List AV → List AO → Prop,
 (∀ v1 v6 b2 b4 hp, s59_1 C R J1 J2 v1 v6 b2 b4 hp → J1 v1 v6 b2 b4 hp) →
 (∀ v6 b2 b4 hp, s59_2 C R v6 b2 b4 hp → J2 v6 b2 b4 hp) →
 (∀ v1 b2 b4 hp, s59_3 C R J1 v1 b2 b4 hp → J3 v1 b2 b4 hp) →
 s59_0 C R J3 v0 v1 hp
def q59_2 (C : CallRel) (R : RP) : APost := (resQ a59.res R)
def p59_2 (C : CallRel) (R : RP) : APost := seqQ (fun st => awp C j59_2 (q59_2 C R) (st.keep [2, 4, 6])) (q59_2 C R)
def J59_2 (C : CallRel) (R : RP) (v6 : AV) (b2 : List AV) (b4 : List AV) (hp : List AO) : Prop := awp C j59_2 (q59_2 C R) ⟨[(2, (.loc 2 0)), (4, (.loc 4 0)), (6, v6)], [(2, b2), (4, b4)], hp⟩
def p59_1 (C : CallRel) (R : RP) : APost := (blockQ 0 (p59_2 C R))
def J59_1 (C : CallRel) (R : RP) (v1 v6 : AV) (b2 : List AV) (b4 : List AV) (hp : List AO) : Prop := awp C (.loop [1, 2, 4, 6] j59_1) (p59_1 C R) ⟨[(1, v1), (2, (.loc 2 0)), (4, (.loc 4 0)), (6, v6)], [(2, b2), (4, b4)], hp⟩
def q59_3 (C : CallRel) (R : RP) : APost := (resQ a59.res R)
def p59_3 (C : CallRel) (R : RP) : APost := seqQ (fun st => awp C j59_3 (q59_3 C R) (st.keep [1, 2, 4])) (q59_3 C R)
def J59_3 (C : CallRel) (R : RP) (v1 : AV) (b2 : List AV) (b4 : List AV) (hp : List AO) : Prop := awp C j59_3 (q59_3 C R) ⟨[(1, v1), (2, (.loc 2 0)), (4, (.loc 4 0))], [(2, b2), (4, b4)], hp⟩
theorem e59_1 {C : CallRel} {R : RP} {v1 v6 : AV} {b2 : List AV} {b4 : List AV} {hp : List AO} : s59_1 C R (J59_1 C R) (J59_2 C R) v1 v6 b2 b4 hp = xwp C x59_1 (seqQ (awp C (.loop [1, 2, 4, 6] j59_1) (p59_1 C R)) (p59_1 C R)) (St.keep ⟨[(1, v1), (2, (.loc 2 0)), (4, (.loc 4 0)), (6, v6)], [(2, b2), (4, b4)], hp⟩ [1, 2, 4, 6]) := by kernel_rfl
theorem e59_2 {C : CallRel} {R : RP} {v6 : AV} {b2 : List AV} {b4 : List AV} {hp : List AO} : s59_2 C R v6 b2 b4 hp = xwp C x59_2 (q59_2 C R) ⟨[(2, (.loc 2 0)), (4, (.loc 4 0)), (6, v6)], [(2, b2), (4, b4)], hp⟩ := by kernel_rfl
theorem e59_3 {C : CallRel} {R : RP} {v1 : AV} {b2 : List AV} {b4 : List AV} {hp : List AO} : s59_3 C R (J59_1 C R) v1 b2 b4 hp = xwp C x59_3 (q59_3 C R) ⟨[(1, v1), (2, (.loc 2 0)), (4, (.loc 4 0))], [(2, b2), (4, b4)], hp⟩ := by kernel_rfl
theorem e59_0 {C : CallRel} {R : RP} {v0 v1 : AV} {hp : List AO} : s59_0 C R (J59_3 C R) v0 v1 hp = xwp C x59_0 (resQ a59.res R) ⟨enum 0 [v0, v1], [], hp⟩ := by kernel_rfl
theorem w59 {C : CallRel} {R : RP} {v0 v1 : AV} {hp : List AO} (hC : CMono C) (h : s59 C R v0 v1 hp) : awp C a59.body (resQ a59.res R) ⟨enum 0 [v0, v1], [], hp⟩ :=
 cut_in hC e59_0 (h (J59_1 C R) (J59_2 C R) (J59_3 C R)
 (fun _ _ _ _ _ h => cut_loop hC e59_1 h)
 (fun _ _ _ _ h => cut_in hC e59_2 h)
 (fun _ _ _ _ h => cut_in hC e59_3 h))
/-! ### 60 rewind/rewindref06.value -/
def s60_0 (C : CallRel) (R : RP) (v0 v1 : AV) (hp : List AO) : Prop :=
 ifT (AV.mem v0) <|
 ifT (notLoc 2 v0 && (notLoc 2 v1 && true)) <|
 ifT (notLoc 4 v0 && (notLoc 4 v1 && true)) <|
 bv (ld 14 true (AV.cells v0) 0) fun t9 =>
 callK C 63 [t9, v1] hp <| rx (pn R) fun t11 hp1 =>
 bv (extV 0 t11) fun t12 =>
 bv (extV 1 t11) fun t13 =>
 ifT (notLoc 6 v1 && (notLoc 6 t11 && (notLoc 6 t9 && (notLoc 6 v1 && (notLoc 6 t11 && (notLoc 6 t12 && (notLoc 6 t13 && true))))))) <|
 ifT (okv 14 t12) <|
 bl (upd 0 (AV.cells t12) ([.sl .cap0 9 [], .sl .cap0 9 [], .sl .cap0 6 [], .sl .cap0 1 [], .sl .cap0 1 [], .sl .cap0 1 [], .sl .cap0 1 [], .sl .cap0 1 [], .int .i64 0, .sl .cap0 3 [], .int .i64 0, .int .i64 0, .int .i64 0, .int .i64 0])) fun b6_1 =>
 bv (ld 14 true b6_1 0) fun t14 =>
 bv (abin .neq t13 (.int .i64 4)) fun t16 =>
 bv (ld 1 false (AV.cells v0) 0) fun t19 =>
 bv (ixaV 9 t19 v1) fun t21 =>
 bv (faddV 1 t21) fun t22 =>
 bv (faddV 0 t22) fun t23 =>
 bv (ldE 1 false t23) fun t24 =>
 callK C 45 [t14, t16, t24, (.int .i64 8)] hp1 <| rx (pn R) fun t25 hp2 =>
 ifT (okv 14 t25) <|
 bl (upd 0 (AV.cells t25) ([.sl .cap0 9 [], .sl .cap0 9 [], .sl .cap0 6 [], .sl .cap0 1 [], .sl .cap0 1 [], .sl .cap0 1 [], .sl .cap0 1 [], .sl .cap0 1 [], .int .i64 0, .sl .cap0 3 [], .int .i64 0, .int .i64 0, .int .i64 0, .int .i64 0])) fun b4_2 =>
 retQ R hp2 (Option.bind (ld 14 true b4_2 0) fun u3 => some [u3, t13])
def s60 (C : CallRel) (R : RP) (v0 v1 : AV) (hp : List AO) : Prop :=
 s60_0 C R v0 v1 hp
theorem e60_0 {C : CallRel} {R : RP} {v0 v1 : AV} {hp : List AO} : s60_0 C R v0 v1 hp = xwp C x60_0 (resQ a60.res R) ⟨enum 0 [v0, v1], [], hp⟩ := by kernel_rfl
theorem w60 {C : CallRel} {R : RP} {v0 v1 : AV} {hp : List AO} (hC : CMono C) (h : s60 C R v0 v1 hp) : awp C a60.body (resQ a60.res R) ⟨enum 0 [v0, v1], [], hp⟩ :=
 cut_in hC e60_0 (h)
/-! ### 61 rewind/rewindref06.slot -/
def s61_0 (C : CallRel) (R : RP) (v0 v1 v2 v3 : AV) (hp : List AO) : Prop :=
 ifT (AV.mem v0) <|
 ifT (notLoc 4 v0 && (notLoc 4 v1 && (notLoc 4 v2 && (notLoc 4 v3 && true)))) <|
 ifT (notLoc 8 v0 && (notLoc 8 v1 && (notLoc 8 v2 && (notLoc 8 v3 && true)))) <|
 bv (ld 14 true (AV.cells v0) 0) fun t11 =>
 callK C 76 [t11, v1] hp <| rx (pn R) fun t13 hp1 =>
 bv (ld 14 true (AV.cells v0) 0) fun t14 =>
 bv (abin .geq t13 (.int .i64 0)) fun t16 =>
 bv (gv (isB true t16) (faddV 3 (.loc 4 0))) fun t18 =>
 bv (gv (isB true t16) (faddV 4 t18)) fun t19 =>
 bv (gv (isB true t16) (lsV (some 4) [(4, (AV.cells v0)), (8, [.sl .cap0 9 [], .sl .cap0 9 [], .sl .cap0 6 [], .sl .cap0 1 [], .sl .cap0 1 [], .sl .cap0 1 [], .sl .cap0 1 [], .sl .cap0 1 [], .int .i64 0, .sl .cap0 3 [], .int .i64 0, .int .i64 0, .int .i64 0, .int .i64 0])] 1 false t19)) fun t20 =>
 bv (gv (isB true t16) (faddV 8 (.loc 4 0))) fun t21 =>
 bv (gv (isB true t16) (lsV (some 4) [(4, (AV.cells v0)), (8, [.sl .cap0 9 [], .sl .cap0 9 [], .sl .cap0 6 [], .sl .cap0 1 [], .sl .cap0 1 [], .sl .cap0 1 [], .sl .cap0 1 [], .sl .cap0 1 [], .int .i64 0, .sl .cap0 3 [], .int .i64 0, .int .i64 0, .int .i64 0, .int .i64 0])] 1 false t21)) fun t22 =>
 bv (gv (isB true t16) (ixaV 1 t20 t22)) fun t23 =>
 bv (gv (isB true t16) (some t13)) fun t25 =>
 bv (gv (isB true t16) (some v2)) fun t29 =>
 bv (gv (isB true t16) (ldH hp1 1 false t23)) fun t24 =>
 bv (gv (isB true t16) (ixaV 1 t24 t25)) fun t26 =>
 bv (gv (isB true t16) (ldH hp1 1 false t26)) fun t27 =>
 bv (gv (isB true t16) (abin .eql t27 (.int .i64 3))) fun t28 =>
 bv (gv (isB true t16) (beqV false t28 t29)) fun t30 =>
 bv (pickV t16 t30 (.bool false)) fun t31 =>
 callK C 45 [t14, t31, v3, (.int .i64 6)] hp1 <| rx (pn R) fun t33 hp2 =>
 ifT (okv 14 t33) <|
 bl (upd 0 (AV.cells t33) ([.sl .cap0 9 [], .sl .cap0 9 [], .sl .cap0 6 [], .sl .cap0 1 [], .sl .cap0 1 [], .sl .cap0 1 [], .sl .cap0 1 [], .sl .cap0 1 [], .int .i64 0, .sl .cap0 3 [], .int .i64 0, .int .i64 0, .int .i64 0, .int .i64 0])) fun b8_1 =>
 retQ R hp2 (Option.bind (ld 14 true b8_1 0) fun u2 => some [u2, t13])
def s61 (C : CallRel) (R : RP) (v0 v1 v2 v3 : AV) (hp : List AO) : Prop :=
 s61_0 C R v0 v1 v2 v3 hp
theorem e61_0 {C : CallRel} {R : RP} {v0 v1 v2 v3 : AV} {hp : List AO} : s61_0 C R v0 v1 v2 v3 hp = xwp C x61_0 (resQ a61.res R) ⟨enum 0 [v0, v1, v2, v3], [], hp⟩ := by kernel_rfl
theorem w61 {C : CallRel} {R : RP} {v0 v1 v2 v3 : AV} {hp : List AO} (hC : CMono C) (h : s61 C R v0 v1 v2 v3 hp) : awp C a61.body (resQ a61.res R) ⟨enum 0 [v0, v1, v2, v3], [], hp⟩ :=
 cut_in hC e61_0 (h)
/-! ### 62 rewind/rewindref06.block -/
def s62_1 (C : CallRel) (R : RP) (J1 : AV → AV → AV → AV → AV → List AV → List AV → List AO → Prop) (J2 : AV → AV → List AV → List AV → List AO → Prop) (v1 v5 v6 v17 v18 : AV) (b2 : List AV) (b4 : List AV) (hp : List AO) : Prop :=
 bv (abin .lss v18 v17) fun t19 =>
 cnd t19 (bv (ld 14 true b2 0) fun t21 =>
 bv (ixaV 1 v1 v18) fun t24 =>
 bv (ldE 1 false t24) fun t25 =>
 callK C 47 [t21, t25] hp <| rx (pn R) fun t26 hp1 =>
 ifT (okv 14 t26) <|
 bl (upd 0 (AV.cells t26) b2) fun b2_2 =>
 ifT (okv 1 v6) <|
 bl (upd 10 (AV.cells v6) b2_2) fun b2_3 =>
 bv (abin .add v18 (.int .i64 1)) fun t29 =>
 J1 v1 v5 v6 v17 t29 b2_3 b4 hp1) (J2 v5 v6 b2 b4 hp)
def s62_2 (C : CallRel) (R : RP) (v5 v6 : AV) (b2 : List AV) (b4 : List AV) (hp : List AO) : Prop :=
 ifT (okv 1 v5) <|
 bl (upd 9 (AV.cells v5) b2) fun b2_4 =>
 bv (abin .sub v6 (.int .i64 1)) fun t33 =>
 ifT (okv 1 t33) <|
 bl (upd 10 (AV.cells t33) b2_4) fun b2_5 =>
 bv (ld 14 true b2_5 0) fun t35 =>
 ifT (okv 14 t35) <|
 bl (upd 0 (AV.cells t35) b4) fun b4_6 =>
 retQ R hp (Option.bind (ld 14 true b4_6 0) fun u7 => some [u7])
def s62_0 (C : CallRel) (R : RP) (J1 : AV → AV → AV → AV → AV → List AV → List AV → List AO → Prop) (v0 v1 : AV) (hp : List AO) : Prop :=
 ifT (AV.mem v0) <|
 ifT (notLoc 2 v0 && (notLoc 2 v1 && true)) <|
 ifT (notLoc 4 v0 && (notLoc 4 v1 && true)) <|
 bv (ld 1 false (AV.cells v0) 9) fun t9 =>
 bv (ld 1 false (AV.cells v0) 10) fun t11 =>
 bv (abin .add t11 (.int .i64 1)) fun t12 =>
 ifT (okv 1 t12) <|
 bl (upd 10 (AV.cells t12) (AV.cells v0)) fun b2_1 =>
 bv (ld 1 false b2_1 10) fun t15 =>
 bv (lenV false v1) fun t17 =>
 J1 v1 t9 t15 t17 (.int .i64 0) b2_1 ([.sl .cap0 9 [], .sl .cap0 9 [], .sl .cap0 6 [], .sl .cap0 1 [], .sl .cap0 1 [], .sl .cap0 1 [], .sl .cap0 1 [], .sl .cap0 1 [], .int .i64 0, .sl .cap0 3 [], .int .i64 0, .int .i64 0, .int .i64 0, .int .i64 0]) hp
def s62 (C : CallRel) (R : RP) (v0 v1 : AV) (hp : List AO) : Prop :=
 ∀ J1 : AV → AV → AV → AV → AV → List AV → List AV → List AO → Prop,
 ∀ J2 : AV → AV → List AV → List AV → List AO → Prop,
 (∀ v1 v5 v6 v17 v18 b2 b4 hp, s62_1 C R J1 J2 v1 v5 v6 v17 v18 b2 b4 hp → J1 v1 v5 v6 v17 v18 b2 b4 hp) →
 (∀ v5 v6 b2 b4 hp, s62_2 C R v5 v6 b2 b4 hp → J2 v5 v6 b2 b4 hp) →
 s62_0 C R J1 v0 v1 hp
def q62_2 (C : CallRel) (R : RP) : APost := (resQ a62.res R)
def p62_2 (C : CallRel) (R : RP) : APost := seqQ (fun st => awp C j62_2 (q62_2 C R) (st.keep [2, 4, 5, 6])) (q62_2 C R)
def J62_2 (C : CallRel) (R : RP) (v5 v6 : AV) (b2 : List AV) (b4 : List AV) (hp : List AO) : Prop := awp C j62_2 (q62_2 C R) ⟨[(2, (.loc 2 0)), (4, (.loc 4 0)), (5, v5), (6, v6)], [(2, b2), (4, b4)], hp⟩
def p62_1 (C : CallRel) (R : RP) : APost := (blockQ 0 (p62_2 C R))
def J62_1 (C : CallRel) (R : RP) (v1 v5 v6 v17 v18 : AV) (b2 : List AV) (b4 : List AV) (hp : List AO) : Prop := awp C (.loop [1, 2, 4, 5, 6, 17, 18] j62_1) (p62_1 C R) ⟨[(1, v1), (2, (.loc 2 0)), (4, (.loc 4 0)), (5, v5), (6, v6), (17, v17), (18, v18)], [(2, b2), (4, b4)], hp⟩
theorem e62_1 {C : CallRel} {R : RP} {v1 v5 v6 v17 v18 : AV} {b2 : List AV} {b4 : List AV} {hp : List AO} : s62_1 C R (J62_1 C R) (J62_2 C R) v1 v5 v6 v17 v18 b2 b4 hp = xwp C x62_1 (seqQ (awp C (.loop [1, 2, 4, 5, 6, 17, 18] j62_1) (p62_1 C R)) (p62_1 C R)) (St.keep ⟨[(1, v1), (2, (.loc 2 0)), (4, (.loc 4 0)), (5, v5), (6, v6), (17, v17), (18, v18)], [(2, b2), (4, b4)], hp⟩ [1, 2, 4, 5, 6, 17, 18]) := by kernel_rfl
theorem e62_2 {C : CallRel} {R : RP} {v5 v6 : AV} {b2 : List AV} {b4 : List AV} {hp : List AO} : s62_2 C R v5 v6 b2 b4 hp = xwp C x62_2 (q62_2 C R) ⟨[(2, (.loc 2 0)), (4, (.loc 4 0)), (5, v5), (6, v6)], [(2, b2), (4, b4)], hp⟩ := by kernel_rfl
theorem e62_0 {C : CallRel} {R : RP} {v0 v1 : AV} {hp : List AO} : s62_0 C R (J62_1 C R) v0 v1 hp = xwp C x62_0 (resQ a62.res R) ⟨enum 0 [v0, v1], [], hp⟩ := by kernel_rfl
theorem w62 {C : CallRel} {R : RP} {v0 v1 : AV} {hp : List AO} (hC : CMono C) (h : s62 C R v0 v1 hp) : awp C a62.body (resQ a62.res R) ⟨enum 0 [v0, v1], [], hp⟩ :=
 cut_in hC e62_0 (h (J62_1 C R) (J62_2 C R)
 (fun _ _ _ _ _ _ _ _ h => cut_loop hC e62_1 h)
 (fun _ _ _ _ _ h => cut_in hC e62_2 h))
/-! ### 63 rewind/rewindref06.Expr -/
def s63_1 (C : CallRel) (R : RP) (J1 : AV → AV → AV → AV → AV → AV → List AV → List AV → List AV → List AO → Prop) (J5 : AV → AV → AV → AV → List AV → List AV → List AV → List AO → Prop) (v1 v7 v8 v15 v109 v110 : AV) (b2 : List AV) (b4 : List AV) (b6 : List AV) (hp : List AO) : Prop :=
 bv (abin .lss v110 v109) fun t111 =>
 cnd t111 (ifT (((notLoc 17 v1 && (notLoc 17 v7 && (notLoc 17 v8 && (notLoc 17 v15 && (notLoc 17 v110 && (notLoc 17 v109 && (notLoc 17 v110 && true)))))))) && true) <|
 bv (ld 14 true b2 0) fun t114 =>
 bv (ld 1 false b6 8) fun t116 =>
 bv (ixaV 1 t116 v110) fun t118 =>
 bv (ldE 1 false t118) fun t119 =>
 ifT (notLoc 17 v1 && (notLoc 17 v7 && (notLoc 17 v8 && (notLoc 17 v15 && (notLoc 17 v110 && (notLoc 17 v109 && (notLoc 17 v110 && (notLoc 17 t114 && (notLoc 17 t116 && (notLoc 17 v110 && (notLoc 17 t118 && (notLoc 17 t119 && true)))))))))))) <|
 callK C 60 [t114, t119] hp <| rx (pn R) fun t120 hp13 =>
 bv (extV 0 t120) fun t121 =>
 bv (extV 1 t120) fun t122 =>
 ifT (okv 14 t121) <|
 bl (upd 0 (AV.cells t121) ([.sl .cap0 9 [], .sl .cap0 9 [], .sl .cap0 6 [], .sl .cap0 1 [], .sl .cap0 1 [], .sl .cap0 1 [], .sl .cap0 1 [], .sl .cap0 1 [], .int .i64 0, .sl .cap0 3 [], .int .i64 0, .int .i64 0, .int .i64 0, .int .i64 0])) fun b17_14 =>
 bv (ld 14 true b17_14 0) fun t123 =>
 ifT (okv 14 t123) <|
 bl (upd 0 (AV.cells t123) b2) fun b2_15 =>
 bv (gv (isB true v15) (some t122)) fun t126 =>
 bv (gv (isB true v15) (abin .eql t126 (.int .i64 1))) fun t127 =>
 bv (pickV v15 t127 (.bool false)) fun t128 =>
 bv (abin .add v110 (.int .i64 1)) fun t129 =>
 J1 v1 v7 v8 t128 v109 t129 b2_15 b4 b6 hp13) (J5 v1 v7 v8 v15 b2 b4 b6 hp)
def s63_2 (C : CallRel) (R : RP) (J3 : AV → AV → AV → AV → AV → AV → AV → List AV → List AV → List AV → List AO → Prop) (J4 : AV → AV → AV → AV → AV → List AV → List AV → List AV → List AO → Prop) (v1 v7 v8 v15 v19 v133 v134 : AV) (b2 : List AV) (b4 : List AV) (b6 : List AV) (hp : List AO) : Prop :=
 bv (abin .lss v134 v133) fun t135 =>
 cnd t135 (bv (ld 1 false b2 2) fun t139 =>
 bv (ixaV 6 t139 v134) fun t141 =>
 bv (faddV 0 t141) fun t142 =>
 bv (ldE 1 false t142) fun t143 =>
 bv (ld 1 false b6 4) fun t145 =>
 bv (abin .eql t143 t145) fun t146 =>
 bv (gv (isB true t146) (some v19)) fun t148 =>
 bv (gv (isB true t146) (abin .lss t148 (.int .i64 0))) fun t149 =>
 bv (pickV t146 t149 (.bool false)) fun t150 =>
 cnd t150 (J3 v1 v7 v8 v15 v134 v133 v134 b2 b4 b6 hp) (J3 v1 v7 v8 v15 v19 v133 v134 b2 b4 b6 hp)) (J4 v1 v7 v8 v15 v19 b2 b4 b6 hp)
def s63_3 (C : CallRel) (R : RP) (J2 : AV → AV → AV → AV → AV → AV → AV → List AV → List AV → List AV → List AO → Prop) (v1 v7 v8 v15 v19 v133 v134 : AV) (b2 : List AV) (b4 : List AV) (b6 : List AV) (hp : List AO) : Prop :=
 bv (abin .add v134 (.int .i64 1)) fun t152 =>
 J2 v1 v7 v8 v15 v19 v133 t152 b2 b4 b6 hp
def s63_4 (C : CallRel) (R : RP) (J8 : AV → AV → List AV → List AV → List AO → Prop) (v1 v7 v8 v15 v19 : AV) (b2 : List AV) (b4 : List AV) (b6 : List AV) (hp : List AO) : Prop :=
 bv (ld 14 true b2 0) fun t153 =>
 bv (abin .geq v19 (.int .i64 0)) fun t155 =>
 callK C 45 [t153, t155, v8, (.int .i64 6)] hp <| rx (pn R) fun t157 hp14 =>
 ifT (okv 14 t157) <|
 bl (upd 0 (AV.cells t157) b2) fun b2_18 =>
 bv (ld 1 false b2_18 12) fun t159 =>
 bv (abin .eql t159 (.int .i64 0)) fun t160 =>
 cnd t160 (bv (ld 14 true b2_18 0) fun t161 =>
 bv (gv (isB true v15) (faddV 8 (.loc 6 0))) fun t164 =>
 bv (gv (isB true v15) (lsV (some 6) [(2, b2_18), (4, b4), (6, b6)] 1 false t164)) fun t165 =>
 bv (gv (isB true v15) (lenV false t165)) fun t166 =>
 bv (gv (isB true v15) (faddV 0 (.loc 2 0))) fun t167 =>
 bv (gv (isB true v15) (faddV 2 t167)) fun t168 =>
 bv (gv (isB true v15) (lsV (some 2) [(2, b2_18), (4, b4), (6, b6)] 1 false t168)) fun t169 =>
 bv (gv (isB true v15) (some v19)) fun t170 =>
 bv (gv (isB true v15) (ixaV 6 t169 t170)) fun t171 =>
 bv (gv (isB true v15) (faddV 3 t171)) fun t172 =>
 bv (gv (isB true v15) (ldE 1 false t172)) fun t173 =>
 bv (gv (isB true v15) (lenV false t173)) fun t174 =>
 bv (gv (isB true v15) (abin .eql t166 t174)) fun t175 =>
 bv (pickV v15 t175 (.bool false)) fun t176 =>
 callK C 45 [t161, t176, v8, (.int .i64 8)] hp14 <| rx (pn R) fun t178 hp15 =>
 ifT (okv 14 t178) <|
 bl (upd 0 (AV.cells t178) b2_18) fun b2_19 =>
 bv (ld 1 false b2_19 2) fun t181 =>
 bv (ixaV 6 t181 v19) fun t183 =>
 bv (faddV 4 t183) fun t184 =>
 bv (ldH hp15 1 false t184) fun t185 =>
 bv (ld 1 false b2_19 4) fun t188 =>
 bv (ixaV 1 t188 v1) fun t191 =>
 bs (stH hp15 1 v19 t191) fun hp16 =>
 J8 v1 t185 b2_19 b4 hp16) (J8 v1 v7 b2_18 b4 hp14)
def s63_5 (C : CallRel) (R : RP) (J2 : AV → AV → AV → AV → AV → AV → AV → List AV → List AV → List AV → List AO → Prop) (v1 v7 v8 v15 : AV) (b2 : List AV) (b4 : List AV) (b6 : List AV) (hp : List AO) : Prop :=
 bv (ld 1 false b2 2) fun t132 =>
 bv (lenV false t132) fun t133 =>
 J2 v1 v7 v8 v15 (.int .i64 (-1)) t133 (.int .i64 0) b2 b4 b6 hp
def s63_6 (C : CallRel) (R : RP) (J1 : AV → AV → AV → AV → AV → AV → List AV → List AV → List AV → List AO → Prop) (J8 : AV → AV → List AV → List AV → List AO → Prop) (v1 v7 v8 v43 v44 : AV) (b2 : List AV) (b4 : List AV) (b6 : List AV) (hp : List AO) : Prop :=
 cnd v44 (J8 v1 (.int .i64 1) b2 b4 hp) (bv (abin .eql v43 (.int .i64 4)) fun t48 =>
 cnd t48 (bv (ld 14 true b2 0) fun t50 =>
 bv (ld 1 false b6 4) fun t52 =>
 callK C 61 [t50, t52, (.bool false), v8] hp <| rx (pn R) fun t54 hp1 =>
 bv (extV 0 t54) fun t55 =>
 bv (extV 1 t54) fun t56 =>
 ifT (notLoc 9 v1 && (notLoc 9 v7 && (notLoc 9 v8 && (notLoc 9 v43 && (notLoc 9 t48 && (notLoc 9 t54 && (notLoc 9 t50 && (notLoc 9 t52 && (notLoc 9 v8 && (notLoc 9 t54 && (notLoc 9 t55 && (notLoc 9 t56 && true)))))))))))) <|
 ifT (okv 14 t55) <|
 bl (upd 0 (AV.cells t55) ([.sl .cap0 9 [], .sl .cap0 9 [], .sl .cap0 6 [], .sl .cap0 1 [], .sl .cap0 1 [], .sl .cap0 1 [], .sl .cap0 1 [], .sl .cap0 1 [], .int .i64 0, .sl .cap0 3 [], .int .i64 0, .int .i64 0, .int .i64 0, .int .i64 0])) fun b9_4 =>
 bv (ld 14 true b9_4 0) fun t57 =>
 ifT (okv 14 t57) <|
 bl (upd 0 (AV.cells t57) b2) fun b2_5 =>
 bv (ld 1 false b2_5 12) fun t59 =>
 bv (abin .eql t59 (.int .i64 0)) fun t60 =>
 cnd t60 (bv (ld 1 false b2_5 7) fun t63 =>
 bv (ld 1 false b2_5 8) fun t65 =>
 bv (ixaV 1 t63 t65) fun t66 =>
 bv (ldH hp1 1 false t66) fun t67 =>
 bv (ixaV 1 t67 t56) fun t69 =>
 bv (ldH hp1 1 false t69) fun t70 =>
 bv (ld 1 false b2_5 4) fun t73 =>
 bv (ixaV 1 t73 v1) fun t76 =>
 bs (stH hp1 1 t56 t76) fun hp2 =>
 J8 v1 t70 b2_5 b4 hp2) (J8 v1 v7 b2_5 b4 hp1)) (bv (abin .eql v43 (.int .i64 5)) fun t78 =>
 cnd t78 (bv (ld 14 true b2 0) fun t80 =>
 bv (ld 1 false b6 6) fun t82 =>
 callK C 60 [t80, t82] hp <| rx (pn R) fun t83 hp3 =>
 bv (extV 0 t83) fun t84 =>
 bv (extV 1 t83) fun t85 =>
 ifT (notLoc 11 v1 && (notLoc 11 v7 && (notLoc 11 v8 && (notLoc 11 v43 && (notLoc 11 t78 && (notLoc 11 t83 && (notLoc 11 t80 && (notLoc 11 t82 && (notLoc 11 t83 && (notLoc 11 t84 && (notLoc 11 t85 && true))))))))))) <|
 ifT (okv 14 t84) <|
 bl (upd 0 (AV.cells t84) ([.sl .cap0 9 [], .sl .cap0 9 [], .sl .cap0 6 [], .sl .cap0 1 [], .sl .cap0 1 [], .sl .cap0 1 [], .sl .cap0 1 [], .sl .cap0 1 [], .int .i64 0, .sl .cap0 3 [], .int .i64 0, .int .i64 0, .int .i64 0, .int .i64 0])) fun b11_6 =>
 bv (ld 14 true b11_6 0) fun t87 =>
 bv (ld 1 false b6 4) fun t89 =>
 callK C 61 [t87, t89, (.bool true), v8] hp3 <| rx (pn R) fun t91 hp4 =>
 bv (extV 0 t91) fun t92 =>
 bv (extV 1 t91) fun t93 =>
 ifT (notLoc 13 v1 && (notLoc 13 v8 && (notLoc 13 t85 && (notLoc 13 t91 && (notLoc 13 t87 && (notLoc 13 t89 && (notLoc 13 v8 && (notLoc 13 t91 && (notLoc 13 t92 && (notLoc 13 t93 && true)))))))))) <|
 ifT (okv 14 t92) <|
 bl (upd 0 (AV.cells t92) ([.sl .cap0 9 [], .sl .cap0 9 [], .sl .cap0 6 [], .sl .cap0 1 [], .sl .cap0 1 [], .sl .cap0 1 [], .sl .cap0 1 [], .sl .cap0 1 [], .int .i64 0, .sl .cap0 3 [], .int .i64 0, .int .i64 0, .int .i64 0, .int .i64 0])) fun b13_7 =>
 bv (ld 14 true b13_7 0) fun t94 =>
 bv (abin .eql t85 (.int .i64 1)) fun t96 =>
 callK C 45 [t94, t96, v8, (.int .i64 8)] hp4 <| rx (pn R) fun t98 hp5 =>
 ifT (okv 14 t98) <|
 bl (upd 0 (AV.cells t98) b2) fun b2_8 =>
 bv (ld 1 false b2_8 4) fun t101 =>
 bv (ixaV 1 t101 v1) fun t104 =>
 bs (stH hp5 1 t93 t104) fun hp6 =>
 J8 v1 (.int .i64 1) b2_8 b4 hp6) (bv (abin .eql v43 (.int .i64 6)) fun t106 =>
 cnd t106 (bv (ld 1 false b6 8) fun t108 =>
 bv (lenV false t108) fun t109 =>
 J1 v1 v7 v8 (.bool true) t109 (.int .i64 0) b2 b4 b6 hp) (bv (abin .eql v43 (.int .i64 8)) fun t193 =>
 cnd t193 (bv (ld 14 true b2 0) fun t195 =>
 bv (ld 1 false b6 6) fun t197 =>
 callK C 60 [t195, t197] hp <| rx (pn R) fun t198 hp7 =>
 bv (extV 0 t198) fun t199 =>
 bv (extV 1 t198) fun t200 =>
 ifT (notLoc 21 v1 && (notLoc 21 v7 && (notLoc 21 v8 && (notLoc 21 v43 && (notLoc 21 t193 && (notLoc 21 t198 && (notLoc 21 t195 && (notLoc 21 t197 && (notLoc 21 t198 && (notLoc 21 t199 && (notLoc 21 t200 && true))))))))))) <|
 ifT (okv 14 t199) <|
 bl (upd 0 (AV.cells t199) ([.sl .cap0 9 [], .sl .cap0 9 [], .sl .cap0 6 [], .sl .cap0 1 [], .sl .cap0 1 [], .sl .cap0 1 [], .sl .cap0 1 [], .sl .cap0 1 [], .int .i64 0, .sl .cap0 3 [], .int .i64 0, .int .i64 0, .int .i64 0, .int .i64 0])) fun b21_9 =>
 bv (ld 14 true b21_9 0) fun t201 =>
 bv (ld 1 false b6 5) fun t203 =>
 bv (abin .eql t203 (.str [45])) fun t204 =>
 bv (gv (isB true t204) (some t200)) fun t206 =>
 bv (gv (isB true t204) (abin .eql t206 (.int .i64 1))) fun t207 =>
 bv (pickV t204 t207 (.bool false)) fun t208 =>
 bv (gv (isB false t208) (faddV 5 (.loc 6 0))) fun t210 =>
 bv (gv (isB false t208) (ldL [(2, b2), (4, b4), (6, b6), (21, b21_9)] 1 false t210)) fun t211 =>
 bv (gv (isB false t208) (abin .eql t211 (.str [33]))) fun t212 =>
 bv (gv (isB false t208) (some t212)) fun t213 =>
 bv (gv (isB true t213) (some t200)) fun t214 =>
 bv (gv (isB true t213) (abin .eql t214 (.int .i64 2))) fun t215 =>
 bv (gv (isB false t208) (pickV t213 t215 (.bool false))) fun t216 =>
 bv (pickV t208 (.bool true) t216) fun t217 =>
 callK C 45 [t201, t217, v8, (.int .i64 8)] hp7 <| rx (pn R) fun t219 hp8 =>
 ifT (okv 14 t219) <|
 bl (upd 0 (AV.cells t219) b2) fun b2_10 =>
 J8 v1 t200 b2_10 b4 hp8) (bv (abin .eql v43 (.int .i64 9)) fun t222 =>
 cnd t222 (bv (ld 14 true b2 0) fun t224 =>
 bv (ld 1 false b6 6) fun t226 =>
 callK C 60 [t224, t226] hp <| rx (pn R) fun t227 hp9 =>
 bv (extV 0 t227) fun t228 =>
 bv (extV 1 t227) fun t229 =>
 ifT (notLoc 23 v1 && (notLoc 23 v7 && (notLoc 23 v8 && (notLoc 23 t222 && (notLoc 23 t227 && (notLoc 23 t224 && (notLoc 23 t226 && (notLoc 23 t227 && (notLoc 23 t228 && (notLoc 23 t229 && true)))))))))) <|
 ifT (okv 14 t228) <|
 bl (upd 0 (AV.cells t228) ([.sl .cap0 9 [], .sl .cap0 9 [], .sl .cap0 6 [], .sl .cap0 1 [], .sl .cap0 1 [], .sl .cap0 1 [], .sl .cap0 1 [], .sl .cap0 1 [], .int .i64 0, .sl .cap0 3 [], .int .i64 0, .int .i64 0, .int .i64 0, .int .i64 0])) fun b23_11 =>
 bv (ld 14 true b23_11 0) fun t231 =>
 bv (ld 1 false b6 7) fun t233 =>
 callK C 60 [t231, t233] hp9 <| rx (pn R) fun t234 hp10 =>
 bv (extV 0 t234) fun t235 =>
 bv (extV 1 t234) fun t236 =>
 ifT (notLoc 25 v1 && (notLoc 25 v7 && (notLoc 25 v8 && (notLoc 25 t229 && (notLoc 25 t234 && (notLoc 25 t231 && (notLoc 25 t233 && (notLoc 25 t234 && (notLoc 25 t235 && (notLoc 25 t236 && true)))))))))) <|
 ifT (okv 14 t235) <|
 bl (upd 0 (AV.cells t235) ([.sl .cap0 9 [], .sl .cap0 9 [], .sl .cap0 6 [], .sl .cap0 1 [], .sl .cap0 1 [], .sl .cap0 1 [], .sl .cap0 1 [], .sl .cap0 1 [], .int .i64 0, .sl .cap0 3 [], .int .i64 0, .int .i64 0, .int .i64 0, .int .i64 0])) fun b25_12 =>
 bv (ld 1 false b6 5) fun t238 =>
 bv (abin .eql t238 (.str [38, 38])) fun t239 =>
 bv (gv (isB false t239) (faddV 5 (.loc 6 0))) fun t241 =>
 bv (gv (isB false t239) (ldL [(2, b2), (4, b4), (6, b6), (25, b25_12)] 1 false t241)) fun t242 =>
 bv (gv (isB false t239) (abin .eql t242 (.str [124, 124]))) fun t243 =>
 bv (pickV t239 (.bool true) t243) fun t244 =>
 bv (ld 1 false b6 5) fun t246 =>
 bv (abin .eql t246 (.str [61, 61])) fun t247 =>
 bv (gv (isB false t247) (faddV 5 (.loc 6 0))) fun t249 =>
 bv (gv (isB false t247) (ldL [(2, b2), (4, b4), (6, b6), (25, b25_12)] 1 false t249)) fun t250 =>
 bv (gv (isB false t247) (abin .eql t250 (.str [33, 61]))) fun t251 =>
 bv (pickV t247 (.bool true) t251) fun t252 =>
 bv (ld 14 true b25_12 0) fun t253 =>
 bv (abin .eql t229 t236) fun t256 =>
 bv (gv (isB true t256) (some t252)) fun t258 =>
 bv (gv (isB true t256) (some t258)) fun t259 =>
 bv (gv (isB false t259) (some t244)) fun t260 =>
 bv (gv (isB false t259) (some t260)) fun t261 =>
 bv (gv (isB true t261) (some t229)) fun t262 =>
 bv (gv (isB true t261) (abin .eql t262 (.int .i64 2))) fun t263 =>
 bv (gv (isB false t259) (pickV t261 t263 (.bool false))) fun t264 =>
 bv (gv (isB true t256) (pickV t259 (.bool true) t264)) fun t265 =>
 bv (gv (isB true t256) (some t265)) fun t266 =>
 bv (gv (isB false t266) (some t244)) fun t267 =>
 bv (gv (isB false t266) (aun .not t267)) fun t268 =>
 bv (gv (isB false t266) (some t268)) fun t269 =>
 bv (gv (isB true t269) (some t252)) fun t270 =>
 bv (gv (isB true t269) (aun .not t270)) fun t271 =>
 bv (gv (isB false t266) (pickV t269 t271 (.bool false))) fun t272 =>
 bv (gv (isB false t266) (some t272)) fun t273 =>
 bv (gv (isB true t273) (some t229)) fun t274 =>
 bv (gv (isB true t273) (abin .eql t274 (.int .i64 1))) fun t275 =>
 bv (gv (isB false t266) (pickV t273 t275 (.bool false))) fun t276 =>
 bv (gv (isB true t256) (pickV t266 (.bool true) t276)) fun t277 =>
 bv (pickV t256 t277 (.bool false)) fun t278 =>
 callK C 45 [t253, t278, v8, (.int .i64 8)] hp10 <| rx (pn R) fun t280 hp11 =>
 ifT (okv 14 t280) <|
 bl (upd 0 (AV.cells t280) b2) fun b2_13 =>
 bv (aun .not t252) fun t282 =>
 bv (gv (isB true t282) (some t244)) fun t284 =>
 bv (gv (isB true t282) (aun .not t284)) fun t285 =>
 bv (pickV t282 t285 (.bool false)) fun t286 =>
 bv (gv (isB true t286) (faddV 5 (.loc 6 0))) fun t288 =>
 bv (gv (isB true t286) (ldL [(2, b2_13), (4, b4), (6, b6)] 1 false t288)) fun t289 =>
 bv (gv (isB true t286) (ixsV t289 (.int .i64 0))) fun t290 =>
 bv (gv (isB true t286) (abin .neq t290 (.int .u8 60))) fun t291 =>
 bv (pickV t286 t291 (.bool false)) fun t292 =>
 bv (gv (isB true t292) (faddV 5 (.loc 6 0))) fun t294 =>
 bv (gv (isB true t292) (ldL [(2, b2_13), (4, b4), (6, b6)] 1 false t294)) fun t295 =>
 bv (gv (isB true t292) (ixsV t295 (.int .i64 0))) fun t296 =>
 bv (gv (isB true t292) (abin .neq t296 (.int .u8 62))) fun t297 =>
 bv (pickV t292 t297 (.bool false)) fun t298 =>
 cnd t298 (J8 v1 (.int .i64 1) b2_13 b4 hp11) (J8 v1 v7 b2_13 b4 hp11)) (J8 v1 v7 b2 b4 hp))))))
def s63_7 (C : CallRel) (R : RP) (v7 : AV) (b2 : List AV) (b4 : List AV) (hp : List AO) : Prop :=
 bv (ld 14 true b2 0) fun t308 =>
 ifT (okv 14 t308) <|
 bl (upd 0 (AV.cells t308) b4) fun b4_16 =>
 retQ R hp (Option.bind (ld 14 true b4_16 0) fun u17 => some [u17, v7])
def s63_8 (C : CallRel) (R : RP) (J7 : AV → List AV → List AV → List AO → Prop) (v1 v7 : AV) (b2 : List AV) (b4 : List AV) (hp : List AO) : Prop :=
 bv (ld 1 false b2 12) fun t300 =>
 bv (abin .eql t300 (.int .i64 0)) fun t301 =>
 cnd t301 (bv (ld 1 false b2 3) fun t304 =>
 bv (ixaV 1 t304 v1) fun t307 =>
 bs (stH hp 1 v7 t307) fun hp12 =>
 J7 v7 b2 b4 hp12) (J7 v7 b2 b4 hp)
def s63_0 (C : CallRel) (R : RP) (J6 : AV → AV → AV → AV → AV → List AV → List AV → List AV → List AO → Prop) (v0 v1 : AV) (hp : List AO) : Prop :=
 ifT (AV.mem v0) <|
 ifT (notLoc 2 v0 && (notLoc 2 v1 && true)) <|
 ifT (notLoc 4 v0 && (notLoc 4 v1 && true)) <|
 bv (ld 1 false (AV.cells v0) 12) fun t30 =>
 bv (abin .neq t30 (.int .i64 0)) fun t31 =>
 cnd t31 (bv (ld 14 true (AV.cells v0) 0) fun t32 =>
 ifT (okv 14 t32) <|
 bl (upd 0 (AV.cells t32) ([.sl .cap0 9 [], .sl .cap0 9 [], .sl .cap0 6 [], .sl .cap0 1 [], .sl .cap0 1 [], .sl .cap0 1 [], .sl .cap0 1 [], .sl .cap0 1 [], .int .i64 0, .sl .cap0 3 [], .int .i64 0, .int .i64 0, .int .i64 0, .int .i64 0])) fun b4_1 =>
 retQ R hp (Option.bind (ld 14 true b4_1 0) fun u2 => some [u2, (.int .i64 1)])) (bv (ld 1 false (AV.cells v0) 0) fun t35 =>
 bv (ixaV 9 t35 v1) fun t37 =>
 bv (ldH hp 9 true t37) fun t38 =>
 ifT (notLoc 6 v1 && (notLoc 6 t31 && (notLoc 6 t35 && (notLoc 6 v1 && (notLoc 6 t37 && (notLoc 6 t38 && true)))))) <|
 ifT (okv 9 t38) <|
 bl (upd 0 (AV.cells t38) ([.int .i64 0, .int .i64 0, .int .i64 0, .int .i64 0, .str [], .str [], .int .i64 0, .int .i64 0, .sl .cap0 1 []])) fun b6_3 =>
 bv (ld 1 false b6_3 1) fun t41 =>
 bv (ld 1 false b6_3 0) fun t43 =>
 bv (abin .eql t43 (.int .i64 1)) fun t45 =>
 cnd t45 (J6 v1 (.int .i64 2) t41 t43 t45 (AV.cells v0) ([.sl .cap0 9 [], .sl .cap0 9 [], .sl .cap0 6 [], .sl .cap0 1 [], .sl .cap0 1 [], .sl .cap0 1 [], .sl .cap0 1 [], .sl .cap0 1 [], .int .i64 0, .sl .cap0 3 [], .int .i64 0, .int .i64 0, .int .i64 0, .int .i64 0]) b6_3 hp) (bv (abin .eql t43 (.int .i64 7)) fun t46 =>
 J6 v1 (.int .i64 2) t41 t43 t46 (AV.cells v0) ([.sl .cap0 9 [], .sl .cap0 9 [], .sl .cap0 6 [], .sl .cap0 1 [], .sl .cap0 1 [], .sl .cap0 1 [], .sl .cap0 1 [], .sl .cap0 1 [], .int .i64 0, .sl .cap0 3 [], .int .i64 0, .int .i64 0, .int .i64 0, .int .i64 0]) b6_3 hp))
def s63 (C : CallRel) (R : RP) (v0 v1 : AV) (hp : List AO) : Prop :=
 ∀ J1 : AV → AV → AV → AV → AV → AV → List AV → List AV → List AV → List AO → Prop,
 ∀ J2 : AV → AV → AV → AV → AV → AV → AV → List AV → List AV → List AV → List AO → Prop,
 ∀ J3 : AV → AV → AV → AV → AV → AV → AV → List AV → List AV → List AV → List AO → Prop,
 ∀ J4 : AV → AV → AV → AV → AV → List AV → List AV → List AV → List AO → Prop,
 ∀ J5 : AV → AV → AV → AV → List AV → List AV → List AV → List AO → Prop,
 ∀ J6 : AV → AV → AV → AV → AV → List AV → List AV → List AV → List AO → Prop,
 ∀ J7 : AV → List AV → List AV → List AO → Prop,
 ∀ J8 : AV → AV → List AV → List AV → List AO → Prop,
 (∀ v1 v7 v8 v15 v109 v110 b2 b4 b6 hp, s63_1 C R J1 J5 v1 v7 v8 v15 v109 v110 b2 b4 b6 hp → J1 v1 v7 v8 v15 v109 v110 b2 b4 b6 hp) →
 (∀ v1 v7 v8 v15 v19 v133 v134 b2 b4 b6 hp, s63_2 C R J3 J4 v1 v7 v8 v15 v19 v133 v134 b2 b4 b6 hp → J2 v1 v7 v8 v15 v19 v133 v134 b2 b4 b6 hp) →
 (∀ v1 v7 v8 v15 v19 v133 v134 b2 b4 b6 hp, s63_3 C R J2 v1 v7 v8 v15 v19 v133 v134 b2 b4 b6 hp → J3 v1 v7 v8 v15 v19 v133 v134 b2 b4 b6 hp) →
 (∀ v1 v7 v8 v15 v19 b2 b4 b6 hp, s63_4 C R J8 v1 v7 v8 v15 v19 b2 b4 b6 hp → J4 v1 v7 v8 v15 v19 b2 b4 b6 hp) →
 (∀ v1 v7 v8 v15 b2 b4 b6 hp, s63_5 C R J2 v1 v7 v8 v15 b2 b4 b6 hp → J5 v1 v7 v8 v15 b2 b4 b6 hp) →
 (∀ v1 v7 v8 v43 v44 b2 b4 b6 hp, s63_6 C R J1 J8 v1 v7 v8 v43 v44 b2 b4 b6 hp → J6 v1 v7 v8 v43 v44 b2 b4 b6 hp) →
 (∀ v7 b2 b4 hp, s63_7 C R v7 b2 b4 hp → J7 v7 b2 b4 hp) →
 (∀ v1 v7 b2 b4 hp, s63_8 C R J7 v1 v7 b2 b4 hp → J8 v1 v7 b2 b4 hp) →
 s63_0 C R J6 v0 v1 hp
def q63_8 (C : CallRel) (R : RP) : APost := (resQ a63.res R)
def p63_8 (C : CallRel) (R : RP) : APost := seqQ (fun st => awp C j63_8 (q63_8 C R) (st.keep [1, 2, 4, 7])) (q63_8 C R)
def J63_8 (C : CallRel) (R : RP) (v1 v7 : AV) (b2 : List AV) (b4 : List AV) (hp : List AO) : Prop := awp C j63_8 (q63_8 C R) ⟨[(1, v1), (2, (.loc 2 0)), (4, (.loc 4 0)), (7, v7)], [(2, b2), (4, b4)], hp⟩
def q63_5 (C : CallRel) (R : RP) : APost := (blockQ 0 (p63_8 C R))
def p63_5 (C : CallRel) (R : RP) : APost := seqQ (fun st => awp C j63_5 (q63_5 C R) (st.keep [1, 2, 4, 6, 7, 8, 15])) (q63_5 C R)
def J63_5 (C : CallRel) (R : RP) (v1 v7 v8 v15 : AV) (b2 : List AV) (b4 : List AV) (b6 : List AV) (hp : List AO) : Prop := awp C j63_5 (q63_5 C R) ⟨[(1, v1), (2, (.loc 2 0)), (4, (.loc 4 0)), (6, (.loc 6 0)), (7, v7), (8, v8), (15, v15)], [(2, b2), (4, b4), (6, b6)], hp⟩
def p63_1 (C : CallRel) (R : RP) : APost := (blockQ 1 (p63_5 C R))
def J63_1 (C : CallRel) (R : RP) (v1 v7 v8 v15 v109 v110 : AV) (b2 : List AV) (b4 : List AV) (b6 : List AV) (hp : List AO) : Prop := awp C (.loop [1, 2, 4, 6, 7, 8, 15, 109, 110] j63_1) (p63_1 C R) ⟨[(1, v1), (2, (.loc 2 0)), (4, (.loc 4 0)), (6, (.loc 6 0)), (7, v7), (8, v8), (15, v15), (109, v109), (110, v110)], [(2, b2), (4, b4), (6, b6)], hp⟩
def q63_4 (C : CallRel) (R : RP) : APost := (blockQ 0 (p63_8 C R))
def p63_4 (C : CallRel) (R : RP) : APost := seqQ (fun st => awp C j63_4 (q63_4 C R) (st.keep [1, 2, 4, 6, 7, 8, 15, 19])) (q63_4 C R)
def J63_4 (C : CallRel) (R : RP) (v1 v7 v8 v15 v19 : AV) (b2 : List AV) (b4 : List AV) (b6 : List AV) (hp : List AO) : Prop := awp C j63_4 (q63_4 C R) ⟨[(1, v1), (2, (.loc 2 0)), (4, (.loc 4 0)), (6, (.loc 6 0)), (7, v7), (8, v8), (15, v15), (19, v19)], [(2, b2), (4, b4), (6, b6)], hp⟩
def p63_2 (C : CallRel) (R : RP) : APost := (blockQ 3 (p63_4 C R))
def J63_2 (C : CallRel) (R : RP) (v1 v7 v8 v15 v19 v133 v134 : AV) (b2 : List AV) (b4 : List AV) (b6 : List AV) (hp : List AO) : Prop := awp C (.loop [1, 2, 4, 6, 7, 8, 15, 19, 133, 134] j63_2) (p63_2 C R) ⟨[(1, v1), (2, (.loc 2 0)), (4, (.loc 4 0)), (6, (.loc 6 0)), (7, v7), (8, v8), (15, v15), (19, v19), (133, v133), (134, v134)], [(2, b2), (4, b4), (6, b6)], hp⟩
def q63_3 (C : CallRel) (R : RP) : APost := (seqQ (awp C (.loop [1, 2, 4, 6, 7, 8, 15, 19, 133, 134] j63_2) (p63_2 C R)) (p63_2 C R))
def p63_3 (C : CallRel) (R : RP) : APost := seqQ (fun st => awp C j63_3 (q63_3 C R) (st.keep [1, 2, 4, 6, 7, 8, 15, 19, 133, 134])) (q63_3 C R)
def J63_3 (C : CallRel) (R : RP) (v1 v7 v8 v15 v19 v133 v134 : AV) (b2 : List AV) (b4 : List AV) (b6 : List AV) (hp : List AO) : Prop := awp C j63_3 (q63_3 C R) ⟨[(1, v1), (2, (.loc 2 0)), (4, (.loc 4 0)), (6, (.loc 6 0)), (7, v7), (8, v8), (15, v15), (19, v19), (133, v133), (134, v134)], [(2, b2), (4, b4), (6, b6)], hp⟩
def q63_6 (C : CallRel) (R : RP) : APost := (blockQ 0 (p63_8 C R))
def p63_6 (C : CallRel) (R : RP) : APost := seqQ (fun st => awp C j63_6 (q63_6 C R) (st.keep [1, 2, 4, 6, 7, 8, 43, 44])) (q63_6 C R)
def J63_6 (C : CallRel) (R : RP) (v1 v7 v8 v43 v44 : AV) (b2 : List AV) (b4 : List AV) (b6 : List AV) (hp : List AO) : Prop := awp C j63_6 (q63_6 C R) ⟨[(1, v1), (2, (.loc 2 0)), (4, (.loc 4 0)), (6, (.loc 6 0)), (7, v7), (8, v8), (43, v43), (44, v44)], [(2, b2), (4, b4), (6, b6)], hp⟩
def q63_7 (C : CallRel) (R : RP) : APost := (resQ a63.res R)
def p63_7 (C : CallRel) (R : RP) : APost := seqQ (fun st => awp C j63_7 (q63_7 C R) (st.keep [2, 4, 7])) (q63_7 C R)
def J63_7 (C : CallRel) (R : RP) (v7 : AV) (b2 : List AV) (b4 : List AV) (hp : List AO) : Prop := awp C j63_7 (q63_7 C R) ⟨[(2, (.loc 2 0)), (4, (.loc 4 0)), (7, v7)], [(2, b2), (4, b4)], hp⟩
theorem e63_1 {C : CallRel} {R : RP} {v1 v7 v8 v15 v109 v110 : AV} {b2 : List AV} {b4 : List AV} {b6 : List AV} {hp : List AO} : s63_1 C R (J63_1 C R) (J63_5 C R) v1 v7 v8 v15 v109 v110 b2 b4 b6 hp = xwp C x63_1 (seqQ (awp C (.loop [1, 2, 4, 6, 7, 8, 15, 109, 110] j63_1) (p63_1 C R)) (p63_1 C R)) (St.keep ⟨[(1, v1), (2, (.loc 2 0)), (4, (.loc 4 0)), (6, (.loc 6 0)), (7, v7), (8, v8), (15, v15), (109, v109), (110, v110)], [(2, b2), (4, b4), (6, b6)], hp⟩ [1, 2, 4, 6, 7, 8, 15, 109, 110]) := by kernel_rfl
theorem e63_2 {C : CallRel} {R : RP} {v1 v7 v8 v15 v19 v133 v134 : AV} {b2 : List AV} {b4 : List AV} {b6 : List AV} {hp : List AO} : s63_2 C R (J63_3 C R) (J63_4 C R) v1 v7 v8 v15 v19 v133 v134 b2 b4 b6 hp = xwp C x63_2 (seqQ (awp C (.loop [1, 2, 4, 6, 7, 8, 15, 19, 133, 134] j63_2) (p63_2 C R)) (p63_2 C R)) (St.keep ⟨[(1, v1), (2, (.loc 2 0)), (4, (.loc 4 0)), (6, (.loc 6 0)), (7, v7), (8, v8), (15, v15), (19, v19), (133, v133), (134, v134)], [(2, b2), (4, b4), (6, b6)], hp⟩ [1, 2, 4, 6, 7, 8, 15, 19, 133, 134]) := by kernel_rfl
theorem e63_3 {C : CallRel} {R : RP} {v1 v7 v8 v15 v19 v133 v134 : AV} {b2 : List AV} {b4 : List AV} {b6 : List AV} {hp : List AO} : s63_3 C R (J63_2 C R) v1 v7 v8 v15 v19 v133 v134 b2 b4 b6 hp = xwp C x63_3 (q63_3 C R) ⟨[(1, v1), (2, (.loc 2 0)), (4, (.loc 4 0)), (6, (.loc 6 0)), (7, v7), (8, v8), (15, v15), (19, v19), (133, v133), (134, v134)], [(2, b2), (4, b4), (6, b6)], hp⟩ := by kernel_rfl
theorem e63_4 {C : CallRel} {R : RP} {v1 v7 v8 v15 v19 : AV} {b2 : List AV} {b4 : List AV} {b6 : List AV} {hp : List AO} : s63_4 C R (J63_8 C R) v1 v7 v8 v15 v19 b2 b4 b6 hp = xwp C x63_4 (q63_4 C R) ⟨[(1, v1), (2, (.loc 2 0)), (4, (.loc 4 0)), (6, (.loc 6 0)), (7, v7), (8, v8), (15, v15), (19, v19)], [(2, b2), (4, b4), (6, b6)], hp⟩ := by kernel_rfl
theorem e63_5 {C : CallRel} {R : RP} {v1 v7 v8 v15 : AV} {b2 : List AV} {b4 : List AV} {b6 : List AV} {hp : List AO} : s63_5 C R (J63_2 C R) v1 v7 v8 v15 b2 b4 b6 hp = xwp C x63_5 (q63_5 C R) ⟨[(1, v1), (2, (.loc 2 0)), (4, (.loc 4 0)), (6, (.loc 6 0)), (7, v7), (8, v8), (15, v15)], [(2, b2), (4, b4), (6, b6)], hp⟩ := by kernel_rfl
theorem e63_6 {C : CallRel} {R : RP} {v1 v7 v8 v43 v44 : AV} {b2 : List AV} {b4 : List AV} {b6 : List AV} {hp : List AO} : s63_6 C R (J63_1 C R) (J63_8 C R) v1 v7 v8 v43 v44 b2 b4 b6 hp = xwp C x63_6 (q63_6 C R) ⟨[(1, v1), (2, (.loc 2 0)), (4, (.loc 4 0)), (6, (.loc 6 0)), (7, v7), (8, v8), (43, v43), (44, v44)], [(2, b2), (4, b4), (6, b6)], hp⟩ := by kernel_rfl
theorem e63_7 {C : CallRel} {R : RP} {v7 : AV} {b2 : List AV} {b4 : List AV} {hp : List AO} : s63_7 C R v7 b2 b4 hp = xwp C x63_7 (q63_7 C R) ⟨[(2, (.loc 2 0)), (4, (.loc 4 0)), (7, v7)], [(2, b2), (4, b4)], hp⟩ := by kernel_rfl
theorem e63_8 {C : CallRel} {R : RP} {v1 v7 : AV} {b2 : List AV} {b4 : List AV} {hp : List AO} : s63_8 C R (J63_7 C R) v1 v7 b2 b4 hp = xwp C x63_8 (q63_8 C R) ⟨[(1, v1), (2, (.loc 2 0)), (4, (.loc 4 0)), (7, v7)], [(2, b2), (4, b4)], hp⟩ := by kernel_rfl
theorem e63_0 {C : CallRel} {R : RP} {v0 v1 : AV} {hp : List AO} : s63_0 C R (J63_6 C R) v0 v1 hp = xwp C x63_0 (resQ a63.res R) ⟨enum 0 [v0, v1], [], hp⟩ := by kernel_rfl
theorem w63 {C : CallRel} {R : RP} {v0 v1 : AV} {hp : List AO} (hC : CMono C) (h : s63 C R v0 v1 hp) : awp C a63.body (resQ a63.res R) ⟨enum 0 [v0, v1], [], hp⟩ :=
 cut_in hC e63_0 (h (J63_1 C R) (J63_2 C R) (J63_3 C R) (J63_4 C R) (J63_5 C R) (J63_6 C R) (J63_7 C R) (J63_8 C R)
 (fun _ _ _ _ _ _ _ _ _ _ h => cut_loop hC e63_1 h)
 (fun _ _ _ _ _ _ _ _ _ _ _ h => cut_loop hC e63_2 h)
 (fun _ _ _ _ _ _ _ _ _ _ _ h => cut_in hC e63_3 h)
 (fun _ _ _ _ _ _ _ _ _ h => cut_in hC e63_4 h)
 (fun _ _ _ _ _ _ _ _ h => cut_in hC e63_5 h)
 (fun _ _ _ _ _ _ _ _ _ h => cut_in hC e63_6 h)
 (fun _ _ _ _ h => cut_in hC e63_7 h)
 (fun _ _ _ _ _ h => cut_in hC e63_8 h))
/-! ### 68 rewind/rewindref02.Skip -/
def s68_1 (C : CallRel) (R : RP) (J1 : AV → AV → List AO → Prop) (J2 : AV → AV → List AO → Prop) (J3 : AV → List AO → Prop) (v0 v1 : AV) (hp : List AO) : Prop :=
 bv (lenV true v0) fun t7 =>
 bv (abin .lss v1 t7) fun t8 =>
 cnd t8 (bv (ixsV v0 v1) fun t11 =>
 bv (abin .eql t11 (.int .u8 32)) fun t12 =>
 bv (gv (isB false t12) (some v0)) fun t14 =>
 bv (gv (isB false t12) (some v1)) fun t15 =>
 bv (gv (isB false t12) (ixsV t14 t15)) fun t16 =>
 bv (gv (isB false t12) (abin .eql t16 (.int .u8 9))) fun t17 =>
 bv (pickV t12 (.bool true) t17) fun t18 =>
 bv (gv (isB false t18) (some v0)) fun t20 =>
 bv (gv (isB false t18) (some v1)) fun t21 =>
 bv (gv (isB false t18) (ixsV t20 t21)) fun t22 =>
 bv (gv (isB false t18) (abin .eql t22 (.int .u8 10))) fun t23 =>
 bv (pickV t18 (.bool true) t23) fun t24 =>
 bv (gv (isB false t24) (some v0)) fun t26 =>
 bv (gv (isB false t24) (some v1)) fun t27 =>
 bv (gv (isB false t24) (ixsV t26 t27)) fun t28 =>
 bv (gv (isB false t24) (abin .eql t28 (.int .u8 13))) fun t29 =>
 bv (pickV t24 (.bool true) t29) fun t30 =>
 cnd t30 (bv (abin .add v1 (.int .i64 1)) fun t32 =>
 J1 v0 t32 hp) (bv (ixsV v0 v1) fun t35 =>
 bv (abin .neq t35 (.int .u8 35)) fun t36 =>
 cnd t36 (retQ R hp (some [v1])) (J2 v0 v1 hp))) (J3 v1 hp)
def s68_2 (C : CallRel) (R : RP) (J1 : AV → AV → List AO → Prop) (J2 : AV → AV → List AO → Prop) (v0 v1 : AV) (hp : List AO) : Prop :=
 bv (lenV true v0) fun t40 =>
 bv (abin .lss v1 t40) fun t41 =>
 bv (gv (isB true t41) (some v0)) fun t43 =>
 bv (gv (isB true t41) (some v1)) fun t44 =>
 bv (gv (isB true t41) (ixsV t43 t44)) fun t45 =>
 bv (gv (isB true t41) (abin .neq t45 (.int .u8 10))) fun t46 =>
 bv (pickV t41 t46 (.bool false)) fun t47 =>
 cnd t47 (bv (abin .add v1 (.int .i64 1)) fun t49 =>
 J2 v0 t49 hp) (J1 v0 v1 hp)
def s68_3 (C : CallRel) (R : RP) (v1 : AV) (hp : List AO) : Prop :=
 retQ R hp (some [v1])
def s68_0 (C : CallRel) (R : RP) (J1 : AV → AV → List AO → Prop) (v0 v1 : AV) (hp : List AO) : Prop :=
 J1 v0 v1 hp
def s68 (C : CallRel) (R : RP) (v0 v1 : AV) (hp : List AO) : Prop :=
 ∀ J1 : AV → AV → List AO → Prop,
 ∀ J2 : AV → AV → List AO → Prop,
 ∀ J3 : AV → List AO → Prop,
 (∀ v0 v1 hp, s68_1 C R J1 J2 J3 v0 v1 hp → J1 v0 v1 hp) →
 (∀ v0 v1 hp, s68_2 C R J1 J2 v0 v1 hp → J2 v0 v1 hp) →
 (∀ v1 hp, s68_3 C R v1 hp → J3 v1 hp) →
 s68_0 C R J1 v0 v1 hp
def q68_3 (C : CallRel) (R : RP) : APost := (resQ a68.res R)
def p68_3 (C : CallRel) (R : RP) : APost := seqQ (fun st => awp C j68_3 (q68_3 C R) (st.keep [1])) (q68_3 C R)
def J68_3 (C : CallRel) (R : RP) (v1 : AV) (hp : List AO) : Prop := awp C j68_3 (q68_3 C R) ⟨[(1, v1)], [], hp⟩
def p68_1 (C : CallRel) (R : RP) : APost := (blockQ 0 (p68_3 C R))
def J68_1 (C : CallRel) (R : RP) (v0 v1 : AV) (hp : List AO) : Prop := awp C (.loop [0, 1] j68_1) (p68_1 C R) ⟨[(0, v0), (1, v1)], [], hp⟩
def p68_2 (C : CallRel) (R : RP) : APost := (blockQ 2 (blockQ 1 (seqQ (awp C (.loop [0, 1] j68_1) (p68_1 C R)) (p68_1 C R))))
def J68_2 (C : CallRel) (R : RP) (v0 v1 : AV) (hp : List AO) : Prop := awp C (.loop [0, 1] j68_2) (p68_2 C R) ⟨[(0, v0), (1, v1)], [], hp⟩
theorem e68_1 {C : CallRel} {R : RP} {v0 v1 : AV} {hp : List AO} : s68_1 C R (J68_1 C R) (J68_2 C R) (J68_3 C R) v0 v1 hp = xwp C x68_1 (seqQ (awp C (.loop [0, 1] j68_1) (p68_1 C R)) (p68_1 C R)) (St.keep ⟨[(0, v0), (1, v1)], [], hp⟩ [0, 1]) := by kernel_rfl
theorem e68_2 {C : CallRel} {R : RP} {v0 v1 : AV} {hp : List AO} : s68_2 C R (J68_1 C R) (J68_2 C R) v0 v1 hp = xwp C x68_2 (seqQ (awp C (.loop [0, 1] j68_2) (p68_2 C R)) (p68_2 C R)) (St.keep ⟨[(0, v0), (1, v1)], [], hp⟩ [0, 1]) := by kernel_rfl
theorem e68_3 {C : CallRel} {R : RP} {v1 : AV} {hp : List AO} : s68_3 C R v1 hp = xwp C x68_3 (q68_3 C R) ⟨[(1, v1)], [], hp⟩ := by kernel_rfl
theorem e68_0 {C : CallRel} {R : RP} {v0 v1 : AV} {hp : List AO} : s68_0 C R (J68_1 C R) v0 v1 hp = xwp C x68_0 (resQ a68.res R) ⟨enum 0 [v0, v1], [], hp⟩ := by kernel_rfl
theorem w68 {C : CallRel} {R : RP} {v0 v1 : AV} {hp : List AO} (hC : CMono C) (h : s68 C R v0 v1 hp) : awp C a68.body (resQ a68.res R) ⟨enum 0 [v0, v1], [], hp⟩ :=
 cut_in hC e68_0 (h (J68_1 C R) (J68_2 C R) (J68_3 C R)
 (fun _ _ _ h => cut_loop hC e68_1 h)
 (fun _ _ _ h => cut_loop hC e68_2 h)
 (fun _ _ h => cut_in hC e68_3 h))
/-! ### 69 rewind/rewindref02.letter -/
def s69_0 (C : CallRel) (R : RP) (v0 : AV) (hp : List AO) : Prop :=
 bv (abin .geq v0 (.int .u8 97)) fun t4 =>
 bv (gv (isB true t4) (some v0)) fun t6 =>
 bv (gv (isB true t4) (abin .leq t6 (.int .u8 122))) fun t7 =>
 bv (pickV t4 t7 (.bool false)) fun t8 =>
 bv (gv (isB false t8) (some v0)) fun t10 =>
 bv (gv (isB false t8) (abin .geq t10 (.int .u8 65))) fun t11 =>
 bv (gv (isB false t8) (some t11)) fun t12 =>
 bv (gv (isB true t12) (some v0)) fun t13 =>
 bv (gv (isB true t12) (abin .leq t13 (.int .u8 90))) fun t14 =>
 bv (gv (isB false t8) (pickV t12 t14 (.bool false))) fun t15 =>
 bv (pickV t8 (.bool true) t15) fun t16 =>
 bv (gv (isB false t16) (some v0)) fun t18 =>
 bv (gv (isB false t16) (abin .eql t18 (.int .u8 95))) fun t19 =>
 bv (pickV t16 (.bool true) t19) fun t20 =>
 retQ R hp (some [t20])
def s69 (C : CallRel) (R : RP) (v0 : AV) (hp : List AO) : Prop :=
 s69_0 C R v0 hp
theorem e69_0 {C : CallRel} {R : RP} {v0 : AV} {hp : List AO} : s69_0 C R v0 hp = xwp C x69_0 (resQ a69.res R) ⟨enum 0 [v0], [], hp⟩ := by kernel_rfl
theorem w69 {C : CallRel} {R : RP} {v0 : AV} {hp : List AO} (hC : CMono C) (h : s69 C R v0 hp) : awp C a69.body (resQ a69.res R) ⟨enum 0 [v0], [], hp⟩ :=
 cut_in hC e69_0 (h)
/-! ### 70 rewind/rewindref02.digit -/
def s70_0 (C : CallRel) (R : RP) (v0 : AV) (hp : List AO) : Prop :=
 bv (abin .geq v0 (.int .u8 48)) fun t4 =>
 bv (gv (isB true t4) (some v0)) fun t6 =>
 bv (gv (isB true t4) (abin .leq t6 (.int .u8 57))) fun t7 =>
 bv (pickV t4 t7 (.bool false)) fun t8 =>
 retQ R hp (some [t8])
def s70 (C : CallRel) (R : RP) (v0 : AV) (hp : List AO) : Prop :=
 s70_0 C R v0 hp
theorem e70_0 {C : CallRel} {R : RP} {v0 : AV} {hp : List AO} : s70_0 C R v0 hp = xwp C x70_0 (resQ a70.res R) ⟨enum 0 [v0], [], hp⟩ := by kernel_rfl
theorem w70 {C : CallRel} {R : RP} {v0 : AV} {hp : List AO} (hC : CMono C) (h : s70 C R v0 hp) : awp C a70.body (resQ a70.res R) ⟨enum 0 [v0], [], hp⟩ :=
 cut_in hC e70_0 (h)
/-! ### 71 rewind/rewindref02.has -/
def s71_1 (C : CallRel) (R : RP) (J1 : AV → AV → AV → AV → List AO → Prop) (J2 : List AO → Prop) (v0 v1 v7 v8 : AV) (hp : List AO) : Prop :=
 bv (abin .lss v8 v7) fun t9 =>
 cnd t9 (bv (ixaV 1 v0 v8) fun t13 =>
 bv (ldH hp 1 false t13) fun t14 =>
 bv (abin .eql t14 v1) fun t16 =>
 cnd t16 (retQ R hp (some [(.bool true)])) (bv (abin .add v8 (.int .i64 1)) fun t17 =>
 J1 v0 v1 v7 t17 hp)) (J2 hp)
def s71_2 (C : CallRel) (R : RP) (hp : List AO) : Prop :=
 retQ R hp (some [(.bool false)])
def s71_0 (C : CallRel) (R : RP) (J1 : AV → AV → AV → AV → List AO → Prop) (v0 v1 : AV) (hp : List AO) : Prop :=
 bv (lenV false v0) fun t7 =>
 J1 v0 v1 t7 (.int .i64 0) hp
def s71 (C : CallRel) (R : RP) (v0 v1 : AV) (hp : List AO) : Prop :=
 ∀ J1 : AV → AV → AV → AV → List AO → Prop,
 ∀ J2 : List AO → Prop,
 (∀ v0 v1 v7 v8 hp, s71_1 C R J1 J2 v0 v1 v7 v8 hp → J1 v0 v1 v7 v8 hp) →
 (∀ hp, s71_2 C R hp → J2 hp) →
 s71_0 C R J1 v0 v1 hp
def q71_2 (C : CallRel) (R : RP) : APost := (resQ a71.res R)
def p71_2 (C : CallRel) (R : RP) : APost := seqQ (fun st => awp C j71_2 (q71_2 C R) (st.keep [])) (q71_2 C R)
def J71_2 (C : CallRel) (R : RP) (hp : List AO) : Prop := awp C j71_2 (q71_2 C R) ⟨[], [], hp⟩
def p71_1 (C : CallRel) (R : RP) : APost := (blockQ 0 (p71_2 C R))
def J71_1 (C : CallRel) (R : RP) (v0 v1 v7 v8 : AV) (hp : List AO) : Prop := awp C (.loop [0, 1, 7, 8] j71_1) (p71_1 C R) ⟨[(0, v0), (1, v1), (7, v7), (8, v8)], [], hp⟩
theorem e71_1 {C : CallRel} {R : RP} {v0 v1 v7 v8 : AV} {hp : List AO} : s71_1 C R (J71_1 C R) (J71_2 C R) v0 v1 v7 v8 hp = xwp C x71_1 (seqQ (awp C (.loop [0, 1, 7, 8] j71_1) (p71_1 C R)) (p71_1 C R)) (St.keep ⟨[(0, v0), (1, v1), (7, v7), (8, v8)], [], hp⟩ [0, 1, 7, 8]) := by kernel_rfl
theorem e71_2 {C : CallRel} {R : RP} {hp : List AO} : s71_2 C R hp = xwp C x71_2 (q71_2 C R) ⟨[], [], hp⟩ := by kernel_rfl
theorem e71_0 {C : CallRel} {R : RP} {v0 v1 : AV} {hp : List AO} : s71_0 C R (J71_1 C R) v0 v1 hp = xwp C x71_0 (resQ a71.res R) ⟨enum 0 [v0, v1], [], hp⟩ := by kernel_rfl
theorem w71 {C : CallRel} {R : RP} {v0 v1 : AV} {hp : List AO} (hC : CMono C) (h : s71 C R v0 v1 hp) : awp C a71.body (resQ a71.res R) ⟨enum 0 [v0, v1], [], hp⟩ :=
 cut_in hC e71_0 (h (J71_1 C R) (J71_2 C R)
 (fun _ _ _ _ _ h => cut_loop hC e71_1 h)
 (fun _ h => cut_in hC e71_2 h))
/-! ### 72 rewind/rewindref02.Words -/
def s72_0 (C : CallRel) (R : RP) (hp : List AO) : Prop :=
 bv (mkSlV 1 [(.str [98, 114, 101, 97, 107]), (.str [99, 111, 110, 116, 105, 110, 117, 101]), (.str [101, 108, 115, 101]), (.str [102, 97, 108, 115, 101]), (.str [102, 117, 110, 99]), (.str [105, 102]), (.str [105, 110, 116]), (.str [112, 114, 105, 110, 116]), (.str [114, 101, 97, 100]), (.str [114, 101, 116, 117, 114, 110]), (.str [116, 114, 117, 101]), (.str [118, 97, 114]), (.str [119, 104, 105, 108, 101])]) fun t1 =>
 retQ R hp (some [t1])
def s72 (C : CallRel) (R : RP) (hp : List AO) : Prop :=
 s72_0 C R hp
theorem e72_0 {C : CallRel} {R : RP} {hp : List AO} : s72_0 C R hp = xwp C x72_0 (resQ a72.res R) ⟨enum 0 [], [], hp⟩ := by kernel_rfl
theorem w72 {C : CallRel} {R : RP} {hp : List AO} (hC : CMono C) (h : s72 C R hp) : awp C a72.body (resQ a72.res R) ⟨enum 0 [], [], hp⟩ :=
 cut_in hC e72_0 (h)
/-! ### 73 rewind/rewindref04.word -/
def s73_0 (C : CallRel) (R : RP) (v0 : AV) (hp : List AO) : Prop :=
 ifT (AV.mem v0) <|
 ifT (notLoc 1 v0 && true) <|
 bv (ld 1 false (AV.cells v0) 1) fun t5 =>
 bv (ld 1 false (AV.cells v0) 2) fun t7 =>
 bv (ixaV 3 t5 t7) fun t8 =>
 bv (faddV 1 t8) fun t9 =>
 bv (ldH hp 2 true t9) fun t10 =>
 ifT (notLoc 3 t5 && (notLoc 3 t7 && (notLoc 3 t8 && (notLoc 3 t9 && (notLoc 3 t10 && true))))) <|
 ifT (okv 2 t10) <|
 bl (upd 0 (AV.cells t10) [.int .i64 0, .int .i64 0]) fun b3_1 =>
 bv (ld 1 false (AV.cells v0) 0) fun t12 =>
 bv (ld 1 false b3_1 0) fun t14 =>
 bv (ld 1 false b3_1 1) fun t16 =>
 bv (slstrV t12 (bnX 0 (some t14)) (bnX (lenN t12) (some t16))) fun t17 =>
 retQ R hp (some [t17])
def s73 (C : CallRel) (R : RP) (v0 : AV) (hp : List AO) : Prop :=
 s73_0 C R v0 hp
theorem e73_0 {C : CallRel} {R : RP} {v0 : AV} {hp : List AO} : s73_0 C R v0 hp = xwp C x73_0 (resQ a73.res R) ⟨enum 0 [v0], [], hp⟩ := by kernel_rfl
theorem w73 {C : CallRel} {R : RP} {v0 : AV} {hp : List AO} (hC : CMono C) (h : s73 C R v0 hp) : awp C a73.body (resQ a73.res R) ⟨enum 0 [v0], [], hp⟩ :=
 cut_in hC e73_0 (h)
/-! ### 74 rewind/rewindref04.deep -/
def s74_0 (C : CallRel) (R : RP) (v0 v1 : AV) (hp : List AO) : Prop :=
 ifT (AV.mem v0) <|
 ifT (notLoc 2 v0 && (notLoc 2 v1 && true)) <|
 ifT (notLoc 4 v0 && (notLoc 4 v1 && true)) <|
 bv (abin .gtr v1 (.int .i64 64)) fun t6 =>
 cnd t6 (bv (ld 8 true (AV.cells v0) 0) fun t7 =>
 callK C 56 [t7, (.int .i64 4)] hp <| rx (pn R) fun t8 hp1 =>
 ifT (okv 8 t8) <|
 bl (upd 0 (AV.cells t8) ([.str [], .sl .cap0 3 [], .int .i64 0, .sl .cap0 9 [], .sl .cap0 9 [], .sl .cap0 6 [], .int .i64 0, .int .i64 0])) fun b4_1 =>
 retQ R hp1 (Option.bind (ld 8 true b4_1 0) fun u2 => some [u2])) (bv (ld 8 true (AV.cells v0) 0) fun t9 =>
 ifT (okv 8 t9) <|
 bl (upd 0 (AV.cells t9) ([.str [], .sl .cap0 3 [], .int .i64 0, .sl .cap0 9 [], .sl .cap0 9 [], .sl .cap0 6 [], .int .i64 0, .int .i64 0])) fun b4_3 =>
 retQ R hp (Option.bind (ld 8 true b4_3 0) fun u4 => some [u4]))
def s74 (C : CallRel) (R : RP) (v0 v1 : AV) (hp : List AO) : Prop :=
 s74_0 C R v0 v1 hp
theorem e74_0 {C : CallRel} {R : RP} {v0 v1 : AV} {hp : List AO} : s74_0 C R v0 v1 hp = xwp C x74_0 (resQ a74.res R) ⟨enum 0 [v0, v1], [], hp⟩ := by kernel_rfl
theorem w74 {C : CallRel} {R : RP} {v0 v1 : AV} {hp : List AO} (hC : CMono C) (h : s74 C R v0 v1 hp) : awp C a74.body (resQ a74.res R) ⟨enum 0 [v0, v1], [], hp⟩ :=
 cut_in hC e74_0 (h)
/-! ### 75 rewind/rewindref04.stmt -/
def s75_1 (C : CallRel) (R : RP) (v6 : AV) (b2 : List AV) (b4 : List AV) (b7 : List AV) (hp : List AO) : Prop :=
 bv (ld 8 true b2 0) fun t198 =>
 bv (ld 9 true b7 0) fun t201 =>
 callK C 58 [t198, (.str [59])] hp <| rx (pn R) fun t199 hp42 =>
 callK C 90 [t199, v6, t201] hp42 <| rx (pn R) fun t202 hp43 =>
 bv (extV 0 t202) fun t203 =>
 bv (extV 1 t202) fun t204 =>
 ifT (okv 8 t203) <|
 bl (upd 0 (AV.cells t203) b4) fun b4_39 =>
 retQ R hp43 (Option.bind (ld 8 true b4_39 0) fun u40 => some [u40, t204])
def s75_0 (C : CallRel) (R : RP) (J1 : AV → List AV → List AV → List AV → List AO → Prop) (v0 v1 : AV) (hp : List AO) : Prop :=
 ifT (AV.mem v0) <|
 ifT (notLoc 2 v0 && (notLoc 2 v1 && true)) <|
 ifT (notLoc 4 v0 && (notLoc 4 v1 && true)) <|
 bv (ld 8 true (AV.cells v0) 0) fun t32 =>
 callK C 54 [t32] hp <| rx (pn R) fun t33 hp1 =>
 bv (bld [.int .i64 0, .int .i64 0, .int .i64 0, .str [], .int .i64 0, .int .i64 0, .int .i64 0, .sl .cap0 1 [], .sl .cap0 1 []] []) fun t34 =>
 ifT (notLoc 7 v1 && (notLoc 7 t33 && (notLoc 7 t34 && true))) <|
 ifT (okv 9 t34) <|
 bl (upd 0 (AV.cells t34) ([.int .i64 0, .int .i64 0, .int .i64 0, .str [], .int .i64 0, .int .i64 0, .int .i64 0, .sl .cap0 1 [], .sl .cap0 1 []])) fun b7_1 =>
 bv (ld 8 true (AV.cells v0) 0) fun t35 =>
 callK C 55 [t35, (.str [105, 102])] hp1 <| rx (pn R) fun t36 hp2 =>
 cnd t36 (bv (ld 8 true (AV.cells v0) 0) fun t37 =>
 callK C 58 [t37, (.str [105, 102])] hp2 <| rx (pn R) fun t38 hp3 =>
 callK C 88 [t38, t33, v1] hp3 <| rx (pn R) fun t41 hp4 =>
 bv (extV 0 t41) fun t42 =>
 bv (extV 1 t41) fun t43 =>
 ifT (okv 8 t42) <|
 bl (upd 0 (AV.cells t42) ([.str [], .sl .cap0 3 [], .int .i64 0, .sl .cap0 9 [], .sl .cap0 9 [], .sl .cap0 6 [], .int .i64 0, .int .i64 0])) fun b4_2 =>
 retQ R hp4 (Option.bind (ld 8 true b4_2 0) fun u3 => some [u3, t43])) (bv (ld 8 true (AV.cells v0) 0) fun t44 =>
 callK C 55 [t44, (.str [119, 104, 105, 108, 101])] hp2 <| rx (pn R) fun t45 hp5 =>
 cnd t45 (bv (ld 8 true (AV.cells v0) 0) fun t47 =>
 callK C 58 [t47, (.str [119, 104, 105, 108, 101])] hp5 <| rx (pn R) fun t48 hp6 =>
 callK C 89 [t48, v1] hp6 <| rx (pn R) fun t50 hp7 =>
 bv (extV 0 t50) fun t51 =>
 bv (extV 1 t50) fun t52 =>
 ifT (notLoc 8 v1 && (notLoc 8 t33 && (notLoc 8 t45 && (notLoc 8 t50 && (notLoc 8 t47 && (notLoc 8 t48 && (notLoc 8 v1 && (notLoc 8 t50 && (notLoc 8 t51 && (notLoc 8 t52 && true)))))))))) <|
 ifT (okv 8 t51) <|
 bl (upd 0 (AV.cells t51) ([.str [], .sl .cap0 3 [], .int .i64 0, .sl .cap0 9 [], .sl .cap0 9 [], .sl .cap0 6 [], .int .i64 0, .int .i64 0])) fun b8_4 =>
 bv (ld 8 true b8_4 0) fun t54 =>
 bv (abin .add v1 (.int .i64 1)) fun t56 =>
 callK C 59 [t54, t56] hp7 <| rx (pn R) fun t57 hp8 =>
 bv (extV 0 t57) fun t58 =>
 bv (extV 1 t57) fun t59 =>
 ifT (notLoc 10 v1 && (notLoc 10 t33 && (notLoc 10 t52 && (notLoc 10 t57 && (notLoc 10 t54 && (notLoc 10 v1 && (notLoc 10 t56 && (notLoc 10 t57 && (notLoc 10 t58 && (notLoc 10 t59 && true)))))))))) <|
 ifT (okv 8 t58) <|
 bl (upd 0 (AV.cells t58) ([.str [], .sl .cap0 3 [], .int .i64 0, .sl .cap0 9 [], .sl .cap0 9 [], .sl .cap0 6 [], .int .i64 0, .int .i64 0])) fun b10_5 =>
 bv (ld 8 true b10_5 0) fun t60 =>
 bv (bld [.int .i64 0, .int .i64 0, .int .i64 0, .str [], .int .i64 0, .int .i64 0, .int .i64 0, .sl .cap0 1 [], .sl .cap0 1 []] [(0, 1, (.int .i64 6)), (5, 1, t52), (7, 1, t59)]) fun t64 =>
 callK C 90 [t60, t33, t64] hp8 <| rx (pn R) fun t65 hp9 =>
 bv (extV 0 t65) fun t66 =>
 bv (extV 1 t65) fun t67 =>
 ifT (okv 8 t66) <|
 bl (upd 0 (AV.cells t66) ([.str [], .sl .cap0 3 [], .int .i64 0, .sl .cap0 9 [], .sl .cap0 9 [], .sl .cap0 6 [], .int .i64 0, .int .i64 0])) fun b4_6 =>
 retQ R hp9 (Option.bind (ld 8 true b4_6 0) fun u7 => some [u7, t67])) (bv (ld 8 true (AV.cells v0) 0) fun t122 =>
 callK C 55 [t122, (.str [118, 97, 114])] hp5 <| rx (pn R) fun t123 hp10 =>
 cnd t123 (bv (ld 8 true (AV.cells v0) 0) fun t125 =>
 callK C 58 [t125, (.str [118, 97, 114])] hp10 <| rx (pn R) fun t126 hp11 =>
 callK C 57 [t126, (.int .i64 1)] hp11 <| rx (pn R) fun t127 hp12 =>
 bv (extV 0 t127) fun t128 =>
 bv (extV 1 t127) fun t129 =>
 ifT (notLoc 12 v1 && (notLoc 12 t33 && (notLoc 12 t123 && (notLoc 12 t127 && (notLoc 12 t125 && (notLoc 12 t126 && (notLoc 12 t127 && (notLoc 12 t128 && (notLoc 12 t129 && true))))))))) <|
 ifT (okv 8 t128) <|
 bl (upd 0 (AV.cells t128) ([.str [], .sl .cap0 3 [], .int .i64 0, .sl .cap0 9 [], .sl .cap0 9 [], .sl .cap0 6 [], .int .i64 0, .int .i64 0])) fun b12_8 =>
 bv (ld 8 true b12_8 0) fun t130 =>
 callK C 55 [t130, (.str [91])] hp12 <| rx (pn R) fun t131 hp13 =>
 cnd t131 (bv (ld 8 true b12_8 0) fun t133 =>
 callK C 58 [t133, (.str [91])] hp13 <| rx (pn R) fun t134 hp14 =>
 callK C 57 [t134, (.int .i64 2)] hp14 <| rx (pn R) fun t135 hp15 =>
 bv (extV 0 t135) fun t136 =>
 bv (extV 1 t135) fun t137 =>
 ifT (notLoc 14 v1 && (notLoc 14 t33 && (notLoc 14 t129 && (notLoc 14 t131 && (notLoc 14 t135 && (notLoc 14 t133 && (notLoc 14 t134 && (notLoc 14 t135 && (notLoc 14 t136 && (notLoc 14 t137 && true)))))))))) <|
 ifT (okv 8 t136) <|
 bl (upd 0 (AV.cells t136) ([.str [], .sl .cap0 3 [], .int .i64 0, .sl .cap0 9 [], .sl .cap0 9 [], .sl .cap0 6 [], .int .i64 0, .int .i64 0])) fun b14_9 =>
 bv (ld 8 true b14_9 0) fun t138 =>
 callK C 58 [t138, (.str [93])] hp15 <| rx (pn R) fun t139 hp16 =>
 ifT (okv 8 t139) <|
 bl (upd 0 (AV.cells t139) (AV.cells v0)) fun b2_10 =>
 callK C 91 [t137] hp16 <| rx (pn R) fun t142 hp17 =>
 bv (bld [.int .i64 0, .int .i64 0, .int .i64 0, .str [], .int .i64 0, .int .i64 0, .int .i64 0, .sl .cap0 1 [], .sl .cap0 1 []] [(0, 1, (.int .i64 2)), (3, 1, t129), (4, 1, t142)]) fun t143 =>
 ifT (okv 9 t143) <|
 bl (upd 0 (AV.cells t143) b7_1) fun b7_11 =>
 J1 t33 b2_10 ([.str [], .sl .cap0 3 [], .int .i64 0, .sl .cap0 9 [], .sl .cap0 9 [], .sl .cap0 6 [], .int .i64 0, .int .i64 0]) b7_11 hp17) (bv (ld 8 true b12_8 0) fun t145 =>
 callK C 58 [t145, (.str [61])] hp13 <| rx (pn R) fun t146 hp18 =>
 callK C 89 [t146, v1] hp18 <| rx (pn R) fun t148 hp19 =>
 bv (extV 0 t148) fun t149 =>
 bv (extV 1 t148) fun t150 =>
 ifT (notLoc 16 v1 && (notLoc 16 t33 && (notLoc 16 t129 && (notLoc 16 t131 && (notLoc 16 t148 && (notLoc 16 t145 && (notLoc 16 t146 && (notLoc 16 v1 && (notLoc 16 t148 && (notLoc 16 t149 && (notLoc 16 t150 && true))))))))))) <|
 ifT (okv 8 t149) <|
 bl (upd 0 (AV.cells t149) ([.str [], .sl .cap0 3 [], .int .i64 0, .sl .cap0 9 [], .sl .cap0 9 [], .sl .cap0 6 [], .int .i64 0, .int .i64 0])) fun b16_12 =>
 bv (ld 8 true b16_12 0) fun t151 =>
 ifT (okv 8 t151) <|
 bl (upd 0 (AV.cells t151) (AV.cells v0)) fun b2_13 =>
 bv (bld [.int .i64 0, .int .i64 0, .int .i64 0, .str [], .int .i64 0, .int .i64 0, .int .i64 0, .sl .cap0 1 [], .sl .cap0 1 []] [(0, 1, (.int .i64 1)), (3, 1, t129), (5, 1, t150)]) fun t154 =>
 ifT (okv 9 t154) <|
 bl (upd 0 (AV.cells t154) b7_1) fun b7_14 =>
 J1 t33 b2_13 ([.str [], .sl .cap0 3 [], .int .i64 0, .sl .cap0 9 [], .sl .cap0 9 [], .sl .cap0 6 [], .int .i64 0, .int .i64 0]) b7_14 hp19)) (bv (ld 8 true (AV.cells v0) 0) fun t156 =>
 callK C 55 [t156, (.str [98, 114, 101, 97, 107])] hp10 <| rx (pn R) fun t157 hp20 =>
 cnd t157 (bv (ld 8 true (AV.cells v0) 0) fun t158 =>
 callK C 58 [t158, (.str [98, 114, 101, 97, 107])] hp20 <| rx (pn R) fun t159 hp21 =>
 ifT (okv 8 t159) <|
 bl (upd 0 (AV.cells t159) (AV.cells v0)) fun b2_15 =>
 ifT (okv 1 (.int .i64 7)) <|
 bl (upd 0 (AV.cells (.int .i64 7)) b7_1) fun b7_16 =>
 J1 t33 b2_15 ([.str [], .sl .cap0 3 [], .int .i64 0, .sl .cap0 9 [], .sl .cap0 9 [], .sl .cap0 6 [], .int .i64 0, .int .i64 0]) b7_16 hp21) (bv (ld 8 true (AV.cells v0) 0) fun t162 =>
 callK C 55 [t162, (.str [99, 111, 110, 116, 105, 110, 117, 101])] hp20 <| rx (pn R) fun t163 hp22 =>
 cnd t163 (bv (ld 8 true (AV.cells v0) 0) fun t164 =>
 callK C 58 [t164, (.str [99, 111, 110, 116, 105, 110, 117, 101])] hp22 <| rx (pn R) fun t165 hp23 =>
 ifT (okv 8 t165) <|
 bl (upd 0 (AV.cells t165) (AV.cells v0)) fun b2_17 =>
 ifT (okv 1 (.int .i64 8)) <|
 bl (upd 0 (AV.cells (.int .i64 8)) b7_1) fun b7_18 =>
 J1 t33 b2_17 ([.str [], .sl .cap0 3 [], .int .i64 0, .sl .cap0 9 [], .sl .cap0 9 [], .sl .cap0 6 [], .int .i64 0, .int .i64 0]) b7_18 hp23) (bv (ld 8 true (AV.cells v0) 0) fun t168 =>
 callK C 55 [t168, (.str [114, 101, 116, 117, 114, 110])] hp22 <| rx (pn R) fun t169 hp24 =>
 cnd t169 (bv (ld 8 true (AV.cells v0) 0) fun t170 =>
 callK C 58 [t170, (.str [114, 101, 116, 117, 114, 110])] hp24 <| rx (pn R) fun t171 hp25 =>
 ifT (okv 8 t171) <|
 bl (upd 0 (AV.cells t171) (AV.cells v0)) fun b2_19 =>
 bv (bld [.int .i64 0, .int .i64 0, .int .i64 0, .str [], .int .i64 0, .int .i64 0, .int .i64 0, .sl .cap0 1 [], .sl .cap0 1 []] [(0, 1, (.int .i64 9)), (5, 1, (.int .i64 (-1)))]) fun t172 =>
 ifT (okv 9 t172) <|
 bl (upd 0 (AV.cells t172) b7_1) fun b7_20 =>
 bv (ld 8 true b2_19 0) fun t173 =>
 callK C 55 [t173, (.str [59])] hp25 <| rx (pn R) fun t174 hp26 =>
 bv (aun .not t174) fun t175 =>
 cnd t175 (bv (ld 8 true b2_19 0) fun t177 =>
 callK C 89 [t177, v1] hp26 <| rx (pn R) fun t179 hp27 =>
 bv (extV 0 t179) fun t180 =>
 bv (extV 1 t179) fun t181 =>
 ifT (notLoc 18 v1 && (notLoc 18 t33 && (notLoc 18 t175 && (notLoc 18 t179 && (notLoc 18 t177 && (notLoc 18 v1 && (notLoc 18 t179 && (notLoc 18 t180 && (notLoc 18 t181 && true))))))))) <|
 ifT (okv 8 t180) <|
 bl (upd 0 (AV.cells t180) ([.str [], .sl .cap0 3 [], .int .i64 0, .sl .cap0 9 [], .sl .cap0 9 [], .sl .cap0 6 [], .int .i64 0, .int .i64 0])) fun b18_21 =>
 bv (ld 8 true b18_21 0) fun t182 =>
 ifT (okv 8 t182) <|
 bl (upd 0 (AV.cells t182) b2_19) fun b2_22 =>
 ifT (okv 1 t181) <|
 bl (upd 5 (AV.cells t181) b7_20) fun b7_23 =>
 J1 t33 b2_22 ([.str [], .sl .cap0 3 [], .int .i64 0, .sl .cap0 9 [], .sl .cap0 9 [], .sl .cap0 6 [], .int .i64 0, .int .i64 0]) b7_23 hp27) (J1 t33 b2_19 ([.str [], .sl .cap0 3 [], .int .i64 0, .sl .cap0 9 [], .sl .cap0 9 [], .sl .cap0 6 [], .int .i64 0, .int .i64 0]) b7_20 hp26)) (bv (ld 8 true (AV.cells v0) 0) fun t186 =>
 callK C 55 [t186, (.str [112, 114, 105, 110, 116])] hp24 <| rx (pn R) fun t187 hp28 =>
 cnd t187 (bv (ld 8 true (AV.cells v0) 0) fun t189 =>
 callK C 58 [t189, (.str [112, 114, 105, 110, 116])] hp28 <| rx (pn R) fun t190 hp29 =>
 callK C 89 [t190, v1] hp29 <| rx (pn R) fun t192 hp30 =>
 bv (extV 0 t192) fun t193 =>
 bv (extV 1 t192) fun t194 =>
 ifT (notLoc 20 v1 && (notLoc 20 t33 && (notLoc 20 t187 && (notLoc 20 t192 && (notLoc 20 t189 && (notLoc 20 t190 && (notLoc 20 v1 && (notLoc 20 t192 && (notLoc 20 t193 && (notLoc 20 t194 && true)))))))))) <|
 ifT (okv 8 t193) <|
 bl (upd 0 (AV.cells t193) ([.str [], .sl .cap0 3 [], .int .i64 0, .sl .cap0 9 [], .sl .cap0 9 [], .sl .cap0 6 [], .int .i64 0, .int .i64 0])) fun b20_24 =>
 bv (ld 8 true b20_24 0) fun t195 =>
 ifT (okv 8 t195) <|
 bl (upd 0 (AV.cells t195) (AV.cells v0)) fun b2_25 =>
 bv (bld [.int .i64 0, .int .i64 0, .int .i64 0, .str [], .int .i64 0, .int .i64 0, .int .i64 0, .sl .cap0 1 [], .sl .cap0 1 []] [(0, 1, (.int .i64 10)), (5, 1, t194)]) fun t197 =>
 ifT (okv 9 t197) <|
 bl (upd 0 (AV.cells t197) b7_1) fun b7_26 =>
 J1 t33 b2_25 ([.str [], .sl .cap0 3 [], .int .i64 0, .sl .cap0 9 [], .sl .cap0 9 [], .sl .cap0 6 [], .int .i64 0, .int .i64 0]) b7_26 hp30) (bv (ld 8 true (AV.cells v0) 0) fun t69 =>
 callK C 57 [t69, (.int .i64 1)] hp28 <| rx (pn R) fun t70 hp31 =>
 bv (extV 0 t70) fun t71 =>
 bv (extV 1 t70) fun t72 =>
 ifT (notLoc 22 v1 && (notLoc 22 t33 && (notLoc 22 t70 && (notLoc 22 t69 && (notLoc 22 t70 && (notLoc 22 t71 && (notLoc 22 t72 && (notLoc 22 t187 && true)))))))) <|
 ifT (okv 8 t71) <|
 bl (upd 0 (AV.cells t71) ([.str [], .sl .cap0 3 [], .int .i64 0, .sl .cap0 9 [], .sl .cap0 9 [], .sl .cap0 6 [], .int .i64 0, .int .i64 0])) fun b22_27 =>
 bv (ld 8 true b22_27 0) fun t73 =>
 ifT (okv 8 t73) <|
 bl (upd 0 (AV.cells t73) (AV.cells v0)) fun b2_28 =>
 bv (ld 8 true b2_28 0) fun t74 =>
 callK C 55 [t74, (.str [40])] hp31 <| rx (pn R) fun t75 hp32 =>
 cnd t75 (bv (ld 8 true b2_28 0) fun t77 =>
 callK C 92 [t77, t33, t72, v1] hp32 <| rx (pn R) fun t81 hp33 =>
 bv (extV 0 t81) fun t82 =>
 bv (extV 1 t81) fun t83 =>
 ifT (notLoc 24 v1 && (notLoc 24 t33 && (notLoc 24 t72 && (notLoc 24 t75 && (notLoc 24 t81 && (notLoc 24 t77 && (notLoc 24 t33 && (notLoc 24 t72 && (notLoc 24 v1 && (notLoc 24 t81 && (notLoc 24 t82 && (notLoc 24 t83 && true)))))))))))) <|
 ifT (okv 8 t82) <|
 bl (upd 0 (AV.cells t82) ([.str [], .sl .cap0 3 [], .int .i64 0, .sl .cap0 9 [], .sl .cap0 9 [], .sl .cap0 6 [], .int .i64 0, .int .i64 0])) fun b24_29 =>
 bv (ld 8 true b24_29 0) fun t84 =>
 ifT (okv 8 t84) <|
 bl (upd 0 (AV.cells t84) b2_28) fun b2_30 =>
 bv (bld [.int .i64 0, .int .i64 0, .int .i64 0, .str [], .int .i64 0, .int .i64 0, .int .i64 0, .sl .cap0 1 [], .sl .cap0 1 []] [(0, 1, (.int .i64 11)), (5, 1, t83)]) fun t86 =>
 ifT (okv 9 t86) <|
 bl (upd 0 (AV.cells t86) b7_1) fun b7_31 =>
 J1 t33 b2_30 ([.str [], .sl .cap0 3 [], .int .i64 0, .sl .cap0 9 [], .sl .cap0 9 [], .sl .cap0 6 [], .int .i64 0, .int .i64 0]) b7_31 hp33) (bv (ld 8 true b2_28 0) fun t87 =>
 callK C 55 [t87, (.str [91])] hp32 <| rx (pn R) fun t88 hp34 =>
 cnd t88 (bv (ld 8 true b2_28 0) fun t90 =>
 callK C 58 [t90, (.str [91])] hp34 <| rx (pn R) fun t91 hp35 =>
 bv (abin .add v1 (.int .i64 1)) fun t93 =>
 callK C 89 [t91, t93] hp35 <| rx (pn R) fun t94 hp36 =>
 bv (extV 0 t94) fun t95 =>
 bv (extV 1 t94) fun t96 =>
 ifT (notLoc 26 v1 && (notLoc 26 t33 && (notLoc 26 t72 && (notLoc 26 t88 && (notLoc 26 t94 && (notLoc 26 t90 && (notLoc 26 t91 && (notLoc 26 v1 && (notLoc 26 t93 && (notLoc 26 t94 && (notLoc 26 t95 && (notLoc 26 t96 && true)))))))))))) <|
 ifT (okv 8 t95) <|
 bl (upd 0 (AV.cells t95) ([.str [], .sl .cap0 3 [], .int .i64 0, .sl .cap0 9 [], .sl .cap0 9 [], .sl .cap0 6 [], .int .i64 0, .int .i64 0])) fun b26_32 =>
 bv (ld 8 true b26_32 0) fun t98 =>
 callK C 58 [t98, (.str [93])] hp36 <| rx (pn R) fun t99 hp37 =>
 callK C 58 [t99, (.str [61])] hp37 <| rx (pn R) fun t100 hp38 =>
 callK C 89 [t100, v1] hp38 <| rx (pn R) fun t102 hp39 =>
 bv (extV 0 t102) fun t103 =>
 bv (extV 1 t102) fun t104 =>
 ifT (notLoc 28 v1 && (notLoc 28 t33 && (notLoc 28 t72 && (notLoc 28 t96 && (notLoc 28 t102 && (notLoc 28 t98 && (notLoc 28 t99 && (notLoc 28 t100 && (notLoc 28 v1 && (notLoc 28 t102 && (notLoc 28 t103 && (notLoc 28 t104 && true)))))))))))) <|
 ifT (okv 8 t103) <|
 bl (upd 0 (AV.cells t103) ([.str [], .sl .cap0 3 [], .int .i64 0, .sl .cap0 9 [], .sl .cap0 9 [], .sl .cap0 6 [], .int .i64 0, .int .i64 0])) fun b28_33 =>
 bv (ld 8 true b28_33 0) fun t105 =>
 ifT (okv 8 t105) <|
 bl (upd 0 (AV.cells t105) b2_28) fun b2_34 =>
 bv (bld [.int .i64 0, .int .i64 0, .int .i64 0, .str [], .int .i64 0, .int .i64 0, .int .i64 0, .sl .cap0 1 [], .sl .cap0 1 []] [(0, 1, (.int .i64 4)), (3, 1, t72), (5, 1, t96), (6, 1, t104)]) fun t109 =>
 ifT (okv 9 t109) <|
 bl (upd 0 (AV.cells t109) b7_1) fun b7_35 =>
 J1 t33 b2_34 ([.str [], .sl .cap0 3 [], .int .i64 0, .sl .cap0 9 [], .sl .cap0 9 [], .sl .cap0 6 [], .int .i64 0, .int .i64 0]) b7_35 hp39) (bv (ld 8 true b2_28 0) fun t111 =>
 callK C 58 [t111, (.str [61])] hp34 <| rx (pn R) fun t112 hp40 =>
 callK C 89 [t112, v1] hp40 <| rx (pn R) fun t114 hp41 =>
 bv (extV 0 t114) fun t115 =>
 bv (extV 1 t114) fun t116 =>
 ifT (notLoc 30 v1 && (notLoc 30 t33 && (notLoc 30 t72 && (notLoc 30 t88 && (notLoc 30 t114 && (notLoc 30 t111 && (notLoc 30 t112 && (notLoc 30 v1 && (notLoc 30 t114 && (notLoc 30 t115 && (notLoc 30 t116 && true))))))))))) <|
 ifT (okv 8 t115) <|
 bl (upd 0 (AV.cells t115) ([.str [], .sl .cap0 3 [], .int .i64 0, .sl .cap0 9 [], .sl .cap0 9 [], .sl .cap0 6 [], .int .i64 0, .int .i64 0])) fun b30_36 =>
 bv (ld 8 true b30_36 0) fun t117 =>
 ifT (okv 8 t117) <|
 bl (upd 0 (AV.cells t117) b2_28) fun b2_37 =>
 bv (bld [.int .i64 0, .int .i64 0, .int .i64 0, .str [], .int .i64 0, .int .i64 0, .int .i64 0, .sl .cap0 1 [], .sl .cap0 1 []] [(0, 1, (.int .i64 3)), (3, 1, t72), (5, 1, t116)]) fun t120 =>
 ifT (okv 9 t120) <|
 bl (upd 0 (AV.cells t120) b7_1) fun b7_38 =>
 J1 t33 b2_37 ([.str [], .sl .cap0 3 [], .int .i64 0, .sl .cap0 9 [], .sl .cap0 9 [], .sl .cap0 6 [], .int .i64 0, .int .i64 0]) b7_38 hp41)))))))))
def s75 (C : CallRel) (R : RP) (v0 v1 : AV) (hp : List AO) : Prop :=
 ∀ J1 : AV → List AV → List AV → List AV → List AO → Prop,
 (∀ v6 b2 b4 b7 hp, s75_1 C R v6 b2 b4 b7 hp → J1 v6 b2 b4 b7 hp) →
 s75_0 C R J1 v0 v1 hp
def q75_1 (C : CallRel) (R : RP) : APost := (resQ a75.res R)
def p75_1 (C : CallRel) (R : RP) : APost := seqQ (fun st => awp C j75_1 (q75_1 C R) (st.keep [2, 4, 6, 7])) (q75_1 C R)
def J75_1 (C : CallRel) (R : RP) (v6 : AV) (b2 : List AV) (b4 : List AV) (b7 : List AV) (hp : List AO) : Prop := awp C j75_1 (q75_1 C R) ⟨[(2, (.loc 2 0)), (4, (.loc 4 0)), (6, v6), (7, (.loc 7 0))], [(2, b2), (4, b4), (7, b7)], hp⟩
theorem e75_1 {C : CallRel} {R : RP} {v6 : AV} {b2 : List AV} {b4 : List AV} {b7 : List AV} {hp : List AO} : s75_1 C R v6 b2 b4 b7 hp = xwp C x75_1 (q75_1 C R) ⟨[(2, (.loc 2 0)), (4, (.loc 4 0)), (6, v6), (7, (.loc 7 0))], [(2, b2), (4, b4), (7, b7)], hp⟩ := by kernel_rfl
theorem e75_0 {C : CallRel} {R : RP} {v0 v1 : AV} {hp : List AO} : s75_0 C R (J75_1 C R) v0 v1 hp = xwp C x75_0 (resQ a75.res R) ⟨enum 0 [v0, v1], [], hp⟩ := by kernel_rfl
theorem w75 {C : CallRel} {R : RP} {v0 v1 : AV} {hp : List AO} (hC : CMono C) (h : s75 C R v0 v1 hp) : awp C a75.body (resQ a75.res R) ⟨enum 0 [v0, v1], [], hp⟩ :=
 cut_in hC e75_0 (h (J75_1 C R)
 (fun _ _ _ _ _ h => cut_in hC e75_1 h))
/-! ### 76 rewind/rewindref06.find -/
def s76_1 (C : CallRel) (R : RP) (J2 : AV → AV → AV → AV → List AV → List AO → Prop) (J3 : AV → List AO → Prop) (v1 v5 v9 v10 : AV) (b2 : List AV) (hp : List AO) : Prop :=
 bv (abin .lss v10 v9) fun t11 =>
 cnd t11 (bv (ld 1 false b2 9) fun t14 =>
 bv (ixaV 3 t14 v10) fun t16 =>
 bv (faddV 0 t16) fun t17 =>
 bv (ldH hp 1 false t17) fun t18 =>
 bv (abin .eql t18 v1) fun t20 =>
 cnd t20 (bv (ld 1 false b2 9) fun t22 =>
 bv (ixaV 3 t22 v10) fun t24 =>
 bv (faddV 2 t24) fun t25 =>
 bv (ldH hp 1 false t25) fun t26 =>
 J2 v1 t26 v9 v10 b2 hp) (J2 v1 v5 v9 v10 b2 hp)) (J3 v5 hp)
def s76_2 (C : CallRel) (R : RP) (J1 : AV → AV → AV → AV → List AV → List AO → Prop) (v1 v5 v9 v10 : AV) (b2 : List AV) (hp : List AO) : Prop :=
 bv (abin .add v10 (.int .i64 1)) fun t27 =>
 J1 v1 v5 v9 t27 b2 hp
def s76_3 (C : CallRel) (R : RP) (v5 : AV) (hp : List AO) : Prop :=
 retQ R hp (some [v5])
def s76_0 (C : CallRel) (R : RP) (J1 : AV → AV → AV → AV → List AV → List AO → Prop) (v0 v1 : AV) (hp : List AO) : Prop :=
 ifT (AV.mem v0) <|
 ifT (notLoc 2 v0 && (notLoc 2 v1 && true)) <|
 bv (ld 1 false (AV.cells v0) 9) fun t8 =>
 bv (lenV false t8) fun t9 =>
 J1 v1 (.int .i64 (-1)) t9 (.int .i64 0) (AV.cells v0) hp
def s76 (C : CallRel) (R : RP) (v0 v1 : AV) (hp : List AO) : Prop :=
 ∀ J1 : AV → AV → AV → AV → List AV → List AO → Prop,
 ∀ J2 : AV → AV → AV → AV → List AV → List AO → Prop,
 ∀ J3 : AV → List AO → Prop,
 (∀ v1 v5 v9 v10 b2 hp, s76_1 C R J2 J3 v1 v5 v9 v10 b2 hp → J1 v1 v5 v9 v10 b2 hp) →
 (∀ v1 v5 v9 v10 b2 hp, s76_2 C R J1 v1 v5 v9 v10 b2 hp → J2 v1 v5 v9 v10 b2 hp) →
 (∀ v5 hp, s76_3 C R v5 hp → J3 v5 hp) →
 s76_0 C R J1 v0 v1 hp
def q76_3 (C : CallRel) (R : RP) : APost := (resQ a76.res R)
def p76_3 (C : CallRel) (R : RP) : APost := seqQ (fun st => awp C j76_3 (q76_3 C R) (st.keep [5])) (q76_3 C R)
def J76_3 (C : CallRel) (R : RP) (v5 : AV) (hp : List AO) : Prop := awp C j76_3 (q76_3 C R) ⟨[(5, v5)], [], hp⟩
def p76_1 (C : CallRel) (R : RP) : APost := (blockQ 0 (p76_3 C R))
def J76_1 (C : CallRel) (R : RP) (v1 v5 v9 v10 : AV) (b2 : List AV) (hp : List AO) : Prop := awp C (.loop [1, 2, 5, 9, 10] j76_1) (p76_1 C R) ⟨[(1, v1), (2, (.loc 2 0)), (5, v5), (9, v9), (10, v10)], [(2, b2)], hp⟩
def q76_2 (C : CallRel) (R : RP) : APost := (seqQ (awp C (.loop [1, 2, 5, 9, 10] j76_1) (p76_1 C R)) (p76_1 C R))
def p76_2 (C : CallRel) (R : RP) : APost := seqQ (fun st => awp C j76_2 (q76_2 C R) (st.keep [1, 2, 5, 9, 10])) (q76_2 C R)
def J76_2 (C : CallRel) (R : RP) (v1 v5 v9 v10 : AV) (b2 : List AV) (hp : List AO) : Prop := awp C j76_2 (q76_2 C R) ⟨[(1, v1), (2, (.loc 2 0)), (5, v5), (9, v9), (10, v10)], [(2, b2)], hp⟩
theorem e76_1 {C : CallRel} {R : RP} {v1 v5 v9 v10 : AV} {b2 : List AV} {hp : List AO} : s76_1 C R (J76_2 C R) (J76_3 C R) v1 v5 v9 v10 b2 hp = xwp C x76_1 (seqQ (awp C (.loop [1, 2, 5, 9, 10] j76_1) (p76_1 C R)) (p76_1 C R)) (St.keep ⟨[(1, v1), (2, (.loc 2 0)), (5, v5), (9, v9), (10, v10)], [(2, b2)], hp⟩ [1, 2, 5, 9, 10]) := by kernel_rfl
theorem e76_2 {C : CallRel} {R : RP} {v1 v5 v9 v10 : AV} {b2 : List AV} {hp : List AO} : s76_2 C R (J76_1 C R) v1 v5 v9 v10 b2 hp = xwp C x76_2 (q76_2 C R) ⟨[(1, v1), (2, (.loc 2 0)), (5, v5), (9, v9), (10, v10)], [(2, b2)], hp⟩ := by kernel_rfl
theorem e76_3 {C : CallRel} {R : RP} {v5 : AV} {hp : List AO} : s76_3 C R v5 hp = xwp C x76_3 (q76_3 C R) ⟨[(5, v5)], [], hp⟩ := by kernel_rfl
theorem e76_0 {C : CallRel} {R : RP} {v0 v1 : AV} {hp : List AO} : s76_0 C R (J76_1 C R) v0 v1 hp = xwp C x76_0 (resQ a76.res R) ⟨enum 0 [v0, v1], [], hp⟩ := by kernel_rfl
theorem w76 {C : CallRel} {R : RP} {v0 v1 : AV} {hp : List AO} (hC : CMono C) (h : s76 C R v0 v1 hp) : awp C a76.body (resQ a76.res R) ⟨enum 0 [v0, v1], [], hp⟩ :=
 cut_in hC e76_0 (h (J76_1 C R) (J76_2 C R) (J76_3 C R)
 (fun _ _ _ _ _ _ h => cut_loop hC e76_1 h)
 (fun _ _ _ _ _ _ h => cut_in hC e76_2 h)
 (fun _ _ h => cut_in hC e76_3 h))
/-! ### 88 rewind/rewindref04.branch -/
def s88_1 (C : CallRel) (R : RP) (v1 : AV) (b6 : List AV) (b10 : List AV) (b12 : List AV) (hp : List AO) : Prop :=
 bv (ld 8 true b10 0) fun t69 =>
 bv (ld 9 true b12 0) fun t71 =>
 callK C 90 [t69, v1, t71] hp <| rx (pn R) fun t72 hp11 =>
 bv (extV 0 t72) fun t73 =>
 bv (extV 1 t72) fun t74 =>
 ifT (okv 8 t73) <|
 bl (upd 0 (AV.cells t73) b6) fun b6_12 =>
 retQ R hp11 (Option.bind (ld 8 true b6_12 0) fun u13 => some [u13, t74])
def s88_0 (C : CallRel) (R : RP) (J1 : AV → List AV → List AV → List AV → List AO → Prop) (v0 v1 v2 : AV) (hp : List AO) : Prop :=
 ifT (AV.mem v0) <|
 ifT (notLoc 3 v0 && (notLoc 3 v1 && (notLoc 3 v2 && true))) <|
 ifT (notLoc 6 v0 && (notLoc 6 v1 && (notLoc 6 v2 && true))) <|
 bv (ld 8 true (AV.cells v0) 0) fun t19 =>
 callK C 89 [t19, v2] hp <| rx (pn R) fun t21 hp1 =>
 bv (extV 0 t21) fun t22 =>
 bv (extV 1 t21) fun t23 =>
 ifT (notLoc 8 v1 && (notLoc 8 v2 && (notLoc 8 t21 && (notLoc 8 t19 && (notLoc 8 v2 && (notLoc 8 t21 && (notLoc 8 t22 && (notLoc 8 t23 && true)))))))) <|
 ifT (okv 8 t22) <|
 bl (upd 0 (AV.cells t22) ([.str [], .sl .cap0 3 [], .int .i64 0, .sl .cap0 9 [], .sl .cap0 9 [], .sl .cap0 6 [], .int .i64 0, .int .i64 0])) fun b8_1 =>
 bv (ld 8 true b8_1 0) fun t25 =>
 bv (abin .add v2 (.int .i64 1)) fun t27 =>
 callK C 59 [t25, t27] hp1 <| rx (pn R) fun t28 hp2 =>
 bv (extV 0 t28) fun t29 =>
 bv (extV 1 t28) fun t30 =>
 ifT (notLoc 10 v1 && (notLoc 10 v2 && (notLoc 10 t23 && (notLoc 10 t28 && (notLoc 10 t25 && (notLoc 10 v2 && (notLoc 10 t27 && (notLoc 10 t28 && (notLoc 10 t29 && (notLoc 10 t30 && true)))))))))) <|
 ifT (okv 8 t29) <|
 bl (upd 0 (AV.cells t29) ([.str [], .sl .cap0 3 [], .int .i64 0, .sl .cap0 9 [], .sl .cap0 9 [], .sl .cap0 6 [], .int .i64 0, .int .i64 0])) fun b10_2 =>
 bv (bld [.int .i64 0, .int .i64 0, .int .i64 0, .str [], .int .i64 0, .int .i64 0, .int .i64 0, .sl .cap0 1 [], .sl .cap0 1 []] [(0, 1, (.int .i64 5)), (5, 1, t23), (7, 1, t30)]) fun t33 =>
 ifT (notLoc 12 v1 && (notLoc 12 v2 && (notLoc 12 t23 && (notLoc 12 t30 && (notLoc 12 t23 && (notLoc 12 t30 && (notLoc 12 t33 && true))))))) <|
 ifT (okv 9 t33) <|
 bl (upd 0 (AV.cells t33) ([.int .i64 0, .int .i64 0, .int .i64 0, .str [], .int .i64 0, .int .i64 0, .int .i64 0, .sl .cap0 1 [], .sl .cap0 1 []])) fun b12_3 =>
 bv (ld 8 true b10_2 0) fun t34 =>
 callK C 55 [t34, (.str [101, 108, 115, 101])] hp2 <| rx (pn R) fun t35 hp3 =>
 cnd t35 (bv (ld 8 true b10_2 0) fun t36 =>
 callK C 58 [t36, (.str [101, 108, 115, 101])] hp3 <| rx (pn R) fun t37 hp4 =>
 ifT (okv 8 t37) <|
 bl (upd 0 (AV.cells t37) b10_2) fun b10_4 =>
 bv (ld 8 true b10_4 0) fun t38 =>
 callK C 55 [t38, (.str [105, 102])] hp4 <| rx (pn R) fun t39 hp5 =>
 cnd t39 (bv (ld 8 true b10_4 0) fun t40 =>
 bv (abin .add v2 (.int .i64 1)) fun t42 =>
 callK C 74 [t40, t42] hp5 <| rx (pn R) fun t43 hp6 =>
 ifT (okv 8 t43) <|
 bl (upd 0 (AV.cells t43) b10_4) fun b10_5 =>
 bv (ld 8 true b10_5 0) fun t44 =>
 callK C 54 [t44] hp6 <| rx (pn R) fun t45 hp7 =>
 bv (ld 8 true b10_5 0) fun t47 =>
 callK C 58 [t47, (.str [105, 102])] hp7 <| rx (pn R) fun t48 hp8 =>
 bv (abin .add v2 (.int .i64 1)) fun t51 =>
 callK C 88 [t48, t45, t51] hp8 <| rx (pn R) fun t52 hp9 =>
 bv (extV 0 t52) fun t53 =>
 bv (extV 1 t52) fun t54 =>
 ifT (notLoc 14 v1 && (notLoc 14 v2 && (notLoc 14 t45 && (notLoc 14 t52 && (notLoc 14 t47 && (notLoc 14 t48 && (notLoc 14 t45 && (notLoc 14 v2 && (notLoc 14 t51 && (notLoc 14 t52 && (notLoc 14 t53 && (notLoc 14 t54 && true)))))))))))) <|
 ifT (okv 8 t53) <|
 bl (upd 0 (AV.cells t53) ([.str [], .sl .cap0 3 [], .int .i64 0, .sl .cap0 9 [], .sl .cap0 9 [], .sl .cap0 6 [], .int .i64 0, .int .i64 0])) fun b14_6 =>
 bv (ld 8 true b14_6 0) fun t55 =>
 ifT (okv 8 t55) <|
 bl (upd 0 (AV.cells t55) b10_5) fun b10_7 =>
 bv (mkSlV 1 [t54]) fun t57 =>
 ifT (okv 1 t57) <|
 bl (upd 8 (AV.cells t57) b12_3) fun b12_8 =>
 J1 v1 ([.str [], .sl .cap0 3 [], .int .i64 0, .sl .cap0 9 [], .sl .cap0 9 [], .sl .cap0 6 [], .int .i64 0, .int .i64 0]) b10_7 b12_8 hp9) (bv (ld 8 true b10_4 0) fun t60 =>
 bv (abin .add v2 (.int .i64 1)) fun t62 =>
 callK C 59 [t60, t62] hp5 <| rx (pn R) fun t63 hp10 =>
 bv (extV 0 t63) fun t64 =>
 bv (extV 1 t63) fun t65 =>
 ifT (notLoc 16 v1 && (notLoc 16 v2 && (notLoc 16 t39 && (notLoc 16 t63 && (notLoc 16 t60 && (notLoc 16 v2 && (notLoc 16 t62 && (notLoc 16 t63 && (notLoc 16 t64 && (notLoc 16 t65 && true)))))))))) <|
 ifT (okv 8 t64) <|
 bl (upd 0 (AV.cells t64) ([.str [], .sl .cap0 3 [], .int .i64 0, .sl .cap0 9 [], .sl .cap0 9 [], .sl .cap0 6 [], .int .i64 0, .int .i64 0])) fun b16_9 =>
 bv (ld 8 true b16_9 0) fun t66 =>
 ifT (okv 8 t66) <|
 bl (upd 0 (AV.cells t66) b10_4) fun b10_10 =>
 ifT (okv 1 t65) <|
 bl (upd 8 (AV.cells t65) b12_3) fun b12_11 =>
 J1 v1 ([.str [], .sl .cap0 3 [], .int .i64 0, .sl .cap0 9 [], .sl .cap0 9 [], .sl .cap0 6 [], .int .i64 0, .int .i64 0]) b10_10 b12_11 hp10)) (J1 v1 ([.str [], .sl .cap0 3 [], .int .i64 0, .sl .cap0 9 [], .sl .cap0 9 [], .sl .cap0 6 [], .int .i64 0, .int .i64 0]) b10_2 b12_3 hp3)
def s88 (C : CallRel) (R : RP) (v0 v1 v2 : AV) (hp : List AO) : Prop :=
 ∀ J1 : AV → List AV → List AV → List AV → List AO → Prop,
 (∀ v1 b6 b10 b12 hp, s88_1 C R v1 b6 b10 b12 hp → J1 v1 b6 b10 b12 hp) →
 s88_0 C R J1 v0 v1 v2 hp
def q88_1 (C : CallRel) (R : RP) : APost := (resQ a88.res R)
def p88_1 (C : CallRel) (R : RP) : APost := seqQ (fun st => awp C j88_1 (q88_1 C R) (st.keep [1, 6, 10, 12])) (q88_1 C R)
def J88_1 (C : CallRel) (R : RP) (v1 : AV) (b6 : List AV) (b10 : List AV) (b12 : List AV) (hp : List AO) : Prop := awp C j88_1 (q88_1 C R) ⟨[(1, v1), (6, (.loc 6 0)), (10, (.loc 10 0)), (12, (.loc 12 0))], [(6, b6), (10, b10), (12, b12)], hp⟩
theorem e88_1 {C : CallRel} {R : RP} {v1 : AV} {b6 : List AV} {b10 : List AV} {b12 : List AV} {hp : List AO} : s88_1 C R v1 b6 b10 b12 hp = xwp C x88_1 (q88_1 C R) ⟨[(1, v1), (6, (.loc 6 0)), (10, (.loc 10 0)), (12, (.loc 12 0))], [(6, b6), (10, b10), (12, b12)], hp⟩ := by kernel_rfl
theorem e88_0 {C : CallRel} {R : RP} {v0 v1 v2 : AV} {hp : List AO} : s88_0 C R (J88_1 C R) v0 v1 v2 hp = xwp C x88_0 (resQ a88.res R) ⟨enum 0 [v0, v1, v2], [], hp⟩ := by kernel_rfl
theorem w88 {C : CallRel} {R : RP} {v0 v1 v2 : AV} {hp : List AO} (hC : CMono C) (h : s88 C R v0 v1 v2 hp) : awp C a88.body (resQ a88.res R) ⟨enum 0 [v0, v1, v2], [], hp⟩ :=
 cut_in hC e88_0 (h (J88_1 C R)
 (fun _ _ _ _ _ h => cut_in hC e88_1 h))
/-! ### 89 rewind/rewindref04.Expr -/
def s89_0 (C : CallRel) (R : RP) (v0 v1 : AV) (hp : List AO) : Prop :=
 ifT (AV.mem v0) <|
 ifT (notLoc 2 v0 && (notLoc 2 v1 && true)) <|
 ifT (notLoc 4 v0 && (notLoc 4 v1 && true)) <|
 bv (ld 8 true (AV.cells v0) 0) fun t6 =>
 callK C 74 [t6, v1] hp <| rx (pn R) fun t8 hp1 =>
 ifT (okv 8 t8) <|
 bl (upd 0 (AV.cells t8) (AV.cells v0)) fun b2_1 =>
 bv (ld 1 false b2_1 6) fun t10 =>
 bv (abin .neq t10 (.int .i64 0)) fun t11 =>
 cnd t11 (bv (ld 8 true b2_1 0) fun t12 =>
 ifT (okv 8 t12) <|
 bl (upd 0 (AV.cells t12) ([.str [], .sl .cap0 3 [], .int .i64 0, .sl .cap0 9 [], .sl .cap0 9 [], .sl .cap0 6 [], .int .i64 0, .int .i64 0])) fun b4_2 =>
 retQ R hp1 (Option.bind (ld 8 true b4_2 0) fun u3 => some [u3, (.int .i64 0)])) (bv (ld 8 true b2_1 0) fun t13 =>
 callK C 98 [t13, (.int .i64 0), v1] hp1 <| rx (pn R) fun t15 hp2 =>
 bv (extV 0 t15) fun t16 =>
 bv (extV 1 t15) fun t17 =>
 ifT (okv 8 t16) <|
 bl (upd 0 (AV.cells t16) ([.str [], .sl .cap0 3 [], .int .i64 0, .sl .cap0 9 [], .sl .cap0 9 [], .sl .cap0 6 [], .int .i64 0, .int .i64 0])) fun b4_4 =>
 retQ R hp2 (Option.bind (ld 8 true b4_4 0) fun u5 => some [u5, t17]))
def s89 (C : CallRel) (R : RP) (v0 v1 : AV) (hp : List AO) : Prop :=
 s89_0 C R v0 v1 hp
theorem e89_0 {C : CallRel} {R : RP} {v0 v1 : AV} {hp : List AO} : s89_0 C R v0 v1 hp = xwp C x89_0 (resQ a89.res R) ⟨enum 0 [v0, v1], [], hp⟩ := by kernel_rfl
theorem w89 {C : CallRel} {R : RP} {v0 v1 : AV} {hp : List AO} (hC : CMono C) (h : s89 C R v0 v1 hp) : awp C a89.body (resQ a89.res R) ⟨enum 0 [v0, v1], [], hp⟩ :=
 cut_in hC e89_0 (h)
/-! ### 90 rewind/rewindref04.add -/
def s90_1 (C : CallRel) (R : RP) (v1 : AV) (b3 : List AV) (b5 : List AV) (b6 : List AV) (hp : List AO) : Prop :=
 bv (ld 1 false b3 6) fun t21 =>
 bv (abin .neq t21 (.int .i64 0)) fun t22 =>
 cnd t22 (bv (ld 8 true b3 0) fun t23 =>
 ifT (okv 8 t23) <|
 bl (upd 0 (AV.cells t23) b6) fun b6_2 =>
 retQ R hp (Option.bind (ld 8 true b6_2 0) fun u3 => some [u3, (.int .i64 0)])) (bv (ld 1 false b3 1) fun t26 =>
 bv (ld 1 false b3 2) fun t28 =>
 bv (abin .sub t28 (.int .i64 1)) fun t29 =>
 bv (ixaV 3 t26 t29) fun t30 =>
 bv (faddV 1 t30) fun t31 =>
 bv (faddV 1 t31) fun t32 =>
 bv (ldH hp 1 false t32) fun t33 =>
 bv (bld [.int .i64 0, .int .i64 0] [(0, 1, v1), (1, 1, t33)]) fun t34 =>
 ifT (okv 2 t34) <|
 bl (upd 1 (AV.cells t34) b5) fun b5_4 =>
 bv (ld 1 false b3 4) fun t38 =>
 bv (ld 9 true b5_4 0) fun t39 =>
 bv (mkSlV 9 [t39]) fun t40 =>
 ba (apx false 9 hp t38 t40) fun t41 hp2 =>
 ifT (okv 1 t41) <|
 bl (upd 4 (AV.cells t41) b3) fun b3_5 =>
 bv (ld 8 true b3_5 0) fun t44 =>
 bv (ld 1 false b3_5 4) fun t47 =>
 bv (lenV false t47) fun t48 =>
 bv (abin .sub t48 (.int .i64 1)) fun t49 =>
 ifT (okv 8 t44) <|
 bl (upd 0 (AV.cells t44) b6) fun b6_6 =>
 retQ R hp2 (Option.bind (ld 8 true b6_6 0) fun u7 => some [u7, t49]))
def s90_0 (C : CallRel) (R : RP) (J1 : AV → List AV → List AV → List AV → List AO → Prop) (v0 v1 v2 : AV) (hp : List AO) : Prop :=
 ifT (AV.mem v0) <|
 ifT (notLoc 3 v0 && (notLoc 3 v1 && (notLoc 3 v2 && true))) <|
 ifT (AV.mem v2) <|
 ifT (notLoc 5 v0 && (notLoc 5 v1 && (notLoc 5 v2 && true))) <|
 ifT (notLoc 6 v0 && (notLoc 6 v1 && (notLoc 6 v2 && true))) <|
 bv (ld 1 false (AV.cells v0) 6) fun t9 =>
 bv (abin .eql t9 (.int .i64 0)) fun t10 =>
 bv (gv (isB true t10) (faddV 3 (.loc 3 0))) fun t12 =>
 bv (gv (isB true t10) (faddV 1 t12)) fun t13 =>
 bv (gv (isB true t10) (ldL [(3, (AV.cells v0)), (5, (AV.cells v2)), (6, [.str [], .sl .cap0 3 [], .int .i64 0, .sl .cap0 9 [], .sl .cap0 9 [], .sl .cap0 6 [], .int .i64 0, .int .i64 0])] 1 false t13)) fun t14 =>
 bv (gv (isB true t10) (lenV false t14)) fun t15 =>
 bv (gv (isB true t10) (abin .geq t15 (.int .i64 1000))) fun t16 =>
 bv (pickV t10 t16 (.bool false)) fun t17 =>
 cnd t17 (bv (ld 8 true (AV.cells v0) 0) fun t18 =>
 callK C 56 [t18, (.int .i64 5)] hp <| rx (pn R) fun t19 hp1 =>
 ifT (okv 8 t19) <|
 bl (upd 0 (AV.cells t19) (AV.cells v0)) fun b3_1 =>
 J1 v1 b3_1 (AV.cells v2) ([.str [], .sl .cap0 3 [], .int .i64 0, .sl .cap0 9 [], .sl .cap0 9 [], .sl .cap0 6 [], .int .i64 0, .int .i64 0]) hp1) (J1 v1 (AV.cells v0) (AV.cells v2) ([.str [], .sl .cap0 3 [], .int .i64 0, .sl .cap0 9 [], .sl .cap0 9 [], .sl .cap0 6 [], .int .i64 0, .int .i64 0]) hp)
def s90 (C : CallRel) (R : RP) (v0 v1 v2 : AV) (hp : List AO) : Prop :=
 ∀ J1 : AV → List AV → List AV → List AV → List AO → Prop,
 (∀ v1 b3 b5 b6 hp, s90_1 C R v1 b3 b5 b6 hp → J1 v1 b3 b5 b6 hp) →
 s90_0 C R J1 v0 v1 v2 hp
def q90_1 (C : CallRel) (R : RP) : APost := (resQ a90.res R)
def p90_1 (C : CallRel) (R : RP) : APost := seqQ (fun st => awp C j90_1 (q90_1 C R) (st.keep [1, 3, 5, 6])) (q90_1 C R)
def J90_1 (C : CallRel) (R : RP) (v1 : AV) (b3 : List AV) (b5 : List AV) (b6 : List AV) (hp : List AO) : Prop := awp C j90_1 (q90_1 C R) ⟨[(1, v1), (3, (.loc 3 0)), (5, (.loc 5 0)), (6, (.loc 6 0))], [(3, b3), (5, b5), (6, b6)], hp⟩
theorem e90_1 {C : CallRel} {R : RP} {v1 : AV} {b3 : List AV} {b5 : List AV} {b6 : List AV} {hp : List AO} : s90_1 C R v1 b3 b5 b6 hp = xwp C x90_1 (q90_1 C R) ⟨[(1, v1), (3, (.loc 3 0)), (5, (.loc 5 0)), (6, (.loc 6 0))], [(3, b3), (5, b5), (6, b6)], hp⟩ := by kernel_rfl
theorem e90_0 {C : CallRel} {R : RP} {v0 v1 v2 : AV} {hp : List AO} : s90_0 C R (J90_1 C R) v0 v1 v2 hp = xwp C x90_0 (resQ a90.res R) ⟨enum 0 [v0, v1, v2], [], hp⟩ := by kernel_rfl
theorem w90 {C : CallRel} {R : RP} {v0 v1 v2 : AV} {hp : List AO} (hC : CMono C) (h : s90 C R v0 v1 v2 hp) : awp C a90.body (resQ a90.res R) ⟨enum 0 [v0, v1, v2], [], hp⟩ :=
 cut_in hC e90_0 (h (J90_1 C R)
 (fun _ _ _ _ _ h => cut_in hC e90_1 h))
/-! ### 91 rewind/rewindref04.number -/
def s91_1 (C : CallRel) (R : RP) (J1 : AV → AV → AV → List AO → Prop) (J2 : AV → List AO → Prop) (v0 v3 v4 : AV) (hp : List AO) : Prop :=
 bv (lenV true v0) fun t7 =>
 bv (abin .lss v4 t7) fun t8 =>
 cnd t8 (bv (abin .mul v3 (.int .i64 10)) fun t12 =>
 bv (ixsV v0 v4) fun t15 =>
 bv (abin .sub t15 (.int .u8 48)) fun t16 =>
 bv (convV .i64 t16) fun t17 =>
 bv (abin .add t12 t17) fun t18 =>
 bv (abin .add v4 (.int .i64 1)) fun t10 =>
 J1 v0 t18 t10 hp) (J2 v3 hp)
def s91_2 (C : CallRel) (R : RP) (v3 : AV) (hp : List AO) : Prop :=
 retQ R hp (some [v3])
def s91_0 (C : CallRel) (R : RP) (J1 : AV → AV → AV → List AO → Prop) (v0 : AV) (hp : List AO) : Prop :=
 J1 v0 (.int .i64 0) (.int .i64 0) hp
def s91 (C : CallRel) (R : RP) (v0 : AV) (hp : List AO) : Prop :=
 ∀ J1 : AV → AV → AV → List AO → Prop,
 ∀ J2 : AV → List AO → Prop,
 (∀ v0 v3 v4 hp, s91_1 C R J1 J2 v0 v3 v4 hp → J1 v0 v3 v4 hp) →
 (∀ v3 hp, s91_2 C R v3 hp → J2 v3 hp) →
 s91_0 C R J1 v0 hp
def q91_2 (C : CallRel) (R : RP) : APost := (resQ a91.res R)
def p91_2 (C : CallRel) (R : RP) : APost := seqQ (fun st => awp C j91_2 (q91_2 C R) (st.keep [3])) (q91_2 C R)
def J91_2 (C : CallRel) (R : RP) (v3 : AV) (hp : List AO) : Prop := awp C j91_2 (q91_2 C R) ⟨[(3, v3)], [], hp⟩
def p91_1 (C : CallRel) (R : RP) : APost := (blockQ 0 (p91_2 C R))
def J91_1 (C : CallRel) (R : RP) (v0 v3 v4 : AV) (hp : List AO) : Prop := awp C (.loop [0, 3, 4] j91_1) (p91_1 C R) ⟨[(0, v0), (3, v3), (4, v4)], [], hp⟩
theorem e91_1 {C : CallRel} {R : RP} {v0 v3 v4 : AV} {hp : List AO} : s91_1 C R (J91_1 C R) (J91_2 C R) v0 v3 v4 hp = xwp C x91_1 (seqQ (awp C (.loop [0, 3, 4] j91_1) (p91_1 C R)) (p91_1 C R)) (St.keep ⟨[(0, v0), (3, v3), (4, v4)], [], hp⟩ [0, 3, 4]) := by kernel_rfl
theorem e91_2 {C : CallRel} {R : RP} {v3 : AV} {hp : List AO} : s91_2 C R v3 hp = xwp C x91_2 (q91_2 C R) ⟨[(3, v3)], [], hp⟩ := by kernel_rfl
theorem e91_0 {C : CallRel} {R : RP} {v0 : AV} {hp : List AO} : s91_0 C R (J91_1 C R) v0 hp = xwp C x91_0 (resQ a91.res R) ⟨enum 0 [v0], [], hp⟩ := by kernel_rfl
theorem w91 {C : CallRel} {R : RP} {v0 : AV} {hp : List AO} (hC : CMono C) (h : s91 C R v0 hp) : awp C a91.body (resQ a91.res R) ⟨enum 0 [v0], [], hp⟩ :=
 cut_in hC e91_0 (h (J91_1 C R) (J91_2 C R)
 (fun _ _ _ _ h => cut_loop hC e91_1 h)
 (fun _ _ h => cut_in hC e91_2 h))
/-! ### 92 rewind/rewindref04.call -/
def s92_1 (C : CallRel) (R : RP) (J2 : AV → AV → List AV → List AV → List AV → List AO → Prop) (J3 : AV → List AV → List AV → List AV → List AO → Prop) (v1 v3 : AV) (b4 : List AV) (b8 : List AV) (b10 : List AV) (hp : List AO) : Prop :=
 bv (ld 1 false b4 6) fun t18 =>
 bv (abin .eql t18 (.int .i64 0)) fun t19 =>
 bv (gv (isB true t19) (ld 8 true b4 0)) fun t21 =>
 gcal C (isB true t19) 55 [t21, (.str [41])] hp (pn R) fun t22 hp2 =>
 bv (gv (isB true t19) (aun .not t22)) fun t23 =>
 bv (pickV t19 t23 (.bool false)) fun t24 =>
 cnd t24 (bv (ld 1 false b10 8) fun t26 =>
 bv (lenV false t26) fun t27 =>
 bv (abin .gtr t27 (.int .i64 0)) fun t28 =>
 cnd t28 (bv (ld 8 true b4 0) fun t29 =>
 callK C 58 [t29, (.str [44])] hp2 <| rx (pn R) fun t30 hp3 =>
 ifT (okv 8 t30) <|
 bl (upd 0 (AV.cells t30) b4) fun b4_3 =>
 J2 v1 v3 b4_3 b8 b10 hp3) (J2 v1 v3 b4 b8 b10 hp2)) (J3 v1 b4 b8 b10 hp2)
def s92_2 (C : CallRel) (R : RP) (J1 : AV → AV → List AV → List AV → List AV → List AO → Prop) (v1 v3 : AV) (b4 : List AV) (b8 : List AV) (b10 : List AV) (hp : List AO) : Prop :=
 bv (ld 8 true b4 0) fun t32 =>
 bv (abin .add v3 (.int .i64 1)) fun t34 =>
 callK C 89 [t32, t34] hp <| rx (pn R) fun t35 hp4 =>
 bv (extV 0 t35) fun t36 =>
 bv (extV 1 t35) fun t37 =>
 ifT (notLoc 11 v1 && (notLoc 11 v3 && (notLoc 11 t35 && (notLoc 11 t32 && (notLoc 11 v3 && (notLoc 11 t34 && (notLoc 11 t35 && (notLoc 11 t36 && (notLoc 11 t37 && true))))))))) <|
 ifT (okv 8 t36) <|
 bl (upd 0 (AV.cells t36) ([.str [], .sl .cap0 3 [], .int .i64 0, .sl .cap0 9 [], .sl .cap0 9 [], .sl .cap0 6 [], .int .i64 0, .int .i64 0])) fun b11_4 =>
 bv (ld 8 true b11_4 0) fun t38 =>
 ifT (okv 8 t38) <|
 bl (upd 0 (AV.cells t38) b4) fun b4_5 =>
 bv (ld 1 false b10 8) fun t40 =>
 bv (mkSlV 1 [t37]) fun t42 =>
 ba (apx false 1 hp4 t40 t42) fun t43 hp5 =>
 ifT (okv 1 t43) <|
 bl (upd 8 (AV.cells t43) b10) fun b10_6 =>
 J1 v1 v3 b4_5 b8 b10_6 hp5
def s92_3 (C : CallRel) (R : RP) (v1 : AV) (b4 : List AV) (b8 : List AV) (b10 : List AV) (hp : List AO) : Prop :=
 bv (ld 8 true b4 0) fun t45 =>
 bv (ld 9 true b10 0) fun t48 =>
 callK C 58 [t45, (.str [41])] hp <| rx (pn R) fun t46 hp6 =>
 callK C 99 [t46, v1, t48] hp6 <| rx (pn R) fun t49 hp7 =>
 bv (extV 0 t49) fun t50 =>
 bv (extV 1 t49) fun t51 =>
 ifT (okv 8 t50) <|
 bl (upd 0 (AV.cells t50) b8) fun b8_7 =>
 retQ R hp7 (Option.bind (ld 8 true b8_7 0) fun u8 => some [u8, t51])
def s92_0 (C : CallRel) (R : RP) (J1 : AV → AV → List AV → List AV → List AV → List AO → Prop) (v0 v1 v2 v3 : AV) (hp : List AO) : Prop :=
 ifT (AV.mem v0) <|
 ifT (notLoc 4 v0 && (notLoc 4 v1 && (notLoc 4 v2 && (notLoc 4 v3 && true)))) <|
 ifT (notLoc 8 v0 && (notLoc 8 v1 && (notLoc 8 v2 && (notLoc 8 v3 && true)))) <|
 bv (ld 8 true (AV.cells v0) 0) fun t13 =>
 callK C 58 [t13, (.str [40])] hp <| rx (pn R) fun t14 hp1 =>
 ifT (okv 8 t14) <|
 bl (upd 0 (AV.cells t14) (AV.cells v0)) fun b4_1 =>
 bv (bld [.int .i64 0, .int .i64 0, .int .i64 0, .int .i64 0, .str [], .str [], .int .i64 0, .int .i64 0, .sl .cap0 1 []] [(0, 1, (.int .i64 6)), (4, 1, v2)]) fun t16 =>
 ifT (notLoc 10 v1 && (notLoc 10 v2 && (notLoc 10 v3 && (notLoc 10 v2 && (notLoc 10 t16 && true))))) <|
 ifT (okv 9 t16) <|
 bl (upd 0 (AV.cells t16) ([.int .i64 0, .int .i64 0, .int .i64 0, .int .i64 0, .str [], .str [], .int .i64 0, .int .i64 0, .sl .cap0 1 []])) fun b10_2 =>
 J1 v1 v3 b4_1 ([.str [], .sl .cap0 3 [], .int .i64 0, .sl .cap0 9 [], .sl .cap0 9 [], .sl .cap0 6 [], .int .i64 0, .int .i64 0]) b10_2 hp1
def s92 (C : CallRel) (R : RP) (v0 v1 v2 v3 : AV) (hp : List AO) : Prop :=
 ∀ J1 : AV → AV → List AV → List AV → List AV → List AO → Prop,
 ∀ J2 : AV → AV → List AV → List AV → List AV → List AO → Prop,
 ∀ J3 : AV → List AV → List AV → List AV → List AO → Prop,
 (∀ v1 v3 b4 b8 b10 hp, s92_1 C R J2 J3 v1 v3 b4 b8 b10 hp → J1 v1 v3 b4 b8 b10 hp) →
 (∀ v1 v3 b4 b8 b10 hp, s92_2 C R J1 v1 v3 b4 b8 b10 hp → J2 v1 v3 b4 b8 b10 hp) →
 (∀ v1 b4 b8 b10 hp, s92_3 C R v1 b4 b8 b10 hp → J3 v1 b4 b8 b10 hp) →
 s92_0 C R J1 v0 v1 v2 v3 hp
def q92_3 (C : CallRel) (R : RP) : APost := (resQ a92.res R)
def p92_3 (C : CallRel) (R : RP) : APost := seqQ (fun st => awp C j92_3 (q92_3 C R) (st.keep [1, 4, 8, 10])) (q92_3 C R)
def J92_3 (C : CallRel) (R : RP) (v1 : AV) (b4 : List AV) (b8 : List AV) (b10 : List AV) (hp : List AO) : Prop := awp C j92_3 (q92_3 C R) ⟨[(1, v1), (4, (.loc 4 0)), (8, (.loc 8 0)), (10, (.loc 10 0))], [(4, b4), (8, b8), (10, b10)], hp⟩
def p92_1 (C : CallRel) (R : RP) : APost := (blockQ 0 (p92_3 C R))
def J92_1 (C : CallRel) (R : RP) (v1 v3 : AV) (b4 : List AV) (b8 : List AV) (b10 : List AV) (hp : List AO) : Prop := awp C (.loop [1, 3, 4, 8, 10] j92_1) (p92_1 C R) ⟨[(1, v1), (3, v3), (4, (.loc 4 0)), (8, (.loc 8 0)), (10, (.loc 10 0))], [(4, b4), (8, b8), (10, b10)], hp⟩
def q92_2 (C : CallRel) (R : RP) : APost := (blockQ 1 (seqQ (awp C (.loop [1, 3, 4, 8, 10] j92_1) (p92_1 C R)) (p92_1 C R)))
def p92_2 (C : CallRel) (R : RP) : APost := seqQ (fun st => awp C j92_2 (q92_2 C R) (st.keep [1, 3, 4, 8, 10])) (q92_2 C R)
def J92_2 (C : CallRel) (R : RP) (v1 v3 : AV) (b4 : List AV) (b8 : List AV) (b10 : List AV) (hp : List AO) : Prop := awp C j92_2 (q92_2 C R) ⟨[(1, v1), (3, v3), (4, (.loc 4 0)), (8, (.loc 8 0)), (10, (.loc 10 0))], [(4, b4), (8, b8), (10, b10)], hp⟩
theorem e92_1 {C : CallRel} {R : RP} {v1 v3 : AV} {b4 : List AV} {b8 : List AV} {b10 : List AV} {hp : List AO} : s92_1 C R (J92_2 C R) (J92_3 C R) v1 v3 b4 b8 b10 hp = xwp C x92_1 (seqQ (awp C (.loop [1, 3, 4, 8, 10] j92_1) (p92_1 C R)) (p92_1 C R)) (St.keep ⟨[(1, v1), (3, v3), (4, (.loc 4 0)), (8, (.loc 8 0)), (10, (.loc 10 0))], [(4, b4), (8, b8), (10, b10)], hp⟩ [1, 3, 4, 8, 10]) := by kernel_rfl
theorem e92_2 {C : CallRel} {R : RP} {v1 v3 : AV} {b4 : List AV} {b8 : List AV} {b10 : List AV} {hp : List AO} : s92_2 C R (J92_1 C R) v1 v3 b4 b8 b10 hp = xwp C x92_2 (q92_2 C R) ⟨[(1, v1), (3, v3), (4, (.loc 4 0)), (8, (.loc 8 0)), (10, (.loc 10 0))], [(4, b4), (8, b8), (10, b10)], hp⟩ := by kernel_rfl
theorem e92_3 {C : CallRel} {R : RP} {v1 : AV} {b4 : List AV} {b8 : List AV} {b10 : List AV} {hp : List AO} : s92_3 C R v1 b4 b8 b10 hp = xwp C x92_3 (q92_3 C R) ⟨[(1, v1), (4, (.loc 4 0)), (8, (.loc 8 0)), (10, (.loc 10 0))], [(4, b4), (8, b8), (10, b10)], hp⟩ := by kernel_rfl
theorem e92_0 {C : CallRel} {R : RP} {v0 v1 v2 v3 : AV} {hp : List AO} : s92_0 C R (J92_1 C R) v0 v1 v2 v3 hp = xwp C x92_0 (resQ a92.res R) ⟨enum 0 [v0, v1, v2, v3], [], hp⟩ := by kernel_rfl
theorem w92 {C : CallRel} {R : RP} {v0 v1 v2 v3 : AV} {hp : List AO} (hC : CMono C) (h : s92 C R v0 v1 v2 v3 hp) : awp C a92.body (resQ a92.res R) ⟨enum 0 [v0, v1, v2, v3], [], hp⟩ :=
 cut_in hC e92_0 (h (J92_1 C R) (J92_2 C R) (J92_3 C R)
 (fun _ _ _ _ _ _ h => cut_loop hC e92_1 h)
 (fun _ _ _ _ _ _ h => cut_in hC e92_2 h)
 (fun _ _ _ _ _ h => cut_in hC e92_3 h))
/-! ### 98 rewind/rewindref04.Row -/
def s98_1 (C : CallRel) (R : RP) (J1 : AV → AV → AV → AV → List AV → List AV → List AO → Prop) (J2 : AV → List AV → List AV → List AO → Prop) (v1 v2 v8 v9 : AV) (b3 : List AV) (b6 : List AV) (hp : List AO) : Prop :=
 bv (ld 8 true b3 0) fun t32 =>
 callK C 102 [t32, v1] hp <| rx (pn R) fun t34 hp4 =>
 bv (abin .neq t34 (.str [])) fun t35 =>
 cnd t35 (bv (ld 8 true b3 0) fun t36 =>
 callK C 102 [t36, v1] hp4 <| rx (pn R) fun t38 hp5 =>
 bv (ld 1 false b3 2) fun t40 =>
 bv (abin .add t40 (.int .i64 1)) fun t41 =>
 ifT (okv 1 t41) <|
 bl (upd 2 (AV.cells t41) b3) fun b3_4 =>
 bv (ld 8 true b3_4 0) fun t44 =>
 bv (abin .add v1 (.int .i64 1)) fun t46 =>
 callK C 98 [t44, t46, v2] hp5 <| rx (pn R) fun t48 hp6 =>
 bv (extV 0 t48) fun t49 =>
 bv (extV 1 t48) fun t50 =>
 ifT (notLoc 11 v1 && (notLoc 11 v2 && (notLoc 11 v8 && (notLoc 11 v9 && (notLoc 11 t38 && (notLoc 11 t48 && (notLoc 11 t44 && (notLoc 11 v1 && (notLoc 11 t46 && (notLoc 11 v2 && (notLoc 11 t48 && (notLoc 11 t49 && (notLoc 11 t50 && true))))))))))))) <|
 ifT (okv 8 t49) <|
 bl (upd 0 (AV.cells t49) ([.str [], .sl .cap0 3 [], .int .i64 0, .sl .cap0 9 [], .sl .cap0 9 [], .sl .cap0 6 [], .int .i64 0, .int .i64 0])) fun b11_5 =>
 bv (ld 8 true b11_5 0) fun t52 =>
 bv (bld [.int .i64 0, .int .i64 0, .int .i64 0, .int .i64 0, .str [], .str [], .int .i64 0, .int .i64 0, .sl .cap0 1 []] [(0, 1, (.int .i64 9)), (5, 1, t38), (6, 1, v9), (7, 1, t50)]) fun t57 =>
 callK C 99 [t52, v8, t57] hp6 <| rx (pn R) fun t58 hp7 =>
 bv (extV 0 t58) fun t59 =>
 bv (extV 1 t58) fun t60 =>
 ifT (notLoc 13 v1 && (notLoc 13 v2 && (notLoc 13 v8 && (notLoc 13 v9 && (notLoc 13 t38 && (notLoc 13 t50 && (notLoc 13 t58 && (notLoc 13 t52 && (notLoc 13 v8 && (notLoc 13 t38 && (notLoc 13 v9 && (notLoc 13 t50 && (notLoc 13 t57 && (notLoc 13 t58 && (notLoc 13 t59 && (notLoc 13 t60 && true)))))))))))))))) <|
 ifT (okv 8 t59) <|
 bl (upd 0 (AV.cells t59) ([.str [], .sl .cap0 3 [], .int .i64 0, .sl .cap0 9 [], .sl .cap0 9 [], .sl .cap0 6 [], .int .i64 0, .int .i64 0])) fun b13_6 =>
 bv (ld 8 true b13_6 0) fun t61 =>
 ifT (okv 8 t61) <|
 bl (upd 0 (AV.cells t61) b3_4) fun b3_7 =>
 bv (abin .eql v1 (.int .i64 2)) fun t64 =>
 cnd t64 (bv (ld 8 true b3_7 0) fun t65 =>
 ifT (okv 8 t65) <|
 bl (upd 0 (AV.cells t65) b6) fun b6_8 =>
 retQ R hp7 (Option.bind (ld 8 true b6_8 0) fun u9 => some [u9, t60])) (J1 v1 v2 v8 t60 b3_7 b6 hp7)) (J2 v9 b3 b6 hp4)
def s98_2 (C : CallRel) (R : RP) (v9 : AV) (b3 : List AV) (b6 : List AV) (hp : List AO) : Prop :=
 bv (ld 8 true b3 0) fun t67 =>
 ifT (okv 8 t67) <|
 bl (upd 0 (AV.cells t67) b6) fun b6_10 =>
 retQ R hp (Option.bind (ld 8 true b6_10 0) fun u11 => some [u11, v9])
def s98_0 (C : CallRel) (R : RP) (J1 : AV → AV → AV → AV → List AV → List AV → List AO → Prop) (v0 v1 v2 : AV) (hp : List AO) : Prop :=
 ifT (AV.mem v0) <|
 ifT (notLoc 3 v0 && (notLoc 3 v1 && (notLoc 3 v2 && true))) <|
 ifT (notLoc 6 v0 && (notLoc 6 v1 && (notLoc 6 v2 && true))) <|
 bv (abin .eql v1 (.int .i64 5)) fun t16 =>
 cnd t16 (bv (ld 8 true (AV.cells v0) 0) fun t17 =>
 callK C 101 [t17, v2] hp <| rx (pn R) fun t19 hp1 =>
 bv (extV 0 t19) fun t20 =>
 bv (extV 1 t19) fun t21 =>
 ifT (okv 8 t20) <|
 bl (upd 0 (AV.cells t20) ([.str [], .sl .cap0 3 [], .int .i64 0, .sl .cap0 9 [], .sl .cap0 9 [], .sl .cap0 6 [], .int .i64 0, .int .i64 0])) fun b6_1 =>
 retQ R hp1 (Option.bind (ld 8 true b6_1 0) fun u2 => some [u2, t21])) (bv (ld 8 true (AV.cells v0) 0) fun t22 =>
 callK C 54 [t22] hp <| rx (pn R) fun t23 hp2 =>
 bv (ld 8 true (AV.cells v0) 0) fun t25 =>
 bv (abin .add v1 (.int .i64 1)) fun t27 =>
 callK C 98 [t25, t27, v2] hp2 <| rx (pn R) fun t29 hp3 =>
 bv (extV 0 t29) fun t30 =>
 bv (extV 1 t29) fun t31 =>
 ifT (okv 8 t30) <|
 bl (upd 0 (AV.cells t30) (AV.cells v0)) fun b3_3 =>
 J1 v1 v2 t23 t31 b3_3 ([.str [], .sl .cap0 3 [], .int .i64 0, .sl .cap0 9 [], .sl .cap0 9 [], .sl .cap0 6 [], .int .i64 0, .int .i64 0]) hp3)
def s98 (C : CallRel) (R : RP) (v0 v1 v2 : AV) (hp : List AO) : Prop :=
 ∀ J1 : AV → AV → AV → AV → List AV → List AV → List AO → Prop,
 ∀ J2 : AV → List AV → List AV → List AO → Prop,
 (∀ v1 v2 v8 v9 b3 b6 hp, s98_1 C R J1 J2 v1 v2 v8 v9 b3 b6 hp → J1 v1 v2 v8 v9 b3 b6 hp) →
 (∀ v9 b3 b6 hp, s98_2 C R v9 b3 b6 hp → J2 v9 b3 b6 hp) →
 s98_0 C R J1 v0 v1 v2 hp
def q98_2 (C : CallRel) (R : RP) : APost := (resQ a98.res R)
def p98_2 (C : CallRel) (R : RP) : APost := seqQ (fun st => awp C j98_2 (q98_2 C R) (st.keep [3, 6, 9])) (q98_2 C R)
def J98_2 (C : CallRel) (R : RP) (v9 : AV) (b3 : List AV) (b6 : List AV) (hp : List AO) : Prop := awp C j98_2 (q98_2 C R) ⟨[(3, (.loc 3 0)), (6, (.loc 6 0)), (9, v9)], [(3, b3), (6, b6)], hp⟩
def p98_1 (C : CallRel) (R : RP) : APost := (blockQ 0 (p98_2 C R))
def J98_1 (C : CallRel) (R : RP) (v1 v2 v8 v9 : AV) (b3 : List AV) (b6 : List AV) (hp : List AO) : Prop := awp C (.loop [1, 2, 3, 6, 8, 9] j98_1) (p98_1 C R) ⟨[(1, v1), (2, v2), (3, (.loc 3 0)), (6, (.loc 6 0)), (8, v8), (9, v9)], [(3, b3), (6, b6)], hp⟩
theorem e98_1 {C : CallRel} {R : RP} {v1 v2 v8 v9 : AV} {b3 : List AV} {b6 : List AV} {hp : List AO} : s98_1 C R (J98_1 C R) (J98_2 C R) v1 v2 v8 v9 b3 b6 hp = xwp C x98_1 (seqQ (awp C (.loop [1, 2, 3, 6, 8, 9] j98_1) (p98_1 C R)) (p98_1 C R)) (St.keep ⟨[(1, v1), (2, v2), (3, (.loc 3 0)), (6, (.loc 6 0)), (8, v8), (9, v9)], [(3, b3), (6, b6)], hp⟩ [1, 2, 3, 6, 8, 9]) := by kernel_rfl
theorem e98_2 {C : CallRel} {R : RP} {v9 : AV} {b3 : List AV} {b6 : List AV} {hp : List AO} : s98_2 C R v9 b3 b6 hp = xwp C x98_2 (q98_2 C R) ⟨[(3, (.loc 3 0)), (6, (.loc 6 0)), (9, v9)], [(3, b3), (6, b6)], hp⟩ := by kernel_rfl
theorem e98_0 {C : CallRel} {R : RP} {v0 v1 v2 : AV} {hp : List AO} : s98_0 C R (J98_1 C R) v0 v1 v2 hp = xwp C x98_0 (resQ a98.res R) ⟨enum 0 [v0, v1, v2], [], hp⟩ := by kernel_rfl
theorem w98 {C : CallRel} {R : RP} {v0 v1 v2 : AV} {hp : List AO} (hC : CMono C) (h : s98 C R v0 v1 v2 hp) : awp C a98.body (resQ a98.res R) ⟨enum 0 [v0, v1, v2], [], hp⟩ :=
 cut_in hC e98_0 (h (J98_1 C R) (J98_2 C R)
 (fun _ _ _ _ _ _ _ h => cut_loop hC e98_1 h)
 (fun _ _ _ _ h => cut_in hC e98_2 h))
/-! ### 99 rewind/rewindref04.put -/
def s99_0 (C : CallRel) (R : RP) (v0 v1 v2 : AV) (hp : List AO) : Prop :=
 ifT (AV.mem v0) <|
 ifT (notLoc 3 v0 && (notLoc 3 v1 && (notLoc 3 v2 && true))) <|
 ifT (AV.mem v2) <|
 ifT (notLoc 5 v0 && (notLoc 5 v1 && (notLoc 5 v2 && true))) <|
 ifT (notLoc 6 v0 && (notLoc 6 v1 && (notLoc 6 v2 && true))) <|
 bv (ld 1 false (AV.cells v0) 6) fun t9 =>
 bv (abin .neq t9 (.int .i64 0)) fun t10 =>
 cnd t10 (bv (ld 8 true (AV.cells v0) 0) fun t11 =>
 ifT (okv 8 t11) <|
 bl (upd 0 (AV.cells t11) ([.str [], .sl .cap0 3 [], .int .i64 0, .sl .cap0 9 [], .sl .cap0 9 [], .sl .cap0 6 [], .int .i64 0, .int .i64 0])) fun b6_1 =>
 retQ R hp (Option.bind (ld 8 true b6_1 0) fun u2 => some [u2, (.int .i64 0)])) (bv (ld 1 false (AV.cells v0) 1) fun t14 =>
 bv (ld 1 false (AV.cells v0) 2) fun t16 =>
 bv (abin .sub t16 (.int .i64 1)) fun t17 =>
 bv (ixaV 3 t14 t17) fun t18 =>
 bv (faddV 1 t18) fun t19 =>
 bv (faddV 1 t19) fun t20 =>
 bv (ldH hp 1 false t20) fun t21 =>
 bv (bld [.int .i64 0, .int .i64 0] [(0, 1, v1), (1, 1, t21)]) fun t22 =>
 ifT (okv 2 t22) <|
 bl (upd 1 (AV.cells t22) (AV.cells v2)) fun b5_3 =>
 bv (ld 1 false (AV.cells v0) 3) fun t26 =>
 bv (ld 9 true b5_3 0) fun t27 =>
 bv (mkSlV 9 [t27]) fun t28 =>
 ba (apx false 9 hp t26 t28) fun t29 hp1 =>
 ifT (okv 1 t29) <|
 bl (upd 3 (AV.cells t29) (AV.cells v0)) fun b3_4 =>
 bv (ld 8 true b3_4 0) fun t32 =>
 bv (ld 1 false b3_4 3) fun t35 =>
 bv (lenV false t35) fun t36 =>
 bv (abin .sub t36 (.int .i64 1)) fun t37 =>
 ifT (okv 8 t32) <|
 bl (upd 0 (AV.cells t32) ([.str [], .sl .cap0 3 [], .int .i64 0, .sl .cap0 9 [], .sl .cap0 9 [], .sl .cap0 6 [], .int .i64 0, .int .i64 0])) fun b6_5 =>
 retQ R hp1 (Option.bind (ld 8 true b6_5 0) fun u6 => some [u6, t37]))
def s99 (C : CallRel) (R : RP) (v0 v1 v2 : AV) (hp : List AO) : Prop :=
 s99_0 C R v0 v1 v2 hp
theorem e99_0 {C : CallRel} {R : RP} {v0 v1 v2 : AV} {hp : List AO} : s99_0 C R v0 v1 v2 hp = xwp C x99_0 (resQ a99.res R) ⟨enum 0 [v0, v1, v2], [], hp⟩ := by kernel_rfl
theorem w99 {C : CallRel} {R : RP} {v0 v1 v2 : AV} {hp : List AO} (hC : CMono C) (h : s99 C R v0 v1 v2 hp) : awp C a99.body (resQ a99.res R) ⟨enum 0 [v0, v1, v2], [], hp⟩ :=
 cut_in hC e99_0 (h)
/-! ### 101 rewind/rewindref04.unary -/
def s101_0 (C : CallRel) (R : RP) (v0 v1 : AV) (hp : List AO) : Prop :=
 ifT (AV.mem v0) <|
 ifT (notLoc 2 v0 && (notLoc 2 v1 && true)) <|
 ifT (notLoc 4 v0 && (notLoc 4 v1 && true)) <|
 bv (ld 8 true (AV.cells v0) 0) fun t10 =>
 callK C 54 [t10] hp <| rx (pn R) fun t11 hp1 =>
 bv (ld 1 false (AV.cells v0) 6) fun t13 =>
 bv (abin .neq t13 (.int .i64 0)) fun t14 =>
 bv (gv (isB false t14) (ld 8 true (AV.cells v0) 0)) fun t16 =>
 gcal C (isB false t14) 55 [t16, (.str [45])] hp1 (pn R) fun t17 hp2 =>
 bv (gv (isB false t14) (aun .not t17)) fun t18 =>
 bv (gv (isB false t14) (some t18)) fun t19 =>
 bv (gv (isB true t19) (ld 8 true (AV.cells v0) 0)) fun t20 =>
 gcal C (isB true t19) 55 [t20, (.str [33])] hp2 (pn R) fun t21 hp3 =>
 bv (gv (isB true t19) (aun .not t21)) fun t22 =>
 bv (gv (isB false t14) (pickV t19 t22 (.bool false))) fun t23 =>
 bv (pickV t14 (.bool true) t23) fun t24 =>
 cnd t24 (bv (ld 8 true (AV.cells v0) 0) fun t25 =>
 callK C 103 [t25, v1] hp3 <| rx (pn R) fun t27 hp4 =>
 bv (extV 0 t27) fun t28 =>
 bv (extV 1 t27) fun t29 =>
 ifT (okv 8 t28) <|
 bl (upd 0 (AV.cells t28) ([.str [], .sl .cap0 3 [], .int .i64 0, .sl .cap0 9 [], .sl .cap0 9 [], .sl .cap0 6 [], .int .i64 0, .int .i64 0])) fun b4_1 =>
 retQ R hp4 (Option.bind (ld 8 true b4_1 0) fun u2 => some [u2, t29])) (bv (ld 8 true (AV.cells v0) 0) fun t30 =>
 callK C 73 [t30] hp3 <| rx (pn R) fun t31 hp5 =>
 bv (ld 1 false (AV.cells v0) 2) fun t33 =>
 bv (abin .add t33 (.int .i64 1)) fun t34 =>
 ifT (okv 1 t34) <|
 bl (upd 2 (AV.cells t34) (AV.cells v0)) fun b2_3 =>
 bv (ld 8 true b2_3 0) fun t36 =>
 bv (abin .add v1 (.int .i64 1)) fun t38 =>
 callK C 74 [t36, t38] hp5 <| rx (pn R) fun t39 hp6 =>
 ifT (okv 8 t39) <|
 bl (upd 0 (AV.cells t39) b2_3) fun b2_4 =>
 bv (ld 1 false b2_4 6) fun t41 =>
 bv (abin .neq t41 (.int .i64 0)) fun t42 =>
 cnd t42 (bv (ld 8 true b2_4 0) fun t43 =>
 ifT (okv 8 t43) <|
 bl (upd 0 (AV.cells t43) ([.str [], .sl .cap0 3 [], .int .i64 0, .sl .cap0 9 [], .sl .cap0 9 [], .sl .cap0 6 [], .int .i64 0, .int .i64 0])) fun b4_5 =>
 retQ R hp6 (Option.bind (ld 8 true b4_5 0) fun u6 => some [u6, (.int .i64 0)])) (bv (ld 8 true b2_4 0) fun t45 =>
 bv (abin .add v1 (.int .i64 1)) fun t47 =>
 callK C 101 [t45, t47] hp6 <| rx (pn R) fun t48 hp7 =>
 bv (extV 0 t48) fun t49 =>
 bv (extV 1 t48) fun t50 =>
 ifT (notLoc 8 v1 && (notLoc 8 t11 && (notLoc 8 t31 && (notLoc 8 t42 && (notLoc 8 t48 && (notLoc 8 t45 && (notLoc 8 v1 && (notLoc 8 t47 && (notLoc 8 t48 && (notLoc 8 t49 && (notLoc 8 t50 && true))))))))))) <|
 ifT (okv 8 t49) <|
 bl (upd 0 (AV.cells t49) ([.str [], .sl .cap0 3 [], .int .i64 0, .sl .cap0 9 [], .sl .cap0 9 [], .sl .cap0 6 [], .int .i64 0, .int .i64 0])) fun b8_7 =>
 bv (ld 8 true b8_7 0) fun t51 =>
 bv (bld [.int .i64 0, .int .i64 0, .int .i64 0, .int .i64 0, .str [], .str [], .int .i64 0, .int .i64 0, .sl .cap0 1 []] [(0, 1, (.int .i64 8)), (5, 1, t31), (6, 1, t50)]) fun t55 =>
 callK C 99 [t51, t11, t55] hp7 <| rx (pn R) fun t56 hp8 =>
 bv (extV 0 t56) fun t57 =>
 bv (extV 1 t56) fun t58 =>
 ifT (okv 8 t57) <|
 bl (upd 0 (AV.cells t57) ([.str [], .sl .cap0 3 [], .int .i64 0, .sl .cap0 9 [], .sl .cap0 9 [], .sl .cap0 6 [], .int .i64 0, .int .i64 0])) fun b4_8 =>
 retQ R hp8 (Option.bind (ld 8 true b4_8 0) fun u9 => some [u9, t58])))
def s101 (C : CallRel) (R : RP) (v0 v1 : AV) (hp : List AO) : Prop :=
 s101_0 C R v0 v1 hp
theorem e101_0 {C : CallRel} {R : RP} {v0 v1 : AV} {hp : List AO} : s101_0 C R v0 v1 hp = xwp C x101_0 (resQ a101.res R) ⟨enum 0 [v0, v1], [], hp⟩ := by kernel_rfl
theorem w101 {C : CallRel} {R : RP} {v0 v1 : AV} {hp : List AO} (hC : CMono C) (h : s101 C R v0 v1 hp) : awp C a101.body (resQ a101.res R) ⟨enum 0 [v0, v1], [], hp⟩ :=
 cut_in hC e101_0 (h)
/-! ### 102 rewind/rewindref04.sign -/
def s102_1 (C : CallRel) (R : RP) (J1 : AV → AV → AV → List AV → List AO → Prop) (J2 : List AO → Prop) (v5 v10 v11 : AV) (b2 : List AV) (hp : List AO) : Prop :=
 bv (abin .lss v11 v10) fun t12 =>
 cnd t12 (bv (ld 8 true b2 0) fun t14 =>
 bv (ixaV 1 v5 v11) fun t17 =>
 bv (ldE 1 false t17) fun t18 =>
 callK C 55 [t14, t18] hp <| rx (pn R) fun t19 hp2 =>
 cnd t19 (bv (ixaV 1 v5 v11) fun t22 =>
 bv (ldH hp2 1 false t22) fun t23 =>
 retQ R hp2 (some [t23])) (bv (abin .add v11 (.int .i64 1)) fun t24 =>
 J1 v5 v10 t24 b2 hp2)) (J2 hp)
def s102_2 (C : CallRel) (R : RP) (hp : List AO) : Prop :=
 retQ R hp (some [(.str [])])
def s102_0 (C : CallRel) (R : RP) (J1 : AV → AV → AV → List AV → List AO → Prop) (v0 v1 : AV) (hp : List AO) : Prop :=
 ifT (AV.mem v0) <|
 ifT (notLoc 2 v0 && (notLoc 2 v1 && true)) <|
 callK C 104 [v1] hp <| rx (pn R) fun t8 hp1 =>
 bv (lenV false t8) fun t10 =>
 J1 t8 t10 (.int .i64 0) (AV.cells v0) hp1
def s102 (C : CallRel) (R : RP) (v0 v1 : AV) (hp : List AO) : Prop :=
 ∀ J1 : AV → AV → AV → List AV → List AO → Prop,
 ∀ J2 : List AO → Prop,
 (∀ v5 v10 v11 b2 hp, s102_1 C R J1 J2 v5 v10 v11 b2 hp → J1 v5 v10 v11 b2 hp) →
 (∀ hp, s102_2 C R hp → J2 hp) →
 s102_0 C R J1 v0 v1 hp
def q102_2 (C : CallRel) (R : RP) : APost := (resQ a102.res R)
def p102_2 (C : CallRel) (R : RP) : APost := seqQ (fun st => awp C j102_2 (q102_2 C R) (st.keep [])) (q102_2 C R)
def J102_2 (C : CallRel) (R : RP) (hp : List AO) : Prop := awp C j102_2 (q102_2 C R) ⟨[], [], hp⟩
def p102_1 (C : CallRel) (R : RP) : APost := (blockQ 0 (p102_2 C R))
def J102_1 (C : CallRel) (R : RP) (v5 v10 v11 : AV) (b2 : List AV) (hp : List AO) : Prop := awp C (.loop [2, 5, 10, 11] j102_1) (p102_1 C R) ⟨[(2, (.loc 2 0)), (5, v5), (10, v10), (11, v11)], [(2, b2)], hp⟩
theorem e102_1 {C : CallRel} {R : RP} {v5 v10 v11 : AV} {b2 : List AV} {hp : List AO} : s102_1 C R (J102_1 C R) (J102_2 C R) v5 v10 v11 b2 hp = xwp C x102_1 (seqQ (awp C (.loop [2, 5, 10, 11] j102_1) (p102_1 C R)) (p102_1 C R)) (St.keep ⟨[(2, (.loc 2 0)), (5, v5), (10, v10), (11, v11)], [(2, b2)], hp⟩ [2, 5, 10, 11]) := by kernel_rfl
theorem e102_2 {C : CallRel} {R : RP} {hp : List AO} : s102_2 C R hp = xwp C x102_2 (q102_2 C R) ⟨[], [], hp⟩ := by kernel_rfl
theorem e102_0 {C : CallRel} {R : RP} {v0 v1 : AV} {hp : List AO} : s102_0 C R (J102_1 C R) v0 v1 hp = xwp C x102_0 (resQ a102.res R) ⟨enum 0 [v0, v1], [], hp⟩ := by kernel_rfl
theorem w102 {C : CallRel} {R : RP} {v0 v1 : AV} {hp : List AO} (hC : CMono C) (h : s102 C R v0 v1 hp) : awp C a102.body (resQ a102.res R) ⟨enum 0 [v0, v1], [], hp⟩ :=
 cut_in hC e102_0 (h (J102_1 C R) (J102_2 C R)
 (fun _ _ _ _ _ h => cut_loop hC e102_1 h)
 (fun _ h => cut_in hC e102_2 h))
end Go.Proofs.Ytnldohnfdeineaa.Abs
/- The functions as formulas, printed by a program; each suffices for its code. -/
namespace Go.Proofs.Ytnldohnfdeineaa.Abs
open Go
set_option maxRecDepth 100000
/-! ### 103 rewind/rewindref04.primary -/
def s103_0 (C : CallRel) (R : RP) (v0 v1 : AV) (hp : List AO) : Prop :=
 ifT (AV.mem v0) <|
 ifT (notLoc 2 v0 && (notLoc 2 v1 && true)) <|
 ifT (notLoc 4 v0 && (notLoc 4 v1 && true)) <|
 bv (ld 1 false (AV.cells v0) 6) fun t16 =>
 bv (abin .neq t16 (.int .i64 0)) fun t17 =>
 cnd t17 (bv (ld 8 true (AV.cells v0) 0) fun t18 =>
 ifT (okv 8 t18) <|
 bl (upd 0 (AV.cells t18) ([.str [], .sl .cap0 3 [], .int .i64 0, .sl .cap0 9 [], .sl .cap0 9 [], .sl .cap0 6 [], .int .i64 0, .int .i64 0])) fun b4_1 =>
 retQ R hp (Option.bind (ld 8 true b4_1 0) fun u2 => some [u2, (.int .i64 0)])) (bv (ld 8 true (AV.cells v0) 0) fun t19 =>
 callK C 54 [t19] hp <| rx (pn R) fun t20 hp1 =>
 bv (ld 1 false (AV.cells v0) 1) fun t22 =>
 bv (ld 1 false (AV.cells v0) 2) fun t24 =>
 bv (ixaV 3 t22 t24) fun t25 =>
 bv (faddV 0 t25) fun t26 =>
 bv (ldH hp1 1 false t26) fun t27 =>
 bv (abin .eql t27 (.int .i64 2)) fun t28 =>
 cnd t28 (bv (ld 8 true (AV.cells v0) 0) fun t30 =>
 callK C 57 [t30, (.int .i64 2)] hp1 <| rx (pn R) fun t31 hp2 =>
 bv (extV 0 t31) fun t32 =>
 bv (extV 1 t31) fun t33 =>
 ifT (notLoc 7 v1 && (notLoc 7 t20 && (notLoc 7 t28 && (notLoc 7 t31 && (notLoc 7 t30 && (notLoc 7 t31 && (notLoc 7 t32 && (notLoc 7 t33 && true)))))))) <|
 ifT (okv 8 t32) <|
 bl (upd 0 (AV.cells t32) ([.str [], .sl .cap0 3 [], .int .i64 0, .sl .cap0 9 [], .sl .cap0 9 [], .sl .cap0 6 [], .int .i64 0, .int .i64 0])) fun b7_3 =>
 bv (ld 8 true b7_3 0) fun t34 =>
 callK C 91 [t33] hp2 <| rx (pn R) fun t37 hp3 =>
 bv (bld [.int .i64 0, .int .i64 0, .int .i64 0, .int .i64 0, .str [], .str [], .int .i64 0, .int .i64 0, .sl .cap0 1 []] [(0, 1, (.int .i64 1)), (3, 1, t37)]) fun t38 =>
 callK C 99 [t34, t20, t38] hp3 <| rx (pn R) fun t39 hp4 =>
 bv (extV 0 t39) fun t40 =>
 bv (extV 1 t39) fun t41 =>
 ifT (okv 8 t40) <|
 bl (upd 0 (AV.cells t40) ([.str [], .sl .cap0 3 [], .int .i64 0, .sl .cap0 9 [], .sl .cap0 9 [], .sl .cap0 6 [], .int .i64 0, .int .i64 0])) fun b4_4 =>
 retQ R hp4 (Option.bind (ld 8 true b4_4 0) fun u5 => some [u5, t41])) (bv (ld 8 true (AV.cells v0) 0) fun t42 =>
 callK C 55 [t42, (.str [116, 114, 117, 101])] hp1 <| rx (pn R) fun t43 hp5 =>
 cnd t43 (bv (ld 8 true (AV.cells v0) 0) fun t44 =>
 callK C 58 [t44, (.str [116, 114, 117, 101])] hp5 <| rx (pn R) fun t45 hp6 =>
 bv (bld [.int .i64 0, .int .i64 0, .int .i64 0, .int .i64 0, .str [], .str [], .int .i64 0, .int .i64 0, .sl .cap0 1 []] [(0, 1, (.int .i64 2))]) fun t47 =>
 callK C 99 [t45, t20, t47] hp6 <| rx (pn R) fun t48 hp7 =>
 bv (extV 0 t48) fun t49 =>
 bv (extV 1 t48) fun t50 =>
 ifT (okv 8 t49) <|
 bl (upd 0 (AV.cells t49) ([.str [], .sl .cap0 3 [], .int .i64 0, .sl .cap0 9 [], .sl .cap0 9 [], .sl .cap0 6 [], .int .i64 0, .int .i64 0])) fun b4_6 =>
 retQ R hp7 (Option.bind (ld 8 true b4_6 0) fun u7 => some [u7, t50])) (bv (ld 8 true (AV.cells v0) 0) fun t51 =>
 callK C 55 [t51, (.str [102, 97, 108, 115, 101])] hp5 <| rx (pn R) fun t52 hp8 =>
 cnd t52 (bv (ld 8 true (AV.cells v0) 0) fun t53 =>
 callK C 58 [t53, (.str [102, 97, 108, 115, 101])] hp8 <| rx (pn R) fun t54 hp9 =>
 bv (bld [.int .i64 0, .int .i64 0, .int .i64 0, .int .i64 0, .str [], .str [], .int .i64 0, .int .i64 0, .sl .cap0 1 []] [(0, 1, (.int .i64 3))]) fun t56 =>
 callK C 99 [t54, t20, t56] hp9 <| rx (pn R) fun t57 hp10 =>
 bv (extV 0 t57) fun t58 =>
 bv (extV 1 t57) fun t59 =>
 ifT (okv 8 t58) <|
 bl (upd 0 (AV.cells t58) ([.str [], .sl .cap0 3 [], .int .i64 0, .sl .cap0 9 [], .sl .cap0 9 [], .sl .cap0 6 [], .int .i64 0, .int .i64 0])) fun b4_8 =>
 retQ R hp10 (Option.bind (ld 8 true b4_8 0) fun u9 => some [u9, t59])) (bv (ld 8 true (AV.cells v0) 0) fun t60 =>
 callK C 55 [t60, (.str [114, 101, 97, 100])] hp8 <| rx (pn R) fun t61 hp11 =>
 cnd t61 (bv (ld 8 true (AV.cells v0) 0) fun t62 =>
 callK C 58 [t62, (.str [114, 101, 97, 100])] hp11 <| rx (pn R) fun t63 hp12 =>
 bv (bld [.int .i64 0, .int .i64 0, .int .i64 0, .int .i64 0, .str [], .str [], .int .i64 0, .int .i64 0, .sl .cap0 1 []] [(0, 1, (.int .i64 7))]) fun t65 =>
 callK C 99 [t63, t20, t65] hp12 <| rx (pn R) fun t66 hp13 =>
 bv (extV 0 t66) fun t67 =>
 bv (extV 1 t66) fun t68 =>
 ifT (okv 8 t67) <|
 bl (upd 0 (AV.cells t67) ([.str [], .sl .cap0 3 [], .int .i64 0, .sl .cap0 9 [], .sl .cap0 9 [], .sl .cap0 6 [], .int .i64 0, .int .i64 0])) fun b4_10 =>
 retQ R hp13 (Option.bind (ld 8 true b4_10 0) fun u11 => some [u11, t68])) (bv (ld 8 true (AV.cells v0) 0) fun t69 =>
 callK C 55 [t69, (.str [40])] hp11 <| rx (pn R) fun t70 hp14 =>
 cnd t70 (bv (ld 8 true (AV.cells v0) 0) fun t72 =>
 callK C 58 [t72, (.str [40])] hp14 <| rx (pn R) fun t73 hp15 =>
 bv (abin .add v1 (.int .i64 1)) fun t75 =>
 callK C 89 [t73, t75] hp15 <| rx (pn R) fun t76 hp16 =>
 bv (extV 0 t76) fun t77 =>
 bv (extV 1 t76) fun t78 =>
 ifT (notLoc 9 v1 && (notLoc 9 t20 && (notLoc 9 t70 && (notLoc 9 t76 && (notLoc 9 t72 && (notLoc 9 t73 && (notLoc 9 v1 && (notLoc 9 t75 && (notLoc 9 t76 && (notLoc 9 t77 && (notLoc 9 t78 && true))))))))))) <|
 ifT (okv 8 t77) <|
 bl (upd 0 (AV.cells t77) ([.str [], .sl .cap0 3 [], .int .i64 0, .sl .cap0 9 [], .sl .cap0 9 [], .sl .cap0 6 [], .int .i64 0, .int .i64 0])) fun b9_12 =>
 bv (ld 8 true b9_12 0) fun t79 =>
 callK C 58 [t79, (.str [41])] hp16 <| rx (pn R) fun t80 hp17 =>
 ifT (okv 8 t80) <|
 bl (upd 0 (AV.cells t80) ([.str [], .sl .cap0 3 [], .int .i64 0, .sl .cap0 9 [], .sl .cap0 9 [], .sl .cap0 6 [], .int .i64 0, .int .i64 0])) fun b4_13 =>
 retQ R hp17 (Option.bind (ld 8 true b4_13 0) fun u14 => some [u14, t78])) (bv (ld 8 true (AV.cells v0) 0) fun t83 =>
 callK C 57 [t83, (.int .i64 1)] hp14 <| rx (pn R) fun t84 hp18 =>
 bv (extV 0 t84) fun t85 =>
 bv (extV 1 t84) fun t86 =>
 ifT (notLoc 11 v1 && (notLoc 11 t20 && (notLoc 11 t70 && (notLoc 11 t84 && (notLoc 11 t83 && (notLoc 11 t84 && (notLoc 11 t85 && (notLoc 11 t86 && true)))))))) <|
 ifT (okv 8 t85) <|
 bl (upd 0 (AV.cells t85) ([.str [], .sl .cap0 3 [], .int .i64 0, .sl .cap0 9 [], .sl .cap0 9 [], .sl .cap0 6 [], .int .i64 0, .int .i64 0])) fun b11_15 =>
 bv (ld 8 true b11_15 0) fun t87 =>
 callK C 55 [t87, (.str [91])] hp18 <| rx (pn R) fun t88 hp19 =>
 cnd t88 (bv (ld 8 true b11_15 0) fun t90 =>
 callK C 58 [t90, (.str [91])] hp19 <| rx (pn R) fun t91 hp20 =>
 bv (abin .add v1 (.int .i64 1)) fun t93 =>
 callK C 89 [t91, t93] hp20 <| rx (pn R) fun t94 hp21 =>
 bv (extV 0 t94) fun t95 =>
 bv (extV 1 t94) fun t96 =>
 ifT (notLoc 13 v1 && (notLoc 13 t20 && (notLoc 13 t86 && (notLoc 13 t88 && (notLoc 13 t94 && (notLoc 13 t90 && (notLoc 13 t91 && (notLoc 13 v1 && (notLoc 13 t93 && (notLoc 13 t94 && (notLoc 13 t95 && (notLoc 13 t96 && true)))))))))))) <|
 ifT (okv 8 t95) <|
 bl (upd 0 (AV.cells t95) ([.str [], .sl .cap0 3 [], .int .i64 0, .sl .cap0 9 [], .sl .cap0 9 [], .sl .cap0 6 [], .int .i64 0, .int .i64 0])) fun b13_16 =>
 bv (ld 8 true b13_16 0) fun t97 =>
 callK C 58 [t97, (.str [93])] hp21 <| rx (pn R) fun t98 hp22 =>
 bv (bld [.int .i64 0, .int .i64 0, .int .i64 0, .int .i64 0, .str [], .str [], .int .i64 0, .int .i64 0, .sl .cap0 1 []] [(0, 1, (.int .i64 5)), (4, 1, t86), (6, 1, t96)]) fun t102 =>
 callK C 99 [t98, t20, t102] hp22 <| rx (pn R) fun t103 hp23 =>
 bv (extV 0 t103) fun t104 =>
 bv (extV 1 t103) fun t105 =>
 ifT (okv 8 t104) <|
 bl (upd 0 (AV.cells t104) ([.str [], .sl .cap0 3 [], .int .i64 0, .sl .cap0 9 [], .sl .cap0 9 [], .sl .cap0 6 [], .int .i64 0, .int .i64 0])) fun b4_17 =>
 retQ R hp23 (Option.bind (ld 8 true b4_17 0) fun u18 => some [u18, t105])) (bv (ld 8 true b11_15 0) fun t106 =>
 callK C 55 [t106, (.str [40])] hp19 <| rx (pn R) fun t107 hp24 =>
 cnd t107 (bv (ld 8 true b11_15 0) fun t108 =>
 callK C 92 [t108, t20, t86, v1] hp24 <| rx (pn R) fun t112 hp25 =>
 bv (extV 0 t112) fun t113 =>
 bv (extV 1 t112) fun t114 =>
 ifT (okv 8 t113) <|
 bl (upd 0 (AV.cells t113) ([.str [], .sl .cap0 3 [], .int .i64 0, .sl .cap0 9 [], .sl .cap0 9 [], .sl .cap0 6 [], .int .i64 0, .int .i64 0])) fun b4_19 =>
 retQ R hp25 (Option.bind (ld 8 true b4_19 0) fun u20 => some [u20, t114])) (bv (ld 8 true b11_15 0) fun t115 =>
 bv (bld [.int .i64 0, .int .i64 0, .int .i64 0, .int .i64 0, .str [], .str [], .int .i64 0, .int .i64 0, .sl .cap0 1 []] [(0, 1, (.int .i64 4)), (4, 1, t86)]) fun t118 =>
 callK C 99 [t115, t20, t118] hp24 <| rx (pn R) fun t119 hp26 =>
 bv (extV 0 t119) fun t120 =>
 bv (extV 1 t119) fun t121 =>
 ifT (okv 8 t120) <|
 bl (upd 0 (AV.cells t120) ([.str [], .sl .cap0 3 [], .int .i64 0, .sl .cap0 9 [], .sl .cap0 9 [], .sl .cap0 6 [], .int .i64 0, .int .i64 0])) fun b4_21 =>
 retQ R hp26 (Option.bind (ld 8 true b4_21 0) fun u22 => some [u22, t121])))))))))
def s103 (C : CallRel) (R : RP) (v0 v1 : AV) (hp : List AO) : Prop :=
 s103_0 C R v0 v1 hp
theorem e103_0 {C : CallRel} {R : RP} {v0 v1 : AV} {hp : List AO} : s103_0 C R v0 v1 hp = xwp C x103_0 (resQ a103.res R) ⟨enum 0 [v0, v1], [], hp⟩ := by kernel_rfl
theorem w103 {C : CallRel} {R : RP} {v0 v1 : AV} {hp : List AO} (hC : CMono C) (h : s103 C R v0 v1 hp) : awp C a103.body (resQ a103.res R) ⟨enum 0 [v0, v1], [], hp⟩ :=
 cut_in hC e103_0 (h)
/-! ### 104 rewind/rewindref04.signs -/
def s104_0 (C : CallRel) (R : RP) (v0 : AV) (hp : List AO) : Prop :=
 bv (abin .eql v0 (.int .i64 0)) fun t5 =>
 cnd t5 (bv (mkSlV 1 [(.str [124, 124])]) fun t6 =>
 retQ R hp (some [t6])) (bv (abin .eql v0 (.int .i64 1)) fun t8 =>
 cnd t8 (bv (mkSlV 1 [(.str [38, 38])]) fun t9 =>
 retQ R hp (some [t9])) (bv (abin .eql v0 (.int .i64 2)) fun t11 =>
 cnd t11 (bv (mkSlV 1 [(.str [61, 61]), (.str [33, 61]), (.str [60]), (.str [60, 61]), (.str [62]), (.str [62, 61])]) fun t12 =>
 retQ R hp (some [t12])) (bv (abin .eql v0 (.int .i64 3)) fun t14 =>
 cnd t14 (bv (mkSlV 1 [(.str [43]), (.str [45])]) fun t15 =>
 retQ R hp (some [t15])) (bv (mkSlV 1 [(.str [42]), (.str [47]), (.str [37])]) fun t16 =>
 retQ R hp (some [t16])))))
def s104 (C : CallRel) (R : RP) (v0 : AV) (hp : List AO) : Prop :=
 s104_0 C R v0 hp
theorem e104_0 {C : CallRel} {R : RP} {v0 : AV} {hp : List AO} : s104_0 C R v0 hp = xwp C x104_0 (resQ a104.res R) ⟨enum 0 [v0], [], hp⟩ := by kernel_rfl
theorem w104 {C : CallRel} {R : RP} {v0 : AV} {hp : List AO} (hC : CMono C) (h : s104 C R v0 hp) : awp C a104.body (resQ a104.res R) ⟨enum 0 [v0], [], hp⟩ :=
 cut_in hC e104_0 (h)
end Go.Proofs.Ytnldohnfdeineaa.Abs
/- Contracts out of formulas. -/
namespace Go.Proofs.Ytnldohnfdeineaa.Abs
open Go
set_option maxRecDepth 100000
abbrev CC : CallRel := Runs (tab tl)
theorem c9 {Q : ARes → List AO → Prop} {v0 : AV} {hp : List AO} (h : s9 CC Q v0 hp) : CC 9 [v0] hp Q := Runs.intro (show tab tl 9 = some a9 by kernel_rfl) (w9 Runs.mono h)
theorem c15 {Q : ARes → List AO → Prop} {v0 : AV} {hp : List AO} (h : s15 CC Q v0 hp) : CC 15 [v0] hp Q := Runs.intro (show tab tl 15 = some a15 by kernel_rfl) (w15 Runs.mono h)
theorem c22 {Q : ARes → List AO → Prop} {v0 : AV} {hp : List AO} (h : s22 CC Q v0 hp) : CC 22 [v0] hp Q := Runs.intro (show tab tl 22 = some a22 by kernel_rfl) (w22 Runs.mono h)
theorem c23 {Q : ARes → List AO → Prop} {v0 : AV} {hp : List AO} (h : s23 CC Q v0 hp) : CC 23 [v0] hp Q := Runs.intro (show tab tl 23 = some a23 by kernel_rfl) (w23 Runs.mono h)
theorem c24 {Q : ARes → List AO → Prop} {v0 v1 v2 : AV} {hp : List AO} (h : s24 CC Q v0 v1 v2 hp) : CC 24 [v0, v1, v2] hp Q := Runs.intro (show tab tl 24 = some a24 by kernel_rfl) (w24 Runs.mono h)
theorem c31 {Q : ARes → List AO → Prop} {v0 : AV} {hp : List AO} (h : s31 CC Q v0 hp) : CC 31 [v0] hp Q := Runs.intro (show tab tl 31 = some a31 by kernel_rfl) (w31 Runs.mono h)
theorem c32 {Q : ARes → List AO → Prop} {v0 : AV} {hp : List AO} (h : s32 CC Q v0 hp) : CC 32 [v0] hp Q := Runs.intro (show tab tl 32 = some a32 by kernel_rfl) (w32 Runs.mono h)
theorem c35 {Q : ARes → List AO → Prop} {v0 v1 v2 : AV} {hp : List AO} (h : s35 CC Q v0 v1 v2 hp) : CC 35 [v0, v1, v2] hp Q := Runs.intro (show tab tl 35 = some a35 by kernel_rfl) (w35 Runs.mono h)
theorem c36 {Q : ARes → List AO → Prop} {v0 v1 v2 v3 v4 : AV} {hp : List AO} (h : s36 CC Q v0 v1 v2 v3 v4 hp) : CC 36 [v0, v1, v2, v3, v4] hp Q := Runs.intro (show tab tl 36 = some a36 by kernel_rfl) (w36 Runs.mono h)
theorem c40 {Q : ARes → List AO → Prop} {v0 v1 v2 v3 v4 : AV} {hp : List AO} (h : s40 CC Q v0 v1 v2 v3 v4 hp) : CC 40 [v0, v1, v2, v3, v4] hp Q := Runs.intro (show tab tl 40 = some a40 by kernel_rfl) (w40 Runs.mono h)
theorem c43 {Q : ARes → List AO → Prop} {v0 : AV} {hp : List AO} (h : s43 CC Q v0 hp) : CC 43 [v0] hp Q := Runs.intro (show tab tl 43 = some a43 by kernel_rfl) (w43 Runs.mono h)
theorem c44 {Q : ARes → List AO → Prop} {v0 : AV} {hp : List AO} (h : s44 CC Q v0 hp) : CC 44 [v0] hp Q := Runs.intro (show tab tl 44 = some a44 by kernel_rfl) (w44 Runs.mono h)
theorem c45 {Q : ARes → List AO → Prop} {v0 v1 v2 v3 : AV} {hp : List AO} (h : s45 CC Q v0 v1 v2 v3 hp) : CC 45 [v0, v1, v2, v3] hp Q := Runs.intro (show tab tl 45 = some a45 by kernel_rfl) (w45 Runs.mono h)
theorem c46 {Q : ARes → List AO → Prop} {v0 v1 v2 v3 : AV} {hp : List AO} (h : s46 CC Q v0 v1 v2 v3 hp) : CC 46 [v0, v1, v2, v3] hp Q := Runs.intro (show tab tl 46 = some a46 by kernel_rfl) (w46 Runs.mono h)
theorem c47 {Q : ARes → List AO → Prop} {v0 v1 : AV} {hp : List AO} (h : s47 CC Q v0 v1 hp) : CC 47 [v0, v1] hp Q := Runs.intro (show tab tl 47 = some a47 by kernel_rfl) (w47 Runs.mono h)
theorem c53 {Q : ARes → List AO → Prop} {v0 v1 : AV} {hp : List AO} (h : s53 CC Q v0 v1 hp) : CC 53 [v0, v1] hp Q := Runs.intro (show tab tl 53 = some a53 by kernel_rfl) (w53 Runs.mono h)
theorem c54 {Q : ARes → List AO → Prop} {v0 : AV} {hp : List AO} (h : s54 CC Q v0 hp) : CC 54 [v0] hp Q := Runs.intro (show tab tl 54 = some a54 by kernel_rfl) (w54 Runs.mono h)
theorem c55 {Q : ARes → List AO → Prop} {v0 v1 : AV} {hp : List AO} (h : s55 CC Q v0 v1 hp) : CC 55 [v0, v1] hp Q := Runs.intro (show tab tl 55 = some a55 by kernel_rfl) (w55 Runs.mono h)
theorem c56 {Q : ARes → List AO → Prop} {v0 v1 : AV} {hp : List AO} (h : s56 CC Q v0 v1 hp) : CC 56 [v0, v1] hp Q := Runs.intro (show tab tl 56 = some a56 by kernel_rfl) (w56 Runs.mono h)
theorem c57 {Q : ARes → List AO → Prop} {v0 v1 : AV} {hp : List AO} (h : s57 CC Q v0 v1 hp) : CC 57 [v0, v1] hp Q := Runs.intro (show tab tl 57 = some a57 by kernel_rfl) (w57 Runs.mono h)
theorem c58 {Q : ARes → List AO → Prop} {v0 v1 : AV} {hp : List AO} (h : s58 CC Q v0 v1 hp) : CC 58 [v0, v1] hp Q := Runs.intro (show tab tl 58 = some a58 by kernel_rfl) (w58 Runs.mono h)
theorem c59 {Q : ARes → List AO → Prop} {v0 v1 : AV} {hp : List AO} (h : s59 CC Q v0 v1 hp) : CC 59 [v0, v1] hp Q := Runs.intro (show tab tl 59 = some a59 by kernel_rfl) (w59 Runs.mono h)
theorem c60 {Q : ARes → List AO → Prop} {v0 v1 : AV} {hp : List AO} (h : s60 CC Q v0 v1 hp) : CC 60 [v0, v1] hp Q := Runs.intro (show tab tl 60 = some a60 by kernel_rfl) (w60 Runs.mono h)
theorem c61 {Q : ARes → List AO → Prop} {v0 v1 v2 v3 : AV} {hp : List AO} (h : s61 CC Q v0 v1 v2 v3 hp) : CC 61 [v0, v1, v2, v3] hp Q := Runs.intro (show tab tl 61 = some a61 by kernel_rfl) (w61 Runs.mono h)
theorem c62 {Q : ARes → List AO → Prop} {v0 v1 : AV} {hp : List AO} (h : s62 CC Q v0 v1 hp) : CC 62 [v0, v1] hp Q := Runs.intro (show tab tl 62 = some a62 by kernel_rfl) (w62 Runs.mono h)
theorem c63 {Q : ARes → List AO → Prop} {v0 v1 : AV} {hp : List AO} (h : s63 CC Q v0 v1 hp) : CC 63 [v0, v1] hp Q := Runs.intro (show tab tl 63 = some a63 by kernel_rfl) (w63 Runs.mono h)
theorem c68 {Q : ARes → List AO → Prop} {v0 v1 : AV} {hp : List AO} (h : s68 CC Q v0 v1 hp) : CC 68 [v0, v1] hp Q := Runs.intro (show tab tl 68 = some a68 by kernel_rfl) (w68 Runs.mono h)
theorem c69 {Q : ARes → List AO → Prop} {v0 : AV} {hp : List AO} (h : s69 CC Q v0 hp) : CC 69 [v0] hp Q := Runs.intro (show tab tl 69 = some a69 by kernel_rfl) (w69 Runs.mono h)
theorem c70 {Q : ARes → List AO → Prop} {v0 : AV} {hp : List AO} (h : s70 CC Q v0 hp) : CC 70 [v0] hp Q := Runs.intro (show tab tl 70 = some a70 by kernel_rfl) (w70 Runs.mono h)
theorem c71 {Q : ARes → List AO → Prop} {v0 v1 : AV} {hp : List AO} (h : s71 CC Q v0 v1 hp) : CC 71 [v0, v1] hp Q := Runs.intro (show tab tl 71 = some a71 by kernel_rfl) (w71 Runs.mono h)
theorem c72 {Q : ARes → List AO → Prop} {hp : List AO} (h : s72 CC Q  hp) : CC 72 [] hp Q := Runs.intro (show tab tl 72 = some a72 by kernel_rfl) (w72 Runs.mono h)
theorem c73 {Q : ARes → List AO → Prop} {v0 : AV} {hp : List AO} (h : s73 CC Q v0 hp) : CC 73 [v0] hp Q := Runs.intro (show tab tl 73 = some a73 by kernel_rfl) (w73 Runs.mono h)
theorem c74 {Q : ARes → List AO → Prop} {v0 v1 : AV} {hp : List AO} (h : s74 CC Q v0 v1 hp) : CC 74 [v0, v1] hp Q := Runs.intro (show tab tl 74 = some a74 by kernel_rfl) (w74 Runs.mono h)
theorem c75 {Q : ARes → List AO → Prop} {v0 v1 : AV} {hp : List AO} (h : s75 CC Q v0 v1 hp) : CC 75 [v0, v1] hp Q := Runs.intro (show tab tl 75 = some a75 by kernel_rfl) (w75 Runs.mono h)
theorem c76 {Q : ARes → List AO → Prop} {v0 v1 : AV} {hp : List AO} (h : s76 CC Q v0 v1 hp) : CC 76 [v0, v1] hp Q := Runs.intro (show tab tl 76 = some a76 by kernel_rfl) (w76 Runs.mono h)
theorem c88 {Q : ARes → List AO → Prop} {v0 v1 v2 : AV} {hp : List AO} (h : s88 CC Q v0 v1 v2 hp) : CC 88 [v0, v1, v2] hp Q := Runs.intro (show tab tl 88 = some a88 by kernel_rfl) (w88 Runs.mono h)
theorem c89 {Q : ARes → List AO → Prop} {v0 v1 : AV} {hp : List AO} (h : s89 CC Q v0 v1 hp) : CC 89 [v0, v1] hp Q := Runs.intro (show tab tl 89 = some a89 by kernel_rfl) (w89 Runs.mono h)
theorem c90 {Q : ARes → List AO → Prop} {v0 v1 v2 : AV} {hp : List AO} (h : s90 CC Q v0 v1 v2 hp) : CC 90 [v0, v1, v2] hp Q := Runs.intro (show tab tl 90 = some a90 by kernel_rfl) (w90 Runs.mono h)
theorem c91 {Q : ARes → List AO → Prop} {v0 : AV} {hp : List AO} (h : s91 CC Q v0 hp) : CC 91 [v0] hp Q := Runs.intro (show tab tl 91 = some a91 by kernel_rfl) (w91 Runs.mono h)
theorem c92 {Q : ARes → List AO → Prop} {v0 v1 v2 v3 : AV} {hp : List AO} (h : s92 CC Q v0 v1 v2 v3 hp) : CC 92 [v0, v1, v2, v3] hp Q := Runs.intro (show tab tl 92 = some a92 by kernel_rfl) (w92 Runs.mono h)
theorem c98 {Q : ARes → List AO → Prop} {v0 v1 v2 : AV} {hp : List AO} (h : s98 CC Q v0 v1 v2 hp) : CC 98 [v0, v1, v2] hp Q := Runs.intro (show tab tl 98 = some a98 by kernel_rfl) (w98 Runs.mono h)
theorem c99 {Q : ARes → List AO → Prop} {v0 v1 v2 : AV} {hp : List AO} (h : s99 CC Q v0 v1 v2 hp) : CC 99 [v0, v1, v2] hp Q := Runs.intro (show tab tl 99 = some a99 by kernel_rfl) (w99 Runs.mono h)
theorem c101 {Q : ARes → List AO → Prop} {v0 v1 : AV} {hp : List AO} (h : s101 CC Q v0 v1 hp) : CC 101 [v0, v1] hp Q := Runs.intro (show tab tl 101 = some a101 by kernel_rfl) (w101 Runs.mono h)
theorem c102 {Q : ARes → List AO → Prop} {v0 v1 : AV} {hp : List AO} (h : s102 CC Q v0 v1 hp) : CC 102 [v0, v1] hp Q := Runs.intro (show tab tl 102 = some a102 by kernel_rfl) (w102 Runs.mono h)
theorem c103 {Q : ARes → List AO → Prop} {v0 v1 : AV} {hp : List AO} (h : s103 CC Q v0 v1 hp) : CC 103 [v0, v1] hp Q := Runs.intro (show tab tl 103 = some a103 by kernel_rfl) (w103 Runs.mono h)
theorem c104 {Q : ARes → List AO → Prop} {v0 : AV} {hp : List AO} (h : s104 CC Q v0 hp) : CC 104 [v0] hp Q := Runs.intro (show tab tl 104 = some a104 by kernel_rfl) (w104 Runs.mono h)
end Go.Proofs.Ytnldohnfdeineaa.Abs
/- Words for walking the functions' formulas: evaluation of what they are made of. -/
namespace Go.Proofs.Ytnldohnfdeineaa.Abs
open Go

abbrev eI (n : Int) : AV := .int .i64 n
abbrev eN (n : Nat) : AV := .int .i64 (n : Int)
section
variable {C : CallRel} {R : ARes → List AO → Prop}
theorem bv_some {v : AV} {k : AV → Prop} : bv (some v) k = k v := rfl
theorem ba_some {v : AV} {hp : List AO} {k : AV → List AO → Prop} : ba (some (v, hp)) k = k v hp := rfl
theorem bs_some {v : List AO} {k : List AO → Prop} : bs (some v) k = k v := rfl
theorem bl_some {v : List AV} {k : List AV → Prop} : bl (some v) k = k v := rfl
theorem bn_eq {v : AV} {hp : List AO} {k : AV → List AO → Prop} : bn v hp k = k v hp := rfl
theorem ifT_true {p : Prop} : ifT true p = p := rfl
theorem cnd_bool {t : Bool} {p q : Prop} : cnd (.bool t) p q = ((t = true → p) ∧ (t = false → q)) := rfl
theorem rx_ret {kp k : AV → List AO → Prop} {v hp} : rx kp k (.ret v) hp = k v hp := rfl
theorem rx_pan {kp k : AV → List AO → Prop} {v hp} : rx kp k (.pan v) hp = kp v hp := rfl
theorem gv_true {e} : gv (some true) e = e := rfl
theorem gv_false {e} : gv (some false) e = some (.tup []) := rfl
theorem isB_t {b} : isB true (.bool b) = some b := by cases b <;> rfl
theorem isB_f {b} : isB false (.bool b) = some !b := by cases b <;> rfl
theorem isB_tup {w} : isB w (.tup []) = some false := rfl
theorem gcal_true {f args hp kp k} : gcal C (some true) f args hp kp k = callK C f args hp (rx kp k) := rfl
theorem gcal_false {f args hp kp k} : gcal C (some false) f args hp kp k = k (.tup []) hp := rfl
theorem gcalV_true {v args hp kp k} : gcalV C (some true) v args hp kp k = callVK C args hp (rx kp k) v := rfl
theorem gcalV_false {v args hp kp k} : gcalV C (some false) v args hp kp k = k (.tup []) hp := rfl
theorem ldE_el {n ag cs o} : ldE n ag (.el cs o) = ld n ag cs o := rfl
theorem ldH_el {hp n ag cs o} : ldH hp n ag (.el cs o) = ld n ag cs o := rfl
theorem ldH_ptr {hp n ag id o} : ldH hp n ag (.ptr id o) = (hcells hp id).bind fun cs => ld n ag cs o := rfl
theorem ldL_loc {lo n ag s o} : ldL lo n ag (.loc s o) = ld n ag (fnd [] lo s) o := rfl
theorem lsV_none {lo n ag v} : lsV none lo n ag v = ldE n ag v := rfl
theorem lsV_some {k lo n ag v} : lsV (some k) lo n ag v = loadSV lo (some k) n ag v := rfl
theorem stH_ptr {hp n v id o} : stH hp n v (.ptr id o) = match okv n v with
    | true => ((hcells hp id).bind (upd o v.cells)).map fun cs => hp.set id (.cells cs)
    | false => none := rfl
theorem bnX_none {d} : bnX d none = some d := rfl
theorem bnX_nat {d : Nat} {k : IntKind} {n : Nat} : bnX d (some (.int k (n : Int))) = some n := by
  simp only [bnX, bndV_int, if_pos (Int.natCast_nonneg n), Int.toNat_natCast]
theorem bnX_lit {d : Nat} {k : IntKind} {n : Nat} : bnX d (some (.int k (OfNat.ofNat n : Int))) = some n := by
  have : (OfNat.ofNat n : Int) = ((n : Nat) : Int) := rfl
  rw [this, bnX_nat]
theorem lenN_str {s} : lenN (.str s) = s.length := rfl
theorem lenN_sl {t e xs} : lenN (.sl t e xs) = xs.length := rfl
theorem lenN_arr {id e o n} : lenN (.arr id e o n) = n := rfl
theorem cells_int {k n} : AV.cells (.int k n) = [.int k n] := rfl
theorem cells_bool {b} : AV.cells (.bool b) = [.bool b] := rfl
theorem cells_str {s} : AV.cells (.str s) = [.str s] := rfl
theorem cells_sl {t e xs} : AV.cells (.sl t e xs) = [.sl t e xs] := rfl
theorem cells_arr {id e o n} : AV.cells (.arr id e o n) = [.arr id e o n] := rfl
theorem cells_ptr {id o} : AV.cells (.ptr id o) = [.ptr id o] := rfl
theorem cells_agg {cs} : AV.cells (.agg cs) = cs := rfl
theorem mem_int {k n} : AV.mem (.int k n) = true := rfl
theorem mem_bool {b} : AV.mem (.bool b) = true := rfl
theorem mem_str {s} : AV.mem (.str s) = true := rfl
theorem mem_sl {t e xs} : AV.mem (.sl t e xs) = true := rfl
theorem mem_arr {id e o n} : AV.mem (.arr id e o n) = true := rfl
theorem mem_ptr {id o} : AV.mem (.ptr id o) = true := rfl
theorem mem_nilp : AV.mem .nilp = true := rfl
theorem mem_agg {cs} : AV.mem (.agg cs) = true := rfl
theorem mem_fn {f cs} : AV.mem (.fn f cs) = true := rfl
theorem okv_int {k n} : okv 1 (.int k n) = true := rfl
theorem okv_bool {b} : okv 1 (.bool b) = true := rfl
theorem okv_str {s} : okv 1 (.str s) = true := rfl
theorem okv_sl {t e xs} : okv 1 (.sl t e xs) = true := rfl
theorem okv_arr {id e o n} : okv 1 (.arr id e o n) = true := rfl
theorem okv_ptr {id o} : okv 1 (.ptr id o) = true := rfl
theorem nloc_int {d k n} : notLoc d (.int k n) = true := rfl
theorem nloc_bool {d b} : notLoc d (.bool b) = true := rfl
theorem nloc_str {d s} : notLoc d (.str s) = true := rfl
theorem nloc_sl {d t e xs} : notLoc d (.sl t e xs) = true := rfl
theorem nloc_arr {d id e o n} : notLoc d (.arr id e o n) = true := rfl
theorem nloc_ptr {d id o} : notLoc d (.ptr id o) = true := rfl
theorem nloc_el {d cs o} : notLoc d (.el cs o) = true := rfl
theorem nloc_agg {d cs} : notLoc d (.agg cs) = true := rfl
theorem nloc_tup {d cs} : notLoc d (.tup cs) = true := rfl
theorem nloc_fn {d f cs} : notLoc d (.fn f cs) = true := rfl
theorem nloc_loc {d s o} : notLoc d (.loc s o) = !(s == d) := rfl
theorem nl_int {k n} : nl (.int k n) = some (.int k n) := rfl
theorem nl_bool {b} : nl (.bool b) = some (.bool b) := rfl
theorem nl_str {b} : nl (.str b) = some (.str b) := rfl
theorem nl_sl {t e xs} : nl (.sl t e xs) = some (.sl t e xs) := rfl
theorem nl_arr {id e o n} : nl (.arr id e o n) = some (.arr id e o n) := rfl
theorem nl_ptr {id o} : nl (.ptr id o) = some (.ptr id o) := rfl
theorem ext0 {a l} : extV 0 (.tup (a :: l)) = nl a := rfl
theorem ext1 {a b l} : extV 1 (.tup (a :: b :: l)) = nl b := rfl
theorem ext2 {a b c l} : extV 2 (.tup (a :: b :: c :: l)) = nl c := rfl
theorem retQ_eq {hp vs} : retQ R hp (some vs) = (vs.all AV.mem = true ∧ R (.ret (resOf vs)) hp) := rfl
theorem beq_or {a b : Bool} : beqV false (.bool a) (.bool b) = some (.bool (a == b)) := by cases a <;> cases b <;> rfl
theorem bne_xor {a b : Bool} : beqV true (.bool a) (.bool b) = some (.bool (a != b)) := by cases a <;> cases b <;> rfl
theorem nl_agg {cs} : nl (.agg cs) = some (.agg cs) := rfl
theorem nl_tup {cs} : nl (.tup cs) = some (.tup cs) := rfl
theorem nl_fn {f cs} : nl (.fn f cs) = some (.fn f cs) := rfl
end
theorem ldc_true {n o x l} : ld n true (x :: l) o = (sub o n (x :: l)).map .agg := rfl
theorem ldc_false {n o x l} : ld n false (x :: l) o = (nth (x :: l) o).bind nl := rfl
theorem cnd_t {p q : Prop} : cnd (.bool true) p q = p := by simp [cnd]
theorem cnd_f {p q : Prop} : cnd (.bool false) p q = q := by simp [cnd]
/-! one thing after the other: what follows is not looked at before its turn -/
theorem bv_lazy {x x' : Option AV} {k : AV → Prop} (h : x = x') : bv x k = bv x' k := h ▸ rfl
theorem bl_lazy {x x' : Option (List AV)} {k : List AV → Prop} (h : x = x') : bl x k = bl x' k := h ▸ rfl
theorem ba_lazy {x x' : Option (AV × List AO)} {k : AV → List AO → Prop} (h : x = x') : ba x k = ba x' k := h ▸ rfl
theorem bs_lazy {x x' : Option (List AO)} {k : List AO → Prop} (h : x = x') : bs x k = bs x' k := h ▸ rfl
theorem ifT_lazy {b b' : Bool} {p : Prop} (h : b = b') : ifT b p = ifT b' p := h ▸ rfl
theorem cnd_lazy {v v' : AV} {p q : Prop} (h : v = v') : cnd v p q = cnd v' p q := h ▸ rfl
theorem gv_lazy {x x' : Option Bool} {e : Option AV} (h : x = x') : gv x e = gv x' e := h ▸ rfl
theorem callK_lazy {C : CallRel} {f args args' hp} {Q : ARes → List AO → Prop} (h : args = args') : callK C f args hp Q = callK C f args' hp Q := h ▸ rfl
theorem gcal_lazy {C : CallRel} {x x' : Option Bool} {f args hp kp k} (h : x = x') : gcal C x f args hp kp k = gcal C x' f args hp kp k := h ▸ rfl
theorem gcalV_lazy {C : CallRel} {x x' : Option Bool} {v args hp kp k} (h : x = x') : gcalV C x v args hp kp k = gcalV C x' v args hp kp k := h ▸ rfl
theorem rx_lazy {kp k : AV → List AO → Prop} {r r' hp} (h : r = r') : rx kp k r hp = rx kp k r' hp := h ▸ rfl
attribute [congr] bv_lazy bl_lazy ba_lazy bs_lazy ifT_lazy cnd_lazy gv_lazy callK_lazy gcal_lazy gcalV_lazy rx_lazy
theorem callK_intro {C : CallRel} {f args hp} {Q : ARes → List AO → Prop} (ha : args.all AV.mem = true) (h : C f args hp Q) : callK C f args hp Q := ⟨ha, h⟩
/-! numbers -/
theorem wrap_nat {n : Nat} (h : n < 9223372036854775808) : IntKind.i64.wrap (n : Int) = n := wrap_i64 (by omega) (by omega)
theorem wrap_add {a b : Nat} (h : a + b < 9223372036854775808) : IntKind.i64.wrap ((a : Int) + (b : Int)) = ((a + b : Nat) : Int) := by
  rw [wrap_i64 (by omega) (by omega)]; omega
theorem wrap_sub {a b : Nat} (h : b ≤ a) (h2 : a < 9223372036854775808) : IntKind.i64.wrap ((a : Int) - (b : Int)) = ((a - b : Nat) : Int) := by
  rw [wrap_i64 (by omega) (by omega)]; omega
theorem wrap_add1 {a : Nat} (h : a + 1 < 9223372036854775808) : IntKind.i64.wrap ((a : Int) + 1) = ((a + 1 : Nat) : Int) := wrap_add (b := 1) h
theorem wrap_sub1 {a : Nat} (h : 1 ≤ a) (h2 : a < 9223372036854775808) : IntKind.i64.wrap ((a : Int) - 1) = ((a - 1 : Nat) : Int) := wrap_sub (b := 1) h h2
theorem wrap_add2 {a : Nat} (h : a + 2 < 9223372036854775808) : IntKind.i64.wrap ((a : Int) + 2) = ((a + 2 : Nat) : Int) := wrap_add (b := 2) h
theorem nat_lt {a b : Nat} : ((a : Int) < (b : Int)) = (a < b) := propext Int.ofNat_lt
theorem nat_le {a b : Nat} : ((a : Int) ≤ (b : Int)) = (a ≤ b) := propext Int.ofNat_le
theorem nat_eq {a b : Nat} : ((a : Int) = (b : Int)) = (a = b) := propext Int.ofNat_inj
theorem nat_le_lit {a b : Nat} : ((no_index (OfNat.ofNat a : Int)) ≤ (b : Int)) = (a ≤ b) := propext Int.ofNat_le
theorem nat_le_lit' {a b : Nat} : ((b : Int) ≤ (no_index (OfNat.ofNat a : Int))) = (b ≤ a) := propext Int.ofNat_le
theorem nat_eq_lit {a b : Nat} : ((b : Int) = (no_index (OfNat.ofNat a : Int))) = (b = a) := propext Int.ofNat_inj
theorem nat_lt_lit {a b : Nat} : ((no_index (OfNat.ofNat a : Int)) < (b : Int)) = (a < b) := propext Int.ofNat_lt
theorem nat_lt_lit' {a b : Nat} : ((b : Int) < (no_index (OfNat.ofNat a : Int))) = (b < a) := propext Int.ofNat_lt
/-! slices whose elements are of a kind -/
section
variable {α : Type} {f : α → AV} {xs : List α} {t : Tok} {e : Nat}
theorem ixa_map {k : IntKind} {i : Nat} : ixaV e (.sl t e (xs.map f)) (.int k (i : Int)) = (xs[i]?).map fun x => .el (f x).cells 0 := by
  rw [ixaV_sl, if_pos ⟨rfl, Int.natCast_nonneg i⟩, Int.toNat_natCast, List.getElem?_map, Option.map_map]
  rfl
theorem len_map : lenV false (.sl t e (xs.map f)) = some (.int .i64 (xs.length : Nat)) := by rw [lenV_sl, List.length_map]
theorem ixs_nat {s : List Nat} {k : IntKind} {i : Nat} : ixsV (.str s) (.int k (i : Int)) = (s[i]?).map fun c => .int .u8 (c : Int) := by
  rw [ixsV_str, if_pos (Int.natCast_nonneg i), Int.toNat_natCast]
theorem len_str {s : List Nat} : lenV true (.str s) = some (.int .i64 (s.length : Nat)) := rfl
theorem app_own {hp : List AO} {id : Nat} {y : α} {t' : Tok} (h : htok hp id = true) (hl : xs.length < 4294967296) : apx false e hp (.sl (.own id) e (xs.map f)) (.sl t' e [f y]) = some (.sl (.own hp.length) e ((xs ++ [y]).map f), hp.set id .dead ++ [.tok]) := by
  rw [apx_own h (by simp; omega), List.map_append]
  rfl
theorem app_cap0 {hp : List AO} {y : α} {e2 : Nat} {t' : Tok} : apx false e hp (.sl .cap0 e2 []) (.sl t' e [f y]) = some (.sl (.own hp.length) e ([y].map f), hp ++ [.tok]) := by
  rw [apx_cap0 (by simp)]
  rfl
theorem slstr_nat {s : List Nat} {l h : Nat} (h1 : l ≤ h) (h2 : h ≤ s.length) : slstrV (.str s) (some l) (some h) = some (.str ((s.take h).drop l)) := by
  rw [slstrV_some, if_pos ⟨h1, h2⟩]
theorem slsl_map {w : Bool} {l h : Nat} (h1 : l ≤ h) (h2 : h ≤ xs.length) : slslV e w (.sl t e (xs.map f)) (some l) (some h) = some (.sl (if w = true then t else .no) e (((xs.take h).drop l).map f)) := by
  rw [slslV_sl, if_pos ⟨rfl, h1, by simpa using h2⟩, List.map_drop, List.map_take]
end
/-! slices that grow, and what else stays -/
def Gr (hp : List AO) (t : Tok) (n : Nat) : Prop := (t = .cap0 ∧ n = 0) ∨ ∃ id, t = .own id ∧ htok hp id = true
def Same (ts : List Tok) (hp hp' : List AO) : Prop := hp.length ≤ hp'.length ∧ ∀ i, i < hp.length → (∀ t ∈ ts, t ≠ .own i) → hp'[i]? = hp[i]?
theorem Same.refl {ts : List Tok} {hp : List AO} : Same ts hp hp := ⟨Nat.le_refl _, fun _ _ _ => rfl⟩
theorem Same.trans {ts ts' : List Tok} {hp hp' hp'' : List AO} (h1 : Same ts hp hp') (h2 : Same ts' hp' hp'') (h : ∀ t ∈ ts', t ∈ ts ∨ ∀ i, i < hp.length → t ≠ .own i) : Same ts hp hp'' := by
  refine ⟨Nat.le_trans h1.1 h2.1, fun i hi ht => ?_⟩
  rw [h2.2 i (Nat.lt_of_lt_of_le hi h1.1) (fun t htm => ?_), h1.2 i hi ht]
  rcases h t htm with h | h
  · exact ht t h
  · exact h i hi
theorem Same.weak {ts ts' : List Tok} {hp hp' : List AO} (h1 : Same ts hp hp') (h : ∀ t ∈ ts, t ∈ ts') : Same ts' hp hp' := ⟨h1.1, fun i hi ht => h1.2 i hi fun t htm => ht t (h t htm)⟩
theorem htok_lt {hp : List AO} {id : Nat} (h : htok hp id = true) : id < hp.length := by
  unfold htok at h
  cases hg : hp[id]? with
  | none => rw [hg] at h; cases h
  | some o => exact (List.getElem?_eq_some_iff.1 hg).1
theorem Same.htok {ts : List Tok} {hp hp' : List AO} (h : Same ts hp hp') {id : Nat} (hi : htok hp id = true) (hn : ∀ t ∈ ts, t ≠ .own id) : htok hp' id = true := by
  unfold Abs.htok at hi ⊢
  rw [h.2 id (htok_lt hi) hn]; exact hi
theorem Same.gr {ts : List Tok} {hp hp' : List AO} (h : Same ts hp hp') {t : Tok} {n : Nat} (hi : Gr hp t n) (hn : ∀ u ∈ ts, ∀ i, t = .own i → u ≠ .own i) : Gr hp' t n := by
  rcases hi with hi | ⟨id, rfl, hi⟩
  · exact .inl hi
  · exact .inr ⟨id, rfl, h.htok hi fun u hu => hn u hu id rfl⟩
theorem Gr.lt {hp : List AO} {t : Tok} {n : Nat} (h : Gr hp t n) {i : Nat} (e : t = .own i) : i < hp.length := by
  rcases h with ⟨rfl, _⟩ | ⟨id, rfl, h⟩
  · cases e
  · cases e; exact htok_lt h
theorem app_gr {α : Type} {f : α → AV} {xs : List α} {t t2 : Tok} {e : Nat} {hp : List AO} {y : α} (h : Gr hp t xs.length) (hl : xs.length < 4294967296) :
    ∃ hp', apx false e hp (.sl t e (xs.map f)) (.sl t2 e [f y]) = some (.sl (.own hp.length) e ((xs ++ [y]).map f), hp') ∧ hp'.length = hp.length + 1 ∧ Gr hp' (.own hp.length) (xs ++ [y]).length ∧ Same [t] hp hp' := by
  rcases h with ⟨rfl, h0⟩ | ⟨id, rfl, h⟩
  · have : xs = [] := List.length_eq_zero_iff.1 h0
    subst this
    refine ⟨_, app_cap0, by simp, .inr ⟨_, rfl, ?_⟩, by simp, fun i hi _ => ?_⟩
    · simp [htok]
    · simp [List.getElem?_append_left hi]
  · have := htok_lt h
    refine ⟨_, app_own h hl, by simp, .inr ⟨_, rfl, ?_⟩, by simp, fun i hi ht => ?_⟩
    · simp [htok]
    · have hne : id ≠ i := fun e => ht (.own id) (by simp) (by rw [e])
      rw [List.getElem?_append_left (by simpa using hi), List.getElem?_set_ne hne]
theorem upd_all : ∀ {vs cs : List AV}, vs.length = cs.length → upd 0 vs cs = some vs
  | [], [], _ => rfl
  | v :: vs, c :: cs, h => by simp only [upd, upd_all (Nat.succ.inj h), Option.map_some]
attribute [go_sem] Bool.and_false Bool.and_true Bool.false_and Bool.false_eq_true Bool.false_or Bool.not_false Bool.not_true Bool.or_false Bool.or_true Bool.true_and Bool.true_or Decidable.not_not List.all_cons List.all_nil List.map_cons List.map_nil Nat.add_zero Nat.zero_add Option.bind_some Option.map_none Option.map_some abin_int abin_str and_self and_true aun_neg aun_not ba_some beq_or beq_self_eq_true bl_some bnX_lit bnX_nat bnX_none bn_eq bne_self_eq_false bne_xor bs_some bv_some cells_agg cells_arr cells_bool cells_int cells_ptr cells_sl cells_str cnd_f cnd_t convV_int decide_eq_false_iff_not decide_eq_true_eq decide_false decide_not decide_true ext0 ext1 ext2 faddV_el faddV_loc faddV_ptr false_implies fnd_cons fnd_nil gcalV_false gcalV_true gcal_false gcal_true gv_false gv_true ifT_true if_false if_true implies_true intBin isB_f isB_t isB_tup ite_false ite_true ixa_map ixs_nat ldE_el ldH_el ldH_ptr ldL_loc ldc_false ldc_true lenN_arr lenN_sl lenN_str len_map len_str loadSV_loc lsV_none lsV_some mem_agg mem_arr mem_bool mem_fn mem_int mem_nilp mem_ptr mem_sl mem_str mkSlV_eq nat_eq nat_eq_lit nat_le nat_le_lit nat_le_lit' nat_lt nat_lt_lit nat_lt_lit' ne_eq nilckV_el nilckV_loc nilckV_ptr nl_agg nl_arr nl_bool nl_fn nl_int nl_ptr nl_sl nl_str nl_tup nloc_agg nloc_arr nloc_bool nloc_el nloc_fn nloc_int nloc_loc nloc_ptr nloc_sl nloc_str nloc_tup not_false_eq_true not_true_eq_false nth_succ nth_zero okv_arr okv_bool okv_int okv_ptr okv_sl okv_str pickV_bool resOf_nil resOf_one resOf_two retQ_some rx_pan rx_ret sel_false sel_true strBin sub_done sub_skip sub_take true_and true_implies upd_done upd_put upd_skip wrap_add wrap_add1 wrap_add2 wrap_nat wrap_sub wrap_sub1
end Go.Proofs.Ytnldohnfdeineaa.Abs
