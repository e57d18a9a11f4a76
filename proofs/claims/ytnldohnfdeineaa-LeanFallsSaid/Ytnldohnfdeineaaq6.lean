/- Part 6 of the proof: an abstract machine for the loaded code, and what the functions compute. No conditions. -/
import Derived.Test.YtnldohnfdeineaaProg
import Derived.Test.Ytnldohnfdeineaaq5
set_option linter.unusedVariables false
set_option linter.unusedSimpArgs false
namespace Go.Proofs.Ytnldohnfdeineaa.Abs
open Go
set_option maxRecDepth 100000
def TT : List (Nat × TI) := [(3, ⟨1, 8, false, .int .i64, [.int .i64 0]⟩),
  (4, ⟨1, 1, false, .bool, [.bool false]⟩),
  (5, ⟨1, 1, false, .int .u8, [.int .u8 0]⟩),
  (9, ⟨1, 16, false, .str, [.str []]⟩),
  (23, ⟨1, 24, false, .sl 3, [.sl .cap0 1 []]⟩),
  (24, ⟨1, 24, false, .sl 23, [.sl .cap0 1 []]⟩),
  (26, ⟨2, 48, true, .st [(0, 1), (1, 1)], [.sl .cap0 1 [], .sl .cap0 1 []]⟩),
  (35, ⟨1, 24, false, .sl 146, [.sl .cap0 9 []]⟩),
  (36, ⟨1, 24, false, .sl 86, [.sl .cap0 9 []]⟩),
  (37, ⟨1, 24, false, .sl 46, [.sl .cap0 6 []]⟩),
  (39, ⟨3, 72, true, .st [(0, 1), (1, 1), (2, 1)], [.sl .cap0 9 [], .sl .cap0 9 [], .sl .cap0 6 []]⟩),
  (43, ⟨2, 16, true, .pr, [.int .i64 0, .int .i64 0]⟩),
  (44, ⟨1, 24, false, .sl 9, [.sl .cap0 1 []]⟩),
  (46, ⟨6, 88, true, .st [(0, 1), (1, 2), (3, 1), (4, 1), (5, 1)], [.str [], .int .i64 0, .int .i64 0, .sl .cap0 1 [], .int .i64 0, .sl .cap0 1 []]⟩),
  (54, ⟨1, 24, false, .sl 84, [.sl .cap0 4 []]⟩),
  (61, ⟨4, 96, true, .st [(0, 2), (2, 1), (3, 1)], [.sl .cap0 1 [], .sl .cap0 1 [], .sl .cap0 1 [], .sl .cap0 1 []]⟩),
  (64, ⟨1, 24, false, .sl 4, [.sl .cap0 1 []]⟩),
  (69, ⟨5, 120, true, .st [(0, 1), (1, 1), (2, 1), (3, 1), (4, 1)], [.sl .cap0 1 [], .sl .cap0 1 [], .sl .cap0 1 [], .sl .cap0 1 [], .sl .cap0 1 []]⟩),
  (73, ⟨1, 24, false, .sl 75, [.sl .cap0 1 []]⟩),
  (75, ⟨1, 24, false, .sl 77, [.sl .cap0 2 []]⟩),
  (77, ⟨2, 16, true, .pr, [.int .i64 0, .int .i64 0]⟩),
  (80, ⟨4, 96, true, .st [(0, 3), (3, 1)], [.sl .cap0 9 [], .sl .cap0 9 [], .sl .cap0 6 [], .sl .cap0 1 []]⟩),
  (84, ⟨4, 48, true, .st [(0, 1), (1, 1), (2, 1), (3, 1)], [.sl .cap0 1 [], .int .i64 0, .int .i64 0, .int .i64 0]⟩),
  (86, ⟨9, 112, true, .st [(0, 1), (1, 2), (3, 1), (4, 1), (5, 1), (6, 1), (7, 1), (8, 1)], [.int .i64 0, .int .i64 0, .int .i64 0, .str [], .int .i64 0, .int .i64 0, .int .i64 0, .sl .cap0 1 [], .sl .cap0 1 []]⟩),
  (88, ⟨1, 8, false, .int .u64, [.int .u64 0]⟩),
  (92, ⟨1, 8, false, .oth, [.undef]⟩),
  (95, ⟨1, 24, false, .sl 101, [.sl .cap0 3 []]⟩),
  (99, ⟨8, 136, true, .st [(0, 1), (1, 1), (2, 1), (3, 3), (6, 1), (7, 1)], [.str [], .sl .cap0 3 [], .int .i64 0, .sl .cap0 9 [], .sl .cap0 9 [], .sl .cap0 6 [], .int .i64 0, .int .i64 0]⟩),
  (101, ⟨3, 24, true, .st [(0, 1), (1, 2)], [.int .i64 0, .int .i64 0, .int .i64 0]⟩),
  (103, ⟨1, 24, false, .sl 131, [.sl .cap0 3 []]⟩),
  (105, ⟨14, 256, true, .st [(0, 3), (3, 5), (8, 1), (9, 1), (10, 1), (11, 1), (12, 1), (13, 1)], [.sl .cap0 9 [], .sl .cap0 9 [], .sl .cap0 6 [], .sl .cap0 1 [], .sl .cap0 1 [], .sl .cap0 1 [], .sl .cap0 1 [], .sl .cap0 1 [], .int .i64 0, .sl .cap0 3 [], .int .i64 0, .int .i64 0, .int .i64 0, .int .i64 0]⟩),
  (114, ⟨1, 4, false, .int .u32, [.int .u32 0]⟩),
  (117, ⟨1, 8, false, .int .u64, [.int .u64 0]⟩),
  (131, ⟨3, 32, true, .st [(0, 1), (1, 1), (2, 1)], [.str [], .int .i64 0, .int .i64 0]⟩),
  (146, ⟨9, 104, true, .st [(0, 1), (1, 2), (3, 1), (4, 1), (5, 1), (6, 1), (7, 1), (8, 1)], [.int .i64 0, .int .i64 0, .int .i64 0, .int .i64 0, .str [], .str [], .int .i64 0, .int .i64 0, .sl .cap0 1 []]⟩),
  (163, ⟨1, 8, false, .int .u64, [.int .u64 0]⟩)]
theorem TT_ok : ttOk Go.Proofs.Try.prog TT = true := by kernel_rfl
theorem k9 : okFunc TT anyOk a9 Go.Proofs.Try.f9 = true := by kernel_rfl
theorem k12 : okFunc TT anyOk a12 Go.Proofs.Try.f12 = true := by kernel_rfl
theorem k15 : okFunc TT anyOk a15 Go.Proofs.Try.f15 = true := by kernel_rfl
theorem k21 : okFunc TT anyOk a21 Go.Proofs.Try.f21 = true := by kernel_rfl
theorem k22 : okFunc TT anyOk a22 Go.Proofs.Try.f22 = true := by kernel_rfl
theorem k23 : okFunc TT anyOk a23 Go.Proofs.Try.f23 = true := by kernel_rfl
theorem k24 : okFunc TT anyOk a24 Go.Proofs.Try.f24 = true := by kernel_rfl
theorem k25 : okFunc TT anyOk a25 Go.Proofs.Try.f25 = true := by kernel_rfl
theorem k26 : okFunc TT anyOk a26 Go.Proofs.Try.f26 = true := by kernel_rfl
theorem k27 : okFunc TT anyOk a27 Go.Proofs.Try.f27 = true := by kernel_rfl
theorem k28 : okFunc TT anyOk a28 Go.Proofs.Try.f28 = true := by kernel_rfl
theorem k29 : okFunc TT anyOk a29 Go.Proofs.Try.f29 = true := by kernel_rfl
theorem k31 : okFunc TT anyOk a31 Go.Proofs.Try.f31 = true := by kernel_rfl
theorem k32 : okFunc TT anyOk a32 Go.Proofs.Try.f32 = true := by kernel_rfl
theorem k33 : okFunc TT anyOk a33 Go.Proofs.Try.f33 = true := by kernel_rfl
theorem k34 : okFunc TT anyOk a34 Go.Proofs.Try.f34 = true := by kernel_rfl
theorem k35 : okFunc TT anyOk a35 Go.Proofs.Try.f35 = true := by kernel_rfl
theorem k36 : okFunc TT anyOk a36 Go.Proofs.Try.f36 = true := by kernel_rfl
theorem k37 : okFunc TT anyOk a37 Go.Proofs.Try.f37 = true := by kernel_rfl
theorem k38 : okFunc TT anyOk a38 Go.Proofs.Try.f38 = true := by kernel_rfl
theorem k39 : okFunc TT anyOk a39 Go.Proofs.Try.f39 = true := by kernel_rfl
theorem k40 : okFunc TT anyOk a40 Go.Proofs.Try.f40 = true := by kernel_rfl
theorem k41 : okFunc TT anyOk a41 Go.Proofs.Try.f41 = true := by kernel_rfl
theorem k42 : okFunc TT anyOk a42 Go.Proofs.Try.f42 = true := by kernel_rfl
theorem k43 : okFunc TT anyOk a43 Go.Proofs.Try.f43 = true := by kernel_rfl
theorem k44 : okFunc TT anyOk a44 Go.Proofs.Try.f44 = true := by kernel_rfl
theorem k45 : okFunc TT anyOk a45 Go.Proofs.Try.f45 = true := by kernel_rfl
theorem k46 : okFunc TT anyOk a46 Go.Proofs.Try.f46 = true := by kernel_rfl
theorem k47 : okFunc TT anyOk a47 Go.Proofs.Try.f47 = true := by kernel_rfl
theorem k48 : okFunc TT anyOk a48 Go.Proofs.Try.f48 = true := by kernel_rfl
theorem k49 : okFunc TT anyOk a49 Go.Proofs.Try.f49 = true := by kernel_rfl
theorem k50 : okFunc TT anyOk a50 Go.Proofs.Try.f50 = true := by kernel_rfl
theorem k51 : okFunc TT anyOk a51 Go.Proofs.Try.f51 = true := by kernel_rfl
theorem k52 : okFunc TT anyOk a52 Go.Proofs.Try.f52 = true := by kernel_rfl
theorem k53 : okFunc TT anyOk a53 Go.Proofs.Try.f53 = true := by kernel_rfl
theorem k54 : okFunc TT anyOk a54 Go.Proofs.Try.f54 = true := by kernel_rfl
theorem k55 : okFunc TT anyOk a55 Go.Proofs.Try.f55 = true := by kernel_rfl
theorem k56 : okFunc TT anyOk a56 Go.Proofs.Try.f56 = true := by kernel_rfl
theorem k57 : okFunc TT anyOk a57 Go.Proofs.Try.f57 = true := by kernel_rfl
theorem k58 : okFunc TT anyOk a58 Go.Proofs.Try.f58 = true := by kernel_rfl
theorem k59 : okFunc TT anyOk a59 Go.Proofs.Try.f59 = true := by kernel_rfl
theorem k60 : okFunc TT anyOk a60 Go.Proofs.Try.f60 = true := by kernel_rfl
theorem k61 : okFunc TT anyOk a61 Go.Proofs.Try.f61 = true := by kernel_rfl
theorem k62 : okFunc TT anyOk a62 Go.Proofs.Try.f62 = true := by kernel_rfl
theorem k63 : okFunc TT anyOk a63 Go.Proofs.Try.f63 = true := by kernel_rfl
theorem k64 : okFunc TT anyOk a64 Go.Proofs.Try.f64 = true := by kernel_rfl
theorem k65 : okFunc TT anyOk a65 Go.Proofs.Try.f65 = true := by kernel_rfl
theorem k66 : okFunc TT anyOk a66 Go.Proofs.Try.f66 = true := by kernel_rfl
theorem k67 : okFunc TT anyOk a67 Go.Proofs.Try.f67 = true := by kernel_rfl
theorem k68 : okFunc TT anyOk a68 Go.Proofs.Try.f68 = true := by kernel_rfl
theorem k69 : okFunc TT anyOk a69 Go.Proofs.Try.f69 = true := by kernel_rfl
theorem k70 : okFunc TT anyOk a70 Go.Proofs.Try.f70 = true := by kernel_rfl
theorem k71 : okFunc TT anyOk a71 Go.Proofs.Try.f71 = true := by kernel_rfl
theorem k72 : okFunc TT anyOk a72 Go.Proofs.Try.f72 = true := by kernel_rfl
theorem k73 : okFunc TT anyOk a73 Go.Proofs.Try.f73 = true := by kernel_rfl
theorem k74 : okFunc TT anyOk a74 Go.Proofs.Try.f74 = true := by kernel_rfl
theorem k75 : okFunc TT anyOk a75 Go.Proofs.Try.f75 = true := by kernel_rfl
theorem k76 : okFunc TT anyOk a76 Go.Proofs.Try.f76 = true := by kernel_rfl
theorem k77 : okFunc TT anyOk a77 Go.Proofs.Try.f77 = true := by kernel_rfl
theorem k78 : okFunc TT anyOk a78 Go.Proofs.Try.f78 = true := by kernel_rfl
theorem k79 : okFunc TT anyOk a79 Go.Proofs.Try.f79 = true := by kernel_rfl
theorem k80 : okFunc TT anyOk a80 Go.Proofs.Try.f80 = true := by kernel_rfl
theorem k81 : okFunc TT anyOk a81 Go.Proofs.Try.f81 = true := by kernel_rfl
theorem k82 : okFunc TT anyOk a82 Go.Proofs.Try.f82 = true := by kernel_rfl
theorem k83 : okFunc TT anyOk a83 Go.Proofs.Try.f83 = true := by kernel_rfl
theorem k84 : okFunc TT anyOk a84 Go.Proofs.Try.f84 = true := by kernel_rfl
theorem k85 : okFunc TT anyOk a85 Go.Proofs.Try.f85 = true := by kernel_rfl
theorem k86 : okFunc TT anyOk a86 Go.Proofs.Try.f86 = true := by kernel_rfl
theorem k87 : okFunc TT anyOk a87 Go.Proofs.Try.f87 = true := by kernel_rfl
theorem k88 : okFunc TT anyOk a88 Go.Proofs.Try.f88 = true := by kernel_rfl
theorem k89 : okFunc TT anyOk a89 Go.Proofs.Try.f89 = true := by kernel_rfl
theorem k90 : okFunc TT anyOk a90 Go.Proofs.Try.f90 = true := by kernel_rfl
theorem k91 : okFunc TT anyOk a91 Go.Proofs.Try.f91 = true := by kernel_rfl
theorem k92 : okFunc TT anyOk a92 Go.Proofs.Try.f92 = true := by kernel_rfl
theorem k93 : okFunc TT anyOk a93 Go.Proofs.Try.f93 = true := by kernel_rfl
theorem k94 : okFunc TT anyOk a94 Go.Proofs.Try.f94 = true := by kernel_rfl
theorem k95 : okFunc TT anyOk a95 Go.Proofs.Try.f95 = true := by kernel_rfl
theorem k96 : okFunc TT anyOk a96 Go.Proofs.Try.f96 = true := by kernel_rfl
theorem k97 : okFunc TT anyOk a97 Go.Proofs.Try.f97 = true := by kernel_rfl
theorem k98 : okFunc TT anyOk a98 Go.Proofs.Try.f98 = true := by kernel_rfl
theorem k99 : okFunc TT anyOk a99 Go.Proofs.Try.f99 = true := by kernel_rfl
theorem k100 : okFunc TT anyOk a100 Go.Proofs.Try.f100 = true := by kernel_rfl
theorem k101 : okFunc TT anyOk a101 Go.Proofs.Try.f101 = true := by kernel_rfl
theorem k102 : okFunc TT anyOk a102 Go.Proofs.Try.f102 = true := by kernel_rfl
theorem k103 : okFunc TT anyOk a103 Go.Proofs.Try.f103 = true := by kernel_rfl
theorem k104 : okFunc TT anyOk a104 Go.Proofs.Try.f104 = true := by kernel_rfl
theorem held : Held Go.Proofs.Try.prog TT tl := Held.cons Go.Proofs.Try.func9 k9 <| Held.cons Go.Proofs.Try.func12 k12 <| Held.cons Go.Proofs.Try.func15 k15 <| Held.cons Go.Proofs.Try.func21 k21 <| Held.cons Go.Proofs.Try.func22 k22 <| Held.cons Go.Proofs.Try.func23 k23 <| Held.cons Go.Proofs.Try.func24 k24 <| Held.cons Go.Proofs.Try.func25 k25 <| Held.cons Go.Proofs.Try.func26 k26 <| Held.cons Go.Proofs.Try.func27 k27 <| Held.cons Go.Proofs.Try.func28 k28 <| Held.cons Go.Proofs.Try.func29 k29 <| Held.cons Go.Proofs.Try.func31 k31 <| Held.cons Go.Proofs.Try.func32 k32 <| Held.cons Go.Proofs.Try.func33 k33 <| Held.cons Go.Proofs.Try.func34 k34 <| Held.cons Go.Proofs.Try.func35 k35 <| Held.cons Go.Proofs.Try.func36 k36 <| Held.cons Go.Proofs.Try.func37 k37 <| Held.cons Go.Proofs.Try.func38 k38 <| Held.cons Go.Proofs.Try.func39 k39 <| Held.cons Go.Proofs.Try.func40 k40 <| Held.cons Go.Proofs.Try.func41 k41 <| Held.cons Go.Proofs.Try.func42 k42 <| Held.cons Go.Proofs.Try.func43 k43 <| Held.cons Go.Proofs.Try.func44 k44 <| Held.cons Go.Proofs.Try.func45 k45 <| Held.cons Go.Proofs.Try.func46 k46 <| Held.cons Go.Proofs.Try.func47 k47 <| Held.cons Go.Proofs.Try.func48 k48 <| Held.cons Go.Proofs.Try.func49 k49 <| Held.cons Go.Proofs.Try.func50 k50 <| Held.cons Go.Proofs.Try.func51 k51 <| Held.cons Go.Proofs.Try.func52 k52 <| Held.cons Go.Proofs.Try.func53 k53 <| Held.cons Go.Proofs.Try.func54 k54 <| Held.cons Go.Proofs.Try.func55 k55 <| Held.cons Go.Proofs.Try.func56 k56 <| Held.cons Go.Proofs.Try.func57 k57 <| Held.cons Go.Proofs.Try.func58 k58 <| Held.cons Go.Proofs.Try.func59 k59 <| Held.cons Go.Proofs.Try.func60 k60 <| Held.cons Go.Proofs.Try.func61 k61 <| Held.cons Go.Proofs.Try.func62 k62 <| Held.cons Go.Proofs.Try.func63 k63 <| Held.cons Go.Proofs.Try.func64 k64 <| Held.cons Go.Proofs.Try.func65 k65 <| Held.cons Go.Proofs.Try.func66 k66 <| Held.cons Go.Proofs.Try.func67 k67 <| Held.cons Go.Proofs.Try.func68 k68 <| Held.cons Go.Proofs.Try.func69 k69 <| Held.cons Go.Proofs.Try.func70 k70 <| Held.cons Go.Proofs.Try.func71 k71 <| Held.cons Go.Proofs.Try.func72 k72 <| Held.cons Go.Proofs.Try.func73 k73 <| Held.cons Go.Proofs.Try.func74 k74 <| Held.cons Go.Proofs.Try.func75 k75 <| Held.cons Go.Proofs.Try.func76 k76 <| Held.cons Go.Proofs.Try.func77 k77 <| Held.cons Go.Proofs.Try.func78 k78 <| Held.cons Go.Proofs.Try.func79 k79 <| Held.cons Go.Proofs.Try.func80 k80 <| Held.cons Go.Proofs.Try.func81 k81 <| Held.cons Go.Proofs.Try.func82 k82 <| Held.cons Go.Proofs.Try.func83 k83 <| Held.cons Go.Proofs.Try.func84 k84 <| Held.cons Go.Proofs.Try.func85 k85 <| Held.cons Go.Proofs.Try.func86 k86 <| Held.cons Go.Proofs.Try.func87 k87 <| Held.cons Go.Proofs.Try.func88 k88 <| Held.cons Go.Proofs.Try.func89 k89 <| Held.cons Go.Proofs.Try.func90 k90 <| Held.cons Go.Proofs.Try.func91 k91 <| Held.cons Go.Proofs.Try.func92 k92 <| Held.cons Go.Proofs.Try.func93 k93 <| Held.cons Go.Proofs.Try.func94 k94 <| Held.cons Go.Proofs.Try.func95 k95 <| Held.cons Go.Proofs.Try.func96 k96 <| Held.cons Go.Proofs.Try.func97 k97 <| Held.cons Go.Proofs.Try.func98 k98 <| Held.cons Go.Proofs.Try.func99 k99 <| Held.cons Go.Proofs.Try.func100 k100 <| Held.cons Go.Proofs.Try.func101 k101 <| Held.cons Go.Proofs.Try.func102 k102 <| Held.cons Go.Proofs.Try.func103 k103 <| Held.cons Go.Proofs.Try.func104 k104 <| Held.nil
end Go.Proofs.Ytnldohnfdeineaa.Abs
