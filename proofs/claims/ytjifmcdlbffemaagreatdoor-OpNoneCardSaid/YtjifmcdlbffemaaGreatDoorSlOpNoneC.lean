/-
  A part of the proof of the statement about OpNone: laws of what a heap owns, the functions' contracts, in the order in which they call each other: Tys, Names, Bits.
-/
import Derived.Test.YtjifmcdlbffemaaGreatDoorChecked
import Derived.Lib.TrailingZeros
import Derived.Test.YtjifmcdlbffemaaGreatDoorSlOpNoneA
import Derived.Test.YtjifmcdlbffemaaGreatDoorSlOpNoneB
set_option linter.unusedVariables false
set_option linter.unusedSimpArgs false

/-
  The types of the dump that the proofs look at: by program (gentys.py).
-/
set_option maxRecDepth 100000
namespace Go.Sl.Tz
open Go Go.Proofs
def y1 : Ty := ⟨.func #[] #[] false, 1, 8, .nilFunc⟩
def y2 : Ty := ⟨.int .i64, 1, 8, .int .i64 0⟩
def y3 : Ty := ⟨.int .i64, 1, 8, .int .i64 0⟩
def y4 : Ty := ⟨.bool, 1, 1, .bool false⟩
def y5 : Ty := ⟨.int .u8, 1, 1, .int .u8 0⟩
def y7 : Ty := ⟨.struct #[{ name := "x", type := 2, offset := 0, embedded := false, tag := "", pkgPath := "runtime", byteOffset := 0 }, { name := "y", type := 3, offset := 1, embedded := false, tag := "", pkgPath := "runtime", byteOffset := 8 }, { name := "signed", type := 4, offset := 2, embedded := false, tag := "", pkgPath := "runtime", byteOffset := 16 }, { name := "code", type := 6, offset := 3, embedded := false, tag := "", pkgPath := "runtime", byteOffset := 17 }], 4, 24, .agg #[.int .i64 0, .int .i64 0, .bool false, .int .u8 0]⟩
def y9 : Ty := ⟨.string, 1, 16, .string ⟨#[]⟩⟩
def y12 : Ty := ⟨.int .u64, 1, 8, .int .u64 0⟩
def y13 : Ty := ⟨.struct #[{ name := "msg", type := 9, offset := 0, embedded := false, tag := "", pkgPath := "runtime", byteOffset := 0 }, { name := "addr", type := 12, offset := 1, embedded := false, tag := "", pkgPath := "runtime", byteOffset := 16 }], 2, 24, .agg #[.string ⟨#[]⟩, .int .u64 0]⟩
def y15 : Ty := ⟨.pointer 363, 1, 8, .pointer none⟩
def y16 : Ty := ⟨.pointer 366, 1, 8, .pointer none⟩
def y17 : Ty := ⟨.pointer 374, 1, 8, .pointer none⟩
def y18 : Ty := ⟨.struct #[{ name := "typ", type := 17, offset := 0, embedded := false, tag := "", pkgPath := "internal/runtime/maps", byteOffset := 0 }], 1, 8, .agg #[.pointer none]⟩
def y21 : Ty := ⟨.int .i32, 1, 4, .int .i32 0⟩
def y22 : Ty := ⟨.struct #[{ name := "Chunks", type := 3, offset := 0, embedded := false, tag := "", pkgPath := "", byteOffset := 0 }, { name := "Words", type := 3, offset := 1, embedded := false, tag := "", pkgPath := "", byteOffset := 8 }, { name := "Slots", type := 3, offset := 2, embedded := false, tag := "", pkgPath := "", byteOffset := 16 }], 3, 24, .agg #[.int .i64 0, .int .i64 0, .int .i64 0]⟩
def y23 : Ty := ⟨.struct #[{ name := "Chunks", type := 3, offset := 0, embedded := false, tag := "", pkgPath := "", byteOffset := 0 }, { name := "Words", type := 3, offset := 1, embedded := false, tag := "", pkgPath := "", byteOffset := 8 }, { name := "Slots", type := 3, offset := 2, embedded := false, tag := "", pkgPath := "", byteOffset := 16 }], 3, 24, .agg #[.int .i64 0, .int .i64 0, .int .i64 0]⟩
def y24 : Ty := ⟨.slice 25, 1, 24, .slice none 0 0⟩
def y25 : Ty := ⟨.slice 3, 1, 24, .slice none 0 0⟩
def y26 : Ty := ⟨.pointer 101, 1, 8, .pointer none⟩
def y27 : Ty := ⟨.pointer 55, 1, 8, .pointer none⟩
def y29 : Ty := ⟨.func #[23] #[26, 27] false, 1, 8, .nilFunc⟩
def y30 : Ty := ⟨.func #[] #[4] false, 1, 8, .nilFunc⟩
def y31 : Ty := ⟨.func #[24] #[4] false, 1, 8, .nilFunc⟩
def y32 : Ty := ⟨.func #[25] #[4] false, 1, 8, .nilFunc⟩
def y33 : Ty := ⟨.func #[25, 25] #[4] false, 1, 8, .nilFunc⟩
def y34 : Ty := ⟨.func #[25] #[25] false, 1, 8, .nilFunc⟩
def y35 : Ty := ⟨.func #[23, 24, 25] #[4] false, 1, 8, .nilFunc⟩
def y36 : Ty := ⟨.func #[23, 24, 24] #[4] false, 1, 8, .nilFunc⟩
def y37 : Ty := ⟨.func #[27, 25] #[25] false, 1, 8, .nilFunc⟩
def y38 : Ty := ⟨.struct #[{ name := "Chunks", type := 3, offset := 0, embedded := false, tag := "", pkgPath := "", byteOffset := 0 }, { name := "Free", type := 3, offset := 1, embedded := false, tag := "", pkgPath := "", byteOffset := 8 }, { name := "Slots", type := 3, offset := 2, embedded := false, tag := "", pkgPath := "", byteOffset := 16 }, { name := "Used", type := 3, offset := 3, embedded := false, tag := "", pkgPath := "", byteOffset := 24 }, { name := "Retired", type := 3, offset := 4, embedded := false, tag := "", pkgPath := "", byteOffset := 32 }, { name := "Regions", type := 3, offset := 5, embedded := false, tag := "", pkgPath := "", byteOffset := 40 }, { name := "Words", type := 3, offset := 6, embedded := false, tag := "", pkgPath := "", byteOffset := 48 }], 7, 56, .agg #[.int .i64 0, .int .i64 0, .int .i64 0, .int .i64 0, .int .i64 0, .int .i64 0, .int .i64 0]⟩
def y39 : Ty := ⟨.struct #[{ name := "Chunks", type := 3, offset := 0, embedded := false, tag := "", pkgPath := "", byteOffset := 0 }, { name := "Free", type := 3, offset := 1, embedded := false, tag := "", pkgPath := "", byteOffset := 8 }, { name := "Slots", type := 3, offset := 2, embedded := false, tag := "", pkgPath := "", byteOffset := 16 }, { name := "Used", type := 3, offset := 3, embedded := false, tag := "", pkgPath := "", byteOffset := 24 }, { name := "Retired", type := 3, offset := 4, embedded := false, tag := "", pkgPath := "", byteOffset := 32 }, { name := "Regions", type := 3, offset := 5, embedded := false, tag := "", pkgPath := "", byteOffset := 40 }, { name := "Words", type := 3, offset := 6, embedded := false, tag := "", pkgPath := "", byteOffset := 48 }], 7, 56, .agg #[.int .i64 0, .int .i64 0, .int .i64 0, .int .i64 0, .int .i64 0, .int .i64 0, .int .i64 0]⟩
def y40 : Ty := ⟨.int .i64, 1, 8, .int .i64 0⟩
def y42 : Ty := ⟨.func #[27] #[39, 40] false, 1, 8, .nilFunc⟩
def y43 : Ty := ⟨.func #[] #[27] false, 1, 8, .nilFunc⟩
def y44 : Ty := ⟨.func #[23, 24] #[4] false, 1, 8, .nilFunc⟩
def y45 : Ty := ⟨.func #[] #[3] false, 1, 8, .nilFunc⟩
def y47 : Ty := ⟨.func #[3, 3, 3] #[26, 40] false, 1, 8, .nilFunc⟩
def y49 : Ty := ⟨.func #[3, 3, 3] #[27, 40] false, 1, 8, .nilFunc⟩
def y50 : Ty := ⟨.func #[23, 25] #[4] false, 1, 8, .nilFunc⟩
def y51 : Ty := ⟨.pointer 91, 1, 8, .pointer none⟩
def y52 : Ty := ⟨.pointer 205, 1, 8, .pointer none⟩
def y53 : Ty := ⟨.pointer 227, 1, 8, .pointer none⟩
def y54 : Ty := ⟨.struct #[{ name := "Cells", type := 51, offset := 0, embedded := true, tag := "", pkgPath := "", byteOffset := 0 }, { name := "region", type := 3, offset := 1, embedded := false, tag := "", pkgPath := "turnrow/evac", byteOffset := 8 }, { name := "to", type := 52, offset := 2, embedded := false, tag := "", pkgPath := "turnrow/evac", byteOffset := 16 }, { name := "list", type := 53, offset := 3, embedded := false, tag := "", pkgPath := "turnrow/evac", byteOffset := 24 }], 4, 32, .agg #[.pointer none, .int .i64 0, .pointer none, .pointer none]⟩
def y55 : Ty := ⟨.struct #[{ name := "Cells", type := 51, offset := 0, embedded := true, tag := "", pkgPath := "", byteOffset := 0 }, { name := "region", type := 3, offset := 1, embedded := false, tag := "", pkgPath := "turnrow/evac", byteOffset := 8 }, { name := "to", type := 52, offset := 2, embedded := false, tag := "", pkgPath := "turnrow/evac", byteOffset := 16 }, { name := "list", type := 53, offset := 3, embedded := false, tag := "", pkgPath := "turnrow/evac", byteOffset := 24 }], 4, 32, .agg #[.pointer none, .int .i64 0, .pointer none, .pointer none]⟩
def y56 : Ty := ⟨.array 2 25, 2, 48, .agg #[.slice none 0 0, .slice none 0 0]⟩
def y57 : Ty := ⟨.slice 56, 1, 24, .slice none 0 0⟩
def y59 : Ty := ⟨.func #[25] #[25, 40] false, 1, 8, .nilFunc⟩
def y61 : Ty := ⟨.func #[63] #[3, 40] false, 1, 8, .nilFunc⟩
def y62 : Ty := ⟨.int .u64, 1, 8, .int .u64 0⟩
def y63 : Ty := ⟨.slice 62, 1, 24, .slice none 0 0⟩
def y64 : Ty := ⟨.func #[40, 25] #[25] true, 1, 8, .nilFunc⟩
def y65 : Ty := ⟨.func #[3] #[3, 40] false, 1, 8, .nilFunc⟩
def y66 : Ty := ⟨.func #[3] #[25, 40] false, 1, 8, .nilFunc⟩
def y67 : Ty := ⟨.slice 69, 1, 24, .slice none 0 0⟩
def y68 : Ty := ⟨.struct #[{ name := "Index", type := 3, offset := 0, embedded := false, tag := "", pkgPath := "", byteOffset := 0 }, { name := "Gen", type := 3, offset := 1, embedded := false, tag := "", pkgPath := "", byteOffset := 8 }], 2, 16, .agg #[.int .i64 0, .int .i64 0]⟩
def y69 : Ty := ⟨.struct #[{ name := "Index", type := 3, offset := 0, embedded := false, tag := "", pkgPath := "", byteOffset := 0 }, { name := "Gen", type := 3, offset := 1, embedded := false, tag := "", pkgPath := "", byteOffset := 8 }], 2, 16, .agg #[.int .i64 0, .int .i64 0]⟩
def y70 : Ty := ⟨.func #[25] #[69] false, 1, 8, .nilFunc⟩
def y71 : Ty := ⟨.func #[3, 67] #[3, 40] true, 1, 8, .nilFunc⟩
def y72 : Ty := ⟨.func #[3] #[40] false, 1, 8, .nilFunc⟩
def y73 : Ty := ⟨.struct #[{ name := "Freed", type := 25, offset := 0, embedded := false, tag := "", pkgPath := "", byteOffset := 0 }, { name := "Lost", type := 3, offset := 1, embedded := false, tag := "", pkgPath := "", byteOffset := 24 }], 2, 32, .agg #[.slice none 0 0, .int .i64 0]⟩
def y74 : Ty := ⟨.struct #[{ name := "Freed", type := 25, offset := 0, embedded := false, tag := "", pkgPath := "", byteOffset := 0 }, { name := "Lost", type := 3, offset := 1, embedded := false, tag := "", pkgPath := "", byteOffset := 24 }], 2, 32, .agg #[.slice none 0 0, .int .i64 0]⟩
def y76 : Ty := ⟨.func #[] #[74, 40] false, 1, 8, .nilFunc⟩
def y77 : Ty := ⟨.func #[] #[40] false, 1, 8, .nilFunc⟩
def y78 : Ty := ⟨.struct #[{ name := "Chunks", type := 3, offset := 0, embedded := false, tag := "", pkgPath := "", byteOffset := 0 }, { name := "Objects", type := 3, offset := 1, embedded := false, tag := "", pkgPath := "", byteOffset := 8 }, { name := "Words", type := 3, offset := 2, embedded := false, tag := "", pkgPath := "", byteOffset := 16 }, { name := "Live", type := 3, offset := 3, embedded := false, tag := "", pkgPath := "", byteOffset := 24 }, { name := "Roots", type := 3, offset := 4, embedded := false, tag := "", pkgPath := "", byteOffset := 32 }, { name := "Remembered", type := 3, offset := 5, embedded := false, tag := "", pkgPath := "", byteOffset := 40 }], 6, 48, .agg #[.int .i64 0, .int .i64 0, .int .i64 0, .int .i64 0, .int .i64 0, .int .i64 0]⟩
def y79 : Ty := ⟨.struct #[{ name := "Chunks", type := 3, offset := 0, embedded := false, tag := "", pkgPath := "", byteOffset := 0 }, { name := "Objects", type := 3, offset := 1, embedded := false, tag := "", pkgPath := "", byteOffset := 8 }, { name := "Words", type := 3, offset := 2, embedded := false, tag := "", pkgPath := "", byteOffset := 16 }, { name := "Live", type := 3, offset := 3, embedded := false, tag := "", pkgPath := "", byteOffset := 24 }, { name := "Roots", type := 3, offset := 4, embedded := false, tag := "", pkgPath := "", byteOffset := 32 }, { name := "Remembered", type := 3, offset := 5, embedded := false, tag := "", pkgPath := "", byteOffset := 40 }], 6, 48, .agg #[.int .i64 0, .int .i64 0, .int .i64 0, .int .i64 0, .int .i64 0, .int .i64 0]⟩
def y81 : Ty := ⟨.func #[27, 3] #[79, 40] false, 1, 8, .nilFunc⟩
def y82 : Ty := ⟨.pointer 175, 1, 8, .pointer none⟩
def y83 : Ty := ⟨.pointer 201, 1, 8, .pointer none⟩
def y84 : Ty := ⟨.pointer 266, 1, 8, .pointer none⟩
def y85 : Ty := ⟨.pointer 178, 1, 8, .pointer none⟩
def y86 : Ty := ⟨.pointer 153, 1, 8, .pointer none⟩
def y87 : Ty := ⟨.pointer 233, 1, 8, .pointer none⟩
def y88 : Ty := ⟨.map 3 52, 1, 8, .map none⟩
def y89 : Ty := ⟨.map 3 117, 1, 8, .map none⟩
def y90 : Ty := ⟨.struct #[{ name := "Store", type := 82, offset := 0, embedded := false, tag := "", pkgPath := "", byteOffset := 0 }, { name := "Book", type := 83, offset := 1, embedded := false, tag := "", pkgPath := "", byteOffset := 8 }, { name := "Images", type := 84, offset := 2, embedded := false, tag := "", pkgPath := "", byteOffset := 16 }, { name := "Table", type := 85, offset := 3, embedded := false, tag := "", pkgPath := "", byteOffset := 24 }, { name := "Tree", type := 86, offset := 4, embedded := false, tag := "", pkgPath := "", byteOffset := 32 }, { name := "Rem", type := 87, offset := 5, embedded := false, tag := "", pkgPath := "", byteOffset := 40 }, { name := "Spaces", type := 88, offset := 6, embedded := false, tag := "", pkgPath := "", byteOffset := 48 }, { name := "Mine", type := 89, offset := 7, embedded := false, tag := "", pkgPath := "", byteOffset := 56 }], 8, 64, .agg #[.pointer none, .pointer none, .pointer none, .pointer none, .pointer none, .pointer none, .map none, .map none]⟩
def y91 : Ty := ⟨.struct #[{ name := "Store", type := 82, offset := 0, embedded := false, tag := "", pkgPath := "", byteOffset := 0 }, { name := "Book", type := 83, offset := 1, embedded := false, tag := "", pkgPath := "", byteOffset := 8 }, { name := "Images", type := 84, offset := 2, embedded := false, tag := "", pkgPath := "", byteOffset := 16 }, { name := "Table", type := 85, offset := 3, embedded := false, tag := "", pkgPath := "", byteOffset := 24 }, { name := "Tree", type := 86, offset := 4, embedded := false, tag := "", pkgPath := "", byteOffset := 32 }, { name := "Rem", type := 87, offset := 5, embedded := false, tag := "", pkgPath := "", byteOffset := 40 }, { name := "Spaces", type := 88, offset := 6, embedded := false, tag := "", pkgPath := "", byteOffset := 48 }, { name := "Mine", type := 89, offset := 7, embedded := false, tag := "", pkgPath := "", byteOffset := 56 }], 8, 64, .agg #[.pointer none, .pointer none, .pointer none, .pointer none, .pointer none, .pointer none, .map none, .map none]⟩
def y92 : Ty := ⟨.func #[27, 3, 25] #[25] false, 1, 8, .nilFunc⟩
def y93 : Ty := ⟨.func #[27] #[4] false, 1, 8, .nilFunc⟩
def y94 : Ty := ⟨.func #[179] #[] false, 1, 8, .nilFunc⟩
def y95 : Ty := ⟨.func #[179] #[] false, 1, 8, .nilFunc⟩
def y96 : Ty := ⟨.func #[] #[95] false, 1, 8, .nilFunc⟩
def y97 : Ty := ⟨.struct #[{ name := "Addr", type := 3, offset := 0, embedded := false, tag := "", pkgPath := "", byteOffset := 0 }, { name := "Region", type := 3, offset := 1, embedded := false, tag := "", pkgPath := "", byteOffset := 8 }, { name := "Held", type := 4, offset := 2, embedded := false, tag := "", pkgPath := "", byteOffset := 16 }, { name := "Pinned", type := 4, offset := 3, embedded := false, tag := "", pkgPath := "", byteOffset := 17 }], 4, 24, .agg #[.int .i64 0, .int .i64 0, .bool false, .bool false]⟩
def y98 : Ty := ⟨.struct #[{ name := "Addr", type := 3, offset := 0, embedded := false, tag := "", pkgPath := "", byteOffset := 0 }, { name := "Region", type := 3, offset := 1, embedded := false, tag := "", pkgPath := "", byteOffset := 8 }, { name := "Held", type := 4, offset := 2, embedded := false, tag := "", pkgPath := "", byteOffset := 16 }, { name := "Pinned", type := 4, offset := 3, embedded := false, tag := "", pkgPath := "", byteOffset := 17 }], 4, 24, .agg #[.int .i64 0, .int .i64 0, .bool false, .bool false]⟩
def y99 : Ty := ⟨.func #[27, 3, 98] #[3] false, 1, 8, .nilFunc⟩
def y100 : Ty := ⟨.struct #[{ name := "h", type := 27, offset := 0, embedded := false, tag := "", pkgPath := "turnrow/op", byteOffset := 0 }], 1, 8, .agg #[.pointer none]⟩
def y101 : Ty := ⟨.struct #[{ name := "h", type := 27, offset := 0, embedded := false, tag := "", pkgPath := "turnrow/op", byteOffset := 0 }], 1, 8, .agg #[.pointer none]⟩
def y103 : Ty := ⟨.func #[3, 3, 3] #[51, 40] false, 1, 8, .nilFunc⟩
def y104 : Ty := ⟨.func #[26, 25] #[25, 40] false, 1, 8, .nilFunc⟩
def y105 : Ty := ⟨.struct #[{ name := "args", type := 3, offset := 0, embedded := false, tag := "", pkgPath := "turnrow/op", byteOffset := 0 }, { name := "do", type := 104, offset := 1, embedded := false, tag := "", pkgPath := "turnrow/op", byteOffset := 8 }], 2, 16, .agg #[.int .i64 0, .nilFunc]⟩
def y106 : Ty := ⟨.struct #[{ name := "args", type := 3, offset := 0, embedded := false, tag := "", pkgPath := "turnrow/op", byteOffset := 0 }, { name := "do", type := 104, offset := 1, embedded := false, tag := "", pkgPath := "turnrow/op", byteOffset := 8 }], 2, 16, .agg #[.int .i64 0, .nilFunc]⟩
def y108 : Ty := ⟨.map 3 106, 1, 8, .map none⟩
def y109 : Ty := ⟨.func #[] #[108] false, 1, 8, .nilFunc⟩
def y110 : Ty := ⟨.struct #[{ name := "Fixed", type := 3, offset := 0, embedded := false, tag := "", pkgPath := "", byteOffset := 0 }, { name := "Refs", type := 25, offset := 1, embedded := false, tag := "", pkgPath := "", byteOffset := 8 }, { name := "Record", type := 3, offset := 2, embedded := false, tag := "", pkgPath := "", byteOffset := 32 }, { name := "RecRefs", type := 25, offset := 3, embedded := false, tag := "", pkgPath := "", byteOffset := 40 }], 4, 64, .agg #[.int .i64 0, .slice none 0 0, .int .i64 0, .slice none 0 0]⟩
def y111 : Ty := ⟨.struct #[{ name := "Fixed", type := 3, offset := 0, embedded := false, tag := "", pkgPath := "", byteOffset := 0 }, { name := "Refs", type := 25, offset := 1, embedded := false, tag := "", pkgPath := "", byteOffset := 8 }, { name := "Record", type := 3, offset := 2, embedded := false, tag := "", pkgPath := "", byteOffset := 32 }, { name := "RecRefs", type := 25, offset := 3, embedded := false, tag := "", pkgPath := "", byteOffset := 40 }], 4, 64, .agg #[.int .i64 0, .slice none 0 0, .int .i64 0, .slice none 0 0]⟩
def y113 : Ty := ⟨.func #[63] #[111, 40] false, 1, 8, .nilFunc⟩
def y114 : Ty := ⟨.func #[111] #[3, 40] false, 1, 8, .nilFunc⟩
def y116 : Ty := ⟨.func #[82, 3] #[52, 40] false, 1, 8, .nilFunc⟩
def y117 : Ty := ⟨.pointer 207, 1, 8, .pointer none⟩
def y118 : Ty := ⟨.func #[25] #[117] true, 1, 8, .nilFunc⟩
def y119 : Ty := ⟨.func #[25] #[] true, 1, 8, .nilFunc⟩
def y120 : Ty := ⟨.func #[51, 3] #[25, 40] false, 1, 8, .nilFunc⟩
def y121 : Ty := ⟨.func #[] #[51] false, 1, 8, .nilFunc⟩
def y122 : Ty := ⟨.func #[3] #[4] false, 1, 8, .nilFunc⟩
def y123 : Ty := ⟨.func #[51, 3] #[3, 40] false, 1, 8, .nilFunc⟩
def y124 : Ty := ⟨.func #[51, 3, 67] #[3, 40] true, 1, 8, .nilFunc⟩
def y125 : Ty := ⟨.func #[] #[53] false, 1, 8, .nilFunc⟩
def y126 : Ty := ⟨.func #[122] #[] false, 1, 8, .nilFunc⟩
def y127 : Ty := ⟨.func #[122] #[] false, 1, 8, .nilFunc⟩
def y128 : Ty := ⟨.func #[] #[127] false, 1, 8, .nilFunc⟩
def y130 : Ty := ⟨.func #[3] #[69, 98] false, 1, 8, .nilFunc⟩
def y131 : Ty := ⟨.slice 212, 1, 24, .slice none 0 0⟩
def y132 : Ty := ⟨.func #[3] #[131] false, 1, 8, .nilFunc⟩
def y133 : Ty := ⟨.func #[25] #[3] true, 1, 8, .nilFunc⟩
def y135 : Ty := ⟨.func #[] #[3, 4] false, 1, 8, .nilFunc⟩
def y136 : Ty := ⟨.int .i64, 1, 8, .int .i64 0⟩
def y137 : Ty := ⟨.func #[3] #[136] false, 1, 8, .nilFunc⟩
def y138 : Ty := ⟨.func #[3] #[] false, 1, 8, .nilFunc⟩
def y139 : Ty := ⟨.map 3 3, 1, 8, .map none⟩
def y140 : Ty := ⟨.struct #[{ name := "Layout", type := 3, offset := 0, embedded := false, tag := "", pkgPath := "", byteOffset := 0 }, { name := "Count", type := 3, offset := 1, embedded := false, tag := "", pkgPath := "", byteOffset := 8 }, { name := "Slot", type := 3, offset := 2, embedded := false, tag := "", pkgPath := "", byteOffset := 16 }], 3, 24, .agg #[.int .i64 0, .int .i64 0, .int .i64 0]⟩
def y141 : Ty := ⟨.struct #[{ name := "Layout", type := 3, offset := 0, embedded := false, tag := "", pkgPath := "", byteOffset := 0 }, { name := "Count", type := 3, offset := 1, embedded := false, tag := "", pkgPath := "", byteOffset := 8 }, { name := "Slot", type := 3, offset := 2, embedded := false, tag := "", pkgPath := "", byteOffset := 16 }], 3, 24, .agg #[.int .i64 0, .int .i64 0, .int .i64 0]⟩
def y143 : Ty := ⟨.func #[3] #[141, 3, 40] false, 1, 8, .nilFunc⟩
def y144 : Ty := ⟨.func #[] #[25] false, 1, 8, .nilFunc⟩
def y145 : Ty := ⟨.func #[25] #[] false, 1, 8, .nilFunc⟩
def y146 : Ty := ⟨.func #[52] #[40] false, 1, 8, .nilFunc⟩
def y147 : Ty := ⟨.func #[3] #[25] false, 1, 8, .nilFunc⟩
def y148 : Ty := ⟨.slice 150, 1, 24, .slice none 0 0⟩
def y149 : Ty := ⟨.struct #[{ name := "From", type := 3, offset := 0, embedded := false, tag := "", pkgPath := "", byteOffset := 0 }, { name := "To", type := 3, offset := 1, embedded := false, tag := "", pkgPath := "", byteOffset := 8 }], 2, 16, .agg #[.int .i64 0, .int .i64 0]⟩
def y150 : Ty := ⟨.struct #[{ name := "From", type := 3, offset := 0, embedded := false, tag := "", pkgPath := "", byteOffset := 0 }, { name := "To", type := 3, offset := 1, embedded := false, tag := "", pkgPath := "", byteOffset := 8 }], 2, 16, .agg #[.int .i64 0, .int .i64 0]⟩
def y151 : Ty := ⟨.func #[25, 148] #[25] false, 1, 8, .nilFunc⟩
def y152 : Ty := ⟨.struct #[{ name := "parent", type := 139, offset := 0, embedded := false, tag := "", pkgPath := "turnrow/tree", byteOffset := 0 }, { name := "last", type := 3, offset := 1, embedded := false, tag := "", pkgPath := "turnrow/tree", byteOffset := 8 }], 2, 16, .agg #[.map none, .int .i64 0]⟩
def y153 : Ty := ⟨.struct #[{ name := "parent", type := 139, offset := 0, embedded := false, tag := "", pkgPath := "turnrow/tree", byteOffset := 0 }, { name := "last", type := 3, offset := 1, embedded := false, tag := "", pkgPath := "turnrow/tree", byteOffset := 8 }], 2, 16, .agg #[.map none, .int .i64 0]⟩
def y155 : Ty := ⟨.func #[3, 3, 3] #[69, 40] false, 1, 8, .nilFunc⟩
def y157 : Ty := ⟨.func #[69, 3] #[62, 40] false, 1, 8, .nilFunc⟩
def y158 : Ty := ⟨.func #[69, 3, 62] #[40] false, 1, 8, .nilFunc⟩
def y159 : Ty := ⟨.struct #[{ name := "Kind", type := 3, offset := 0, embedded := false, tag := "", pkgPath := "", byteOffset := 0 }, { name := "Token", type := 69, offset := 1, embedded := false, tag := "", pkgPath := "", byteOffset := 8 }], 3, 24, .agg #[.int .i64 0, .int .i64 0, .int .i64 0]⟩
def y160 : Ty := ⟨.struct #[{ name := "Kind", type := 3, offset := 0, embedded := false, tag := "", pkgPath := "", byteOffset := 0 }, { name := "Token", type := 69, offset := 1, embedded := false, tag := "", pkgPath := "", byteOffset := 8 }], 3, 24, .agg #[.int .i64 0, .int .i64 0, .int .i64 0]⟩
def y162 : Ty := ⟨.func #[69, 3] #[160, 40] false, 1, 8, .nilFunc⟩
def y163 : Ty := ⟨.func #[160] #[25] false, 1, 8, .nilFunc⟩
def y164 : Ty := ⟨.func #[69, 3, 69] #[40] false, 1, 8, .nilFunc⟩
def y165 : Ty := ⟨.func #[69, 3] #[40] false, 1, 8, .nilFunc⟩
def y166 : Ty := ⟨.func #[69] #[40] false, 1, 8, .nilFunc⟩
def y167 : Ty := ⟨.func #[69, 4] #[40] false, 1, 8, .nilFunc⟩
def y168 : Ty := ⟨.struct #[{ name := "Region", type := 3, offset := 0, embedded := false, tag := "", pkgPath := "", byteOffset := 0 }, { name := "Layout", type := 3, offset := 1, embedded := false, tag := "", pkgPath := "", byteOffset := 8 }, { name := "Count", type := 3, offset := 2, embedded := false, tag := "", pkgPath := "", byteOffset := 16 }, { name := "Words", type := 3, offset := 3, embedded := false, tag := "", pkgPath := "", byteOffset := 24 }, { name := "Pinned", type := 4, offset := 4, embedded := false, tag := "", pkgPath := "", byteOffset := 32 }], 5, 40, .agg #[.int .i64 0, .int .i64 0, .int .i64 0, .int .i64 0, .bool false]⟩
def y169 : Ty := ⟨.struct #[{ name := "Region", type := 3, offset := 0, embedded := false, tag := "", pkgPath := "", byteOffset := 0 }, { name := "Layout", type := 3, offset := 1, embedded := false, tag := "", pkgPath := "", byteOffset := 8 }, { name := "Count", type := 3, offset := 2, embedded := false, tag := "", pkgPath := "", byteOffset := 16 }, { name := "Words", type := 3, offset := 3, embedded := false, tag := "", pkgPath := "", byteOffset := 24 }, { name := "Pinned", type := 4, offset := 4, embedded := false, tag := "", pkgPath := "", byteOffset := 32 }], 5, 40, .agg #[.int .i64 0, .int .i64 0, .int .i64 0, .int .i64 0, .bool false]⟩
def y171 : Ty := ⟨.func #[69] #[169, 40] false, 1, 8, .nilFunc⟩
def y172 : Ty := ⟨.func #[4] #[3] false, 1, 8, .nilFunc⟩
def y173 : Ty := ⟨.pointer 262, 1, 8, .pointer none⟩
def y174 : Ty := ⟨.struct #[{ name := "w", type := 63, offset := 0, embedded := false, tag := "", pkgPath := "turnrow/store", byteOffset := 0 }, { name := "size", type := 3, offset := 1, embedded := false, tag := "", pkgPath := "turnrow/store", byteOffset := 24 }, { name := "owner", type := 25, offset := 2, embedded := false, tag := "", pkgPath := "turnrow/store", byteOffset := 32 }, { name := "used", type := 173, offset := 3, embedded := false, tag := "", pkgPath := "turnrow/store", byteOffset := 56 }], 4, 64, .agg #[.slice none 0 0, .int .i64 0, .slice none 0 0, .pointer none]⟩
def y175 : Ty := ⟨.struct #[{ name := "w", type := 63, offset := 0, embedded := false, tag := "", pkgPath := "turnrow/store", byteOffset := 0 }, { name := "size", type := 3, offset := 1, embedded := false, tag := "", pkgPath := "turnrow/store", byteOffset := 24 }, { name := "owner", type := 25, offset := 2, embedded := false, tag := "", pkgPath := "turnrow/store", byteOffset := 32 }, { name := "used", type := 173, offset := 3, embedded := false, tag := "", pkgPath := "turnrow/store", byteOffset := 56 }], 4, 64, .agg #[.slice none 0 0, .int .i64 0, .slice none 0 0, .pointer none]⟩
def y176 : Ty := ⟨.slice 183, 1, 24, .slice none 0 0⟩
def y177 : Ty := ⟨.struct #[{ name := "l", type := 176, offset := 0, embedded := false, tag := "", pkgPath := "turnrow/table", byteOffset := 0 }, { name := "taken", type := 173, offset := 1, embedded := false, tag := "", pkgPath := "turnrow/table", byteOffset := 24 }, { name := "gone", type := 3, offset := 2, embedded := false, tag := "", pkgPath := "turnrow/table", byteOffset := 32 }], 3, 40, .agg #[.slice none 0 0, .pointer none, .int .i64 0]⟩
def y178 : Ty := ⟨.struct #[{ name := "l", type := 176, offset := 0, embedded := false, tag := "", pkgPath := "turnrow/table", byteOffset := 0 }, { name := "taken", type := 173, offset := 1, embedded := false, tag := "", pkgPath := "turnrow/table", byteOffset := 24 }, { name := "gone", type := 3, offset := 2, embedded := false, tag := "", pkgPath := "turnrow/table", byteOffset := 32 }], 3, 40, .agg #[.slice none 0 0, .pointer none, .int .i64 0]⟩
def y179 : Ty := ⟨.func #[69, 98] #[4] false, 1, 8, .nilFunc⟩
def y181 : Ty := ⟨.func #[3] #[69, 4] false, 1, 8, .nilFunc⟩
def y182 : Ty := ⟨.struct #[{ name := "gen", type := 3, offset := 0, embedded := false, tag := "", pkgPath := "turnrow/table", byteOffset := 0 }, { name := "used", type := 4, offset := 1, embedded := false, tag := "", pkgPath := "turnrow/table", byteOffset := 8 }, { name := "entry", type := 98, offset := 2, embedded := false, tag := "", pkgPath := "turnrow/table", byteOffset := 16 }], 6, 40, .agg #[.int .i64 0, .bool false, .int .i64 0, .int .i64 0, .bool false, .bool false]⟩
def y183 : Ty := ⟨.struct #[{ name := "gen", type := 3, offset := 0, embedded := false, tag := "", pkgPath := "turnrow/table", byteOffset := 0 }, { name := "used", type := 4, offset := 1, embedded := false, tag := "", pkgPath := "turnrow/table", byteOffset := 8 }, { name := "entry", type := 98, offset := 2, embedded := false, tag := "", pkgPath := "turnrow/table", byteOffset := 16 }], 6, 40, .agg #[.int .i64 0, .bool false, .int .i64 0, .int .i64 0, .bool false, .bool false]⟩
def y185 : Ty := ⟨.func #[3, 3] #[82, 40] false, 1, 8, .nilFunc⟩
def y187 : Ty := ⟨.func #[3] #[85, 40] false, 1, 8, .nilFunc⟩
def y188 : Ty := ⟨.func #[] #[83] false, 1, 8, .nilFunc⟩
def y190 : Ty := ⟨.func #[82, 83] #[84, 40] false, 1, 8, .nilFunc⟩
def y191 : Ty := ⟨.func #[] #[86] false, 1, 8, .nilFunc⟩
def y192 : Ty := ⟨.func #[] #[87] false, 1, 8, .nilFunc⟩
def y194 : Ty := ⟨.func #[62, 195] #[63, 40] false, 1, 8, .nilFunc⟩
def y195 : Ty := ⟨.slice 269, 1, 24, .slice none 0 0⟩
def y196 : Ty := ⟨.func #[] #[195] false, 1, 8, .nilFunc⟩
def y197 : Ty := ⟨.func #[62] #[25] false, 1, 8, .nilFunc⟩
def y198 : Ty := ⟨.func #[111] #[4] false, 1, 8, .nilFunc⟩
def y199 : Ty := ⟨.slice 111, 1, 24, .slice none 0 0⟩
def y200 : Ty := ⟨.struct #[{ name := "l", type := 199, offset := 0, embedded := false, tag := "", pkgPath := "turnrow/layout", byteOffset := 0 }], 1, 24, .agg #[.slice none 0 0]⟩
def y201 : Ty := ⟨.struct #[{ name := "l", type := 199, offset := 0, embedded := false, tag := "", pkgPath := "turnrow/layout", byteOffset := 0 }], 1, 24, .agg #[.slice none 0 0]⟩
def y202 : Ty := ⟨.func #[111] #[111] false, 1, 8, .nilFunc⟩
def y203 : Ty := ⟨.slice 246, 1, 24, .slice none 0 0⟩
def y204 : Ty := ⟨.struct #[{ name := "s", type := 82, offset := 0, embedded := false, tag := "", pkgPath := "turnrow/bump", byteOffset := 0 }, { name := "owner", type := 3, offset := 1, embedded := false, tag := "", pkgPath := "turnrow/bump", byteOffset := 8 }, { name := "parts", type := 203, offset := 2, embedded := false, tag := "", pkgPath := "turnrow/bump", byteOffset := 16 }, { name := "at", type := 3, offset := 3, embedded := false, tag := "", pkgPath := "turnrow/bump", byteOffset := 40 }, { name := "end", type := 3, offset := 4, embedded := false, tag := "", pkgPath := "turnrow/bump", byteOffset := 48 }], 5, 56, .agg #[.pointer none, .int .i64 0, .slice none 0 0, .int .i64 0, .int .i64 0]⟩
def y205 : Ty := ⟨.struct #[{ name := "s", type := 82, offset := 0, embedded := false, tag := "", pkgPath := "turnrow/bump", byteOffset := 0 }, { name := "owner", type := 3, offset := 1, embedded := false, tag := "", pkgPath := "turnrow/bump", byteOffset := 8 }, { name := "parts", type := 203, offset := 2, embedded := false, tag := "", pkgPath := "turnrow/bump", byteOffset := 16 }, { name := "at", type := 3, offset := 3, embedded := false, tag := "", pkgPath := "turnrow/bump", byteOffset := 40 }, { name := "end", type := 3, offset := 4, embedded := false, tag := "", pkgPath := "turnrow/bump", byteOffset := 48 }], 5, 56, .agg #[.pointer none, .int .i64 0, .slice none 0 0, .int .i64 0, .int .i64 0]⟩
def y206 : Ty := ⟨.struct #[{ name := "l", type := 25, offset := 0, embedded := false, tag := "", pkgPath := "turnrow/bag", byteOffset := 0 }], 1, 24, .agg #[.slice none 0 0]⟩
def y207 : Ty := ⟨.struct #[{ name := "l", type := 25, offset := 0, embedded := false, tag := "", pkgPath := "turnrow/bag", byteOffset := 0 }], 1, 24, .agg #[.slice none 0 0]⟩
def y208 : Ty := ⟨.func #[25, 3] #[4] false, 1, 8, .nilFunc⟩
def y209 : Ty := ⟨.func #[51, 3] #[40] false, 1, 8, .nilFunc⟩
def y210 : Ty := ⟨.func #[117] #[] false, 1, 8, .nilFunc⟩
def y211 : Ty := ⟨.struct #[{ name := "Source", type := 3, offset := 0, embedded := false, tag := "", pkgPath := "", byteOffset := 0 }, { name := "Place", type := 3, offset := 1, embedded := false, tag := "", pkgPath := "", byteOffset := 8 }], 2, 16, .agg #[.int .i64 0, .int .i64 0]⟩
def y212 : Ty := ⟨.struct #[{ name := "Source", type := 3, offset := 0, embedded := false, tag := "", pkgPath := "", byteOffset := 0 }, { name := "Place", type := 3, offset := 1, embedded := false, tag := "", pkgPath := "", byteOffset := 8 }], 2, 16, .agg #[.int .i64 0, .int .i64 0]⟩
def y213 : Ty := ⟨.func #[51, 3] #[69, 98] false, 1, 8, .nilFunc⟩
def y214 : Ty := ⟨.func #[3, 3, 160] #[40] false, 1, 8, .nilFunc⟩
def y215 : Ty := ⟨.func #[212] #[4] false, 1, 8, .nilFunc⟩
def y216 : Ty := ⟨.func #[51, 3, 3, 3] #[] false, 1, 8, .nilFunc⟩
def y217 : Ty := ⟨.func #[51, 25] #[] true, 1, 8, .nilFunc⟩
def y218 : Ty := ⟨.func #[51, 3, 67] #[40] false, 1, 8, .nilFunc⟩
def y219 : Ty := ⟨.map 69 3, 1, 8, .map none⟩
def y221 : Ty := ⟨.func #[69] #[98, 40] false, 1, 8, .nilFunc⟩
def y222 : Ty := ⟨.func #[52, 3] #[40] false, 1, 8, .nilFunc⟩
def y223 : Ty := ⟨.func #[3, 3] #[3, 40] false, 1, 8, .nilFunc⟩
def y224 : Ty := ⟨.map 3 237, 1, 8, .map none⟩
def y225 : Ty := ⟨.slice 235, 1, 24, .slice none 0 0⟩
def y226 : Ty := ⟨.struct #[{ name := "by", type := 224, offset := 0, embedded := false, tag := "", pkgPath := "turnrow/gray", byteOffset := 0 }, { name := "queue", type := 225, offset := 1, embedded := false, tag := "", pkgPath := "turnrow/gray", byteOffset := 8 }, { name := "last", type := 3, offset := 2, embedded := false, tag := "", pkgPath := "turnrow/gray", byteOffset := 32 }, { name := "wait", type := 3, offset := 3, embedded := false, tag := "", pkgPath := "turnrow/gray", byteOffset := 40 }], 4, 48, .agg #[.map none, .slice none 0 0, .int .i64 0, .int .i64 0]⟩
def y227 : Ty := ⟨.struct #[{ name := "by", type := 224, offset := 0, embedded := false, tag := "", pkgPath := "turnrow/gray", byteOffset := 0 }, { name := "queue", type := 225, offset := 1, embedded := false, tag := "", pkgPath := "turnrow/gray", byteOffset := 8 }, { name := "last", type := 3, offset := 2, embedded := false, tag := "", pkgPath := "turnrow/gray", byteOffset := 32 }, { name := "wait", type := 3, offset := 3, embedded := false, tag := "", pkgPath := "turnrow/gray", byteOffset := 40 }], 4, 48, .agg #[.map none, .slice none 0 0, .int .i64 0, .int .i64 0]⟩
def y228 : Ty := ⟨.func #[25] #[127] false, 1, 8, .nilFunc⟩
def y229 : Ty := ⟨.func #[230] #[131] false, 1, 8, .nilFunc⟩
def y230 : Ty := ⟨.map 212 3, 1, 8, .map none⟩
def y231 : Ty := ⟨.map 3 230, 1, 8, .map none⟩
def y232 : Ty := ⟨.struct #[{ name := "to", type := 230, offset := 0, embedded := false, tag := "", pkgPath := "turnrow/remset", byteOffset := 0 }, { name := "of", type := 231, offset := 1, embedded := false, tag := "", pkgPath := "turnrow/remset", byteOffset := 8 }, { name := "from", type := 231, offset := 2, embedded := false, tag := "", pkgPath := "turnrow/remset", byteOffset := 16 }], 3, 24, .agg #[.map none, .map none, .map none]⟩
def y233 : Ty := ⟨.struct #[{ name := "to", type := 230, offset := 0, embedded := false, tag := "", pkgPath := "turnrow/remset", byteOffset := 0 }, { name := "of", type := 231, offset := 1, embedded := false, tag := "", pkgPath := "turnrow/remset", byteOffset := 8 }, { name := "from", type := 231, offset := 2, embedded := false, tag := "", pkgPath := "turnrow/remset", byteOffset := 16 }], 3, 24, .agg #[.map none, .map none, .map none]⟩
def y234 : Ty := ⟨.struct #[{ name := "x", type := 3, offset := 0, embedded := false, tag := "", pkgPath := "turnrow/gray", byteOffset := 0 }, { name := "n", type := 3, offset := 1, embedded := false, tag := "", pkgPath := "turnrow/gray", byteOffset := 8 }], 2, 16, .agg #[.int .i64 0, .int .i64 0]⟩
def y235 : Ty := ⟨.struct #[{ name := "x", type := 3, offset := 0, embedded := false, tag := "", pkgPath := "turnrow/gray", byteOffset := 0 }, { name := "n", type := 3, offset := 1, embedded := false, tag := "", pkgPath := "turnrow/gray", byteOffset := 8 }], 2, 16, .agg #[.int .i64 0, .int .i64 0]⟩
def y236 : Ty := ⟨.struct #[{ name := "color", type := 136, offset := 0, embedded := false, tag := "", pkgPath := "turnrow/gray", byteOffset := 0 }, { name := "turn", type := 3, offset := 1, embedded := false, tag := "", pkgPath := "turnrow/gray", byteOffset := 8 }], 2, 16, .agg #[.int .i64 0, .int .i64 0]⟩
def y237 : Ty := ⟨.struct #[{ name := "color", type := 136, offset := 0, embedded := false, tag := "", pkgPath := "turnrow/gray", byteOffset := 0 }, { name := "turn", type := 3, offset := 1, embedded := false, tag := "", pkgPath := "turnrow/gray", byteOffset := 8 }], 2, 16, .agg #[.int .i64 0, .int .i64 0]⟩
def y238 : Ty := ⟨.func #[98] #[4] false, 1, 8, .nilFunc⟩
def y239 : Ty := ⟨.func #[69, 98] #[40] false, 1, 8, .nilFunc⟩
def y241 : Ty := ⟨.func #[3] #[98, 4] false, 1, 8, .nilFunc⟩
def y242 : Ty := ⟨.func #[3] #[3] false, 1, 8, .nilFunc⟩
def y244 : Ty := ⟨.func #[3] #[141, 111, 3, 40] false, 1, 8, .nilFunc⟩
def y245 : Ty := ⟨.struct #[{ name := "first", type := 3, offset := 0, embedded := false, tag := "", pkgPath := "turnrow/bump", byteOffset := 0 }, { name := "n", type := 3, offset := 1, embedded := false, tag := "", pkgPath := "turnrow/bump", byteOffset := 8 }], 2, 16, .agg #[.int .i64 0, .int .i64 0]⟩
def y246 : Ty := ⟨.struct #[{ name := "first", type := 3, offset := 0, embedded := false, tag := "", pkgPath := "turnrow/bump", byteOffset := 0 }, { name := "n", type := 3, offset := 1, embedded := false, tag := "", pkgPath := "turnrow/bump", byteOffset := 8 }], 2, 16, .agg #[.int .i64 0, .int .i64 0]⟩
def y248 : Ty := ⟨.func #[3] #[246, 4] false, 1, 8, .nilFunc⟩
def y249 : Ty := ⟨.func #[246] #[] false, 1, 8, .nilFunc⟩
def y250 : Ty := ⟨.func #[25, 3, 3, 3] #[] false, 1, 8, .nilFunc⟩
def y251 : Ty := ⟨.func #[252] #[3] false, 1, 8, .nilFunc⟩
def y252 : Ty := ⟨.int .u64, 1, 8, .int .u64 0⟩
def y253 : Ty := ⟨.func #[309] #[] false, 1, 8, .nilFunc⟩
def y254 : Ty := ⟨.func #[309] #[] false, 1, 8, .nilFunc⟩
def y255 : Ty := ⟨.func #[3] #[254] false, 1, 8, .nilFunc⟩
def y256 : Ty := ⟨.func #[69] #[] false, 1, 8, .nilFunc⟩
def y257 : Ty := ⟨.func #[69, 259] #[40] false, 1, 8, .nilFunc⟩
def y258 : Ty := ⟨.func #[3, 3] #[160, 40] false, 1, 8, .nilFunc⟩
def y259 : Ty := ⟨.func #[98] #[40] false, 1, 8, .nilFunc⟩
def y260 : Ty := ⟨.func #[69, 3, 160] #[40] false, 1, 8, .nilFunc⟩
def y261 : Ty := ⟨.struct #[{ name := "n", type := 3, offset := 0, embedded := false, tag := "", pkgPath := "turnrow/bitmap", byteOffset := 0 }, { name := "w", type := 63, offset := 1, embedded := false, tag := "", pkgPath := "turnrow/bitmap", byteOffset := 8 }, { name := "many", type := 3, offset := 2, embedded := false, tag := "", pkgPath := "turnrow/bitmap", byteOffset := 32 }], 3, 40, .agg #[.int .i64 0, .slice none 0 0, .int .i64 0]⟩
def y262 : Ty := ⟨.struct #[{ name := "n", type := 3, offset := 0, embedded := false, tag := "", pkgPath := "turnrow/bitmap", byteOffset := 0 }, { name := "w", type := 63, offset := 1, embedded := false, tag := "", pkgPath := "turnrow/bitmap", byteOffset := 8 }, { name := "many", type := 3, offset := 2, embedded := false, tag := "", pkgPath := "turnrow/bitmap", byteOffset := 32 }], 3, 40, .agg #[.int .i64 0, .slice none 0 0, .int .i64 0]⟩
def y264 : Ty := ⟨.func #[3] #[173, 40] false, 1, 8, .nilFunc⟩
def y265 : Ty := ⟨.struct #[{ name := "s", type := 82, offset := 0, embedded := false, tag := "", pkgPath := "turnrow/image", byteOffset := 0 }, { name := "b", type := 83, offset := 1, embedded := false, tag := "", pkgPath := "turnrow/image", byteOffset := 8 }], 2, 16, .agg #[.pointer none, .pointer none]⟩
def y266 : Ty := ⟨.struct #[{ name := "s", type := 82, offset := 0, embedded := false, tag := "", pkgPath := "turnrow/image", byteOffset := 0 }, { name := "b", type := 83, offset := 1, embedded := false, tag := "", pkgPath := "turnrow/image", byteOffset := 8 }], 2, 16, .agg #[.pointer none, .pointer none]⟩
def y267 : Ty := ⟨.func #[195] #[4] true, 1, 8, .nilFunc⟩
def y268 : Ty := ⟨.struct #[{ name := "At", type := 3, offset := 0, embedded := false, tag := "", pkgPath := "", byteOffset := 0 }, { name := "Width", type := 3, offset := 1, embedded := false, tag := "", pkgPath := "", byteOffset := 8 }], 2, 16, .agg #[.int .i64 0, .int .i64 0]⟩
def y269 : Ty := ⟨.struct #[{ name := "At", type := 3, offset := 0, embedded := false, tag := "", pkgPath := "", byteOffset := 0 }, { name := "Width", type := 3, offset := 1, embedded := false, tag := "", pkgPath := "", byteOffset := 8 }], 2, 16, .agg #[.int .i64 0, .int .i64 0]⟩
def y270 : Ty := ⟨.func #[269] #[62] false, 1, 8, .nilFunc⟩
def y271 : Ty := ⟨.func #[62] #[3] false, 1, 8, .nilFunc⟩
def y272 : Ty := ⟨.func #[25, 3] #[3] false, 1, 8, .nilFunc⟩
def y273 : Ty := ⟨.func #[25, 3] #[3, 4] false, 1, 8, .nilFunc⟩
def y274 : Ty := ⟨.func #[3, 3, 4] #[3, 40] false, 1, 8, .nilFunc⟩
def y275 : Ty := ⟨.func #[160] #[62, 40] false, 1, 8, .nilFunc⟩
def y276 : Ty := ⟨.func #[3, 62] #[40] false, 1, 8, .nilFunc⟩
def y277 : Ty := ⟨.func #[212] #[3, 4] false, 1, 8, .nilFunc⟩
def y278 : Ty := ⟨.func #[231, 3, 212] #[] false, 1, 8, .nilFunc⟩
def y279 : Ty := ⟨.func #[127] #[25] false, 1, 8, .nilFunc⟩
def y280 : Ty := ⟨.func #[139] #[127] false, 1, 8, .nilFunc⟩
def y281 : Ty := ⟨.pointer 183, 1, 8, .pointer none⟩
def y283 : Ty := ⟨.func #[69] #[281, 40] false, 1, 8, .nilFunc⟩
def y284 : Ty := ⟨.func #[3, 3, 3] #[40] false, 1, 8, .nilFunc⟩
def y285 : Ty := ⟨.func #[287, 290] #[131] false, 1, 8, .nilFunc⟩
def y286 : Ty := ⟨.func #[215] #[] false, 1, 8, .nilFunc⟩
def y287 : Ty := ⟨.func #[215] #[] false, 1, 8, .nilFunc⟩
def y288 : Ty := ⟨.func #[230] #[287] false, 1, 8, .nilFunc⟩
def y289 : Ty := ⟨.func #[3, 3] #[3] false, 1, 8, .nilFunc⟩
def y290 : Ty := ⟨.func #[212, 212] #[3] false, 1, 8, .nilFunc⟩
def y291 : Ty := ⟨.func #[25, 3, 3] #[25] false, 1, 8, .nilFunc⟩
def y292 : Ty := ⟨.func #[3, 4] #[40] false, 1, 8, .nilFunc⟩
def y293 : Ty := ⟨.func #[3] #[62, 40] false, 1, 8, .nilFunc⟩
def y295 : Ty := ⟨.func #[62] #[141, 40] false, 1, 8, .nilFunc⟩
def y297 : Ty := ⟨.func #[141] #[111, 3, 40] false, 1, 8, .nilFunc⟩
def y298 : Ty := ⟨.func #[25, 3, 3] #[] false, 1, 8, .nilFunc⟩
def y299 : Ty := ⟨.int .i64, 1, 8, .int .i64 0⟩
def y301 : Ty := ⟨.func #[25, 3, 3] #[3, 299] false, 1, 8, .nilFunc⟩
def y302 : Ty := ⟨.func #[25, 3, 3] #[4] false, 1, 8, .nilFunc⟩
def y303 : Ty := ⟨.func #[3, 3] #[4] false, 1, 8, .nilFunc⟩
def y304 : Ty := ⟨.func #[25, 3, 3, 3] #[3] false, 1, 8, .nilFunc⟩
def y305 : Ty := ⟨.func #[25, 3, 3, 3] #[3, 4] false, 1, 8, .nilFunc⟩
def y306 : Ty := ⟨.func #[307] #[3] false, 1, 8, .nilFunc⟩
def y307 : Ty := ⟨.int .u32, 1, 4, .int .u32 0⟩
def y308 : Ty := ⟨.func #[3, 3] #[40] false, 1, 8, .nilFunc⟩
def y309 : Ty := ⟨.func #[3, 160] #[4] false, 1, 8, .nilFunc⟩
def y310 : Ty := ⟨.func #[111, 3] #[127] false, 1, 8, .nilFunc⟩
def y311 : Ty := ⟨.map 3 25, 1, 8, .map none⟩
def y312 : Ty := ⟨.func #[3] #[111, 40] false, 1, 8, .nilFunc⟩
def y313 : Ty := ⟨.func #[111, 3] #[3, 40] false, 1, 8, .nilFunc⟩
def y314 : Ty := ⟨.func #[98] #[69, 40] false, 1, 8, .nilFunc⟩
def y315 : Ty := ⟨.func #[3, 141] #[3, 40] false, 1, 8, .nilFunc⟩
def y316 : Ty := ⟨.func #[3, 3] #[62, 40] false, 1, 8, .nilFunc⟩
def y317 : Ty := ⟨.func #[3, 3, 62] #[40] false, 1, 8, .nilFunc⟩
def y318 : Ty := ⟨.func #[84, 3, 3, 4, 319] #[160, 40] false, 1, 8, .nilFunc⟩
def y319 : Ty := ⟨.func #[82, 3] #[160, 40] false, 1, 8, .nilFunc⟩
def y320 : Ty := ⟨.func #[3, 3, 160] #[] false, 1, 8, .nilFunc⟩
def y321 : Ty := ⟨.func #[269] #[4] false, 1, 8, .nilFunc⟩
def y322 : Ty := ⟨.array 64 5, 64, 64, .agg #[.int .u8 0, .int .u8 0, .int .u8 0, .int .u8 0, .int .u8 0, .int .u8 0, .int .u8 0, .int .u8 0, .int .u8 0, .int .u8 0, .int .u8 0, .int .u8 0, .int .u8 0, .int .u8 0, .int .u8 0, .int .u8 0, .int .u8 0, .int .u8 0, .int .u8 0, .int .u8 0, .int .u8 0, .int .u8 0, .int .u8 0, .int .u8 0, .int .u8 0, .int .u8 0, .int .u8 0, .int .u8 0, .int .u8 0, .int .u8 0, .int .u8 0, .int .u8 0, .int .u8 0, .int .u8 0, .int .u8 0, .int .u8 0, .int .u8 0, .int .u8 0, .int .u8 0, .int .u8 0, .int .u8 0, .int .u8 0, .int .u8 0, .int .u8 0, .int .u8 0, .int .u8 0, .int .u8 0, .int .u8 0, .int .u8 0, .int .u8 0, .int .u8 0, .int .u8 0, .int .u8 0, .int .u8 0, .int .u8 0, .int .u8 0, .int .u8 0, .int .u8 0, .int .u8 0, .int .u8 0, .int .u8 0, .int .u8 0, .int .u8 0, .int .u8 0]⟩
def y324 : Ty := ⟨.func #[111, 3, 3] #[4, 40] false, 1, 8, .nilFunc⟩
def y325 : Ty := ⟨.func #[69] #[4] false, 1, 8, .nilFunc⟩
def y326 : Ty := ⟨.func #[195, 63] #[62, 40] false, 1, 8, .nilFunc⟩
def y327 : Ty := ⟨.func #[25, 127] #[25] false, 1, 8, .nilFunc⟩
def y328 : Ty := ⟨.func #[25, 3, 25] #[25] true, 1, 8, .nilFunc⟩
def y329 : Ty := ⟨.func #[3] #[3, 4] false, 1, 8, .nilFunc⟩
def y330 : Ty := ⟨.func #[3, 3, 4] #[40] false, 1, 8, .nilFunc⟩
def y331 : Ty := ⟨.func #[287] #[131] false, 1, 8, .nilFunc⟩
def y332 : Ty := ⟨.func #[131, 290] #[] false, 1, 8, .nilFunc⟩
def y333 : Ty := ⟨.func #[141] #[4] false, 1, 8, .nilFunc⟩
def y334 : Ty := ⟨.int .u64, 1, 8, .int .u64 0⟩
def y335 : Ty := ⟨.func #[3] #[252] false, 1, 8, .nilFunc⟩
def y336 : Ty := ⟨.func #[] #[62] false, 1, 8, .nilFunc⟩
def y337 : Ty := ⟨.func #[25, 3, 338] #[3] false, 1, 8, .nilFunc⟩
def y338 : Ty := ⟨.pointer 3, 1, 8, .pointer none⟩
def y339 : Ty := ⟨.func #[25, 3, 3, 3, 338] #[3] false, 1, 8, .nilFunc⟩
def y340 : Ty := ⟨.func #[141] #[62, 40] false, 1, 8, .nilFunc⟩
def y341 : Ty := ⟨.func #[84, 3, 3, 4, 342] #[62, 40] false, 1, 8, .nilFunc⟩
def y342 : Ty := ⟨.func #[82, 3] #[62, 40] false, 1, 8, .nilFunc⟩
def y343 : Ty := ⟨.func #[62] #[160, 40] false, 1, 8, .nilFunc⟩
def y344 : Ty := ⟨.func #[212, 3] #[4] false, 1, 8, .nilFunc⟩
def y345 : Ty := ⟨.func #[62, 269, 62] #[62, 40] false, 1, 8, .nilFunc⟩
def y346 : Ty := ⟨.func #[25, 3] #[] false, 1, 8, .nilFunc⟩
def y347 : Ty := ⟨.func #[3, 4] #[] false, 1, 8, .nilFunc⟩
def y348 : Ty := ⟨.func #[131, 287] #[131] false, 1, 8, .nilFunc⟩
def y349 : Ty := ⟨.func #[131, 3, 3, 3, 290] #[] false, 1, 8, .nilFunc⟩
def y350 : Ty := ⟨.pointer 334, 1, 8, .pointer none⟩
def y352 : Ty := ⟨.func #[25, 3, 3, 338] #[3, 3] false, 1, 8, .nilFunc⟩
def y353 : Ty := ⟨.func #[131, 3, 3, 290] #[] false, 1, 8, .nilFunc⟩
def y354 : Ty := ⟨.func #[131, 3, 3, 290] #[3, 299] false, 1, 8, .nilFunc⟩
def y355 : Ty := ⟨.func #[131, 3, 3, 290] #[4] false, 1, 8, .nilFunc⟩
def y356 : Ty := ⟨.func #[131, 3, 3, 3, 290] #[3] false, 1, 8, .nilFunc⟩
def y357 : Ty := ⟨.func #[131, 3, 3, 3, 290] #[3, 4] false, 1, 8, .nilFunc⟩
def y358 : Ty := ⟨.func #[131, 3, 338, 290] #[3] false, 1, 8, .nilFunc⟩
def y359 : Ty := ⟨.func #[131, 3, 3, 3, 338, 290] #[3] false, 1, 8, .nilFunc⟩
def y360 : Ty := ⟨.func #[131, 3, 3, 338, 290] #[3, 3] false, 1, 8, .nilFunc⟩
def y361 : Ty := ⟨.func #[] #[9] false, 1, 8, .nilFunc⟩
def y362 : Ty := ⟨.struct #[{ name := "_interface", type := 17, offset := 0, embedded := false, tag := "", pkgPath := "runtime", byteOffset := 0 }, { name := "concrete", type := 17, offset := 1, embedded := false, tag := "", pkgPath := "runtime", byteOffset := 8 }, { name := "asserted", type := 17, offset := 2, embedded := false, tag := "", pkgPath := "runtime", byteOffset := 16 }, { name := "missingMethod", type := 9, offset := 3, embedded := false, tag := "", pkgPath := "runtime", byteOffset := 24 }], 4, 40, .agg #[.pointer none, .pointer none, .pointer none, .string ⟨#[]⟩]⟩
def y364 : Ty := ⟨.array 0 16, 0, 0, .agg #[]⟩
def y365 : Ty := ⟨.struct #[{ name := "_", type := 364, offset := 0, embedded := false, tag := "", pkgPath := "runtime", byteOffset := 0 }], 0, 0, .agg #[]⟩
def y369 : Ty := ⟨.func #[375, 375] #[4] false, 1, 8, .nilFunc⟩
def y370 : Ty := ⟨.pointer 5, 1, 8, .pointer none⟩
def y373 : Ty := ⟨.struct #[{ name := "Size_", type := 12, offset := 0, embedded := false, tag := "", pkgPath := "", byteOffset := 0 }, { name := "PtrBytes", type := 12, offset := 1, embedded := false, tag := "", pkgPath := "", byteOffset := 8 }, { name := "Hash", type := 307, offset := 2, embedded := false, tag := "", pkgPath := "", byteOffset := 16 }, { name := "TFlag", type := 367, offset := 3, embedded := false, tag := "", pkgPath := "", byteOffset := 20 }, { name := "Align_", type := 5, offset := 4, embedded := false, tag := "", pkgPath := "", byteOffset := 21 }, { name := "FieldAlign_", type := 5, offset := 5, embedded := false, tag := "", pkgPath := "", byteOffset := 22 }, { name := "Kind_", type := 368, offset := 6, embedded := false, tag := "", pkgPath := "", byteOffset := 23 }, { name := "Equal", type := 369, offset := 7, embedded := false, tag := "", pkgPath := "", byteOffset := 24 }, { name := "GCData", type := 370, offset := 8, embedded := false, tag := "", pkgPath := "", byteOffset := 32 }, { name := "Str", type := 371, offset := 9, embedded := false, tag := "", pkgPath := "", byteOffset := 40 }, { name := "PtrToThis", type := 372, offset := 10, embedded := false, tag := "", pkgPath := "", byteOffset := 44 }], 11, 48, .agg #[.int .u64 0, .int .u64 0, .int .u32 0, .int .u8 0, .int .u8 0, .int .u8 0, .int .u8 0, .nilFunc, .pointer none, .int .i32 0, .int .i32 0]⟩
def y375 : Ty := ⟨.unsafePointer, 1, 8, .pointer none⟩
def tys : Tys := ⟨[(1, y1),
  (2, y2),
  (3, y3),
  (4, y4),
  (5, y5),
  (7, y7),
  (9, y9),
  (12, y12),
  (13, y13),
  (15, y15),
  (16, y16),
  (17, y17),
  (18, y18),
  (21, y21),
  (22, y22),
  (23, y23),
  (24, y24),
  (25, y25),
  (26, y26),
  (27, y27),
  (29, y29),
  (30, y30),
  (31, y31),
  (32, y32),
  (33, y33),
  (34, y34),
  (35, y35),
  (36, y36),
  (37, y37),
  (38, y38),
  (39, y39),
  (40, y40),
  (42, y42),
  (43, y43),
  (44, y44),
  (45, y45),
  (47, y47),
  (49, y49),
  (50, y50),
  (51, y51),
  (52, y52),
  (53, y53),
  (54, y54),
  (55, y55),
  (56, y56),
  (57, y57),
  (59, y59),
  (61, y61),
  (62, y62),
  (63, y63),
  (64, y64),
  (65, y65),
  (66, y66),
  (67, y67),
  (68, y68),
  (69, y69),
  (70, y70),
  (71, y71),
  (72, y72),
  (73, y73),
  (74, y74),
  (76, y76),
  (77, y77),
  (78, y78),
  (79, y79),
  (81, y81),
  (82, y82),
  (83, y83),
  (84, y84),
  (85, y85),
  (86, y86),
  (87, y87),
  (88, y88),
  (89, y89),
  (90, y90),
  (91, y91),
  (92, y92),
  (93, y93),
  (94, y94),
  (95, y95),
  (96, y96),
  (97, y97),
  (98, y98),
  (99, y99),
  (100, y100),
  (101, y101),
  (103, y103),
  (104, y104),
  (105, y105),
  (106, y106),
  (108, y108),
  (109, y109),
  (110, y110),
  (111, y111),
  (113, y113),
  (114, y114),
  (116, y116),
  (117, y117),
  (118, y118),
  (119, y119),
  (120, y120),
  (121, y121),
  (122, y122),
  (123, y123),
  (124, y124),
  (125, y125),
  (126, y126),
  (127, y127),
  (128, y128),
  (130, y130),
  (131, y131),
  (132, y132),
  (133, y133),
  (135, y135),
  (136, y136),
  (137, y137),
  (138, y138),
  (139, y139),
  (140, y140),
  (141, y141),
  (143, y143),
  (144, y144),
  (145, y145),
  (146, y146),
  (147, y147),
  (148, y148),
  (149, y149),
  (150, y150),
  (151, y151),
  (152, y152),
  (153, y153),
  (155, y155),
  (157, y157),
  (158, y158),
  (159, y159),
  (160, y160),
  (162, y162),
  (163, y163),
  (164, y164),
  (165, y165),
  (166, y166),
  (167, y167),
  (168, y168),
  (169, y169),
  (171, y171),
  (172, y172),
  (173, y173),
  (174, y174),
  (175, y175),
  (176, y176),
  (177, y177),
  (178, y178),
  (179, y179),
  (181, y181),
  (182, y182),
  (183, y183),
  (185, y185),
  (187, y187),
  (188, y188),
  (190, y190),
  (191, y191),
  (192, y192),
  (194, y194),
  (195, y195),
  (196, y196),
  (197, y197),
  (198, y198),
  (199, y199),
  (200, y200),
  (201, y201),
  (202, y202),
  (203, y203),
  (204, y204),
  (205, y205),
  (206, y206),
  (207, y207),
  (208, y208),
  (209, y209),
  (210, y210),
  (211, y211),
  (212, y212),
  (213, y213),
  (214, y214),
  (215, y215),
  (216, y216),
  (217, y217),
  (218, y218),
  (219, y219),
  (221, y221),
  (222, y222),
  (223, y223),
  (224, y224),
  (225, y225),
  (226, y226),
  (227, y227),
  (228, y228),
  (229, y229),
  (230, y230),
  (231, y231),
  (232, y232),
  (233, y233),
  (234, y234),
  (235, y235),
  (236, y236),
  (237, y237),
  (238, y238),
  (239, y239),
  (241, y241),
  (242, y242),
  (244, y244),
  (245, y245),
  (246, y246),
  (248, y248),
  (249, y249),
  (250, y250),
  (251, y251),
  (252, y252),
  (253, y253),
  (254, y254),
  (255, y255),
  (256, y256),
  (257, y257),
  (258, y258),
  (259, y259),
  (260, y260),
  (261, y261),
  (262, y262),
  (264, y264),
  (265, y265),
  (266, y266),
  (267, y267),
  (268, y268),
  (269, y269),
  (270, y270),
  (271, y271),
  (272, y272),
  (273, y273),
  (274, y274),
  (275, y275),
  (276, y276),
  (277, y277),
  (278, y278),
  (279, y279),
  (280, y280),
  (281, y281),
  (283, y283),
  (284, y284),
  (285, y285),
  (286, y286),
  (287, y287),
  (288, y288),
  (289, y289),
  (290, y290),
  (291, y291),
  (292, y292),
  (293, y293),
  (295, y295),
  (297, y297),
  (298, y298),
  (299, y299),
  (301, y301),
  (302, y302),
  (303, y303),
  (304, y304),
  (305, y305),
  (306, y306),
  (307, y307),
  (308, y308),
  (309, y309),
  (310, y310),
  (311, y311),
  (312, y312),
  (313, y313),
  (314, y314),
  (315, y315),
  (316, y316),
  (317, y317),
  (318, y318),
  (319, y319),
  (320, y320),
  (321, y321),
  (322, y322),
  (324, y324),
  (325, y325),
  (326, y326),
  (327, y327),
  (328, y328),
  (329, y329),
  (330, y330),
  (331, y331),
  (332, y332),
  (333, y333),
  (334, y334),
  (335, y335),
  (336, y336),
  (337, y337),
  (338, y338),
  (339, y339),
  (340, y340),
  (341, y341),
  (342, y342),
  (343, y343),
  (344, y344),
  (345, y345),
  (346, y346),
  (347, y347),
  (348, y348),
  (349, y349),
  (350, y350),
  (352, y352),
  (353, y353),
  (354, y354),
  (355, y355),
  (356, y356),
  (357, y357),
  (358, y358),
  (359, y359),
  (360, y360),
  (361, y361),
  (362, y362),
  (364, y364),
  (365, y365),
  (369, y369),
  (370, y370),
  (373, y373),
  (375, y375)]⟩
theorem fits1 : Ty.fits Tryz.prog 1 y1 := ⟨by kernel_rfl, by kernel_rfl⟩
theorem fits2 : Ty.fits Tryz.prog 2 y2 := ⟨by kernel_rfl, by kernel_rfl⟩
theorem fits3 : Ty.fits Tryz.prog 3 y3 := ⟨by kernel_rfl, by kernel_rfl⟩
theorem fits4 : Ty.fits Tryz.prog 4 y4 := ⟨by kernel_rfl, by kernel_rfl⟩
theorem fits5 : Ty.fits Tryz.prog 5 y5 := ⟨by kernel_rfl, by kernel_rfl⟩
theorem fits7 : Ty.fits Tryz.prog 7 y7 := ⟨by kernel_rfl, by kernel_rfl⟩
theorem fits9 : Ty.fits Tryz.prog 9 y9 := ⟨by kernel_rfl, by kernel_rfl⟩
theorem fits12 : Ty.fits Tryz.prog 12 y12 := ⟨by kernel_rfl, by kernel_rfl⟩
theorem fits13 : Ty.fits Tryz.prog 13 y13 := ⟨by kernel_rfl, by kernel_rfl⟩
theorem fits15 : Ty.fits Tryz.prog 15 y15 := ⟨by kernel_rfl, by kernel_rfl⟩
theorem fits16 : Ty.fits Tryz.prog 16 y16 := ⟨by kernel_rfl, by kernel_rfl⟩
theorem fits17 : Ty.fits Tryz.prog 17 y17 := ⟨by kernel_rfl, by kernel_rfl⟩
theorem fits18 : Ty.fits Tryz.prog 18 y18 := ⟨by kernel_rfl, by kernel_rfl⟩
theorem fits21 : Ty.fits Tryz.prog 21 y21 := ⟨by kernel_rfl, by kernel_rfl⟩
theorem fits22 : Ty.fits Tryz.prog 22 y22 := ⟨by kernel_rfl, by kernel_rfl⟩
theorem fits23 : Ty.fits Tryz.prog 23 y23 := ⟨by kernel_rfl, by kernel_rfl⟩
theorem fits24 : Ty.fits Tryz.prog 24 y24 := ⟨by kernel_rfl, by kernel_rfl⟩
theorem fits25 : Ty.fits Tryz.prog 25 y25 := ⟨by kernel_rfl, by kernel_rfl⟩
theorem fits26 : Ty.fits Tryz.prog 26 y26 := ⟨by kernel_rfl, by kernel_rfl⟩
theorem fits27 : Ty.fits Tryz.prog 27 y27 := ⟨by kernel_rfl, by kernel_rfl⟩
theorem fits29 : Ty.fits Tryz.prog 29 y29 := ⟨by kernel_rfl, by kernel_rfl⟩
theorem fits30 : Ty.fits Tryz.prog 30 y30 := ⟨by kernel_rfl, by kernel_rfl⟩
theorem fits31 : Ty.fits Tryz.prog 31 y31 := ⟨by kernel_rfl, by kernel_rfl⟩
theorem fits32 : Ty.fits Tryz.prog 32 y32 := ⟨by kernel_rfl, by kernel_rfl⟩
theorem fits33 : Ty.fits Tryz.prog 33 y33 := ⟨by kernel_rfl, by kernel_rfl⟩
theorem fits34 : Ty.fits Tryz.prog 34 y34 := ⟨by kernel_rfl, by kernel_rfl⟩
theorem fits35 : Ty.fits Tryz.prog 35 y35 := ⟨by kernel_rfl, by kernel_rfl⟩
theorem fits36 : Ty.fits Tryz.prog 36 y36 := ⟨by kernel_rfl, by kernel_rfl⟩
theorem fits37 : Ty.fits Tryz.prog 37 y37 := ⟨by kernel_rfl, by kernel_rfl⟩
theorem fits38 : Ty.fits Tryz.prog 38 y38 := ⟨by kernel_rfl, by kernel_rfl⟩
theorem fits39 : Ty.fits Tryz.prog 39 y39 := ⟨by kernel_rfl, by kernel_rfl⟩
theorem fits40 : Ty.fits Tryz.prog 40 y40 := ⟨by kernel_rfl, by kernel_rfl⟩
theorem fits42 : Ty.fits Tryz.prog 42 y42 := ⟨by kernel_rfl, by kernel_rfl⟩
theorem fits43 : Ty.fits Tryz.prog 43 y43 := ⟨by kernel_rfl, by kernel_rfl⟩
theorem fits44 : Ty.fits Tryz.prog 44 y44 := ⟨by kernel_rfl, by kernel_rfl⟩
theorem fits45 : Ty.fits Tryz.prog 45 y45 := ⟨by kernel_rfl, by kernel_rfl⟩
theorem fits47 : Ty.fits Tryz.prog 47 y47 := ⟨by kernel_rfl, by kernel_rfl⟩
theorem fits49 : Ty.fits Tryz.prog 49 y49 := ⟨by kernel_rfl, by kernel_rfl⟩
theorem fits50 : Ty.fits Tryz.prog 50 y50 := ⟨by kernel_rfl, by kernel_rfl⟩
theorem fits51 : Ty.fits Tryz.prog 51 y51 := ⟨by kernel_rfl, by kernel_rfl⟩
theorem fits52 : Ty.fits Tryz.prog 52 y52 := ⟨by kernel_rfl, by kernel_rfl⟩
theorem fits53 : Ty.fits Tryz.prog 53 y53 := ⟨by kernel_rfl, by kernel_rfl⟩
theorem fits54 : Ty.fits Tryz.prog 54 y54 := ⟨by kernel_rfl, by kernel_rfl⟩
theorem fits55 : Ty.fits Tryz.prog 55 y55 := ⟨by kernel_rfl, by kernel_rfl⟩
theorem fits56 : Ty.fits Tryz.prog 56 y56 := ⟨by kernel_rfl, by kernel_rfl⟩
theorem fits57 : Ty.fits Tryz.prog 57 y57 := ⟨by kernel_rfl, by kernel_rfl⟩
theorem fits59 : Ty.fits Tryz.prog 59 y59 := ⟨by kernel_rfl, by kernel_rfl⟩
theorem fits61 : Ty.fits Tryz.prog 61 y61 := ⟨by kernel_rfl, by kernel_rfl⟩
theorem fits62 : Ty.fits Tryz.prog 62 y62 := ⟨by kernel_rfl, by kernel_rfl⟩
theorem fits63 : Ty.fits Tryz.prog 63 y63 := ⟨by kernel_rfl, by kernel_rfl⟩
theorem fits64 : Ty.fits Tryz.prog 64 y64 := ⟨by kernel_rfl, by kernel_rfl⟩
theorem fits65 : Ty.fits Tryz.prog 65 y65 := ⟨by kernel_rfl, by kernel_rfl⟩
theorem fits66 : Ty.fits Tryz.prog 66 y66 := ⟨by kernel_rfl, by kernel_rfl⟩
theorem fits67 : Ty.fits Tryz.prog 67 y67 := ⟨by kernel_rfl, by kernel_rfl⟩
theorem fits68 : Ty.fits Tryz.prog 68 y68 := ⟨by kernel_rfl, by kernel_rfl⟩
theorem fits69 : Ty.fits Tryz.prog 69 y69 := ⟨by kernel_rfl, by kernel_rfl⟩
theorem fits70 : Ty.fits Tryz.prog 70 y70 := ⟨by kernel_rfl, by kernel_rfl⟩
theorem fits71 : Ty.fits Tryz.prog 71 y71 := ⟨by kernel_rfl, by kernel_rfl⟩
theorem fits72 : Ty.fits Tryz.prog 72 y72 := ⟨by kernel_rfl, by kernel_rfl⟩
theorem fits73 : Ty.fits Tryz.prog 73 y73 := ⟨by kernel_rfl, by kernel_rfl⟩
theorem fits74 : Ty.fits Tryz.prog 74 y74 := ⟨by kernel_rfl, by kernel_rfl⟩
theorem fits76 : Ty.fits Tryz.prog 76 y76 := ⟨by kernel_rfl, by kernel_rfl⟩
theorem fits77 : Ty.fits Tryz.prog 77 y77 := ⟨by kernel_rfl, by kernel_rfl⟩
theorem fits78 : Ty.fits Tryz.prog 78 y78 := ⟨by kernel_rfl, by kernel_rfl⟩
theorem fits79 : Ty.fits Tryz.prog 79 y79 := ⟨by kernel_rfl, by kernel_rfl⟩
theorem fits81 : Ty.fits Tryz.prog 81 y81 := ⟨by kernel_rfl, by kernel_rfl⟩
theorem fits82 : Ty.fits Tryz.prog 82 y82 := ⟨by kernel_rfl, by kernel_rfl⟩
theorem fits83 : Ty.fits Tryz.prog 83 y83 := ⟨by kernel_rfl, by kernel_rfl⟩
theorem fits84 : Ty.fits Tryz.prog 84 y84 := ⟨by kernel_rfl, by kernel_rfl⟩
theorem fits85 : Ty.fits Tryz.prog 85 y85 := ⟨by kernel_rfl, by kernel_rfl⟩
theorem fits86 : Ty.fits Tryz.prog 86 y86 := ⟨by kernel_rfl, by kernel_rfl⟩
theorem fits87 : Ty.fits Tryz.prog 87 y87 := ⟨by kernel_rfl, by kernel_rfl⟩
theorem fits88 : Ty.fits Tryz.prog 88 y88 := ⟨by kernel_rfl, by kernel_rfl⟩
theorem fits89 : Ty.fits Tryz.prog 89 y89 := ⟨by kernel_rfl, by kernel_rfl⟩
theorem fits90 : Ty.fits Tryz.prog 90 y90 := ⟨by kernel_rfl, by kernel_rfl⟩
theorem fits91 : Ty.fits Tryz.prog 91 y91 := ⟨by kernel_rfl, by kernel_rfl⟩
theorem fits92 : Ty.fits Tryz.prog 92 y92 := ⟨by kernel_rfl, by kernel_rfl⟩
theorem fits93 : Ty.fits Tryz.prog 93 y93 := ⟨by kernel_rfl, by kernel_rfl⟩
theorem fits94 : Ty.fits Tryz.prog 94 y94 := ⟨by kernel_rfl, by kernel_rfl⟩
theorem fits95 : Ty.fits Tryz.prog 95 y95 := ⟨by kernel_rfl, by kernel_rfl⟩
theorem fits96 : Ty.fits Tryz.prog 96 y96 := ⟨by kernel_rfl, by kernel_rfl⟩
theorem fits97 : Ty.fits Tryz.prog 97 y97 := ⟨by kernel_rfl, by kernel_rfl⟩
theorem fits98 : Ty.fits Tryz.prog 98 y98 := ⟨by kernel_rfl, by kernel_rfl⟩
theorem fits99 : Ty.fits Tryz.prog 99 y99 := ⟨by kernel_rfl, by kernel_rfl⟩
theorem fits100 : Ty.fits Tryz.prog 100 y100 := ⟨by kernel_rfl, by kernel_rfl⟩
theorem fits101 : Ty.fits Tryz.prog 101 y101 := ⟨by kernel_rfl, by kernel_rfl⟩
theorem fits103 : Ty.fits Tryz.prog 103 y103 := ⟨by kernel_rfl, by kernel_rfl⟩
theorem fits104 : Ty.fits Tryz.prog 104 y104 := ⟨by kernel_rfl, by kernel_rfl⟩
theorem fits105 : Ty.fits Tryz.prog 105 y105 := ⟨by kernel_rfl, by kernel_rfl⟩
theorem fits106 : Ty.fits Tryz.prog 106 y106 := ⟨by kernel_rfl, by kernel_rfl⟩
theorem fits108 : Ty.fits Tryz.prog 108 y108 := ⟨by kernel_rfl, by kernel_rfl⟩
theorem fits109 : Ty.fits Tryz.prog 109 y109 := ⟨by kernel_rfl, by kernel_rfl⟩
theorem fits110 : Ty.fits Tryz.prog 110 y110 := ⟨by kernel_rfl, by kernel_rfl⟩
theorem fits111 : Ty.fits Tryz.prog 111 y111 := ⟨by kernel_rfl, by kernel_rfl⟩
theorem fits113 : Ty.fits Tryz.prog 113 y113 := ⟨by kernel_rfl, by kernel_rfl⟩
theorem fits114 : Ty.fits Tryz.prog 114 y114 := ⟨by kernel_rfl, by kernel_rfl⟩
theorem fits116 : Ty.fits Tryz.prog 116 y116 := ⟨by kernel_rfl, by kernel_rfl⟩
theorem fits117 : Ty.fits Tryz.prog 117 y117 := ⟨by kernel_rfl, by kernel_rfl⟩
theorem fits118 : Ty.fits Tryz.prog 118 y118 := ⟨by kernel_rfl, by kernel_rfl⟩
theorem fits119 : Ty.fits Tryz.prog 119 y119 := ⟨by kernel_rfl, by kernel_rfl⟩
theorem fits120 : Ty.fits Tryz.prog 120 y120 := ⟨by kernel_rfl, by kernel_rfl⟩
theorem fits121 : Ty.fits Tryz.prog 121 y121 := ⟨by kernel_rfl, by kernel_rfl⟩
theorem fits122 : Ty.fits Tryz.prog 122 y122 := ⟨by kernel_rfl, by kernel_rfl⟩
theorem fits123 : Ty.fits Tryz.prog 123 y123 := ⟨by kernel_rfl, by kernel_rfl⟩
theorem fits124 : Ty.fits Tryz.prog 124 y124 := ⟨by kernel_rfl, by kernel_rfl⟩
theorem fits125 : Ty.fits Tryz.prog 125 y125 := ⟨by kernel_rfl, by kernel_rfl⟩
theorem fits126 : Ty.fits Tryz.prog 126 y126 := ⟨by kernel_rfl, by kernel_rfl⟩
theorem fits127 : Ty.fits Tryz.prog 127 y127 := ⟨by kernel_rfl, by kernel_rfl⟩
theorem fits128 : Ty.fits Tryz.prog 128 y128 := ⟨by kernel_rfl, by kernel_rfl⟩
theorem fits130 : Ty.fits Tryz.prog 130 y130 := ⟨by kernel_rfl, by kernel_rfl⟩
theorem fits131 : Ty.fits Tryz.prog 131 y131 := ⟨by kernel_rfl, by kernel_rfl⟩
theorem fits132 : Ty.fits Tryz.prog 132 y132 := ⟨by kernel_rfl, by kernel_rfl⟩
theorem fits133 : Ty.fits Tryz.prog 133 y133 := ⟨by kernel_rfl, by kernel_rfl⟩
theorem fits135 : Ty.fits Tryz.prog 135 y135 := ⟨by kernel_rfl, by kernel_rfl⟩
theorem fits136 : Ty.fits Tryz.prog 136 y136 := ⟨by kernel_rfl, by kernel_rfl⟩
theorem fits137 : Ty.fits Tryz.prog 137 y137 := ⟨by kernel_rfl, by kernel_rfl⟩
theorem fits138 : Ty.fits Tryz.prog 138 y138 := ⟨by kernel_rfl, by kernel_rfl⟩
theorem fits139 : Ty.fits Tryz.prog 139 y139 := ⟨by kernel_rfl, by kernel_rfl⟩
theorem fits140 : Ty.fits Tryz.prog 140 y140 := ⟨by kernel_rfl, by kernel_rfl⟩
theorem fits141 : Ty.fits Tryz.prog 141 y141 := ⟨by kernel_rfl, by kernel_rfl⟩
theorem fits143 : Ty.fits Tryz.prog 143 y143 := ⟨by kernel_rfl, by kernel_rfl⟩
theorem fits144 : Ty.fits Tryz.prog 144 y144 := ⟨by kernel_rfl, by kernel_rfl⟩
theorem fits145 : Ty.fits Tryz.prog 145 y145 := ⟨by kernel_rfl, by kernel_rfl⟩
theorem fits146 : Ty.fits Tryz.prog 146 y146 := ⟨by kernel_rfl, by kernel_rfl⟩
theorem fits147 : Ty.fits Tryz.prog 147 y147 := ⟨by kernel_rfl, by kernel_rfl⟩
theorem fits148 : Ty.fits Tryz.prog 148 y148 := ⟨by kernel_rfl, by kernel_rfl⟩
theorem fits149 : Ty.fits Tryz.prog 149 y149 := ⟨by kernel_rfl, by kernel_rfl⟩
theorem fits150 : Ty.fits Tryz.prog 150 y150 := ⟨by kernel_rfl, by kernel_rfl⟩
theorem fits151 : Ty.fits Tryz.prog 151 y151 := ⟨by kernel_rfl, by kernel_rfl⟩
theorem fits152 : Ty.fits Tryz.prog 152 y152 := ⟨by kernel_rfl, by kernel_rfl⟩
theorem fits153 : Ty.fits Tryz.prog 153 y153 := ⟨by kernel_rfl, by kernel_rfl⟩
theorem fits155 : Ty.fits Tryz.prog 155 y155 := ⟨by kernel_rfl, by kernel_rfl⟩
theorem fits157 : Ty.fits Tryz.prog 157 y157 := ⟨by kernel_rfl, by kernel_rfl⟩
theorem fits158 : Ty.fits Tryz.prog 158 y158 := ⟨by kernel_rfl, by kernel_rfl⟩
theorem fits159 : Ty.fits Tryz.prog 159 y159 := ⟨by kernel_rfl, by kernel_rfl⟩
theorem fits160 : Ty.fits Tryz.prog 160 y160 := ⟨by kernel_rfl, by kernel_rfl⟩
theorem fits162 : Ty.fits Tryz.prog 162 y162 := ⟨by kernel_rfl, by kernel_rfl⟩
theorem fits163 : Ty.fits Tryz.prog 163 y163 := ⟨by kernel_rfl, by kernel_rfl⟩
theorem fits164 : Ty.fits Tryz.prog 164 y164 := ⟨by kernel_rfl, by kernel_rfl⟩
theorem fits165 : Ty.fits Tryz.prog 165 y165 := ⟨by kernel_rfl, by kernel_rfl⟩
theorem fits166 : Ty.fits Tryz.prog 166 y166 := ⟨by kernel_rfl, by kernel_rfl⟩
theorem fits167 : Ty.fits Tryz.prog 167 y167 := ⟨by kernel_rfl, by kernel_rfl⟩
theorem fits168 : Ty.fits Tryz.prog 168 y168 := ⟨by kernel_rfl, by kernel_rfl⟩
theorem fits169 : Ty.fits Tryz.prog 169 y169 := ⟨by kernel_rfl, by kernel_rfl⟩
theorem fits171 : Ty.fits Tryz.prog 171 y171 := ⟨by kernel_rfl, by kernel_rfl⟩
theorem fits172 : Ty.fits Tryz.prog 172 y172 := ⟨by kernel_rfl, by kernel_rfl⟩
theorem fits173 : Ty.fits Tryz.prog 173 y173 := ⟨by kernel_rfl, by kernel_rfl⟩
theorem fits174 : Ty.fits Tryz.prog 174 y174 := ⟨by kernel_rfl, by kernel_rfl⟩
theorem fits175 : Ty.fits Tryz.prog 175 y175 := ⟨by kernel_rfl, by kernel_rfl⟩
theorem fits176 : Ty.fits Tryz.prog 176 y176 := ⟨by kernel_rfl, by kernel_rfl⟩
theorem fits177 : Ty.fits Tryz.prog 177 y177 := ⟨by kernel_rfl, by kernel_rfl⟩
theorem fits178 : Ty.fits Tryz.prog 178 y178 := ⟨by kernel_rfl, by kernel_rfl⟩
theorem fits179 : Ty.fits Tryz.prog 179 y179 := ⟨by kernel_rfl, by kernel_rfl⟩
theorem fits181 : Ty.fits Tryz.prog 181 y181 := ⟨by kernel_rfl, by kernel_rfl⟩
theorem fits182 : Ty.fits Tryz.prog 182 y182 := ⟨by kernel_rfl, by kernel_rfl⟩
theorem fits183 : Ty.fits Tryz.prog 183 y183 := ⟨by kernel_rfl, by kernel_rfl⟩
theorem fits185 : Ty.fits Tryz.prog 185 y185 := ⟨by kernel_rfl, by kernel_rfl⟩
theorem fits187 : Ty.fits Tryz.prog 187 y187 := ⟨by kernel_rfl, by kernel_rfl⟩
theorem fits188 : Ty.fits Tryz.prog 188 y188 := ⟨by kernel_rfl, by kernel_rfl⟩
theorem fits190 : Ty.fits Tryz.prog 190 y190 := ⟨by kernel_rfl, by kernel_rfl⟩
theorem fits191 : Ty.fits Tryz.prog 191 y191 := ⟨by kernel_rfl, by kernel_rfl⟩
theorem fits192 : Ty.fits Tryz.prog 192 y192 := ⟨by kernel_rfl, by kernel_rfl⟩
theorem fits194 : Ty.fits Tryz.prog 194 y194 := ⟨by kernel_rfl, by kernel_rfl⟩
theorem fits195 : Ty.fits Tryz.prog 195 y195 := ⟨by kernel_rfl, by kernel_rfl⟩
theorem fits196 : Ty.fits Tryz.prog 196 y196 := ⟨by kernel_rfl, by kernel_rfl⟩
theorem fits197 : Ty.fits Tryz.prog 197 y197 := ⟨by kernel_rfl, by kernel_rfl⟩
theorem fits198 : Ty.fits Tryz.prog 198 y198 := ⟨by kernel_rfl, by kernel_rfl⟩
theorem fits199 : Ty.fits Tryz.prog 199 y199 := ⟨by kernel_rfl, by kernel_rfl⟩
theorem fits200 : Ty.fits Tryz.prog 200 y200 := ⟨by kernel_rfl, by kernel_rfl⟩
theorem fits201 : Ty.fits Tryz.prog 201 y201 := ⟨by kernel_rfl, by kernel_rfl⟩
theorem fits202 : Ty.fits Tryz.prog 202 y202 := ⟨by kernel_rfl, by kernel_rfl⟩
theorem fits203 : Ty.fits Tryz.prog 203 y203 := ⟨by kernel_rfl, by kernel_rfl⟩
theorem fits204 : Ty.fits Tryz.prog 204 y204 := ⟨by kernel_rfl, by kernel_rfl⟩
theorem fits205 : Ty.fits Tryz.prog 205 y205 := ⟨by kernel_rfl, by kernel_rfl⟩
theorem fits206 : Ty.fits Tryz.prog 206 y206 := ⟨by kernel_rfl, by kernel_rfl⟩
theorem fits207 : Ty.fits Tryz.prog 207 y207 := ⟨by kernel_rfl, by kernel_rfl⟩
theorem fits208 : Ty.fits Tryz.prog 208 y208 := ⟨by kernel_rfl, by kernel_rfl⟩
theorem fits209 : Ty.fits Tryz.prog 209 y209 := ⟨by kernel_rfl, by kernel_rfl⟩
theorem fits210 : Ty.fits Tryz.prog 210 y210 := ⟨by kernel_rfl, by kernel_rfl⟩
theorem fits211 : Ty.fits Tryz.prog 211 y211 := ⟨by kernel_rfl, by kernel_rfl⟩
theorem fits212 : Ty.fits Tryz.prog 212 y212 := ⟨by kernel_rfl, by kernel_rfl⟩
theorem fits213 : Ty.fits Tryz.prog 213 y213 := ⟨by kernel_rfl, by kernel_rfl⟩
theorem fits214 : Ty.fits Tryz.prog 214 y214 := ⟨by kernel_rfl, by kernel_rfl⟩
theorem fits215 : Ty.fits Tryz.prog 215 y215 := ⟨by kernel_rfl, by kernel_rfl⟩
theorem fits216 : Ty.fits Tryz.prog 216 y216 := ⟨by kernel_rfl, by kernel_rfl⟩
theorem fits217 : Ty.fits Tryz.prog 217 y217 := ⟨by kernel_rfl, by kernel_rfl⟩
theorem fits218 : Ty.fits Tryz.prog 218 y218 := ⟨by kernel_rfl, by kernel_rfl⟩
theorem fits219 : Ty.fits Tryz.prog 219 y219 := ⟨by kernel_rfl, by kernel_rfl⟩
theorem fits221 : Ty.fits Tryz.prog 221 y221 := ⟨by kernel_rfl, by kernel_rfl⟩
theorem fits222 : Ty.fits Tryz.prog 222 y222 := ⟨by kernel_rfl, by kernel_rfl⟩
theorem fits223 : Ty.fits Tryz.prog 223 y223 := ⟨by kernel_rfl, by kernel_rfl⟩
theorem fits224 : Ty.fits Tryz.prog 224 y224 := ⟨by kernel_rfl, by kernel_rfl⟩
theorem fits225 : Ty.fits Tryz.prog 225 y225 := ⟨by kernel_rfl, by kernel_rfl⟩
theorem fits226 : Ty.fits Tryz.prog 226 y226 := ⟨by kernel_rfl, by kernel_rfl⟩
theorem fits227 : Ty.fits Tryz.prog 227 y227 := ⟨by kernel_rfl, by kernel_rfl⟩
theorem fits228 : Ty.fits Tryz.prog 228 y228 := ⟨by kernel_rfl, by kernel_rfl⟩
theorem fits229 : Ty.fits Tryz.prog 229 y229 := ⟨by kernel_rfl, by kernel_rfl⟩
theorem fits230 : Ty.fits Tryz.prog 230 y230 := ⟨by kernel_rfl, by kernel_rfl⟩
theorem fits231 : Ty.fits Tryz.prog 231 y231 := ⟨by kernel_rfl, by kernel_rfl⟩
theorem fits232 : Ty.fits Tryz.prog 232 y232 := ⟨by kernel_rfl, by kernel_rfl⟩
theorem fits233 : Ty.fits Tryz.prog 233 y233 := ⟨by kernel_rfl, by kernel_rfl⟩
theorem fits234 : Ty.fits Tryz.prog 234 y234 := ⟨by kernel_rfl, by kernel_rfl⟩
theorem fits235 : Ty.fits Tryz.prog 235 y235 := ⟨by kernel_rfl, by kernel_rfl⟩
theorem fits236 : Ty.fits Tryz.prog 236 y236 := ⟨by kernel_rfl, by kernel_rfl⟩
theorem fits237 : Ty.fits Tryz.prog 237 y237 := ⟨by kernel_rfl, by kernel_rfl⟩
theorem fits238 : Ty.fits Tryz.prog 238 y238 := ⟨by kernel_rfl, by kernel_rfl⟩
theorem fits239 : Ty.fits Tryz.prog 239 y239 := ⟨by kernel_rfl, by kernel_rfl⟩
theorem fits241 : Ty.fits Tryz.prog 241 y241 := ⟨by kernel_rfl, by kernel_rfl⟩
theorem fits242 : Ty.fits Tryz.prog 242 y242 := ⟨by kernel_rfl, by kernel_rfl⟩
theorem fits244 : Ty.fits Tryz.prog 244 y244 := ⟨by kernel_rfl, by kernel_rfl⟩
theorem fits245 : Ty.fits Tryz.prog 245 y245 := ⟨by kernel_rfl, by kernel_rfl⟩
theorem fits246 : Ty.fits Tryz.prog 246 y246 := ⟨by kernel_rfl, by kernel_rfl⟩
theorem fits248 : Ty.fits Tryz.prog 248 y248 := ⟨by kernel_rfl, by kernel_rfl⟩
theorem fits249 : Ty.fits Tryz.prog 249 y249 := ⟨by kernel_rfl, by kernel_rfl⟩
theorem fits250 : Ty.fits Tryz.prog 250 y250 := ⟨by kernel_rfl, by kernel_rfl⟩
theorem fits251 : Ty.fits Tryz.prog 251 y251 := ⟨by kernel_rfl, by kernel_rfl⟩
theorem fits252 : Ty.fits Tryz.prog 252 y252 := ⟨by kernel_rfl, by kernel_rfl⟩
theorem fits253 : Ty.fits Tryz.prog 253 y253 := ⟨by kernel_rfl, by kernel_rfl⟩
theorem fits254 : Ty.fits Tryz.prog 254 y254 := ⟨by kernel_rfl, by kernel_rfl⟩
theorem fits255 : Ty.fits Tryz.prog 255 y255 := ⟨by kernel_rfl, by kernel_rfl⟩
theorem fits256 : Ty.fits Tryz.prog 256 y256 := ⟨by kernel_rfl, by kernel_rfl⟩
theorem fits257 : Ty.fits Tryz.prog 257 y257 := ⟨by kernel_rfl, by kernel_rfl⟩
theorem fits258 : Ty.fits Tryz.prog 258 y258 := ⟨by kernel_rfl, by kernel_rfl⟩
theorem fits259 : Ty.fits Tryz.prog 259 y259 := ⟨by kernel_rfl, by kernel_rfl⟩
theorem fits260 : Ty.fits Tryz.prog 260 y260 := ⟨by kernel_rfl, by kernel_rfl⟩
theorem fits261 : Ty.fits Tryz.prog 261 y261 := ⟨by kernel_rfl, by kernel_rfl⟩
theorem fits262 : Ty.fits Tryz.prog 262 y262 := ⟨by kernel_rfl, by kernel_rfl⟩
theorem fits264 : Ty.fits Tryz.prog 264 y264 := ⟨by kernel_rfl, by kernel_rfl⟩
theorem fits265 : Ty.fits Tryz.prog 265 y265 := ⟨by kernel_rfl, by kernel_rfl⟩
theorem fits266 : Ty.fits Tryz.prog 266 y266 := ⟨by kernel_rfl, by kernel_rfl⟩
theorem fits267 : Ty.fits Tryz.prog 267 y267 := ⟨by kernel_rfl, by kernel_rfl⟩
theorem fits268 : Ty.fits Tryz.prog 268 y268 := ⟨by kernel_rfl, by kernel_rfl⟩
theorem fits269 : Ty.fits Tryz.prog 269 y269 := ⟨by kernel_rfl, by kernel_rfl⟩
theorem fits270 : Ty.fits Tryz.prog 270 y270 := ⟨by kernel_rfl, by kernel_rfl⟩
theorem fits271 : Ty.fits Tryz.prog 271 y271 := ⟨by kernel_rfl, by kernel_rfl⟩
theorem fits272 : Ty.fits Tryz.prog 272 y272 := ⟨by kernel_rfl, by kernel_rfl⟩
theorem fits273 : Ty.fits Tryz.prog 273 y273 := ⟨by kernel_rfl, by kernel_rfl⟩
theorem fits274 : Ty.fits Tryz.prog 274 y274 := ⟨by kernel_rfl, by kernel_rfl⟩
theorem fits275 : Ty.fits Tryz.prog 275 y275 := ⟨by kernel_rfl, by kernel_rfl⟩
theorem fits276 : Ty.fits Tryz.prog 276 y276 := ⟨by kernel_rfl, by kernel_rfl⟩
theorem fits277 : Ty.fits Tryz.prog 277 y277 := ⟨by kernel_rfl, by kernel_rfl⟩
theorem fits278 : Ty.fits Tryz.prog 278 y278 := ⟨by kernel_rfl, by kernel_rfl⟩
theorem fits279 : Ty.fits Tryz.prog 279 y279 := ⟨by kernel_rfl, by kernel_rfl⟩
theorem fits280 : Ty.fits Tryz.prog 280 y280 := ⟨by kernel_rfl, by kernel_rfl⟩
theorem fits281 : Ty.fits Tryz.prog 281 y281 := ⟨by kernel_rfl, by kernel_rfl⟩
theorem fits283 : Ty.fits Tryz.prog 283 y283 := ⟨by kernel_rfl, by kernel_rfl⟩
theorem fits284 : Ty.fits Tryz.prog 284 y284 := ⟨by kernel_rfl, by kernel_rfl⟩
theorem fits285 : Ty.fits Tryz.prog 285 y285 := ⟨by kernel_rfl, by kernel_rfl⟩
theorem fits286 : Ty.fits Tryz.prog 286 y286 := ⟨by kernel_rfl, by kernel_rfl⟩
theorem fits287 : Ty.fits Tryz.prog 287 y287 := ⟨by kernel_rfl, by kernel_rfl⟩
theorem fits288 : Ty.fits Tryz.prog 288 y288 := ⟨by kernel_rfl, by kernel_rfl⟩
theorem fits289 : Ty.fits Tryz.prog 289 y289 := ⟨by kernel_rfl, by kernel_rfl⟩
theorem fits290 : Ty.fits Tryz.prog 290 y290 := ⟨by kernel_rfl, by kernel_rfl⟩
theorem fits291 : Ty.fits Tryz.prog 291 y291 := ⟨by kernel_rfl, by kernel_rfl⟩
theorem fits292 : Ty.fits Tryz.prog 292 y292 := ⟨by kernel_rfl, by kernel_rfl⟩
theorem fits293 : Ty.fits Tryz.prog 293 y293 := ⟨by kernel_rfl, by kernel_rfl⟩
theorem fits295 : Ty.fits Tryz.prog 295 y295 := ⟨by kernel_rfl, by kernel_rfl⟩
theorem fits297 : Ty.fits Tryz.prog 297 y297 := ⟨by kernel_rfl, by kernel_rfl⟩
theorem fits298 : Ty.fits Tryz.prog 298 y298 := ⟨by kernel_rfl, by kernel_rfl⟩
theorem fits299 : Ty.fits Tryz.prog 299 y299 := ⟨by kernel_rfl, by kernel_rfl⟩
theorem fits301 : Ty.fits Tryz.prog 301 y301 := ⟨by kernel_rfl, by kernel_rfl⟩
theorem fits302 : Ty.fits Tryz.prog 302 y302 := ⟨by kernel_rfl, by kernel_rfl⟩
theorem fits303 : Ty.fits Tryz.prog 303 y303 := ⟨by kernel_rfl, by kernel_rfl⟩
theorem fits304 : Ty.fits Tryz.prog 304 y304 := ⟨by kernel_rfl, by kernel_rfl⟩
theorem fits305 : Ty.fits Tryz.prog 305 y305 := ⟨by kernel_rfl, by kernel_rfl⟩
theorem fits306 : Ty.fits Tryz.prog 306 y306 := ⟨by kernel_rfl, by kernel_rfl⟩
theorem fits307 : Ty.fits Tryz.prog 307 y307 := ⟨by kernel_rfl, by kernel_rfl⟩
theorem fits308 : Ty.fits Tryz.prog 308 y308 := ⟨by kernel_rfl, by kernel_rfl⟩
theorem fits309 : Ty.fits Tryz.prog 309 y309 := ⟨by kernel_rfl, by kernel_rfl⟩
theorem fits310 : Ty.fits Tryz.prog 310 y310 := ⟨by kernel_rfl, by kernel_rfl⟩
theorem fits311 : Ty.fits Tryz.prog 311 y311 := ⟨by kernel_rfl, by kernel_rfl⟩
theorem fits312 : Ty.fits Tryz.prog 312 y312 := ⟨by kernel_rfl, by kernel_rfl⟩
theorem fits313 : Ty.fits Tryz.prog 313 y313 := ⟨by kernel_rfl, by kernel_rfl⟩
theorem fits314 : Ty.fits Tryz.prog 314 y314 := ⟨by kernel_rfl, by kernel_rfl⟩
theorem fits315 : Ty.fits Tryz.prog 315 y315 := ⟨by kernel_rfl, by kernel_rfl⟩
theorem fits316 : Ty.fits Tryz.prog 316 y316 := ⟨by kernel_rfl, by kernel_rfl⟩
theorem fits317 : Ty.fits Tryz.prog 317 y317 := ⟨by kernel_rfl, by kernel_rfl⟩
theorem fits318 : Ty.fits Tryz.prog 318 y318 := ⟨by kernel_rfl, by kernel_rfl⟩
theorem fits319 : Ty.fits Tryz.prog 319 y319 := ⟨by kernel_rfl, by kernel_rfl⟩
theorem fits320 : Ty.fits Tryz.prog 320 y320 := ⟨by kernel_rfl, by kernel_rfl⟩
theorem fits321 : Ty.fits Tryz.prog 321 y321 := ⟨by kernel_rfl, by kernel_rfl⟩
theorem fits322 : Ty.fits Tryz.prog 322 y322 := ⟨by kernel_rfl, by kernel_rfl⟩
theorem fits324 : Ty.fits Tryz.prog 324 y324 := ⟨by kernel_rfl, by kernel_rfl⟩
theorem fits325 : Ty.fits Tryz.prog 325 y325 := ⟨by kernel_rfl, by kernel_rfl⟩
theorem fits326 : Ty.fits Tryz.prog 326 y326 := ⟨by kernel_rfl, by kernel_rfl⟩
theorem fits327 : Ty.fits Tryz.prog 327 y327 := ⟨by kernel_rfl, by kernel_rfl⟩
theorem fits328 : Ty.fits Tryz.prog 328 y328 := ⟨by kernel_rfl, by kernel_rfl⟩
theorem fits329 : Ty.fits Tryz.prog 329 y329 := ⟨by kernel_rfl, by kernel_rfl⟩
theorem fits330 : Ty.fits Tryz.prog 330 y330 := ⟨by kernel_rfl, by kernel_rfl⟩
theorem fits331 : Ty.fits Tryz.prog 331 y331 := ⟨by kernel_rfl, by kernel_rfl⟩
theorem fits332 : Ty.fits Tryz.prog 332 y332 := ⟨by kernel_rfl, by kernel_rfl⟩
theorem fits333 : Ty.fits Tryz.prog 333 y333 := ⟨by kernel_rfl, by kernel_rfl⟩
theorem fits334 : Ty.fits Tryz.prog 334 y334 := ⟨by kernel_rfl, by kernel_rfl⟩
theorem fits335 : Ty.fits Tryz.prog 335 y335 := ⟨by kernel_rfl, by kernel_rfl⟩
theorem fits336 : Ty.fits Tryz.prog 336 y336 := ⟨by kernel_rfl, by kernel_rfl⟩
theorem fits337 : Ty.fits Tryz.prog 337 y337 := ⟨by kernel_rfl, by kernel_rfl⟩
theorem fits338 : Ty.fits Tryz.prog 338 y338 := ⟨by kernel_rfl, by kernel_rfl⟩
theorem fits339 : Ty.fits Tryz.prog 339 y339 := ⟨by kernel_rfl, by kernel_rfl⟩
theorem fits340 : Ty.fits Tryz.prog 340 y340 := ⟨by kernel_rfl, by kernel_rfl⟩
theorem fits341 : Ty.fits Tryz.prog 341 y341 := ⟨by kernel_rfl, by kernel_rfl⟩
theorem fits342 : Ty.fits Tryz.prog 342 y342 := ⟨by kernel_rfl, by kernel_rfl⟩
theorem fits343 : Ty.fits Tryz.prog 343 y343 := ⟨by kernel_rfl, by kernel_rfl⟩
theorem fits344 : Ty.fits Tryz.prog 344 y344 := ⟨by kernel_rfl, by kernel_rfl⟩
theorem fits345 : Ty.fits Tryz.prog 345 y345 := ⟨by kernel_rfl, by kernel_rfl⟩
theorem fits346 : Ty.fits Tryz.prog 346 y346 := ⟨by kernel_rfl, by kernel_rfl⟩
theorem fits347 : Ty.fits Tryz.prog 347 y347 := ⟨by kernel_rfl, by kernel_rfl⟩
theorem fits348 : Ty.fits Tryz.prog 348 y348 := ⟨by kernel_rfl, by kernel_rfl⟩
theorem fits349 : Ty.fits Tryz.prog 349 y349 := ⟨by kernel_rfl, by kernel_rfl⟩
theorem fits350 : Ty.fits Tryz.prog 350 y350 := ⟨by kernel_rfl, by kernel_rfl⟩
theorem fits352 : Ty.fits Tryz.prog 352 y352 := ⟨by kernel_rfl, by kernel_rfl⟩
theorem fits353 : Ty.fits Tryz.prog 353 y353 := ⟨by kernel_rfl, by kernel_rfl⟩
theorem fits354 : Ty.fits Tryz.prog 354 y354 := ⟨by kernel_rfl, by kernel_rfl⟩
theorem fits355 : Ty.fits Tryz.prog 355 y355 := ⟨by kernel_rfl, by kernel_rfl⟩
theorem fits356 : Ty.fits Tryz.prog 356 y356 := ⟨by kernel_rfl, by kernel_rfl⟩
theorem fits357 : Ty.fits Tryz.prog 357 y357 := ⟨by kernel_rfl, by kernel_rfl⟩
theorem fits358 : Ty.fits Tryz.prog 358 y358 := ⟨by kernel_rfl, by kernel_rfl⟩
theorem fits359 : Ty.fits Tryz.prog 359 y359 := ⟨by kernel_rfl, by kernel_rfl⟩
theorem fits360 : Ty.fits Tryz.prog 360 y360 := ⟨by kernel_rfl, by kernel_rfl⟩
theorem fits361 : Ty.fits Tryz.prog 361 y361 := ⟨by kernel_rfl, by kernel_rfl⟩
theorem fits362 : Ty.fits Tryz.prog 362 y362 := ⟨by kernel_rfl, by kernel_rfl⟩
theorem fits364 : Ty.fits Tryz.prog 364 y364 := ⟨by kernel_rfl, by kernel_rfl⟩
theorem fits365 : Ty.fits Tryz.prog 365 y365 := ⟨by kernel_rfl, by kernel_rfl⟩
theorem fits369 : Ty.fits Tryz.prog 369 y369 := ⟨by kernel_rfl, by kernel_rfl⟩
theorem fits370 : Ty.fits Tryz.prog 370 y370 := ⟨by kernel_rfl, by kernel_rfl⟩
theorem fits373 : Ty.fits Tryz.prog 373 y373 := ⟨by kernel_rfl, by kernel_rfl⟩
theorem fits375 : Ty.fits Tryz.prog 375 y375 := ⟨by kernel_rfl, by kernel_rfl⟩
theorem tys_of : tys.Of Tryz.prog := Tys.of_list ⟨fits1, fits2, fits3, fits4, fits5, fits7, fits9, fits12, fits13, fits15, fits16, fits17, fits18, fits21, fits22, fits23, fits24, fits25, fits26, fits27, fits29, fits30, fits31, fits32, fits33, fits34, fits35, fits36, fits37, fits38, fits39, fits40, fits42, fits43, fits44, fits45, fits47, fits49, fits50, fits51, fits52, fits53, fits54, fits55, fits56, fits57, fits59, fits61, fits62, fits63, fits64, fits65, fits66, fits67, fits68, fits69, fits70, fits71, fits72, fits73, fits74, fits76, fits77, fits78, fits79, fits81, fits82, fits83, fits84, fits85, fits86, fits87, fits88, fits89, fits90, fits91, fits92, fits93, fits94, fits95, fits96, fits97, fits98, fits99, fits100, fits101, fits103, fits104, fits105, fits106, fits108, fits109, fits110, fits111, fits113, fits114, fits116, fits117, fits118, fits119, fits120, fits121, fits122, fits123, fits124, fits125, fits126, fits127, fits128, fits130, fits131, fits132, fits133, fits135, fits136, fits137, fits138, fits139, fits140, fits141, fits143, fits144, fits145, fits146, fits147, fits148, fits149, fits150, fits151, fits152, fits153, fits155, fits157, fits158, fits159, fits160, fits162, fits163, fits164, fits165, fits166, fits167, fits168, fits169, fits171, fits172, fits173, fits174, fits175, fits176, fits177, fits178, fits179, fits181, fits182, fits183, fits185, fits187, fits188, fits190, fits191, fits192, fits194, fits195, fits196, fits197, fits198, fits199, fits200, fits201, fits202, fits203, fits204, fits205, fits206, fits207, fits208, fits209, fits210, fits211, fits212, fits213, fits214, fits215, fits216, fits217, fits218, fits219, fits221, fits222, fits223, fits224, fits225, fits226, fits227, fits228, fits229, fits230, fits231, fits232, fits233, fits234, fits235, fits236, fits237, fits238, fits239, fits241, fits242, fits244, fits245, fits246, fits248, fits249, fits250, fits251, fits252, fits253, fits254, fits255, fits256, fits257, fits258, fits259, fits260, fits261, fits262, fits264, fits265, fits266, fits267, fits268, fits269, fits270, fits271, fits272, fits273, fits274, fits275, fits276, fits277, fits278, fits279, fits280, fits281, fits283, fits284, fits285, fits286, fits287, fits288, fits289, fits290, fits291, fits292, fits293, fits295, fits297, fits298, fits299, fits301, fits302, fits303, fits304, fits305, fits306, fits307, fits308, fits309, fits310, fits311, fits312, fits313, fits314, fits315, fits316, fits317, fits318, fits319, fits320, fits321, fits322, fits324, fits325, fits326, fits327, fits328, fits329, fits330, fits331, fits332, fits333, fits334, fits335, fits336, fits337, fits338, fits339, fits340, fits341, fits342, fits343, fits344, fits345, fits346, fits347, fits348, fits349, fits350, fits352, fits353, fits354, fits355, fits356, fits357, fits358, fits359, fits360, fits361, fits362, fits364, fits365, fits369, fits370, fits373, fits375, trivial⟩
end Go.Sl.Tz

/-
  Names for the functions and types of the dump: by program (gennames.py).
-/
namespace Go.Sl.Tz
open Go Go.Proofs
abbrev F_turnrowlaw19_OpNone : FuncId := 7
theorem func_turnrowlaw19_OpNone : Tryz.prog.funcs[7]? = some Tryz.f7 := Tryz.func7
theorem ntmps_turnrowlaw19_OpNone : Tryz.f7.ntmps = 55 := Tryz.ntmps7
abbrev F_turnrowlaw19_alive : FuncId := 9
theorem func_turnrowlaw19_alive : Tryz.prog.funcs[9]? = some Tryz.f9 := Tryz.func9
theorem ntmps_turnrowlaw19_alive : Tryz.f9.ntmps = 48 := Tryz.ntmps9
theorem cl_turnrowlaw19_alive : Callable Tryz.prog 9 := ⟨_, Tryz.func9, by kernel_rfl, by kernel_rfl⟩
abbrev F_turnrowref02_Same : FuncId := 12
theorem func_turnrowref02_Same : Tryz.prog.funcs[12]? = some Tryz.f12 := Tryz.func12
theorem ntmps_turnrowref02_Same : Tryz.f12.ntmps = 26 := Tryz.ntmps12
theorem cl_turnrowref02_Same : Callable Tryz.prog 12 := ⟨_, Tryz.func12, by kernel_rfl, by kernel_rfl⟩
abbrev F_op_Machine_Do : FuncId := 13
theorem func_op_Machine_Do : Tryz.prog.funcs[13]? = some Tryz.f13 := Tryz.func13
theorem ntmps_op_Machine_Do : Tryz.f13.ntmps = 23 := Tryz.ntmps13
theorem cl_op_Machine_Do : Callable Tryz.prog 13 := ⟨_, Tryz.func13, by kernel_rfl, by kernel_rfl⟩
abbrev F_op_Machine_Heap : FuncId := 16
theorem func_op_Machine_Heap : Tryz.prog.funcs[16]? = some Tryz.f16 := Tryz.func16
theorem ntmps_op_Machine_Heap : Tryz.f16.ntmps = 9 := Tryz.ntmps16
theorem cl_op_Machine_Heap : Callable Tryz.prog 16 := ⟨_, Tryz.func16, by kernel_rfl, by kernel_rfl⟩
abbrev F_op_New : FuncId := 18
theorem func_op_New : Tryz.prog.funcs[18]? = some Tryz.f18 := Tryz.func18
theorem ntmps_op_New : Tryz.f18.ntmps = 23 := Tryz.ntmps18
theorem cl_op_New : Callable Tryz.prog 18 := ⟨_, Tryz.func18, by kernel_rfl, by kernel_rfl⟩
abbrev F_evac_New : FuncId := 19
theorem func_evac_New : Tryz.prog.funcs[19]? = some Tryz.f19 := Tryz.func19
theorem ntmps_evac_New : Tryz.f19.ntmps = 23 := Tryz.ntmps19
theorem cl_evac_New : Callable Tryz.prog 19 := ⟨_, Tryz.func19, by kernel_rfl, by kernel_rfl⟩
abbrev F_op_Machine_act : FuncId := 20
theorem func_op_Machine_act : Tryz.prog.funcs[20]? = some Tryz.f20 := Tryz.func20
theorem ntmps_op_Machine_act : Tryz.f20.ntmps = 51 := Tryz.ntmps20
theorem cl_op_Machine_act : Callable Tryz.prog 20 := ⟨_, Tryz.func20, by kernel_rfl, by kernel_rfl⟩
abbrev F_cell_Cells_Define : FuncId := 21
theorem func_cell_Cells_Define : Tryz.prog.funcs[21]? = some Tryz.f21 := Tryz.func21
theorem ntmps_cell_Cells_Define : Tryz.f21.ntmps = 26 := Tryz.ntmps21
theorem cl_cell_Cells_Define : Callable Tryz.prog 21 := ⟨_, Tryz.func21, by kernel_rfl, by kernel_rfl⟩
abbrev F_cell_Cells_Open : FuncId := 23
theorem func_cell_Cells_Open : Tryz.prog.funcs[23]? = some Tryz.f23 := Tryz.func23
theorem ntmps_cell_Cells_Open : Tryz.f23.ntmps = 43 := Tryz.ntmps23
theorem cl_cell_Cells_Open : Callable Tryz.prog 23 := ⟨_, Tryz.func23, by kernel_rfl, by kernel_rfl⟩
abbrev F_table_Table_Left : FuncId := 41
theorem func_table_Table_Left : Tryz.prog.funcs[41]? = some Tryz.f41 := Tryz.func41
theorem ntmps_table_Table_Left : Tryz.f41.ntmps = 16 := Tryz.ntmps41
theorem cl_table_Table_Left : Callable Tryz.prog 41 := ⟨_, Tryz.func41, by kernel_rfl, by kernel_rfl⟩
abbrev F_cell_New : FuncId := 44
theorem func_cell_New : Tryz.prog.funcs[44]? = some Tryz.f44 := Tryz.func44
theorem ntmps_cell_New : Tryz.f44.ntmps = 48 := Tryz.ntmps44
theorem cl_cell_New : Callable Tryz.prog 44 := ⟨_, Tryz.func44, by kernel_rfl, by kernel_rfl⟩
abbrev F_op_deeds : FuncId := 45
theorem func_op_deeds : Tryz.prog.funcs[45]? = some Tryz.f45 := Tryz.func45
theorem ntmps_op_deeds : Tryz.f45.ntmps = 25 := Tryz.ntmps45
theorem cl_op_deeds : Callable Tryz.prog 45 := ⟨_, Tryz.func45, by kernel_rfl, by kernel_rfl⟩
abbrev F_layout_Decode : FuncId := 46
theorem func_layout_Decode : Tryz.prog.funcs[46]? = some Tryz.f46 := Tryz.func46
theorem ntmps_layout_Decode : Tryz.f46.ntmps = 47 := Tryz.ntmps46
theorem cl_layout_Decode : Callable Tryz.prog 46 := ⟨_, Tryz.func46, by kernel_rfl, by kernel_rfl⟩
abbrev F_layout_Book_Add : FuncId := 47
theorem func_layout_Book_Add : Tryz.prog.funcs[47]? = some Tryz.f47 := Tryz.func47
theorem ntmps_layout_Book_Add : Tryz.f47.ntmps = 36 := Tryz.ntmps47
theorem cl_layout_Book_Add : Callable Tryz.prog 47 := ⟨_, Tryz.func47, by kernel_rfl, by kernel_rfl⟩
abbrev F_tree_Tree_Add : FuncId := 48
theorem func_tree_Tree_Add : Tryz.prog.funcs[48]? = some Tryz.f48 := Tryz.func48
theorem ntmps_tree_Tree_Add : Tryz.f48.ntmps = 45 := Tryz.ntmps48
theorem cl_tree_Tree_Add : Callable Tryz.prog 48 := ⟨_, Tryz.func48, by kernel_rfl, by kernel_rfl⟩
abbrev F_bump_New : FuncId := 49
theorem func_bump_New : Tryz.prog.funcs[49]? = some Tryz.f49 := Tryz.func49
theorem ntmps_bump_New : Tryz.f49.ntmps = 16 := Tryz.ntmps49
theorem cl_bump_New : Callable Tryz.prog 49 := ⟨_, Tryz.func49, by kernel_rfl, by kernel_rfl⟩
abbrev F_bag_New_int : FuncId := 50
theorem func_bag_New_int : Tryz.prog.funcs[50]? = some Tryz.f50 := Tryz.func50
theorem ntmps_bag_New_int : Tryz.f50.ntmps = 11 := Tryz.ntmps50
theorem cl_bag_New_int : Callable Tryz.prog 50 := ⟨_, Tryz.func50, by kernel_rfl, by kernel_rfl⟩
abbrev F_tree_Tree_Live : FuncId := 55
theorem func_tree_Tree_Live : Tryz.prog.funcs[55]? = some Tryz.f55 := Tryz.func55
theorem ntmps_tree_Tree_Live : Tryz.f55.ntmps = 19 := Tryz.ntmps55
theorem cl_tree_Tree_Live : Callable Tryz.prog 55 := ⟨_, Tryz.func55, by kernel_rfl, by kernel_rfl⟩
abbrev F_store_Store_Words : FuncId := 71
theorem func_store_Store_Words : Tryz.prog.funcs[71]? = some Tryz.f71 := Tryz.func71
theorem ntmps_store_Store_Words : Tryz.f71.ntmps = 9 := Tryz.ntmps71
theorem cl_store_Store_Words : Callable Tryz.prog 71 := ⟨_, Tryz.func71, by kernel_rfl, by kernel_rfl⟩
abbrev F_slices_Sort_int_int : FuncId := 74
theorem cl_slices_Sort_int_int : Callable Tryz.prog 74 := ⟨_, Tryz.func74, by kernel_rfl, by kernel_rfl⟩
abbrev F_evac_Heap_Make : FuncId := 80
theorem func_evac_Heap_Make : Tryz.prog.funcs[80]? = some Tryz.f80 := Tryz.func80
theorem ntmps_evac_Heap_Make : Tryz.f80.ntmps = 91 := Tryz.ntmps80
theorem cl_evac_Heap_Make : Callable Tryz.prog 80 := ⟨_, Tryz.func80, by kernel_rfl, by kernel_rfl⟩
abbrev F_evac_Heap_Get : FuncId := 81
theorem func_evac_Heap_Get : Tryz.prog.funcs[81]? = some Tryz.f81 := Tryz.func81
theorem ntmps_evac_Heap_Get : Tryz.f81.ntmps = 22 := Tryz.ntmps81
theorem cl_evac_Heap_Get : Callable Tryz.prog 81 := ⟨_, Tryz.func81, by kernel_rfl, by kernel_rfl⟩
abbrev F_bitmap_Map_Count : FuncId := 92
theorem func_bitmap_Map_Count : Tryz.prog.funcs[92]? = some Tryz.f92 := Tryz.func92
theorem ntmps_bitmap_Map_Count : Tryz.f92.ntmps = 9 := Tryz.ntmps92
theorem cl_bitmap_Map_Count : Callable Tryz.prog 92 := ⟨_, Tryz.func92, by kernel_rfl, by kernel_rfl⟩
abbrev F_store_New : FuncId := 96
theorem func_store_New : Tryz.prog.funcs[96]? = some Tryz.f96 := Tryz.func96
theorem ntmps_store_New : Tryz.f96.ntmps = 37 := Tryz.ntmps96
theorem cl_store_New : Callable Tryz.prog 96 := ⟨_, Tryz.func96, by kernel_rfl, by kernel_rfl⟩
abbrev F_table_New : FuncId := 97
theorem func_table_New : Tryz.prog.funcs[97]? = some Tryz.f97 := Tryz.func97
theorem ntmps_table_New : Tryz.f97.ntmps = 22 := Tryz.ntmps97
theorem cl_table_New : Callable Tryz.prog 97 := ⟨_, Tryz.func97, by kernel_rfl, by kernel_rfl⟩
abbrev F_layout_NewBook : FuncId := 98
theorem func_layout_NewBook : Tryz.prog.funcs[98]? = some Tryz.f98 := Tryz.func98
theorem ntmps_layout_NewBook : Tryz.f98.ntmps = 3 := Tryz.ntmps98
theorem cl_layout_NewBook : Callable Tryz.prog 98 := ⟨_, Tryz.func98, by kernel_rfl, by kernel_rfl⟩
abbrev F_image_New : FuncId := 99
theorem func_image_New : Tryz.prog.funcs[99]? = some Tryz.f99 := Tryz.func99
theorem ntmps_image_New : Tryz.f99.ntmps = 16 := Tryz.ntmps99
theorem cl_image_New : Callable Tryz.prog 99 := ⟨_, Tryz.func99, by kernel_rfl, by kernel_rfl⟩
abbrev F_tree_New : FuncId := 100
theorem func_tree_New : Tryz.prog.funcs[100]? = some Tryz.f100 := Tryz.func100
theorem ntmps_tree_New : Tryz.f100.ntmps = 4 := Tryz.ntmps100
theorem cl_tree_New : Callable Tryz.prog 100 := ⟨_, Tryz.func100, by kernel_rfl, by kernel_rfl⟩
abbrev F_remset_New : FuncId := 101
theorem func_remset_New : Tryz.prog.funcs[101]? = some Tryz.f101 := Tryz.func101
theorem ntmps_remset_New : Tryz.f101.ntmps = 6 := Tryz.ntmps101
theorem cl_remset_New : Callable Tryz.prog 101 := ⟨_, Tryz.func101, by kernel_rfl, by kernel_rfl⟩
abbrev F_op_Machine_define : FuncId := 102
theorem func_op_Machine_define : Tryz.prog.funcs[102]? = some Tryz.f102 := Tryz.func102
theorem ntmps_op_Machine_define : Tryz.f102.ntmps = 35 := Tryz.ntmps102
theorem cl_op_Machine_define : Callable Tryz.prog 102 := ⟨_, Tryz.func102, by kernel_rfl, by kernel_rfl⟩
abbrev F_op_Machine_open : FuncId := 103
theorem func_op_Machine_open : Tryz.prog.funcs[103]? = some Tryz.f103 := Tryz.func103
theorem ntmps_op_Machine_open : Tryz.f103.ntmps = 25 := Tryz.ntmps103
theorem cl_op_Machine_open : Callable Tryz.prog 103 := ⟨_, Tryz.func103, by kernel_rfl, by kernel_rfl⟩
abbrev F_op_Machine_create : FuncId := 104
theorem func_op_Machine_create : Tryz.prog.funcs[104]? = some Tryz.f104 := Tryz.func104
theorem ntmps_op_Machine_create : Tryz.f104.ntmps = 31 := Tryz.ntmps104
theorem cl_op_Machine_create : Callable Tryz.prog 104 := ⟨_, Tryz.func104, by kernel_rfl, by kernel_rfl⟩
abbrev F_op_Machine_get : FuncId := 105
theorem func_op_Machine_get : Tryz.prog.funcs[105]? = some Tryz.f105 := Tryz.func105
theorem ntmps_op_Machine_get : Tryz.f105.ntmps = 25 := Tryz.ntmps105
theorem cl_op_Machine_get : Callable Tryz.prog 105 := ⟨_, Tryz.func105, by kernel_rfl, by kernel_rfl⟩
abbrev F_op_Machine_set : FuncId := 106
abbrev F_op_Machine_ref : FuncId := 107
abbrev F_op_Machine_look : FuncId := 108
abbrev F_op_Machine_tie : FuncId := 109
abbrev F_op_Machine_cut : FuncId := 110
abbrev F_op_Machine_drop : FuncId := 111
abbrev F_op_Machine_pin : FuncId := 112
abbrev F_op_Machine_tell : FuncId := 113
abbrev F_op_Machine_free : FuncId := 114
abbrev F_op_Machine_merge : FuncId := 115
abbrev F_op_Machine_split : FuncId := 116
abbrev F_op_Machine_begin : FuncId := 117
abbrev F_op_Machine_step : FuncId := 118
abbrev F_op_Machine_finish : FuncId := 119
abbrev F_op_Machine_abort : FuncId := 120
abbrev F_op_Machine_count : FuncId := 121
abbrev F_op_Machine_of : FuncId := 122
abbrev F_op_Machine_kids : FuncId := 123
abbrev F_field_Unpack : FuncId := 124
theorem func_field_Unpack : Tryz.prog.funcs[124]? = some Tryz.f124 := Tryz.func124
theorem ntmps_field_Unpack : Tryz.f124.ntmps = 30 := Tryz.ntmps124
theorem cl_field_Unpack : Callable Tryz.prog 124 := ⟨_, Tryz.func124, by kernel_rfl, by kernel_rfl⟩
abbrev F_layout_sizes : FuncId := 125
theorem func_layout_sizes : Tryz.prog.funcs[125]? = some Tryz.f125 := Tryz.func125
theorem ntmps_layout_sizes : Tryz.f125.ntmps = 5 := Tryz.ntmps125
theorem cl_layout_sizes : Callable Tryz.prog 125 := ⟨_, Tryz.func125, by kernel_rfl, by kernel_rfl⟩
abbrev F_layout_spread : FuncId := 126
theorem func_layout_spread : Tryz.prog.funcs[126]? = some Tryz.f126 := Tryz.func126
theorem ntmps_layout_spread : Tryz.f126.ntmps = 16 := Tryz.ntmps126
theorem cl_layout_spread : Callable Tryz.prog 126 := ⟨_, Tryz.func126, by kernel_rfl, by kernel_rfl⟩
abbrev F_layout_Right : FuncId := 127
theorem func_layout_Right : Tryz.prog.funcs[127]? = some Tryz.f127 := Tryz.func127
theorem ntmps_layout_Right : Tryz.f127.ntmps = 38 := Tryz.ntmps127
theorem cl_layout_Right : Callable Tryz.prog 127 := ⟨_, Tryz.func127, by kernel_rfl, by kernel_rfl⟩
abbrev F_layout_own : FuncId := 128
theorem func_layout_own : Tryz.prog.funcs[128]? = some Tryz.f128 := Tryz.func128
theorem ntmps_layout_own : Tryz.f128.ntmps = 12 := Tryz.ntmps128
theorem cl_layout_own : Callable Tryz.prog 128 := ⟨_, Tryz.func128, by kernel_rfl, by kernel_rfl⟩
abbrev F_slices_Clone_int_int : FuncId := 129
theorem func_slices_Clone_int_int : Tryz.prog.funcs[129]? = some Tryz.f129 := Tryz.func129
theorem ntmps_slices_Clone_int_int : Tryz.f129.ntmps = 8 := Tryz.ntmps129
theorem cl_slices_Clone_int_int : Callable Tryz.prog 129 := ⟨_, Tryz.func129, by kernel_rfl, by kernel_rfl⟩
abbrev F_slices_Compact_int_int : FuncId := 130
theorem cl_slices_Compact_int_int : Callable Tryz.prog 130 := ⟨_, Tryz.func130, by kernel_rfl, by kernel_rfl⟩
abbrev F_table_Table_Get : FuncId := 144
theorem func_table_Table_Get : Tryz.prog.funcs[144]? = some Tryz.f144 := Tryz.func144
theorem ntmps_table_Table_Get : Tryz.f144.ntmps = 22 := Tryz.ntmps144
theorem cl_table_Table_Get : Callable Tryz.prog 144 := ⟨_, Tryz.func144, by kernel_rfl, by kernel_rfl⟩
abbrev F_bump_Space_Alloc : FuncId := 146
theorem func_bump_Space_Alloc : Tryz.prog.funcs[146]? = some Tryz.f146 := Tryz.func146
theorem ntmps_bump_Space_Alloc : Tryz.f146.ntmps = 93 := Tryz.ntmps146
theorem cl_bump_Space_Alloc : Callable Tryz.prog 146 := ⟨_, Tryz.func146, by kernel_rfl, by kernel_rfl⟩
abbrev F_image_Images_find : FuncId := 161
theorem func_image_Images_find : Tryz.prog.funcs[161]? = some Tryz.f161 := Tryz.func161
theorem ntmps_image_Images_find : Tryz.f161.ntmps = 48 := Tryz.ntmps161
theorem cl_image_Images_find : Callable Tryz.prog 161 := ⟨_, Tryz.func161, by kernel_rfl, by kernel_rfl⟩
abbrev F_cell_Cells_Make : FuncId := 171
theorem func_cell_Cells_Make : Tryz.prog.funcs[171]? = some Tryz.f171 := Tryz.func171
theorem ntmps_cell_Cells_Make : Tryz.f171.ntmps = 109 := Tryz.ntmps171
theorem cl_cell_Cells_Make : Callable Tryz.prog 171 := ⟨_, Tryz.func171, by kernel_rfl, by kernel_rfl⟩
abbrev F_evac_Heap_touch : FuncId := 172
theorem func_evac_Heap_touch : Tryz.prog.funcs[172]? = some Tryz.f172 := Tryz.func172
theorem ntmps_evac_Heap_touch : Tryz.f172.ntmps = 63 := Tryz.ntmps172
theorem cl_evac_Heap_touch : Callable Tryz.prog 172 := ⟨_, Tryz.func172, by kernel_rfl, by kernel_rfl⟩
abbrev F_cell_Cells_Get : FuncId := 173
theorem func_cell_Cells_Get : Tryz.prog.funcs[173]? = some Tryz.f173 := Tryz.func173
theorem ntmps_cell_Cells_Get : Tryz.f173.ntmps = 16 := Tryz.ntmps173
theorem cl_cell_Cells_Get : Callable Tryz.prog 173 := ⟨_, Tryz.func173, by kernel_rfl, by kernel_rfl⟩
abbrev F_cell_Cells_with : FuncId := 176
theorem func_cell_Cells_with : Tryz.prog.funcs[176]? = some Tryz.f176 := Tryz.func176
theorem ntmps_cell_Cells_with : Tryz.f176.ntmps = 21 := Tryz.ntmps176
theorem cl_cell_Cells_with : Callable Tryz.prog 176 := ⟨_, Tryz.func176, by kernel_rfl, by kernel_rfl⟩
abbrev F_cell_Cells_valid : FuncId := 179
theorem func_cell_Cells_valid : Tryz.prog.funcs[179]? = some Tryz.f179 := Tryz.func179
theorem ntmps_cell_Cells_valid : Tryz.f179.ntmps = 29 := Tryz.ntmps179
theorem cl_cell_Cells_valid : Callable Tryz.prog 179 := ⟨_, Tryz.func179, by kernel_rfl, by kernel_rfl⟩
abbrev F_bitmap_Map_next : FuncId := 185
theorem func_bitmap_Map_next : Tryz.prog.funcs[185]? = some Tryz.f185 := Tryz.func185
theorem ntmps_bitmap_Map_next : Tryz.f185.ntmps = 37 := Tryz.ntmps185
theorem cl_bitmap_Map_next : Callable Tryz.prog 185 := ⟨_, Tryz.func185, by kernel_rfl, by kernel_rfl⟩
abbrev F_bitmap_New : FuncId := 186
theorem func_bitmap_New : Tryz.prog.funcs[186]? = some Tryz.f186 := Tryz.func186
theorem ntmps_bitmap_New : Tryz.f186.ntmps = 17 := Tryz.ntmps186
theorem cl_bitmap_New : Callable Tryz.prog 186 := ⟨_, Tryz.func186, by kernel_rfl, by kernel_rfl⟩
abbrev F_op_tok : FuncId := 187
theorem func_op_tok : Tryz.prog.funcs[187]? = some Tryz.f187 := Tryz.func187
theorem ntmps_op_tok : Tryz.f187.ntmps = 10 := Tryz.ntmps187
theorem cl_op_tok : Callable Tryz.prog 187 := ⟨_, Tryz.func187, by kernel_rfl, by kernel_rfl⟩
abbrev F_field_Apart : FuncId := 189
theorem func_field_Apart : Tryz.prog.funcs[189]? = some Tryz.f189 := Tryz.func189
theorem ntmps_field_Apart : Tryz.f189.ntmps = 27 := Tryz.ntmps189
theorem cl_field_Apart : Callable Tryz.prog 189 := ⟨_, Tryz.func189, by kernel_rfl, by kernel_rfl⟩
abbrev F_field_mask : FuncId := 190
theorem func_field_mask : Tryz.prog.funcs[190]? = some Tryz.f190 := Tryz.func190
theorem ntmps_field_mask : Tryz.f190.ntmps = 10 := Tryz.ntmps190
theorem cl_field_mask : Callable Tryz.prog 190 := ⟨_, Tryz.func190, by kernel_rfl, by kernel_rfl⟩
abbrev F_math_bits_TrailingZeros64 : FuncId := 191
theorem func_math_bits_TrailingZeros64 : Tryz.prog.funcs[191]? = some Tryz.f191 := Tryz.func191
theorem ntmps_math_bits_TrailingZeros64 : Tryz.f191.ntmps = 14 := Tryz.ntmps191
theorem cl_math_bits_TrailingZeros64 : Callable Tryz.prog 191 := ⟨_, Tryz.func191, by kernel_rfl, by kernel_rfl⟩
abbrev F_layout_rises : FuncId := 192
theorem func_layout_rises : Tryz.prog.funcs[192]? = some Tryz.f192 := Tryz.func192
theorem ntmps_layout_rises : Tryz.f192.ntmps = 35 := Tryz.ntmps192
theorem cl_layout_rises : Callable Tryz.prog 192 := ⟨_, Tryz.func192, by kernel_rfl, by kernel_rfl⟩
abbrev F_slices_BinarySearch_int_int : FuncId := 194
theorem func_slices_BinarySearch_int_int : Tryz.prog.funcs[194]? = some Tryz.f194 := Tryz.func194
theorem ntmps_slices_BinarySearch_int_int : Tryz.f194.ntmps = 54 := Tryz.ntmps194
theorem cl_slices_BinarySearch_int_int : Callable Tryz.prog 194 := ⟨_, Tryz.func194, by kernel_rfl, by kernel_rfl⟩
abbrev F_image_Images_word : FuncId := 195
theorem func_image_Images_word : Tryz.prog.funcs[195]? = some Tryz.f195 := Tryz.func195
theorem ntmps_image_Images_word : Tryz.f195.ntmps = 48 := Tryz.ntmps195
theorem cl_image_Images_word : Callable Tryz.prog 195 := ⟨_, Tryz.func195, by kernel_rfl, by kernel_rfl⟩
abbrev F_store_Store_Write : FuncId := 197
theorem func_store_Store_Write : Tryz.prog.funcs[197]? = some Tryz.f197 := Tryz.func197
theorem ntmps_store_Store_Write : Tryz.f197.ntmps = 23 := Tryz.ntmps197
theorem cl_store_Store_Write : Callable Tryz.prog 197 := ⟨_, Tryz.func197, by kernel_rfl, by kernel_rfl⟩
abbrev F_bag_Bag_int_Put : FuncId := 202
theorem func_bag_Bag_int_Put : Tryz.prog.funcs[202]? = some Tryz.f202 := Tryz.func202
theorem ntmps_bag_Bag_int_Put : Tryz.f202.ntmps = 33 := Tryz.ntmps202
theorem cl_bag_Bag_int_Put : Callable Tryz.prog 202 := ⟨_, Tryz.func202, by kernel_rfl, by kernel_rfl⟩
abbrev F_table_Table_find : FuncId := 204
theorem func_table_Table_find : Tryz.prog.funcs[204]? = some Tryz.f204 := Tryz.func204
theorem ntmps_table_Table_find : Tryz.f204.ntmps = 54 := Tryz.ntmps204
theorem cl_table_Table_find : Callable Tryz.prog 204 := ⟨_, Tryz.func204, by kernel_rfl, by kernel_rfl⟩
abbrev F_bump_Space_Room : FuncId := 205
theorem func_bump_Space_Room : Tryz.prog.funcs[205]? = some Tryz.f205 := Tryz.func205
theorem ntmps_bump_Space_Room : Tryz.f205.ntmps = 14 := Tryz.ntmps205
theorem cl_bump_Space_Room : Callable Tryz.prog 205 := ⟨_, Tryz.func205, by kernel_rfl, by kernel_rfl⟩
abbrev F_store_Store_TakeRun : FuncId := 206
theorem func_store_Store_TakeRun : Tryz.prog.funcs[206]? = some Tryz.f206 := Tryz.func206
theorem ntmps_store_Store_TakeRun : Tryz.f206.ntmps = 74 := Tryz.ntmps206
theorem cl_store_Store_TakeRun : Callable Tryz.prog 206 := ⟨_, Tryz.func206, by kernel_rfl, by kernel_rfl⟩
abbrev F_store_Store_Copy : FuncId := 207
theorem func_store_Store_Copy : Tryz.prog.funcs[207]? = some Tryz.f207 := Tryz.func207
theorem ntmps_store_Store_Copy : Tryz.f207.ntmps = 54 := Tryz.ntmps207
theorem cl_store_Store_Copy : Callable Tryz.prog 207 := ⟨_, Tryz.func207, by kernel_rfl, by kernel_rfl⟩
abbrev F_bitmap_Map_Set : FuncId := 217
theorem func_bitmap_Map_Set : Tryz.prog.funcs[217]? = some Tryz.f217 := Tryz.func217
theorem ntmps_bitmap_Map_Set : Tryz.f217.ntmps = 11 := Tryz.ntmps217
theorem cl_bitmap_Map_Set : Callable Tryz.prog 217 := ⟨_, Tryz.func217, by kernel_rfl, by kernel_rfl⟩
abbrev F_store_Store_Read : FuncId := 218
theorem func_store_Store_Read : Tryz.prog.funcs[218]? = some Tryz.f218 := Tryz.func218
theorem ntmps_store_Store_Read : Tryz.f218.ntmps = 22 := Tryz.ntmps218
theorem cl_store_Store_Read : Callable Tryz.prog 218 := ⟨_, Tryz.func218, by kernel_rfl, by kernel_rfl⟩
abbrev F_header_Decode : FuncId := 219
theorem func_header_Decode : Tryz.prog.funcs[219]? = some Tryz.f219 := Tryz.func219
theorem ntmps_header_Decode : Tryz.f219.ntmps = 43 := Tryz.ntmps219
theorem cl_header_Decode : Callable Tryz.prog 219 := ⟨_, Tryz.func219, by kernel_rfl, by kernel_rfl⟩
abbrev F_image_Images_size : FuncId := 220
theorem func_image_Images_size : Tryz.prog.funcs[220]? = some Tryz.f220 := Tryz.func220
theorem ntmps_image_Images_size : Tryz.f220.ntmps = 34 := Tryz.ntmps220
theorem cl_image_Images_size : Callable Tryz.prog 220 := ⟨_, Tryz.func220, by kernel_rfl, by kernel_rfl⟩
abbrev F_cmp_Less_int : FuncId := 228
theorem func_cmp_Less_int : Tryz.prog.funcs[228]? = some Tryz.f228 := Tryz.func228
theorem ntmps_cmp_Less_int : Tryz.f228.ntmps = 17 := Tryz.ntmps228
theorem cl_cmp_Less_int : Callable Tryz.prog 228 := ⟨_, Tryz.func228, by kernel_rfl, by kernel_rfl⟩
abbrev F_math_bits_Len64 : FuncId := 232
theorem cl_math_bits_Len64 : Callable Tryz.prog 232 := ⟨_, Tryz.func232, by kernel_rfl, by kernel_rfl⟩
abbrev F_layout_Book_Get : FuncId := 236
theorem func_layout_Book_Get : Tryz.prog.funcs[236]? = some Tryz.f236 := Tryz.func236
theorem ntmps_layout_Book_Get : Tryz.f236.ntmps = 32 := Tryz.ntmps236
theorem cl_layout_Book_Get : Callable Tryz.prog 236 := ⟨_, Tryz.func236, by kernel_rfl, by kernel_rfl⟩
abbrev F_layout_Size : FuncId := 237
theorem func_layout_Size : Tryz.prog.funcs[237]? = some Tryz.f237 := Tryz.func237
theorem ntmps_layout_Size : Tryz.f237.ntmps = 37 := Tryz.ntmps237
theorem cl_layout_Size : Callable Tryz.prog 237 := ⟨_, Tryz.func237, by kernel_rfl, by kernel_rfl⟩
abbrev F_table_Table_Add : FuncId := 238
theorem func_table_Table_Add : Tryz.prog.funcs[238]? = some Tryz.f238 := Tryz.func238
theorem ntmps_table_Table_Add : Tryz.f238.ntmps = 55 := Tryz.ntmps238
theorem cl_table_Table_Add : Callable Tryz.prog 238 := ⟨_, Tryz.func238, by kernel_rfl, by kernel_rfl⟩
abbrev F_image_Images_Make : FuncId := 239
theorem func_image_Images_Make : Tryz.prog.funcs[239]? = some Tryz.f239 := Tryz.func239
theorem ntmps_image_Images_Make : Tryz.f239.ntmps = 69 := Tryz.ntmps239
theorem cl_image_Images_Make : Callable Tryz.prog 239 := ⟨_, Tryz.func239, by kernel_rfl, by kernel_rfl⟩
abbrev F_cell_Cells_Get_1 : FuncId := 240
theorem func_cell_Cells_Get_1 : Tryz.prog.funcs[240]? = some Tryz.f240 := Tryz.func240
theorem ntmps_cell_Cells_Get_1 : Tryz.f240.ntmps = 18 := Tryz.ntmps240
theorem cl_cell_Cells_Get_1 : Callable Tryz.prog 240 := ⟨_, Tryz.func240, by kernel_rfl, by kernel_rfl⟩
abbrev F_image_Images_Load : FuncId := 241
theorem func_image_Images_Load : Tryz.prog.funcs[241]? = some Tryz.f241 := Tryz.func241
theorem ntmps_image_Images_Load : Tryz.f241.ntmps = 14 := Tryz.ntmps241
theorem cl_image_Images_Load : Callable Tryz.prog 241 := ⟨_, Tryz.func241, by kernel_rfl, by kernel_rfl⟩
abbrev F_field_Right : FuncId := 249
theorem func_field_Right : Tryz.prog.funcs[249]? = some Tryz.f249 := Tryz.func249
theorem ntmps_field_Right : Tryz.f249.ntmps = 24 := Tryz.ntmps249
theorem cl_field_Right : Callable Tryz.prog 249 := ⟨_, Tryz.func249, by kernel_rfl, by kernel_rfl⟩
abbrev F_slices_isNaN_int : FuncId := 250
theorem func_slices_isNaN_int : Tryz.prog.funcs[250]? = some Tryz.f250 := Tryz.func250
theorem ntmps_slices_isNaN_int : Tryz.f250.ntmps = 6 := Tryz.ntmps250
theorem cl_slices_isNaN_int : Callable Tryz.prog 250 := ⟨_, Tryz.func250, by kernel_rfl, by kernel_rfl⟩
abbrev F_layout_IsRef : FuncId := 251
theorem func_layout_IsRef : Tryz.prog.funcs[251]? = some Tryz.f251 := Tryz.func251
theorem ntmps_layout_IsRef : Tryz.f251.ntmps = 55 := Tryz.ntmps251
theorem cl_layout_IsRef : Callable Tryz.prog 251 := ⟨_, Tryz.func251, by kernel_rfl, by kernel_rfl⟩
abbrev F_field_Pack : FuncId := 253
theorem func_field_Pack : Tryz.prog.funcs[253]? = some Tryz.f253 := Tryz.func253
theorem ntmps_field_Pack : Tryz.f253.ntmps = 42 := Tryz.ntmps253
theorem cl_field_Pack : Callable Tryz.prog 253 := ⟨_, Tryz.func253, by kernel_rfl, by kernel_rfl⟩
abbrev F_store_Store_at : FuncId := 255
theorem func_store_Store_at : Tryz.prog.funcs[255]? = some Tryz.f255 := Tryz.func255
theorem ntmps_store_Store_at : Tryz.f255.ntmps = 63 := Tryz.ntmps255
theorem cl_store_Store_at : Callable Tryz.prog 255 := ⟨_, Tryz.func255, by kernel_rfl, by kernel_rfl⟩
abbrev F_slices_Insert_int_int : FuncId := 258
theorem func_slices_Insert_int_int : Tryz.prog.funcs[258]? = some Tryz.f258 := Tryz.func258
theorem ntmps_slices_Insert_int_int : Tryz.f258.ntmps = 95 := Tryz.ntmps258
theorem cl_slices_Insert_int_int : Callable Tryz.prog 258 := ⟨_, Tryz.func258, by kernel_rfl, by kernel_rfl⟩
abbrev F_bitmap_Map_Run : FuncId := 259
theorem func_bitmap_Map_Run : Tryz.prog.funcs[259]? = some Tryz.f259 := Tryz.func259
theorem ntmps_bitmap_Map_Run : Tryz.f259.ntmps = 32 := Tryz.ntmps259
theorem cl_bitmap_Map_Run : Callable Tryz.prog 259 := ⟨_, Tryz.func259, by kernel_rfl, by kernel_rfl⟩
abbrev F_bitmap_Map_Fill : FuncId := 260
theorem func_bitmap_Map_Fill : Tryz.prog.funcs[260]? = some Tryz.f260 := Tryz.func260
theorem ntmps_bitmap_Map_Fill : Tryz.f260.ntmps = 50 := Tryz.ntmps260
theorem cl_bitmap_Map_Fill : Callable Tryz.prog 260 := ⟨_, Tryz.func260, by kernel_rfl, by kernel_rfl⟩
abbrev F_cmp_isNaN_int : FuncId := 264
theorem func_cmp_isNaN_int : Tryz.prog.funcs[264]? = some Tryz.f264 := Tryz.func264
theorem ntmps_cmp_isNaN_int : Tryz.f264.ntmps = 6 := Tryz.ntmps264
theorem cl_cmp_isNaN_int : Callable Tryz.prog 264 := ⟨_, Tryz.func264, by kernel_rfl, by kernel_rfl⟩
abbrev F_header_fields : FuncId := 265
theorem func_header_fields : Tryz.prog.funcs[265]? = some Tryz.f265 := Tryz.func265
theorem ntmps_header_fields : Tryz.f265.ntmps = 7 := Tryz.ntmps265
theorem cl_header_fields : Callable Tryz.prog 265 := ⟨_, Tryz.func265, by kernel_rfl, by kernel_rfl⟩
abbrev F_header_may : FuncId := 266
theorem func_header_may : Tryz.prog.funcs[266]? = some Tryz.f266 := Tryz.func266
theorem ntmps_header_may : Tryz.f266.ntmps = 31 := Tryz.ntmps266
theorem cl_header_may : Callable Tryz.prog 266 := ⟨_, Tryz.func266, by kernel_rfl, by kernel_rfl⟩
abbrev F_bitmap_Map_First : FuncId := 273
theorem func_bitmap_Map_First : Tryz.prog.funcs[273]? = some Tryz.f273 := Tryz.func273
theorem ntmps_bitmap_Map_First : Tryz.f273.ntmps = 40 := Tryz.ntmps273
theorem cl_bitmap_Map_First : Callable Tryz.prog 273 := ⟨_, Tryz.func273, by kernel_rfl, by kernel_rfl⟩
abbrev F_header_Encode : FuncId := 274
theorem func_header_Encode : Tryz.prog.funcs[274]? = some Tryz.f274 := Tryz.func274
theorem ntmps_header_Encode : Tryz.f274.ntmps = 21 := Tryz.ntmps274
theorem cl_header_Encode : Callable Tryz.prog 274 := ⟨_, Tryz.func274, by kernel_rfl, by kernel_rfl⟩
abbrev F_image_read_uint64 : FuncId := 275
theorem func_image_read_uint64 : Tryz.prog.funcs[275]? = some Tryz.f275 := Tryz.func275
theorem ntmps_image_read_uint64 : Tryz.f275.ntmps = 43 := Tryz.ntmps275
theorem cl_image_read_uint64 : Callable Tryz.prog 275 := ⟨_, Tryz.func275, by kernel_rfl, by kernel_rfl⟩
abbrev F_field_Put : FuncId := 278
theorem func_field_Put : Tryz.prog.funcs[278]? = some Tryz.f278 := Tryz.func278
theorem ntmps_field_Put : Tryz.f278.ntmps = 27 := Tryz.ntmps278
theorem cl_field_Put : Callable Tryz.prog 278 := ⟨_, Tryz.func278, by kernel_rfl, by kernel_rfl⟩
abbrev F_bitmap_Map_turn : FuncId := 281
theorem func_bitmap_Map_turn : Tryz.prog.funcs[281]? = some Tryz.f281 := Tryz.func281
theorem ntmps_bitmap_Map_turn : Tryz.f281.ntmps = 39 := Tryz.ntmps281
theorem cl_bitmap_Map_turn : Callable Tryz.prog 281 := ⟨_, Tryz.func281, by kernel_rfl, by kernel_rfl⟩
abbrev F_bitmap_Map_Len : FuncId := 285
theorem func_bitmap_Map_Len : Tryz.prog.funcs[285]? = some Tryz.f285 := Tryz.func285
theorem ntmps_bitmap_Map_Len : Tryz.f285.ntmps = 9 := Tryz.ntmps285
theorem cl_bitmap_Map_Len : Callable Tryz.prog 285 := ⟨_, Tryz.func285, by kernel_rfl, by kernel_rfl⟩
abbrev F_bitmap_Map_Has : FuncId := 288
theorem func_bitmap_Map_Has : Tryz.prog.funcs[288]? = some Tryz.f288 := Tryz.func288
theorem ntmps_bitmap_Map_Has : Tryz.f288.ntmps = 28 := Tryz.ntmps288
theorem cl_bitmap_Map_Has : Callable Tryz.prog 288 := ⟨_, Tryz.func288, by kernel_rfl, by kernel_rfl⟩
abbrev T_int : TypeId := 3
abbrev T_P_cell_Cells : TypeId := 51
abbrev T_evac_Heap : TypeId := 55
abbrev T_uint64 : TypeId := 62
abbrev T_api_Token : TypeId := 69
abbrev T_cell_Cells : TypeId := 91
abbrev T_api_Entry : TypeId := 98
abbrev T_op_Machine : TypeId := 101
abbrev T_api_Layout : TypeId := 111
abbrev T_api_Header : TypeId := 141
abbrev T_tree_Tree : TypeId := 153
abbrev T_store_Store : TypeId := 175
abbrev T_table_Table : TypeId := 178
abbrev T_table_slot : TypeId := 183
abbrev T_layout_Book : TypeId := 201
abbrev T_bump_Space : TypeId := 205
abbrev T_bag_Bag_int : TypeId := 207
abbrev T_remset_Set : TypeId := 233
abbrev T_bump_part : TypeId := 246
abbrev T_bitmap_Map : TypeId := 262
abbrev T_image_Images : TypeId := 266
abbrev T_field_Field : TypeId := 269
noncomputable abbrev prog : Program := Tryz.prog
end Go.Sl.Tz

/-
  Words of bits: plain facts on numbers, and how the model's operations on uint64 read on them.
-/
namespace Go.Sl
open Go

/-- The word of some bits. -/
def bitsNat (f : Nat → Bool) : Nat → Nat
  | 0 => 0
  | n + 1 => bitsNat f n ||| (if f n then 2 ^ n else 0)

theorem testBit_bitsNat (f : Nat → Bool) (n k : Nat) : (bitsNat f n).testBit k = (decide (k < n) && f k) := by
  induction n with
  | zero => simp [bitsNat]
  | succ n ih =>
    simp only [bitsNat, Nat.testBit_or, ih]
    by_cases hk : k = n
    · subst hk
      cases f k <;> simp
    · by_cases h1 : k < n
      · have h2 : k < n + 1 := by omega
        cases f n <;> simp [h1, h2, Nat.testBit_two_pow, Ne.symm hk]
      · have h2 : ¬ k < n + 1 := by omega
        cases f n <;> simp [h1, h2, Nat.testBit_two_pow, Ne.symm hk]

theorem bitsNat_lt (f : Nat → Bool) (n : Nat) : bitsNat f n < 2 ^ n := by
  induction n with
  | zero => simp [bitsNat]
  | succ n ih =>
    simp only [bitsNat]
    refine Nat.or_lt_two_pow (Nat.lt_of_lt_of_le ih (Nat.pow_le_pow_right (by decide) (by omega))) ?_
    split
    · exact Nat.pow_lt_pow_right (by decide) (by omega)
    · exact Nat.two_pow_pos _

theorem bitsNat_congr {f g : Nat → Bool} {n : Nat} (h : ∀ k, k < n → f k = g k) : bitsNat f n = bitsNat g n := by
  apply Nat.eq_of_testBit_eq
  intro k
  rw [testBit_bitsNat, testBit_bitsNat]
  by_cases hk : k < n
  · rw [h k hk]
  · simp [hk]

theorem bitsNat_zero (n : Nat) : bitsNat (fun _ => false) n = 0 := by
  apply Nat.eq_of_testBit_eq
  intro k
  simp [testBit_bitsNat]

/-- One bit is turned. -/
theorem bitsNat_turn {f : Nat → Bool} {n k : Nat} (hk : k < n) : bitsNat f n ^^^ 2 ^ k = bitsNat (fun j => if j = k then !f k else f j) n := by
  apply Nat.eq_of_testBit_eq
  intro j
  rw [Nat.testBit_xor, testBit_bitsNat, testBit_bitsNat, Nat.testBit_two_pow]
  by_cases h : j = k
  · subst h; simp [hk]
  · simp [h, Ne.symm h]

/-! ### The model's operations on uint64 -/
theorem wrap_u64 (n : Nat) (h : n < 2 ^ 64) : IntKind.u64.wrap (n : Int) = n := by
  unfold IntKind.wrap
  simp only [IntKind.bits, IntKind.signed, Bool.false_and, Bool.false_eq_true, if_false]
  omega

theorem ofInt_u64 (n : Nat) : BitVec.ofInt IntKind.u64.bits (n : Int) = BitVec.ofNat 64 n := by
  simp [IntKind.bits]

theorem and_u64 (a b : Nat) (ha : a < 2 ^ 64) (hb : b < 2 ^ 64) : IntKind.u64.wrap ((BitVec.ofInt IntKind.u64.bits (a : Int) &&& BitVec.ofInt IntKind.u64.bits (b : Int)).toNat : Int) = ((a &&& b : Nat) : Int) := by
  rw [ofInt_u64, ofInt_u64]
  have : (BitVec.ofNat 64 a &&& BitVec.ofNat 64 b).toNat = a &&& b := by
    rw [BitVec.toNat_and, BitVec.toNat_ofNat, BitVec.toNat_ofNat, Nat.mod_eq_of_lt ha, Nat.mod_eq_of_lt hb]
  show IntKind.u64.wrap ((BitVec.ofNat 64 a &&& BitVec.ofNat 64 b).toNat : Int) = _
  rw [this, wrap_u64 _ (Nat.lt_of_le_of_lt Nat.and_le_left ha)]
theorem or_u64 (a b : Nat) (ha : a < 2 ^ 64) (hb : b < 2 ^ 64) : IntKind.u64.wrap ((BitVec.ofInt IntKind.u64.bits (a : Int) ||| BitVec.ofInt IntKind.u64.bits (b : Int)).toNat : Int) = ((a ||| b : Nat) : Int) := by
  rw [ofInt_u64, ofInt_u64]
  have : (BitVec.ofNat 64 a ||| BitVec.ofNat 64 b).toNat = a ||| b := by
    rw [BitVec.toNat_or, BitVec.toNat_ofNat, BitVec.toNat_ofNat, Nat.mod_eq_of_lt ha, Nat.mod_eq_of_lt hb]
  show IntKind.u64.wrap ((BitVec.ofNat 64 a ||| BitVec.ofNat 64 b).toNat : Int) = _
  rw [this, wrap_u64 _ (Nat.or_lt_two_pow ha hb)]
theorem xor_u64 (a b : Nat) (ha : a < 2 ^ 64) (hb : b < 2 ^ 64) : IntKind.u64.wrap ((BitVec.ofInt IntKind.u64.bits (a : Int) ^^^ BitVec.ofInt IntKind.u64.bits (b : Int)).toNat : Int) = ((a ^^^ b : Nat) : Int) := by
  rw [ofInt_u64, ofInt_u64]
  have : (BitVec.ofNat 64 a ^^^ BitVec.ofNat 64 b).toNat = a ^^^ b := by
    rw [BitVec.toNat_xor, BitVec.toNat_ofNat, BitVec.toNat_ofNat, Nat.mod_eq_of_lt ha, Nat.mod_eq_of_lt hb]
  show IntKind.u64.wrap ((BitVec.ofNat 64 a ^^^ BitVec.ofNat 64 b).toNat : Int) = _
  rw [this, wrap_u64 _ (Nat.xor_lt_two_pow ha hb)]
/-- ^x -/
theorem not_u64 (a : Nat) (ha : a < 2 ^ 64) : IntKind.u64.wrap ((BitVec.ofInt IntKind.u64.bits (if IntKind.u64.signed then -1 else IntKind.u64.max) ^^^ BitVec.ofInt IntKind.u64.bits (a : Int)).toNat : Int) = ((2 ^ 64 - 1 - a : Nat) : Int) := by
  have e : (if IntKind.u64.signed then (-1 : Int) else IntKind.u64.max) = ((2 ^ 64 - 1 : Nat) : Int) := by decide
  rw [e, xor_u64 _ _ (by decide) ha]
  congr 1
  apply Nat.eq_of_testBit_eq
  intro k
  rw [Nat.testBit_xor, Nat.sub_sub, Nat.add_comm 1 a, Nat.testBit_two_pow_sub_succ ha, Nat.testBit_two_pow_sub_one]
  by_cases hk : k < 64
  · simp [hk]
  · simp [hk, Nat.testBit_lt_two_pow (Nat.lt_of_lt_of_le ha (Nat.pow_le_pow_right (by decide) (Nat.le_of_not_lt hk)))]
/-- x >> k -/
theorem shr_u64 (a k : Nat) : ((a : Int).fdiv (2 ^ k)) = ((a >>> k : Nat) : Int) := by
  rw [Nat.shiftRight_eq_div_pow]
  have e : (2 : Int) ^ k = ((2 ^ k : Nat) : Int) := by simp
  rw [e, Int.fdiv_eq_ediv_of_nonneg _ (Int.natCast_nonneg _)]
  simp
/-- 1 << k -/
theorem shl_one (k : Nat) (h : k < 64) : IntKind.u64.wrap (1 * 2 ^ k) = ((2 ^ k : Nat) : Int) := by
  have e : (1 : Int) * 2 ^ k = ((2 ^ k : Nat) : Int) := by simp
  rw [e, wrap_u64 _ (Nat.pow_lt_pow_right (by decide) h)]

theorem wrap_i64 {x : Int} (h1 : -9223372036854775808 ≤ x) (h2 : x ≤ 9223372036854775807) : IntKind.i64.wrap x = x := IntWalk.i64_in x ⟨h1, h2⟩
theorem quo_nat (m d : Nat) (h : m < 2 ^ 63) : IntKind.i64.wrap ((m : Int).tdiv (Int.ofNat (d + 1))) = ((m / (d + 1) : Nat) : Int) := by
  have e : (m : Int).tdiv (Int.ofNat (d + 1)) = ((m / (d + 1) : Nat) : Int) := rfl
  have := Nat.div_le_self m (d + 1)
  rw [e]
  generalize m / (d + 1) = q at this
  exact wrap_i64 (by omega) (by omega)
theorem rem_nat (m d : Nat) : (m : Int).tmod (Int.ofNat (d + 1)) = ((m % (d + 1) : Nat) : Int) := rfl

/-- The lowest bit that is on. -/
theorem ctz_spec {x : Nat} (h0 : x ≠ 0) (h : x < 2 ^ 64) : Lib.ctz 64 x < 64 ∧ x.testBit (Lib.ctz 64 x) = true ∧ ∀ j, j < Lib.ctz 64 x → x.testBit j = false := by
  have e : Lib.ctz 64 x = Lib.ctzFrom 64 x := by unfold Lib.ctz; rw [if_neg h0]
  rw [e]
  obtain ⟨m, hm, hk⟩ := Lib.ctzFrom_spec 64 x (Nat.pos_of_ne_zero h0) h
  generalize Lib.ctzFrom 64 x = k at hm hk
  refine ⟨hk, ?_, fun j hj => ?_⟩
  · rw [hm, Nat.mul_comm, Nat.testBit_mul_two_pow]; simp [Nat.testBit_zero]
  · rw [hm, Nat.mul_comm, Nat.testBit_mul_two_pow]; simp; omega
theorem wrap_u64_mod (n : Nat) : IntKind.u64.wrap (n : Int) = ((n % 2 ^ 64 : Nat) : Int) := by
  unfold IntKind.wrap
  simp only [IntKind.bits, IntKind.signed, Bool.false_and, Bool.false_eq_true, if_false]
  omega
theorem shl_u64 (a k : Nat) (h : k ≤ 64) : IntKind.u64.wrap ((a : Int) * 2 ^ (min ((k : Int)).toNat IntKind.u64.bits)) = ((a <<< k % 2 ^ 64 : Nat) : Int) := by
  have e0 : min ((k : Int)).toNat IntKind.u64.bits = k := by
    show min ((k : Int)).toNat 64 = k
    simp; omega
  have e : (a : Int) * 2 ^ k = ((a * 2 ^ k : Nat) : Int) := by simp
  rw [e0, e, wrap_u64_mod, Nat.shiftLeft_eq]
theorem shr_u64' (a k : Nat) (h : k ≤ 64) : (a : Int).fdiv (2 ^ (min ((k : Int)).toNat IntKind.u64.bits)) = ((a >>> k : Nat) : Int) := by
  have e0 : min ((k : Int)).toNat IntKind.u64.bits = k := by
    show min ((k : Int)).toNat 64 = k
    simp; omega
  rw [e0, shr_u64]
/-- x &^ y -/
def andNot (a b : Nat) : Nat := (BitVec.ofNat 64 a &&& ~~~BitVec.ofNat 64 b).toNat
theorem andNot_lt (a b : Nat) : andNot a b < 2 ^ 64 := BitVec.isLt _
theorem andNot_u64 (a b : Nat) : IntKind.u64.wrap ((BitVec.ofInt IntKind.u64.bits (a : Int) &&& ~~~BitVec.ofInt IntKind.u64.bits (b : Int)).toNat : Int) = ((andNot a b : Nat) : Int) := by
  rw [ofInt_u64, ofInt_u64]
  exact wrap_u64 _ (andNot_lt a b)
end Go.Sl
