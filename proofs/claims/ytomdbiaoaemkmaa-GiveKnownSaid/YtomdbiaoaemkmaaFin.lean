/- the law 'GiveKnown' -/
import Derived.Test.YtomdbiaoaemkmaaTop
import Derived.Test.YtomdbiaoaemkmaaStr
import Derived.Test.YtomdbiaoaemkmaaEvC
import Derived.Test.YtomdbiaoaemkmaaRows
namespace Go.Proofs.Ytomdbiaoaemkmaa
open Go.ChangeShapes Go.WideShapes Go.ChangeAt Go.RowKit

def sigL : List (Nat × Nat) := [(22, 22), (23, 23), (7, 7), (34, 34), (72, 72), (69, 69), (99, 99), (100, 100), (35, 35), (36, 36), (73, 73), (25, 25), (49, 49), (86, 86), (77, 77), (102, 102), (119, 119), (103, 103), (104, 104), (122, 122), (135, 135), (121, 121), (105, 105), (106, 106), (124, 124), (55, 55), (78, 78), (107, 107), (28, 28), (58, 58), (27, 27), (50, 50), (54, 54), (56, 56), (57, 57), (89, 89), (59, 59), (90, 90), (60, 60), (61, 61), (91, 91), (116, 116), (115, 115), (87, 87), (109, 109), (114, 114), (48, 48), (62, 62), (92, 92), (63, 63), (52, 52), (79, 79), (108, 108), (128, 128), (125, 125), (127, 127), (126, 126), (111, 111), (129, 129), (112, 112), (80, 80), (26, 26), (51, 51), (53, 53), (88, 88), (19, 19), (44, 44), (45, 45), (113, 113), (130, 130), (84, 84), (140, 140), (150, 150), (85, 85), (24, 24), (5, 5)]
def sig : Go.Rv.Num := Go.Rv.sigOf sigL
/-- reeve/reevelaw16.awake -/
theorem tie22 : Go.Rv.Tied2 Try.prog sig Go.Rv.tab (22, 22) := .inl ⟨Try.f22, Try.func22, by kernel_rfl, by kernel_rfl, Go.Rv.byK [(0, [0]), (1, [3, 4, 5, 6, 7, 8, 9, 10, 11, 12]), (2, [1, 2, 13, 14, 15, 16, 17, 18, 19, 20, 21, 22, 23, 24, 25, 26, 27, 28, 29, 30])], Go.Rv.byKK [], Go.Rv.byP [], none, Go.Rv.m22, by kernel_rfl, by kernel_rfl⟩
/-- reeve/reevelaw16.first -/
theorem tie23 : Go.Rv.Tied2 Try.prog sig Go.Rv.tab (23, 23) := .inl ⟨Try.f23, Try.func23, by kernel_rfl, by kernel_rfl, Go.Rv.byK [(1, [2, 3, 4, 5, 6, 7]), (2, [1, 8])], Go.Rv.byKK [], Go.Rv.byP [], none, Go.Rv.m23, by kernel_rfl, by kernel_rfl⟩
/-- reeve/geo.Plain -/
theorem tie7 : Go.Rv.Tied2 Try.prog sig Go.Rv.tab (7, 7) := .inl ⟨Try.f7, Try.func7, by kernel_rfl, by kernel_rfl, Go.Rv.byK [(1, [1])], Go.Rv.byKK [], Go.Rv.byP [], none, Go.Rv.m7, by kernel_rfl, by kernel_rfl⟩
/-- reeve/state.New -/
theorem tie34 : Go.Rv.Tied2 Try.prog sig Go.Rv.tab (34, 34) := .inl ⟨Try.f34, Try.func34, by kernel_rfl, by kernel_rfl, Go.Rv.byK [(0, [0, 5]), (1, [1, 13, 14, 15, 16, 17]), (2, [7, 18, 19, 20, 21, 22, 23]), (3, [25]), (4, [26, 27, 28, 29, 30, 31, 32, 33]), (5, [34, 35]), (7, [39]), (8, [9, 40, 41, 42, 43, 44]), (9, [45]), (10, [6, 46, 47, 48, 49]), (11, [50, 51, 52, 53, 54, 55, 56]), (12, [57, 58]), (13, [59, 60, 61, 62, 63, 64]), (14, [65]), (16, [69]), (17, [70, 71, 72]), (18, [11, 73, 74, 75, 76, 77, 78, 79, 80, 81, 82]), (19, [12, 83, 84, 85, 86, 87, 88, 89, 90, 91]), (20, [92]), (21, [10, 93, 94, 95, 96, 97, 98]), (22, [8, 99])], Go.Rv.byKK [(4, [(0, [2, 3, 5, 6, 8]), (2, [0, 5, 6, 8]), (3, [0, 5, 6, 8]), (5, [0, 2, 3, 8]), (6, [0, 2, 3, 8]), (8, [0, 2, 3, 5, 6])]), (11, [(1, [2]), (2, [1])]), (18, [(1, [5]), (5, [1])])], Go.Rv.byP [(6, ([2, 4, 6, 8, 36, 37], [2, 4, 6, 8])), (15, ([2, 4, 8, 10, 66, 67], [4, 8, 10]))], some [[0, 0, 0, 5, 13], [0]], Go.Rv.m34, by kernel_rfl, by kernel_rfl⟩
/-- reeve/thing.New -/
theorem tie72 : Go.Rv.Tied2 Try.prog sig Go.Rv.tab (72, 72) := .inl ⟨Try.f72, Try.func72, by kernel_rfl, by kernel_rfl, Go.Rv.byK [(0, [7]), (1, [9, 10]), (2, [0]), (4, [14]), (5, [1, 15, 16]), (6, [18]), (7, [1, 2, 19, 20, 21, 22]), (8, [24]), (9, [25]), (10, [11, 26]), (3, [12]), (11, [27, 28]), (12, [30]), (13, [8, 31])], Go.Rv.byKK [], Go.Rv.byP [], none, Go.Rv.m72, by kernel_rfl, by kernel_rfl⟩
/-- reeve/thing.Good -/
theorem tie69 : Go.Rv.Tied2 Try.prog sig Go.Rv.tab (69, 69) := .inl ⟨Try.f69, Try.func69, by kernel_rfl, by kernel_rfl, Go.Rv.byK [(0, [0, 2]), (1, [3, 4, 5]), (3, [7]), (4, [10]), (5, [1, 11, 12, 13, 14, 15, 16, 17, 18, 19, 20]), (6, [22]), (7, [1, 23, 24, 25, 26, 27, 28, 29, 30, 31, 32, 33, 34]), (8, [8, 36]), (9, [1, 37, 38, 39, 40, 41, 42, 43, 44])], Go.Rv.byKK [(1, [(0, [2]), (1, [2]), (2, [0, 1])]), (7, [(5, [7]), (7, [5])])], Go.Rv.byP [], none, Go.Rv.m69, by kernel_rfl, by kernel_rfl⟩
/-- reeve/thing.own -/
theorem tie99 : Go.Rv.Tied2 Try.prog sig Go.Rv.tab (99, 99) := .inl ⟨Try.f99, Try.func99, by kernel_rfl, by kernel_rfl, Go.Rv.byK [(0, [0]), (1, [3]), (2, [6]), (3, [1, 7, 8, 9, 10, 11, 12, 13]), (4, [15]), (5, [1, 16, 17, 18, 19, 20, 21, 22]), (6, [24]), (7, [25, 26]), (8, [1, 28, 29, 30]), (9, [1, 31, 32, 33, 34, 35, 36, 37, 38, 39]), (10, [41]), (11, [1, 42, 43, 44, 45, 46]), (12, [4, 48]), (13, [1, 49, 50, 51, 52, 53]), (14, [54])], Go.Rv.byKK [], Go.Rv.byP [], none, Go.Rv.m99, by kernel_rfl, by kernel_rfl⟩
/-- reeve/thing.in -/
theorem tie100 : Go.Rv.Tied2 Try.prog sig Go.Rv.tab (100, 100) := .inl ⟨Try.f100, Try.func100, by kernel_rfl, by kernel_rfl, Go.Rv.byK [(0, [6]), (1, [0, 1, 2, 7, 8, 9, 10, 11, 12, 13, 14])], Go.Rv.byKK [], Go.Rv.byP [], none, Go.Rv.m100, by kernel_rfl, by kernel_rfl⟩
/-- reeve/geo.Good -/
theorem tie35 : Go.Rv.Tied2 Try.prog sig Go.Rv.tab (35, 35) := .inl ⟨Try.f35, Try.func35, by kernel_rfl, by kernel_rfl, Go.Rv.byK [(0, [0, 2]), (1, [1, 3, 4, 5, 6, 7, 8, 9, 10, 11, 12, 13, 14, 15, 16, 17, 18, 19, 20, 21, 22, 23, 24, 25, 26, 27])], Go.Rv.byKK [], Go.Rv.byP [], none, Go.Rv.m35, by kernel_rfl, by kernel_rfl⟩
/-- reeve/geo.in -/
theorem tie36 : Go.Rv.Tied2 Try.prog sig Go.Rv.tab (36, 36) := .inl ⟨Try.f36, Try.func36, by kernel_rfl, by kernel_rfl, Go.Rv.byK [(0, [6]), (1, [0, 1, 2, 7, 8, 9, 10, 11, 12, 13, 14])], Go.Rv.byKK [], Go.Rv.byP [], none, Go.Rv.m36, by kernel_rfl, by kernel_rfl⟩
/-- reeve/geo.Root -/
theorem tie73 : Go.Rv.Tied2 Try.prog sig Go.Rv.tab (73, 73) := .inl ⟨Try.f73, Try.func73, by kernel_rfl, by kernel_rfl, Go.Rv.byK [(0, [0, 4]), (1, [2, 5, 6, 7, 8, 9, 10, 11, 12, 13, 14]), (3, [1, 16, 17])], Go.Rv.byKK [], Go.Rv.byP [], none, Go.Rv.m73, by kernel_rfl, by kernel_rfl⟩
/-- reeve/reevelaw16.way -/
theorem tie25 : Go.Rv.Tied2 Try.prog sig Go.Rv.tab (25, 25) := .inl ⟨Try.f25, Try.func25, by kernel_rfl, by kernel_rfl, Go.Rv.byK [(1, [0, 3, 4])], Go.Rv.byKK [], Go.Rv.byP [], none, Go.Rv.m25, by kernel_rfl, by kernel_rfl⟩
/-- reeve/give.Do -/
theorem tie49 : Go.Rv.Tied2 Try.prog sig Go.Rv.tab (49, 49) := .inl ⟨Try.f49, Try.func49, by kernel_rfl, by kernel_rfl, Go.Rv.byK [(0, [0, 2]), (1, [1, 5, 10, 11, 12, 13, 14, 15, 16]), (2, [17]), (3, [3, 9, 19, 20, 21]), (4, [8, 22, 23])], Go.Rv.byKK [], Go.Rv.byP [], some [[0, 0, 0, 5, 13], [0, 0, 0]], Go.Rv.m49, by kernel_rfl, by kernel_rfl⟩
/-- reeve/give.done -/
theorem tie86 : Go.Rv.Tied2 Try.prog sig Go.Rv.tab (86, 86) := .inl ⟨Try.f86, Try.func86, by kernel_rfl, by kernel_rfl, Go.Rv.byK [(0, [0, 2, 7]), (1, [12, 13, 14, 15, 16, 17, 18, 19, 20, 21, 22, 23, 24, 25, 26, 27, 28]), (2, [3, 30]), (3, [31, 32, 33, 34, 35, 36, 37, 38, 39]), (4, [40]), (5, [3, 10, 42, 43]), (6, [44, 45]), (7, [47, 48, 49, 50]), (8, [51, 52]), (9, [54, 55, 56, 57, 58, 59, 60]), (10, [61]), (11, [3, 10, 63, 64]), (12, [1, 65, 66, 67, 68, 69, 70, 71, 72]), (13, [73]), (14, [3, 10, 75, 76]), (15, [5, 77, 78]), (16, [3, 8, 9, 11, 80, 81, 82, 83, 84, 85, 86]), (17, [9, 87, 88, 89]), (18, [3, 91]), (19, [3, 8, 11, 92, 93, 94, 95])], Go.Rv.byKK [], Go.Rv.byP [], none, Go.Rv.m86, by kernel_rfl, by kernel_rfl⟩
/-- reeve/call.Good -/
theorem tie77 : Go.Rv.Tied2 Try.prog sig Go.Rv.tab (77, 77) := .inl ⟨Try.f77, Try.func77, by kernel_rfl, by kernel_rfl, Go.Rv.byK [(0, [0, 2]), (1, [3, 6, 7, 8, 9, 10, 11]), (2, [12, 13, 14, 15, 16, 17, 18, 19, 20, 21, 22, 23, 24, 25, 26, 27, 28, 29, 30]), (3, [1, 4, 5, 31, 32, 33, 34, 35, 36, 37, 38, 39, 40, 41, 42, 43, 44, 45, 46, 47, 48, 49, 50, 51, 52, 53])], Go.Rv.byKK [], Go.Rv.byP [], none, Go.Rv.m77, by kernel_rfl, by kernel_rfl⟩
/-- reeve/call.fields -/
theorem tie102 : Go.Rv.Tied2 Try.prog sig Go.Rv.tab (102, 102) := .inl ⟨Try.f102, Try.func102, by kernel_rfl, by kernel_rfl, Go.Rv.byK [(0, [2, 3]), (1, [5]), (2, [6, 7, 8, 9, 10]), (4, [0, 4, 12, 13, 14, 15, 16, 17, 18, 19, 20]), (5, [21, 22])], Go.Rv.byKK [], Go.Rv.byP [], none, Go.Rv.m102, by kernel_rfl, by kernel_rfl⟩
/-- strings.Cut -/
theorem tie119 : Go.Rv.Tied2 Try.prog sig Go.Rv.tab (119, 119) := .inr ⟨⟨Try.f119, Try.func119, by kernel_rfl, by kernel_rfl⟩, Go.Rv.lawCut, by kernel_rfl, lawCut_ok _⟩
/-- strings.Contains -/
theorem tie103 : Go.Rv.Tied2 Try.prog sig Go.Rv.tab (103, 103) := .inr ⟨⟨Try.f103, Try.func103, by kernel_rfl, by kernel_rfl⟩, Go.Rv.lawContains, by kernel_rfl, lawContains_ok _⟩
/-- reeve/path.Good -/
theorem tie104 : Go.Rv.Tied2 Try.prog sig Go.Rv.tab (104, 104) := .inl ⟨Try.f104, Try.func104, by kernel_rfl, by kernel_rfl, Go.Rv.byK [(0, [0, 2]), (2, [1, 3, 4, 5, 6, 7, 8, 9, 10, 11, 12, 13, 14, 15, 16, 17, 18, 19, 20])], Go.Rv.byKK [], Go.Rv.byP [], none, Go.Rv.m104, by kernel_rfl, by kernel_rfl⟩
/-- slices.ContainsFunc[[]int,int] -/
theorem tie122 : Go.Rv.Tied2 Try.prog sig Go.Rv.tab (122, 122) := .inl ⟨Try.f122, Try.func122, by kernel_rfl, by kernel_rfl, Go.Rv.byK [(0, [4]), (1, [0, 1, 5, 6, 7, 8])], Go.Rv.byKK [], Go.Rv.byP [], none, Go.Rv.m122, by kernel_rfl, by kernel_rfl⟩
/-- slices.IndexFunc[[]int,int] -/
theorem tie135 : Go.Rv.Tied2 Try.prog sig Go.Rv.tab (135, 135) := .inl ⟨Try.f135, Try.func135, by kernel_rfl, by kernel_rfl, Go.Rv.byK [(0, [4]), (1, [6]), (3, [10]), (4, [11, 12, 13, 14, 15]), (5, [5, 17]), (6, [18])], Go.Rv.byKK [], Go.Rv.byP [(2, ([0, 1, 7, 8], [4]))], none, Go.Rv.m135, by kernel_rfl, by kernel_rfl⟩
/-- reeve/path.Good$1 -/
theorem tie121 : Go.Rv.Tied2 Try.prog sig Go.Rv.tab (121, 121) := .inl ⟨Try.f121, Try.func121, by kernel_rfl, by kernel_rfl, Go.Rv.byK [(0, [2]), (1, [0, 3, 4, 5, 6, 7, 8])], Go.Rv.byKK [], Go.Rv.byP [], none, Go.Rv.m121, by kernel_rfl, by kernel_rfl⟩
/-- strings.ContainsAny -/
theorem tie105 : Go.Rv.Tied2 Try.prog sig Go.Rv.tab (105, 105) := .inr ⟨⟨Try.f105, Try.func105, by kernel_rfl, by kernel_rfl⟩, Go.Rv.lawContainsAny, by kernel_rfl, lawContainsAny_ok _⟩
/-- reeve/call.numbers -/
theorem tie106 : Go.Rv.Tied2 Try.prog sig Go.Rv.tab (106, 106) := .inl ⟨Try.f106, Try.func106, by kernel_rfl, by kernel_rfl, Go.Rv.byK [(0, [0, 2]), (1, [3]), (2, [6]), (3, [1, 7, 8, 9, 10, 11, 12, 13, 14]), (4, [16]), (5, [1, 17, 18, 19, 20, 21, 22, 23, 24]), (6, [26]), (7, [1, 27, 28, 29, 30, 31, 32, 33, 34]), (8, [36]), (9, [4, 37]), (10, [1, 38, 39, 40, 41, 42, 43, 44, 45]), (11, [1, 46, 47, 48, 49, 50, 51, 52, 53])], Go.Rv.byKK [], Go.Rv.byP [], none, Go.Rv.m106, by kernel_rfl, by kernel_rfl⟩
/-- reeve/call.in -/
theorem tie124 : Go.Rv.Tied2 Try.prog sig Go.Rv.tab (124, 124) := .inl ⟨Try.f124, Try.func124, by kernel_rfl, by kernel_rfl, Go.Rv.byK [(0, [6]), (1, [0, 1, 2, 7, 8, 9, 10, 11, 12, 13, 14])], Go.Rv.byKK [], Go.Rv.byP [], none, Go.Rv.m124, by kernel_rfl, by kernel_rfl⟩
/-- reeve/right.Good -/
theorem tie55 : Go.Rv.Tied2 Try.prog sig Go.Rv.tab (55, 55) := .inl ⟨Try.f55, Try.func55, by kernel_rfl, by kernel_rfl, Go.Rv.byK [(0, [2]), (1, [0, 3, 4, 5, 6, 7, 8])], Go.Rv.byKK [], Go.Rv.byP [], none, Go.Rv.m55, by kernel_rfl, by kernel_rfl⟩
/-- reeve/find.Cap -/
theorem tie78 : Go.Rv.Tied2 Try.prog sig Go.Rv.tab (78, 78) := .inl ⟨Try.f78, Try.func78, by kernel_rfl, by kernel_rfl, Go.Rv.byK [(0, [0, 2, 6, 8]), (1, [1, 5, 11, 12, 13, 14, 15, 16, 17]), (2, [19, 20]), (3, [10, 21, 22]), (4, [24, 25, 26, 27, 28, 29, 30]), (5, [31]), (6, [3, 9, 32, 33, 34, 35, 36, 37, 38])], Go.Rv.byKK [], Go.Rv.byP [], none, Go.Rv.m78, by kernel_rfl, by kernel_rfl⟩
/-- reeve/find.Slot -/
theorem tie107 : Go.Rv.Tied2 Try.prog sig Go.Rv.tab (107, 107) := .inl ⟨Try.f107, Try.func107, by kernel_rfl, by kernel_rfl, Go.Rv.byK [(0, [0, 2, 6, 7]), (1, [13, 14, 15, 16, 17, 18, 19, 20, 21, 22, 23, 24, 25, 26, 27, 28]), (3, [1, 30, 31, 32, 33, 34, 35]), (5, [5, 36]), (7, [41, 42, 43]), (8, [11, 44]), (9, [10, 46, 47, 48, 49, 50, 51]), (10, [52, 53, 54, 55, 56, 57, 58]), (12, [12, 60, 61, 62]), (13, [63]), (14, [10, 64])], Go.Rv.byKK [], Go.Rv.byP [(6, ([3, 8, 9, 10, 37, 38, 39], [6, 7, 10]))], none, Go.Rv.m107, by kernel_rfl, by kernel_rfl⟩
/-- reeve/state.Good -/
theorem tie28 : Go.Rv.Tied2 Try.prog sig Go.Rv.tab (28, 28) := .inl ⟨Try.f28, Try.func28, by kernel_rfl, by kernel_rfl, Go.Rv.byK [(0, [0, 2]), (1, [3, 4, 5, 6, 7, 8, 9, 10, 11, 12, 13, 14, 15, 16, 17, 18, 19, 20, 21, 22, 23]), (3, [1, 25, 26, 27, 28, 29, 30, 31, 32, 33, 34, 35, 36, 37, 38, 39, 40, 41, 42, 43, 44, 45, 46, 47, 48])], Go.Rv.byKK [], Go.Rv.byP [], none, Go.Rv.m28, by kernel_rfl, by kernel_rfl⟩
/-- (reeve/state.State).caps -/
theorem tie58 : Go.Rv.Tied2 Try.prog sig Go.Rv.tab (58, 58) := .inl ⟨Try.f58, Try.func58, by kernel_rfl, by kernel_rfl, Go.Rv.byK [(0, [0, 2]), (1, [6]), (3, [11, 12]), (4, [13, 14]), (5, [16, 17, 18]), (7, [20, 21, 22, 23, 24, 25, 26]), (8, [4, 27, 28, 29, 30, 31, 32, 33, 34]), (10, [5, 36, 37, 38, 39, 40, 41, 42, 43, 44, 45, 46, 47, 48, 49, 50, 51, 52, 53, 54, 55, 56, 57]), (12, [58])], Go.Rv.byKK [(10, [(4, [6]), (6, [4]), (11, [13, 18]), (13, [11, 18]), (16, [18]), (18, [11, 13, 16])])], Go.Rv.byP [(2, ([1, 7, 8, 9], [2]))], none, Go.Rv.m58, by kernel_rfl, by kernel_rfl⟩
/-- reeve/cap.Good -/
theorem tie27 : Go.Rv.Tied2 Try.prog sig Go.Rv.tab (27, 27) := .inl ⟨Try.f27, Try.func27, by kernel_rfl, by kernel_rfl, Go.Rv.byK [(0, [0, 2]), (1, [3]), (3, [1, 5, 6, 7, 8, 9, 10, 11, 12, 13, 14, 15, 16, 17, 18, 19, 20, 21, 22, 23, 24, 25, 26, 27, 28, 29, 30, 31, 32])], Go.Rv.byKK [], Go.Rv.byP [], none, Go.Rv.m27, by kernel_rfl, by kernel_rfl⟩
/-- reeve/cap.None -/
theorem tie50 : Go.Rv.Tied2 Try.prog sig Go.Rv.tab (50, 50) := .inl ⟨Try.f50, Try.func50, by kernel_rfl, by kernel_rfl, Go.Rv.byK [(0, [0, 2]), (1, [1, 3, 4, 5])], Go.Rv.byKK [], Go.Rv.byP [], none, Go.Rv.m50, by kernel_rfl, by kernel_rfl⟩
/-- reeve/cap.in -/
theorem tie54 : Go.Rv.Tied2 Try.prog sig Go.Rv.tab (54, 54) := .inl ⟨Try.f54, Try.func54, by kernel_rfl, by kernel_rfl, Go.Rv.byK [(0, [6]), (1, [0, 1, 2, 7, 8, 9, 10, 11, 12, 13, 14])], Go.Rv.byKK [], Go.Rv.byP [], none, Go.Rv.m54, by kernel_rfl, by kernel_rfl⟩
/-- reeve/right.Badge -/
theorem tie56 : Go.Rv.Tied2 Try.prog sig Go.Rv.tab (56, 56) := .inl ⟨Try.f56, Try.func56, by kernel_rfl, by kernel_rfl, Go.Rv.byK [(0, [2]), (1, [0, 3, 4, 5, 6, 7, 8])], Go.Rv.byKK [], Go.Rv.byP [], none, Go.Rv.m56, by kernel_rfl, by kernel_rfl⟩
/-- reeve/cap.badged -/
theorem tie57 : Go.Rv.Tied2 Try.prog sig Go.Rv.tab (57, 57) := .inl ⟨Try.f57, Try.func57, by kernel_rfl, by kernel_rfl, Go.Rv.byK [(0, [2]), (1, [0, 3, 4, 5, 6, 7, 8])], Go.Rv.byKK [], Go.Rv.byP [], none, Go.Rv.m57, by kernel_rfl, by kernel_rfl⟩
/-- (reeve/state.State).there -/
theorem tie89 : Go.Rv.Tied2 Try.prog sig Go.Rv.tab (89, 89) := .inl ⟨Try.f89, Try.func89, by kernel_rfl, by kernel_rfl, Go.Rv.byK [(0, [0, 4]), (1, [1, 2, 5, 6, 7, 8, 9, 10, 11, 12, 13, 14, 15, 16, 17, 18, 19, 20, 21, 22])], Go.Rv.byKK [], Go.Rv.byP [], none, Go.Rv.m89, by kernel_rfl, by kernel_rfl⟩
/-- (reeve/state.State).things -/
theorem tie59 : Go.Rv.Tied2 Try.prog sig Go.Rv.tab (59, 59) := .inl ⟨Try.f59, Try.func59, by kernel_rfl, by kernel_rfl, Go.Rv.byK [(0, [0, 2]), (1, [6]), (3, [11, 12, 13]), (4, [14, 15]), (6, [17, 18, 19, 20, 21, 22, 23, 24, 25, 26, 27, 28, 29, 30, 31, 32, 33, 34, 35, 36, 37]), (8, [39, 40, 41, 42, 43, 44, 45, 46, 47, 48]), (9, [49, 50, 51, 52, 53, 54, 55, 56, 57, 58]), (11, [3, 4, 5, 60, 61, 62, 63, 64, 65, 66, 67, 68, 69, 70, 71, 72]), (13, [74])], Go.Rv.byKK [(9, [(2, [4, 7]), (4, [2]), (7, [2])])], Go.Rv.byP [(2, ([1, 7, 8, 9], [2]))], none, Go.Rv.m59, by kernel_rfl, by kernel_rfl⟩
/-- (reeve/state.State).holders -/
theorem tie90 : Go.Rv.Tied2 Try.prog sig Go.Rv.tab (90, 90) := .inl ⟨Try.f90, Try.func90, by kernel_rfl, by kernel_rfl, Go.Rv.byK [(0, [0, 4]), (2, [2, 8]), (4, [13, 14, 15]), (5, [7, 16, 17, 18, 19, 20, 21, 22, 23, 24, 25]), (6, [6, 27, 28, 29, 30]), (7, [31]), (8, [5, 32])], Go.Rv.byKK [], Go.Rv.byP [(3, ([1, 5, 9, 10, 11], [5]))], some [[1]], Go.Rv.m90, by kernel_rfl, by kernel_rfl⟩
/-- (reeve/state.State).nodes -/
theorem tie60 : Go.Rv.Tied2 Try.prog sig Go.Rv.tab (60, 60) := .inl ⟨Try.f60, Try.func60, by kernel_rfl, by kernel_rfl, Go.Rv.byK [(0, [0, 2]), (1, [10, 11, 12, 13]), (2, [14]), (4, [19, 20]), (5, [21, 22]), (6, [24, 25]), (8, [29]), (9, [6, 30, 31, 32, 33]), (10, [34, 35, 36, 37, 38, 39, 40, 41, 42]), (12, [7, 44, 45, 46]), (13, [47]), (14, [48]), (15, [1, 49]), (17, [54, 55, 56]), (18, [8, 9, 57, 58, 59, 60, 61, 62, 63, 64, 65, 66]), (20, [68])], Go.Rv.byKK [], Go.Rv.byP [(3, ([1, 3, 15, 16, 17], [1, 2, 3])), (7, ([1, 3, 5, 15, 16, 17, 26, 27], [1, 2, 3, 15, 16, 17])), (16, ([3, 50, 51, 52], [2]))], none, Go.Rv.m60, by kernel_rfl, by kernel_rfl⟩
/-- (reeve/state.State).ring -/
theorem tie61 : Go.Rv.Tied2 Try.prog sig Go.Rv.tab (61, 61) := .inl ⟨Try.f61, Try.func61, by kernel_rfl, by kernel_rfl, Go.Rv.byK [(0, [0, 2]), (1, [5]), (3, [10, 11, 12]), (4, [3, 4, 13, 14, 15, 16, 17, 18, 19, 20, 21, 22, 23]), (6, [25])], Go.Rv.byKK [], Go.Rv.byP [(2, ([1, 6, 7, 8], [2]))], none, Go.Rv.m61, by kernel_rfl, by kernel_rfl⟩
/-- (reeve/state.State).inside -/
theorem tie91 : Go.Rv.Tied2 Try.prog sig Go.Rv.tab (91, 91) := .inl ⟨Try.f91, Try.func91, by kernel_rfl, by kernel_rfl, Go.Rv.byK [(0, [0, 6]), (1, [8, 9, 10, 11, 12, 13, 14, 15, 16, 17, 18, 19]), (3, [21]), (4, [1, 22, 23, 24, 25]), (5, [2, 3, 7, 26, 27, 28, 29, 30])], Go.Rv.byKK [], Go.Rv.byP [], none, Go.Rv.m91, by kernel_rfl, by kernel_rfl⟩
/-- reeve/state.within -/
theorem tie116 : Go.Rv.Tied2 Try.prog sig Go.Rv.tab (116, 116) := .inl ⟨Try.f116, Try.func116, by kernel_rfl, by kernel_rfl, Go.Rv.byK [(0, [0]), (1, [8, 9]), (2, [11, 12]), (3, [13]), (5, [18, 19, 20]), (6, [6, 21, 22, 23, 24, 25, 26, 27, 28, 29, 30, 31, 32, 33, 34, 35, 36, 37, 38, 39]), (7, [7, 41, 42, 43, 44, 45, 46]), (8, [47])], Go.Rv.byKK [], Go.Rv.byP [(4, ([1, 2, 3, 14, 15, 16], []))], none, Go.Rv.m116, by kernel_rfl, by kernel_rfl⟩
/-- reeve/state.has -/
theorem tie115 : Go.Rv.Tied2 Try.prog sig Go.Rv.tab (115, 115) := .inl ⟨Try.f115, Try.func115, by kernel_rfl, by kernel_rfl, Go.Rv.byK [(0, [0, 4]), (1, [1, 2, 5, 6, 7, 8, 9, 10, 11, 12, 13, 14, 15, 16, 17, 18, 19, 20, 21, 22, 23])], Go.Rv.byKK [(1, [(12, [14]), (14, [12])])], Go.Rv.byP [], none, Go.Rv.m115, by kernel_rfl, by kernel_rfl⟩
/-- (reeve/state.State).owner -/
theorem tie87 : Go.Rv.Tied2 Try.prog sig Go.Rv.tab (87, 87) := .inl ⟨Try.f87, Try.func87, by kernel_rfl, by kernel_rfl, Go.Rv.byK [(0, [0, 1, 4]), (1, [2, 3, 5, 6, 7, 8])], Go.Rv.byKK [], Go.Rv.byP [], none, Go.Rv.m87, by kernel_rfl, by kernel_rfl⟩
/-- slices.IndexFunc[[]reeve/thing.Thing,reeve/thing.Thing] -/
theorem tie109 : Go.Rv.Tied2 Try.prog sig Go.Rv.tab (109, 109) := .inl ⟨Try.f109, Try.func109, by kernel_rfl, by kernel_rfl, Go.Rv.byK [(0, [4]), (1, [6]), (3, [10]), (4, [11, 12, 13, 14, 15]), (5, [5, 17]), (6, [18])], Go.Rv.byKK [], Go.Rv.byP [(2, ([0, 1, 7, 8], [4]))], none, Go.Rv.m109, by kernel_rfl, by kernel_rfl⟩
/-- (reeve/state.State).owner$1 -/
theorem tie114 : Go.Rv.Tied2 Try.prog sig Go.Rv.tab (114, 114) := .inl ⟨Try.f114, Try.func114, by kernel_rfl, by kernel_rfl, Go.Rv.byK [(0, [0, 3]), (1, [1, 2, 4, 5, 6])], Go.Rv.byKK [], Go.Rv.byP [], none, Go.Rv.m114, by kernel_rfl, by kernel_rfl⟩
/-- reeve/state.Forest -/
theorem tie48 : Go.Rv.Tied2 Try.prog sig Go.Rv.tab (48, 48) := .inl ⟨Try.f48, Try.func48, by kernel_rfl, by kernel_rfl, Go.Rv.byK [(0, [0]), (2, [1, 6]), (4, [11, 12]), (5, [13, 14]), (6, [16]), (7, [5, 17, 18, 19, 20, 21, 22, 23]), (8, [24]), (9, [3, 25])], Go.Rv.byKK [], Go.Rv.byP [(3, ([2, 3, 7, 8, 9], [2, 3]))], some [[1]], Go.Rv.m48, by kernel_rfl, by kernel_rfl⟩
/-- reeve/forest.Good -/
theorem tie62 : Go.Rv.Tied2 Try.prog sig Go.Rv.tab (62, 62) := .inl ⟨Try.f62, Try.func62, by kernel_rfl, by kernel_rfl, Go.Rv.byK [(0, [0, 2]), (1, [8, 9, 10]), (3, [12]), (5, [17, 18]), (6, [4, 19, 20, 21, 22, 23, 24, 25, 26, 27, 28, 29]), (8, [31]), (9, [32, 33]), (11, [37]), (13, [5, 38]), (14, [39, 40]), (16, [47, 48, 49, 50]), (18, [52, 53]), (15, [42, 43, 44, 45, 46]), (19, [54])], Go.Rv.byKK [], Go.Rv.byP [(4, ([1, 13, 14, 15], [1, 2])), (10, ([1, 34, 35], [2])), (14, ([1, 6, 7, 34, 35], [1, 2, 34, 35]))], none, Go.Rv.m62, by kernel_rfl, by kernel_rfl⟩
/-- (reeve/forest.Forest).is -/
theorem tie92 : Go.Rv.Tied2 Try.prog sig Go.Rv.tab (92, 92) := .inl ⟨Try.f92, Try.func92, by kernel_rfl, by kernel_rfl, Go.Rv.byK [(0, [0, 4]), (1, [1, 2, 5, 6, 7, 8, 9, 10, 11, 12, 13, 14, 15, 16, 17, 18, 19, 20, 21])], Go.Rv.byKK [], Go.Rv.byP [], none, Go.Rv.m92, by kernel_rfl, by kernel_rfl⟩
/-- (reeve/state.State).allowed -/
theorem tie63 : Go.Rv.Tied2 Try.prog sig Go.Rv.tab (63, 63) := .inl ⟨Try.f63, Try.func63, by kernel_rfl, by kernel_rfl, Go.Rv.byK [(0, [0, 2]), (1, [7]), (3, [12, 13]), (4, [14, 15]), (5, [16, 17]), (7, [21]), (8, [5, 23, 24, 25, 26, 27]), (9, [28, 29, 30, 31, 32, 33, 34, 35, 36, 37, 38, 39, 40, 41, 42, 43, 44, 45, 46, 47]), (11, [6, 49, 50]), (12, [51]), (13, [52])], Go.Rv.byKK [], Go.Rv.byP [(2, ([1, 8, 9, 10], [2])), (6, ([1, 4, 5, 8, 9, 10, 18, 19], [1, 2, 8, 9, 10]))], none, Go.Rv.m63, by kernel_rfl, by kernel_rfl⟩
/-- reeve/cap.Less -/
theorem tie52 : Go.Rv.Tied2 Try.prog sig Go.Rv.tab (52, 52) := .inl ⟨Try.f52, Try.func52, by kernel_rfl, by kernel_rfl, Go.Rv.byK [(0, [0, 1, 4]), (1, [5]), (3, [2, 3, 7, 8, 9, 10, 11, 12, 13, 14, 15, 16, 17, 18, 19, 20, 21, 22, 23, 24, 25, 26, 27, 28, 29, 30, 31, 32, 33, 34, 35, 36, 37])], Go.Rv.byKK [], Go.Rv.byP [], none, Go.Rv.m52, by kernel_rfl, by kernel_rfl⟩
/-- reeve/right.Within -/
theorem tie79 : Go.Rv.Tied2 Try.prog sig Go.Rv.tab (79, 79) := .inl ⟨Try.f79, Try.func79, by kernel_rfl, by kernel_rfl, Go.Rv.byK [(0, [4]), (1, [0, 1, 5, 6, 7, 8])], Go.Rv.byKK [], Go.Rv.byP [], none, Go.Rv.m79, by kernel_rfl, by kernel_rfl⟩
/-- reeve/right.Less -/
theorem tie108 : Go.Rv.Tied2 Try.prog sig Go.Rv.tab (108, 108) := .inl ⟨Try.f108, Try.func108, by kernel_rfl, by kernel_rfl, Go.Rv.byK [(0, [4]), (1, [0, 1, 5, 6, 7, 8, 9])], Go.Rv.byKK [], Go.Rv.byP [], none, Go.Rv.m108, by kernel_rfl, by kernel_rfl⟩
/-- reeve/right.of -/
theorem tie128 : Go.Rv.Tied2 Try.prog sig Go.Rv.tab (128, 128) := .inl ⟨Try.f128, Try.func128, by kernel_rfl, by kernel_rfl, Go.Rv.byK [(0, [2]), (1, [3, 4]), (3, [0, 6])], Go.Rv.byKK [], Go.Rv.byP [], none, Go.Rv.m128, by kernel_rfl, by kernel_rfl⟩
/-- reeve/find.in -/
theorem tie125 : Go.Rv.Tied2 Try.prog sig Go.Rv.tab (125, 125) := .inl ⟨Try.f125, Try.func125, by kernel_rfl, by kernel_rfl, Go.Rv.byK [(0, [6]), (1, [0, 1, 2, 7, 8, 9, 10, 11, 12, 13, 14])], Go.Rv.byKK [], Go.Rv.byP [], none, Go.Rv.m125, by kernel_rfl, by kernel_rfl⟩
/-- reeve/find.step -/
theorem tie127 : Go.Rv.Tied2 Try.prog sig Go.Rv.tab (127, 127) := .inl ⟨Try.f127, Try.func127, by kernel_rfl, by kernel_rfl, Go.Rv.byK [(0, [0, 4]), (1, [5, 6, 7, 8]), (3, [1, 2, 10, 11, 12, 13])], Go.Rv.byKK [], Go.Rv.byP [], none, Go.Rv.m127, by kernel_rfl, by kernel_rfl⟩
/-- reeve/find.through -/
theorem tie126 : Go.Rv.Tied2 Try.prog sig Go.Rv.tab (126, 126) := .inl ⟨Try.f126, Try.func126, by kernel_rfl, by kernel_rfl, Go.Rv.byK [(0, [0, 5]), (1, [1, 7, 8, 9, 10, 11, 12]), (2, [13, 14, 15, 16, 17, 18, 19, 20]), (3, [22]), (4, [2, 6, 23, 24, 25, 26, 27, 28])], Go.Rv.byKK [], Go.Rv.byP [], none, Go.Rv.m126, by kernel_rfl, by kernel_rfl⟩
/-- reeve/cap.Cut -/
theorem tie111 : Go.Rv.Tied2 Try.prog sig Go.Rv.tab (111, 111) := .inl ⟨Try.f111, Try.func111, by kernel_rfl, by kernel_rfl, Go.Rv.byK [(0, [0]), (1, [5, 6]), (2, [8]), (3, [1, 9, 10, 11, 12, 13]), (4, [2, 14])], Go.Rv.byKK [], Go.Rv.byP [], none, Go.Rv.m111, by kernel_rfl, by kernel_rfl⟩
/-- reeve/right.Both -/
theorem tie129 : Go.Rv.Tied2 Try.prog sig Go.Rv.tab (129, 129) := .inl ⟨Try.f129, Try.func129, by kernel_rfl, by kernel_rfl, Go.Rv.byK [(0, [4]), (1, [0, 1, 5, 6, 7, 8, 9])], Go.Rv.byKK [], Go.Rv.byP [], none, Go.Rv.m129, by kernel_rfl, by kernel_rfl⟩
/-- reeve/cap.Stamp -/
theorem tie112 : Go.Rv.Tied2 Try.prog sig Go.Rv.tab (112, 112) := .inl ⟨Try.f112, Try.func112, by kernel_rfl, by kernel_rfl, Go.Rv.byK [(0, [0, 5]), (1, [7, 8, 9]), (2, [10, 11, 12]), (3, [13, 14]), (4, [15]), (5, [17, 18, 19, 20]), (6, [21]), (7, [23, 24, 25]), (8, [26]), (9, [1, 27, 28]), (10, [2, 29])], Go.Rv.byKK [], Go.Rv.byP [], none, Go.Rv.m112, by kernel_rfl, by kernel_rfl⟩
/-- reeve/find.Empty -/
theorem tie80 : Go.Rv.Tied2 Try.prog sig Go.Rv.tab (80, 80) := .inl ⟨Try.f80, Try.func80, by kernel_rfl, by kernel_rfl, Go.Rv.byK [(0, [0, 2, 6, 7]), (1, [1, 5, 10, 11, 12, 13, 14, 15, 16]), (2, [18, 19]), (3, [9, 20]), (4, [3, 22, 23, 24, 25, 26, 27, 28, 29]), (6, [8, 30])], Go.Rv.byKK [], Go.Rv.byP [], none, Go.Rv.m80, by kernel_rfl, by kernel_rfl⟩
/-- reeve/give.Put -/
theorem tie26 : Go.Rv.Tied2 Try.prog sig Go.Rv.tab (26, 26) := .inl ⟨Try.f26, Try.func26, by kernel_rfl, by kernel_rfl, Go.Rv.byK [(0, [0, 3, 9]), (1, [11, 12, 13]), (2, [15, 16, 17]), (3, [10, 18, 19, 20, 21, 22, 23, 24, 25, 26, 27, 28, 29, 30, 31, 32, 33, 34, 35, 36, 37, 38, 39, 40, 41, 42]), (4, [43, 44, 45, 46]), (5, [4, 47]), (6, [49, 50, 51, 52, 53, 54, 55]), (7, [4, 56]), (8, [58, 59, 60, 61, 62, 63, 64, 65]), (9, [4, 66]), (10, [68, 69, 70, 71, 72, 73, 74, 75]), (11, [4, 76]), (12, [78, 79, 80, 81, 82, 83, 84, 85, 86]), (13, [87, 88, 89, 90]), (14, [4, 91]), (15, [92, 93]), (16, [1, 2, 7, 94, 95, 96, 97, 98, 99, 100]), (17, [4, 101])], Go.Rv.byKK [(12, [(0, [2, 6]), (2, [0]), (6, [0])])], Go.Rv.byP [], some [[0, 0, 0, 5, 13], [0]], Go.Rv.m26, by kernel_rfl, by kernel_rfl⟩
/-- reeve/state.Owner -/
theorem tie51 : Go.Rv.Tied2 Try.prog sig Go.Rv.tab (51, 51) := .inl ⟨Try.f51, Try.func51, by kernel_rfl, by kernel_rfl, Go.Rv.byK [(0, [0, 4]), (1, [5, 6, 7, 8, 9, 10, 11, 12, 13, 14, 15, 16, 17]), (3, [1, 2, 19, 20, 21])], Go.Rv.byKK [], Go.Rv.byP [], none, Go.Rv.m51, by kernel_rfl, by kernel_rfl⟩
/-- reeve/give.ring -/
theorem tie53 : Go.Rv.Tied2 Try.prog sig Go.Rv.tab (53, 53) := .inl ⟨Try.f53, Try.func53, by kernel_rfl, by kernel_rfl, Go.Rv.byK [(0, [0, 1, 6]), (1, [2, 3, 4, 7, 8, 9, 10, 11, 12, 13, 14, 15, 16])], Go.Rv.byKK [], Go.Rv.byP [], none, Go.Rv.m53, by kernel_rfl, by kernel_rfl⟩
/-- reeve/state.Inside -/
theorem tie88 : Go.Rv.Tied2 Try.prog sig Go.Rv.tab (88, 88) := .inl ⟨Try.f88, Try.func88, by kernel_rfl, by kernel_rfl, Go.Rv.byK [(0, [0, 6]), (1, [1, 2, 3, 7, 8, 9, 10, 11, 12, 13, 14, 15, 16, 17, 18, 19, 20, 21, 22, 23, 24, 25])], Go.Rv.byKK [], Go.Rv.byP [], none, Go.Rv.m88, by kernel_rfl, by kernel_rfl⟩
/-- reeve/state.Clone -/
theorem tie19 : Go.Rv.Tied2 Try.prog sig Go.Rv.tab (19, 19) := .inl ⟨Try.f19, Try.func19, by kernel_rfl, by kernel_rfl, Go.Rv.byK [(0, [0]), (1, [1, 3, 4, 5, 6, 7, 8, 9, 10, 11])], Go.Rv.byKK [(1, [(1, [3, 4, 6, 7]), (3, [1, 6]), (4, [1, 6]), (6, [1, 3, 4]), (7, [1])])], Go.Rv.byP [], none, Go.Rv.m19, by kernel_rfl, by kernel_rfl⟩
/-- slices.Clone[[]reeve/state.Slot,reeve/state.Slot] -/
theorem tie44 : Go.Rv.Tied2 Try.prog sig Go.Rv.tab (44, 44) := .inl ⟨Try.f44, Try.func44, by kernel_rfl, by kernel_rfl, Go.Rv.byK [(0, [2]), (1, [3]), (3, [0, 5, 6, 7])], Go.Rv.byKK [], Go.Rv.byP [], none, Go.Rv.m44, by kernel_rfl, by kernel_rfl⟩
/-- slices.Clone[[]reeve/thing.Thing,reeve/thing.Thing] -/
theorem tie45 : Go.Rv.Tied2 Try.prog sig Go.Rv.tab (45, 45) := .inl ⟨Try.f45, Try.func45, by kernel_rfl, by kernel_rfl, Go.Rv.byK [(0, [2]), (1, [3]), (3, [0, 5, 6, 7])], Go.Rv.byKK [], Go.Rv.byP [], none, Go.Rv.m45, by kernel_rfl, by kernel_rfl⟩
/-- reeve/give.moved -/
theorem tie113 : Go.Rv.Tied2 Try.prog sig Go.Rv.tab (113, 113) := .inl ⟨Try.f113, Try.func113, by kernel_rfl, by kernel_rfl, Go.Rv.byK [(0, [0]), (1, [8, 12, 13, 14, 15, 16, 17, 18, 19]), (2, [20, 21]), (3, [22, 23, 24, 25, 26, 27, 28, 29, 30, 31, 32, 33, 34, 35, 36, 37, 38]), (4, [7, 39]), (6, [44, 45, 46]), (7, [9, 10, 47, 48, 49, 50, 51, 52, 53]), (8, [54]), (9, [55, 56]), (11, [60]), (12, [61, 62, 63, 64, 65, 66, 67, 68]), (13, [11, 70, 71, 72, 73, 74, 75, 76]), (14, [77]), (15, [3, 78])], Go.Rv.byKK [(3, [(1, [4, 7, 11]), (4, [1, 7, 11, 15]), (7, [1, 4]), (11, [1, 4]), (15, [4])])], Go.Rv.byP [(5, ([1, 2, 3, 6, 40, 41, 42], [1, 2, 3, 6])), (10, ([1, 2, 3, 6, 57, 58], [3, 6]))], none, Go.Rv.m113, by kernel_rfl, by kernel_rfl⟩
/-- reeve/forest.Move -/
theorem tie130 : Go.Rv.Tied2 Try.prog sig Go.Rv.tab (130, 130) := .inl ⟨Try.f130, Try.func130, by kernel_rfl, by kernel_rfl, Go.Rv.byK [(0, [0, 7]), (1, [10, 11, 12, 13, 14, 15, 16, 17, 18, 19, 20, 21, 22, 23, 24, 25, 26, 27, 28]), (2, [30]), (3, [31, 32]), (4, [33, 34]), (6, [39, 40]), (7, [9, 41, 42, 43, 44, 45]), (8, [46]), (9, [2, 47, 48, 49, 50, 51, 52, 53, 54, 55]), (10, [1, 56, 57, 58, 59]), (11, [3, 60])], Go.Rv.byKK [(9, [(1, [4, 7]), (4, [1]), (7, [1])])], Go.Rv.byP [(5, ([1, 2, 3, 6, 35, 36, 37], [1, 2, 3, 6]))], none, Go.Rv.m130, by kernel_rfl, by kernel_rfl⟩
/-- reeve/forest.may -/
theorem tie84 : Go.Rv.Tied2 Try.prog sig Go.Rv.tab (84, 84) := .inl ⟨Try.f84, Try.func84, by kernel_rfl, by kernel_rfl, Go.Rv.byK [(0, [0, 4]), (1, [1, 2, 5, 6, 7, 8, 9, 10, 11])], Go.Rv.byKK [], Go.Rv.byP [], none, Go.Rv.m84, by kernel_rfl, by kernel_rfl⟩
/-- (reeve/forest.Forest).clone -/
theorem tie140 : Go.Rv.Tied2 Try.prog sig Go.Rv.tab (140, 140) := .inl ⟨Try.f140, Try.func140, by kernel_rfl, by kernel_rfl, Go.Rv.byK [(0, [0]), (1, [1, 3, 4, 5, 6])], Go.Rv.byKK [], Go.Rv.byP [], none, Go.Rv.m140, by kernel_rfl, by kernel_rfl⟩
/-- slices.Clone[[]int,int] -/
theorem tie150 : Go.Rv.Tied2 Try.prog sig Go.Rv.tab (150, 150) := .inl ⟨Try.f150, Try.func150, by kernel_rfl, by kernel_rfl, Go.Rv.byK [(0, [2]), (1, [3]), (3, [0, 5, 6, 7])], Go.Rv.byKK [], Go.Rv.byP [], none, Go.Rv.m150, by kernel_rfl, by kernel_rfl⟩
/-- (reeve/forest.Forest).of -/
theorem tie85 : Go.Rv.Tied2 Try.prog sig Go.Rv.tab (85, 85) := .inl ⟨Try.f85, Try.func85, by kernel_rfl, by kernel_rfl, Go.Rv.byK [(0, [0, 4]), (2, [2, 8]), (4, [13, 14, 15]), (5, [7, 16, 17]), (6, [6, 19, 20, 21, 22]), (7, [23]), (8, [5, 24])], Go.Rv.byKK [], Go.Rv.byP [(3, ([1, 5, 9, 10, 11], [5]))], none, Go.Rv.m85, by kernel_rfl, by kernel_rfl⟩
/-- reeve/reevelaw16.does -/
theorem tie24 : Go.Rv.Tied2 Try.prog sig Go.Rv.tab (24, 24) := .inl ⟨Try.f24, Try.func24, by kernel_rfl, by kernel_rfl, Go.Rv.byK [(0, [0, 2, 3, 13]), (1, [1, 4, 5, 6, 8, 9, 16, 17, 18, 19, 20, 21, 22, 23, 24, 25, 26]), (2, [14, 15, 27, 28, 29])], Go.Rv.byKK [(2, [(0, [2]), (2, [0, 3]), (3, [2])])], Go.Rv.byP [], none, Go.Rv.m24, by kernel_rfl, by kernel_rfl⟩
/-- reeve/reevelaw16.GiveKnown -/
theorem tie5 : Go.Rv.Tied2 Try.prog sig Go.Rv.tab (5, 5) := .inl ⟨Try.f5, Try.func5, by kernel_rfl, by kernel_rfl, Go.Rv.byK [(0, [0]), (1, [32]), (3, [34]), (4, [2, 35, 36, 37, 38, 39, 40, 41, 42, 43]), (5, [4, 44, 45, 46, 47, 48, 49, 50, 51, 52]), (6, [6, 53, 54, 55, 56, 57, 58, 59, 60, 61]), (7, [8, 62, 63, 64, 65, 66, 67, 68, 69, 70]), (8, [71, 72, 73, 74, 75, 76, 77, 78, 79]), (9, [12, 80, 81, 82, 83, 84, 85, 86, 87, 88]), (10, [89, 90, 91, 92, 93, 94, 95, 96, 97]), (11, [98, 99, 100, 101, 102, 103, 104, 105, 106]), (12, [18, 107, 108, 109, 110, 111, 112]), (13, [20, 113, 114, 115, 116, 117, 118]), (14, [22, 119, 120, 121, 122, 123, 124]), (15, [24, 125, 126, 127, 128, 129, 130]), (16, [26, 131, 132, 133, 134, 135, 136]), (17, [28, 137, 138, 139, 140, 141, 142]), (18, [1, 30, 143, 144, 145, 146, 147, 148]), (19, [149, 150, 151, 152, 153, 154, 155, 156, 157, 158, 159, 160, 161, 162, 163]), (21, [3, 5, 7, 9, 10, 11, 13, 14, 15, 16, 17, 19, 21, 23, 25, 27, 29, 31, 165, 166, 167, 168, 169, 170, 171, 172, 173, 174, 175, 176, 177, 178, 179, 180, 181, 182, 183, 184, 185, 186, 187, 188, 189, 190, 191, 192, 193, 194, 195, 196, 197, 198, 199, 200, 201, 202, 203, 204, 205, 206, 207, 208, 209, 210, 211, 212, 213, 214, 215, 216, 217, 218, 219, 220, 221, 222, 223, 224, 225, 226, 227, 228, 229, 230, 231, 232, 233, 234, 235, 236, 237, 238, 239, 240, 241, 242, 243, 244, 245, 246, 247, 248, 249, 250, 251, 252, 253, 254, 255, 256, 257, 258, 259, 260, 261, 262, 263, 264, 265, 266, 267, 268, 269, 270, 271, 272, 273, 274, 275, 276, 277, 278, 279, 280, 281])], Go.Rv.byKK [(4, [(0, [1, 2, 3, 4, 9]), (1, [0, 3, 9]), (2, [0, 3, 9]), (3, [0, 1, 2, 9]), (4, [0, 9]), (5, [9]), (9, [0, 1, 2, 3, 4, 5])]), (5, [(0, [1, 2, 3, 4, 9]), (1, [0, 3, 9]), (2, [0, 3, 9]), (3, [0, 1, 2, 9]), (4, [0, 9]), (5, [9]), (9, [0, 1, 2, 3, 4, 5])]), (6, [(0, [1, 2, 3, 4, 9]), (1, [0, 3, 9]), (2, [0, 3, 9]), (3, [0, 1, 2, 9]), (4, [0, 9]), (5, [9]), (9, [0, 1, 2, 3, 4, 5])]), (7, [(0, [1, 2, 3, 4, 9]), (1, [0, 3, 9]), (2, [0, 3, 9]), (3, [0, 1, 2, 9]), (4, [0, 9]), (5, [9]), (9, [0, 1, 2, 3, 4, 5])]), (8, [(0, [1, 2, 3, 4, 9]), (1, [0, 3, 9]), (2, [0, 3, 9]), (3, [0, 1, 2, 9]), (4, [0, 9]), (5, [9]), (9, [0, 1, 2, 3, 4, 5])]), (9, [(0, [1, 2, 3, 4, 9]), (1, [0, 3, 9]), (2, [0, 3, 9]), (3, [0, 1, 2, 9]), (4, [0, 9]), (5, [9]), (9, [0, 1, 2, 3, 4, 5])]), (10, [(0, [1, 2, 3, 4, 9]), (1, [0, 3, 9]), (2, [0, 3, 9]), (3, [0, 1, 2, 9]), (4, [0, 9]), (5, [9]), (9, [0, 1, 2, 3, 4, 5])]), (11, [(0, [1, 2, 3, 4, 9]), (1, [0, 3, 9]), (2, [0, 3, 9]), (3, [0, 1, 2, 9]), (4, [0, 9]), (5, [9]), (9, [0, 1, 2, 3, 4, 5])])], Go.Rv.byP [], none, Go.Rv.m5, by kernel_rfl, by kernel_rfl⟩
theorem ties : ∀ p ∈ sigL, Go.Rv.Tied2 Try.prog sig Go.Rv.tab p := List.forall_mem_cons.2 ⟨tie22, List.forall_mem_cons.2 ⟨tie23, List.forall_mem_cons.2 ⟨tie7, List.forall_mem_cons.2 ⟨tie34, List.forall_mem_cons.2 ⟨tie72, List.forall_mem_cons.2 ⟨tie69, List.forall_mem_cons.2 ⟨tie99, List.forall_mem_cons.2 ⟨tie100, List.forall_mem_cons.2 ⟨tie35, List.forall_mem_cons.2 ⟨tie36, List.forall_mem_cons.2 ⟨tie73, List.forall_mem_cons.2 ⟨tie25, List.forall_mem_cons.2 ⟨tie49, List.forall_mem_cons.2 ⟨tie86, List.forall_mem_cons.2 ⟨tie77, List.forall_mem_cons.2 ⟨tie102, List.forall_mem_cons.2 ⟨tie119, List.forall_mem_cons.2 ⟨tie103, List.forall_mem_cons.2 ⟨tie104, List.forall_mem_cons.2 ⟨tie122, List.forall_mem_cons.2 ⟨tie135, List.forall_mem_cons.2 ⟨tie121, List.forall_mem_cons.2 ⟨tie105, List.forall_mem_cons.2 ⟨tie106, List.forall_mem_cons.2 ⟨tie124, List.forall_mem_cons.2 ⟨tie55, List.forall_mem_cons.2 ⟨tie78, List.forall_mem_cons.2 ⟨tie107, List.forall_mem_cons.2 ⟨tie28, List.forall_mem_cons.2 ⟨tie58, List.forall_mem_cons.2 ⟨tie27, List.forall_mem_cons.2 ⟨tie50, List.forall_mem_cons.2 ⟨tie54, List.forall_mem_cons.2 ⟨tie56, List.forall_mem_cons.2 ⟨tie57, List.forall_mem_cons.2 ⟨tie89, List.forall_mem_cons.2 ⟨tie59, List.forall_mem_cons.2 ⟨tie90, List.forall_mem_cons.2 ⟨tie60, List.forall_mem_cons.2 ⟨tie61, List.forall_mem_cons.2 ⟨tie91, List.forall_mem_cons.2 ⟨tie116, List.forall_mem_cons.2 ⟨tie115, List.forall_mem_cons.2 ⟨tie87, List.forall_mem_cons.2 ⟨tie109, List.forall_mem_cons.2 ⟨tie114, List.forall_mem_cons.2 ⟨tie48, List.forall_mem_cons.2 ⟨tie62, List.forall_mem_cons.2 ⟨tie92, List.forall_mem_cons.2 ⟨tie63, List.forall_mem_cons.2 ⟨tie52, List.forall_mem_cons.2 ⟨tie79, List.forall_mem_cons.2 ⟨tie108, List.forall_mem_cons.2 ⟨tie128, List.forall_mem_cons.2 ⟨tie125, List.forall_mem_cons.2 ⟨tie127, List.forall_mem_cons.2 ⟨tie126, List.forall_mem_cons.2 ⟨tie111, List.forall_mem_cons.2 ⟨tie129, List.forall_mem_cons.2 ⟨tie112, List.forall_mem_cons.2 ⟨tie80, List.forall_mem_cons.2 ⟨tie26, List.forall_mem_cons.2 ⟨tie51, List.forall_mem_cons.2 ⟨tie53, List.forall_mem_cons.2 ⟨tie88, List.forall_mem_cons.2 ⟨tie19, List.forall_mem_cons.2 ⟨tie44, List.forall_mem_cons.2 ⟨tie45, List.forall_mem_cons.2 ⟨tie113, List.forall_mem_cons.2 ⟨tie130, List.forall_mem_cons.2 ⟨tie84, List.forall_mem_cons.2 ⟨tie140, List.forall_mem_cons.2 ⟨tie150, List.forall_mem_cons.2 ⟨tie85, List.forall_mem_cons.2 ⟨tie24, List.forall_mem_cons.2 ⟨tie5, (fun _ h => nomatch h)⟩⟩⟩⟩⟩⟩⟩⟩⟩⟩⟩⟩⟩⟩⟩⟩⟩⟩⟩⟩⟩⟩⟩⟩⟩⟩⟩⟩⟩⟩⟩⟩⟩⟩⟩⟩⟩⟩⟩⟩⟩⟩⟩⟩⟩⟩⟩⟩⟩⟩⟩⟩⟩⟩⟩⟩⟩⟩⟩⟩⟩⟩⟩⟩⟩⟩⟩⟩⟩⟩⟩⟩⟩⟩⟩⟩

theorem Try.own : ownKnob Try.prog.godebug = none := by kernel_rfl
theorem Try.laidOut : laidOutB Try.prog = true := by kernel_rfl
theorem Try.mixed : Try.prog.follows .mixedOrders = true := by kernel_rfl

set_option maxRecDepth 100000 in
theorem giveKnown_lifted (os : Os) (started : os.Started) (H : Type) (enc : TypeId × Value → H) :
    ReturnsInHanded {} Try.checked os 5 .any (Rows.giveKnownSpec.pre6 enc Try.prog Try.f5 Rows.giveKnownRow.domain false) (Rows.giveKnownSpec.post enc Try.prog Try.f5 false true false false) := by
  refine returnsInHanded_of_change (C := Try.checked) Try.own started (by kernel_rfl) Try.func5
    (ChangeSpec.witness6 (enc := enc) (C := Try.checked) false ⟨#[], #[], []⟩ 8 (by kernel_rfl) (by kernel_rfl) (by kernel_rfl) (by kernel_rfl)) ?_
  intro W base args ds gs before hval hW _ _
  exact Go.Rv.law_contract (P := Try.prog) (σ := sig) (n := 8) Try.mixed Try.laidOut (Go.Rv.sigOK_of ties) (Go.Rv.tabOK_of ties) (k := 5) (g := 5) (by kernel_rfl) (fn := Try.f5)
    (by rw [Try.params5]; exact fun t ht => nomatch ht) (tb := 4) (by kernel_rfl) (by kernel_rfl) rfl
    (fun H ds hd => by
      rw [Try.params5] at hd
      cases ds with
      | nil => rfl
      | cons => simp at hd)
    (fun xs hx => by
      rw [Try.params5] at hx
      cases xs with
      | nil => exact ⟨_, Go.Rv.known_L, rfl⟩
      | cons => exact hx.elim) W base args ds gs before hval hW

theorem giveKnown_holds : Rows.GiveKnownSaid :=
  OpenClaim.holds_of_wide 5 Try.f5 rfl rfl rfl rfl rfl rfl rfl ⟨rfl, rfl, rfl, rfl, rfl⟩ rfl rfl rfl rfl rfl (by kernel_rfl) Try.func5 (by kernel_rfl)
    (of_decide_eq_true (by kernel_rfl)) (by unfold Func.isWrapper; rw [if_neg (by decide +kernel)]; exact ⟨rfl, rfl⟩)
    (fun os started H enc _ => giveKnown_lifted os started H enc)
end Go.Proofs.Ytomdbiaoaemkmaa
