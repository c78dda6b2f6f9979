/- the law 'StateNew' -/
import Derived.Test.YtcjpmmbenlbndaaNMb
import Derived.Test.YtcjpmmbenlbndaaRows
namespace Go.Proofs.Ytcjpmmbenlbndaa
open Go.ChangeShapes Go.WideShapes Go.ChangeAt Go.RowKit

def sigL : List (Nat × Nat) := [(9, 9), (24, 24), (14, 14), (43, 43), (70, 70), (82, 82), (83, 83), (15, 15), (44, 44), (16, 16), (12, 12), (11, 11), (37, 37), (68, 68), (78, 78), (79, 79), (80, 80), (81, 81), (69, 69), (38, 38), (42, 42), (39, 39), (40, 40), (54, 54), (74, 74), (73, 73), (45, 45), (46, 46), (72, 72), (25, 25), (27, 27), (41, 41), (71, 71), (84, 84), (86, 86), (89, 89), (53, 53), (3, 3), (10, 10), (13, 13), (4, 4), (17, 17), (18, 18), (47, 47), (5, 5), (19, 19)]
def sig : Go.Rv.Num := Go.Rv.sigOf sigL
/-- reeve/reevelaw12.awake -/
theorem tie9 : Go.Rv.Tied Try.prog sig Go.Rv.tab (9, 9) := ⟨Try.f9, Try.func9, by kernel_rfl, by kernel_rfl, Go.Rv.byK [(0, [0]), (1, [5, 6, 7, 8, 9]), (4, [10, 11, 12, 13]), (6, [17, 18, 19, 20, 21, 22, 23]), (7, [25, 26]), (5, [15, 16]), (8, [1, 2, 3, 27, 28, 29, 30, 31, 32, 33, 34, 35, 36, 37, 38, 39, 40, 41, 42, 43, 44, 45, 46, 47, 48])], Go.Rv.byKK [], Go.Rv.byP [(4, ([1, 2, 3, 4], [1, 2, 3]))], Go.Rv.m9, by kernel_rfl, by kernel_rfl⟩
/-- reeve/geo.Plain -/
theorem tie24 : Go.Rv.Tied Try.prog sig Go.Rv.tab (24, 24) := ⟨Try.f24, Try.func24, by kernel_rfl, by kernel_rfl, Go.Rv.byK [(1, [1])], Go.Rv.byKK [], Go.Rv.byP [], Go.Rv.m24, by kernel_rfl, by kernel_rfl⟩
/-- reeve/state.New -/
theorem tie14 : Go.Rv.Tied Try.prog sig Go.Rv.tab (14, 14) := ⟨Try.f14, Try.func14, by kernel_rfl, by kernel_rfl, Go.Rv.byK [(0, [0, 5]), (1, [1, 13, 14, 15, 16, 17]), (2, [7, 18, 19, 20, 21, 22, 23]), (3, [25]), (4, [26, 27, 28, 29, 30, 31, 32, 33]), (5, [34, 35]), (7, [39]), (8, [9, 40, 41, 42, 43, 44]), (9, [45]), (10, [6, 46, 47, 48, 49]), (11, [50, 51, 52, 53, 54, 55, 56]), (12, [57, 58]), (13, [59, 60, 61, 62, 63, 64]), (14, [65]), (16, [69]), (17, [70, 71, 72]), (18, [11, 73, 74, 75, 76, 77, 78, 79, 80, 81, 82]), (19, [12, 83, 84, 85, 86, 87, 88, 89, 90, 91]), (20, [92]), (21, [10, 93, 94, 95, 96, 97, 98]), (22, [8, 99])], Go.Rv.byKK [(4, [(0, [2, 3, 5, 6, 8]), (2, [0, 5, 6, 8]), (3, [0, 5, 6, 8]), (5, [0, 2, 3, 8]), (6, [0, 2, 3, 8]), (8, [0, 2, 3, 5, 6])]), (11, [(1, [2]), (2, [1])]), (18, [(1, [5]), (5, [1])])], Go.Rv.byP [(6, ([2, 4, 6, 8, 36, 37], [2, 4, 6, 8])), (15, ([2, 4, 8, 10, 66, 67], [4, 8, 10]))], Go.Rv.m14, by kernel_rfl, by kernel_rfl⟩
/-- reeve/thing.New -/
theorem tie43 : Go.Rv.Tied Try.prog sig Go.Rv.tab (43, 43) := ⟨Try.f43, Try.func43, by kernel_rfl, by kernel_rfl, Go.Rv.byK [(0, [7]), (1, [9, 10]), (2, [0]), (4, [14]), (5, [1, 15, 16]), (6, [18]), (7, [1, 2, 19, 20, 21, 22]), (8, [24]), (9, [25]), (10, [11, 26]), (3, [12]), (11, [27, 28]), (12, [30]), (13, [8, 31])], Go.Rv.byKK [], Go.Rv.byP [], Go.Rv.m43, by kernel_rfl, by kernel_rfl⟩
/-- reeve/thing.Good -/
theorem tie70 : Go.Rv.Tied Try.prog sig Go.Rv.tab (70, 70) := ⟨Try.f70, Try.func70, by kernel_rfl, by kernel_rfl, Go.Rv.byK [(0, [0, 2]), (1, [3, 4, 5]), (3, [7]), (4, [10]), (5, [1, 11, 12, 13, 14, 15, 16, 17, 18, 19, 20]), (6, [22]), (7, [1, 23, 24, 25, 26, 27, 28, 29, 30, 31, 32, 33, 34]), (8, [8, 36]), (9, [1, 37, 38, 39, 40, 41, 42, 43, 44])], Go.Rv.byKK [(1, [(0, [2]), (1, [2]), (2, [0, 1])]), (7, [(5, [7]), (7, [5])])], Go.Rv.byP [], Go.Rv.m70, by kernel_rfl, by kernel_rfl⟩
/-- reeve/thing.own -/
theorem tie82 : Go.Rv.Tied Try.prog sig Go.Rv.tab (82, 82) := ⟨Try.f82, Try.func82, by kernel_rfl, by kernel_rfl, Go.Rv.byK [(0, [0]), (1, [3]), (2, [6]), (3, [1, 7, 8, 9, 10, 11, 12, 13]), (4, [15]), (5, [1, 16, 17, 18, 19, 20, 21, 22]), (6, [24]), (7, [25, 26]), (8, [1, 28, 29, 30]), (9, [1, 31, 32, 33, 34, 35, 36, 37, 38, 39]), (10, [41]), (11, [1, 42, 43, 44, 45, 46]), (12, [4, 48]), (13, [1, 49, 50, 51, 52, 53]), (14, [54])], Go.Rv.byKK [], Go.Rv.byP [], Go.Rv.m82, by kernel_rfl, by kernel_rfl⟩
/-- reeve/thing.in -/
theorem tie83 : Go.Rv.Tied Try.prog sig Go.Rv.tab (83, 83) := ⟨Try.f83, Try.func83, by kernel_rfl, by kernel_rfl, Go.Rv.byK [(0, [6]), (1, [0, 1, 2, 7, 8, 9, 10, 11, 12, 13, 14])], Go.Rv.byKK [], Go.Rv.byP [], Go.Rv.m83, by kernel_rfl, by kernel_rfl⟩
/-- reeve/geo.Good -/
theorem tie15 : Go.Rv.Tied Try.prog sig Go.Rv.tab (15, 15) := ⟨Try.f15, Try.func15, by kernel_rfl, by kernel_rfl, Go.Rv.byK [(0, [0, 2]), (1, [1, 3, 4, 5, 6, 7, 8, 9, 10, 11, 12, 13, 14, 15, 16, 17, 18, 19, 20, 21, 22, 23, 24, 25, 26, 27])], Go.Rv.byKK [], Go.Rv.byP [], Go.Rv.m15, by kernel_rfl, by kernel_rfl⟩
/-- reeve/geo.in -/
theorem tie44 : Go.Rv.Tied Try.prog sig Go.Rv.tab (44, 44) := ⟨Try.f44, Try.func44, by kernel_rfl, by kernel_rfl, Go.Rv.byK [(0, [6]), (1, [0, 1, 2, 7, 8, 9, 10, 11, 12, 13, 14])], Go.Rv.byKK [], Go.Rv.byP [], Go.Rv.m44, by kernel_rfl, by kernel_rfl⟩
/-- reeve/geo.Root -/
theorem tie16 : Go.Rv.Tied Try.prog sig Go.Rv.tab (16, 16) := ⟨Try.f16, Try.func16, by kernel_rfl, by kernel_rfl, Go.Rv.byK [(0, [0, 4]), (1, [2, 5, 6, 7, 8, 9, 10, 11, 12, 13, 14]), (3, [1, 16, 17])], Go.Rv.byKK [], Go.Rv.byP [], Go.Rv.m16, by kernel_rfl, by kernel_rfl⟩
/-- reeve/cap.None -/
theorem tie12 : Go.Rv.Tied Try.prog sig Go.Rv.tab (12, 12) := ⟨Try.f12, Try.func12, by kernel_rfl, by kernel_rfl, Go.Rv.byK [(0, [0, 2]), (1, [1, 3, 4, 5])], Go.Rv.byKK [], Go.Rv.byP [], Go.Rv.m12, by kernel_rfl, by kernel_rfl⟩
/-- reeve/state.Good -/
theorem tie11 : Go.Rv.Tied Try.prog sig Go.Rv.tab (11, 11) := ⟨Try.f11, Try.func11, by kernel_rfl, by kernel_rfl, Go.Rv.byK [(0, [0, 2]), (1, [3, 4, 5, 6, 7, 8, 9, 10, 11, 12, 13, 14, 15, 16, 17, 18, 19, 20, 21, 22, 23]), (3, [1, 25, 26, 27, 28, 29, 30, 31, 32, 33, 34, 35, 36, 37, 38, 39, 40, 41, 42, 43, 44, 45, 46, 47, 48])], Go.Rv.byKK [], Go.Rv.byP [], Go.Rv.m11, by kernel_rfl, by kernel_rfl⟩
/-- (reeve/state.State).caps -/
theorem tie37 : Go.Rv.Tied Try.prog sig Go.Rv.tab (37, 37) := ⟨Try.f37, Try.func37, by kernel_rfl, by kernel_rfl, Go.Rv.byK [(0, [0, 2]), (1, [6]), (3, [11, 12]), (4, [13, 14]), (5, [16, 17, 18]), (7, [20, 21, 22, 23, 24, 25, 26]), (8, [4, 27, 28, 29, 30, 31, 32, 33, 34]), (10, [5, 36, 37, 38, 39, 40, 41, 42, 43, 44, 45, 46, 47, 48, 49, 50, 51, 52, 53, 54, 55, 56, 57]), (12, [58])], Go.Rv.byKK [(10, [(4, [6]), (6, [4]), (11, [13, 18]), (13, [11, 18]), (16, [18]), (18, [11, 13, 16])])], Go.Rv.byP [(2, ([1, 7, 8, 9], [2]))], Go.Rv.m37, by kernel_rfl, by kernel_rfl⟩
/-- reeve/cap.Good -/
theorem tie68 : Go.Rv.Tied Try.prog sig Go.Rv.tab (68, 68) := ⟨Try.f68, Try.func68, by kernel_rfl, by kernel_rfl, Go.Rv.byK [(0, [0, 2]), (1, [3]), (3, [1, 5, 6, 7, 8, 9, 10, 11, 12, 13, 14, 15, 16, 17, 18, 19, 20, 21, 22, 23, 24, 25, 26, 27, 28, 29, 30, 31, 32])], Go.Rv.byKK [], Go.Rv.byP [], Go.Rv.m68, by kernel_rfl, by kernel_rfl⟩
/-- reeve/cap.in -/
theorem tie78 : Go.Rv.Tied Try.prog sig Go.Rv.tab (78, 78) := ⟨Try.f78, Try.func78, by kernel_rfl, by kernel_rfl, Go.Rv.byK [(0, [6]), (1, [0, 1, 2, 7, 8, 9, 10, 11, 12, 13, 14])], Go.Rv.byKK [], Go.Rv.byP [], Go.Rv.m78, by kernel_rfl, by kernel_rfl⟩
/-- reeve/right.Good -/
theorem tie79 : Go.Rv.Tied Try.prog sig Go.Rv.tab (79, 79) := ⟨Try.f79, Try.func79, by kernel_rfl, by kernel_rfl, Go.Rv.byK [(0, [2]), (1, [0, 3, 4, 5, 6, 7, 8])], Go.Rv.byKK [], Go.Rv.byP [], Go.Rv.m79, by kernel_rfl, by kernel_rfl⟩
/-- reeve/right.Badge -/
theorem tie80 : Go.Rv.Tied Try.prog sig Go.Rv.tab (80, 80) := ⟨Try.f80, Try.func80, by kernel_rfl, by kernel_rfl, Go.Rv.byK [(0, [2]), (1, [0, 3, 4, 5, 6, 7, 8])], Go.Rv.byKK [], Go.Rv.byP [], Go.Rv.m80, by kernel_rfl, by kernel_rfl⟩
/-- reeve/cap.badged -/
theorem tie81 : Go.Rv.Tied Try.prog sig Go.Rv.tab (81, 81) := ⟨Try.f81, Try.func81, by kernel_rfl, by kernel_rfl, Go.Rv.byK [(0, [2]), (1, [0, 3, 4, 5, 6, 7, 8])], Go.Rv.byKK [], Go.Rv.byP [], Go.Rv.m81, by kernel_rfl, by kernel_rfl⟩
/-- (reeve/state.State).there -/
theorem tie69 : Go.Rv.Tied Try.prog sig Go.Rv.tab (69, 69) := ⟨Try.f69, Try.func69, by kernel_rfl, by kernel_rfl, Go.Rv.byK [(0, [0, 4]), (1, [1, 2, 5, 6, 7, 8, 9, 10, 11, 12, 13, 14, 15, 16, 17, 18, 19, 20, 21, 22])], Go.Rv.byKK [], Go.Rv.byP [], Go.Rv.m69, by kernel_rfl, by kernel_rfl⟩
/-- (reeve/state.State).things -/
theorem tie38 : Go.Rv.Tied Try.prog sig Go.Rv.tab (38, 38) := ⟨Try.f38, Try.func38, by kernel_rfl, by kernel_rfl, Go.Rv.byK [(0, [0, 2]), (1, [6]), (3, [11, 12, 13]), (4, [14, 15]), (6, [17, 18, 19, 20, 21, 22, 23, 24, 25, 26, 27, 28, 29, 30, 31, 32, 33, 34, 35, 36, 37]), (8, [39, 40, 41, 42, 43, 44, 45, 46, 47, 48]), (9, [49, 50, 51, 52, 53, 54, 55, 56, 57, 58]), (11, [3, 4, 5, 60, 61, 62, 63, 64, 65, 66, 67, 68, 69, 70, 71, 72]), (13, [74])], Go.Rv.byKK [(9, [(2, [4, 7]), (4, [2]), (7, [2])])], Go.Rv.byP [(2, ([1, 7, 8, 9], [2]))], Go.Rv.m38, by kernel_rfl, by kernel_rfl⟩
/-- (reeve/state.State).holders -/
theorem tie42 : Go.Rv.Tied Try.prog sig Go.Rv.tab (42, 42) := ⟨Try.f42, Try.func42, by kernel_rfl, by kernel_rfl, Go.Rv.byK [(0, [0, 4]), (2, [2, 8]), (4, [13, 14, 15]), (5, [7, 16, 17, 18, 19, 20, 21, 22, 23, 24, 25]), (6, [6, 27, 28, 29, 30]), (7, [31]), (8, [5, 32])], Go.Rv.byKK [], Go.Rv.byP [(3, ([1, 5, 9, 10, 11], [5]))], Go.Rv.m42, by kernel_rfl, by kernel_rfl⟩
/-- (reeve/state.State).nodes -/
theorem tie39 : Go.Rv.Tied Try.prog sig Go.Rv.tab (39, 39) := ⟨Try.f39, Try.func39, by kernel_rfl, by kernel_rfl, Go.Rv.byK [(0, [0, 2]), (1, [10, 11, 12, 13]), (2, [14]), (4, [19, 20]), (5, [21, 22]), (6, [24, 25]), (8, [29]), (9, [6, 30, 31, 32, 33]), (10, [34, 35, 36, 37, 38, 39, 40, 41, 42]), (12, [7, 44, 45, 46]), (13, [47]), (14, [48]), (15, [1, 49]), (17, [54, 55, 56]), (18, [8, 9, 57, 58, 59, 60, 61, 62, 63, 64, 65, 66]), (20, [68])], Go.Rv.byKK [], Go.Rv.byP [(3, ([1, 3, 15, 16, 17], [1, 2, 3])), (7, ([1, 3, 5, 15, 16, 17, 26, 27], [1, 2, 3, 15, 16, 17])), (16, ([3, 50, 51, 52], [2]))], Go.Rv.m39, by kernel_rfl, by kernel_rfl⟩
/-- (reeve/state.State).ring -/
theorem tie40 : Go.Rv.Tied Try.prog sig Go.Rv.tab (40, 40) := ⟨Try.f40, Try.func40, by kernel_rfl, by kernel_rfl, Go.Rv.byK [(0, [0, 2]), (1, [5]), (3, [10, 11, 12]), (4, [3, 4, 13, 14, 15, 16, 17, 18, 19, 20, 21, 22, 23]), (6, [25])], Go.Rv.byKK [], Go.Rv.byP [(2, ([1, 6, 7, 8], [2]))], Go.Rv.m40, by kernel_rfl, by kernel_rfl⟩
/-- (reeve/state.State).inside -/
theorem tie54 : Go.Rv.Tied Try.prog sig Go.Rv.tab (54, 54) := ⟨Try.f54, Try.func54, by kernel_rfl, by kernel_rfl, Go.Rv.byK [(0, [0, 6]), (1, [8, 9, 10, 11, 12, 13, 14, 15, 16, 17, 18, 19]), (3, [21]), (4, [1, 22, 23, 24, 25]), (5, [2, 3, 7, 26, 27, 28, 29, 30])], Go.Rv.byKK [], Go.Rv.byP [], Go.Rv.m54, by kernel_rfl, by kernel_rfl⟩
/-- reeve/state.within -/
theorem tie74 : Go.Rv.Tied Try.prog sig Go.Rv.tab (74, 74) := ⟨Try.f74, Try.func74, by kernel_rfl, by kernel_rfl, Go.Rv.byK [(0, [0]), (1, [8, 9]), (2, [11, 12]), (3, [13]), (5, [18, 19, 20]), (6, [6, 21, 22, 23, 24, 25, 26, 27, 28, 29, 30, 31, 32, 33, 34, 35, 36, 37, 38, 39]), (7, [7, 41, 42, 43, 44, 45, 46]), (8, [47])], Go.Rv.byKK [], Go.Rv.byP [(4, ([1, 2, 3, 14, 15, 16], []))], Go.Rv.m74, by kernel_rfl, by kernel_rfl⟩
/-- reeve/state.has -/
theorem tie73 : Go.Rv.Tied Try.prog sig Go.Rv.tab (73, 73) := ⟨Try.f73, Try.func73, by kernel_rfl, by kernel_rfl, Go.Rv.byK [(0, [0, 4]), (1, [1, 2, 5, 6, 7, 8, 9, 10, 11, 12, 13, 14, 15, 16, 17, 18, 19, 20, 21, 22, 23])], Go.Rv.byKK [(1, [(12, [14]), (14, [12])])], Go.Rv.byP [], Go.Rv.m73, by kernel_rfl, by kernel_rfl⟩
/-- (reeve/state.State).owner -/
theorem tie45 : Go.Rv.Tied Try.prog sig Go.Rv.tab (45, 45) := ⟨Try.f45, Try.func45, by kernel_rfl, by kernel_rfl, Go.Rv.byK [(0, [0, 1, 4]), (1, [2, 3, 5, 6, 7, 8])], Go.Rv.byKK [], Go.Rv.byP [], Go.Rv.m45, by kernel_rfl, by kernel_rfl⟩
/-- slices.IndexFunc[[]reeve/thing.Thing,reeve/thing.Thing] -/
theorem tie46 : Go.Rv.Tied Try.prog sig Go.Rv.tab (46, 46) := ⟨Try.f46, Try.func46, by kernel_rfl, by kernel_rfl, Go.Rv.byK [(0, [4]), (1, [6]), (3, [10]), (4, [11, 12, 13, 14, 15]), (5, [5, 17]), (6, [18])], Go.Rv.byKK [], Go.Rv.byP [(2, ([0, 1, 7, 8], [4]))], Go.Rv.m46, by kernel_rfl, by kernel_rfl⟩
/-- (reeve/state.State).owner$1 -/
theorem tie72 : Go.Rv.Tied Try.prog sig Go.Rv.tab (72, 72) := ⟨Try.f72, Try.func72, by kernel_rfl, by kernel_rfl, Go.Rv.byK [(0, [0, 3]), (1, [1, 2, 4, 5, 6])], Go.Rv.byKK [], Go.Rv.byP [], Go.Rv.m72, by kernel_rfl, by kernel_rfl⟩
/-- reeve/state.Forest -/
theorem tie25 : Go.Rv.Tied Try.prog sig Go.Rv.tab (25, 25) := ⟨Try.f25, Try.func25, by kernel_rfl, by kernel_rfl, Go.Rv.byK [(0, [0]), (2, [1, 6]), (4, [11, 12]), (5, [13, 14]), (6, [16]), (7, [5, 17, 18, 19, 20, 21, 22, 23]), (8, [24]), (9, [3, 25])], Go.Rv.byKK [], Go.Rv.byP [(3, ([2, 3, 7, 8, 9], [2, 3]))], Go.Rv.m25, by kernel_rfl, by kernel_rfl⟩
/-- reeve/forest.Good -/
theorem tie27 : Go.Rv.Tied Try.prog sig Go.Rv.tab (27, 27) := ⟨Try.f27, Try.func27, by kernel_rfl, by kernel_rfl, Go.Rv.byK [(0, [0, 2]), (1, [8, 9, 10]), (3, [12]), (5, [17, 18]), (6, [4, 19, 20, 21, 22, 23, 24, 25, 26, 27, 28, 29]), (8, [31]), (9, [32, 33]), (11, [37]), (13, [5, 38]), (14, [39, 40]), (16, [47, 48, 49, 50]), (18, [52, 53]), (15, [42, 43, 44, 45, 46]), (19, [54])], Go.Rv.byKK [], Go.Rv.byP [(4, ([1, 13, 14, 15], [1, 2])), (10, ([1, 34, 35], [2])), (14, ([1, 6, 7, 34, 35], [1, 2, 34, 35]))], Go.Rv.m27, by kernel_rfl, by kernel_rfl⟩
/-- (reeve/state.State).allowed -/
theorem tie41 : Go.Rv.Tied Try.prog sig Go.Rv.tab (41, 41) := ⟨Try.f41, Try.func41, by kernel_rfl, by kernel_rfl, Go.Rv.byK [(0, [0, 2]), (1, [7]), (3, [12, 13]), (4, [14, 15]), (5, [16, 17]), (7, [21]), (8, [5, 23, 24, 25, 26, 27]), (9, [28, 29, 30, 31, 32, 33, 34, 35, 36, 37, 38, 39, 40, 41, 42, 43, 44, 45, 46, 47]), (11, [6, 49, 50]), (12, [51]), (13, [52])], Go.Rv.byKK [], Go.Rv.byP [(2, ([1, 8, 9, 10], [2])), (6, ([1, 4, 5, 8, 9, 10, 18, 19], [1, 2, 8, 9, 10]))], Go.Rv.m41, by kernel_rfl, by kernel_rfl⟩
/-- reeve/cap.Less -/
theorem tie71 : Go.Rv.Tied Try.prog sig Go.Rv.tab (71, 71) := ⟨Try.f71, Try.func71, by kernel_rfl, by kernel_rfl, Go.Rv.byK [(0, [0, 1, 4]), (1, [5]), (3, [2, 3, 7, 8, 9, 10, 11, 12, 13, 14, 15, 16, 17, 18, 19, 20, 21, 22, 23, 24, 25, 26, 27, 28, 29, 30, 31, 32, 33, 34, 35, 36, 37])], Go.Rv.byKK [], Go.Rv.byP [], Go.Rv.m71, by kernel_rfl, by kernel_rfl⟩
/-- reeve/right.Within -/
theorem tie84 : Go.Rv.Tied Try.prog sig Go.Rv.tab (84, 84) := ⟨Try.f84, Try.func84, by kernel_rfl, by kernel_rfl, Go.Rv.byK [(0, [4]), (1, [0, 1, 5, 6, 7, 8])], Go.Rv.byKK [], Go.Rv.byP [], Go.Rv.m84, by kernel_rfl, by kernel_rfl⟩
/-- reeve/right.Less -/
theorem tie86 : Go.Rv.Tied Try.prog sig Go.Rv.tab (86, 86) := ⟨Try.f86, Try.func86, by kernel_rfl, by kernel_rfl, Go.Rv.byK [(0, [4]), (1, [0, 1, 5, 6, 7, 8, 9])], Go.Rv.byKK [], Go.Rv.byP [], Go.Rv.m86, by kernel_rfl, by kernel_rfl⟩
/-- reeve/right.of -/
theorem tie89 : Go.Rv.Tied Try.prog sig Go.Rv.tab (89, 89) := ⟨Try.f89, Try.func89, by kernel_rfl, by kernel_rfl, Go.Rv.byK [(0, [2]), (1, [3, 4]), (3, [0, 6])], Go.Rv.byKK [], Go.Rv.byP [], Go.Rv.m89, by kernel_rfl, by kernel_rfl⟩
/-- (reeve/forest.Forest).is -/
theorem tie53 : Go.Rv.Tied Try.prog sig Go.Rv.tab (53, 53) := ⟨Try.f53, Try.func53, by kernel_rfl, by kernel_rfl, Go.Rv.byK [(0, [0, 4]), (1, [1, 2, 5, 6, 7, 8, 9, 10, 11, 12, 13, 14, 15, 16, 17, 18, 19, 20, 21])], Go.Rv.byKK [], Go.Rv.byP [], Go.Rv.m53, by kernel_rfl, by kernel_rfl⟩
/-- reeve/reevelaw12.StateHolders -/
theorem tie3 : Go.Rv.Tied Try.prog sig Go.Rv.tab (3, 3) := ⟨Try.f3, Try.func3, by kernel_rfl, by kernel_rfl, Go.Rv.byK [(0, [0, 2]), (1, [9]), (3, [11, 12, 13, 14, 15, 16]), (7, [18, 19, 20, 21]), (9, [25, 26, 27, 28, 29, 30, 31]), (10, [33, 34]), (8, [23, 24]), (12, [35, 36, 37, 38]), (14, [42, 43, 44]), (16, [45, 46, 47]), (18, [51, 52, 53, 54, 55, 56, 57, 58, 59, 60, 61, 62, 63, 64, 65, 66, 67, 68, 69, 70, 71, 72, 73, 74, 75, 76, 77, 78, 79, 80, 81, 82, 83, 84, 85, 86, 87, 88, 89, 90, 91, 92, 93, 94, 95, 96, 97, 98, 99, 100, 101, 102, 103, 104, 105, 106]), (17, [49, 50]), (20, [7, 108, 109, 110, 111]), (13, [40, 41]), (21, [3, 4, 112, 113, 114])], Go.Rv.byKK [(18, [(9, [11]), (11, [9]), (17, [21]), (21, [17]), (31, [35]), (35, [31]), (48, [53]), (53, [48])])], Go.Rv.byP [(7, ([1, 3, 4, 5], [1, 3, 4])), (12, ([1, 3, 4, 6], [2, 3, 4])), (16, ([1, 3, 4, 6, 7, 8], [1, 2, 3, 4, 6, 7]))], Go.Rv.m3, by kernel_rfl, by kernel_rfl⟩
/-- reeve/reevelaw12.heavy -/
theorem tie10 : Go.Rv.Tied Try.prog sig Go.Rv.tab (10, 10) := ⟨Try.f10, Try.func10, by kernel_rfl, by kernel_rfl, Go.Rv.byK [(0, [0, 2]), (1, [1, 3, 4, 5, 6, 7, 8, 9, 10, 11, 12])], Go.Rv.byKK [], Go.Rv.byP [], Go.Rv.m10, by kernel_rfl, by kernel_rfl⟩
/-- reeve/state.Holders -/
theorem tie13 : Go.Rv.Tied Try.prog sig Go.Rv.tab (13, 13) := ⟨Try.f13, Try.func13, by kernel_rfl, by kernel_rfl, Go.Rv.byK [(0, [0, 4]), (1, [5, 6]), (3, [1, 2, 8, 9, 10])], Go.Rv.byKK [], Go.Rv.byP [], Go.Rv.m13, by kernel_rfl, by kernel_rfl⟩
/-- reeve/reevelaw12.StateNew -/
theorem tie4 : Go.Rv.Tied Try.prog sig Go.Rv.tab (4, 4) := ⟨Try.f4, Try.func4, by kernel_rfl, by kernel_rfl, Go.Rv.byK [(0, [0, 4]), (1, [9]), (3, [11, 12, 13, 14, 15, 16]), (4, [6, 17]), (5, [1, 2, 19, 20, 21, 22, 23, 24, 25, 26, 27, 28, 29]), (6, [30, 31, 32, 33, 34, 35, 36, 37, 38, 39, 40, 41, 42, 43, 44, 45, 46, 47]), (9, [49, 50, 51]), (11, [55, 56, 57, 58, 59, 60, 61, 62, 63]), (12, [8, 64, 65, 66, 67, 68, 69, 70, 71, 72, 73, 74, 75, 76]), (10, [53, 54]), (14, [2, 5, 78, 79, 80, 81, 82, 83, 84, 85, 86, 87, 88, 89, 90, 91, 92, 93, 94, 95, 96, 97, 98])], Go.Rv.byKK [(11, [(1, [2, 4, 9]), (2, [1, 9]), (4, [1, 9]), (8, [9]), (9, [1, 2, 4, 8])]), (12, [(4, [5, 7]), (5, [4]), (7, [4])]), (14, [(0, [4]), (1, [4]), (4, [0, 1]), (7, [10, 14, 16]), (8, [10, 14, 16]), (10, [7, 8, 14, 16]), (14, [7, 8, 10, 16]), (16, [7, 8, 10, 14])])], Go.Rv.byP [(9, ([2, 5, 7], [2, 4, 5]))], Go.Rv.m4, by kernel_rfl, by kernel_rfl⟩
/-- reeve/state.Owner -/
theorem tie17 : Go.Rv.Tied Try.prog sig Go.Rv.tab (17, 17) := ⟨Try.f17, Try.func17, by kernel_rfl, by kernel_rfl, Go.Rv.byK [(0, [0, 4]), (1, [5, 6, 7, 8, 9, 10, 11, 12, 13, 14, 15, 16, 17]), (3, [1, 2, 19, 20, 21])], Go.Rv.byKK [], Go.Rv.byP [], Go.Rv.m17, by kernel_rfl, by kernel_rfl⟩
/-- reeve/state.Free -/
theorem tie18 : Go.Rv.Tied Try.prog sig Go.Rv.tab (18, 18) := ⟨Try.f18, Try.func18, by kernel_rfl, by kernel_rfl, Go.Rv.byK [(0, [0, 2]), (1, [3, 4]), (3, [1, 6, 7, 8])], Go.Rv.byKK [], Go.Rv.byP [], Go.Rv.m18, by kernel_rfl, by kernel_rfl⟩
/-- reeve/state.Free$1 -/
theorem tie47 : Go.Rv.Tied Try.prog sig Go.Rv.tab (47, 47) := ⟨Try.f47, Try.func47, by kernel_rfl, by kernel_rfl, Go.Rv.byK [(0, [0, 2]), (1, [1, 3, 4, 5])], Go.Rv.byKK [], Go.Rv.byP [], Go.Rv.m47, by kernel_rfl, by kernel_rfl⟩
/-- reeve/reevelaw12.StateGaps -/
theorem tie5 : Go.Rv.Tied Try.prog sig Go.Rv.tab (5, 5) := ⟨Try.f5, Try.func5, by kernel_rfl, by kernel_rfl, Go.Rv.byK [(0, [0, 4]), (1, [10]), (3, [12, 13, 14, 15, 16, 17]), (5, [19, 20, 21, 22, 23, 24]), (6, [25, 26, 27, 28, 29]), (7, [5, 6, 31, 32, 33, 34, 35, 36]), (8, [1, 37, 38, 39]), (11, [40, 41, 42, 43]), (13, [47, 48, 49]), (15, [51, 52]), (16, [53, 54]), (17, [5, 6, 7, 9, 56, 57, 58, 59, 60, 61, 62, 63, 64]), (12, [45, 46]), (18, [6, 65, 66])], Go.Rv.byKK [], Go.Rv.byP [(11, ([2, 5, 6, 7, 8, 9], [4, 6]))], Go.Rv.m5, by kernel_rfl, by kernel_rfl⟩
/-- reeve/state.Gap -/
theorem tie19 : Go.Rv.Tied Try.prog sig Go.Rv.tab (19, 19) := ⟨Try.f19, Try.func19, by kernel_rfl, by kernel_rfl, Go.Rv.byK [(0, [0, 4, 5]), (1, [8, 9, 10, 11, 12, 13, 14, 15, 16, 17]), (4, [19, 20]), (6, [24]), (7, [25, 26]), (8, [27, 28, 29]), (10, [31, 32, 33]), (11, [6, 7, 35, 36, 37, 38]), (12, [39])], Go.Rv.byKK [], Go.Rv.byP [(5, ([1, 2, 6, 21, 22], [4, 5]))], Go.Rv.m19, by kernel_rfl, by kernel_rfl⟩
theorem ties : ∀ p ∈ sigL, Go.Rv.Tied Try.prog sig Go.Rv.tab p := List.forall_mem_cons.2 ⟨tie9, List.forall_mem_cons.2 ⟨tie24, List.forall_mem_cons.2 ⟨tie14, List.forall_mem_cons.2 ⟨tie43, List.forall_mem_cons.2 ⟨tie70, List.forall_mem_cons.2 ⟨tie82, List.forall_mem_cons.2 ⟨tie83, List.forall_mem_cons.2 ⟨tie15, List.forall_mem_cons.2 ⟨tie44, List.forall_mem_cons.2 ⟨tie16, List.forall_mem_cons.2 ⟨tie12, List.forall_mem_cons.2 ⟨tie11, List.forall_mem_cons.2 ⟨tie37, List.forall_mem_cons.2 ⟨tie68, List.forall_mem_cons.2 ⟨tie78, List.forall_mem_cons.2 ⟨tie79, List.forall_mem_cons.2 ⟨tie80, List.forall_mem_cons.2 ⟨tie81, List.forall_mem_cons.2 ⟨tie69, List.forall_mem_cons.2 ⟨tie38, List.forall_mem_cons.2 ⟨tie42, List.forall_mem_cons.2 ⟨tie39, List.forall_mem_cons.2 ⟨tie40, List.forall_mem_cons.2 ⟨tie54, List.forall_mem_cons.2 ⟨tie74, List.forall_mem_cons.2 ⟨tie73, List.forall_mem_cons.2 ⟨tie45, List.forall_mem_cons.2 ⟨tie46, List.forall_mem_cons.2 ⟨tie72, List.forall_mem_cons.2 ⟨tie25, List.forall_mem_cons.2 ⟨tie27, List.forall_mem_cons.2 ⟨tie41, List.forall_mem_cons.2 ⟨tie71, List.forall_mem_cons.2 ⟨tie84, List.forall_mem_cons.2 ⟨tie86, List.forall_mem_cons.2 ⟨tie89, List.forall_mem_cons.2 ⟨tie53, List.forall_mem_cons.2 ⟨tie3, List.forall_mem_cons.2 ⟨tie10, List.forall_mem_cons.2 ⟨tie13, List.forall_mem_cons.2 ⟨tie4, List.forall_mem_cons.2 ⟨tie17, List.forall_mem_cons.2 ⟨tie18, List.forall_mem_cons.2 ⟨tie47, List.forall_mem_cons.2 ⟨tie5, List.forall_mem_cons.2 ⟨tie19, (fun _ h => nomatch h)⟩⟩⟩⟩⟩⟩⟩⟩⟩⟩⟩⟩⟩⟩⟩⟩⟩⟩⟩⟩⟩⟩⟩⟩⟩⟩⟩⟩⟩⟩⟩⟩⟩⟩⟩⟩⟩⟩⟩⟩⟩⟩⟩⟩⟩⟩

theorem Try.own : ownKnob Try.prog.godebug = none := by kernel_rfl
theorem Try.laidOut : laidOutB Try.prog = true := by kernel_rfl
theorem Try.mixed : Try.prog.follows .mixedOrders = true := by kernel_rfl

set_option maxRecDepth 100000 in
theorem stateNew_lifted (os : Os) (started : os.Started) (H : Type) (enc : TypeId × Value → H) :
    ReturnsInHanded {} Try.checked os 4 .any (Rows.stateNewSpec.pre6 enc Try.prog Try.f4 Rows.stateNewRow.domain false) (Rows.stateNewSpec.post enc Try.prog Try.f4 false true false false) := by
  refine returnsInHanded_of_change (C := Try.checked) Try.own started (by kernel_rfl) Try.func4
    (ChangeSpec.witness6 (enc := enc) (C := Try.checked) false ⟨#[], #[.agg #[.int .i64 0, .int .i64 0, .int .i64 0], .int .i64 0], []⟩ 8 (by kernel_rfl) (by kernel_rfl) (by kernel_rfl) (by kernel_rfl)) ?_
  intro W base args ds gs before hval hW _ _
  exact Go.Rv.law_contract (P := Try.prog) (σ := sig) (n := 8) Try.mixed Try.laidOut (Go.Rv.sigOK_of ties) (Go.Rv.tabOK_of ties) (k := 4) (g := 4) (by kernel_rfl) (fn := Try.f4)
    (by rw [Try.params4]; exact fun t ht => (by simp at ht; rcases ht with rfl | rfl <;> exact ⟨by kernel_rfl, by kernel_rfl, of_decide_eq_true (by kernel_rfl)⟩)) (tb := 4) (by kernel_rfl) (by kernel_rfl) rfl
    (fun H ds hd => by
      rw [Try.params4] at hd
      match ds, hd with
      | [d1, d2], _ => rfl)
    (fun xs hx => by
      rw [Try.params4] at hx
      cases xs with
      | nil => exact hx.elim
      | cons x r => cases r with
        | nil => exact hx.2.elim
        | cons x2 r2 => cases r2 with
          | nil =>
            obtain ⟨l, rfl, hl⟩ := Go.Rv.TyArg_agg (P := Try.prog) (n := 8) (ts := [.c (.i .i64), .c (.i .i64), .c (.i .i64)]) hx.1 (by kernel_rfl) (by kernel_rfl)
            obtain ⟨a, b, c, rfl, _⟩ := Go.Rv.AlT_geo hl
            obtain ⟨k, rfl, _⟩ := Go.Rv.AlT_int (Go.Rv.TyArg_one (P := Try.prog) (n := 8) (ts := [.c (.i .i64)]) hx.2.1 (by kernel_rfl) (by kernel_rfl))
            exact ⟨_, Go.Rv.new_L a b c k, rfl⟩
          | cons => exact hx.2.2.elim) W base args ds gs before hval hW

theorem stateNew_holds : Rows.StateNewSaid :=
  OpenClaim.holds_of_wide 4 Try.f4 rfl rfl rfl rfl rfl rfl rfl ⟨rfl, rfl, rfl, rfl, rfl⟩ rfl rfl rfl rfl rfl (by kernel_rfl) Try.func4 (by kernel_rfl)
    (of_decide_eq_true (by kernel_rfl)) (by unfold Func.isWrapper; rw [if_neg (by decide +kernel)]; exact ⟨rfl, rfl⟩)
    (fun os started H enc _ => stateNew_lifted os started H enc)
end Go.Proofs.Ytcjpmmbenlbndaa
