/- the law 'StateSame' -/
import Derived.Test.YtcjpmmbenlbndaaSMa
import Derived.Test.YtcjpmmbenlbndaaRows
namespace Go.Proofs.Ytcjpmmbenlbndaa
open Go.ChangeShapes Go.WideShapes Go.ChangeAt Go.RowKit

def sigL : List (Nat × Nat) := [(9, 9), (24, 24), (14, 14), (43, 43), (70, 70), (82, 82), (83, 83), (15, 15), (44, 44), (16, 16), (12, 12), (11, 11), (37, 37), (68, 68), (78, 78), (79, 79), (80, 80), (81, 81), (69, 69), (38, 38), (42, 42), (39, 39), (40, 40), (54, 54), (74, 74), (73, 73), (45, 45), (46, 46), (72, 72), (25, 25), (27, 27), (41, 41), (71, 71), (84, 84), (86, 86), (89, 89), (53, 53), (6, 6), (10, 10), (20, 20), (48, 48), (49, 49), (22, 22), (50, 50), (21, 21), (23, 23), (51, 51), (52, 52)]
def sig : Go.Rv.Num := Go.Rv.sigOf sigL
/-- reeve/reevelaw12.awake -/
theorem tie9 : Go.Rv.Tied Try.prog sig Go.Rv.tab (9, 9) := ⟨Try.f9, Try.func9, by kernel_rfl, by kernel_rfl, Go.Rv.byK [(0, [0]), (1, [5, 6, 7, 8, 9]), (4, [10, 11, 12, 13]), (6, [17, 18, 19, 20, 21, 22, 23]), (7, [25, 26]), (5, [15, 16]), (8, [1, 2, 3, 27, 28, 29, 30, 31, 32, 33, 34, 35, 36, 37, 38, 39, 40, 41, 42, 43, 44, 45, 46, 47, 48])], Go.Rv.byKK [], Go.Rv.byP [(4, ([1, 2, 3, 4], [1, 2, 3]))], none, Go.Rv.m9, by kernel_rfl, by kernel_rfl⟩
/-- reeve/geo.Plain -/
theorem tie24 : Go.Rv.Tied Try.prog sig Go.Rv.tab (24, 24) := ⟨Try.f24, Try.func24, by kernel_rfl, by kernel_rfl, Go.Rv.byK [(1, [1])], Go.Rv.byKK [], Go.Rv.byP [], none, Go.Rv.m24, by kernel_rfl, by kernel_rfl⟩
/-- reeve/state.New -/
theorem tie14 : Go.Rv.Tied Try.prog sig Go.Rv.tab (14, 14) := ⟨Try.f14, Try.func14, by kernel_rfl, by kernel_rfl, Go.Rv.byK [(0, [0, 5]), (1, [1, 13, 14, 15, 16, 17]), (2, [7, 18, 19, 20, 21, 22, 23]), (3, [25]), (4, [26, 27, 28, 29, 30, 31, 32, 33]), (5, [34, 35]), (7, [39]), (8, [9, 40, 41, 42, 43, 44]), (9, [45]), (10, [6, 46, 47, 48, 49]), (11, [50, 51, 52, 53, 54, 55, 56]), (12, [57, 58]), (13, [59, 60, 61, 62, 63, 64]), (14, [65]), (16, [69]), (17, [70, 71, 72]), (18, [11, 73, 74, 75, 76, 77, 78, 79, 80, 81, 82]), (19, [12, 83, 84, 85, 86, 87, 88, 89, 90, 91]), (20, [92]), (21, [10, 93, 94, 95, 96, 97, 98]), (22, [8, 99])], Go.Rv.byKK [(4, [(0, [2, 3, 5, 6, 8]), (2, [0, 5, 6, 8]), (3, [0, 5, 6, 8]), (5, [0, 2, 3, 8]), (6, [0, 2, 3, 8]), (8, [0, 2, 3, 5, 6])]), (11, [(1, [2]), (2, [1])]), (18, [(1, [5]), (5, [1])])], Go.Rv.byP [(6, ([2, 4, 6, 8, 36, 37], [2, 4, 6, 8])), (15, ([2, 4, 8, 10, 66, 67], [4, 8, 10]))], none, Go.Rv.m14, by kernel_rfl, by kernel_rfl⟩
/-- reeve/thing.New -/
theorem tie43 : Go.Rv.Tied Try.prog sig Go.Rv.tab (43, 43) := ⟨Try.f43, Try.func43, by kernel_rfl, by kernel_rfl, Go.Rv.byK [(0, [7]), (1, [9, 10]), (2, [0]), (4, [14]), (5, [1, 15, 16]), (6, [18]), (7, [1, 2, 19, 20, 21, 22]), (8, [24]), (9, [25]), (10, [11, 26]), (3, [12]), (11, [27, 28]), (12, [30]), (13, [8, 31])], Go.Rv.byKK [], Go.Rv.byP [], none, Go.Rv.m43, by kernel_rfl, by kernel_rfl⟩
/-- reeve/thing.Good -/
theorem tie70 : Go.Rv.Tied Try.prog sig Go.Rv.tab (70, 70) := ⟨Try.f70, Try.func70, by kernel_rfl, by kernel_rfl, Go.Rv.byK [(0, [0, 2]), (1, [3, 4, 5]), (3, [7]), (4, [10]), (5, [1, 11, 12, 13, 14, 15, 16, 17, 18, 19, 20]), (6, [22]), (7, [1, 23, 24, 25, 26, 27, 28, 29, 30, 31, 32, 33, 34]), (8, [8, 36]), (9, [1, 37, 38, 39, 40, 41, 42, 43, 44])], Go.Rv.byKK [(1, [(0, [2]), (1, [2]), (2, [0, 1])]), (7, [(5, [7]), (7, [5])])], Go.Rv.byP [], none, Go.Rv.m70, by kernel_rfl, by kernel_rfl⟩
/-- reeve/thing.own -/
theorem tie82 : Go.Rv.Tied Try.prog sig Go.Rv.tab (82, 82) := ⟨Try.f82, Try.func82, by kernel_rfl, by kernel_rfl, Go.Rv.byK [(0, [0]), (1, [3]), (2, [6]), (3, [1, 7, 8, 9, 10, 11, 12, 13]), (4, [15]), (5, [1, 16, 17, 18, 19, 20, 21, 22]), (6, [24]), (7, [25, 26]), (8, [1, 28, 29, 30]), (9, [1, 31, 32, 33, 34, 35, 36, 37, 38, 39]), (10, [41]), (11, [1, 42, 43, 44, 45, 46]), (12, [4, 48]), (13, [1, 49, 50, 51, 52, 53]), (14, [54])], Go.Rv.byKK [], Go.Rv.byP [], none, Go.Rv.m82, by kernel_rfl, by kernel_rfl⟩
/-- reeve/thing.in -/
theorem tie83 : Go.Rv.Tied Try.prog sig Go.Rv.tab (83, 83) := ⟨Try.f83, Try.func83, by kernel_rfl, by kernel_rfl, Go.Rv.byK [(0, [6]), (1, [0, 1, 2, 7, 8, 9, 10, 11, 12, 13, 14])], Go.Rv.byKK [], Go.Rv.byP [], none, Go.Rv.m83, by kernel_rfl, by kernel_rfl⟩
/-- reeve/geo.Good -/
theorem tie15 : Go.Rv.Tied Try.prog sig Go.Rv.tab (15, 15) := ⟨Try.f15, Try.func15, by kernel_rfl, by kernel_rfl, Go.Rv.byK [(0, [0, 2]), (1, [1, 3, 4, 5, 6, 7, 8, 9, 10, 11, 12, 13, 14, 15, 16, 17, 18, 19, 20, 21, 22, 23, 24, 25, 26, 27])], Go.Rv.byKK [], Go.Rv.byP [], none, Go.Rv.m15, by kernel_rfl, by kernel_rfl⟩
/-- reeve/geo.in -/
theorem tie44 : Go.Rv.Tied Try.prog sig Go.Rv.tab (44, 44) := ⟨Try.f44, Try.func44, by kernel_rfl, by kernel_rfl, Go.Rv.byK [(0, [6]), (1, [0, 1, 2, 7, 8, 9, 10, 11, 12, 13, 14])], Go.Rv.byKK [], Go.Rv.byP [], none, Go.Rv.m44, by kernel_rfl, by kernel_rfl⟩
/-- reeve/geo.Root -/
theorem tie16 : Go.Rv.Tied Try.prog sig Go.Rv.tab (16, 16) := ⟨Try.f16, Try.func16, by kernel_rfl, by kernel_rfl, Go.Rv.byK [(0, [0, 4]), (1, [2, 5, 6, 7, 8, 9, 10, 11, 12, 13, 14]), (3, [1, 16, 17])], Go.Rv.byKK [], Go.Rv.byP [], none, Go.Rv.m16, by kernel_rfl, by kernel_rfl⟩
/-- reeve/cap.None -/
theorem tie12 : Go.Rv.Tied Try.prog sig Go.Rv.tab (12, 12) := ⟨Try.f12, Try.func12, by kernel_rfl, by kernel_rfl, Go.Rv.byK [(0, [0, 2]), (1, [1, 3, 4, 5])], Go.Rv.byKK [], Go.Rv.byP [], none, Go.Rv.m12, by kernel_rfl, by kernel_rfl⟩
/-- reeve/state.Good -/
theorem tie11 : Go.Rv.Tied Try.prog sig Go.Rv.tab (11, 11) := ⟨Try.f11, Try.func11, by kernel_rfl, by kernel_rfl, Go.Rv.byK [(0, [0, 2]), (1, [3, 4, 5, 6, 7, 8, 9, 10, 11, 12, 13, 14, 15, 16, 17, 18, 19, 20, 21, 22, 23]), (3, [1, 25, 26, 27, 28, 29, 30, 31, 32, 33, 34, 35, 36, 37, 38, 39, 40, 41, 42, 43, 44, 45, 46, 47, 48])], Go.Rv.byKK [], Go.Rv.byP [], none, Go.Rv.m11, by kernel_rfl, by kernel_rfl⟩
/-- (reeve/state.State).caps -/
theorem tie37 : Go.Rv.Tied Try.prog sig Go.Rv.tab (37, 37) := ⟨Try.f37, Try.func37, by kernel_rfl, by kernel_rfl, Go.Rv.byK [(0, [0, 2]), (1, [6]), (3, [11, 12]), (4, [13, 14]), (5, [16, 17, 18]), (7, [20, 21, 22, 23, 24, 25, 26]), (8, [4, 27, 28, 29, 30, 31, 32, 33, 34]), (10, [5, 36, 37, 38, 39, 40, 41, 42, 43, 44, 45, 46, 47, 48, 49, 50, 51, 52, 53, 54, 55, 56, 57]), (12, [58])], Go.Rv.byKK [(10, [(4, [6]), (6, [4]), (11, [13, 18]), (13, [11, 18]), (16, [18]), (18, [11, 13, 16])])], Go.Rv.byP [(2, ([1, 7, 8, 9], [2]))], none, Go.Rv.m37, by kernel_rfl, by kernel_rfl⟩
/-- reeve/cap.Good -/
theorem tie68 : Go.Rv.Tied Try.prog sig Go.Rv.tab (68, 68) := ⟨Try.f68, Try.func68, by kernel_rfl, by kernel_rfl, Go.Rv.byK [(0, [0, 2]), (1, [3]), (3, [1, 5, 6, 7, 8, 9, 10, 11, 12, 13, 14, 15, 16, 17, 18, 19, 20, 21, 22, 23, 24, 25, 26, 27, 28, 29, 30, 31, 32])], Go.Rv.byKK [], Go.Rv.byP [], none, Go.Rv.m68, by kernel_rfl, by kernel_rfl⟩
/-- reeve/cap.in -/
theorem tie78 : Go.Rv.Tied Try.prog sig Go.Rv.tab (78, 78) := ⟨Try.f78, Try.func78, by kernel_rfl, by kernel_rfl, Go.Rv.byK [(0, [6]), (1, [0, 1, 2, 7, 8, 9, 10, 11, 12, 13, 14])], Go.Rv.byKK [], Go.Rv.byP [], none, Go.Rv.m78, by kernel_rfl, by kernel_rfl⟩
/-- reeve/right.Good -/
theorem tie79 : Go.Rv.Tied Try.prog sig Go.Rv.tab (79, 79) := ⟨Try.f79, Try.func79, by kernel_rfl, by kernel_rfl, Go.Rv.byK [(0, [2]), (1, [0, 3, 4, 5, 6, 7, 8])], Go.Rv.byKK [], Go.Rv.byP [], none, Go.Rv.m79, by kernel_rfl, by kernel_rfl⟩
/-- reeve/right.Badge -/
theorem tie80 : Go.Rv.Tied Try.prog sig Go.Rv.tab (80, 80) := ⟨Try.f80, Try.func80, by kernel_rfl, by kernel_rfl, Go.Rv.byK [(0, [2]), (1, [0, 3, 4, 5, 6, 7, 8])], Go.Rv.byKK [], Go.Rv.byP [], none, Go.Rv.m80, by kernel_rfl, by kernel_rfl⟩
/-- reeve/cap.badged -/
theorem tie81 : Go.Rv.Tied Try.prog sig Go.Rv.tab (81, 81) := ⟨Try.f81, Try.func81, by kernel_rfl, by kernel_rfl, Go.Rv.byK [(0, [2]), (1, [0, 3, 4, 5, 6, 7, 8])], Go.Rv.byKK [], Go.Rv.byP [], none, Go.Rv.m81, by kernel_rfl, by kernel_rfl⟩
/-- (reeve/state.State).there -/
theorem tie69 : Go.Rv.Tied Try.prog sig Go.Rv.tab (69, 69) := ⟨Try.f69, Try.func69, by kernel_rfl, by kernel_rfl, Go.Rv.byK [(0, [0, 4]), (1, [1, 2, 5, 6, 7, 8, 9, 10, 11, 12, 13, 14, 15, 16, 17, 18, 19, 20, 21, 22])], Go.Rv.byKK [], Go.Rv.byP [], none, Go.Rv.m69, by kernel_rfl, by kernel_rfl⟩
/-- (reeve/state.State).things -/
theorem tie38 : Go.Rv.Tied Try.prog sig Go.Rv.tab (38, 38) := ⟨Try.f38, Try.func38, by kernel_rfl, by kernel_rfl, Go.Rv.byK [(0, [0, 2]), (1, [6]), (3, [11, 12, 13]), (4, [14, 15]), (6, [17, 18, 19, 20, 21, 22, 23, 24, 25, 26, 27, 28, 29, 30, 31, 32, 33, 34, 35, 36, 37]), (8, [39, 40, 41, 42, 43, 44, 45, 46, 47, 48]), (9, [49, 50, 51, 52, 53, 54, 55, 56, 57, 58]), (11, [3, 4, 5, 60, 61, 62, 63, 64, 65, 66, 67, 68, 69, 70, 71, 72]), (13, [74])], Go.Rv.byKK [(9, [(2, [4, 7]), (4, [2]), (7, [2])])], Go.Rv.byP [(2, ([1, 7, 8, 9], [2]))], none, Go.Rv.m38, by kernel_rfl, by kernel_rfl⟩
/-- (reeve/state.State).holders -/
theorem tie42 : Go.Rv.Tied Try.prog sig Go.Rv.tab (42, 42) := ⟨Try.f42, Try.func42, by kernel_rfl, by kernel_rfl, Go.Rv.byK [(0, [0, 4]), (2, [2, 8]), (4, [13, 14, 15]), (5, [7, 16, 17, 18, 19, 20, 21, 22, 23, 24, 25]), (6, [6, 27, 28, 29, 30]), (7, [31]), (8, [5, 32])], Go.Rv.byKK [], Go.Rv.byP [(3, ([1, 5, 9, 10, 11], [5]))], none, Go.Rv.m42, by kernel_rfl, by kernel_rfl⟩
/-- (reeve/state.State).nodes -/
theorem tie39 : Go.Rv.Tied Try.prog sig Go.Rv.tab (39, 39) := ⟨Try.f39, Try.func39, by kernel_rfl, by kernel_rfl, Go.Rv.byK [(0, [0, 2]), (1, [10, 11, 12, 13]), (2, [14]), (4, [19, 20]), (5, [21, 22]), (6, [24, 25]), (8, [29]), (9, [6, 30, 31, 32, 33]), (10, [34, 35, 36, 37, 38, 39, 40, 41, 42]), (12, [7, 44, 45, 46]), (13, [47]), (14, [48]), (15, [1, 49]), (17, [54, 55, 56]), (18, [8, 9, 57, 58, 59, 60, 61, 62, 63, 64, 65, 66]), (20, [68])], Go.Rv.byKK [], Go.Rv.byP [(3, ([1, 3, 15, 16, 17], [1, 2, 3])), (7, ([1, 3, 5, 15, 16, 17, 26, 27], [1, 2, 3, 15, 16, 17])), (16, ([3, 50, 51, 52], [2]))], none, Go.Rv.m39, by kernel_rfl, by kernel_rfl⟩
/-- (reeve/state.State).ring -/
theorem tie40 : Go.Rv.Tied Try.prog sig Go.Rv.tab (40, 40) := ⟨Try.f40, Try.func40, by kernel_rfl, by kernel_rfl, Go.Rv.byK [(0, [0, 2]), (1, [5]), (3, [10, 11, 12]), (4, [3, 4, 13, 14, 15, 16, 17, 18, 19, 20, 21, 22, 23]), (6, [25])], Go.Rv.byKK [], Go.Rv.byP [(2, ([1, 6, 7, 8], [2]))], none, Go.Rv.m40, by kernel_rfl, by kernel_rfl⟩
/-- (reeve/state.State).inside -/
theorem tie54 : Go.Rv.Tied Try.prog sig Go.Rv.tab (54, 54) := ⟨Try.f54, Try.func54, by kernel_rfl, by kernel_rfl, Go.Rv.byK [(0, [0, 6]), (1, [8, 9, 10, 11, 12, 13, 14, 15, 16, 17, 18, 19]), (3, [21]), (4, [1, 22, 23, 24, 25]), (5, [2, 3, 7, 26, 27, 28, 29, 30])], Go.Rv.byKK [], Go.Rv.byP [], none, Go.Rv.m54, by kernel_rfl, by kernel_rfl⟩
/-- reeve/state.within -/
theorem tie74 : Go.Rv.Tied Try.prog sig Go.Rv.tab (74, 74) := ⟨Try.f74, Try.func74, by kernel_rfl, by kernel_rfl, Go.Rv.byK [(0, [0]), (1, [8, 9]), (2, [11, 12]), (3, [13]), (5, [18, 19, 20]), (6, [6, 21, 22, 23, 24, 25, 26, 27, 28, 29, 30, 31, 32, 33, 34, 35, 36, 37, 38, 39]), (7, [7, 41, 42, 43, 44, 45, 46]), (8, [47])], Go.Rv.byKK [], Go.Rv.byP [(4, ([1, 2, 3, 14, 15, 16], []))], none, Go.Rv.m74, by kernel_rfl, by kernel_rfl⟩
/-- reeve/state.has -/
theorem tie73 : Go.Rv.Tied Try.prog sig Go.Rv.tab (73, 73) := ⟨Try.f73, Try.func73, by kernel_rfl, by kernel_rfl, Go.Rv.byK [(0, [0, 4]), (1, [1, 2, 5, 6, 7, 8, 9, 10, 11, 12, 13, 14, 15, 16, 17, 18, 19, 20, 21, 22, 23])], Go.Rv.byKK [(1, [(12, [14]), (14, [12])])], Go.Rv.byP [], none, Go.Rv.m73, by kernel_rfl, by kernel_rfl⟩
/-- (reeve/state.State).owner -/
theorem tie45 : Go.Rv.Tied Try.prog sig Go.Rv.tab (45, 45) := ⟨Try.f45, Try.func45, by kernel_rfl, by kernel_rfl, Go.Rv.byK [(0, [0, 1, 4]), (1, [2, 3, 5, 6, 7, 8])], Go.Rv.byKK [], Go.Rv.byP [], none, Go.Rv.m45, by kernel_rfl, by kernel_rfl⟩
/-- slices.IndexFunc[[]reeve/thing.Thing,reeve/thing.Thing] -/
theorem tie46 : Go.Rv.Tied Try.prog sig Go.Rv.tab (46, 46) := ⟨Try.f46, Try.func46, by kernel_rfl, by kernel_rfl, Go.Rv.byK [(0, [4]), (1, [6]), (3, [10]), (4, [11, 12, 13, 14, 15]), (5, [5, 17]), (6, [18])], Go.Rv.byKK [], Go.Rv.byP [(2, ([0, 1, 7, 8], [4]))], none, Go.Rv.m46, by kernel_rfl, by kernel_rfl⟩
/-- (reeve/state.State).owner$1 -/
theorem tie72 : Go.Rv.Tied Try.prog sig Go.Rv.tab (72, 72) := ⟨Try.f72, Try.func72, by kernel_rfl, by kernel_rfl, Go.Rv.byK [(0, [0, 3]), (1, [1, 2, 4, 5, 6])], Go.Rv.byKK [], Go.Rv.byP [], none, Go.Rv.m72, by kernel_rfl, by kernel_rfl⟩
/-- reeve/state.Forest -/
theorem tie25 : Go.Rv.Tied Try.prog sig Go.Rv.tab (25, 25) := ⟨Try.f25, Try.func25, by kernel_rfl, by kernel_rfl, Go.Rv.byK [(0, [0]), (2, [1, 6]), (4, [11, 12]), (5, [13, 14]), (6, [16]), (7, [5, 17, 18, 19, 20, 21, 22, 23]), (8, [24]), (9, [3, 25])], Go.Rv.byKK [], Go.Rv.byP [(3, ([2, 3, 7, 8, 9], [2, 3]))], none, Go.Rv.m25, by kernel_rfl, by kernel_rfl⟩
/-- reeve/forest.Good -/
theorem tie27 : Go.Rv.Tied Try.prog sig Go.Rv.tab (27, 27) := ⟨Try.f27, Try.func27, by kernel_rfl, by kernel_rfl, Go.Rv.byK [(0, [0, 2]), (1, [8, 9, 10]), (3, [12]), (5, [17, 18]), (6, [4, 19, 20, 21, 22, 23, 24, 25, 26, 27, 28, 29]), (8, [31]), (9, [32, 33]), (11, [37]), (13, [5, 38]), (14, [39, 40]), (16, [47, 48, 49, 50]), (18, [52, 53]), (15, [42, 43, 44, 45, 46]), (19, [54])], Go.Rv.byKK [], Go.Rv.byP [(4, ([1, 13, 14, 15], [1, 2])), (10, ([1, 34, 35], [2])), (14, ([1, 6, 7, 34, 35], [1, 2, 34, 35]))], none, Go.Rv.m27, by kernel_rfl, by kernel_rfl⟩
/-- (reeve/state.State).allowed -/
theorem tie41 : Go.Rv.Tied Try.prog sig Go.Rv.tab (41, 41) := ⟨Try.f41, Try.func41, by kernel_rfl, by kernel_rfl, Go.Rv.byK [(0, [0, 2]), (1, [7]), (3, [12, 13]), (4, [14, 15]), (5, [16, 17]), (7, [21]), (8, [5, 23, 24, 25, 26, 27]), (9, [28, 29, 30, 31, 32, 33, 34, 35, 36, 37, 38, 39, 40, 41, 42, 43, 44, 45, 46, 47]), (11, [6, 49, 50]), (12, [51]), (13, [52])], Go.Rv.byKK [], Go.Rv.byP [(2, ([1, 8, 9, 10], [2])), (6, ([1, 4, 5, 8, 9, 10, 18, 19], [1, 2, 8, 9, 10]))], none, Go.Rv.m41, by kernel_rfl, by kernel_rfl⟩
/-- reeve/cap.Less -/
theorem tie71 : Go.Rv.Tied Try.prog sig Go.Rv.tab (71, 71) := ⟨Try.f71, Try.func71, by kernel_rfl, by kernel_rfl, Go.Rv.byK [(0, [0, 1, 4]), (1, [5]), (3, [2, 3, 7, 8, 9, 10, 11, 12, 13, 14, 15, 16, 17, 18, 19, 20, 21, 22, 23, 24, 25, 26, 27, 28, 29, 30, 31, 32, 33, 34, 35, 36, 37])], Go.Rv.byKK [], Go.Rv.byP [], none, Go.Rv.m71, by kernel_rfl, by kernel_rfl⟩
/-- reeve/right.Within -/
theorem tie84 : Go.Rv.Tied Try.prog sig Go.Rv.tab (84, 84) := ⟨Try.f84, Try.func84, by kernel_rfl, by kernel_rfl, Go.Rv.byK [(0, [4]), (1, [0, 1, 5, 6, 7, 8])], Go.Rv.byKK [], Go.Rv.byP [], none, Go.Rv.m84, by kernel_rfl, by kernel_rfl⟩
/-- reeve/right.Less -/
theorem tie86 : Go.Rv.Tied Try.prog sig Go.Rv.tab (86, 86) := ⟨Try.f86, Try.func86, by kernel_rfl, by kernel_rfl, Go.Rv.byK [(0, [4]), (1, [0, 1, 5, 6, 7, 8, 9])], Go.Rv.byKK [], Go.Rv.byP [], none, Go.Rv.m86, by kernel_rfl, by kernel_rfl⟩
/-- reeve/right.of -/
theorem tie89 : Go.Rv.Tied Try.prog sig Go.Rv.tab (89, 89) := ⟨Try.f89, Try.func89, by kernel_rfl, by kernel_rfl, Go.Rv.byK [(0, [2]), (1, [3, 4]), (3, [0, 6])], Go.Rv.byKK [], Go.Rv.byP [], none, Go.Rv.m89, by kernel_rfl, by kernel_rfl⟩
/-- (reeve/forest.Forest).is -/
theorem tie53 : Go.Rv.Tied Try.prog sig Go.Rv.tab (53, 53) := ⟨Try.f53, Try.func53, by kernel_rfl, by kernel_rfl, Go.Rv.byK [(0, [0, 4]), (1, [1, 2, 5, 6, 7, 8, 9, 10, 11, 12, 13, 14, 15, 16, 17, 18, 19, 20, 21])], Go.Rv.byKK [], Go.Rv.byP [], none, Go.Rv.m53, by kernel_rfl, by kernel_rfl⟩
/-- reeve/reevelaw12.StateSame -/
theorem tie6 : Go.Rv.Tied Try.prog sig Go.Rv.tab (6, 6) := ⟨Try.f6, Try.func6, by kernel_rfl, by kernel_rfl, Go.Rv.byK [(0, [0, 1, 6]), (1, [9]), (3, [11, 12, 13, 14, 15]), (5, [4, 17, 18, 19, 20, 21, 22, 23, 24]), (7, [26, 27]), (8, [28, 29, 30, 31, 32, 33, 34, 35, 36, 37, 38, 39, 40, 41, 42]), (9, [3, 7, 44, 45, 46]), (10, [47, 48, 49, 50, 51]), (11, [52, 53, 54, 55, 56, 57, 58, 59, 60, 61, 62, 63]), (12, [2, 3, 7, 8, 64, 65, 66, 67, 68, 69, 70, 71, 72, 73, 74, 75, 76])], Go.Rv.byKK [(5, [(0, [1, 3, 5]), (1, [0, 3, 5]), (2, [3, 5]), (3, [0, 1, 2, 5]), (4, [5]), (5, [0, 1, 2, 3, 4])]), (11, [(1, [4, 8]), (4, [1]), (8, [1])]), (12, [(1, [5]), (4, [5]), (5, [1, 4]), (8, [9]), (9, [8])])], Go.Rv.byP [], none, Go.Rv.m6, by kernel_rfl, by kernel_rfl⟩
/-- reeve/reevelaw12.heavy -/
theorem tie10 : Go.Rv.Tied Try.prog sig Go.Rv.tab (10, 10) := ⟨Try.f10, Try.func10, by kernel_rfl, by kernel_rfl, Go.Rv.byK [(0, [0, 2]), (1, [1, 3, 4, 5, 6, 7, 8, 9, 10, 11, 12])], Go.Rv.byKK [], Go.Rv.byP [], none, Go.Rv.m10, by kernel_rfl, by kernel_rfl⟩
/-- reeve/state.Same -/
theorem tie20 : Go.Rv.Tied Try.prog sig Go.Rv.tab (20, 20) := ⟨Try.f20, Try.func20, by kernel_rfl, by kernel_rfl, Go.Rv.byK [(0, [0, 1, 4]), (1, [2, 3, 5, 6, 7, 8, 9, 10, 11, 12, 13, 14, 15, 16, 17, 18, 19, 20, 21, 22, 23])], Go.Rv.byKK [], Go.Rv.byP [], none, Go.Rv.m20, by kernel_rfl, by kernel_rfl⟩
/-- slices.Equal[[]reeve/state.Slot,reeve/state.Slot] -/
theorem tie48 : Go.Rv.Tied Try.prog sig Go.Rv.tab (48, 48) := ⟨Try.f48, Try.func48, by kernel_rfl, by kernel_rfl, Go.Rv.byK [(0, [4]), (1, [6, 7, 8, 9]), (3, [11]), (5, [15]), (6, [5, 16, 17, 18, 19, 20, 21, 22, 23]), (8, [25])], Go.Rv.byKK [(6, [(3, [7]), (7, [3])])], Go.Rv.byP [(4, ([0, 1, 12, 13], [4]))], none, Go.Rv.m48, by kernel_rfl, by kernel_rfl⟩
/-- slices.Equal[[]reeve/thing.Thing,reeve/thing.Thing] -/
theorem tie49 : Go.Rv.Tied Try.prog sig Go.Rv.tab (49, 49) := ⟨Try.f49, Try.func49, by kernel_rfl, by kernel_rfl, Go.Rv.byK [(0, [4]), (1, [6, 7, 8, 9]), (3, [11]), (5, [15]), (6, [5, 16, 17, 18, 19, 20, 21, 22, 23]), (8, [25])], Go.Rv.byKK [(6, [(3, [7]), (7, [3])])], Go.Rv.byP [(4, ([0, 1, 12, 13], [4]))], none, Go.Rv.m49, by kernel_rfl, by kernel_rfl⟩
/-- reeve/reevelaw12.ownOf -/
theorem tie22 : Go.Rv.Tied Try.prog sig Go.Rv.tab (22, 22) := ⟨Try.f22, Try.func22, by kernel_rfl, by kernel_rfl, Go.Rv.byK [(0, [0]), (1, [7, 8, 9, 10, 11, 12, 13, 14, 15, 16, 17]), (3, [18, 19, 20, 21]), (5, [25, 26, 27, 28, 29, 30]), (6, [5, 31, 32, 33, 34, 35, 36, 37, 38, 39, 40, 41, 42, 43, 44, 45, 46, 47, 48, 49, 50, 51]), (4, [23, 24]), (8, [52, 53, 54, 55]), (10, [59, 60, 61, 62, 63, 64, 65, 66, 67, 68, 69]), (9, [57, 58]), (11, [3, 70])], Go.Rv.byKK [(6, [(1, [3, 5, 7, 9, 12, 16, 18]), (3, [1, 5, 7, 9, 12, 16]), (5, [1, 3, 7, 9, 12, 16]), (7, [1, 3, 5, 9, 12, 16]), (9, [1, 3, 5, 7, 12, 16]), (12, [1, 3, 5, 7, 9]), (16, [1, 3, 5, 7, 9]), (18, [1])]), (10, [(1, [3, 6, 7, 8]), (3, [1]), (6, [1]), (7, [1]), (8, [1])])], Go.Rv.byP [(3, ([1, 2, 3, 4], [1, 2, 3])), (8, ([1, 2, 3, 6], [2, 3]))], some [[0, 0, 0, 5, 13]], Go.Rv.m22, by kernel_rfl, by kernel_rfl⟩
/-- reeve/reevelaw12.thingOf -/
theorem tie50 : Go.Rv.Tied Try.prog sig Go.Rv.tab (50, 50) := ⟨Try.f50, Try.func50, by kernel_rfl, by kernel_rfl, Go.Rv.byK [(0, [0]), (1, [1, 3, 4, 5, 6, 7, 8, 9, 10, 11, 12, 13, 14, 15, 16, 17, 18, 19, 20, 21, 22, 23])], Go.Rv.byKK [], Go.Rv.byP [], none, Go.Rv.m50, by kernel_rfl, by kernel_rfl⟩
/-- reeve/reeveref11.Same -/
theorem tie21 : Go.Rv.Tied Try.prog sig Go.Rv.tab (21, 21) := ⟨Try.f21, Try.func21, by kernel_rfl, by kernel_rfl, Go.Rv.byK [(0, [0, 1, 4]), (1, [7, 8, 9, 10, 11, 12, 13, 14, 15, 16, 17, 18, 19, 20, 21, 22, 23, 24, 25, 26, 27, 28]), (4, [30, 31, 32, 33]), (6, [37, 38, 39, 40, 41, 42, 43, 44, 45, 46]), (5, [35, 36]), (9, [48, 49, 50, 51]), (11, [55, 56, 57, 58, 59, 60, 61, 62, 63, 64]), (10, [53, 54])], Go.Rv.byKK [(6, [(1, [6, 9]), (4, [6, 9]), (6, [1, 4]), (9, [1, 4])]), (11, [(1, [6, 9]), (4, [6, 9]), (6, [1, 4]), (9, [1, 4])])], Go.Rv.byP [(4, ([2, 3, 5], [2, 3, 4])), (9, ([2, 3, 6], [4]))], none, Go.Rv.m21, by kernel_rfl, by kernel_rfl⟩
/-- reeve/state.Clone -/
theorem tie23 : Go.Rv.Tied Try.prog sig Go.Rv.tab (23, 23) := ⟨Try.f23, Try.func23, by kernel_rfl, by kernel_rfl, Go.Rv.byK [(0, [0]), (1, [1, 3, 4, 5, 6, 7, 8, 9, 10, 11])], Go.Rv.byKK [(1, [(1, [3, 4, 6, 7]), (3, [1, 6]), (4, [1, 6]), (6, [1, 3, 4]), (7, [1])])], Go.Rv.byP [], none, Go.Rv.m23, by kernel_rfl, by kernel_rfl⟩
/-- slices.Clone[[]reeve/state.Slot,reeve/state.Slot] -/
theorem tie51 : Go.Rv.Tied Try.prog sig Go.Rv.tab (51, 51) := ⟨Try.f51, Try.func51, by kernel_rfl, by kernel_rfl, Go.Rv.byK [(0, [2]), (1, [3]), (3, [0, 5, 6, 7])], Go.Rv.byKK [], Go.Rv.byP [], none, Go.Rv.m51, by kernel_rfl, by kernel_rfl⟩
/-- slices.Clone[[]reeve/thing.Thing,reeve/thing.Thing] -/
theorem tie52 : Go.Rv.Tied Try.prog sig Go.Rv.tab (52, 52) := ⟨Try.f52, Try.func52, by kernel_rfl, by kernel_rfl, Go.Rv.byK [(0, [2]), (1, [3]), (3, [0, 5, 6, 7])], Go.Rv.byKK [], Go.Rv.byP [], none, Go.Rv.m52, by kernel_rfl, by kernel_rfl⟩
theorem ties : ∀ p ∈ sigL, Go.Rv.Tied Try.prog sig Go.Rv.tab p := List.forall_mem_cons.2 ⟨tie9, List.forall_mem_cons.2 ⟨tie24, List.forall_mem_cons.2 ⟨tie14, List.forall_mem_cons.2 ⟨tie43, List.forall_mem_cons.2 ⟨tie70, List.forall_mem_cons.2 ⟨tie82, List.forall_mem_cons.2 ⟨tie83, List.forall_mem_cons.2 ⟨tie15, List.forall_mem_cons.2 ⟨tie44, List.forall_mem_cons.2 ⟨tie16, List.forall_mem_cons.2 ⟨tie12, List.forall_mem_cons.2 ⟨tie11, List.forall_mem_cons.2 ⟨tie37, List.forall_mem_cons.2 ⟨tie68, List.forall_mem_cons.2 ⟨tie78, List.forall_mem_cons.2 ⟨tie79, List.forall_mem_cons.2 ⟨tie80, List.forall_mem_cons.2 ⟨tie81, List.forall_mem_cons.2 ⟨tie69, List.forall_mem_cons.2 ⟨tie38, List.forall_mem_cons.2 ⟨tie42, List.forall_mem_cons.2 ⟨tie39, List.forall_mem_cons.2 ⟨tie40, List.forall_mem_cons.2 ⟨tie54, List.forall_mem_cons.2 ⟨tie74, List.forall_mem_cons.2 ⟨tie73, List.forall_mem_cons.2 ⟨tie45, List.forall_mem_cons.2 ⟨tie46, List.forall_mem_cons.2 ⟨tie72, List.forall_mem_cons.2 ⟨tie25, List.forall_mem_cons.2 ⟨tie27, List.forall_mem_cons.2 ⟨tie41, List.forall_mem_cons.2 ⟨tie71, List.forall_mem_cons.2 ⟨tie84, List.forall_mem_cons.2 ⟨tie86, List.forall_mem_cons.2 ⟨tie89, List.forall_mem_cons.2 ⟨tie53, List.forall_mem_cons.2 ⟨tie6, List.forall_mem_cons.2 ⟨tie10, List.forall_mem_cons.2 ⟨tie20, List.forall_mem_cons.2 ⟨tie48, List.forall_mem_cons.2 ⟨tie49, List.forall_mem_cons.2 ⟨tie22, List.forall_mem_cons.2 ⟨tie50, List.forall_mem_cons.2 ⟨tie21, List.forall_mem_cons.2 ⟨tie23, List.forall_mem_cons.2 ⟨tie51, List.forall_mem_cons.2 ⟨tie52, (fun _ h => nomatch h)⟩⟩⟩⟩⟩⟩⟩⟩⟩⟩⟩⟩⟩⟩⟩⟩⟩⟩⟩⟩⟩⟩⟩⟩⟩⟩⟩⟩⟩⟩⟩⟩⟩⟩⟩⟩⟩⟩⟩⟩⟩⟩⟩⟩⟩⟩⟩⟩

theorem Try.own : ownKnob Try.prog.godebug = none := by kernel_rfl
theorem Try.laidOut : laidOutB Try.prog = true := by kernel_rfl
theorem Try.mixed : Try.prog.follows .mixedOrders = true := by kernel_rfl

set_option maxRecDepth 100000 in
theorem stateSame_lifted (os : Os) (started : os.Started) (H : Type) (enc : TypeId × Value → H) :
    ReturnsInHanded {} Try.checked os 6 .any (Rows.stateSameSpec.pre6 enc Try.prog Try.f6 Rows.stateSameRow.domain false) (Rows.stateSameSpec.post enc Try.prog Try.f6 false true false false) := by
  refine returnsInHanded_of_change (C := Try.checked) Try.own started (by kernel_rfl) Try.func6
    (ChangeSpec.witness6 (enc := enc) (C := Try.checked) false ⟨#[], #[.agg #[.int .i64 0, .int .i64 0, .int .i64 0, .slice none 0 0, .slice none 0 0], .agg #[.int .i64 0, .int .i64 0, .int .i64 0, .slice none 0 0, .slice none 0 0], .int .i64 0], []⟩ 8 (by kernel_rfl) (by kernel_rfl) (by kernel_rfl) (by kernel_rfl)) ?_
  intro W base args ds gs before hval hW _ _
  exact Go.Rv.law_contract (P := Try.prog) (σ := sig) (n := 8) Try.mixed Try.laidOut (Go.Rv.sigOK_of ties) (Go.Rv.tabOK_of ties) (k := 6) (g := 6) (by kernel_rfl) (fn := Try.f6)
    (by rw [Try.params6]; exact fun t ht => (by simp at ht; rcases ht with rfl | rfl <;> exact ⟨by kernel_rfl, by kernel_rfl, of_decide_eq_true (by kernel_rfl)⟩)) (tb := 4) (by kernel_rfl) (by kernel_rfl) rfl
    (fun H ds hd => by
      rw [Try.params6] at hd
      match ds, hd with
      | [d1, d2, d3], _ => rfl)
    (fun xs hx => by
      rw [Try.params6] at hx
      cases xs with
      | nil => exact hx.elim
      | cons x r => cases r with
        | nil => exact hx.2.elim
        | cons x2 r2 => cases r2 with
          | nil => exact hx.2.2.elim
          | cons x3 r3 => cases r3 with
            | nil =>
              obtain ⟨a, b, c, x, y, z, w, S, T, rfl, _, _, _, h1, h2⟩ := Go.Rv.state_of (P := Try.prog) (n := 8) hx.1 (by kernel_rfl) (by kernel_rfl)
              obtain ⟨a', b', c', x', y', z', w', S', T', rfl, _⟩ := Go.Rv.state_of (P := Try.prog) (n := 8) hx.2.1 (by kernel_rfl) (by kernel_rfl)
              obtain ⟨k, rfl, _⟩ := Go.Rv.AlT_int (Go.Rv.TyArg_one (P := Try.prog) (n := 8) (ts := [.c (.i .i64)]) hx.2.2.1 (by kernel_rfl) (by kernel_rfl))
              exact ⟨_, Go.Rv.same_L a b c x y z w S T h1 h2 a' b' c' x' y' z' w' S' T' k, rfl⟩
            | cons => exact hx.2.2.2.elim) W base args ds gs before hval hW

theorem stateSame_holds : Rows.StateSameSaid :=
  OpenClaim.holds_of_wide 6 Try.f6 rfl rfl rfl rfl rfl rfl rfl ⟨rfl, rfl, rfl, rfl, rfl⟩ rfl rfl rfl rfl rfl (by kernel_rfl) Try.func6 (by kernel_rfl)
    (of_decide_eq_true (by kernel_rfl)) (by unfold Func.isWrapper; rw [if_neg (by decide +kernel)]; exact ⟨rfl, rfl⟩)
    (fun os started H enc _ => stateSame_lifted os started H enc)
end Go.Proofs.Ytcjpmmbenlbndaa
