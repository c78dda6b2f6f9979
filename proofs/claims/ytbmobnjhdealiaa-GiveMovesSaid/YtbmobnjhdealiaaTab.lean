/- the functions' code -/
import Derived.Test.YtbmobnjhdealiaaEvC
import Derived.Test.YtbmobnjhdealiaaEvA
namespace Go.Rv
def m16 : MF := .code 0 (
 .seq (
 .reg [
 ⟨(some 0), .mv (.k (.b false)), none, []⟩] false [0]) (
 .seq (
 .reg [
 ⟨(some 4), .call 18 [], none, []⟩,
 ⟨(some 5), .bsl [.i .i64 0] 1 [(0, (.k (.i .i64 1)))], none, []⟩,
 ⟨(some 6), .call 19 [(.t 5)], none, []⟩,
 ⟨(some 7), .bsl [.i .i64 0] 1 [(0, (.k (.i .i64 2)))], none, []⟩,
 ⟨(some 8), .call 19 [(.t 7)], none, []⟩,
 ⟨(some 9), .build [.i .i64 0, .lst true true 0 [], .lst true true 0 [], .i .i64 0, .i .i64 0, .i .u64 0] [(0, 1, (.k (.i .i64 2))), (1, 1, (.t 6)), (2, 1, (.t 8)), (3, 1, (.k (.i .i64 1)))], none, []⟩,
 ⟨(some 10), .call 17 [(.t 4), (.k (.i .i64 0)), (.t 9)], none, []⟩,
 ⟨(some 3), .mv (.t 10), none, []⟩,
 ⟨(some 11), .ext (.t 3) 0, none, []⟩,
 ⟨(some 12), .ext (.t 3) 1, none, []⟩,
 ⟨(some 1), .alloc [.i .i64 0, .i .i64 0, .i .i64 0, .lst true true 0 [], .lst true true 0 []], none, []⟩,
 ⟨(some 2), .alloc [.i .i64 0, .i .u64 0, .i .i64 0], none, []⟩,
 ⟨none, .store 5 (.t 1) (.t 11), none, []⟩,
 ⟨none, .store 3 (.t 2) (.t 12), none, []⟩] false [3, 4, 5, 6, 7, 8, 9, 10, 11, 12]) (
 .seq (
 .reg [
 ⟨(some 13), .load true 3 (.t 2), none, []⟩,
 ⟨(some 14), .build [.i .i64 0, .i .u64 0, .i .i64 0] [], none, []⟩,
 ⟨(some 15), .eq false true [.i, .i, .i] (.t 13) (.t 14), none, []⟩,
 ⟨(some 16), .mv (.t 15), none, []⟩,
 ⟨(some 17), .faddr 3 (.t 1), (some (16, true)), []⟩,
 ⟨(some 18), .load false 1 (.t 17), (some (16, true)), []⟩,
 ⟨(some 19), .len false (.t 18), (some (16, true)), []⟩,
 ⟨(some 20), .bin .eql (.t 19) (.k (.i .i64 32)), (some (16, true)), []⟩,
 ⟨(some 21), .pick (.t 16) (.t 20) (.k (.b false)), none, []⟩,
 ⟨(some 22), .mv (.t 21), none, []⟩,
 ⟨(some 23), .faddr 3 (.t 1), (some (22, true)), []⟩,
 ⟨(some 24), .load false 1 (.t 23), (some (22, true)), []⟩,
 ⟨(some 25), .iaddr 5 (.t 24) (.k (.i .i64 2)), (some (22, true)), []⟩,
 ⟨(some 26), .load true 5 (.t 25), (some (22, true)), []⟩,
 ⟨(some 27), .build [.i .i64 0, .i .i64 0, .i .i64 0, .i .i64 0] [(0, 1, (.k (.i .i64 3))), (1, 1, (.k (.i .i64 1))), (2, 1, (.k (.i .i64 1)))], (some (22, true)), []⟩,
 ⟨(some 28), .build [.i .i64 0, .i .i64 0, .i .i64 0, .i .i64 0, .i .i64 0] [(0, 4, (.t 27)), (4, 1, (.k (.i .i64 1)))], (some (22, true)), []⟩,
 ⟨(some 29), .eq false true [.i, .i, .i, .i, .i] (.t 26) (.t 28), (some (22, true)), []⟩,
 ⟨(some 30), .pick (.t 22) (.t 29) (.k (.b false)), none, []⟩,
 ⟨(some 0), .mv (.t 30), none, []⟩] false [1, 2, 13, 14, 15, 16, 17, 18, 19, 20, 21, 22, 23, 24, 25, 26, 27, 28, 29, 30]) (
 .ret))))
 [.tmp 0]
def m18 : MF := .code 0 (
 .seq (
 .reg [
 ⟨(some 0), .alloc [.i .i64 0, .i .i64 0, .i .i64 0, .lst true true 0 [], .lst true true 0 []], none, []⟩] false []) (
 .seq (
 .reg [
 ⟨(some 4), .call 40 [], none, []⟩,
 ⟨(some 5), .call 39 [(.t 4), (.k (.i .i64 64))], none, []⟩,
 ⟨(some 3), .mv (.t 5), none, []⟩,
 ⟨(some 6), .ext (.t 3) 0, none, []⟩,
 ⟨(some 7), .ext (.t 3) 1, none, []⟩,
 ⟨(some 1), .alloc [.i .i64 0, .i .i64 0, .i .i64 0, .lst true true 0 [], .lst true true 0 []], none, []⟩,
 ⟨none, .store 5 (.t 1) (.t 6), none, []⟩,
 ⟨(some 2), .mv (.t 7), none, []⟩] false [2, 3, 4, 5, 6, 7]) (
 .seq (
 .reg [
 ⟨(some 8), .load true 5 (.t 1), none, []⟩,
 ⟨none, .store 5 (.t 0) (.t 8), none, []⟩] false [1, 8]) (
 .ret))))
 [.cell true 5 0]
def m40 : MF := .code 0 (
 .seq (
 .reg [
 ⟨(some 0), .alloc [.i .i64 0, .i .i64 0, .i .i64 0], none, []⟩] false []) (
 .seq (
 .reg [
 ⟨(some 1), .build [.i .i64 0, .i .i64 0, .i .i64 0] [(0, 1, (.k (.i .i64 2))), (1, 1, (.k (.i .i64 32))), (2, 1, (.k (.i .i64 16)))], none, []⟩,
 ⟨none, .store 3 (.t 0) (.t 1), none, []⟩] false [1]) (
 .ret)))
 [.cell true 3 0]
def m39 : MF := .code 2 (
 .seq (
 .reg [
 ⟨(some 2), .box (.t 0), none, []⟩,
 ⟨(some 4), .alloc [.i .i64 0, .i .i64 0, .i .i64 0, .lst true true 0 [], .lst true true 0 []], none, []⟩,
 ⟨(some 5), .mv (.k (.i .i64 0)), none, []⟩] false [0, 5]) (
 .seq (
 .reg [
 ⟨(some 14), .mv (.t 1), none, []⟩,
 ⟨(some 15), .call 55 [(.k (.i .i64 1)), (.t 14), (.k (.i .i64 0))], none, []⟩,
 ⟨(some 13), .mv (.t 15), none, []⟩,
 ⟨(some 16), .ext (.t 13) 0, none, []⟩,
 ⟨(some 17), .ext (.t 13) 1, none, []⟩,
 ⟨(some 6), .alloc [.i .i64 0, .i .i64 0, .i .i64 0, .i .i64 0, .i .i64 0, .i .i64 0, .i .i64 0, .b false, .i .u64 0, .i .u64 0, .i .u64 0, .i .u64 0, .i .u64 0], none, []⟩,
 ⟨none, .store 13 (.t 6) (.t 16), none, []⟩,
 ⟨(some 7), .mv (.t 17), none, []⟩] false [1, 13, 14, 15, 16, 17]) (
 .seq (
 .seq (
 .reg [
 ⟨(some 18), .load true 3 (.t 2), none, []⟩,
 ⟨(some 19), .call 25 [(.t 18)], none, []⟩,
 ⟨(some 20), .un .not (.t 19), none, []⟩,
 ⟨(some 21), .mv (.t 20), none, []⟩,
 ⟨(some 22), .mv (.t 7), (some (21, false)), []⟩,
 ⟨(some 23), .un .not (.t 22), (some (21, false)), []⟩,
 ⟨(some 24), .pick (.t 21) (.k (.b true)) (.t 23), none, []⟩] false [7, 18, 19, 20, 21, 22, 23]) (
 .cond (.t 24) (
 .seq (
 .reg [
 ⟨(some 25), .build [.i .i64 0, .i .i64 0, .i .i64 0, .lst true true 0 [], .lst true true 0 []] [], none, []⟩,
 ⟨none, .store 5 (.t 4) (.t 25), none, []⟩,
 ⟨(some 5), .mv (.k (.i .i64 1)), none, []⟩] false [25]) (
 .ret)) (
 .skip))) (
 .seq (
 .reg [
 ⟨(some 26), .load true 3 (.t 2), none, [2, 3, 5, 6, 8]⟩,
 ⟨(some 27), .faddr 1 (.t 2), none, []⟩,
 ⟨(some 28), .load false 1 (.t 27), none, [0, 5, 6, 8]⟩,
 ⟨(some 29), .mkrow [.i .i64 0, .i .i64 0, .i .i64 0, .i .i64 0, .i .i64 0] (.t 28) (.t 28), none, [0, 5, 6, 8]⟩,
 ⟨(some 30), .faddr 2 (.t 2), none, []⟩,
 ⟨(some 31), .load false 1 (.t 30), none, [0, 2, 3, 8]⟩,
 ⟨(some 32), .mkrow [.i .i64 0, .i .i64 0, .i .i64 0, .i .i64 0, .i .i64 0, .i .i64 0, .i .i64 0, .b false, .i .u64 0, .i .u64 0, .i .u64 0, .i .u64 0, .i .u64 0] (.t 31) (.t 31), none, [0, 2, 3, 8]⟩,
 ⟨(some 33), .build [.i .i64 0, .i .i64 0, .i .i64 0, .lst true true 0 [], .lst true true 0 []] [(0, 3, (.t 26)), (3, 1, (.t 29)), (4, 1, (.t 32))], none, []⟩,
 ⟨(some 8), .alloc [.i .i64 0, .i .i64 0, .i .i64 0, .lst true true 0 [], .lst true true 0 []], none, [0, 2, 3, 5, 6]⟩,
 ⟨none, .store 5 (.t 8) (.t 33), none, []⟩] true [26, 27, 28, 29, 30, 31, 32, 33]) (
 .seq (
 .seq (
 .reg [
 ⟨(some 34), .faddr 3 (.t 8), none, []⟩,
 ⟨(some 35), .load false 1 (.t 34), none, []⟩,
 ⟨(some 36), .len false (.t 35), none, []⟩,
 ⟨(some 37), .mv (.k (.i .i64 0)), none, []⟩] false [34, 35]) (
 .block 0 (
 .loop 6 [2, 4, 6, 8, 36, 37] [2, 4, 6, 8] (
 .seq (
 .reg [
 ⟨(some 38), .bin .lss (.t 37) (.t 36), none, []⟩] false []) (
 .seq (
 .cond (.t 38) (
 .skip) (
 .exit 0)) (
 .seq (
 .block 1 (
 .seq (
 .reg [
 ⟨(some 39), .mv (.t 37), none, []⟩,
 ⟨(some 9), .mv (.t 39), none, []⟩] false [39]) (
 .reg [
 ⟨(some 40), .faddr 3 (.t 8), none, []⟩,
 ⟨(some 41), .load false 1 (.t 40), none, []⟩,
 ⟨(some 42), .mv (.t 9), none, []⟩,
 ⟨(some 43), .iaddr 5 (.t 41) (.t 42), none, []⟩,
 ⟨(some 44), .faddr 4 (.t 43), none, []⟩,
 ⟨none, .store 1 (.t 44) (.k (.i .i64 (-1))), none, []⟩] false [9, 40, 41, 42, 43, 44]))) (
 .reg [
 ⟨(some 45), .bin .add (.t 37) (.k (.i .i64 1)), none, []⟩,
 ⟨(some 37), .mv (.t 45), none, []⟩] false [45]))))))) (
 .seq (
 .reg [
 ⟨(some 46), .faddr 4 (.t 8), none, []⟩,
 ⟨(some 47), .load false 1 (.t 46), none, []⟩,
 ⟨(some 48), .load true 13 (.t 6), none, []⟩,
 ⟨(some 49), .iaddr 13 (.t 47) (.k (.i .i64 0)), none, []⟩,
 ⟨none, .store 13 (.t 49) (.t 48), none, []⟩] false [6, 46, 47, 48, 49]) (
 .seq (
 .reg [
 ⟨(some 51), .faddr 4 (.t 8), none, []⟩,
 ⟨(some 52), .load false 1 (.t 51), none, [2]⟩,
 ⟨(some 53), .call 55 [(.k (.i .i64 3)), (.k (.i .i64 0)), (.k (.i .i64 0))], none, [1]⟩,
 ⟨(some 50), .mv (.t 53), none, []⟩,
 ⟨(some 54), .ext (.t 50) 0, none, []⟩,
 ⟨(some 55), .ext (.t 50) 1, none, []⟩,
 ⟨(some 56), .iaddr 13 (.t 52) (.k (.i .i64 1)), none, []⟩,
 ⟨none, .store 13 (.t 56) (.t 54), none, []⟩] true [50, 51, 52, 53, 54, 55, 56]) (
 .seq (
 .reg [
 ⟨(some 57), .load true 3 (.t 2), none, []⟩,
 ⟨(some 58), .call 46 [(.t 57), (.k (.i .i64 0))], none, []⟩,
 ⟨(some 10), .mv (.t 58), none, []⟩] false [57, 58]) (
 .seq (
 .reg [
 ⟨(some 59), .faddr 3 (.t 8), none, []⟩,
 ⟨(some 60), .load false 1 (.t 59), none, []⟩,
 ⟨(some 61), .mv (.t 10), none, []⟩,
 ⟨(some 62), .build [.i .i64 0, .i .i64 0, .i .i64 0, .i .i64 0] [(0, 1, (.k (.i .i64 1))), (1, 1, (.k (.i .i64 0))), (2, 1, (.k (.i .i64 7)))], none, []⟩,
 ⟨(some 63), .iaddr 5 (.t 60) (.t 61), none, []⟩,
 ⟨(some 64), .faddr 0 (.t 63), none, []⟩,
 ⟨none, .store 4 (.t 64) (.t 62), none, []⟩] false [59, 60, 61, 62, 63, 64]) (
 .seq (
 .seq (
 .reg [
 ⟨(some 65), .faddr 0 (.t 2), none, []⟩,
 ⟨(some 66), .load false 1 (.t 65), none, []⟩,
 ⟨(some 67), .mv (.k (.i .i64 0)), none, []⟩] false [65]) (
 .block 2 (
 .loop 15 [2, 4, 8, 10, 66, 67] [4, 8, 10] (
 .seq (
 .reg [
 ⟨(some 68), .bin .lss (.t 67) (.t 66), none, []⟩] false []) (
 .seq (
 .cond (.t 68) (
 .skip) (
 .exit 2)) (
 .seq (
 .block 3 (
 .seq (
 .reg [
 ⟨(some 69), .mv (.t 67), none, []⟩,
 ⟨(some 11), .mv (.t 69), none, []⟩] false [69]) (
 .seq (
 .reg [
 ⟨(some 70), .load true 3 (.t 2), none, []⟩,
 ⟨(some 71), .mv (.t 11), none, []⟩,
 ⟨(some 72), .call 46 [(.t 70), (.t 71)], none, []⟩,
 ⟨(some 12), .mv (.t 72), none, []⟩] false [70, 71, 72]) (
 .seq (
 .reg [
 ⟨(some 74), .faddr 4 (.t 8), none, []⟩,
 ⟨(some 75), .load false 1 (.t 74), none, [5]⟩,
 ⟨(some 76), .mv (.t 11), none, []⟩,
 ⟨(some 77), .bin .add (.k (.i .i64 2)) (.t 76), none, []⟩,
 ⟨(some 78), .mv (.t 12), none, []⟩,
 ⟨(some 79), .call 55 [(.k (.i .i64 2)), (.k (.i .i64 3)), (.t 78)], none, [1]⟩,
 ⟨(some 73), .mv (.t 79), none, []⟩,
 ⟨(some 80), .ext (.t 73) 0, none, []⟩,
 ⟨(some 81), .ext (.t 73) 1, none, []⟩,
 ⟨(some 82), .iaddr 13 (.t 75) (.t 77), none, []⟩,
 ⟨none, .store 13 (.t 82) (.t 80), none, []⟩] true [11, 73, 74, 75, 76, 77, 78, 79, 80, 81, 82]) (
 .reg [
 ⟨(some 83), .faddr 3 (.t 8), none, []⟩,
 ⟨(some 84), .load false 1 (.t 83), none, []⟩,
 ⟨(some 85), .mv (.t 12), none, []⟩,
 ⟨(some 86), .bin .add (.t 85) (.k (.i .i64 1)), none, []⟩,
 ⟨(some 87), .build [.i .i64 0, .i .i64 0, .i .i64 0, .i .i64 0] [(0, 1, (.k (.i .i64 3))), (1, 1, (.k (.i .i64 1))), (2, 1, (.k (.i .i64 7)))], none, []⟩,
 ⟨(some 88), .mv (.t 10), none, []⟩,
 ⟨(some 89), .bin .add (.t 88) (.k (.i .i64 1)), none, []⟩,
 ⟨(some 90), .build [.i .i64 0, .i .i64 0, .i .i64 0, .i .i64 0, .i .i64 0] [(0, 4, (.t 87)), (4, 1, (.t 89))], none, []⟩,
 ⟨(some 91), .iaddr 5 (.t 84) (.t 86), none, []⟩,
 ⟨none, .store 5 (.t 91) (.t 90), none, []⟩] false [12, 83, 84, 85, 86, 87, 88, 89, 90, 91]))))) (
 .reg [
 ⟨(some 92), .bin .add (.t 67) (.k (.i .i64 1)), none, []⟩,
 ⟨(some 67), .mv (.t 92), none, []⟩] false [92]))))))) (
 .seq (
 .reg [
 ⟨(some 93), .faddr 3 (.t 8), none, []⟩,
 ⟨(some 94), .load false 1 (.t 93), none, []⟩,
 ⟨(some 95), .mv (.t 10), none, []⟩,
 ⟨(some 96), .bin .add (.t 95) (.k (.i .i64 1)), none, []⟩,
 ⟨(some 97), .iaddr 5 (.t 94) (.t 96), none, []⟩,
 ⟨(some 98), .faddr 4 (.t 97), none, []⟩,
 ⟨none, .store 1 (.t 98) (.k (.i .i64 (-1))), none, []⟩] false [10, 93, 94, 95, 96, 97, 98]) (
 .seq (
 .reg [
 ⟨(some 99), .load true 5 (.t 8), none, []⟩,
 ⟨none, .store 5 (.t 4) (.t 99), none, []⟩,
 ⟨(some 5), .mv (.k (.i .i64 0)), none, []⟩] false [8, 99]) (
 .ret)))))))))))))
 [.fz [[0, 0, 0, 5, 13], [0]], .cell true 5 4, .tmp 5]
def m55 : MF := .code 3 (
 .seq (
 .reg [
 ⟨(some 6), .alloc [.i .i64 0, .i .i64 0, .i .i64 0, .i .i64 0, .i .i64 0, .i .i64 0, .i .i64 0, .b false, .i .u64 0, .i .u64 0, .i .u64 0, .i .u64 0, .i .u64 0], none, []⟩,
 ⟨(some 7), .mv (.k (.b false)), none, []⟩] false [7]) (
 .seq (
 .reg [
 ⟨(some 9), .mv (.t 0), none, []⟩,
 ⟨(some 10), .build [.i .i64 0, .i .i64 0, .i .i64 0, .i .i64 0, .i .i64 0, .i .i64 0, .i .i64 0, .b false, .i .u64 0, .i .u64 0, .i .u64 0, .i .u64 0, .i .u64 0] [(0, 1, (.t 9))], none, []⟩,
 ⟨(some 8), .alloc [.i .i64 0, .i .i64 0, .i .i64 0, .i .i64 0, .i .i64 0, .i .i64 0, .i .i64 0, .b false, .i .u64 0, .i .u64 0, .i .u64 0, .i .u64 0, .i .u64 0], none, []⟩,
 ⟨none, .store 13 (.t 8) (.t 10), none, []⟩] false [9, 10]) (
 .seq (
 .seq (
 .reg [
 ⟨(some 11), .mv (.t 0), none, []⟩] false [0]) (
 .block 0 (
 .seq (
 .reg [
 ⟨(some 14), .bin .eql (.t 11) (.k (.i .i64 1)), none, []⟩,
 ⟨(some 13), .mv (.t 14), none, []⟩] false [14]) (
 .cond (.t 13) (
 .reg [
 ⟨(some 15), .mv (.t 1), none, []⟩,
 ⟨(some 16), .faddr 3 (.t 8), none, []⟩,
 ⟨none, .store 1 (.t 16) (.t 15), none, []⟩] false [1, 15, 16]) (
 .seq (
 .reg [
 ⟨(some 18), .bin .eql (.t 11) (.k (.i .i64 2)), none, []⟩,
 ⟨(some 17), .mv (.t 18), none, []⟩] false [18]) (
 .cond (.t 17) (
 .reg [
 ⟨(some 19), .mv (.t 1), none, []⟩,
 ⟨(some 20), .mv (.t 2), none, []⟩,
 ⟨(some 21), .faddr 1 (.t 8), none, []⟩,
 ⟨none, .store 1 (.t 21) (.t 19), none, []⟩,
 ⟨(some 22), .faddr 2 (.t 8), none, []⟩,
 ⟨none, .store 1 (.t 22) (.t 20), none, []⟩] false [1, 2, 19, 20, 21, 22]) (
 .seq (
 .seq (
 .reg [
 ⟨(some 24), .bin .eql (.t 11) (.k (.i .i64 3)), none, []⟩,
 ⟨(some 23), .mv (.t 24), none, []⟩] false [24]) (
 .cond (.t 23) (
 .skip) (
 .seq (
 .reg [
 ⟨(some 25), .bin .eql (.t 11) (.k (.i .i64 4)), none, []⟩,
 ⟨(some 23), .mv (.t 25), none, []⟩] false [25]) (
 .cond (.t 23) (
 .skip) (
 .reg [
 ⟨(some 26), .bin .eql (.t 11) (.k (.i .i64 5)), none, []⟩,
 ⟨(some 23), .mv (.t 26), none, []⟩] false [11, 26]))))) (
 .cond (.t 23) (
 .skip) (
 .seq (
 .reg [
 ⟨(some 12), .build [.i .i64 0, .i .i64 0, .i .i64 0, .i .i64 0, .i .i64 0, .i .i64 0, .i .i64 0, .b false, .i .u64 0, .i .u64 0, .i .u64 0, .i .u64 0, .i .u64 0] [], none, []⟩,
 ⟨none, .store 13 (.t 6) (.t 12), none, []⟩,
 ⟨(some 7), .mv (.k (.b false)), none, []⟩] false [12]) (
 .ret)))))))))) (
 .seq (
 .seq (
 .reg [
 ⟨(some 27), .load true 13 (.t 8), none, []⟩,
 ⟨(some 28), .call 45 [(.t 27)], none, []⟩,
 ⟨(some 29), .un .not (.t 28), none, []⟩] false [27, 28]) (
 .cond (.t 29) (
 .seq (
 .reg [
 ⟨(some 30), .build [.i .i64 0, .i .i64 0, .i .i64 0, .i .i64 0, .i .i64 0, .i .i64 0, .i .i64 0, .b false, .i .u64 0, .i .u64 0, .i .u64 0, .i .u64 0, .i .u64 0] [], none, []⟩,
 ⟨none, .store 13 (.t 6) (.t 30), none, []⟩,
 ⟨(some 7), .mv (.k (.b false)), none, []⟩] false [30]) (
 .ret)) (
 .skip))) (
 .seq (
 .reg [
 ⟨(some 31), .load true 13 (.t 8), none, []⟩,
 ⟨none, .store 13 (.t 6) (.t 31), none, []⟩,
 ⟨(some 7), .mv (.k (.b true)), none, []⟩] false [8, 31]) (
 .ret))))))
 [.cell true 13 6, .tmp 7]
def m45 : MF := .code 1 (
 .seq (
 .reg [
 ⟨(some 1), .box (.t 0), none, []⟩,
 ⟨(some 2), .mv (.k (.b false)), none, []⟩] false [0, 2]) (
 .seq (
 .seq (
 .reg [
 ⟨(some 3), .load true 13 (.t 1), none, [2]⟩,
 ⟨(some 4), .call 66 [(.t 3)], none, [2]⟩,
 ⟨(some 5), .load true 13 (.t 1), none, [0, 1]⟩,
 ⟨(some 6), .eq true true [.i, .i, .i, .i, .i, .i, .i, .b, .i, .i, .i, .i, .i] (.t 4) (.t 5), none, []⟩] true [3, 4, 5]) (
 .cond (.t 6) (
 .seq (
 .reg [
 ⟨(some 2), .mv (.k (.b false)), none, []⟩] false []) (
 .ret)) (
 .skip))) (
 .seq (
 .seq (
 .reg [
 ⟨(some 7), .faddr 0 (.t 1), none, []⟩,
 ⟨(some 8), .load false 1 (.t 7), none, []⟩] false [7]) (
 .block 0 (
 .seq (
 .reg [
 ⟨(some 10), .bin .eql (.t 8) (.k (.i .i64 1)), none, []⟩,
 ⟨(some 9), .mv (.t 10), none, []⟩] false [10]) (
 .cond (.t 9) (
 .seq (
 .reg [
 ⟨(some 11), .faddr 3 (.t 1), none, []⟩,
 ⟨(some 12), .load false 1 (.t 11), none, []⟩,
 ⟨(some 13), .call 34 [(.t 12), (.k (.i .i64 1)), (.k (.i .i64 4096))], none, []⟩,
 ⟨(some 14), .mv (.t 13), none, []⟩,
 ⟨(some 15), .faddr 4 (.t 1), (some (14, true)), []⟩,
 ⟨(some 16), .load false 1 (.t 15), (some (14, true)), []⟩,
 ⟨(some 17), .faddr 3 (.t 1), (some (14, true)), []⟩,
 ⟨(some 18), .load false 1 (.t 17), (some (14, true)), []⟩,
 ⟨(some 19), .call 34 [(.t 16), (.k (.i .i64 0)), (.t 18)], (some (14, true)), []⟩,
 ⟨(some 20), .pick (.t 14) (.t 19) (.k (.b false)), none, []⟩,
 ⟨(some 2), .mv (.t 20), none, []⟩] false [1, 11, 12, 13, 14, 15, 16, 17, 18, 19, 20]) (
 .ret)) (
 .seq (
 .reg [
 ⟨(some 22), .bin .eql (.t 8) (.k (.i .i64 2)), none, []⟩,
 ⟨(some 21), .mv (.t 22), none, []⟩] false [22]) (
 .cond (.t 21) (
 .seq (
 .reg [
 ⟨(some 23), .faddr 1 (.t 1), none, []⟩,
 ⟨(some 24), .load false 1 (.t 23), none, []⟩,
 ⟨(some 25), .call 34 [(.t 24), (.k (.i .i64 1)), (.k (.i .i64 4))], none, []⟩,
 ⟨(some 26), .mv (.t 25), none, []⟩,
 ⟨(some 27), .faddr 2 (.t 1), (some (26, true)), []⟩,
 ⟨(some 28), .load false 1 (.t 27), (some (26, true)), [7]⟩,
 ⟨(some 29), .faddr 1 (.t 1), (some (26, true)), []⟩,
 ⟨(some 30), .load false 1 (.t 29), (some (26, true)), [5]⟩,
 ⟨(some 31), .bin .shl (.k (.i .i64 1)) (.t 30), (some (26, true)), []⟩,
 ⟨(some 32), .bin .sub (.k (.i .i64 96)) (.t 31), (some (26, true)), []⟩,
 ⟨(some 33), .call 34 [(.t 28), (.k (.i .i64 0)), (.t 32)], (some (26, true)), []⟩,
 ⟨(some 34), .pick (.t 26) (.t 33) (.k (.b false)), none, []⟩,
 ⟨(some 2), .mv (.t 34), none, []⟩] true [1, 23, 24, 25, 26, 27, 28, 29, 30, 31, 32, 33, 34]) (
 .ret)) (
 .seq (
 .reg [
 ⟨(some 36), .bin .eql (.t 8) (.k (.i .i64 3)), none, []⟩,
 ⟨(some 35), .mv (.t 36), none, []⟩] false [8, 36]) (
 .cond (.t 35) (
 .seq (
 .reg [
 ⟨(some 37), .faddr 6 (.t 1), none, []⟩,
 ⟨(some 38), .load false 1 (.t 37), none, []⟩,
 ⟨(some 39), .call 34 [(.t 38), (.k (.i .i64 0)), (.k (.i .i64 65535))], none, []⟩,
 ⟨(some 40), .mv (.t 39), none, []⟩,
 ⟨(some 41), .faddr 5 (.t 1), (some (40, true)), []⟩,
 ⟨(some 42), .load false 1 (.t 41), (some (40, true)), []⟩,
 ⟨(some 43), .call 34 [(.t 42), (.k (.i .i64 0)), (.k (.i .i64 96))], (some (40, true)), []⟩,
 ⟨(some 44), .pick (.t 40) (.t 43) (.k (.b false)), none, []⟩,
 ⟨(some 2), .mv (.t 44), none, []⟩] false [1, 37, 38, 39, 40, 41, 42, 43, 44]) (
 .ret)) (
 .skip))))))))) (
 .seq (
 .reg [
 ⟨(some 2), .mv (.k (.b true)), none, []⟩] false []) (
 .ret)))))
 [.tmp 2]
def m66 : MF := .code 1 (
 .seq (
 .reg [
 ⟨(some 1), .box (.t 0), none, []⟩,
 ⟨(some 2), .alloc [.i .i64 0, .i .i64 0, .i .i64 0, .i .i64 0, .i .i64 0, .i .i64 0, .i .i64 0, .b false, .i .u64 0, .i .u64 0, .i .u64 0, .i .u64 0, .i .u64 0], none, []⟩] false [0]) (
 .seq (
 .seq (
 .reg [
 ⟨(some 3), .faddr 0 (.t 1), none, []⟩,
 ⟨(some 4), .load false 1 (.t 3), none, []⟩] false [3]) (
 .block 0 (
 .seq (
 .reg [
 ⟨(some 6), .bin .eql (.t 4) (.k (.i .i64 1)), none, []⟩,
 ⟨(some 5), .mv (.t 6), none, []⟩] false [6]) (
 .cond (.t 5) (
 .seq (
 .reg [
 ⟨(some 7), .faddr 0 (.t 1), none, []⟩,
 ⟨(some 8), .load false 1 (.t 7), none, []⟩,
 ⟨(some 9), .faddr 3 (.t 1), none, []⟩,
 ⟨(some 10), .load false 1 (.t 9), none, []⟩,
 ⟨(some 11), .faddr 4 (.t 1), none, []⟩,
 ⟨(some 12), .load false 1 (.t 11), none, []⟩,
 ⟨(some 13), .build [.i .i64 0, .i .i64 0, .i .i64 0, .i .i64 0, .i .i64 0, .i .i64 0, .i .i64 0, .b false, .i .u64 0, .i .u64 0, .i .u64 0, .i .u64 0, .i .u64 0] [(0, 1, (.t 8)), (3, 1, (.t 10)), (4, 1, (.t 12))], none, []⟩,
 ⟨none, .store 13 (.t 2) (.t 13), none, []⟩] false [1, 7, 8, 9, 10, 11, 12, 13]) (
 .ret)) (
 .seq (
 .reg [
 ⟨(some 15), .bin .eql (.t 4) (.k (.i .i64 2)), none, []⟩,
 ⟨(some 14), .mv (.t 15), none, []⟩] false [15]) (
 .cond (.t 14) (
 .seq (
 .reg [
 ⟨(some 16), .faddr 0 (.t 1), none, []⟩,
 ⟨(some 17), .load false 1 (.t 16), none, []⟩,
 ⟨(some 18), .faddr 1 (.t 1), none, []⟩,
 ⟨(some 19), .load false 1 (.t 18), none, []⟩,
 ⟨(some 20), .faddr 2 (.t 1), none, []⟩,
 ⟨(some 21), .load false 1 (.t 20), none, []⟩,
 ⟨(some 22), .build [.i .i64 0, .i .i64 0, .i .i64 0, .i .i64 0, .i .i64 0, .i .i64 0, .i .i64 0, .b false, .i .u64 0, .i .u64 0, .i .u64 0, .i .u64 0, .i .u64 0] [(0, 1, (.t 17)), (1, 1, (.t 19)), (2, 1, (.t 21))], none, []⟩,
 ⟨none, .store 13 (.t 2) (.t 22), none, []⟩] false [1, 16, 17, 18, 19, 20, 21, 22]) (
 .ret)) (
 .seq (
 .reg [
 ⟨(some 24), .bin .eql (.t 4) (.k (.i .i64 3)), none, []⟩,
 ⟨(some 23), .mv (.t 24), none, []⟩] false [24]) (
 .cond (.t 23) (
 .seq (
 .seq (
 .reg [
 ⟨(some 25), .faddr 7 (.t 1), none, []⟩,
 ⟨(some 26), .load false 1 (.t 25), none, []⟩,
 ⟨(some 27), .un .not (.t 26), none, []⟩] false [25, 26]) (
 .cond (.t 27) (
 .seq (
 .reg [
 ⟨(some 28), .faddr 0 (.t 1), none, []⟩,
 ⟨(some 29), .load false 1 (.t 28), none, []⟩,
 ⟨(some 30), .build [.i .i64 0, .i .i64 0, .i .i64 0, .i .i64 0, .i .i64 0, .i .i64 0, .i .i64 0, .b false, .i .u64 0, .i .u64 0, .i .u64 0, .i .u64 0, .i .u64 0] [(0, 1, (.t 29))], none, []⟩,
 ⟨none, .store 13 (.t 2) (.t 30), none, []⟩] false [1, 28, 29, 30]) (
 .ret)) (
 .skip))) (
 .seq (
 .reg [
 ⟨(some 31), .faddr 0 (.t 1), none, []⟩,
 ⟨(some 32), .load false 1 (.t 31), none, []⟩,
 ⟨(some 33), .faddr 8 (.t 1), none, []⟩,
 ⟨(some 34), .load false 1 (.t 33), none, []⟩,
 ⟨(some 35), .faddr 6 (.t 1), none, []⟩,
 ⟨(some 36), .load false 1 (.t 35), none, []⟩,
 ⟨(some 37), .faddr 5 (.t 1), none, []⟩,
 ⟨(some 38), .load false 1 (.t 37), none, []⟩,
 ⟨(some 39), .build [.i .i64 0, .i .i64 0, .i .i64 0, .i .i64 0, .i .i64 0, .i .i64 0, .i .i64 0, .b false, .i .u64 0, .i .u64 0, .i .u64 0, .i .u64 0, .i .u64 0] [(0, 1, (.t 32)), (7, 1, (.k (.b true))), (8, 1, (.t 34)), (6, 1, (.t 36)), (5, 1, (.t 38))], none, []⟩,
 ⟨none, .store 13 (.t 2) (.t 39), none, []⟩] false [1, 31, 32, 33, 34, 35, 36, 37, 38, 39]) (
 .ret))) (
 .seq (
 .reg [
 ⟨(some 41), .bin .eql (.t 4) (.k (.i .i64 4)), none, []⟩,
 ⟨(some 40), .mv (.t 41), none, []⟩] false [41]) (
 .cond (.t 40) (
 .seq (
 .reg [
 ⟨(some 42), .faddr 0 (.t 1), none, []⟩,
 ⟨(some 43), .load false 1 (.t 42), none, []⟩,
 ⟨(some 44), .faddr 8 (.t 1), none, []⟩,
 ⟨(some 45), .load false 1 (.t 44), none, []⟩,
 ⟨(some 46), .build [.i .i64 0, .i .i64 0, .i .i64 0, .i .i64 0, .i .i64 0, .i .i64 0, .i .i64 0, .b false, .i .u64 0, .i .u64 0, .i .u64 0, .i .u64 0, .i .u64 0] [(0, 1, (.t 43)), (8, 1, (.t 45))], none, []⟩,
 ⟨none, .store 13 (.t 2) (.t 46), none, []⟩] false [1, 42, 43, 44, 45, 46]) (
 .ret)) (
 .seq (
 .reg [
 ⟨(some 48), .bin .eql (.t 4) (.k (.i .i64 5)), none, []⟩,
 ⟨(some 47), .mv (.t 48), none, []⟩] false [4, 48]) (
 .cond (.t 47) (
 .seq (
 .reg [
 ⟨(some 49), .faddr 0 (.t 1), none, []⟩,
 ⟨(some 50), .load false 1 (.t 49), none, []⟩,
 ⟨(some 51), .faddr 9 (.t 1), none, []⟩,
 ⟨(some 52), .load true 4 (.t 51), none, []⟩,
 ⟨(some 53), .build [.i .i64 0, .i .i64 0, .i .i64 0, .i .i64 0, .i .i64 0, .i .i64 0, .i .i64 0, .b false, .i .u64 0, .i .u64 0, .i .u64 0, .i .u64 0, .i .u64 0] [(0, 1, (.t 50)), (9, 4, (.t 52))], none, []⟩,
 ⟨none, .store 13 (.t 2) (.t 53), none, []⟩] false [1, 49, 50, 51, 52, 53]) (
 .ret)) (
 .skip))))))))))))) (
 .seq (
 .reg [
 ⟨(some 54), .build [.i .i64 0, .i .i64 0, .i .i64 0, .i .i64 0, .i .i64 0, .i .i64 0, .i .i64 0, .b false, .i .u64 0, .i .u64 0, .i .u64 0, .i .u64 0, .i .u64 0] [], none, []⟩,
 ⟨none, .store 13 (.t 2) (.t 54), none, []⟩] false [54]) (
 .ret))))
 [.cell true 13 2]
def m34 : MF := .code 3 (
 .seq (
 .reg [
 ⟨(some 6), .mv (.k (.b false)), none, []⟩] false [6]) (
 .seq (
 .reg [
 ⟨(some 7), .mv (.t 0), none, []⟩,
 ⟨(some 8), .mv (.t 1), none, []⟩,
 ⟨(some 9), .bin .geq (.t 7) (.t 8), none, []⟩,
 ⟨(some 10), .mv (.t 9), none, []⟩,
 ⟨(some 11), .mv (.t 0), (some (10, true)), []⟩,
 ⟨(some 12), .mv (.t 2), (some (10, true)), []⟩,
 ⟨(some 13), .bin .leq (.t 11) (.t 12), (some (10, true)), []⟩,
 ⟨(some 14), .pick (.t 10) (.t 13) (.k (.b false)), none, []⟩,
 ⟨(some 6), .mv (.t 14), none, []⟩] false [0, 1, 2, 7, 8, 9, 10, 11, 12, 13, 14]) (
 .ret)))
 [.tmp 6]
def m25 : MF := .code 1 (
 .seq (
 .reg [
 ⟨(some 1), .box (.t 0), none, []⟩,
 ⟨(some 2), .mv (.k (.b false)), none, []⟩] false [0, 2]) (
 .seq (
 .reg [
 ⟨(some 3), .faddr 0 (.t 1), none, []⟩,
 ⟨(some 4), .load false 1 (.t 3), none, []⟩,
 ⟨(some 5), .call 42 [(.t 4), (.k (.i .i64 1)), (.k (.i .i64 4))], none, []⟩,
 ⟨(some 6), .mv (.t 5), none, []⟩,
 ⟨(some 7), .faddr 1 (.t 1), (some (6, true)), []⟩,
 ⟨(some 8), .load false 1 (.t 7), (some (6, true)), []⟩,
 ⟨(some 9), .faddr 0 (.t 1), (some (6, true)), []⟩,
 ⟨(some 10), .load false 1 (.t 9), (some (6, true)), []⟩,
 ⟨(some 11), .bin .mul (.k (.i .i64 8)) (.t 10), (some (6, true)), []⟩,
 ⟨(some 12), .call 42 [(.t 8), (.t 11), (.k (.i .i64 96))], (some (6, true)), []⟩,
 ⟨(some 13), .pick (.t 6) (.t 12) (.k (.b false)), none, []⟩,
 ⟨(some 14), .mv (.t 13), none, []⟩,
 ⟨(some 15), .faddr 1 (.t 1), (some (14, true)), []⟩,
 ⟨(some 16), .load false 1 (.t 15), (some (14, true)), []⟩,
 ⟨(some 17), .bin .rem (.t 16) (.k (.i .i64 8)), (some (14, true)), []⟩,
 ⟨(some 18), .bin .eql (.t 17) (.k (.i .i64 0)), (some (14, true)), []⟩,
 ⟨(some 19), .pick (.t 14) (.t 18) (.k (.b false)), none, []⟩,
 ⟨(some 20), .mv (.t 19), none, []⟩,
 ⟨(some 21), .faddr 2 (.t 1), (some (20, true)), []⟩,
 ⟨(some 22), .load false 1 (.t 21), (some (20, true)), []⟩,
 ⟨(some 23), .faddr 0 (.t 1), (some (20, true)), []⟩,
 ⟨(some 24), .load false 1 (.t 23), (some (20, true)), []⟩,
 ⟨(some 25), .bin .add (.t 24) (.k (.i .i64 2)), (some (20, true)), []⟩,
 ⟨(some 26), .call 42 [(.t 22), (.t 25), (.k (.i .i64 48))], (some (20, true)), []⟩,
 ⟨(some 27), .pick (.t 20) (.t 26) (.k (.b false)), none, []⟩,
 ⟨(some 2), .mv (.t 27), none, []⟩] false [1, 3, 4, 5, 6, 7, 8, 9, 10, 11, 12, 13, 14, 15, 16, 17, 18, 19, 20, 21, 22, 23, 24, 25, 26, 27]) (
 .ret)))
 [.tmp 2]
def m42 : MF := .code 3 (
 .seq (
 .reg [
 ⟨(some 6), .mv (.k (.b false)), none, []⟩] false [6]) (
 .seq (
 .reg [
 ⟨(some 7), .mv (.t 0), none, []⟩,
 ⟨(some 8), .mv (.t 1), none, []⟩,
 ⟨(some 9), .bin .geq (.t 7) (.t 8), none, []⟩,
 ⟨(some 10), .mv (.t 9), none, []⟩,
 ⟨(some 11), .mv (.t 0), (some (10, true)), []⟩,
 ⟨(some 12), .mv (.t 2), (some (10, true)), []⟩,
 ⟨(some 13), .bin .leq (.t 11) (.t 12), (some (10, true)), []⟩,
 ⟨(some 14), .pick (.t 10) (.t 13) (.k (.b false)), none, []⟩,
 ⟨(some 6), .mv (.t 14), none, []⟩] false [0, 1, 2, 7, 8, 9, 10, 11, 12, 13, 14]) (
 .ret)))
 [.tmp 6]
def m46 : MF := .code 2 (
 .seq (
 .reg [
 ⟨(some 2), .box (.t 0), none, []⟩,
 ⟨(some 4), .mv (.k (.i .i64 0)), none, []⟩] false [0, 4]) (
 .seq (
 .seq (
 .reg [
 ⟨(some 5), .load true 3 (.t 2), none, []⟩,
 ⟨(some 6), .call 25 [(.t 5)], none, []⟩,
 ⟨(some 7), .un .not (.t 6), none, []⟩,
 ⟨(some 8), .mv (.t 7), none, []⟩,
 ⟨(some 9), .mv (.t 1), (some (8, false)), []⟩,
 ⟨(some 10), .faddr 0 (.t 2), (some (8, false)), []⟩,
 ⟨(some 11), .load false 1 (.t 10), (some (8, false)), []⟩,
 ⟨(some 12), .bin .sub (.t 11) (.k (.i .i64 1)), (some (8, false)), []⟩,
 ⟨(some 13), .call 42 [(.t 9), (.k (.i .i64 0)), (.t 12)], (some (8, false)), []⟩,
 ⟨(some 14), .un .not (.t 13), (some (8, false)), []⟩,
 ⟨(some 15), .pick (.t 8) (.k (.b true)) (.t 14), none, []⟩] false [2, 5, 6, 7, 8, 9, 10, 11, 12, 13, 14]) (
 .cond (.t 15) (
 .seq (
 .reg [
 ⟨(some 4), .mv (.k (.i .i64 0)), none, []⟩] false []) (
 .ret)) (
 .skip))) (
 .seq (
 .reg [
 ⟨(some 16), .mv (.t 1), none, []⟩,
 ⟨(some 17), .bin .mul (.k (.i .i64 8)) (.t 16), none, []⟩,
 ⟨(some 4), .mv (.t 17), none, []⟩] false [1, 16, 17]) (
 .ret))))
 [.tmp 4]
def m19 : MF := .code 1 (
 .seq (
 .reg [
 ⟨(some 2), .alloc [.lst true true 0 []], none, []⟩] false []) (
 .seq (
 .reg [
 ⟨(some 3), .mv (.t 0), none, []⟩,
 ⟨(some 4), .build [.lst true true 0 []] [(0, 1, (.t 3))], none, []⟩,
 ⟨none, .store 1 (.t 2) (.t 4), none, []⟩] false [0, 3, 4]) (
 .ret)))
 [.cell true 1 2]
def m17 : MF := .code 3 (
 .seq (
 .reg [
 ⟨(some 3), .box (.t 0), none, []⟩,
 ⟨(some 5), .box (.t 2), none, []⟩,
 ⟨(some 6), .alloc [.i .i64 0, .i .i64 0, .i .i64 0, .lst true true 0 [], .lst true true 0 []], none, []⟩,
 ⟨(some 7), .alloc [.i .i64 0, .i .u64 0, .i .i64 0], none, []⟩] false [0, 2]) (
 .seq (
 .reg [
 ⟨(some 11), .load true 5 (.t 3), none, []⟩,
 ⟨(some 12), .mv (.t 1), none, []⟩,
 ⟨(some 13), .load true 6 (.t 5), none, []⟩,
 ⟨(some 14), .call 38 [(.t 11), (.t 12), (.t 13)], none, []⟩,
 ⟨(some 10), .mv (.t 14), none, []⟩,
 ⟨(some 15), .ext (.t 10) 0, none, []⟩,
 ⟨(some 16), .ext (.t 10) 1, none, []⟩,
 ⟨(some 8), .alloc [.i .i64 0, .i .i64 0, .i .i64 0, .lst true true 0 [], .lst true true 0 []], none, []⟩,
 ⟨none, .store 5 (.t 8) (.t 15), none, []⟩,
 ⟨(some 9), .mv (.t 16), none, []⟩] false [1, 5, 10, 11, 12, 13, 14, 15, 16]) (
 .seq (
 .seq (
 .reg [
 ⟨(some 17), .mv (.t 9), none, []⟩,
 ⟨(some 18), .bin .neq (.t 17) (.k (.i .i64 0)), none, []⟩] false [17]) (
 .cond (.t 18) (
 .seq (
 .reg [
 ⟨(some 19), .load true 5 (.t 3), none, []⟩,
 ⟨(some 20), .mv (.t 9), none, []⟩,
 ⟨(some 21), .build [.i .i64 0, .i .u64 0, .i .i64 0] [(0, 1, (.t 20))], none, []⟩,
 ⟨none, .store 5 (.t 6) (.t 19), none, []⟩,
 ⟨none, .store 3 (.t 7) (.t 21), none, []⟩] false [3, 9, 19, 20, 21]) (
 .ret)) (
 .skip))) (
 .seq (
 .reg [
 ⟨(some 22), .load true 5 (.t 8), none, []⟩,
 ⟨(some 23), .build [.i .i64 0, .i .u64 0, .i .i64 0] [], none, []⟩,
 ⟨none, .store 5 (.t 6) (.t 22), none, []⟩,
 ⟨none, .store 3 (.t 7) (.t 23), none, []⟩] false [8, 22, 23]) (
 .ret)))))
 [.fz [[0, 0, 0, 5, 13], [0, 0, 0]], .cell true 5 6, .cell true 3 7]
def m38 : MF := .code 3 (
 .seq (
 .reg [
 ⟨(some 3), .box (.t 0), none, []⟩,
 ⟨(some 5), .box (.t 2), none, []⟩,
 ⟨(some 6), .alloc [.i .i64 0, .i .i64 0, .i .i64 0, .lst true true 0 [], .lst true true 0 []], none, []⟩,
 ⟨(some 7), .mv (.k (.i .i64 0)), none, []⟩] false [0, 2, 7]) (
 .seq (
 .seq (
 .reg [
 ⟨(some 12), .load true 6 (.t 5), none, []⟩,
 ⟨(some 13), .call 49 [(.t 12)], none, []⟩,
 ⟨(some 14), .un .not (.t 13), none, []⟩,
 ⟨(some 15), .mv (.t 14), none, []⟩,
 ⟨(some 16), .faddr 0 (.t 5), (some (15, false)), []⟩,
 ⟨(some 17), .load false 1 (.t 16), (some (15, false)), []⟩,
 ⟨(some 18), .bin .neq (.t 17) (.k (.i .i64 2)), (some (15, false)), []⟩,
 ⟨(some 19), .mv (.t 18), (some (15, false)), []⟩,
 ⟨(some 20), .faddr 0 (.t 5), (some (19, true)), []⟩,
 ⟨(some 21), .load false 1 (.t 20), (some (19, true)), []⟩,
 ⟨(some 22), .bin .neq (.t 21) (.k (.i .i64 3)), (some (19, true)), []⟩,
 ⟨(some 23), .pick (.t 19) (.t 22) (.k (.b false)), (some (15, false)), []⟩,
 ⟨(some 24), .mv (.t 23), (some (15, false)), []⟩,
 ⟨(some 25), .faddr 0 (.t 5), (some (24, true)), []⟩,
 ⟨(some 26), .load false 1 (.t 25), (some (24, true)), []⟩,
 ⟨(some 27), .bin .neq (.t 26) (.k (.i .i64 4)), (some (24, true)), []⟩,
 ⟨(some 28), .pick (.t 24) (.t 27) (.k (.b false)), (some (15, false)), []⟩,
 ⟨(some 29), .pick (.t 15) (.k (.b true)) (.t 28), none, []⟩] false [12, 13, 14, 15, 16, 17, 18, 19, 20, 21, 22, 23, 24, 25, 26, 27, 28]) (
 .cond (.t 29) (
 .seq (
 .reg [
 ⟨(some 30), .load true 5 (.t 3), none, []⟩,
 ⟨none, .store 5 (.t 6) (.t 30), none, []⟩,
 ⟨(some 7), .mv (.k (.i .i64 1)), none, []⟩] false [3, 30]) (
 .ret)) (
 .skip))) (
 .seq (
 .reg [
 ⟨(some 32), .load true 5 (.t 3), none, []⟩,
 ⟨(some 33), .mv (.t 1), none, []⟩,
 ⟨(some 34), .faddr 1 (.t 5), none, []⟩,
 ⟨(some 35), .load true 1 (.t 34), none, []⟩,
 ⟨(some 36), .call 50 [(.t 32), (.t 33), (.t 35)], none, []⟩,
 ⟨(some 31), .mv (.t 36), none, []⟩,
 ⟨(some 37), .ext (.t 31) 0, none, []⟩,
 ⟨(some 38), .ext (.t 31) 1, none, []⟩,
 ⟨(some 39), .ext (.t 31) 2, none, []⟩,
 ⟨(some 9), .alloc [.i .i64 0, .i .i64 0, .i .i64 0, .i .i64 0], none, []⟩,
 ⟨(some 8), .mv (.t 37), none, []⟩,
 ⟨none, .store 4 (.t 9) (.t 38), none, []⟩,
 ⟨(some 10), .mv (.t 39), none, []⟩] false [31, 32, 33, 34, 35, 36, 37, 38, 39]) (
 .seq (
 .seq (
 .reg [
 ⟨(some 40), .mv (.t 10), none, []⟩,
 ⟨(some 41), .bin .neq (.t 40) (.k (.i .i64 0)), none, []⟩] false [40]) (
 .cond (.t 41) (
 .seq (
 .reg [
 ⟨(some 42), .load true 5 (.t 3), none, []⟩,
 ⟨(some 43), .mv (.t 10), none, []⟩,
 ⟨none, .store 5 (.t 6) (.t 42), none, []⟩,
 ⟨(some 7), .mv (.t 43), none, []⟩] false [3, 10, 42, 43]) (
 .ret)) (
 .skip))) (
 .seq (
 .seq (
 .reg [
 ⟨(some 44), .faddr 0 (.t 5), none, []⟩,
 ⟨(some 45), .load false 1 (.t 44), none, []⟩,
 ⟨(some 46), .bin .neq (.t 45) (.k (.i .i64 4)), none, []⟩] false [44, 45]) (
 .cond (.t 46) (
 .reg [
 ⟨(some 47), .load true 4 (.t 9), none, []⟩,
 ⟨(some 48), .faddr 3 (.t 5), none, []⟩,
 ⟨(some 49), .load false 1 (.t 48), none, []⟩,
 ⟨(some 50), .call 56 [(.t 47), (.t 49)], none, []⟩,
 ⟨none, .store 4 (.t 9) (.t 50), none, []⟩] false [47, 48, 49, 50]) (
 .skip))) (
 .seq (
 .seq (
 .reg [
 ⟨(some 51), .faddr 0 (.t 5), none, []⟩,
 ⟨(some 52), .load false 1 (.t 51), none, []⟩,
 ⟨(some 53), .bin .eql (.t 52) (.k (.i .i64 3)), none, []⟩] false [51, 52]) (
 .cond (.t 53) (
 .seq (
 .reg [
 ⟨(some 55), .load true 4 (.t 9), none, []⟩,
 ⟨(some 56), .faddr 4 (.t 5), none, []⟩,
 ⟨(some 57), .load false 1 (.t 56), none, []⟩,
 ⟨(some 58), .call 57 [(.t 55), (.t 57)], none, []⟩,
 ⟨(some 54), .mv (.t 58), none, []⟩,
 ⟨(some 59), .ext (.t 54) 0, none, []⟩,
 ⟨(some 60), .ext (.t 54) 1, none, []⟩,
 ⟨none, .store 4 (.t 9) (.t 59), none, []⟩,
 ⟨(some 10), .mv (.t 60), none, []⟩] false [54, 55, 56, 57, 58, 59, 60]) (
 .seq (
 .reg [
 ⟨(some 61), .mv (.t 10), none, []⟩,
 ⟨(some 62), .bin .neq (.t 61) (.k (.i .i64 0)), none, []⟩] false [61]) (
 .cond (.t 62) (
 .seq (
 .reg [
 ⟨(some 63), .load true 5 (.t 3), none, []⟩,
 ⟨(some 64), .mv (.t 10), none, []⟩,
 ⟨none, .store 5 (.t 6) (.t 63), none, []⟩,
 ⟨(some 7), .mv (.t 64), none, []⟩] false [3, 10, 63, 64]) (
 .ret)) (
 .skip)))) (
 .skip))) (
 .seq (
 .reg [
 ⟨(some 66), .load true 5 (.t 3), none, []⟩,
 ⟨(some 67), .mv (.t 1), none, []⟩,
 ⟨(some 68), .faddr 2 (.t 5), none, []⟩,
 ⟨(some 69), .load true 1 (.t 68), none, []⟩,
 ⟨(some 70), .call 51 [(.t 66), (.t 67), (.t 69)], none, []⟩,
 ⟨(some 65), .mv (.t 70), none, []⟩,
 ⟨(some 71), .ext (.t 65) 0, none, []⟩,
 ⟨(some 72), .ext (.t 65) 1, none, []⟩,
 ⟨(some 11), .mv (.t 71), none, []⟩,
 ⟨(some 10), .mv (.t 72), none, []⟩] false [1, 65, 66, 67, 68, 69, 70, 71, 72]) (
 .seq (
 .seq (
 .reg [
 ⟨(some 73), .mv (.t 10), none, []⟩,
 ⟨(some 74), .bin .neq (.t 73) (.k (.i .i64 0)), none, []⟩] false [73]) (
 .cond (.t 74) (
 .seq (
 .reg [
 ⟨(some 75), .load true 5 (.t 3), none, []⟩,
 ⟨(some 76), .mv (.t 10), none, []⟩,
 ⟨none, .store 5 (.t 6) (.t 75), none, []⟩,
 ⟨(some 7), .mv (.t 76), none, []⟩] false [3, 10, 75, 76]) (
 .ret)) (
 .skip))) (
 .seq (
 .seq (
 .reg [
 ⟨(some 77), .faddr 0 (.t 5), none, []⟩,
 ⟨(some 78), .load false 1 (.t 77), none, []⟩,
 ⟨(some 79), .bin .neq (.t 78) (.k (.i .i64 4)), none, []⟩] false [5, 77, 78]) (
 .cond (.t 79) (
 .seq (
 .reg [
 ⟨(some 80), .load true 5 (.t 3), none, []⟩,
 ⟨(some 81), .mv (.t 8), none, []⟩,
 ⟨(some 82), .mv (.t 11), none, []⟩,
 ⟨(some 83), .load true 4 (.t 9), none, []⟩,
 ⟨(some 84), .call 58 [(.t 80), (.t 81), (.t 82), (.t 83)], none, []⟩,
 ⟨(some 85), .ext (.t 84) 0, none, []⟩,
 ⟨(some 86), .ext (.t 84) 1, none, []⟩,
 ⟨none, .store 5 (.t 6) (.t 85), none, []⟩,
 ⟨(some 7), .mv (.t 86), none, []⟩] false [3, 8, 9, 11, 80, 81, 82, 83, 84, 85, 86]) (
 .ret)) (
 .skip))) (
 .seq (
 .seq (
 .reg [
 ⟨(some 87), .load true 5 (.t 3), none, []⟩,
 ⟨(some 88), .load true 4 (.t 9), none, []⟩,
 ⟨(some 89), .mv (.t 11), none, []⟩,
 ⟨(some 90), .call 59 [(.t 87), (.t 88), (.t 89)], none, []⟩] false [9, 87, 88, 89]) (
 .cond (.t 90) (
 .seq (
 .reg [
 ⟨(some 91), .load true 5 (.t 3), none, []⟩,
 ⟨none, .store 5 (.t 6) (.t 91), none, []⟩,
 ⟨(some 7), .mv (.k (.i .i64 1)), none, []⟩] false [3, 91]) (
 .ret)) (
 .skip))) (
 .seq (
 .reg [
 ⟨(some 92), .load true 5 (.t 3), none, []⟩,
 ⟨(some 93), .mv (.t 8), none, []⟩,
 ⟨(some 94), .mv (.t 11), none, []⟩,
 ⟨(some 95), .call 60 [(.t 92), (.t 93), (.t 94)], none, []⟩,
 ⟨none, .store 5 (.t 6) (.t 95), none, []⟩,
 ⟨(some 7), .mv (.k (.i .i64 0)), none, []⟩] false [3, 8, 11, 92, 93, 94, 95]) (
 .ret))))))))))))
 [.cell true 5 6, .tmp 7]
def m49 : MF := .code 1 (
 .seq (
 .reg [
 ⟨(some 1), .box (.t 0), none, []⟩,
 ⟨(some 2), .mv (.k (.b false)), none, []⟩] false [0, 2]) (
 .seq (
 .reg [
 ⟨(some 7), .faddr 0 (.t 1), none, []⟩,
 ⟨(some 8), .load false 1 (.t 7), none, []⟩,
 ⟨(some 9), .call 69 [(.t 8)], none, []⟩,
 ⟨(some 6), .mv (.t 9), none, []⟩,
 ⟨(some 10), .ext (.t 6) 0, none, []⟩,
 ⟨(some 11), .ext (.t 6) 1, none, []⟩,
 ⟨(some 3), .mv (.t 10), none, []⟩,
 ⟨(some 4), .mv (.t 11), none, []⟩] false [3, 6, 7, 8, 9, 10, 11]) (
 .seq (
 .reg [
 ⟨(some 12), .faddr 2 (.t 1), none, []⟩,
 ⟨(some 13), .faddr 0 (.t 12), none, []⟩,
 ⟨(some 14), .load false 1 (.t 13), none, []⟩,
 ⟨(some 15), .len false (.t 14), none, []⟩,
 ⟨(some 16), .bin .eql (.t 15) (.k (.i .i64 0)), none, []⟩,
 ⟨(some 17), .mv (.t 16), none, []⟩,
 ⟨(some 18), .mv (.t 4), (some (17, true)), []⟩,
 ⟨(some 19), .call 70 [(.t 18), (.k (.s [66]))], (some (17, true)), []⟩,
 ⟨(some 20), .un .not (.t 19), (some (17, true)), []⟩,
 ⟨(some 21), .pick (.t 17) (.t 20) (.k (.b false)), none, []⟩,
 ⟨(some 22), .mv (.t 21), none, []⟩,
 ⟨(some 23), .faddr 2 (.t 1), (some (22, false)), []⟩,
 ⟨(some 24), .load true 1 (.t 23), (some (22, false)), []⟩,
 ⟨(some 25), .call 71 [(.t 24)], (some (22, false)), []⟩,
 ⟨(some 26), .mv (.t 25), (some (22, false)), []⟩,
 ⟨(some 27), .mv (.t 4), (some (26, true)), []⟩,
 ⟨(some 28), .call 72 [(.t 27), (.k (.s [66, 98]))], (some (26, true)), []⟩,
 ⟨(some 29), .pick (.t 26) (.t 28) (.k (.b false)), (some (22, false)), []⟩,
 ⟨(some 30), .pick (.t 22) (.k (.b true)) (.t 29), none, []⟩,
 ⟨(some 5), .mv (.t 30), none, []⟩] false [12, 13, 14, 15, 16, 17, 18, 19, 20, 21, 22, 23, 24, 25, 26, 27, 28, 29, 30]) (
 .seq (
 .reg [
 ⟨(some 31), .mv (.t 4), none, []⟩,
 ⟨(some 32), .bin .neq (.t 31) (.k (.s [])), none, []⟩,
 ⟨(some 33), .mv (.t 32), none, []⟩,
 ⟨(some 34), .faddr 1 (.t 1), (some (33, true)), []⟩,
 ⟨(some 35), .load true 1 (.t 34), (some (33, true)), []⟩,
 ⟨(some 36), .call 71 [(.t 35)], (some (33, true)), []⟩,
 ⟨(some 37), .pick (.t 33) (.t 36) (.k (.b false)), none, []⟩,
 ⟨(some 38), .mv (.t 37), none, []⟩,
 ⟨(some 39), .mv (.t 5), (some (38, true)), []⟩,
 ⟨(some 40), .pick (.t 38) (.t 39) (.k (.b false)), none, []⟩,
 ⟨(some 41), .mv (.t 40), none, []⟩,
 ⟨(some 42), .load true 6 (.t 1), (some (41, true)), []⟩,
 ⟨(some 43), .call 73 [(.t 42)], (some (41, true)), []⟩,
 ⟨(some 44), .pick (.t 41) (.t 43) (.k (.b false)), none, []⟩,
 ⟨(some 45), .mv (.t 44), none, []⟩,
 ⟨(some 46), .faddr 5 (.t 1), (some (45, true)), []⟩,
 ⟨(some 47), .load false 1 (.t 46), (some (45, true)), []⟩,
 ⟨(some 48), .bin .eql (.t 47) (.k (.i .u64 0)), (some (45, true)), []⟩,
 ⟨(some 49), .mv (.t 48), (some (45, true)), []⟩,
 ⟨(some 50), .mv (.t 4), (some (49, false)), []⟩,
 ⟨(some 51), .call 70 [(.t 50), (.k (.s [87]))], (some (49, false)), []⟩,
 ⟨(some 52), .pick (.t 49) (.k (.b true)) (.t 51), (some (45, true)), []⟩,
 ⟨(some 53), .pick (.t 45) (.t 52) (.k (.b false)), none, []⟩,
 ⟨(some 2), .mv (.t 53), none, []⟩] false [1, 4, 5, 31, 32, 33, 34, 35, 36, 37, 38, 39, 40, 41, 42, 43, 44, 45, 46, 47, 48, 49, 50, 51, 52, 53]) (
 .ret)))))
 [.tmp 2]
def m69 : MF := .code 1 (
 .seq (
 .reg [
 ⟨(some 2), .mv (.k (.s [])), none, []⟩,
 ⟨(some 3), .mv (.k (.s [])), none, []⟩] false [2, 3]) (
 .seq (
 .reg [
 ⟨(some 5), .bsl [.s []] 14 [(0, (.k (.s []))), (1, (.k (.s [109, 97, 107, 101, 32, 65, 66, 88, 89]))), (2, (.k (.s [99, 111, 112, 121, 32, 65, 66, 88]))), (3, (.k (.s [109, 105, 110, 116, 32, 65, 66, 88, 89]))), (4, (.k (.s [109, 111, 118, 101, 32, 65, 66]))), (5, (.k (.s [100, 101, 108, 101, 116, 101, 32, 65]))), (6, (.k (.s [114, 101, 118, 111, 107, 101, 32, 65]))), (7, (.k (.s [115, 101, 110, 100, 32, 65, 98, 87]))), (8, (.k (.s [114, 101, 99, 118, 32, 65, 98]))), (9, (.k (.s [114, 105, 110, 103, 32, 65]))), (10, (.k (.s [112, 111, 108, 108, 32, 65]))), (11, (.k (.s [119, 114, 105, 116, 101, 32, 65, 88, 87]))), (12, (.k (.s [114, 101, 97, 100, 32, 65, 88]))), (13, (.k (.s [116, 101, 108, 108, 32, 65])))], none, []⟩,
 ⟨(some 4), .mv (.t 5), none, []⟩] false [5]) (
 .seq (
 .seq (
 .reg [
 ⟨(some 6), .mv (.t 0), none, []⟩,
 ⟨(some 7), .bin .lss (.t 6) (.k (.i .i64 1)), none, []⟩,
 ⟨(some 8), .mv (.t 7), none, []⟩,
 ⟨(some 9), .mv (.t 0), (some (8, false)), []⟩,
 ⟨(some 10), .bin .gtr (.t 9) (.k (.i .i64 13)), (some (8, false)), []⟩,
 ⟨(some 11), .pick (.t 8) (.k (.b true)) (.t 10), none, []⟩] false [6, 7, 8, 9, 10]) (
 .cond (.t 11) (
 .seq (
 .reg [
 ⟨(some 2), .mv (.k (.s [])), none, []⟩,
 ⟨(some 3), .mv (.k (.s [])), none, []⟩] false []) (
 .ret)) (
 .skip))) (
 .seq (
 .reg [
 ⟨(some 13), .mv (.t 4), none, []⟩,
 ⟨(some 14), .mv (.t 0), none, []⟩,
 ⟨(some 15), .iaddr 1 (.t 13) (.t 14), none, []⟩,
 ⟨(some 16), .load false 1 (.t 15), none, []⟩,
 ⟨(some 17), .call 85 [(.t 16), (.k (.s [32]))], none, []⟩,
 ⟨(some 12), .mv (.t 17), none, []⟩,
 ⟨(some 18), .ext (.t 12) 0, none, []⟩,
 ⟨(some 19), .ext (.t 12) 1, none, []⟩,
 ⟨(some 20), .ext (.t 12) 2, none, []⟩,
 ⟨(some 2), .mv (.t 18), none, []⟩,
 ⟨(some 3), .mv (.t 19), none, []⟩] false [0, 4, 12, 13, 14, 15, 16, 17, 18, 19, 20]) (
 .seq (
 .reg [
 ⟨(some 21), .mv (.t 2), none, []⟩,
 ⟨(some 22), .mv (.t 3), none, []⟩,
 ⟨(some 2), .mv (.t 21), none, []⟩,
 ⟨(some 3), .mv (.t 22), none, []⟩] false [21, 22]) (
 .ret))))))
 [.tmp 2, .tmp 3]
def m85 : MF := .law lawCut
def m70 : MF := .law lawContains
def m71 : MF := .code 1 (
 .seq (
 .reg [
 ⟨(some 1), .box (.t 0), none, []⟩,
 ⟨(some 2), .mv (.k (.b false)), none, []⟩] false [0, 2]) (
 .seq (
 .reg [
 ⟨(some 3), .mv (.k (.fn 87 [])), none, []⟩] false []) (
 .seq (
 .reg [
 ⟨(some 4), .faddr 0 (.t 1), none, []⟩,
 ⟨(some 5), .load false 1 (.t 4), none, []⟩,
 ⟨(some 6), .len false (.t 5), none, []⟩,
 ⟨(some 7), .bin .geq (.t 6) (.k (.i .i64 1)), none, []⟩,
 ⟨(some 8), .mv (.t 7), none, []⟩,
 ⟨(some 9), .faddr 0 (.t 1), (some (8, true)), []⟩,
 ⟨(some 10), .load false 1 (.t 9), (some (8, true)), []⟩,
 ⟨(some 11), .len false (.t 10), (some (8, true)), []⟩,
 ⟨(some 12), .bin .leq (.t 11) (.k (.i .i64 3)), (some (8, true)), []⟩,
 ⟨(some 13), .pick (.t 8) (.t 12) (.k (.b false)), none, []⟩,
 ⟨(some 14), .mv (.t 13), none, []⟩,
 ⟨(some 15), .faddr 0 (.t 1), (some (14, true)), []⟩,
 ⟨(some 16), .load false 1 (.t 15), (some (14, true)), []⟩,
 ⟨(some 17), .mv (.t 3), (some (14, true)), []⟩,
 ⟨(some 18), .call 88 [(.t 16), (.t 17)], (some (14, true)), []⟩,
 ⟨(some 19), .un .not (.t 18), (some (14, true)), []⟩,
 ⟨(some 20), .pick (.t 14) (.t 19) (.k (.b false)), none, []⟩,
 ⟨(some 2), .mv (.t 20), none, []⟩] false [1, 3, 4, 5, 6, 7, 8, 9, 10, 11, 12, 13, 14, 15, 16, 17, 18, 19, 20]) (
 .ret))))
 [.tmp 2]
def m88 : MF := .code 2 (
 .seq (
 .reg [
 ⟨(some 4), .mv (.k (.b false)), none, []⟩] false [4]) (
 .seq (
 .reg [
 ⟨(some 5), .mv (.t 0), none, []⟩,
 ⟨(some 6), .mv (.t 1), none, []⟩,
 ⟨(some 7), .call 99 [(.t 5), (.t 6)], none, []⟩,
 ⟨(some 8), .bin .geq (.t 7) (.k (.i .i64 0)), none, []⟩,
 ⟨(some 4), .mv (.t 8), none, []⟩] false [0, 1, 5, 6, 7, 8]) (
 .ret)))
 [.tmp 4]
def m99 : MF := .code 2 (
 .seq (
 .reg [
 ⟨(some 4), .mv (.k (.i .i64 0)), none, []⟩] false [4]) (
 .seq (
 .seq (
 .reg [
 ⟨(some 6), .mv (.t 0), none, []⟩,
 ⟨(some 7), .len false (.t 6), none, []⟩,
 ⟨(some 8), .mv (.k (.i .i64 0)), none, []⟩] false [6]) (
 .block 0 (
 .loop 2 [0, 1, 7, 8] [4] (
 .seq (
 .reg [
 ⟨(some 9), .bin .lss (.t 8) (.t 7), none, []⟩] false []) (
 .seq (
 .cond (.t 9) (
 .skip) (
 .exit 0)) (
 .seq (
 .block 1 (
 .seq (
 .reg [
 ⟨(some 10), .mv (.t 8), none, []⟩,
 ⟨(some 5), .mv (.t 10), none, []⟩] false [10]) (
 .seq (
 .reg [
 ⟨(some 11), .mv (.t 1), none, []⟩,
 ⟨(some 12), .mv (.t 0), none, []⟩,
 ⟨(some 13), .mv (.t 5), none, []⟩,
 ⟨(some 14), .iaddr 1 (.t 12) (.t 13), none, []⟩,
 ⟨(some 15), .load false 1 (.t 14), none, []⟩,
 ⟨(some 16), .callv (.t 11) [(.t 15)], none, []⟩] false [11, 12, 13, 14, 15]) (
 .cond (.t 16) (
 .seq (
 .reg [
 ⟨(some 17), .mv (.t 5), none, []⟩,
 ⟨(some 4), .mv (.t 17), none, []⟩] false [5, 17]) (
 .ret)) (
 .skip))))) (
 .reg [
 ⟨(some 18), .bin .add (.t 8) (.k (.i .i64 1)), none, []⟩,
 ⟨(some 8), .mv (.t 18), none, []⟩] false [18]))))))) (
 .seq (
 .reg [
 ⟨(some 4), .mv (.k (.i .i64 (-1))), none, []⟩] false []) (
 .ret))))
 [.tmp 4]
def m87 : MF := .code 1 (
 .seq (
 .reg [
 ⟨(some 2), .mv (.k (.b false)), none, []⟩] false [2]) (
 .seq (
 .reg [
 ⟨(some 3), .mv (.t 0), none, []⟩,
 ⟨(some 4), .bin .lss (.t 3) (.k (.i .i64 0)), none, []⟩,
 ⟨(some 5), .mv (.t 4), none, []⟩,
 ⟨(some 6), .mv (.t 0), (some (5, false)), []⟩,
 ⟨(some 7), .bin .gtr (.t 6) (.k (.i .i64 15)), (some (5, false)), []⟩,
 ⟨(some 8), .pick (.t 5) (.k (.b true)) (.t 7), none, []⟩,
 ⟨(some 2), .mv (.t 8), none, []⟩] false [0, 3, 4, 5, 6, 7, 8]) (
 .ret)))
 [.tmp 2]
def m72 : MF := .law lawContainsAny
def m73 : MF := .code 1 (
 .seq (
 .reg [
 ⟨(some 1), .box (.t 0), none, []⟩,
 ⟨(some 2), .mv (.k (.b false)), none, []⟩] false [0, 2]) (
 .seq (
 .seq (
 .reg [
 ⟨(some 3), .faddr 0 (.t 1), none, []⟩,
 ⟨(some 4), .load false 1 (.t 3), none, []⟩] false [3]) (
 .block 0 (
 .seq (
 .reg [
 ⟨(some 6), .bin .eql (.t 4) (.k (.i .i64 1)), none, []⟩,
 ⟨(some 5), .mv (.t 6), none, []⟩] false [6]) (
 .cond (.t 5) (
 .seq (
 .reg [
 ⟨(some 7), .faddr 3 (.t 1), none, []⟩,
 ⟨(some 8), .load false 1 (.t 7), none, []⟩,
 ⟨(some 9), .call 90 [(.t 8), (.k (.i .i64 1)), (.k (.i .i64 5))], none, []⟩,
 ⟨(some 10), .mv (.t 9), none, []⟩,
 ⟨(some 11), .faddr 4 (.t 1), (some (10, true)), []⟩,
 ⟨(some 12), .load false 1 (.t 11), (some (10, true)), []⟩,
 ⟨(some 13), .call 90 [(.t 12), (.k (.i .i64 0)), (.k (.i .i64 4096))], (some (10, true)), []⟩,
 ⟨(some 14), .pick (.t 10) (.t 13) (.k (.b false)), none, []⟩,
 ⟨(some 2), .mv (.t 14), none, []⟩] false [1, 7, 8, 9, 10, 11, 12, 13, 14]) (
 .ret)) (
 .seq (
 .reg [
 ⟨(some 16), .bin .eql (.t 4) (.k (.i .i64 2)), none, []⟩,
 ⟨(some 15), .mv (.t 16), none, []⟩] false [16]) (
 .cond (.t 15) (
 .seq (
 .reg [
 ⟨(some 17), .faddr 3 (.t 1), none, []⟩,
 ⟨(some 18), .load false 1 (.t 17), none, []⟩,
 ⟨(some 19), .call 63 [(.t 18)], none, []⟩,
 ⟨(some 20), .mv (.t 19), none, []⟩,
 ⟨(some 21), .faddr 4 (.t 1), (some (20, true)), []⟩,
 ⟨(some 22), .load false 1 (.t 21), (some (20, true)), []⟩,
 ⟨(some 23), .bin .eql (.t 22) (.k (.i .i64 0)), (some (20, true)), []⟩,
 ⟨(some 24), .pick (.t 20) (.t 23) (.k (.b false)), none, []⟩,
 ⟨(some 2), .mv (.t 24), none, []⟩] false [1, 17, 18, 19, 20, 21, 22, 23, 24]) (
 .ret)) (
 .seq (
 .reg [
 ⟨(some 26), .bin .eql (.t 4) (.k (.i .i64 3)), none, []⟩,
 ⟨(some 25), .mv (.t 26), none, []⟩] false [26]) (
 .cond (.t 25) (
 .seq (
 .reg [
 ⟨(some 27), .faddr 3 (.t 1), none, []⟩,
 ⟨(some 28), .load false 1 (.t 27), none, []⟩,
 ⟨(some 29), .call 63 [(.t 28)], none, []⟩,
 ⟨(some 30), .mv (.t 29), none, []⟩,
 ⟨(some 31), .faddr 4 (.t 1), (some (30, true)), []⟩,
 ⟨(some 32), .load false 1 (.t 31), (some (30, true)), []⟩,
 ⟨(some 33), .call 90 [(.t 32), (.k (.i .i64 1)), (.k (.i .i64 65535))], (some (30, true)), []⟩,
 ⟨(some 34), .pick (.t 30) (.t 33) (.k (.b false)), none, []⟩,
 ⟨(some 2), .mv (.t 34), none, []⟩] false [1, 27, 28, 29, 30, 31, 32, 33, 34]) (
 .ret)) (
 .seq (
 .seq (
 .reg [
 ⟨(some 36), .bin .eql (.t 4) (.k (.i .i64 11)), none, []⟩,
 ⟨(some 35), .mv (.t 36), none, []⟩] false [36]) (
 .cond (.t 35) (
 .skip) (
 .reg [
 ⟨(some 37), .bin .eql (.t 4) (.k (.i .i64 12)), none, []⟩,
 ⟨(some 35), .mv (.t 37), none, []⟩] false [4, 37]))) (
 .cond (.t 35) (
 .seq (
 .reg [
 ⟨(some 38), .faddr 3 (.t 1), none, []⟩,
 ⟨(some 39), .load false 1 (.t 38), none, []⟩,
 ⟨(some 40), .call 90 [(.t 39), (.k (.i .i64 0)), (.k (.i .i64 3))], none, []⟩,
 ⟨(some 41), .mv (.t 40), none, []⟩,
 ⟨(some 42), .faddr 4 (.t 1), (some (41, true)), []⟩,
 ⟨(some 43), .load false 1 (.t 42), (some (41, true)), []⟩,
 ⟨(some 44), .bin .eql (.t 43) (.k (.i .i64 0)), (some (41, true)), []⟩,
 ⟨(some 45), .pick (.t 41) (.t 44) (.k (.b false)), none, []⟩,
 ⟨(some 2), .mv (.t 45), none, []⟩] false [1, 38, 39, 40, 41, 42, 43, 44, 45]) (
 .ret)) (
 .skip))))))))))) (
 .seq (
 .reg [
 ⟨(some 46), .faddr 3 (.t 1), none, []⟩,
 ⟨(some 47), .load false 1 (.t 46), none, []⟩,
 ⟨(some 48), .bin .eql (.t 47) (.k (.i .i64 0)), none, []⟩,
 ⟨(some 49), .mv (.t 48), none, []⟩,
 ⟨(some 50), .faddr 4 (.t 1), (some (49, true)), []⟩,
 ⟨(some 51), .load false 1 (.t 50), (some (49, true)), []⟩,
 ⟨(some 52), .bin .eql (.t 51) (.k (.i .i64 0)), (some (49, true)), []⟩,
 ⟨(some 53), .pick (.t 49) (.t 52) (.k (.b false)), none, []⟩,
 ⟨(some 2), .mv (.t 53), none, []⟩] false [1, 46, 47, 48, 49, 50, 51, 52, 53]) (
 .ret))))
 [.tmp 2]
def m90 : MF := .code 3 (
 .seq (
 .reg [
 ⟨(some 6), .mv (.k (.b false)), none, []⟩] false [6]) (
 .seq (
 .reg [
 ⟨(some 7), .mv (.t 0), none, []⟩,
 ⟨(some 8), .mv (.t 1), none, []⟩,
 ⟨(some 9), .bin .geq (.t 7) (.t 8), none, []⟩,
 ⟨(some 10), .mv (.t 9), none, []⟩,
 ⟨(some 11), .mv (.t 0), (some (10, true)), []⟩,
 ⟨(some 12), .mv (.t 2), (some (10, true)), []⟩,
 ⟨(some 13), .bin .leq (.t 11) (.t 12), (some (10, true)), []⟩,
 ⟨(some 14), .pick (.t 10) (.t 13) (.k (.b false)), none, []⟩,
 ⟨(some 6), .mv (.t 14), none, []⟩] false [0, 1, 2, 7, 8, 9, 10, 11, 12, 13, 14]) (
 .ret)))
 [.tmp 6]
def m63 : MF := .code 1 (
 .seq (
 .reg [
 ⟨(some 2), .mv (.k (.b false)), none, []⟩] false [2]) (
 .seq (
 .reg [
 ⟨(some 3), .mv (.t 0), none, []⟩,
 ⟨(some 4), .bin .geq (.t 3) (.k (.i .i64 0)), none, []⟩,
 ⟨(some 5), .mv (.t 4), none, []⟩,
 ⟨(some 6), .mv (.t 0), (some (5, true)), []⟩,
 ⟨(some 7), .bin .leq (.t 6) (.k (.i .i64 7)), (some (5, true)), []⟩,
 ⟨(some 8), .pick (.t 5) (.t 7) (.k (.b false)), none, []⟩,
 ⟨(some 2), .mv (.t 8), none, []⟩] false [0, 3, 4, 5, 6, 7, 8]) (
 .ret)))
 [.tmp 2]
def m50 : MF := .code 3 (
 .seq (
 .reg [
 ⟨(some 3), .box (.t 0), none, []⟩,
 ⟨(some 5), .box (.t 2), none, []⟩,
 ⟨(some 6), .mv (.k (.i .i64 0)), none, []⟩,
 ⟨(some 7), .alloc [.i .i64 0, .i .i64 0, .i .i64 0, .i .i64 0], none, []⟩,
 ⟨(some 8), .mv (.k (.i .i64 0)), none, []⟩] false [0, 2, 6, 8]) (
 .seq (
 .reg [
 ⟨(some 12), .load true 5 (.t 3), none, []⟩,
 ⟨(some 13), .mv (.t 1), none, []⟩,
 ⟨(some 14), .load true 1 (.t 5), none, []⟩,
 ⟨(some 15), .call 74 [(.t 12), (.t 13), (.t 14)], none, []⟩,
 ⟨(some 11), .mv (.t 15), none, []⟩,
 ⟨(some 16), .ext (.t 11) 0, none, []⟩,
 ⟨(some 17), .ext (.t 11) 1, none, []⟩,
 ⟨(some 9), .mv (.t 16), none, []⟩,
 ⟨(some 10), .mv (.t 17), none, []⟩] false [1, 5, 11, 12, 13, 14, 15, 16, 17]) (
 .seq (
 .block 0 (
 .seq (
 .reg [
 ⟨(some 19), .mv (.t 10), none, []⟩,
 ⟨(some 20), .bin .neq (.t 19) (.k (.i .i64 0)), none, []⟩,
 ⟨(some 18), .mv (.t 20), none, []⟩] false [19, 20]) (
 .cond (.t 18) (
 .seq (
 .reg [
 ⟨(some 21), .build [.i .i64 0, .i .i64 0, .i .i64 0, .i .i64 0] [], none, []⟩,
 ⟨(some 22), .mv (.t 10), none, []⟩,
 ⟨(some 6), .mv (.k (.i .i64 0)), none, []⟩,
 ⟨none, .store 4 (.t 7) (.t 21), none, []⟩,
 ⟨(some 8), .mv (.t 22), none, []⟩] false [10, 21, 22]) (
 .ret)) (
 .seq (
 .reg [
 ⟨(some 24), .faddr 3 (.t 3), none, []⟩,
 ⟨(some 25), .load false 1 (.t 24), none, []⟩,
 ⟨(some 26), .mv (.t 9), none, []⟩,
 ⟨(some 27), .iaddr 5 (.t 25) (.t 26), none, []⟩,
 ⟨(some 28), .faddr 0 (.t 27), none, []⟩,
 ⟨(some 29), .load true 4 (.t 28), none, []⟩,
 ⟨(some 30), .call 21 [(.t 29)], none, []⟩,
 ⟨(some 23), .mv (.t 30), none, []⟩] false [24, 25, 26, 27, 28, 29, 30]) (
 .cond (.t 23) (
 .seq (
 .reg [
 ⟨(some 31), .build [.i .i64 0, .i .i64 0, .i .i64 0, .i .i64 0] [], none, []⟩,
 ⟨(some 6), .mv (.k (.i .i64 0)), none, []⟩,
 ⟨none, .store 4 (.t 7) (.t 31), none, []⟩,
 ⟨(some 8), .mv (.k (.i .i64 4)), none, []⟩] false [31]) (
 .ret)) (
 .skip)))))) (
 .seq (
 .reg [
 ⟨(some 32), .mv (.t 9), none, []⟩,
 ⟨(some 33), .faddr 3 (.t 3), none, []⟩,
 ⟨(some 34), .load false 1 (.t 33), none, []⟩,
 ⟨(some 35), .mv (.t 9), none, []⟩,
 ⟨(some 36), .iaddr 5 (.t 34) (.t 35), none, []⟩,
 ⟨(some 37), .faddr 0 (.t 36), none, []⟩,
 ⟨(some 38), .load true 4 (.t 37), none, []⟩,
 ⟨(some 6), .mv (.t 32), none, []⟩,
 ⟨none, .store 4 (.t 7) (.t 38), none, []⟩,
 ⟨(some 8), .mv (.k (.i .i64 0)), none, []⟩] true [3, 9, 32, 33, 34, 35, 36, 37, 38]) (
 .ret)))))
 [.tmp 6, .cell true 4 7, .tmp 8]
def m74 : MF := .code 3 (
 .seq (
 .reg [
 ⟨(some 3), .box (.t 0), none, []⟩,
 ⟨(some 5), .box (.t 2), none, []⟩,
 ⟨(some 6), .mv (.k (.i .i64 0)), none, []⟩,
 ⟨(some 7), .mv (.k (.i .i64 0)), none, []⟩] false [0, 2, 6, 7]) (
 .seq (
 .seq (
 .reg [
 ⟨(some 13), .load true 5 (.t 3), none, []⟩,
 ⟨(some 14), .call 9 [(.t 13)], none, []⟩,
 ⟨(some 15), .un .not (.t 14), none, []⟩,
 ⟨(some 16), .mv (.t 15), none, []⟩,
 ⟨(some 17), .mv (.t 1), (some (16, false)), []⟩,
 ⟨(some 18), .faddr 0 (.t 3), (some (16, false)), []⟩,
 ⟨(some 19), .faddr 0 (.t 18), (some (16, false)), []⟩,
 ⟨(some 20), .load false 1 (.t 19), (some (16, false)), []⟩,
 ⟨(some 21), .bin .sub (.t 20) (.k (.i .i64 1)), (some (16, false)), []⟩,
 ⟨(some 22), .call 91 [(.t 17), (.k (.i .i64 0)), (.t 21)], (some (16, false)), []⟩,
 ⟨(some 23), .un .not (.t 22), (some (16, false)), []⟩,
 ⟨(some 24), .pick (.t 16) (.k (.b true)) (.t 23), none, []⟩,
 ⟨(some 25), .mv (.t 24), none, []⟩,
 ⟨(some 26), .load true 1 (.t 5), (some (25, false)), []⟩,
 ⟨(some 27), .call 71 [(.t 26)], (some (25, false)), []⟩,
 ⟨(some 28), .un .not (.t 27), (some (25, false)), []⟩,
 ⟨(some 29), .pick (.t 25) (.k (.b true)) (.t 28), none, []⟩] false [13, 14, 15, 16, 17, 18, 19, 20, 21, 22, 23, 24, 25, 26, 27, 28]) (
 .cond (.t 29) (
 .seq (
 .reg [
 ⟨(some 6), .mv (.k (.i .i64 0)), none, []⟩,
 ⟨(some 7), .mv (.k (.i .i64 1)), none, []⟩] false []) (
 .ret)) (
 .skip))) (
 .seq (
 .reg [
 ⟨(some 30), .faddr 4 (.t 3), none, []⟩,
 ⟨(some 31), .load false 1 (.t 30), none, []⟩,
 ⟨(some 32), .mv (.t 1), none, []⟩,
 ⟨(some 33), .bin .add (.k (.i .i64 2)) (.t 32), none, []⟩,
 ⟨(some 34), .iaddr 13 (.t 31) (.t 33), none, []⟩,
 ⟨(some 35), .load true 13 (.t 34), none, []⟩,
 ⟨(some 8), .alloc [.i .i64 0, .i .i64 0, .i .i64 0, .i .i64 0, .i .i64 0, .i .i64 0, .i .i64 0, .b false, .i .u64 0, .i .u64 0, .i .u64 0, .i .u64 0, .i .u64 0], none, []⟩,
 ⟨none, .store 13 (.t 8) (.t 35), none, []⟩,
 ⟨(some 9), .mv (.k (.b true)), none, []⟩] false [1, 30, 31, 32, 33, 34, 35]) (
 .seq (
 .reg [
 ⟨(some 10), .mv (.k (.i .i64 0)), none, []⟩] false []) (
 .seq (
 .seq (
 .reg [
 ⟨(some 36), .faddr 0 (.t 5), none, []⟩,
 ⟨(some 37), .load false 1 (.t 36), none, []⟩,
 ⟨(some 38), .len false (.t 37), none, []⟩,
 ⟨(some 39), .mv (.k (.i .i64 0)), none, []⟩] false [5, 36]) (
 .block 0 (
 .loop 6 [3, 8, 9, 10, 37, 38, 39] [6, 7, 10] (
 .seq (
 .reg [
 ⟨(some 40), .bin .lss (.t 39) (.t 38), none, []⟩] false []) (
 .seq (
 .cond (.t 40) (
 .skip) (
 .exit 0)) (
 .seq (
 .block 1 (
 .seq (
 .reg [
 ⟨(some 41), .mv (.t 39), none, []⟩,
 ⟨(some 42), .iaddr 1 (.t 37) (.t 39), none, []⟩,
 ⟨(some 43), .load false 1 (.t 42), none, []⟩,
 ⟨(some 11), .mv (.t 41), none, []⟩,
 ⟨(some 12), .mv (.t 43), none, []⟩] false [41, 42, 43]) (
 .seq (
 .seq (
 .reg [
 ⟨(some 44), .mv (.t 11), none, []⟩,
 ⟨(some 45), .bin .gtr (.t 44) (.k (.i .i64 0)), none, []⟩] false [11, 44]) (
 .cond (.t 45) (
 .reg [
 ⟨(some 47), .load true 5 (.t 3), none, []⟩,
 ⟨(some 48), .mv (.t 10), none, []⟩,
 ⟨(some 49), .call 92 [(.t 47), (.t 48)], none, []⟩,
 ⟨(some 46), .mv (.t 49), none, []⟩,
 ⟨(some 50), .ext (.t 46) 0, none, []⟩,
 ⟨(some 51), .ext (.t 46) 1, none, []⟩,
 ⟨none, .store 13 (.t 8) (.t 50), none, []⟩,
 ⟨(some 9), .mv (.t 51), none, []⟩] false [10, 46, 47, 48, 49, 50, 51]) (
 .skip))) (
 .seq (
 .seq (
 .reg [
 ⟨(some 52), .mv (.t 9), none, []⟩,
 ⟨(some 53), .un .not (.t 52), none, []⟩,
 ⟨(some 54), .mv (.t 53), none, []⟩,
 ⟨(some 55), .load true 13 (.t 8), (some (54, false)), []⟩,
 ⟨(some 56), .mv (.t 12), (some (54, false)), []⟩,
 ⟨(some 57), .call 93 [(.t 55), (.t 56)], (some (54, false)), []⟩,
 ⟨(some 58), .bin .lss (.t 57) (.k (.i .i64 0)), (some (54, false)), []⟩,
 ⟨(some 59), .pick (.t 54) (.k (.b true)) (.t 58), none, []⟩] false [52, 53, 54, 55, 56, 57, 58]) (
 .cond (.t 59) (
 .seq (
 .reg [
 ⟨(some 6), .mv (.k (.i .i64 0)), none, []⟩,
 ⟨(some 7), .mv (.k (.i .i64 3)), none, []⟩] false []) (
 .ret)) (
 .skip))) (
 .reg [
 ⟨(some 60), .load true 13 (.t 8), none, []⟩,
 ⟨(some 61), .mv (.t 12), none, []⟩,
 ⟨(some 62), .call 93 [(.t 60), (.t 61)], none, []⟩,
 ⟨(some 10), .mv (.t 62), none, []⟩] false [12, 60, 61, 62]))))) (
 .reg [
 ⟨(some 63), .bin .add (.t 39) (.k (.i .i64 1)), none, []⟩,
 ⟨(some 39), .mv (.t 63), none, []⟩] false [63]))))))) (
 .seq (
 .reg [
 ⟨(some 64), .mv (.t 10), none, []⟩,
 ⟨(some 6), .mv (.t 64), none, []⟩,
 ⟨(some 7), .mv (.k (.i .i64 0)), none, []⟩] false [10, 64]) (
 .ret)))))))
 [.tmp 6, .tmp 7]
def m9 : MF := .code 1 (
 .seq (
 .reg [
 ⟨(some 1), .box (.t 0), none, []⟩,
 ⟨(some 2), .mv (.k (.b false)), none, []⟩] false [0, 2]) (
 .seq (
 .seq (
 .reg [
 ⟨(some 3), .faddr 0 (.t 1), none, []⟩,
 ⟨(some 4), .load true 3 (.t 3), none, []⟩,
 ⟨(some 5), .call 25 [(.t 4)], none, []⟩,
 ⟨(some 6), .un .not (.t 5), none, []⟩,
 ⟨(some 7), .mv (.t 6), none, []⟩,
 ⟨(some 8), .faddr 3 (.t 1), (some (7, false)), []⟩,
 ⟨(some 9), .load false 1 (.t 8), (some (7, false)), []⟩,
 ⟨(some 10), .len false (.t 9), (some (7, false)), []⟩,
 ⟨(some 11), .faddr 0 (.t 1), (some (7, false)), []⟩,
 ⟨(some 12), .faddr 1 (.t 11), (some (7, false)), []⟩,
 ⟨(some 13), .load false 1 (.t 12), (some (7, false)), []⟩,
 ⟨(some 14), .bin .neq (.t 10) (.t 13), (some (7, false)), []⟩,
 ⟨(some 15), .pick (.t 7) (.k (.b true)) (.t 14), none, []⟩,
 ⟨(some 16), .mv (.t 15), none, []⟩,
 ⟨(some 17), .faddr 4 (.t 1), (some (16, false)), []⟩,
 ⟨(some 18), .load false 1 (.t 17), (some (16, false)), []⟩,
 ⟨(some 19), .len false (.t 18), (some (16, false)), []⟩,
 ⟨(some 20), .faddr 0 (.t 1), (some (16, false)), []⟩,
 ⟨(some 21), .faddr 2 (.t 20), (some (16, false)), []⟩,
 ⟨(some 22), .load false 1 (.t 21), (some (16, false)), []⟩,
 ⟨(some 23), .bin .neq (.t 19) (.t 22), (some (16, false)), []⟩,
 ⟨(some 24), .pick (.t 16) (.k (.b true)) (.t 23), none, []⟩] false [3, 4, 5, 6, 7, 8, 9, 10, 11, 12, 13, 14, 15, 16, 17, 18, 19, 20, 21, 22, 23]) (
 .cond (.t 24) (
 .seq (
 .reg [
 ⟨(some 2), .mv (.k (.b false)), none, []⟩] false []) (
 .ret)) (
 .skip))) (
 .seq (
 .reg [
 ⟨(some 25), .load true 5 (.t 1), none, []⟩,
 ⟨(some 26), .call 26 [(.t 25)], none, []⟩,
 ⟨(some 27), .mv (.t 26), none, []⟩,
 ⟨(some 28), .load true 5 (.t 1), (some (27, true)), []⟩,
 ⟨(some 29), .call 27 [(.t 28)], (some (27, true)), []⟩,
 ⟨(some 30), .pick (.t 27) (.t 29) (.k (.b false)), none, []⟩,
 ⟨(some 31), .mv (.t 30), none, []⟩,
 ⟨(some 32), .load true 5 (.t 1), (some (31, true)), []⟩,
 ⟨(some 33), .call 28 [(.t 32)], (some (31, true)), []⟩,
 ⟨(some 34), .pick (.t 31) (.t 33) (.k (.b false)), none, []⟩,
 ⟨(some 35), .mv (.t 34), none, []⟩,
 ⟨(some 36), .load true 5 (.t 1), (some (35, true)), []⟩,
 ⟨(some 37), .call 29 [(.t 36)], (some (35, true)), []⟩,
 ⟨(some 38), .un .not (.t 37), (some (35, true)), []⟩,
 ⟨(some 39), .pick (.t 35) (.t 38) (.k (.b false)), none, []⟩,
 ⟨(some 40), .mv (.t 39), none, []⟩,
 ⟨(some 41), .load true 5 (.t 1), (some (40, true)), []⟩,
 ⟨(some 42), .call 14 [(.t 41)], (some (40, true)), []⟩,
 ⟨(some 43), .call 13 [(.t 42)], (some (40, true)), []⟩,
 ⟨(some 44), .pick (.t 40) (.t 43) (.k (.b false)), none, []⟩,
 ⟨(some 45), .mv (.t 44), none, []⟩,
 ⟨(some 46), .load true 5 (.t 1), (some (45, true)), []⟩,
 ⟨(some 47), .call 30 [(.t 46)], (some (45, true)), []⟩,
 ⟨(some 48), .pick (.t 45) (.t 47) (.k (.b false)), none, []⟩,
 ⟨(some 2), .mv (.t 48), none, []⟩] false [1, 25, 26, 27, 28, 29, 30, 31, 32, 33, 34, 35, 36, 37, 38, 39, 40, 41, 42, 43, 44, 45, 46, 47, 48]) (
 .ret))))
 [.tmp 2]
def m26 : MF := .code 1 (
 .seq (
 .reg [
 ⟨(some 1), .box (.t 0), none, []⟩,
 ⟨(some 2), .mv (.k (.b false)), none, []⟩] false [0, 2]) (
 .seq (
 .seq (
 .reg [
 ⟨(some 6), .faddr 3 (.t 1), none, []⟩,
 ⟨(some 7), .load false 1 (.t 6), none, []⟩,
 ⟨(some 8), .len false (.t 7), none, []⟩,
 ⟨(some 9), .mv (.k (.i .i64 0)), none, []⟩] false [6]) (
 .block 0 (
 .loop 2 [1, 7, 8, 9] [2] (
 .seq (
 .reg [
 ⟨(some 10), .bin .lss (.t 9) (.t 8), none, []⟩] false []) (
 .seq (
 .cond (.t 10) (
 .skip) (
 .exit 0)) (
 .seq (
 .block 1 (
 .seq (
 .reg [
 ⟨(some 11), .iaddr 5 (.t 7) (.t 9), none, []⟩,
 ⟨(some 12), .load true 5 (.t 11), none, []⟩,
 ⟨(some 4), .alloc [.i .i64 0, .i .i64 0, .i .i64 0, .i .i64 0, .i .i64 0], none, []⟩,
 ⟨none, .store 5 (.t 4) (.t 12), none, []⟩] false [11, 12]) (
 .seq (
 .reg [
 ⟨(some 13), .faddr 0 (.t 4), none, []⟩,
 ⟨(some 14), .load true 4 (.t 13), none, []⟩,
 ⟨(some 5), .alloc [.i .i64 0, .i .i64 0, .i .i64 0, .i .i64 0], none, []⟩,
 ⟨none, .store 4 (.t 5) (.t 14), none, []⟩] false [13, 14]) (
 .block 2 (
 .seq (
 .reg [
 ⟨(some 16), .load true 4 (.t 5), none, []⟩,
 ⟨(some 17), .call 43 [(.t 16)], none, []⟩,
 ⟨(some 18), .un .not (.t 17), none, []⟩,
 ⟨(some 15), .mv (.t 18), none, []⟩] false [16, 17, 18]) (
 .cond (.t 15) (
 .seq (
 .reg [
 ⟨(some 2), .mv (.k (.b false)), none, []⟩] false []) (
 .ret)) (
 .seq (
 .seq (
 .reg [
 ⟨(some 20), .load true 4 (.t 5), none, []⟩,
 ⟨(some 21), .call 21 [(.t 20)], none, []⟩,
 ⟨(some 22), .mv (.t 21), none, []⟩,
 ⟨(some 23), .faddr 4 (.t 4), (some (22, true)), []⟩,
 ⟨(some 24), .load false 1 (.t 23), (some (22, true)), []⟩,
 ⟨(some 25), .bin .neq (.t 24) (.k (.i .i64 (-1))), (some (22, true)), []⟩,
 ⟨(some 26), .pick (.t 22) (.t 25) (.k (.b false)), none, []⟩,
 ⟨(some 19), .mv (.t 26), none, []⟩] false [20, 21, 22, 23, 24, 25, 26]) (
 .cond (.t 19) (
 .skip) (
 .reg [
 ⟨(some 27), .load true 4 (.t 5), none, []⟩,
 ⟨(some 28), .call 21 [(.t 27)], none, []⟩,
 ⟨(some 29), .un .not (.t 28), none, []⟩,
 ⟨(some 30), .mv (.t 29), none, []⟩,
 ⟨(some 31), .faddr 4 (.t 4), (some (30, true)), []⟩,
 ⟨(some 32), .load false 1 (.t 31), (some (30, true)), []⟩,
 ⟨(some 33), .bin .lss (.t 32) (.k (.i .i64 (-1))), (some (30, true)), []⟩,
 ⟨(some 34), .pick (.t 30) (.t 33) (.k (.b false)), none, []⟩,
 ⟨(some 19), .mv (.t 34), none, []⟩] false [4, 27, 28, 29, 30, 31, 32, 33, 34]))) (
 .cond (.t 19) (
 .seq (
 .reg [
 ⟨(some 2), .mv (.k (.b false)), none, []⟩] false []) (
 .ret)) (
 .seq (
 .reg [
 ⟨(some 36), .load true 4 (.t 5), none, []⟩,
 ⟨(some 37), .call 21 [(.t 36)], none, []⟩,
 ⟨(some 38), .un .not (.t 37), none, []⟩,
 ⟨(some 39), .mv (.t 38), none, []⟩,
 ⟨(some 40), .load true 5 (.t 1), (some (39, true)), [6]⟩,
 ⟨(some 41), .faddr 1 (.t 5), (some (39, true)), []⟩,
 ⟨(some 42), .load false 1 (.t 41), (some (39, true)), [4]⟩,
 ⟨(some 43), .call 44 [(.t 40), (.t 42)], (some (39, true)), []⟩,
 ⟨(some 44), .un .not (.t 43), (some (39, true)), []⟩,
 ⟨(some 45), .mv (.t 44), (some (39, true)), []⟩,
 ⟨(some 46), .faddr 4 (.t 1), (some (45, false)), []⟩,
 ⟨(some 47), .load false 1 (.t 46), (some (45, false)), [13, 18]⟩,
 ⟨(some 48), .faddr 1 (.t 5), (some (45, false)), []⟩,
 ⟨(some 49), .load false 1 (.t 48), (some (45, false)), [11, 18]⟩,
 ⟨(some 50), .iaddr 13 (.t 47) (.t 49), (some (45, false)), []⟩,
 ⟨(some 51), .faddr 0 (.t 50), (some (45, false)), []⟩,
 ⟨(some 52), .load false 1 (.t 51), (some (45, false)), [18]⟩,
 ⟨(some 53), .faddr 0 (.t 5), (some (45, false)), []⟩,
 ⟨(some 54), .load false 1 (.t 53), (some (45, false)), [11, 13, 16]⟩,
 ⟨(some 55), .bin .neq (.t 52) (.t 54), (some (45, false)), []⟩,
 ⟨(some 56), .pick (.t 45) (.k (.b true)) (.t 55), (some (39, true)), []⟩,
 ⟨(some 57), .pick (.t 39) (.t 56) (.k (.b false)), none, []⟩,
 ⟨(some 35), .mv (.t 57), none, []⟩] true [5, 36, 37, 38, 39, 40, 41, 42, 43, 44, 45, 46, 47, 48, 49, 50, 51, 52, 53, 54, 55, 56, 57]) (
 .cond (.t 35) (
 .seq (
 .reg [
 ⟨(some 2), .mv (.k (.b false)), none, []⟩] false []) (
 .ret)) (
 .skip))))))))))) (
 .reg [
 ⟨(some 58), .bin .add (.t 9) (.k (.i .i64 1)), none, []⟩,
 ⟨(some 9), .mv (.t 58), none, []⟩] false [58]))))))) (
 .seq (
 .reg [
 ⟨(some 2), .mv (.k (.b true)), none, []⟩] false []) (
 .ret))))
 [.tmp 2]
def m43 : MF := .code 1 (
 .seq (
 .reg [
 ⟨(some 1), .box (.t 0), none, []⟩,
 ⟨(some 2), .mv (.k (.b false)), none, []⟩] false [0, 2]) (
 .seq (
 .seq (
 .reg [
 ⟨(some 3), .load true 4 (.t 1), none, []⟩,
 ⟨(some 4), .call 21 [(.t 3)], none, []⟩] false [3]) (
 .cond (.t 4) (
 .seq (
 .reg [
 ⟨(some 2), .mv (.k (.b true)), none, []⟩] false []) (
 .ret)) (
 .skip))) (
 .seq (
 .reg [
 ⟨(some 5), .faddr 0 (.t 1), none, []⟩,
 ⟨(some 6), .load false 1 (.t 5), none, []⟩,
 ⟨(some 7), .call 62 [(.t 6), (.k (.i .i64 1)), (.k (.i .i64 5))], none, []⟩,
 ⟨(some 8), .mv (.t 7), none, []⟩,
 ⟨(some 9), .faddr 1 (.t 1), (some (8, true)), []⟩,
 ⟨(some 10), .load false 1 (.t 9), (some (8, true)), []⟩,
 ⟨(some 11), .call 62 [(.t 10), (.k (.i .i64 0)), (.k (.i .i64 47))], (some (8, true)), []⟩,
 ⟨(some 12), .pick (.t 8) (.t 11) (.k (.b false)), none, []⟩,
 ⟨(some 13), .mv (.t 12), none, []⟩,
 ⟨(some 14), .faddr 2 (.t 1), (some (13, true)), []⟩,
 ⟨(some 15), .load false 1 (.t 14), (some (13, true)), []⟩,
 ⟨(some 16), .call 63 [(.t 15)], (some (13, true)), []⟩,
 ⟨(some 17), .pick (.t 13) (.t 16) (.k (.b false)), none, []⟩,
 ⟨(some 18), .mv (.t 17), none, []⟩,
 ⟨(some 19), .faddr 3 (.t 1), (some (18, true)), []⟩,
 ⟨(some 20), .load false 1 (.t 19), (some (18, true)), []⟩,
 ⟨(some 21), .call 64 [(.t 20)], (some (18, true)), []⟩,
 ⟨(some 22), .pick (.t 18) (.t 21) (.k (.b false)), none, []⟩,
 ⟨(some 23), .mv (.t 22), none, []⟩,
 ⟨(some 24), .faddr 3 (.t 1), (some (23, true)), []⟩,
 ⟨(some 25), .load false 1 (.t 24), (some (23, true)), []⟩,
 ⟨(some 26), .bin .eql (.t 25) (.k (.i .i64 0)), (some (23, true)), []⟩,
 ⟨(some 27), .mv (.t 26), (some (23, true)), []⟩,
 ⟨(some 28), .faddr 0 (.t 1), (some (27, false)), []⟩,
 ⟨(some 29), .load false 1 (.t 28), (some (27, false)), []⟩,
 ⟨(some 30), .call 65 [(.t 29)], (some (27, false)), []⟩,
 ⟨(some 31), .pick (.t 27) (.k (.b true)) (.t 30), (some (23, true)), []⟩,
 ⟨(some 32), .pick (.t 23) (.t 31) (.k (.b false)), none, []⟩,
 ⟨(some 2), .mv (.t 32), none, []⟩] false [1, 5, 6, 7, 8, 9, 10, 11, 12, 13, 14, 15, 16, 17, 18, 19, 20, 21, 22, 23, 24, 25, 26, 27, 28, 29, 30, 31, 32]) (
 .ret))))
 [.tmp 2]
def m21 : MF := .code 1 (
 .seq (
 .reg [
 ⟨(some 1), .box (.t 0), none, []⟩,
 ⟨(some 2), .mv (.k (.b false)), none, []⟩] false [0, 2]) (
 .seq (
 .reg [
 ⟨(some 3), .load true 4 (.t 1), none, []⟩,
 ⟨(some 4), .build [.i .i64 0, .i .i64 0, .i .i64 0, .i .i64 0] [], none, []⟩,
 ⟨(some 5), .eq false true [.i, .i, .i, .i] (.t 3) (.t 4), none, []⟩,
 ⟨(some 2), .mv (.t 5), none, []⟩] false [1, 3, 4, 5]) (
 .ret)))
 [.tmp 2]
def m62 : MF := .code 3 (
 .seq (
 .reg [
 ⟨(some 6), .mv (.k (.b false)), none, []⟩] false [6]) (
 .seq (
 .reg [
 ⟨(some 7), .mv (.t 0), none, []⟩,
 ⟨(some 8), .mv (.t 1), none, []⟩,
 ⟨(some 9), .bin .geq (.t 7) (.t 8), none, []⟩,
 ⟨(some 10), .mv (.t 9), none, []⟩,
 ⟨(some 11), .mv (.t 0), (some (10, true)), []⟩,
 ⟨(some 12), .mv (.t 2), (some (10, true)), []⟩,
 ⟨(some 13), .bin .leq (.t 11) (.t 12), (some (10, true)), []⟩,
 ⟨(some 14), .pick (.t 10) (.t 13) (.k (.b false)), none, []⟩,
 ⟨(some 6), .mv (.t 14), none, []⟩] false [0, 1, 2, 7, 8, 9, 10, 11, 12, 13, 14]) (
 .ret)))
 [.tmp 6]
def m64 : MF := .code 1 (
 .seq (
 .reg [
 ⟨(some 2), .mv (.k (.b false)), none, []⟩] false [2]) (
 .seq (
 .reg [
 ⟨(some 3), .mv (.t 0), none, []⟩,
 ⟨(some 4), .bin .geq (.t 3) (.k (.i .i64 0)), none, []⟩,
 ⟨(some 5), .mv (.t 4), none, []⟩,
 ⟨(some 6), .mv (.t 0), (some (5, true)), []⟩,
 ⟨(some 7), .bin .leq (.t 6) (.k (.i .i64 65535)), (some (5, true)), []⟩,
 ⟨(some 8), .pick (.t 5) (.t 7) (.k (.b false)), none, []⟩,
 ⟨(some 2), .mv (.t 8), none, []⟩] false [0, 3, 4, 5, 6, 7, 8]) (
 .ret)))
 [.tmp 2]
def m65 : MF := .code 1 (
 .seq (
 .reg [
 ⟨(some 2), .mv (.k (.b false)), none, []⟩] false [2]) (
 .seq (
 .reg [
 ⟨(some 3), .mv (.t 0), none, []⟩,
 ⟨(some 4), .bin .eql (.t 3) (.k (.i .i64 3)), none, []⟩,
 ⟨(some 5), .mv (.t 4), none, []⟩,
 ⟨(some 6), .mv (.t 0), (some (5, false)), []⟩,
 ⟨(some 7), .bin .eql (.t 6) (.k (.i .i64 4)), (some (5, false)), []⟩,
 ⟨(some 8), .pick (.t 5) (.k (.b true)) (.t 7), none, []⟩,
 ⟨(some 2), .mv (.t 8), none, []⟩] false [0, 3, 4, 5, 6, 7, 8]) (
 .ret)))
 [.tmp 2]
def m44 : MF := .code 2 (
 .seq (
 .reg [
 ⟨(some 2), .box (.t 0), none, []⟩,
 ⟨(some 4), .mv (.k (.b false)), none, []⟩] false [0, 4]) (
 .seq (
 .reg [
 ⟨(some 5), .mv (.t 1), none, []⟩,
 ⟨(some 6), .bin .geq (.t 5) (.k (.i .i64 0)), none, []⟩,
 ⟨(some 7), .mv (.t 6), none, []⟩,
 ⟨(some 8), .mv (.t 1), (some (7, true)), []⟩,
 ⟨(some 9), .faddr 4 (.t 2), (some (7, true)), []⟩,
 ⟨(some 10), .load false 1 (.t 9), (some (7, true)), []⟩,
 ⟨(some 11), .len false (.t 10), (some (7, true)), []⟩,
 ⟨(some 12), .bin .lss (.t 8) (.t 11), (some (7, true)), []⟩,
 ⟨(some 13), .pick (.t 7) (.t 12) (.k (.b false)), none, []⟩,
 ⟨(some 14), .mv (.t 13), none, []⟩,
 ⟨(some 15), .faddr 4 (.t 2), (some (14, true)), []⟩,
 ⟨(some 16), .load false 1 (.t 15), (some (14, true)), []⟩,
 ⟨(some 17), .mv (.t 1), (some (14, true)), []⟩,
 ⟨(some 18), .iaddr 13 (.t 16) (.t 17), (some (14, true)), []⟩,
 ⟨(some 19), .faddr 0 (.t 18), (some (14, true)), []⟩,
 ⟨(some 20), .load false 1 (.t 19), (some (14, true)), []⟩,
 ⟨(some 21), .bin .neq (.t 20) (.k (.i .i64 0)), (some (14, true)), []⟩,
 ⟨(some 22), .pick (.t 14) (.t 21) (.k (.b false)), none, []⟩,
 ⟨(some 4), .mv (.t 22), none, []⟩] false [1, 2, 5, 6, 7, 8, 9, 10, 11, 12, 13, 14, 15, 16, 17, 18, 19, 20, 21, 22]) (
 .ret)))
 [.tmp 4]
def m27 : MF := .code 1 (
 .seq (
 .reg [
 ⟨(some 1), .box (.t 0), none, []⟩,
 ⟨(some 2), .mv (.k (.b false)), none, []⟩] false [0, 2]) (
 .seq (
 .seq (
 .reg [
 ⟨(some 6), .faddr 4 (.t 1), none, []⟩,
 ⟨(some 7), .load false 1 (.t 6), none, []⟩,
 ⟨(some 8), .len false (.t 7), none, []⟩,
 ⟨(some 9), .mv (.k (.i .i64 0)), none, []⟩] false [6]) (
 .block 0 (
 .loop 2 [1, 7, 8, 9] [2] (
 .seq (
 .reg [
 ⟨(some 10), .bin .lss (.t 9) (.t 8), none, []⟩] false []) (
 .seq (
 .cond (.t 10) (
 .skip) (
 .exit 0)) (
 .seq (
 .block 1 (
 .seq (
 .reg [
 ⟨(some 11), .mv (.t 9), none, []⟩,
 ⟨(some 12), .iaddr 13 (.t 7) (.t 9), none, []⟩,
 ⟨(some 13), .load true 13 (.t 12), none, []⟩,
 ⟨(some 4), .alloc [.i .i64 0, .i .i64 0, .i .i64 0, .i .i64 0, .i .i64 0, .i .i64 0, .i .i64 0, .b false, .i .u64 0, .i .u64 0, .i .u64 0, .i .u64 0, .i .u64 0], none, []⟩,
 ⟨(some 3), .mv (.t 11), none, []⟩,
 ⟨none, .store 13 (.t 4) (.t 13), none, []⟩] false [11, 12, 13]) (
 .seq (
 .seq (
 .reg [
 ⟨(some 14), .load true 13 (.t 4), none, []⟩,
 ⟨(some 15), .call 45 [(.t 14)], none, []⟩,
 ⟨(some 16), .un .not (.t 15), none, []⟩] false [14, 15]) (
 .cond (.t 16) (
 .seq (
 .reg [
 ⟨(some 2), .mv (.k (.b false)), none, []⟩] false []) (
 .ret)) (
 .skip))) (
 .seq (
 .seq (
 .reg [
 ⟨(some 17), .faddr 5 (.t 4), none, []⟩,
 ⟨(some 18), .load false 1 (.t 17), none, []⟩,
 ⟨(some 19), .bin .gtr (.t 18) (.k (.i .i64 0)), none, []⟩,
 ⟨(some 20), .mv (.t 19), none, []⟩,
 ⟨(some 21), .faddr 5 (.t 4), (some (20, true)), []⟩,
 ⟨(some 22), .load false 1 (.t 21), (some (20, true)), []⟩,
 ⟨(some 23), .faddr 3 (.t 1), (some (20, true)), []⟩,
 ⟨(some 24), .load false 1 (.t 23), (some (20, true)), []⟩,
 ⟨(some 25), .len false (.t 24), (some (20, true)), []⟩,
 ⟨(some 26), .bin .gtr (.t 22) (.t 25), (some (20, true)), []⟩,
 ⟨(some 27), .mv (.t 26), (some (20, true)), []⟩,
 ⟨(some 28), .faddr 3 (.t 1), (some (27, false)), []⟩,
 ⟨(some 29), .load false 1 (.t 28), (some (27, false)), []⟩,
 ⟨(some 30), .faddr 5 (.t 4), (some (27, false)), []⟩,
 ⟨(some 31), .load false 1 (.t 30), (some (27, false)), []⟩,
 ⟨(some 32), .bin .sub (.t 31) (.k (.i .i64 1)), (some (27, false)), []⟩,
 ⟨(some 33), .iaddr 5 (.t 29) (.t 32), (some (27, false)), []⟩,
 ⟨(some 34), .faddr 0 (.t 33), (some (27, false)), []⟩,
 ⟨(some 35), .load true 4 (.t 34), (some (27, false)), []⟩,
 ⟨(some 36), .call 21 [(.t 35)], (some (27, false)), []⟩,
 ⟨(some 37), .pick (.t 27) (.k (.b true)) (.t 36), (some (20, true)), []⟩,
 ⟨(some 38), .pick (.t 20) (.t 37) (.k (.b false)), none, []⟩] false [17, 18, 19, 20, 21, 22, 23, 24, 25, 26, 27, 28, 29, 30, 31, 32, 33, 34, 35, 36, 37]) (
 .cond (.t 38) (
 .seq (
 .reg [
 ⟨(some 2), .mv (.k (.b false)), none, []⟩] false []) (
 .ret)) (
 .skip))) (
 .seq (
 .reg [
 ⟨(some 39), .mv (.t 3), none, []⟩,
 ⟨(some 40), .bin .geq (.t 39) (.k (.i .i64 2)), none, []⟩,
 ⟨(some 41), .mv (.t 40), none, []⟩,
 ⟨(some 42), .mv (.t 3), (some (41, true)), []⟩,
 ⟨(some 43), .faddr 0 (.t 1), (some (41, true)), []⟩,
 ⟨(some 44), .faddr 0 (.t 43), (some (41, true)), []⟩,
 ⟨(some 45), .load false 1 (.t 44), (some (41, true)), []⟩,
 ⟨(some 46), .bin .add (.k (.i .i64 2)) (.t 45), (some (41, true)), []⟩,
 ⟨(some 47), .bin .lss (.t 42) (.t 46), (some (41, true)), []⟩,
 ⟨(some 48), .pick (.t 41) (.t 47) (.k (.b false)), none, []⟩,
 ⟨(some 5), .mv (.t 48), none, []⟩] false [39, 40, 41, 42, 43, 44, 45, 46, 47, 48]) (
 .seq (
 .seq (
 .reg [
 ⟨(some 49), .mv (.t 5), none, []⟩,
 ⟨(some 50), .mv (.t 49), none, []⟩,
 ⟨(some 51), .load true 13 (.t 4), (some (50, true)), [4, 7]⟩,
 ⟨(some 52), .faddr 0 (.t 1), (some (50, true)), []⟩,
 ⟨(some 53), .load true 3 (.t 52), (some (50, true)), [2]⟩,
 ⟨(some 54), .mv (.t 3), (some (50, true)), []⟩,
 ⟨(some 55), .bin .sub (.t 54) (.k (.i .i64 2)), (some (50, true)), []⟩,
 ⟨(some 56), .call 46 [(.t 53), (.t 55)], (some (50, true)), [2]⟩,
 ⟨(some 57), .build [.i .i64 0, .i .i64 0, .i .i64 0, .i .i64 0, .i .i64 0, .i .i64 0, .i .i64 0, .b false, .i .u64 0, .i .u64 0, .i .u64 0, .i .u64 0, .i .u64 0] [(0, 1, (.k (.i .i64 2))), (1, 1, (.k (.i .i64 3))), (2, 1, (.t 56))], (some (50, true)), []⟩,
 ⟨(some 58), .eq true true [.i, .i, .i, .i, .i, .i, .i, .b, .i, .i, .i, .i, .i] (.t 51) (.t 57), (some (50, true)), []⟩,
 ⟨(some 59), .pick (.t 50) (.t 58) (.k (.b false)), none, []⟩] true [49, 50, 51, 52, 53, 54, 55, 56, 57, 58]) (
 .cond (.t 59) (
 .seq (
 .reg [
 ⟨(some 2), .mv (.k (.b false)), none, []⟩] false []) (
 .ret)) (
 .skip))) (
 .seq (
 .reg [
 ⟨(some 60), .mv (.t 5), none, []⟩,
 ⟨(some 61), .un .not (.t 60), none, []⟩,
 ⟨(some 62), .mv (.t 61), none, []⟩,
 ⟨(some 63), .faddr 0 (.t 4), (some (62, true)), []⟩,
 ⟨(some 64), .load false 1 (.t 63), (some (62, true)), []⟩,
 ⟨(some 65), .bin .neq (.t 64) (.k (.i .i64 0)), (some (62, true)), []⟩,
 ⟨(some 66), .pick (.t 62) (.t 65) (.k (.b false)), none, []⟩,
 ⟨(some 67), .mv (.t 66), none, []⟩,
 ⟨(some 68), .load true 5 (.t 1), (some (67, true)), []⟩,
 ⟨(some 69), .mv (.t 3), (some (67, true)), []⟩,
 ⟨(some 70), .call 47 [(.t 68), (.t 69)], (some (67, true)), []⟩,
 ⟨(some 71), .len false (.t 70), (some (67, true)), []⟩,
 ⟨(some 72), .bin .eql (.t 71) (.k (.i .i64 0)), (some (67, true)), []⟩,
 ⟨(some 73), .pick (.t 67) (.t 72) (.k (.b false)), none, []⟩] false [3, 4, 5, 60, 61, 62, 63, 64, 65, 66, 67, 68, 69, 70, 71, 72]) (
 .cond (.t 73) (
 .seq (
 .reg [
 ⟨(some 2), .mv (.k (.b false)), none, []⟩] false []) (
 .ret)) (
 .skip))))))))) (
 .reg [
 ⟨(some 74), .bin .add (.t 9) (.k (.i .i64 1)), none, []⟩,
 ⟨(some 9), .mv (.t 74), none, []⟩] false [74]))))))) (
 .seq (
 .reg [
 ⟨(some 2), .mv (.k (.b true)), none, []⟩] false []) (
 .ret))))
 [.tmp 2]
def m47 : MF := .code 2 (
 .seq (
 .reg [
 ⟨(some 2), .box (.t 0), none, []⟩,
 ⟨(some 4), .mv (.k (.lst true true 0 [])), none, []⟩] false [0, 4]) (
 .seq (
 .reg [
 ⟨(some 5), .mv (.k (.lst true true 0 [])), none, []⟩] false []) (
 .seq (
 .seq (
 .reg [
 ⟨(some 8), .faddr 3 (.t 2), none, []⟩,
 ⟨(some 9), .load false 1 (.t 8), none, []⟩,
 ⟨(some 10), .len false (.t 9), none, []⟩,
 ⟨(some 11), .mv (.k (.i .i64 0)), none, []⟩] false [2, 8]) (
 .block 0 (
 .loop 3 [1, 5, 9, 10, 11] [5] (
 .seq (
 .reg [
 ⟨(some 12), .bin .lss (.t 11) (.t 10), none, []⟩] false []) (
 .seq (
 .cond (.t 12) (
 .skip) (
 .exit 0)) (
 .seq (
 .block 1 (
 .seq (
 .reg [
 ⟨(some 13), .mv (.t 11), none, []⟩,
 ⟨(some 14), .iaddr 5 (.t 9) (.t 11), none, []⟩,
 ⟨(some 15), .load true 5 (.t 14), none, []⟩,
 ⟨(some 7), .alloc [.i .i64 0, .i .i64 0, .i .i64 0, .i .i64 0, .i .i64 0], none, []⟩,
 ⟨(some 6), .mv (.t 13), none, []⟩,
 ⟨none, .store 5 (.t 7) (.t 15), none, []⟩] false [13, 14, 15]) (
 .seq (
 .reg [
 ⟨(some 16), .faddr 0 (.t 7), none, []⟩,
 ⟨(some 17), .load true 4 (.t 16), none, []⟩,
 ⟨(some 18), .call 21 [(.t 17)], none, []⟩,
 ⟨(some 19), .un .not (.t 18), none, []⟩,
 ⟨(some 20), .mv (.t 19), none, []⟩,
 ⟨(some 21), .faddr 0 (.t 7), (some (20, true)), []⟩,
 ⟨(some 22), .faddr 1 (.t 21), (some (20, true)), []⟩,
 ⟨(some 23), .load false 1 (.t 22), (some (20, true)), []⟩,
 ⟨(some 24), .mv (.t 1), (some (20, true)), []⟩,
 ⟨(some 25), .bin .eql (.t 23) (.t 24), (some (20, true)), []⟩,
 ⟨(some 26), .pick (.t 20) (.t 25) (.k (.b false)), none, []⟩] false [7, 16, 17, 18, 19, 20, 21, 22, 23, 24, 25]) (
 .cond (.t 26) (
 .reg [
 ⟨(some 27), .mv (.t 5), none, []⟩,
 ⟨(some 28), .mv (.t 6), none, []⟩,
 ⟨(some 29), .bsl [.i .i64 0] 1 [(0, (.t 28))], none, []⟩,
 ⟨(some 30), .append 1 (.t 27) (.t 29), none, []⟩,
 ⟨(some 5), .mv (.t 30), none, []⟩] false [6, 27, 28, 29, 30]) (
 .skip))))) (
 .reg [
 ⟨(some 31), .bin .add (.t 11) (.k (.i .i64 1)), none, []⟩,
 ⟨(some 11), .mv (.t 31), none, []⟩] false [31]))))))) (
 .seq (
 .reg [
 ⟨(some 32), .mv (.t 5), none, []⟩,
 ⟨(some 4), .mv (.t 32), none, []⟩] false [5, 32]) (
 .ret)))))
 [.fz [[1]], .tmp 4]
def m28 : MF := .code 1 (
 .seq (
 .reg [
 ⟨(some 1), .box (.t 0), none, []⟩,
 ⟨(some 2), .mv (.k (.b false)), none, []⟩] false [0, 2]) (
 .seq (
 .reg [
 ⟨(some 10), .faddr 3 (.t 1), none, []⟩,
 ⟨(some 11), .load false 1 (.t 10), none, []⟩,
 ⟨(some 12), .len false (.t 11), none, []⟩,
 ⟨(some 13), .mkrow [.b false] (.t 12) (.t 12), none, []⟩,
 ⟨(some 3), .mv (.t 13), none, []⟩] false [10, 11, 12, 13]) (
 .seq (
 .seq (
 .reg [
 ⟨(some 14), .faddr 4 (.t 1), none, []⟩,
 ⟨(some 15), .load false 1 (.t 14), none, []⟩,
 ⟨(some 16), .len false (.t 15), none, []⟩,
 ⟨(some 17), .mv (.k (.i .i64 0)), none, []⟩] false [14]) (
 .block 0 (
 .loop 3 [1, 3, 15, 16, 17] [1, 2, 3] (
 .seq (
 .reg [
 ⟨(some 18), .bin .lss (.t 17) (.t 16), none, []⟩] false []) (
 .seq (
 .cond (.t 18) (
 .skip) (
 .exit 0)) (
 .seq (
 .block 1 (
 .seq (
 .reg [
 ⟨(some 19), .iaddr 13 (.t 15) (.t 17), none, []⟩,
 ⟨(some 20), .load true 13 (.t 19), none, []⟩,
 ⟨(some 5), .alloc [.i .i64 0, .i .i64 0, .i .i64 0, .i .i64 0, .i .i64 0, .i .i64 0, .i .i64 0, .b false, .i .u64 0, .i .u64 0, .i .u64 0, .i .u64 0, .i .u64 0], none, []⟩,
 ⟨none, .store 13 (.t 5) (.t 20), none, []⟩] false [19, 20]) (
 .seq (
 .seq (
 .reg [
 ⟨(some 21), .faddr 0 (.t 5), none, []⟩,
 ⟨(some 22), .load false 1 (.t 21), none, []⟩,
 ⟨(some 23), .bin .neq (.t 22) (.k (.i .i64 2)), none, []⟩] false [21, 22]) (
 .cond (.t 23) (
 .exit 1) (
 .skip))) (
 .seq (
 .reg [
 ⟨(some 24), .faddr 1 (.t 5), none, []⟩,
 ⟨(some 25), .load false 1 (.t 24), none, []⟩,
 ⟨(some 26), .bin .shl (.k (.i .i64 1)) (.t 25), none, []⟩,
 ⟨(some 27), .mv (.k (.i .i64 0)), none, []⟩] false [24, 25]) (
 .block 2 (
 .loop 7 [1, 3, 5, 15, 16, 17, 26, 27] [1, 2, 3, 15, 16, 17] (
 .seq (
 .reg [
 ⟨(some 28), .bin .lss (.t 27) (.t 26), none, []⟩] false []) (
 .seq (
 .cond (.t 28) (
 .skip) (
 .exit 2)) (
 .seq (
 .block 3 (
 .seq (
 .reg [
 ⟨(some 29), .mv (.t 27), none, []⟩,
 ⟨(some 6), .mv (.t 29), none, []⟩] false [29]) (
 .seq (
 .reg [
 ⟨(some 30), .faddr 2 (.t 5), none, []⟩,
 ⟨(some 31), .load false 1 (.t 30), none, []⟩,
 ⟨(some 32), .mv (.t 6), none, []⟩,
 ⟨(some 33), .bin .add (.t 31) (.t 32), none, []⟩,
 ⟨(some 7), .mv (.t 33), none, []⟩] false [6, 30, 31, 32, 33]) (
 .seq (
 .seq (
 .reg [
 ⟨(some 34), .mv (.t 7), none, []⟩,
 ⟨(some 35), .mv (.t 3), none, []⟩,
 ⟨(some 36), .len false (.t 35), none, []⟩,
 ⟨(some 37), .bin .geq (.t 34) (.t 36), none, []⟩,
 ⟨(some 38), .mv (.t 37), none, []⟩,
 ⟨(some 39), .mv (.t 3), (some (38, false)), []⟩,
 ⟨(some 40), .mv (.t 7), (some (38, false)), []⟩,
 ⟨(some 41), .iaddr 1 (.t 39) (.t 40), (some (38, false)), []⟩,
 ⟨(some 42), .load false 1 (.t 41), (some (38, false)), []⟩,
 ⟨(some 43), .pick (.t 38) (.k (.b true)) (.t 42), none, []⟩] false [34, 35, 36, 37, 38, 39, 40, 41, 42]) (
 .cond (.t 43) (
 .seq (
 .reg [
 ⟨(some 2), .mv (.k (.b false)), none, []⟩] false []) (
 .ret)) (
 .skip))) (
 .reg [
 ⟨(some 44), .mv (.t 3), none, []⟩,
 ⟨(some 45), .mv (.t 7), none, []⟩,
 ⟨(some 46), .iaddr 1 (.t 44) (.t 45), none, []⟩,
 ⟨none, .store 1 (.t 46) (.k (.b true)), none, []⟩] false [7, 44, 45, 46]))))) (
 .reg [
 ⟨(some 47), .bin .add (.t 27) (.k (.i .i64 1)), none, []⟩,
 ⟨(some 27), .mv (.t 47), none, []⟩] false [47])))))))))) (
 .reg [
 ⟨(some 48), .bin .add (.t 17) (.k (.i .i64 1)), none, []⟩,
 ⟨(some 17), .mv (.t 48), none, []⟩] false [48]))))))) (
 .seq (
 .seq (
 .reg [
 ⟨(some 49), .faddr 3 (.t 1), none, []⟩,
 ⟨(some 50), .load false 1 (.t 49), none, []⟩,
 ⟨(some 51), .len false (.t 50), none, []⟩,
 ⟨(some 52), .mv (.k (.i .i64 0)), none, []⟩] false [1, 49]) (
 .block 4 (
 .loop 16 [3, 50, 51, 52] [2] (
 .seq (
 .reg [
 ⟨(some 53), .bin .lss (.t 52) (.t 51), none, []⟩] false []) (
 .seq (
 .cond (.t 53) (
 .skip) (
 .exit 4)) (
 .seq (
 .block 5 (
 .seq (
 .reg [
 ⟨(some 54), .mv (.t 52), none, []⟩,
 ⟨(some 55), .iaddr 5 (.t 50) (.t 52), none, []⟩,
 ⟨(some 56), .load true 5 (.t 55), none, []⟩,
 ⟨(some 9), .alloc [.i .i64 0, .i .i64 0, .i .i64 0, .i .i64 0, .i .i64 0], none, []⟩,
 ⟨(some 8), .mv (.t 54), none, []⟩,
 ⟨none, .store 5 (.t 9) (.t 56), none, []⟩] false [54, 55, 56]) (
 .seq (
 .reg [
 ⟨(some 57), .mv (.t 3), none, []⟩,
 ⟨(some 58), .mv (.t 8), none, []⟩,
 ⟨(some 59), .iaddr 1 (.t 57) (.t 58), none, []⟩,
 ⟨(some 60), .load false 1 (.t 59), none, []⟩,
 ⟨(some 61), .un .not (.t 60), none, []⟩,
 ⟨(some 62), .mv (.t 61), none, []⟩,
 ⟨(some 63), .faddr 0 (.t 9), (some (62, true)), []⟩,
 ⟨(some 64), .load true 4 (.t 63), (some (62, true)), []⟩,
 ⟨(some 65), .call 21 [(.t 64)], (some (62, true)), []⟩,
 ⟨(some 66), .un .not (.t 65), (some (62, true)), []⟩,
 ⟨(some 67), .pick (.t 62) (.t 66) (.k (.b false)), none, []⟩] false [8, 9, 57, 58, 59, 60, 61, 62, 63, 64, 65, 66]) (
 .cond (.t 67) (
 .seq (
 .reg [
 ⟨(some 2), .mv (.k (.b false)), none, []⟩] false []) (
 .ret)) (
 .skip))))) (
 .reg [
 ⟨(some 68), .bin .add (.t 52) (.k (.i .i64 1)), none, []⟩,
 ⟨(some 52), .mv (.t 68), none, []⟩] false [68]))))))) (
 .seq (
 .reg [
 ⟨(some 2), .mv (.k (.b true)), none, []⟩] false []) (
 .ret))))))
 [.tmp 2]
def m29 : MF := .code 1 (
 .seq (
 .reg [
 ⟨(some 1), .box (.t 0), none, []⟩,
 ⟨(some 2), .mv (.k (.b false)), none, []⟩] false [0, 2]) (
 .seq (
 .seq (
 .reg [
 ⟨(some 5), .faddr 3 (.t 1), none, []⟩,
 ⟨(some 6), .load false 1 (.t 5), none, []⟩,
 ⟨(some 7), .len false (.t 6), none, []⟩,
 ⟨(some 8), .mv (.k (.i .i64 0)), none, []⟩] false [5]) (
 .block 0 (
 .loop 2 [1, 6, 7, 8] [2] (
 .seq (
 .reg [
 ⟨(some 9), .bin .lss (.t 8) (.t 7), none, []⟩] false []) (
 .seq (
 .cond (.t 9) (
 .skip) (
 .exit 0)) (
 .seq (
 .block 1 (
 .seq (
 .reg [
 ⟨(some 10), .mv (.t 8), none, []⟩,
 ⟨(some 11), .iaddr 5 (.t 6) (.t 8), none, []⟩,
 ⟨(some 12), .load true 5 (.t 11), none, []⟩,
 ⟨(some 4), .alloc [.i .i64 0, .i .i64 0, .i .i64 0, .i .i64 0, .i .i64 0], none, []⟩,
 ⟨(some 3), .mv (.t 10), none, []⟩,
 ⟨none, .store 5 (.t 4) (.t 12), none, []⟩] false [10, 11, 12]) (
 .seq (
 .reg [
 ⟨(some 13), .faddr 0 (.t 4), none, []⟩,
 ⟨(some 14), .faddr 0 (.t 13), none, []⟩,
 ⟨(some 15), .load false 1 (.t 14), none, []⟩,
 ⟨(some 16), .bin .eql (.t 15) (.k (.i .i64 2)), none, []⟩,
 ⟨(some 17), .mv (.t 16), none, []⟩,
 ⟨(some 18), .load true 5 (.t 1), (some (17, true)), []⟩,
 ⟨(some 19), .faddr 0 (.t 4), (some (17, true)), []⟩,
 ⟨(some 20), .faddr 1 (.t 19), (some (17, true)), []⟩,
 ⟨(some 21), .load false 1 (.t 20), (some (17, true)), []⟩,
 ⟨(some 22), .mv (.t 3), (some (17, true)), []⟩,
 ⟨(some 23), .call 48 [(.t 18), (.t 21), (.t 22)], (some (17, true)), []⟩,
 ⟨(some 24), .pick (.t 17) (.t 23) (.k (.b false)), none, []⟩] false [3, 4, 13, 14, 15, 16, 17, 18, 19, 20, 21, 22, 23]) (
 .cond (.t 24) (
 .seq (
 .reg [
 ⟨(some 2), .mv (.k (.b true)), none, []⟩] false []) (
 .ret)) (
 .skip))))) (
 .reg [
 ⟨(some 25), .bin .add (.t 8) (.k (.i .i64 1)), none, []⟩,
 ⟨(some 8), .mv (.t 25), none, []⟩] false [25]))))))) (
 .seq (
 .reg [
 ⟨(some 2), .mv (.k (.b false)), none, []⟩] false []) (
 .ret))))
 [.tmp 2]
def m48 : MF := .code 3 (
 .seq (
 .reg [
 ⟨(some 3), .box (.t 0), none, []⟩,
 ⟨(some 6), .mv (.k (.b false)), none, []⟩] false [0, 6]) (
 .seq (
 .seq (
 .reg [
 ⟨(some 8), .load true 5 (.t 3), none, []⟩,
 ⟨(some 9), .mv (.t 1), none, []⟩,
 ⟨(some 10), .call 44 [(.t 8), (.t 9)], none, []⟩,
 ⟨(some 11), .un .not (.t 10), none, []⟩,
 ⟨(some 12), .mv (.t 11), none, []⟩,
 ⟨(some 13), .faddr 4 (.t 3), (some (12, false)), []⟩,
 ⟨(some 14), .load false 1 (.t 13), (some (12, false)), []⟩,
 ⟨(some 15), .mv (.t 1), (some (12, false)), []⟩,
 ⟨(some 16), .iaddr 13 (.t 14) (.t 15), (some (12, false)), []⟩,
 ⟨(some 17), .faddr 0 (.t 16), (some (12, false)), []⟩,
 ⟨(some 18), .load false 1 (.t 17), (some (12, false)), []⟩,
 ⟨(some 19), .bin .neq (.t 18) (.k (.i .i64 2)), (some (12, false)), []⟩,
 ⟨(some 20), .pick (.t 12) (.k (.b true)) (.t 19), none, []⟩] false [8, 9, 10, 11, 12, 13, 14, 15, 16, 17, 18, 19]) (
 .cond (.t 20) (
 .seq (
 .reg [
 ⟨(some 6), .mv (.k (.b false)), none, []⟩] false []) (
 .ret)) (
 .skip))) (
 .seq (
 .reg [
 ⟨(some 21), .mkmap, none, []⟩,
 ⟨(some 7), .mv (.t 21), none, []⟩] false [21]) (
 .seq (
 .reg [
 ⟨(some 22), .load true 5 (.t 3), none, []⟩,
 ⟨(some 23), .mv (.t 1), none, []⟩,
 ⟨(some 24), .mv (.t 7), none, []⟩,
 ⟨(some 25), .call 67 [(.t 22), (.t 23), (.t 24)], none, []⟩] false [1, 22, 23, 24, 25]) (
 .seq (
 .reg [
 ⟨(some 26), .mv (.t 7), none, []⟩,
 ⟨(some 27), .load true 5 (.t 3), none, []⟩,
 ⟨(some 28), .mv (.t 2), none, []⟩,
 ⟨(some 29), .call 68 [(.t 27), (.t 28)], none, []⟩,
 ⟨(some 30), .look (.b false) false (.t 26) (.t 29), none, []⟩,
 ⟨(some 6), .mv (.t 30), none, []⟩] false [2, 3, 7, 26, 27, 28, 29, 30]) (
 .ret))))))
 [.tmp 6]
def m67 : MF := .code 3 (
 .seq (
 .reg [
 ⟨(some 3), .box (.t 0), none, []⟩] false [0]) (
 .seq (
 .seq (
 .reg [
 ⟨(some 8), .mv (.t 2), none, []⟩,
 ⟨(some 9), .mv (.t 1), none, []⟩,
 ⟨(some 10), .look (.b false) false (.t 8) (.t 9), none, []⟩] false [8, 9]) (
 .cond (.t 10) (
 .ret) (
 .skip))) (
 .seq (
 .reg [
 ⟨(some 11), .mv (.t 2), none, []⟩,
 ⟨(some 12), .mv (.t 1), none, []⟩,
 ⟨none, .mset (.t 11) (.t 12) (.k (.b true)), none, []⟩] false [11, 12]) (
 .seq (
 .reg [
 ⟨(some 13), .faddr 3 (.t 3), none, []⟩,
 ⟨(some 14), .load false 1 (.t 13), none, []⟩,
 ⟨(some 15), .len false (.t 14), none, []⟩,
 ⟨(some 16), .mv (.k (.i .i64 0)), none, []⟩] false [13]) (
 .block 0 (
 .loop 4 [1, 2, 3, 14, 15, 16] [] (
 .seq (
 .reg [
 ⟨(some 17), .bin .lss (.t 16) (.t 15), none, []⟩] false []) (
 .seq (
 .cond (.t 17) (
 .skip) (
 .exit 0)) (
 .seq (
 .block 1 (
 .seq (
 .reg [
 ⟨(some 18), .mv (.t 16), none, []⟩,
 ⟨(some 19), .iaddr 5 (.t 14) (.t 16), none, []⟩,
 ⟨(some 20), .load true 5 (.t 19), none, []⟩,
 ⟨(some 7), .alloc [.i .i64 0, .i .i64 0, .i .i64 0, .i .i64 0, .i .i64 0], none, []⟩,
 ⟨(some 6), .mv (.t 18), none, []⟩,
 ⟨none, .store 5 (.t 7) (.t 20), none, []⟩] false [18, 19, 20]) (
 .seq (
 .reg [
 ⟨(some 21), .faddr 0 (.t 7), none, []⟩,
 ⟨(some 22), .faddr 0 (.t 21), none, []⟩,
 ⟨(some 23), .load false 1 (.t 22), none, []⟩,
 ⟨(some 24), .bin .eql (.t 23) (.k (.i .i64 2)), none, []⟩,
 ⟨(some 25), .mv (.t 24), none, []⟩,
 ⟨(some 26), .faddr 4 (.t 3), (some (25, true)), []⟩,
 ⟨(some 27), .load false 1 (.t 26), (some (25, true)), []⟩,
 ⟨(some 28), .mv (.t 1), (some (25, true)), []⟩,
 ⟨(some 29), .iaddr 13 (.t 27) (.t 28), (some (25, true)), []⟩,
 ⟨(some 30), .load true 13 (.t 29), (some (25, true)), []⟩,
 ⟨(some 31), .mv (.t 6), (some (25, true)), []⟩,
 ⟨(some 32), .call 83 [(.t 30), (.t 31)], (some (25, true)), []⟩,
 ⟨(some 33), .pick (.t 25) (.t 32) (.k (.b false)), none, []⟩,
 ⟨(some 34), .mv (.t 33), none, []⟩,
 ⟨(some 35), .load true 5 (.t 3), (some (34, true)), []⟩,
 ⟨(some 36), .faddr 0 (.t 7), (some (34, true)), []⟩,
 ⟨(some 37), .faddr 1 (.t 36), (some (34, true)), []⟩,
 ⟨(some 38), .load false 1 (.t 37), (some (34, true)), []⟩,
 ⟨(some 39), .call 44 [(.t 35), (.t 38)], (some (34, true)), []⟩,
 ⟨(some 40), .pick (.t 34) (.t 39) (.k (.b false)), none, []⟩] false [6, 21, 22, 23, 24, 25, 26, 27, 28, 29, 30, 31, 32, 33, 34, 35, 36, 37, 38, 39]) (
 .cond (.t 40) (
 .reg [
 ⟨(some 41), .load true 5 (.t 3), none, []⟩,
 ⟨(some 42), .faddr 0 (.t 7), none, []⟩,
 ⟨(some 43), .faddr 1 (.t 42), none, []⟩,
 ⟨(some 44), .load false 1 (.t 43), none, []⟩,
 ⟨(some 45), .mv (.t 2), none, []⟩,
 ⟨(some 46), .call 67 [(.t 41), (.t 44), (.t 45)], none, []⟩] false [7, 41, 42, 43, 44, 45, 46]) (
 .skip))))) (
 .reg [
 ⟨(some 47), .bin .add (.t 16) (.k (.i .i64 1)), none, []⟩,
 ⟨(some 16), .mv (.t 47), none, []⟩] false [47]))))))))))
 []
def m83 : MF := .code 2 (
 .seq (
 .reg [
 ⟨(some 2), .box (.t 0), none, []⟩,
 ⟨(some 4), .mv (.k (.b false)), none, []⟩] false [0, 4]) (
 .seq (
 .reg [
 ⟨(some 5), .faddr 0 (.t 2), none, []⟩,
 ⟨(some 6), .load false 1 (.t 5), none, []⟩,
 ⟨(some 7), .bin .eql (.t 6) (.k (.i .i64 2)), none, []⟩,
 ⟨(some 8), .mv (.t 7), none, []⟩,
 ⟨(some 9), .mv (.t 1), (some (8, true)), []⟩,
 ⟨(some 10), .faddr 2 (.t 2), (some (8, true)), []⟩,
 ⟨(some 11), .load false 1 (.t 10), (some (8, true)), []⟩,
 ⟨(some 12), .bin .geq (.t 9) (.t 11), (some (8, true)), []⟩,
 ⟨(some 13), .pick (.t 8) (.t 12) (.k (.b false)), none, []⟩,
 ⟨(some 14), .mv (.t 13), none, []⟩,
 ⟨(some 15), .mv (.t 1), (some (14, true)), []⟩,
 ⟨(some 16), .faddr 2 (.t 2), (some (14, true)), []⟩,
 ⟨(some 17), .load false 1 (.t 16), (some (14, true)), [14]⟩,
 ⟨(some 18), .faddr 1 (.t 2), (some (14, true)), []⟩,
 ⟨(some 19), .load false 1 (.t 18), (some (14, true)), [12]⟩,
 ⟨(some 20), .bin .shl (.k (.i .i64 1)) (.t 19), (some (14, true)), []⟩,
 ⟨(some 21), .bin .add (.t 17) (.t 20), (some (14, true)), []⟩,
 ⟨(some 22), .bin .lss (.t 15) (.t 21), (some (14, true)), []⟩,
 ⟨(some 23), .pick (.t 14) (.t 22) (.k (.b false)), none, []⟩,
 ⟨(some 4), .mv (.t 23), none, []⟩] true [1, 2, 5, 6, 7, 8, 9, 10, 11, 12, 13, 14, 15, 16, 17, 18, 19, 20, 21, 22, 23]) (
 .ret)))
 [.tmp 4]
def m68 : MF := .code 2 (
 .seq (
 .reg [
 ⟨(some 2), .box (.t 0), none, []⟩,
 ⟨(some 3), .box (.t 1), none, []⟩,
 ⟨(some 4), .mv (.k (.i .i64 0)), none, []⟩] false [0, 1, 4]) (
 .seq (
 .reg [
 ⟨(some 5), .faddr 4 (.t 2), none, []⟩,
 ⟨(some 6), .load false 1 (.t 5), none, []⟩,
 ⟨(some 7), .mkfn 84 [(.t 3)], none, []⟩,
 ⟨(some 8), .call 36 [(.t 6), (.t 7)], none, []⟩,
 ⟨(some 4), .mv (.t 8), none, []⟩] false [2, 3, 5, 6, 7, 8]) (
 .ret)))
 [.tmp 4]
def m36 : MF := .code 2 (
 .seq (
 .reg [
 ⟨(some 4), .mv (.k (.i .i64 0)), none, []⟩] false [4]) (
 .seq (
 .seq (
 .reg [
 ⟨(some 6), .mv (.t 0), none, []⟩,
 ⟨(some 7), .len false (.t 6), none, []⟩,
 ⟨(some 8), .mv (.k (.i .i64 0)), none, []⟩] false [6]) (
 .block 0 (
 .loop 2 [0, 1, 7, 8] [4] (
 .seq (
 .reg [
 ⟨(some 9), .bin .lss (.t 8) (.t 7), none, []⟩] false []) (
 .seq (
 .cond (.t 9) (
 .skip) (
 .exit 0)) (
 .seq (
 .block 1 (
 .seq (
 .reg [
 ⟨(some 10), .mv (.t 8), none, []⟩,
 ⟨(some 5), .mv (.t 10), none, []⟩] false [10]) (
 .seq (
 .reg [
 ⟨(some 11), .mv (.t 1), none, []⟩,
 ⟨(some 12), .mv (.t 0), none, []⟩,
 ⟨(some 13), .mv (.t 5), none, []⟩,
 ⟨(some 14), .iaddr 13 (.t 12) (.t 13), none, []⟩,
 ⟨(some 15), .load true 13 (.t 14), none, []⟩,
 ⟨(some 16), .callv (.t 11) [(.t 15)], none, []⟩] false [11, 12, 13, 14, 15]) (
 .cond (.t 16) (
 .seq (
 .reg [
 ⟨(some 17), .mv (.t 5), none, []⟩,
 ⟨(some 4), .mv (.t 17), none, []⟩] false [5, 17]) (
 .ret)) (
 .skip))))) (
 .reg [
 ⟨(some 18), .bin .add (.t 8) (.k (.i .i64 1)), none, []⟩,
 ⟨(some 8), .mv (.t 18), none, []⟩] false [18]))))))) (
 .seq (
 .reg [
 ⟨(some 4), .mv (.k (.i .i64 (-1))), none, []⟩] false []) (
 .ret))))
 [.tmp 4]
def m84 : MF := .code 2 (
 .seq (
 .reg [
 ⟨(some 2), .box (.t 0), none, []⟩,
 ⟨(some 3), .mv (.k (.b false)), none, []⟩] false [0, 3]) (
 .seq (
 .reg [
 ⟨(some 4), .load true 13 (.t 2), none, []⟩,
 ⟨(some 5), .load false 1 (.t 1), none, []⟩,
 ⟨(some 6), .call 83 [(.t 4), (.t 5)], none, []⟩,
 ⟨(some 3), .mv (.t 6), none, []⟩] false [1, 2, 4, 5, 6]) (
 .ret)))
 [.tmp 3]
def m14 : MF := .code 1 (
 .seq (
 .reg [
 ⟨(some 1), .box (.t 0), none, []⟩,
 ⟨(some 2), .alloc [.lst true true 0 []], none, []⟩] false [0]) (
 .seq (
 .reg [
 ⟨(some 3), .alloc [.lst true true 0 []], none, []⟩] false []) (
 .seq (
 .seq (
 .reg [
 ⟨(some 6), .faddr 3 (.t 1), none, []⟩,
 ⟨(some 7), .load false 1 (.t 6), none, []⟩,
 ⟨(some 8), .len false (.t 7), none, []⟩,
 ⟨(some 9), .mv (.k (.i .i64 0)), none, []⟩] false [1, 6]) (
 .block 0 (
 .loop 3 [2, 3, 7, 8, 9] [2, 3] (
 .seq (
 .reg [
 ⟨(some 10), .bin .lss (.t 9) (.t 8), none, []⟩] false []) (
 .seq (
 .cond (.t 10) (
 .skip) (
 .exit 0)) (
 .seq (
 .block 1 (
 .seq (
 .reg [
 ⟨(some 11), .iaddr 5 (.t 7) (.t 9), none, []⟩,
 ⟨(some 12), .load true 5 (.t 11), none, []⟩,
 ⟨(some 5), .alloc [.i .i64 0, .i .i64 0, .i .i64 0, .i .i64 0, .i .i64 0], none, []⟩,
 ⟨none, .store 5 (.t 5) (.t 12), none, []⟩] false [11, 12]) (
 .seq (
 .seq (
 .reg [
 ⟨(some 13), .faddr 0 (.t 5), none, []⟩,
 ⟨(some 14), .load true 4 (.t 13), none, []⟩,
 ⟨(some 15), .call 21 [(.t 14)], none, []⟩] false [13, 14]) (
 .cond (.t 15) (
 .reg [
 ⟨(some 16), .faddr 4 (.t 5), none, []⟩,
 ⟨none, .store 1 (.t 16) (.k (.i .i64 (-2))), none, []⟩] false [16]) (
 .skip))) (
 .reg [
 ⟨(some 17), .faddr 0 (.t 3), none, []⟩,
 ⟨(some 18), .load false 1 (.t 17), none, []⟩,
 ⟨(some 19), .faddr 4 (.t 5), none, []⟩,
 ⟨(some 20), .load false 1 (.t 19), none, []⟩,
 ⟨(some 21), .bsl [.i .i64 0] 1 [(0, (.t 20))], none, []⟩,
 ⟨(some 22), .append 1 (.t 18) (.t 21), none, []⟩,
 ⟨(some 23), .faddr 0 (.t 3), none, []⟩,
 ⟨none, .store 1 (.t 23) (.t 22), none, []⟩] false [5, 17, 18, 19, 20, 21, 22, 23])))) (
 .reg [
 ⟨(some 24), .bin .add (.t 9) (.k (.i .i64 1)), none, []⟩,
 ⟨(some 9), .mv (.t 24), none, []⟩] false [24]))))))) (
 .seq (
 .reg [
 ⟨(some 25), .load true 1 (.t 3), none, []⟩,
 ⟨none, .store 1 (.t 2) (.t 25), none, []⟩] false [3, 25]) (
 .ret)))))
 [.fz [[1]], .cell true 1 2]
def m13 : MF := .code 1 (
 .seq (
 .reg [
 ⟨(some 1), .box (.t 0), none, []⟩,
 ⟨(some 2), .mv (.k (.b false)), none, []⟩] false [0, 2]) (
 .seq (
 .seq (
 .reg [
 ⟨(some 8), .faddr 0 (.t 1), none, []⟩,
 ⟨(some 9), .load false 1 (.t 8), none, []⟩,
 ⟨(some 10), .len false (.t 9), none, []⟩,
 ⟨(some 11), .bin .gtr (.t 10) (.k (.i .i64 96)), none, []⟩] false [8, 9, 10]) (
 .cond (.t 11) (
 .seq (
 .reg [
 ⟨(some 2), .mv (.k (.b false)), none, []⟩] false []) (
 .ret)) (
 .skip))) (
 .seq (
 .seq (
 .reg [
 ⟨(some 12), .faddr 0 (.t 1), none, []⟩,
 ⟨(some 13), .load false 1 (.t 12), none, []⟩,
 ⟨(some 14), .len false (.t 13), none, []⟩,
 ⟨(some 15), .mv (.k (.i .i64 0)), none, []⟩] false [12]) (
 .block 0 (
 .loop 4 [1, 13, 14, 15] [1, 2] (
 .seq (
 .reg [
 ⟨(some 16), .bin .lss (.t 15) (.t 14), none, []⟩] false []) (
 .seq (
 .cond (.t 16) (
 .skip) (
 .exit 0)) (
 .seq (
 .block 1 (
 .seq (
 .reg [
 ⟨(some 17), .iaddr 1 (.t 13) (.t 15), none, []⟩,
 ⟨(some 18), .load false 1 (.t 17), none, []⟩,
 ⟨(some 4), .mv (.t 18), none, []⟩] false [17, 18]) (
 .seq (
 .reg [
 ⟨(some 19), .mv (.t 4), none, []⟩,
 ⟨(some 20), .bin .neq (.t 19) (.k (.i .i64 (-2))), none, []⟩,
 ⟨(some 21), .mv (.t 20), none, []⟩,
 ⟨(some 22), .mv (.t 4), (some (21, true)), []⟩,
 ⟨(some 23), .bin .neq (.t 22) (.k (.i .i64 (-1))), (some (21, true)), []⟩,
 ⟨(some 24), .pick (.t 21) (.t 23) (.k (.b false)), none, []⟩,
 ⟨(some 25), .mv (.t 24), none, []⟩,
 ⟨(some 26), .load true 1 (.t 1), (some (25, true)), []⟩,
 ⟨(some 27), .mv (.t 4), (some (25, true)), []⟩,
 ⟨(some 28), .call 35 [(.t 26), (.t 27)], (some (25, true)), []⟩,
 ⟨(some 29), .un .not (.t 28), (some (25, true)), []⟩,
 ⟨(some 30), .pick (.t 25) (.t 29) (.k (.b false)), none, []⟩] false [4, 19, 20, 21, 22, 23, 24, 25, 26, 27, 28, 29]) (
 .cond (.t 30) (
 .seq (
 .reg [
 ⟨(some 2), .mv (.k (.b false)), none, []⟩] false []) (
 .ret)) (
 .skip))))) (
 .reg [
 ⟨(some 31), .bin .add (.t 15) (.k (.i .i64 1)), none, []⟩,
 ⟨(some 15), .mv (.t 31), none, []⟩] false [31]))))))) (
 .seq (
 .seq (
 .reg [
 ⟨(some 32), .faddr 0 (.t 1), none, []⟩,
 ⟨(some 33), .load false 1 (.t 32), none, []⟩,
 ⟨(some 34), .len false (.t 33), none, []⟩,
 ⟨(some 35), .mv (.k (.i .i64 0)), none, []⟩] false [32, 33]) (
 .block 2 (
 .loop 10 [1, 34, 35] [2] (
 .seq (
 .reg [
 ⟨(some 36), .bin .lss (.t 35) (.t 34), none, []⟩] false []) (
 .seq (
 .cond (.t 36) (
 .skip) (
 .exit 2)) (
 .seq (
 .block 3 (
 .seq (
 .reg [
 ⟨(some 37), .mv (.t 35), none, []⟩,
 ⟨(some 5), .mv (.t 37), none, []⟩] false [37]) (
 .seq (
 .reg [
 ⟨(some 6), .mv (.k (.i .i64 0)), none, []⟩] false []) (
 .seq (
 .reg [
 ⟨(some 38), .mv (.t 5), none, []⟩,
 ⟨(some 7), .mv (.t 38), none, []⟩] false [5, 38]) (
 .block 4 (
 .loop 14 [1, 6, 7, 34, 35] [1, 2, 34, 35] (
 .seq (
 .seq (
 .reg [
 ⟨(some 39), .load true 1 (.t 1), none, []⟩,
 ⟨(some 40), .mv (.t 7), none, []⟩,
 ⟨(some 41), .call 35 [(.t 39), (.t 40)], none, []⟩] false [39, 40]) (
 .cond (.t 41) (
 .skip) (
 .exit 4))) (
 .seq (
 .block 5 (
 .seq (
 .seq (
 .reg [
 ⟨(some 47), .mv (.t 6), none, []⟩,
 ⟨(some 48), .faddr 0 (.t 1), none, []⟩,
 ⟨(some 49), .load false 1 (.t 48), none, []⟩,
 ⟨(some 50), .len false (.t 49), none, []⟩,
 ⟨(some 51), .bin .gtr (.t 47) (.t 50), none, []⟩] false [47, 48, 49, 50]) (
 .cond (.t 51) (
 .seq (
 .reg [
 ⟨(some 2), .mv (.k (.b false)), none, []⟩] false []) (
 .ret)) (
 .skip))) (
 .reg [
 ⟨(some 52), .mv (.t 6), none, []⟩,
 ⟨(some 53), .bin .add (.t 52) (.k (.i .i64 1)), none, []⟩,
 ⟨(some 6), .mv (.t 53), none, []⟩] false [52, 53]))) (
 .reg [
 ⟨(some 42), .faddr 0 (.t 1), none, []⟩,
 ⟨(some 43), .load false 1 (.t 42), none, []⟩,
 ⟨(some 44), .mv (.t 7), none, []⟩,
 ⟨(some 45), .iaddr 1 (.t 43) (.t 44), none, []⟩,
 ⟨(some 46), .load false 1 (.t 45), none, []⟩,
 ⟨(some 7), .mv (.t 46), none, []⟩] false [42, 43, 44, 45, 46]))))))))) (
 .reg [
 ⟨(some 54), .bin .add (.t 35) (.k (.i .i64 1)), none, []⟩,
 ⟨(some 35), .mv (.t 54), none, []⟩] false [54]))))))) (
 .seq (
 .reg [
 ⟨(some 2), .mv (.k (.b true)), none, []⟩] false []) (
 .ret))))))
 [.tmp 2]
def m35 : MF := .code 2 (
 .seq (
 .reg [
 ⟨(some 2), .box (.t 0), none, []⟩,
 ⟨(some 4), .mv (.k (.b false)), none, []⟩] false [0, 4]) (
 .seq (
 .reg [
 ⟨(some 5), .mv (.t 1), none, []⟩,
 ⟨(some 6), .bin .geq (.t 5) (.k (.i .i64 0)), none, []⟩,
 ⟨(some 7), .mv (.t 6), none, []⟩,
 ⟨(some 8), .mv (.t 1), (some (7, true)), []⟩,
 ⟨(some 9), .faddr 0 (.t 2), (some (7, true)), []⟩,
 ⟨(some 10), .load false 1 (.t 9), (some (7, true)), []⟩,
 ⟨(some 11), .len false (.t 10), (some (7, true)), []⟩,
 ⟨(some 12), .bin .lss (.t 8) (.t 11), (some (7, true)), []⟩,
 ⟨(some 13), .pick (.t 7) (.t 12) (.k (.b false)), none, []⟩,
 ⟨(some 14), .mv (.t 13), none, []⟩,
 ⟨(some 15), .faddr 0 (.t 2), (some (14, true)), []⟩,
 ⟨(some 16), .load false 1 (.t 15), (some (14, true)), []⟩,
 ⟨(some 17), .mv (.t 1), (some (14, true)), []⟩,
 ⟨(some 18), .iaddr 1 (.t 16) (.t 17), (some (14, true)), []⟩,
 ⟨(some 19), .load false 1 (.t 18), (some (14, true)), []⟩,
 ⟨(some 20), .bin .neq (.t 19) (.k (.i .i64 (-2))), (some (14, true)), []⟩,
 ⟨(some 21), .pick (.t 14) (.t 20) (.k (.b false)), none, []⟩,
 ⟨(some 4), .mv (.t 21), none, []⟩] false [1, 2, 5, 6, 7, 8, 9, 10, 11, 12, 13, 14, 15, 16, 17, 18, 19, 20, 21]) (
 .ret)))
 [.tmp 4]
def m30 : MF := .code 1 (
 .seq (
 .reg [
 ⟨(some 1), .box (.t 0), none, []⟩,
 ⟨(some 2), .mv (.k (.b false)), none, []⟩] false [0, 2]) (
 .seq (
 .seq (
 .reg [
 ⟨(some 7), .faddr 3 (.t 1), none, []⟩,
 ⟨(some 8), .load false 1 (.t 7), none, []⟩,
 ⟨(some 9), .len false (.t 8), none, []⟩,
 ⟨(some 10), .mv (.k (.i .i64 0)), none, []⟩] false [7]) (
 .block 0 (
 .loop 2 [1, 8, 9, 10] [2] (
 .seq (
 .reg [
 ⟨(some 11), .bin .lss (.t 10) (.t 9), none, []⟩] false []) (
 .seq (
 .cond (.t 11) (
 .skip) (
 .exit 0)) (
 .seq (
 .block 1 (
 .seq (
 .reg [
 ⟨(some 12), .iaddr 5 (.t 8) (.t 10), none, []⟩,
 ⟨(some 13), .load true 5 (.t 12), none, []⟩,
 ⟨(some 4), .alloc [.i .i64 0, .i .i64 0, .i .i64 0, .i .i64 0, .i .i64 0], none, []⟩,
 ⟨none, .store 5 (.t 4) (.t 13), none, []⟩] false [12, 13]) (
 .seq (
 .reg [
 ⟨(some 14), .faddr 4 (.t 4), none, []⟩,
 ⟨(some 15), .load false 1 (.t 14), none, []⟩,
 ⟨(some 5), .mv (.t 15), none, []⟩] false [14, 15]) (
 .seq (
 .reg [
 ⟨(some 16), .faddr 3 (.t 1), none, []⟩,
 ⟨(some 17), .load false 1 (.t 16), none, []⟩,
 ⟨(some 18), .len false (.t 17), none, []⟩,
 ⟨(some 19), .mv (.k (.i .i64 0)), none, []⟩] false [16, 17]) (
 .block 2 (
 .loop 6 [1, 4, 5, 8, 9, 10, 18, 19] [1, 2, 8, 9, 10] (
 .seq (
 .reg [
 ⟨(some 20), .bin .lss (.t 19) (.t 18), none, []⟩] false []) (
 .seq (
 .cond (.t 20) (
 .skip) (
 .exit 2)) (
 .seq (
 .block 3 (
 .seq (
 .seq (
 .reg [
 ⟨(some 21), .mv (.t 5), none, []⟩,
 ⟨(some 22), .bin .lss (.t 21) (.k (.i .i64 0)), none, []⟩] false [21]) (
 .cond (.t 22) (
 .exit 2) (
 .skip))) (
 .seq (
 .reg [
 ⟨(some 23), .faddr 3 (.t 1), none, []⟩,
 ⟨(some 24), .load false 1 (.t 23), none, []⟩,
 ⟨(some 25), .mv (.t 5), none, []⟩,
 ⟨(some 26), .iaddr 5 (.t 24) (.t 25), none, []⟩,
 ⟨(some 27), .load true 5 (.t 26), none, []⟩,
 ⟨(some 6), .alloc [.i .i64 0, .i .i64 0, .i .i64 0, .i .i64 0, .i .i64 0], none, []⟩,
 ⟨none, .store 5 (.t 6) (.t 27), none, []⟩] false [5, 23, 24, 25, 26, 27]) (
 .seq (
 .seq (
 .reg [
 ⟨(some 28), .faddr 0 (.t 4), none, []⟩,
 ⟨(some 29), .load true 4 (.t 28), none, []⟩,
 ⟨(some 30), .faddr 0 (.t 6), none, []⟩,
 ⟨(some 31), .load true 4 (.t 30), none, []⟩,
 ⟨(some 32), .call 22 [(.t 29), (.t 31)], none, []⟩,
 ⟨(some 33), .un .not (.t 32), none, []⟩,
 ⟨(some 34), .mv (.t 33), none, []⟩,
 ⟨(some 35), .faddr 0 (.t 6), (some (34, true)), []⟩,
 ⟨(some 36), .faddr 0 (.t 35), (some (34, true)), []⟩,
 ⟨(some 37), .load false 1 (.t 36), (some (34, true)), []⟩,
 ⟨(some 38), .bin .neq (.t 37) (.k (.i .i64 1)), (some (34, true)), []⟩,
 ⟨(some 39), .mv (.t 38), (some (34, true)), []⟩,
 ⟨(some 40), .faddr 0 (.t 4), (some (39, false)), []⟩,
 ⟨(some 41), .faddr 1 (.t 40), (some (39, false)), []⟩,
 ⟨(some 42), .load false 1 (.t 41), (some (39, false)), []⟩,
 ⟨(some 43), .faddr 0 (.t 6), (some (39, false)), []⟩,
 ⟨(some 44), .faddr 1 (.t 43), (some (39, false)), []⟩,
 ⟨(some 45), .load false 1 (.t 44), (some (39, false)), []⟩,
 ⟨(some 46), .bin .eql (.t 42) (.t 45), (some (39, false)), []⟩,
 ⟨(some 47), .pick (.t 39) (.k (.b true)) (.t 46), (some (34, true)), []⟩,
 ⟨(some 48), .pick (.t 34) (.t 47) (.k (.b false)), none, []⟩] false [28, 29, 30, 31, 32, 33, 34, 35, 36, 37, 38, 39, 40, 41, 42, 43, 44, 45, 46, 47]) (
 .cond (.t 48) (
 .seq (
 .reg [
 ⟨(some 2), .mv (.k (.b false)), none, []⟩] false []) (
 .ret)) (
 .skip))) (
 .reg [
 ⟨(some 49), .faddr 4 (.t 6), none, []⟩,
 ⟨(some 50), .load false 1 (.t 49), none, []⟩,
 ⟨(some 5), .mv (.t 50), none, []⟩] false [6, 49, 50]))))) (
 .reg [
 ⟨(some 51), .bin .add (.t 19) (.k (.i .i64 1)), none, []⟩,
 ⟨(some 19), .mv (.t 51), none, []⟩] false [51])))))))))) (
 .reg [
 ⟨(some 52), .bin .add (.t 10) (.k (.i .i64 1)), none, []⟩,
 ⟨(some 10), .mv (.t 52), none, []⟩] false [52]))))))) (
 .seq (
 .reg [
 ⟨(some 2), .mv (.k (.b true)), none, []⟩] false []) (
 .ret))))
 [.tmp 2]
def m22 : MF := .code 2 (
 .seq (
 .reg [
 ⟨(some 2), .box (.t 0), none, []⟩,
 ⟨(some 3), .box (.t 1), none, []⟩,
 ⟨(some 4), .mv (.k (.b false)), none, []⟩] false [0, 1, 4]) (
 .seq (
 .seq (
 .reg [
 ⟨(some 5), .load true 4 (.t 2), none, []⟩,
 ⟨(some 6), .call 21 [(.t 5)], none, []⟩] false [5]) (
 .cond (.t 6) (
 .seq (
 .reg [
 ⟨(some 4), .mv (.k (.b true)), none, []⟩] false []) (
 .ret)) (
 .skip))) (
 .seq (
 .reg [
 ⟨(some 7), .faddr 0 (.t 2), none, []⟩,
 ⟨(some 8), .load false 1 (.t 7), none, []⟩,
 ⟨(some 9), .faddr 0 (.t 3), none, []⟩,
 ⟨(some 10), .load false 1 (.t 9), none, []⟩,
 ⟨(some 11), .bin .eql (.t 8) (.t 10), none, []⟩,
 ⟨(some 12), .mv (.t 11), none, []⟩,
 ⟨(some 13), .faddr 1 (.t 2), (some (12, true)), []⟩,
 ⟨(some 14), .load false 1 (.t 13), (some (12, true)), []⟩,
 ⟨(some 15), .faddr 1 (.t 3), (some (12, true)), []⟩,
 ⟨(some 16), .load false 1 (.t 15), (some (12, true)), []⟩,
 ⟨(some 17), .bin .eql (.t 14) (.t 16), (some (12, true)), []⟩,
 ⟨(some 18), .pick (.t 12) (.t 17) (.k (.b false)), none, []⟩,
 ⟨(some 19), .mv (.t 18), none, []⟩,
 ⟨(some 20), .faddr 2 (.t 2), (some (19, true)), []⟩,
 ⟨(some 21), .load false 1 (.t 20), (some (19, true)), []⟩,
 ⟨(some 22), .faddr 2 (.t 3), (some (19, true)), []⟩,
 ⟨(some 23), .load false 1 (.t 22), (some (19, true)), []⟩,
 ⟨(some 24), .call 41 [(.t 21), (.t 23)], (some (19, true)), []⟩,
 ⟨(some 25), .pick (.t 19) (.t 24) (.k (.b false)), none, []⟩,
 ⟨(some 26), .mv (.t 25), none, []⟩,
 ⟨(some 27), .faddr 3 (.t 3), (some (26, true)), []⟩,
 ⟨(some 28), .load false 1 (.t 27), (some (26, true)), []⟩,
 ⟨(some 29), .bin .eql (.t 28) (.k (.i .i64 0)), (some (26, true)), []⟩,
 ⟨(some 30), .mv (.t 29), (some (26, true)), []⟩,
 ⟨(some 31), .faddr 3 (.t 3), (some (30, false)), []⟩,
 ⟨(some 32), .load false 1 (.t 31), (some (30, false)), []⟩,
 ⟨(some 33), .faddr 3 (.t 2), (some (30, false)), []⟩,
 ⟨(some 34), .load false 1 (.t 33), (some (30, false)), []⟩,
 ⟨(some 35), .bin .eql (.t 32) (.t 34), (some (30, false)), []⟩,
 ⟨(some 36), .pick (.t 30) (.k (.b true)) (.t 35), (some (26, true)), []⟩,
 ⟨(some 37), .pick (.t 26) (.t 36) (.k (.b false)), none, []⟩,
 ⟨(some 4), .mv (.t 37), none, []⟩] false [2, 3, 7, 8, 9, 10, 11, 12, 13, 14, 15, 16, 17, 18, 19, 20, 21, 22, 23, 24, 25, 26, 27, 28, 29, 30, 31, 32, 33, 34, 35, 36, 37]) (
 .ret))))
 [.tmp 4]
def m41 : MF := .code 2 (
 .seq (
 .reg [
 ⟨(some 4), .mv (.k (.b false)), none, []⟩] false [4]) (
 .seq (
 .reg [
 ⟨(some 5), .mv (.t 0), none, []⟩,
 ⟨(some 6), .mv (.t 1), none, []⟩,
 ⟨(some 7), .call 61 [(.t 5), (.t 6)], none, []⟩,
 ⟨(some 8), .bin .eql (.t 7) (.k (.i .i64 0)), none, []⟩,
 ⟨(some 4), .mv (.t 8), none, []⟩] false [0, 1, 5, 6, 7, 8]) (
 .ret)))
 [.tmp 4]
def m61 : MF := .code 2 (
 .seq (
 .reg [
 ⟨(some 4), .mv (.k (.i .i64 0)), none, []⟩] false [4]) (
 .seq (
 .reg [
 ⟨(some 5), .mv (.t 0), none, []⟩,
 ⟨(some 6), .call 82 [(.t 5)], none, []⟩,
 ⟨(some 7), .mv (.t 1), none, []⟩,
 ⟨(some 8), .call 82 [(.t 7)], none, []⟩,
 ⟨(some 9), .bin .andNot (.t 6) (.t 8), none, []⟩,
 ⟨(some 4), .mv (.t 9), none, []⟩] false [0, 1, 5, 6, 7, 8, 9]) (
 .ret)))
 [.tmp 4]
def m82 : MF := .code 1 (
 .seq (
 .reg [
 ⟨(some 2), .mv (.k (.i .i64 0)), none, []⟩] false [2]) (
 .seq (
 .seq (
 .reg [
 ⟨(some 3), .mv (.t 0), none, []⟩,
 ⟨(some 4), .call 63 [(.t 3)], none, []⟩,
 ⟨(some 5), .un .not (.t 4), none, []⟩] false [3, 4]) (
 .cond (.t 5) (
 .seq (
 .reg [
 ⟨(some 2), .mv (.k (.i .i64 0)), none, []⟩] false []) (
 .ret)) (
 .skip))) (
 .seq (
 .reg [
 ⟨(some 6), .mv (.t 0), none, []⟩,
 ⟨(some 2), .mv (.t 6), none, []⟩] false [0, 6]) (
 .ret))))
 [.tmp 2]
def m91 : MF := .code 3 (
 .seq (
 .reg [
 ⟨(some 6), .mv (.k (.b false)), none, []⟩] false [6]) (
 .seq (
 .reg [
 ⟨(some 7), .mv (.t 0), none, []⟩,
 ⟨(some 8), .mv (.t 1), none, []⟩,
 ⟨(some 9), .bin .geq (.t 7) (.t 8), none, []⟩,
 ⟨(some 10), .mv (.t 9), none, []⟩,
 ⟨(some 11), .mv (.t 0), (some (10, true)), []⟩,
 ⟨(some 12), .mv (.t 2), (some (10, true)), []⟩,
 ⟨(some 13), .bin .leq (.t 11) (.t 12), (some (10, true)), []⟩,
 ⟨(some 14), .pick (.t 10) (.t 13) (.k (.b false)), none, []⟩,
 ⟨(some 6), .mv (.t 14), none, []⟩] false [0, 1, 2, 7, 8, 9, 10, 11, 12, 13, 14]) (
 .ret)))
 [.tmp 6]
def m93 : MF := .code 2 (
 .seq (
 .reg [
 ⟨(some 2), .box (.t 0), none, []⟩,
 ⟨(some 4), .mv (.k (.i .i64 0)), none, []⟩] false [0, 4]) (
 .seq (
 .seq (
 .reg [
 ⟨(some 5), .mv (.t 1), none, []⟩,
 ⟨(some 6), .faddr 1 (.t 2), none, []⟩,
 ⟨(some 7), .load false 1 (.t 6), none, []⟩,
 ⟨(some 8), .bin .shl (.k (.i .i64 1)) (.t 7), none, []⟩,
 ⟨(some 9), .bin .geq (.t 5) (.t 8), none, []⟩] false [5, 6, 7, 8]) (
 .cond (.t 9) (
 .seq (
 .reg [
 ⟨(some 4), .mv (.k (.i .i64 (-1))), none, []⟩] false []) (
 .ret)) (
 .skip))) (
 .seq (
 .reg [
 ⟨(some 10), .faddr 2 (.t 2), none, []⟩,
 ⟨(some 11), .load false 1 (.t 10), none, []⟩,
 ⟨(some 12), .mv (.t 1), none, []⟩,
 ⟨(some 13), .bin .add (.t 11) (.t 12), none, []⟩,
 ⟨(some 4), .mv (.t 13), none, []⟩] false [1, 2, 10, 11, 12, 13]) (
 .ret))))
 [.tmp 4]
def m92 : MF := .code 2 (
 .seq (
 .reg [
 ⟨(some 2), .box (.t 0), none, []⟩,
 ⟨(some 4), .alloc [.i .i64 0, .i .i64 0, .i .i64 0, .i .i64 0, .i .i64 0, .i .i64 0, .i .i64 0, .b false, .i .u64 0, .i .u64 0, .i .u64 0, .i .u64 0, .i .u64 0], none, []⟩,
 ⟨(some 5), .mv (.k (.b false)), none, []⟩] false [0, 5]) (
 .seq (
 .reg [
 ⟨(some 7), .faddr 3 (.t 2), none, []⟩,
 ⟨(some 8), .load false 1 (.t 7), none, []⟩,
 ⟨(some 9), .mv (.t 1), none, []⟩,
 ⟨(some 10), .iaddr 5 (.t 8) (.t 9), none, []⟩,
 ⟨(some 11), .faddr 0 (.t 10), none, []⟩,
 ⟨(some 12), .load true 4 (.t 11), none, []⟩,
 ⟨(some 6), .alloc [.i .i64 0, .i .i64 0, .i .i64 0, .i .i64 0], none, []⟩,
 ⟨none, .store 4 (.t 6) (.t 12), none, []⟩] false [1, 7, 8, 9, 10, 11, 12]) (
 .seq (
 .seq (
 .reg [
 ⟨(some 13), .faddr 0 (.t 6), none, []⟩,
 ⟨(some 14), .load false 1 (.t 13), none, []⟩,
 ⟨(some 15), .bin .neq (.t 14) (.k (.i .i64 2)), none, []⟩,
 ⟨(some 16), .mv (.t 15), none, []⟩,
 ⟨(some 17), .faddr 2 (.t 6), (some (16, false)), []⟩,
 ⟨(some 18), .load false 1 (.t 17), (some (16, false)), []⟩,
 ⟨(some 19), .call 41 [(.k (.i .i64 1)), (.t 18)], (some (16, false)), []⟩,
 ⟨(some 20), .un .not (.t 19), (some (16, false)), []⟩,
 ⟨(some 21), .pick (.t 16) (.k (.b true)) (.t 20), none, []⟩] false [13, 14, 15, 16, 17, 18, 19, 20]) (
 .cond (.t 21) (
 .seq (
 .reg [
 ⟨(some 22), .build [.i .i64 0, .i .i64 0, .i .i64 0, .i .i64 0, .i .i64 0, .i .i64 0, .i .i64 0, .b false, .i .u64 0, .i .u64 0, .i .u64 0, .i .u64 0, .i .u64 0] [], none, []⟩,
 ⟨none, .store 13 (.t 4) (.t 22), none, []⟩,
 ⟨(some 5), .mv (.k (.b false)), none, []⟩] false [22]) (
 .ret)) (
 .skip))) (
 .seq (
 .reg [
 ⟨(some 23), .faddr 4 (.t 2), none, []⟩,
 ⟨(some 24), .load false 1 (.t 23), none, []⟩,
 ⟨(some 25), .faddr 1 (.t 6), none, []⟩,
 ⟨(some 26), .load false 1 (.t 25), none, []⟩,
 ⟨(some 27), .iaddr 13 (.t 24) (.t 26), none, []⟩,
 ⟨(some 28), .load true 13 (.t 27), none, []⟩,
 ⟨none, .store 13 (.t 4) (.t 28), none, []⟩,
 ⟨(some 5), .mv (.k (.b true)), none, []⟩] false [2, 6, 23, 24, 25, 26, 27, 28]) (
 .ret)))))
 [.cell true 13 4, .tmp 5]
def m56 : MF := .code 2 (
 .seq (
 .reg [
 ⟨(some 2), .box (.t 0), none, []⟩,
 ⟨(some 4), .alloc [.i .i64 0, .i .i64 0, .i .i64 0, .i .i64 0], none, []⟩] false [0]) (
 .seq (
 .seq (
 .reg [
 ⟨(some 5), .load true 4 (.t 2), none, []⟩,
 ⟨(some 6), .call 43 [(.t 5)], none, []⟩,
 ⟨(some 7), .un .not (.t 6), none, []⟩] false [5, 6]) (
 .cond (.t 7) (
 .seq (
 .reg [
 ⟨(some 8), .build [.i .i64 0, .i .i64 0, .i .i64 0, .i .i64 0] [], none, []⟩,
 ⟨none, .store 4 (.t 4) (.t 8), none, []⟩] false [8]) (
 .ret)) (
 .skip))) (
 .seq (
 .reg [
 ⟨(some 9), .faddr 2 (.t 2), none, []⟩,
 ⟨(some 10), .load false 1 (.t 9), none, []⟩,
 ⟨(some 11), .mv (.t 1), none, []⟩,
 ⟨(some 12), .call 78 [(.t 10), (.t 11)], none, []⟩,
 ⟨(some 13), .faddr 2 (.t 2), none, []⟩,
 ⟨none, .store 1 (.t 13) (.t 12), none, []⟩] false [1, 9, 10, 11, 12, 13]) (
 .seq (
 .reg [
 ⟨(some 14), .load true 4 (.t 2), none, []⟩,
 ⟨none, .store 4 (.t 4) (.t 14), none, []⟩] false [2, 14]) (
 .ret)))))
 [.cell true 4 4]
def m78 : MF := .code 2 (
 .seq (
 .reg [
 ⟨(some 4), .mv (.k (.i .i64 0)), none, []⟩] false [4]) (
 .seq (
 .reg [
 ⟨(some 5), .mv (.t 0), none, []⟩,
 ⟨(some 6), .call 82 [(.t 5)], none, []⟩,
 ⟨(some 7), .mv (.t 1), none, []⟩,
 ⟨(some 8), .call 82 [(.t 7)], none, []⟩,
 ⟨(some 9), .bin .and (.t 6) (.t 8), none, []⟩,
 ⟨(some 4), .mv (.t 9), none, []⟩] false [0, 1, 5, 6, 7, 8, 9]) (
 .ret)))
 [.tmp 4]
def m57 : MF := .code 2 (
 .seq (
 .reg [
 ⟨(some 2), .box (.t 0), none, []⟩,
 ⟨(some 4), .alloc [.i .i64 0, .i .i64 0, .i .i64 0, .i .i64 0], none, []⟩,
 ⟨(some 5), .mv (.k (.i .i64 0)), none, []⟩] false [0, 5]) (
 .seq (
 .block 0 (
 .seq (
 .seq (
 .reg [
 ⟨(some 7), .load true 4 (.t 2), none, []⟩,
 ⟨(some 8), .call 43 [(.t 7)], none, []⟩,
 ⟨(some 9), .un .not (.t 8), none, []⟩,
 ⟨(some 6), .mv (.t 9), none, []⟩] false [7, 8, 9]) (
 .cond (.t 6) (
 .skip) (
 .seq (
 .reg [
 ⟨(some 10), .mv (.t 1), none, []⟩,
 ⟨(some 11), .call 64 [(.t 10)], none, []⟩,
 ⟨(some 12), .un .not (.t 11), none, []⟩,
 ⟨(some 6), .mv (.t 12), none, []⟩] false [10, 11, 12]) (
 .cond (.t 6) (
 .skip) (
 .reg [
 ⟨(some 13), .mv (.t 1), none, []⟩,
 ⟨(some 14), .bin .eql (.t 13) (.k (.i .i64 0)), none, []⟩,
 ⟨(some 6), .mv (.t 14), none, []⟩] false [13, 14]))))) (
 .cond (.t 6) (
 .seq (
 .reg [
 ⟨(some 15), .build [.i .i64 0, .i .i64 0, .i .i64 0, .i .i64 0] [], none, []⟩,
 ⟨none, .store 4 (.t 4) (.t 15), none, []⟩,
 ⟨(some 5), .mv (.k (.i .i64 1)), none, []⟩] false [15]) (
 .ret)) (
 .seq (
 .reg [
 ⟨(some 17), .faddr 0 (.t 2), none, []⟩,
 ⟨(some 18), .load false 1 (.t 17), none, []⟩,
 ⟨(some 19), .call 65 [(.t 18)], none, []⟩,
 ⟨(some 20), .un .not (.t 19), none, []⟩,
 ⟨(some 16), .mv (.t 20), none, []⟩] false [17, 18, 19, 20]) (
 .cond (.t 16) (
 .seq (
 .reg [
 ⟨(some 21), .build [.i .i64 0, .i .i64 0, .i .i64 0, .i .i64 0] [], none, []⟩,
 ⟨none, .store 4 (.t 4) (.t 21), none, []⟩,
 ⟨(some 5), .mv (.k (.i .i64 7)), none, []⟩] false [21]) (
 .ret)) (
 .seq (
 .reg [
 ⟨(some 23), .faddr 3 (.t 2), none, []⟩,
 ⟨(some 24), .load false 1 (.t 23), none, []⟩,
 ⟨(some 25), .bin .neq (.t 24) (.k (.i .i64 0)), none, []⟩,
 ⟨(some 22), .mv (.t 25), none, []⟩] false [23, 24, 25]) (
 .cond (.t 22) (
 .seq (
 .reg [
 ⟨(some 26), .build [.i .i64 0, .i .i64 0, .i .i64 0, .i .i64 0] [], none, []⟩,
 ⟨none, .store 4 (.t 4) (.t 26), none, []⟩,
 ⟨(some 5), .mv (.k (.i .i64 5)), none, []⟩] false [26]) (
 .ret)) (
 .skip)))))))) (
 .seq (
 .reg [
 ⟨(some 27), .mv (.t 1), none, []⟩,
 ⟨(some 28), .faddr 3 (.t 2), none, []⟩,
 ⟨none, .store 1 (.t 28) (.t 27), none, []⟩] false [1, 27, 28]) (
 .seq (
 .reg [
 ⟨(some 29), .load true 4 (.t 2), none, []⟩,
 ⟨none, .store 4 (.t 4) (.t 29), none, []⟩,
 ⟨(some 5), .mv (.k (.i .i64 0)), none, []⟩] false [2, 29]) (
 .ret)))))
 [.cell true 4 4, .tmp 5]
def m51 : MF := .code 3 (
 .seq (
 .reg [
 ⟨(some 3), .box (.t 0), none, []⟩,
 ⟨(some 5), .box (.t 2), none, []⟩,
 ⟨(some 6), .mv (.k (.i .i64 0)), none, []⟩,
 ⟨(some 7), .mv (.k (.i .i64 0)), none, []⟩] false [0, 2, 6, 7]) (
 .seq (
 .reg [
 ⟨(some 11), .load true 5 (.t 3), none, []⟩,
 ⟨(some 12), .mv (.t 1), none, []⟩,
 ⟨(some 13), .load true 1 (.t 5), none, []⟩,
 ⟨(some 14), .call 74 [(.t 11), (.t 12), (.t 13)], none, []⟩,
 ⟨(some 10), .mv (.t 14), none, []⟩,
 ⟨(some 15), .ext (.t 10) 0, none, []⟩,
 ⟨(some 16), .ext (.t 10) 1, none, []⟩,
 ⟨(some 8), .mv (.t 15), none, []⟩,
 ⟨(some 9), .mv (.t 16), none, []⟩] false [1, 5, 10, 11, 12, 13, 14, 15, 16]) (
 .seq (
 .block 0 (
 .seq (
 .reg [
 ⟨(some 18), .mv (.t 9), none, []⟩,
 ⟨(some 19), .bin .neq (.t 18) (.k (.i .i64 0)), none, []⟩,
 ⟨(some 17), .mv (.t 19), none, []⟩] false [18, 19]) (
 .cond (.t 17) (
 .seq (
 .reg [
 ⟨(some 20), .mv (.t 9), none, []⟩,
 ⟨(some 6), .mv (.k (.i .i64 0)), none, []⟩,
 ⟨(some 7), .mv (.t 20), none, []⟩] false [9, 20]) (
 .ret)) (
 .seq (
 .reg [
 ⟨(some 22), .faddr 3 (.t 3), none, []⟩,
 ⟨(some 23), .load false 1 (.t 22), none, []⟩,
 ⟨(some 24), .mv (.t 8), none, []⟩,
 ⟨(some 25), .iaddr 5 (.t 23) (.t 24), none, []⟩,
 ⟨(some 26), .faddr 0 (.t 25), none, []⟩,
 ⟨(some 27), .load true 4 (.t 26), none, []⟩,
 ⟨(some 28), .call 21 [(.t 27)], none, []⟩,
 ⟨(some 29), .un .not (.t 28), none, []⟩,
 ⟨(some 21), .mv (.t 29), none, []⟩] false [3, 22, 23, 24, 25, 26, 27, 28, 29]) (
 .cond (.t 21) (
 .seq (
 .reg [
 ⟨(some 6), .mv (.k (.i .i64 0)), none, []⟩,
 ⟨(some 7), .mv (.k (.i .i64 5)), none, []⟩] false []) (
 .ret)) (
 .skip)))))) (
 .seq (
 .reg [
 ⟨(some 30), .mv (.t 8), none, []⟩,
 ⟨(some 6), .mv (.t 30), none, []⟩,
 ⟨(some 7), .mv (.k (.i .i64 0)), none, []⟩] false [8, 30]) (
 .ret)))))
 [.tmp 6, .tmp 7]
def m58 : MF := .code 4 (
 .seq (
 .reg [
 ⟨(some 4), .box (.t 0), none, []⟩,
 ⟨(some 7), .box (.t 3), none, []⟩,
 ⟨(some 8), .alloc [.i .i64 0, .i .i64 0, .i .i64 0, .lst true true 0 [], .lst true true 0 []], none, []⟩,
 ⟨(some 9), .mv (.k (.i .i64 0)), none, []⟩] false [0, 3, 9]) (
 .seq (
 .reg [
 ⟨(some 11), .faddr 3 (.t 4), none, []⟩,
 ⟨(some 12), .load false 1 (.t 11), none, []⟩,
 ⟨(some 13), .len false (.t 12), none, []⟩,
 ⟨(some 10), .mv (.t 13), none, []⟩] false [11, 12, 13]) (
 .seq (
 .block 0 (
 .seq (
 .seq (
 .reg [
 ⟨(some 15), .load true 5 (.t 4), none, []⟩,
 ⟨(some 16), .call 9 [(.t 15)], none, []⟩,
 ⟨(some 17), .un .not (.t 16), none, []⟩,
 ⟨(some 14), .mv (.t 17), none, []⟩] false [15, 16, 17]) (
 .cond (.t 14) (
 .skip) (
 .seq (
 .reg [
 ⟨(some 18), .mv (.t 1), none, []⟩,
 ⟨(some 19), .bin .lss (.t 18) (.k (.i .i64 0)), none, []⟩,
 ⟨(some 20), .mv (.t 19), none, []⟩,
 ⟨(some 21), .mv (.t 1), (some (20, false)), []⟩,
 ⟨(some 22), .mv (.t 10), (some (20, false)), []⟩,
 ⟨(some 23), .bin .geq (.t 21) (.t 22), (some (20, false)), []⟩,
 ⟨(some 24), .pick (.t 20) (.k (.b true)) (.t 23), none, []⟩,
 ⟨(some 25), .mv (.t 24), none, []⟩,
 ⟨(some 26), .mv (.t 2), (some (25, false)), []⟩,
 ⟨(some 27), .bin .lss (.t 26) (.k (.i .i64 0)), (some (25, false)), []⟩,
 ⟨(some 28), .pick (.t 25) (.k (.b true)) (.t 27), none, []⟩,
 ⟨(some 29), .mv (.t 28), none, []⟩,
 ⟨(some 30), .mv (.t 2), (some (29, false)), []⟩,
 ⟨(some 31), .mv (.t 10), (some (29, false)), []⟩,
 ⟨(some 32), .bin .geq (.t 30) (.t 31), (some (29, false)), []⟩,
 ⟨(some 33), .pick (.t 29) (.k (.b true)) (.t 32), none, []⟩,
 ⟨(some 34), .mv (.t 33), none, []⟩,
 ⟨(some 35), .load true 4 (.t 7), (some (34, false)), []⟩,
 ⟨(some 36), .call 43 [(.t 35)], (some (34, false)), []⟩,
 ⟨(some 37), .un .not (.t 36), (some (34, false)), []⟩,
 ⟨(some 38), .pick (.t 34) (.k (.b true)) (.t 37), none, []⟩,
 ⟨(some 39), .mv (.t 38), none, []⟩,
 ⟨(some 40), .load true 4 (.t 7), (some (39, false)), []⟩,
 ⟨(some 41), .call 21 [(.t 40)], (some (39, false)), []⟩,
 ⟨(some 42), .pick (.t 39) (.k (.b true)) (.t 41), none, []⟩,
 ⟨(some 14), .mv (.t 42), none, []⟩] false [10, 18, 19, 20, 21, 22, 23, 24, 25, 26, 27, 28, 29, 30, 31, 32, 33, 34, 35, 36, 37, 38, 39, 40, 41, 42]) (
 .cond (.t 14) (
 .skip) (
 .reg [
 ⟨(some 43), .load true 5 (.t 4), none, []⟩,
 ⟨(some 44), .mv (.t 2), none, []⟩,
 ⟨(some 45), .call 79 [(.t 43), (.t 44)], none, []⟩,
 ⟨(some 46), .bin .lss (.t 45) (.k (.i .i64 0)), none, []⟩,
 ⟨(some 14), .mv (.t 46), none, []⟩] false [43, 44, 45, 46]))))) (
 .cond (.t 14) (
 .seq (
 .reg [
 ⟨(some 47), .load true 5 (.t 4), none, []⟩,
 ⟨none, .store 5 (.t 8) (.t 47), none, []⟩,
 ⟨(some 9), .mv (.k (.i .i64 1)), none, []⟩] false [4, 47]) (
 .ret)) (
 .seq (
 .reg [
 ⟨(some 49), .faddr 3 (.t 4), none, []⟩,
 ⟨(some 50), .load false 1 (.t 49), none, []⟩,
 ⟨(some 51), .mv (.t 1), none, []⟩,
 ⟨(some 52), .iaddr 5 (.t 50) (.t 51), none, []⟩,
 ⟨(some 53), .faddr 0 (.t 52), none, []⟩,
 ⟨(some 54), .load true 4 (.t 53), none, []⟩,
 ⟨(some 55), .call 21 [(.t 54)], none, []⟩,
 ⟨(some 48), .mv (.t 55), none, []⟩] false [49, 50, 51, 52, 53, 54, 55]) (
 .cond (.t 48) (
 .seq (
 .reg [
 ⟨(some 56), .load true 5 (.t 4), none, []⟩,
 ⟨none, .store 5 (.t 8) (.t 56), none, []⟩,
 ⟨(some 9), .mv (.k (.i .i64 4)), none, []⟩] false [4, 56]) (
 .ret)) (
 .seq (
 .reg [
 ⟨(some 58), .faddr 3 (.t 4), none, []⟩,
 ⟨(some 59), .load false 1 (.t 58), none, []⟩,
 ⟨(some 60), .mv (.t 2), none, []⟩,
 ⟨(some 61), .iaddr 5 (.t 59) (.t 60), none, []⟩,
 ⟨(some 62), .faddr 0 (.t 61), none, []⟩,
 ⟨(some 63), .load true 4 (.t 62), none, []⟩,
 ⟨(some 64), .call 21 [(.t 63)], none, []⟩,
 ⟨(some 65), .un .not (.t 64), none, []⟩,
 ⟨(some 57), .mv (.t 65), none, []⟩] false [58, 59, 60, 61, 62, 63, 64, 65]) (
 .cond (.t 57) (
 .seq (
 .reg [
 ⟨(some 66), .load true 5 (.t 4), none, []⟩,
 ⟨none, .store 5 (.t 8) (.t 66), none, []⟩,
 ⟨(some 9), .mv (.k (.i .i64 5)), none, []⟩] false [4, 66]) (
 .ret)) (
 .seq (
 .reg [
 ⟨(some 68), .faddr 3 (.t 4), none, []⟩,
 ⟨(some 69), .load false 1 (.t 68), none, []⟩,
 ⟨(some 70), .mv (.t 1), none, []⟩,
 ⟨(some 71), .iaddr 5 (.t 69) (.t 70), none, []⟩,
 ⟨(some 72), .faddr 0 (.t 71), none, []⟩,
 ⟨(some 73), .faddr 0 (.t 72), none, []⟩,
 ⟨(some 74), .load false 1 (.t 73), none, []⟩,
 ⟨(some 75), .bin .eql (.t 74) (.k (.i .i64 1)), none, []⟩,
 ⟨(some 67), .mv (.t 75), none, []⟩] false [68, 69, 70, 71, 72, 73, 74, 75]) (
 .cond (.t 67) (
 .seq (
 .reg [
 ⟨(some 76), .load true 5 (.t 4), none, []⟩,
 ⟨none, .store 5 (.t 8) (.t 76), none, []⟩,
 ⟨(some 9), .mv (.k (.i .i64 7)), none, []⟩] false [4, 76]) (
 .ret)) (
 .seq (
 .seq (
 .reg [
 ⟨(some 78), .load true 4 (.t 7), none, [2, 6]⟩,
 ⟨(some 79), .faddr 3 (.t 4), none, []⟩,
 ⟨(some 80), .load false 1 (.t 79), none, [0]⟩,
 ⟨(some 81), .mv (.t 1), none, []⟩,
 ⟨(some 82), .iaddr 5 (.t 80) (.t 81), none, []⟩,
 ⟨(some 83), .faddr 0 (.t 82), none, []⟩,
 ⟨(some 84), .load true 4 (.t 83), none, [0]⟩,
 ⟨(some 85), .call 22 [(.t 78), (.t 84)], none, []⟩,
 ⟨(some 86), .un .not (.t 85), none, []⟩,
 ⟨(some 77), .mv (.t 86), none, []⟩] true [78, 79, 80, 81, 82, 83, 84, 85, 86]) (
 .cond (.t 77) (
 .skip) (
 .reg [
 ⟨(some 87), .load true 5 (.t 4), none, []⟩,
 ⟨(some 88), .load true 4 (.t 7), none, []⟩,
 ⟨(some 89), .mv (.t 2), none, []⟩,
 ⟨(some 90), .call 59 [(.t 87), (.t 88), (.t 89)], none, []⟩,
 ⟨(some 77), .mv (.t 90), none, []⟩] false [87, 88, 89, 90]))) (
 .cond (.t 77) (
 .seq (
 .reg [
 ⟨(some 91), .load true 5 (.t 4), none, []⟩,
 ⟨none, .store 5 (.t 8) (.t 91), none, []⟩,
 ⟨(some 9), .mv (.k (.i .i64 1)), none, []⟩] false [4, 91]) (
 .ret)) (
 .skip)))))))))))) (
 .seq (
 .reg [
 ⟨(some 92), .load true 5 (.t 4), none, []⟩,
 ⟨(some 93), .call 54 [(.t 92)], none, []⟩,
 ⟨none, .store 5 (.t 4) (.t 93), none, []⟩] false [92, 93]) (
 .seq (
 .reg [
 ⟨(some 94), .faddr 3 (.t 4), none, []⟩,
 ⟨(some 95), .load false 1 (.t 94), none, []⟩,
 ⟨(some 96), .mv (.t 2), none, []⟩,
 ⟨(some 97), .load true 4 (.t 7), none, []⟩,
 ⟨(some 98), .mv (.t 1), none, []⟩,
 ⟨(some 99), .build [.i .i64 0, .i .i64 0, .i .i64 0, .i .i64 0, .i .i64 0] [(0, 4, (.t 97)), (4, 1, (.t 98))], none, []⟩,
 ⟨(some 100), .iaddr 5 (.t 95) (.t 96), none, []⟩,
 ⟨none, .store 5 (.t 100) (.t 99), none, []⟩] false [1, 2, 7, 94, 95, 96, 97, 98, 99, 100]) (
 .seq (
 .reg [
 ⟨(some 101), .load true 5 (.t 4), none, []⟩,
 ⟨none, .store 5 (.t 8) (.t 101), none, []⟩,
 ⟨(some 9), .mv (.k (.i .i64 0)), none, []⟩] false [4, 101]) (
 .ret)))))))
 [.fz [[0, 0, 0, 5, 13], [0]], .cell true 5 8, .tmp 9]
def m79 : MF := .code 2 (
 .seq (
 .reg [
 ⟨(some 2), .box (.t 0), none, []⟩,
 ⟨(some 4), .mv (.k (.i .i64 0)), none, []⟩] false [0, 4]) (
 .seq (
 .seq (
 .reg [
 ⟨(some 5), .load true 5 (.t 2), none, []⟩,
 ⟨(some 6), .call 9 [(.t 5)], none, []⟩,
 ⟨(some 7), .un .not (.t 6), none, []⟩,
 ⟨(some 8), .mv (.t 7), none, []⟩,
 ⟨(some 9), .mv (.t 1), (some (8, false)), []⟩,
 ⟨(some 10), .bin .lss (.t 9) (.k (.i .i64 0)), (some (8, false)), []⟩,
 ⟨(some 11), .pick (.t 8) (.k (.b true)) (.t 10), none, []⟩,
 ⟨(some 12), .mv (.t 11), none, []⟩,
 ⟨(some 13), .mv (.t 1), (some (12, false)), []⟩,
 ⟨(some 14), .faddr 3 (.t 2), (some (12, false)), []⟩,
 ⟨(some 15), .load false 1 (.t 14), (some (12, false)), []⟩,
 ⟨(some 16), .len false (.t 15), (some (12, false)), []⟩,
 ⟨(some 17), .bin .geq (.t 13) (.t 16), (some (12, false)), []⟩,
 ⟨(some 18), .pick (.t 12) (.k (.b true)) (.t 17), none, []⟩] false [5, 6, 7, 8, 9, 10, 11, 12, 13, 14, 15, 16, 17]) (
 .cond (.t 18) (
 .seq (
 .reg [
 ⟨(some 4), .mv (.k (.i .i64 (-1))), none, []⟩] false []) (
 .ret)) (
 .skip))) (
 .seq (
 .reg [
 ⟨(some 19), .load true 5 (.t 2), none, []⟩,
 ⟨(some 20), .mv (.t 1), none, []⟩,
 ⟨(some 21), .call 68 [(.t 19), (.t 20)], none, []⟩,
 ⟨(some 4), .mv (.t 21), none, []⟩] false [1, 2, 19, 20, 21]) (
 .ret))))
 [.tmp 4]
def m59 : MF := .code 3 (
 .seq (
 .reg [
 ⟨(some 3), .box (.t 0), none, []⟩,
 ⟨(some 4), .box (.t 1), none, []⟩,
 ⟨(some 6), .mv (.k (.b false)), none, []⟩] false [0, 1, 6]) (
 .seq (
 .reg [
 ⟨(some 7), .faddr 0 (.t 4), none, []⟩,
 ⟨(some 8), .load false 1 (.t 7), none, []⟩,
 ⟨(some 9), .bin .eql (.t 8) (.k (.i .i64 2)), none, []⟩,
 ⟨(some 10), .mv (.t 9), none, []⟩,
 ⟨(some 11), .load true 5 (.t 3), (some (10, true)), []⟩,
 ⟨(some 12), .faddr 1 (.t 4), (some (10, true)), []⟩,
 ⟨(some 13), .load false 1 (.t 12), (some (10, true)), []⟩,
 ⟨(some 14), .mv (.t 2), (some (10, true)), []⟩,
 ⟨(some 15), .call 80 [(.t 11), (.t 13), (.t 14)], (some (10, true)), []⟩,
 ⟨(some 16), .pick (.t 10) (.t 15) (.k (.b false)), none, []⟩,
 ⟨(some 6), .mv (.t 16), none, []⟩] false [2, 3, 4, 7, 8, 9, 10, 11, 12, 13, 14, 15, 16]) (
 .ret)))
 [.tmp 6]
def m80 : MF := .code 3 (
 .seq (
 .reg [
 ⟨(some 3), .box (.t 0), none, []⟩,
 ⟨(some 6), .mv (.k (.b false)), none, []⟩] false [0, 6]) (
 .seq (
 .reg [
 ⟨(some 7), .load true 5 (.t 3), none, []⟩,
 ⟨(some 8), .call 9 [(.t 7)], none, []⟩,
 ⟨(some 9), .mv (.t 8), none, []⟩,
 ⟨(some 10), .mv (.t 2), (some (9, true)), []⟩,
 ⟨(some 11), .bin .geq (.t 10) (.k (.i .i64 0)), (some (9, true)), []⟩,
 ⟨(some 12), .pick (.t 9) (.t 11) (.k (.b false)), none, []⟩,
 ⟨(some 13), .mv (.t 12), none, []⟩,
 ⟨(some 14), .mv (.t 2), (some (13, true)), []⟩,
 ⟨(some 15), .faddr 3 (.t 3), (some (13, true)), []⟩,
 ⟨(some 16), .load false 1 (.t 15), (some (13, true)), []⟩,
 ⟨(some 17), .len false (.t 16), (some (13, true)), []⟩,
 ⟨(some 18), .bin .lss (.t 14) (.t 17), (some (13, true)), []⟩,
 ⟨(some 19), .pick (.t 13) (.t 18) (.k (.b false)), none, []⟩,
 ⟨(some 20), .mv (.t 19), none, []⟩,
 ⟨(some 21), .load true 5 (.t 3), (some (20, true)), []⟩,
 ⟨(some 22), .mv (.t 1), (some (20, true)), []⟩,
 ⟨(some 23), .mv (.t 2), (some (20, true)), []⟩,
 ⟨(some 24), .call 48 [(.t 21), (.t 22), (.t 23)], (some (20, true)), []⟩,
 ⟨(some 25), .pick (.t 20) (.t 24) (.k (.b false)), none, []⟩,
 ⟨(some 6), .mv (.t 25), none, []⟩] false [1, 2, 3, 7, 8, 9, 10, 11, 12, 13, 14, 15, 16, 17, 18, 19, 20, 21, 22, 23, 24, 25]) (
 .ret)))
 [.tmp 6]
def m54 : MF := .code 1 (
 .seq (
 .reg [
 ⟨(some 1), .box (.t 0), none, []⟩,
 ⟨(some 2), .alloc [.i .i64 0, .i .i64 0, .i .i64 0, .lst true true 0 [], .lst true true 0 []], none, []⟩] false [0]) (
 .seq (
 .reg [
 ⟨(some 3), .faddr 0 (.t 1), none, []⟩,
 ⟨(some 4), .load true 3 (.t 3), none, [3, 4, 6, 7]⟩,
 ⟨(some 5), .faddr 3 (.t 1), none, []⟩,
 ⟨(some 6), .load false 1 (.t 5), none, [1, 6]⟩,
 ⟨(some 7), .call 76 [(.t 6)], none, [1, 6]⟩,
 ⟨(some 8), .faddr 4 (.t 1), none, []⟩,
 ⟨(some 9), .load false 1 (.t 8), none, [1, 3, 4]⟩,
 ⟨(some 10), .call 77 [(.t 9)], none, [1]⟩,
 ⟨(some 11), .build [.i .i64 0, .i .i64 0, .i .i64 0, .lst true true 0 [], .lst true true 0 []] [(0, 3, (.t 4)), (3, 1, (.t 7)), (4, 1, (.t 10))], none, []⟩,
 ⟨none, .store 5 (.t 2) (.t 11), none, []⟩] true [1, 3, 4, 5, 6, 7, 8, 9, 10, 11]) (
 .ret)))
 [.cell true 5 2]
def m76 : MF := .code 1 (
 .seq (
 .reg [
 ⟨(some 2), .mv (.k (.lst true true 0 [])), none, []⟩] false [2]) (
 .seq (
 .seq (
 .reg [
 ⟨(some 3), .mv (.t 0), none, []⟩,
 ⟨(some 4), .eqn false (.t 3), none, []⟩] false [3]) (
 .cond (.t 4) (
 .seq (
 .reg [
 ⟨(some 2), .mv (.k (.lst true true 0 [])), none, []⟩] false []) (
 .ret)) (
 .skip))) (
 .seq (
 .reg [
 ⟨(some 5), .bsl [.i .i64 0, .i .i64 0, .i .i64 0, .i .i64 0, .i .i64 0] 0 [], none, []⟩,
 ⟨(some 6), .mv (.t 0), none, []⟩,
 ⟨(some 7), .append 5 (.t 5) (.t 6), none, []⟩,
 ⟨(some 2), .mv (.t 7), none, []⟩] false [0, 5, 6, 7]) (
 .ret))))
 [.tmp 2]
def m77 : MF := .code 1 (
 .seq (
 .reg [
 ⟨(some 2), .mv (.k (.lst true true 0 [])), none, []⟩] false [2]) (
 .seq (
 .seq (
 .reg [
 ⟨(some 3), .mv (.t 0), none, []⟩,
 ⟨(some 4), .eqn false (.t 3), none, []⟩] false [3]) (
 .cond (.t 4) (
 .seq (
 .reg [
 ⟨(some 2), .mv (.k (.lst true true 0 [])), none, []⟩] false []) (
 .ret)) (
 .skip))) (
 .seq (
 .reg [
 ⟨(some 5), .bsl [.i .i64 0, .i .i64 0, .i .i64 0, .i .i64 0, .i .i64 0, .i .i64 0, .i .i64 0, .b false, .i .u64 0, .i .u64 0, .i .u64 0, .i .u64 0, .i .u64 0] 0 [], none, []⟩,
 ⟨(some 6), .mv (.t 0), none, []⟩,
 ⟨(some 7), .append 13 (.t 5) (.t 6), none, []⟩,
 ⟨(some 2), .mv (.t 7), none, []⟩] false [0, 5, 6, 7]) (
 .ret))))
 [.tmp 2]
def m60 : MF := .code 3 (
 .seq (
 .reg [
 ⟨(some 3), .box (.t 0), none, []⟩,
 ⟨(some 6), .alloc [.i .i64 0, .i .i64 0, .i .i64 0, .lst true true 0 [], .lst true true 0 []], none, []⟩] false [0]) (
 .seq (
 .reg [
 ⟨(some 13), .load true 5 (.t 3), none, []⟩,
 ⟨(some 14), .call 14 [(.t 13)], none, []⟩,
 ⟨(some 15), .mv (.t 1), none, []⟩,
 ⟨(some 16), .mv (.t 2), none, []⟩,
 ⟨(some 17), .call 81 [(.t 14), (.t 15), (.t 16)], none, []⟩,
 ⟨(some 12), .mv (.t 17), none, []⟩,
 ⟨(some 18), .ext (.t 12) 0, none, []⟩,
 ⟨(some 19), .ext (.t 12) 1, none, []⟩,
 ⟨(some 7), .alloc [.lst true true 0 []], none, []⟩,
 ⟨none, .store 1 (.t 7) (.t 18), none, []⟩,
 ⟨(some 8), .mv (.t 19), none, []⟩] false [8, 12, 13, 14, 15, 16, 17, 18, 19]) (
 .seq (
 .reg [
 ⟨(some 20), .load true 5 (.t 3), none, []⟩,
 ⟨(some 21), .call 54 [(.t 20)], none, []⟩,
 ⟨none, .store 5 (.t 3) (.t 21), none, []⟩] false [20, 21]) (
 .seq (
 .reg [
 ⟨(some 22), .faddr 3 (.t 3), none, []⟩,
 ⟨(some 23), .load false 1 (.t 22), none, [4, 7, 11]⟩,
 ⟨(some 24), .mv (.t 2), none, []⟩,
 ⟨(some 25), .faddr 3 (.t 3), none, []⟩,
 ⟨(some 26), .load false 1 (.t 25), none, [1, 7, 11, 15]⟩,
 ⟨(some 27), .mv (.t 1), none, []⟩,
 ⟨(some 28), .faddr 3 (.t 3), none, []⟩,
 ⟨(some 29), .load false 1 (.t 28), none, [1, 4]⟩,
 ⟨(some 30), .mv (.t 1), none, []⟩,
 ⟨(some 31), .iaddr 5 (.t 29) (.t 30), none, []⟩,
 ⟨(some 32), .faddr 0 (.t 31), none, []⟩,
 ⟨(some 33), .load true 4 (.t 32), none, [1, 4]⟩,
 ⟨(some 34), .build [.i .i64 0, .i .i64 0, .i .i64 0, .i .i64 0] [], none, []⟩,
 ⟨(some 35), .iaddr 5 (.t 23) (.t 24), none, []⟩,
 ⟨(some 36), .faddr 0 (.t 35), none, []⟩,
 ⟨none, .store 4 (.t 36) (.t 33), none, [4]⟩,
 ⟨(some 37), .iaddr 5 (.t 26) (.t 27), none, []⟩,
 ⟨(some 38), .faddr 0 (.t 37), none, []⟩,
 ⟨none, .store 4 (.t 38) (.t 34), none, []⟩] true [22, 23, 24, 25, 26, 27, 28, 29, 30, 31, 32, 33, 34, 35, 36, 37, 38]) (
 .seq (
 .seq (
 .reg [
 ⟨(some 39), .faddr 0 (.t 7), none, []⟩,
 ⟨(some 40), .load false 1 (.t 39), none, []⟩,
 ⟨(some 41), .len false (.t 40), none, []⟩,
 ⟨(some 42), .mv (.k (.i .i64 0)), none, []⟩] false [7, 39]) (
 .block 0 (
 .loop 5 [1, 2, 3, 6, 40, 41, 42] [1, 2, 3, 6] (
 .seq (
 .reg [
 ⟨(some 43), .bin .lss (.t 42) (.t 41), none, []⟩] false []) (
 .seq (
 .cond (.t 43) (
 .skip) (
 .exit 0)) (
 .seq (
 .block 1 (
 .seq (
 .reg [
 ⟨(some 44), .mv (.t 42), none, []⟩,
 ⟨(some 45), .iaddr 1 (.t 40) (.t 42), none, []⟩,
 ⟨(some 46), .load false 1 (.t 45), none, []⟩,
 ⟨(some 9), .mv (.t 44), none, []⟩,
 ⟨(some 10), .mv (.t 46), none, []⟩] false [44, 45, 46]) (
 .reg [
 ⟨(some 47), .faddr 3 (.t 3), none, []⟩,
 ⟨(some 48), .load false 1 (.t 47), none, []⟩,
 ⟨(some 49), .mv (.t 9), none, []⟩,
 ⟨(some 50), .mv (.t 10), none, []⟩,
 ⟨(some 51), .mxn true (.t 50) [(.k (.i .i64 (-1)))], none, []⟩,
 ⟨(some 52), .iaddr 5 (.t 48) (.t 49), none, []⟩,
 ⟨(some 53), .faddr 4 (.t 52), none, []⟩,
 ⟨none, .store 1 (.t 53) (.t 51), none, []⟩] false [9, 10, 47, 48, 49, 50, 51, 52, 53]))) (
 .reg [
 ⟨(some 54), .bin .add (.t 42) (.k (.i .i64 1)), none, []⟩,
 ⟨(some 42), .mv (.t 54), none, []⟩] false [54]))))))) (
 .seq (
 .seq (
 .reg [
 ⟨(some 55), .faddr 4 (.t 3), none, []⟩,
 ⟨(some 56), .load false 1 (.t 55), none, []⟩,
 ⟨(some 57), .len false (.t 56), none, []⟩,
 ⟨(some 58), .mv (.k (.i .i64 0)), none, []⟩] false [55, 56]) (
 .block 2 (
 .loop 10 [1, 2, 3, 6, 57, 58] [3, 6] (
 .seq (
 .reg [
 ⟨(some 59), .bin .lss (.t 58) (.t 57), none, []⟩] false []) (
 .seq (
 .cond (.t 59) (
 .skip) (
 .exit 2)) (
 .seq (
 .block 3 (
 .seq (
 .reg [
 ⟨(some 60), .mv (.t 58), none, []⟩,
 ⟨(some 11), .mv (.t 60), none, []⟩] false [60]) (
 .seq (
 .reg [
 ⟨(some 61), .faddr 4 (.t 3), none, []⟩,
 ⟨(some 62), .load false 1 (.t 61), none, []⟩,
 ⟨(some 63), .mv (.t 11), none, []⟩,
 ⟨(some 64), .iaddr 13 (.t 62) (.t 63), none, []⟩,
 ⟨(some 65), .faddr 5 (.t 64), none, []⟩,
 ⟨(some 66), .load false 1 (.t 65), none, []⟩,
 ⟨(some 67), .mv (.t 1), none, []⟩,
 ⟨(some 68), .bin .add (.t 67) (.k (.i .i64 1)), none, []⟩,
 ⟨(some 69), .bin .eql (.t 66) (.t 68), none, []⟩] false [61, 62, 63, 64, 65, 66, 67, 68]) (
 .cond (.t 69) (
 .reg [
 ⟨(some 70), .faddr 4 (.t 3), none, []⟩,
 ⟨(some 71), .load false 1 (.t 70), none, []⟩,
 ⟨(some 72), .mv (.t 11), none, []⟩,
 ⟨(some 73), .mv (.t 2), none, []⟩,
 ⟨(some 74), .bin .add (.t 73) (.k (.i .i64 1)), none, []⟩,
 ⟨(some 75), .iaddr 13 (.t 71) (.t 72), none, []⟩,
 ⟨(some 76), .faddr 5 (.t 75), none, []⟩,
 ⟨none, .store 1 (.t 76) (.t 74), none, []⟩] false [11, 70, 71, 72, 73, 74, 75, 76]) (
 .skip))))) (
 .reg [
 ⟨(some 77), .bin .add (.t 58) (.k (.i .i64 1)), none, []⟩,
 ⟨(some 58), .mv (.t 77), none, []⟩] false [77]))))))) (
 .seq (
 .reg [
 ⟨(some 78), .load true 5 (.t 3), none, []⟩,
 ⟨none, .store 5 (.t 6) (.t 78), none, []⟩] false [3, 78]) (
 .ret))))))))
 [.cell true 5 6]
def m81 : MF := .code 3 (
 .seq (
 .reg [
 ⟨(some 3), .box (.t 0), none, []⟩,
 ⟨(some 6), .alloc [.lst true true 0 []], none, []⟩,
 ⟨(some 7), .mv (.k (.b false)), none, []⟩] false [0, 7]) (
 .seq (
 .seq (
 .reg [
 ⟨(some 10), .load true 1 (.t 3), none, []⟩,
 ⟨(some 11), .mv (.t 1), none, []⟩,
 ⟨(some 12), .call 94 [(.t 10), (.t 11)], none, []⟩,
 ⟨(some 13), .un .not (.t 12), none, []⟩,
 ⟨(some 14), .mv (.t 13), none, []⟩,
 ⟨(some 15), .mv (.t 2), (some (14, false)), []⟩,
 ⟨(some 16), .bin .lss (.t 15) (.k (.i .i64 0)), (some (14, false)), []⟩,
 ⟨(some 17), .pick (.t 14) (.k (.b true)) (.t 16), none, []⟩,
 ⟨(some 18), .mv (.t 17), none, []⟩,
 ⟨(some 19), .mv (.t 2), (some (18, false)), []⟩,
 ⟨(some 20), .faddr 0 (.t 3), (some (18, false)), []⟩,
 ⟨(some 21), .load false 1 (.t 20), (some (18, false)), []⟩,
 ⟨(some 22), .len false (.t 21), (some (18, false)), []⟩,
 ⟨(some 23), .bin .geq (.t 19) (.t 22), (some (18, false)), []⟩,
 ⟨(some 24), .pick (.t 18) (.k (.b true)) (.t 23), none, []⟩,
 ⟨(some 25), .mv (.t 24), none, []⟩,
 ⟨(some 26), .load true 1 (.t 3), (some (25, false)), []⟩,
 ⟨(some 27), .mv (.t 2), (some (25, false)), []⟩,
 ⟨(some 28), .call 35 [(.t 26), (.t 27)], (some (25, false)), []⟩,
 ⟨(some 29), .pick (.t 25) (.k (.b true)) (.t 28), none, []⟩] false [10, 11, 12, 13, 14, 15, 16, 17, 18, 19, 20, 21, 22, 23, 24, 25, 26, 27, 28]) (
 .cond (.t 29) (
 .seq (
 .reg [
 ⟨(some 30), .build [.lst true true 0 []] [], none, []⟩,
 ⟨none, .store 1 (.t 6) (.t 30), none, []⟩,
 ⟨(some 7), .mv (.k (.b false)), none, []⟩] false [30]) (
 .ret)) (
 .skip))) (
 .seq (
 .reg [
 ⟨(some 31), .load true 1 (.t 3), none, []⟩,
 ⟨(some 32), .call 96 [(.t 31)], none, []⟩,
 ⟨none, .store 1 (.t 3) (.t 32), none, []⟩] false [31, 32]) (
 .seq (
 .seq (
 .reg [
 ⟨(some 33), .load true 1 (.t 3), none, []⟩,
 ⟨(some 34), .mv (.t 1), none, []⟩,
 ⟨(some 35), .call 95 [(.t 33), (.t 34)], none, []⟩,
 ⟨(some 36), .len false (.t 35), none, []⟩,
 ⟨(some 37), .mv (.k (.i .i64 0)), none, []⟩] false [33, 34]) (
 .block 0 (
 .loop 5 [1, 2, 3, 6, 35, 36, 37] [1, 2, 3, 6] (
 .seq (
 .reg [
 ⟨(some 38), .bin .lss (.t 37) (.t 36), none, []⟩] false []) (
 .seq (
 .cond (.t 38) (
 .skip) (
 .exit 0)) (
 .seq (
 .block 1 (
 .seq (
 .reg [
 ⟨(some 39), .iaddr 1 (.t 35) (.t 37), none, []⟩,
 ⟨(some 40), .load false 1 (.t 39), none, []⟩,
 ⟨(some 9), .mv (.t 40), none, []⟩] false [39, 40]) (
 .reg [
 ⟨(some 41), .faddr 0 (.t 3), none, []⟩,
 ⟨(some 42), .load false 1 (.t 41), none, []⟩,
 ⟨(some 43), .mv (.t 9), none, []⟩,
 ⟨(some 44), .mv (.t 2), none, []⟩,
 ⟨(some 45), .iaddr 1 (.t 42) (.t 43), none, []⟩,
 ⟨none, .store 1 (.t 45) (.t 44), none, []⟩] false [9, 41, 42, 43, 44, 45]))) (
 .reg [
 ⟨(some 46), .bin .add (.t 37) (.k (.i .i64 1)), none, []⟩,
 ⟨(some 37), .mv (.t 46), none, []⟩] false [46]))))))) (
 .seq (
 .reg [
 ⟨(some 47), .faddr 0 (.t 3), none, []⟩,
 ⟨(some 48), .load false 1 (.t 47), none, [4, 7]⟩,
 ⟨(some 49), .mv (.t 2), none, []⟩,
 ⟨(some 50), .faddr 0 (.t 3), none, []⟩,
 ⟨(some 51), .load false 1 (.t 50), none, [1]⟩,
 ⟨(some 52), .mv (.t 1), none, []⟩,
 ⟨(some 53), .iaddr 1 (.t 51) (.t 52), none, []⟩,
 ⟨(some 54), .load false 1 (.t 53), none, [1]⟩,
 ⟨(some 55), .iaddr 1 (.t 48) (.t 49), none, []⟩,
 ⟨none, .store 1 (.t 55) (.t 54), none, []⟩] true [2, 47, 48, 49, 50, 51, 52, 53, 54, 55]) (
 .seq (
 .reg [
 ⟨(some 56), .faddr 0 (.t 3), none, []⟩,
 ⟨(some 57), .load false 1 (.t 56), none, []⟩,
 ⟨(some 58), .mv (.t 1), none, []⟩,
 ⟨(some 59), .iaddr 1 (.t 57) (.t 58), none, []⟩,
 ⟨none, .store 1 (.t 59) (.k (.i .i64 (-2))), none, []⟩] false [1, 56, 57, 58, 59]) (
 .seq (
 .reg [
 ⟨(some 60), .load true 1 (.t 3), none, []⟩,
 ⟨none, .store 1 (.t 6) (.t 60), none, []⟩,
 ⟨(some 7), .mv (.k (.b true)), none, []⟩] false [3, 60]) (
 .ret))))))))
 [.cell true 1 6, .tmp 7]
def m94 : MF := .code 2 (
 .seq (
 .reg [
 ⟨(some 2), .box (.t 0), none, []⟩,
 ⟨(some 4), .mv (.k (.b false)), none, []⟩] false [0, 4]) (
 .seq (
 .reg [
 ⟨(some 5), .load true 1 (.t 2), none, []⟩,
 ⟨(some 6), .call 13 [(.t 5)], none, []⟩,
 ⟨(some 7), .mv (.t 6), none, []⟩,
 ⟨(some 8), .load true 1 (.t 2), (some (7, true)), []⟩,
 ⟨(some 9), .mv (.t 1), (some (7, true)), []⟩,
 ⟨(some 10), .call 35 [(.t 8), (.t 9)], (some (7, true)), []⟩,
 ⟨(some 11), .pick (.t 7) (.t 10) (.k (.b false)), none, []⟩,
 ⟨(some 4), .mv (.t 11), none, []⟩] false [1, 2, 5, 6, 7, 8, 9, 10, 11]) (
 .ret)))
 [.tmp 4]
def m96 : MF := .code 1 (
 .seq (
 .reg [
 ⟨(some 1), .box (.t 0), none, []⟩,
 ⟨(some 2), .alloc [.lst true true 0 []], none, []⟩] false [0]) (
 .seq (
 .reg [
 ⟨(some 3), .faddr 0 (.t 1), none, []⟩,
 ⟨(some 4), .load false 1 (.t 3), none, []⟩,
 ⟨(some 5), .call 104 [(.t 4)], none, []⟩,
 ⟨(some 6), .build [.lst true true 0 []] [(0, 1, (.t 5))], none, []⟩,
 ⟨none, .store 1 (.t 2) (.t 6), none, []⟩] false [1, 3, 4, 5, 6]) (
 .ret)))
 [.cell true 1 2]
def m104 : MF := .code 1 (
 .seq (
 .reg [
 ⟨(some 2), .mv (.k (.lst true true 0 [])), none, []⟩] false [2]) (
 .seq (
 .seq (
 .reg [
 ⟨(some 3), .mv (.t 0), none, []⟩,
 ⟨(some 4), .eqn false (.t 3), none, []⟩] false [3]) (
 .cond (.t 4) (
 .seq (
 .reg [
 ⟨(some 2), .mv (.k (.lst true true 0 [])), none, []⟩] false []) (
 .ret)) (
 .skip))) (
 .seq (
 .reg [
 ⟨(some 5), .bsl [.i .i64 0] 0 [], none, []⟩,
 ⟨(some 6), .mv (.t 0), none, []⟩,
 ⟨(some 7), .append 1 (.t 5) (.t 6), none, []⟩,
 ⟨(some 2), .mv (.t 7), none, []⟩] false [0, 5, 6, 7]) (
 .ret))))
 [.tmp 2]
def m95 : MF := .code 2 (
 .seq (
 .reg [
 ⟨(some 2), .box (.t 0), none, []⟩,
 ⟨(some 4), .mv (.k (.lst true true 0 [])), none, []⟩] false [0, 4]) (
 .seq (
 .reg [
 ⟨(some 5), .mv (.k (.lst true true 0 [])), none, []⟩] false []) (
 .seq (
 .seq (
 .reg [
 ⟨(some 8), .faddr 0 (.t 2), none, []⟩,
 ⟨(some 9), .load false 1 (.t 8), none, []⟩,
 ⟨(some 10), .len false (.t 9), none, []⟩,
 ⟨(some 11), .mv (.k (.i .i64 0)), none, []⟩] false [2, 8]) (
 .block 0 (
 .loop 3 [1, 5, 9, 10, 11] [5] (
 .seq (
 .reg [
 ⟨(some 12), .bin .lss (.t 11) (.t 10), none, []⟩] false []) (
 .seq (
 .cond (.t 12) (
 .skip) (
 .exit 0)) (
 .seq (
 .block 1 (
 .seq (
 .reg [
 ⟨(some 13), .mv (.t 11), none, []⟩,
 ⟨(some 14), .iaddr 1 (.t 9) (.t 11), none, []⟩,
 ⟨(some 15), .load false 1 (.t 14), none, []⟩,
 ⟨(some 6), .mv (.t 13), none, []⟩,
 ⟨(some 7), .mv (.t 15), none, []⟩] false [13, 14, 15]) (
 .seq (
 .reg [
 ⟨(some 16), .mv (.t 7), none, []⟩,
 ⟨(some 17), .mv (.t 1), none, []⟩,
 ⟨(some 18), .bin .eql (.t 16) (.t 17), none, []⟩] false [7, 16, 17]) (
 .cond (.t 18) (
 .reg [
 ⟨(some 19), .mv (.t 5), none, []⟩,
 ⟨(some 20), .mv (.t 6), none, []⟩,
 ⟨(some 21), .bsl [.i .i64 0] 1 [(0, (.t 20))], none, []⟩,
 ⟨(some 22), .append 1 (.t 19) (.t 21), none, []⟩,
 ⟨(some 5), .mv (.t 22), none, []⟩] false [6, 19, 20, 21, 22]) (
 .skip))))) (
 .reg [
 ⟨(some 23), .bin .add (.t 11) (.k (.i .i64 1)), none, []⟩,
 ⟨(some 11), .mv (.t 23), none, []⟩] false [23]))))))) (
 .seq (
 .reg [
 ⟨(some 24), .mv (.t 5), none, []⟩,
 ⟨(some 4), .mv (.t 24), none, []⟩] false [5, 24]) (
 .ret)))))
 [.tmp 4]
def m5 : MF := .code 4 (
 .seq (
 .reg [
 ⟨(some 4), .box (.t 0), none, []⟩,
 ⟨(some 8), .mv (.k (.b false)), none, []⟩] false [0, 8]) (
 .seq (
 .seq (
 .reg [
 ⟨(some 14), .call 16 [], none, []⟩,
 ⟨(some 15), .un .not (.t 14), none, []⟩] false [14]) (
 .cond (.t 15) (
 .seq (
 .reg [
 ⟨(some 8), .mv (.k (.b false)), none, []⟩] false []) (
 .ret)) (
 .skip))) (
 .seq (
 .reg [
 ⟨(some 16), .mv (.t 2), none, []⟩,
 ⟨(some 17), .call 19 [(.t 16)], none, []⟩,
 ⟨(some 18), .mv (.t 3), none, []⟩,
 ⟨(some 19), .call 19 [(.t 18)], none, []⟩,
 ⟨(some 20), .build [.i .i64 0, .lst true true 0 [], .lst true true 0 [], .i .i64 0, .i .i64 0, .i .u64 0] [(0, 1, (.k (.i .i64 4))), (1, 1, (.t 17)), (2, 1, (.t 19))], none, []⟩,
 ⟨(some 9), .alloc [.i .i64 0, .lst true true 0 [], .lst true true 0 [], .i .i64 0, .i .i64 0, .i .u64 0], none, []⟩,
 ⟨none, .store 6 (.t 9) (.t 20), none, []⟩] false [16, 17, 18, 19, 20]) (
 .seq (
 .seq (
 .reg [
 ⟨(some 21), .load true 5 (.t 4), none, []⟩,
 ⟨(some 22), .load true 6 (.t 9), none, []⟩,
 ⟨(some 23), .call 20 [(.t 21), (.t 22)], none, []⟩,
 ⟨(some 24), .mv (.t 23), none, []⟩,
 ⟨(some 25), .load true 5 (.t 4), (some (24, false)), []⟩,
 ⟨(some 26), .call 9 [(.t 25)], (some (24, false)), []⟩,
 ⟨(some 27), .un .not (.t 26), (some (24, false)), []⟩,
 ⟨(some 28), .pick (.t 24) (.k (.b true)) (.t 27), none, []⟩,
 ⟨(some 29), .mv (.t 28), none, []⟩,
 ⟨(some 30), .mv (.t 2), (some (29, false)), []⟩,
 ⟨(some 31), .len false (.t 30), (some (29, false)), []⟩,
 ⟨(some 32), .bin .neq (.t 31) (.k (.i .i64 1)), (some (29, false)), []⟩,
 ⟨(some 33), .pick (.t 29) (.k (.b true)) (.t 32), none, []⟩,
 ⟨(some 34), .mv (.t 33), none, []⟩,
 ⟨(some 35), .mv (.t 3), (some (34, false)), []⟩,
 ⟨(some 36), .len false (.t 35), (some (34, false)), []⟩,
 ⟨(some 37), .bin .neq (.t 36) (.k (.i .i64 1)), (some (34, false)), []⟩,
 ⟨(some 38), .pick (.t 34) (.k (.b true)) (.t 37), none, []⟩] false [21, 22, 23, 24, 25, 26, 27, 28, 29, 30, 31, 32, 33, 34, 35, 36, 37]) (
 .cond (.t 38) (
 .seq (
 .reg [
 ⟨(some 8), .mv (.k (.b true)), none, []⟩] false []) (
 .ret)) (
 .skip))) (
 .seq (
 .reg [
 ⟨(some 40), .load true 5 (.t 4), none, []⟩,
 ⟨(some 41), .mv (.t 1), none, []⟩,
 ⟨(some 42), .load true 6 (.t 9), none, []⟩,
 ⟨(some 43), .call 17 [(.t 40), (.t 41), (.t 42)], none, []⟩,
 ⟨(some 39), .mv (.t 43), none, []⟩,
 ⟨(some 44), .ext (.t 39) 0, none, []⟩,
 ⟨(some 45), .ext (.t 39) 1, none, []⟩,
 ⟨(some 10), .alloc [.i .i64 0, .i .i64 0, .i .i64 0, .lst true true 0 [], .lst true true 0 []], none, []⟩,
 ⟨(some 11), .alloc [.i .i64 0, .i .u64 0, .i .i64 0], none, []⟩,
 ⟨none, .store 5 (.t 10) (.t 44), none, []⟩,
 ⟨none, .store 3 (.t 11) (.t 45), none, []⟩] false [9, 39, 40, 41, 42, 43, 44, 45]) (
 .seq (
 .seq (
 .reg [
 ⟨(some 46), .faddr 0 (.t 11), none, []⟩,
 ⟨(some 47), .load false 1 (.t 46), none, []⟩,
 ⟨(some 48), .bin .neq (.t 47) (.k (.i .i64 0)), none, []⟩] false [11, 46, 47]) (
 .cond (.t 48) (
 .seq (
 .reg [
 ⟨(some 49), .load true 5 (.t 10), none, []⟩,
 ⟨(some 50), .load true 5 (.t 4), none, []⟩,
 ⟨(some 51), .call 11 [(.t 49), (.t 50)], none, []⟩,
 ⟨(some 8), .mv (.t 51), none, []⟩] false [4, 10, 49, 50, 51]) (
 .ret)) (
 .skip))) (
 .seq (
 .reg [
 ⟨(some 53), .load true 5 (.t 10), none, [3, 5, 11, 12]⟩,
 ⟨(some 54), .mv (.t 1), none, []⟩,
 ⟨(some 55), .mv (.t 3), none, []⟩,
 ⟨(some 56), .call 19 [(.t 55)], none, [0, 11, 12]⟩,
 ⟨(some 57), .mv (.t 2), none, []⟩,
 ⟨(some 58), .call 19 [(.t 57)], none, [0, 11, 12]⟩,
 ⟨(some 59), .build [.i .i64 0, .lst true true 0 [], .lst true true 0 [], .i .i64 0, .i .i64 0, .i .u64 0] [(0, 1, (.k (.i .i64 4))), (1, 1, (.t 56)), (2, 1, (.t 58))], none, []⟩,
 ⟨(some 60), .call 17 [(.t 53), (.t 54), (.t 59)], none, [11, 12]⟩,
 ⟨(some 52), .mv (.t 60), none, []⟩,
 ⟨(some 61), .ext (.t 52) 0, none, []⟩,
 ⟨(some 62), .ext (.t 52) 1, none, []⟩,
 ⟨(some 12), .alloc [.i .i64 0, .i .i64 0, .i .i64 0, .lst true true 0 [], .lst true true 0 []], none, [0, 3, 5, 7, 12]⟩,
 ⟨(some 13), .alloc [.i .i64 0, .i .u64 0, .i .i64 0], none, [0, 3, 5, 7, 11]⟩,
 ⟨none, .store 5 (.t 12) (.t 61), none, []⟩,
 ⟨none, .store 3 (.t 13) (.t 62), none, []⟩] true [1, 2, 3, 10, 52, 53, 54, 55, 56, 57, 58, 59, 60, 61, 62]) (
 .seq (
 .reg [
 ⟨(some 63), .faddr 0 (.t 13), none, []⟩,
 ⟨(some 64), .load false 1 (.t 63), none, []⟩,
 ⟨(some 65), .bin .eql (.t 64) (.k (.i .i64 0)), none, []⟩,
 ⟨(some 66), .mv (.t 65), none, []⟩,
 ⟨(some 67), .load true 5 (.t 12), (some (66, true)), []⟩,
 ⟨(some 68), .load true 5 (.t 4), (some (66, true)), []⟩,
 ⟨(some 69), .call 11 [(.t 67), (.t 68)], (some (66, true)), []⟩,
 ⟨(some 70), .pick (.t 66) (.t 69) (.k (.b false)), none, []⟩,
 ⟨(some 8), .mv (.t 70), none, []⟩] false [4, 12, 13, 63, 64, 65, 66, 67, 68, 69, 70]) (
 .ret)))))))))
 [.tmp 8]
def m20 : MF := .code 2 (
 .seq (
 .reg [
 ⟨(some 2), .box (.t 0), none, []⟩,
 ⟨(some 3), .box (.t 1), none, []⟩,
 ⟨(some 4), .mv (.k (.b false)), none, []⟩] false [0, 1, 4]) (
 .seq (
 .reg [
 ⟨(some 5), .faddr 3 (.t 2), none, []⟩,
 ⟨(some 6), .load false 1 (.t 5), none, []⟩,
 ⟨(some 7), .len false (.t 6), none, []⟩,
 ⟨(some 8), .bin .gtr (.t 7) (.k (.i .i64 100)), none, []⟩,
 ⟨(some 9), .mv (.t 8), none, []⟩,
 ⟨(some 10), .faddr 4 (.t 2), (some (9, false)), []⟩,
 ⟨(some 11), .load false 1 (.t 10), (some (9, false)), []⟩,
 ⟨(some 12), .len false (.t 11), (some (9, false)), []⟩,
 ⟨(some 13), .bin .gtr (.t 12) (.k (.i .i64 50)), (some (9, false)), []⟩,
 ⟨(some 14), .pick (.t 9) (.k (.b true)) (.t 13), none, []⟩,
 ⟨(some 15), .mv (.t 14), none, []⟩,
 ⟨(some 16), .faddr 1 (.t 3), (some (15, false)), []⟩,
 ⟨(some 17), .faddr 0 (.t 16), (some (15, false)), []⟩,
 ⟨(some 18), .load false 1 (.t 17), (some (15, false)), []⟩,
 ⟨(some 19), .len false (.t 18), (some (15, false)), []⟩,
 ⟨(some 20), .bin .gtr (.t 19) (.k (.i .i64 10)), (some (15, false)), []⟩,
 ⟨(some 21), .pick (.t 15) (.k (.b true)) (.t 20), none, []⟩,
 ⟨(some 22), .mv (.t 21), none, []⟩,
 ⟨(some 23), .faddr 2 (.t 3), (some (22, false)), []⟩,
 ⟨(some 24), .faddr 0 (.t 23), (some (22, false)), []⟩,
 ⟨(some 25), .load false 1 (.t 24), (some (22, false)), []⟩,
 ⟨(some 26), .len false (.t 25), (some (22, false)), []⟩,
 ⟨(some 27), .bin .gtr (.t 26) (.k (.i .i64 10)), (some (22, false)), []⟩,
 ⟨(some 28), .pick (.t 22) (.k (.b true)) (.t 27), none, []⟩,
 ⟨(some 4), .mv (.t 28), none, []⟩] false [2, 3, 5, 6, 7, 8, 9, 10, 11, 12, 13, 14, 15, 16, 17, 18, 19, 20, 21, 22, 23, 24, 25, 26, 27, 28]) (
 .ret)))
 [.tmp 4]
def m11 : MF := .code 2 (
 .seq (
 .reg [
 ⟨(some 2), .box (.t 0), none, []⟩,
 ⟨(some 3), .box (.t 1), none, []⟩,
 ⟨(some 4), .mv (.k (.b false)), none, []⟩] false [0, 1, 4]) (
 .seq (
 .reg [
 ⟨(some 5), .faddr 0 (.t 2), none, []⟩,
 ⟨(some 6), .load true 3 (.t 5), none, []⟩,
 ⟨(some 7), .faddr 0 (.t 3), none, []⟩,
 ⟨(some 8), .load true 3 (.t 7), none, []⟩,
 ⟨(some 9), .eq false true [.i, .i, .i] (.t 6) (.t 8), none, []⟩,
 ⟨(some 10), .mv (.t 9), none, []⟩,
 ⟨(some 11), .faddr 3 (.t 2), (some (10, true)), []⟩,
 ⟨(some 12), .load false 1 (.t 11), (some (10, true)), []⟩,
 ⟨(some 13), .faddr 3 (.t 3), (some (10, true)), []⟩,
 ⟨(some 14), .load false 1 (.t 13), (some (10, true)), []⟩,
 ⟨(some 15), .call 32 [(.t 12), (.t 14)], (some (10, true)), []⟩,
 ⟨(some 16), .pick (.t 10) (.t 15) (.k (.b false)), none, []⟩,
 ⟨(some 17), .mv (.t 16), none, []⟩,
 ⟨(some 18), .faddr 4 (.t 2), (some (17, true)), []⟩,
 ⟨(some 19), .load false 1 (.t 18), (some (17, true)), []⟩,
 ⟨(some 20), .faddr 4 (.t 3), (some (17, true)), []⟩,
 ⟨(some 21), .load false 1 (.t 20), (some (17, true)), []⟩,
 ⟨(some 22), .call 33 [(.t 19), (.t 21)], (some (17, true)), []⟩,
 ⟨(some 23), .pick (.t 17) (.t 22) (.k (.b false)), none, []⟩,
 ⟨(some 4), .mv (.t 23), none, []⟩] false [2, 3, 5, 6, 7, 8, 9, 10, 11, 12, 13, 14, 15, 16, 17, 18, 19, 20, 21, 22, 23]) (
 .ret)))
 [.tmp 4]
def m32 : MF := .code 2 (
 .seq (
 .reg [
 ⟨(some 4), .mv (.k (.b false)), none, []⟩] false [4]) (
 .seq (
 .seq (
 .reg [
 ⟨(some 6), .mv (.t 0), none, []⟩,
 ⟨(some 7), .len false (.t 6), none, []⟩,
 ⟨(some 8), .mv (.t 1), none, []⟩,
 ⟨(some 9), .len false (.t 8), none, []⟩,
 ⟨(some 10), .bin .neq (.t 7) (.t 9), none, []⟩] false [6, 7, 8, 9]) (
 .cond (.t 10) (
 .seq (
 .reg [
 ⟨(some 4), .mv (.k (.b false)), none, []⟩] false []) (
 .ret)) (
 .skip))) (
 .seq (
 .seq (
 .reg [
 ⟨(some 11), .mv (.t 0), none, []⟩,
 ⟨(some 12), .len false (.t 11), none, []⟩,
 ⟨(some 13), .mv (.k (.i .i64 0)), none, []⟩] false [11]) (
 .block 0 (
 .loop 4 [0, 1, 12, 13] [4] (
 .seq (
 .reg [
 ⟨(some 14), .bin .lss (.t 13) (.t 12), none, []⟩] false []) (
 .seq (
 .cond (.t 14) (
 .skip) (
 .exit 0)) (
 .seq (
 .block 1 (
 .seq (
 .reg [
 ⟨(some 15), .mv (.t 13), none, []⟩,
 ⟨(some 5), .mv (.t 15), none, []⟩] false [15]) (
 .seq (
 .reg [
 ⟨(some 16), .mv (.t 0), none, []⟩,
 ⟨(some 17), .mv (.t 5), none, []⟩,
 ⟨(some 18), .iaddr 5 (.t 16) (.t 17), none, []⟩,
 ⟨(some 19), .load true 5 (.t 18), none, [7]⟩,
 ⟨(some 20), .mv (.t 1), none, []⟩,
 ⟨(some 21), .mv (.t 5), none, []⟩,
 ⟨(some 22), .iaddr 5 (.t 20) (.t 21), none, []⟩,
 ⟨(some 23), .load true 5 (.t 22), none, [3]⟩,
 ⟨(some 24), .eq true true [.i, .i, .i, .i, .i] (.t 19) (.t 23), none, []⟩] true [5, 16, 17, 18, 19, 20, 21, 22, 23]) (
 .cond (.t 24) (
 .seq (
 .reg [
 ⟨(some 4), .mv (.k (.b false)), none, []⟩] false []) (
 .ret)) (
 .skip))))) (
 .reg [
 ⟨(some 25), .bin .add (.t 13) (.k (.i .i64 1)), none, []⟩,
 ⟨(some 13), .mv (.t 25), none, []⟩] false [25]))))))) (
 .seq (
 .reg [
 ⟨(some 4), .mv (.k (.b true)), none, []⟩] false []) (
 .ret)))))
 [.tmp 4]
def m33 : MF := .code 2 (
 .seq (
 .reg [
 ⟨(some 4), .mv (.k (.b false)), none, []⟩] false [4]) (
 .seq (
 .seq (
 .reg [
 ⟨(some 6), .mv (.t 0), none, []⟩,
 ⟨(some 7), .len false (.t 6), none, []⟩,
 ⟨(some 8), .mv (.t 1), none, []⟩,
 ⟨(some 9), .len false (.t 8), none, []⟩,
 ⟨(some 10), .bin .neq (.t 7) (.t 9), none, []⟩] false [6, 7, 8, 9]) (
 .cond (.t 10) (
 .seq (
 .reg [
 ⟨(some 4), .mv (.k (.b false)), none, []⟩] false []) (
 .ret)) (
 .skip))) (
 .seq (
 .seq (
 .reg [
 ⟨(some 11), .mv (.t 0), none, []⟩,
 ⟨(some 12), .len false (.t 11), none, []⟩,
 ⟨(some 13), .mv (.k (.i .i64 0)), none, []⟩] false [11]) (
 .block 0 (
 .loop 4 [0, 1, 12, 13] [4] (
 .seq (
 .reg [
 ⟨(some 14), .bin .lss (.t 13) (.t 12), none, []⟩] false []) (
 .seq (
 .cond (.t 14) (
 .skip) (
 .exit 0)) (
 .seq (
 .block 1 (
 .seq (
 .reg [
 ⟨(some 15), .mv (.t 13), none, []⟩,
 ⟨(some 5), .mv (.t 15), none, []⟩] false [15]) (
 .seq (
 .reg [
 ⟨(some 16), .mv (.t 0), none, []⟩,
 ⟨(some 17), .mv (.t 5), none, []⟩,
 ⟨(some 18), .iaddr 13 (.t 16) (.t 17), none, []⟩,
 ⟨(some 19), .load true 13 (.t 18), none, [7]⟩,
 ⟨(some 20), .mv (.t 1), none, []⟩,
 ⟨(some 21), .mv (.t 5), none, []⟩,
 ⟨(some 22), .iaddr 13 (.t 20) (.t 21), none, []⟩,
 ⟨(some 23), .load true 13 (.t 22), none, [3]⟩,
 ⟨(some 24), .eq true true [.i, .i, .i, .i, .i, .i, .i, .b, .i, .i, .i, .i, .i] (.t 19) (.t 23), none, []⟩] true [5, 16, 17, 18, 19, 20, 21, 22, 23]) (
 .cond (.t 24) (
 .seq (
 .reg [
 ⟨(some 4), .mv (.k (.b false)), none, []⟩] false []) (
 .ret)) (
 .skip))))) (
 .reg [
 ⟨(some 25), .bin .add (.t 13) (.k (.i .i64 1)), none, []⟩,
 ⟨(some 13), .mv (.t 25), none, []⟩] false [25]))))))) (
 .seq (
 .reg [
 ⟨(some 4), .mv (.k (.b true)), none, []⟩] false []) (
 .ret)))))
 [.tmp 4]
def tabL0 : List (Nat × MF) := [(16, m16), (18, m18), (40, m40), (39, m39), (55, m55), (45, m45), (66, m66), (34, m34), (25, m25), (42, m42), (46, m46), (19, m19), (17, m17), (38, m38), (49, m49), (69, m69), (85, m85), (70, m70), (71, m71), (88, m88), (99, m99), (87, m87), (72, m72), (73, m73), (90, m90), (63, m63), (50, m50), (74, m74), (9, m9), (26, m26), (43, m43), (21, m21), (62, m62), (64, m64), (65, m65), (44, m44), (27, m27), (47, m47), (28, m28), (29, m29), (48, m48), (67, m67), (83, m83), (68, m68), (36, m36), (84, m84), (14, m14), (13, m13), (35, m35), (30, m30), (22, m22), (41, m41), (61, m61), (82, m82), (91, m91), (93, m93), (92, m92), (56, m56), (78, m78), (57, m57), (51, m51), (58, m58), (79, m79), (59, m59), (80, m80), (54, m54), (76, m76), (77, m77), (60, m60), (81, m81), (94, m94), (96, m96), (104, m104), (95, m95), (5, m5), (20, m20), (11, m11), (32, m32), (33, m33)]
def tab : Tab := tabOf tabL0
end Go.Rv
