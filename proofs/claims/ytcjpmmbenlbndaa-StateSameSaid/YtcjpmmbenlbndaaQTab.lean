/- the functions' code -/
import Derived.Test.YtcjpmmbenlbndaaEvC
namespace Go.Rv
/-- reeve/reevelaw12.awake -/
def m9 : MF := .code 0 (
 .seq (
 .reg [
   ⟨(some 0), .mv (.k (.b false)), none, []⟩] false [0]) (
 .seq (
 .reg [
   ⟨(some 6), .call 24 [], none, []⟩,
   ⟨(some 7), .call 14 [(.t 6), (.k (.i .i64 64))], none, []⟩,
   ⟨(some 5), .mv (.t 7), none, []⟩,
   ⟨(some 8), .ext (.t 5) 0, none, []⟩,
   ⟨(some 9), .ext (.t 5) 1, none, []⟩,
   ⟨(some 1), .alloc [.i .i64 0, .i .i64 0, .i .i64 0, .lst true true 0 [], .lst true true 0 []], none, []⟩,
   ⟨none, .store 5 (.t 1) (.t 8), none, []⟩,
   ⟨(some 2), .mv (.t 9), none, []⟩] false [5, 6, 7, 8, 9]) (
 .seq (
 .reg [
   ⟨(some 3), .mv (.k (.i .i64 0)), none, []⟩] false []) (
 .seq (
 .seq (
 .reg [
   ⟨(some 4), .mv (.k (.i .i64 0)), none, []⟩] false []) (
 .block 0 (
  .loop 4 [1, 2, 3, 4] [1, 2, 3] (
   .seq (
   .seq (
   .reg [
     ⟨(some 10), .mv (.t 4), none, []⟩,
     ⟨(some 11), .faddr 3 (.t 1), none, []⟩,
     ⟨(some 12), .load false 1 (.t 11), none, []⟩,
     ⟨(some 13), .len false (.t 12), none, []⟩,
     ⟨(some 14), .bin .lss (.t 10) (.t 13), none, []⟩] false [10, 11, 12, 13]) (
   .cond (.t 14) (
    .skip) (
    .exit 0))) (
   .seq (
   .block 1 (
    .seq (
    .reg [
      ⟨(some 17), .faddr 3 (.t 1), none, []⟩,
      ⟨(some 18), .load false 1 (.t 17), none, []⟩,
      ⟨(some 19), .mv (.t 4), none, []⟩,
      ⟨(some 20), .iaddr 5 (.t 18) (.t 19), none, []⟩,
      ⟨(some 21), .faddr 0 (.t 20), none, []⟩,
      ⟨(some 22), .load true 4 (.t 21), none, []⟩,
      ⟨(some 23), .call 12 [(.t 22)], none, []⟩,
      ⟨(some 24), .un .not (.t 23), none, []⟩] false [17, 18, 19, 20, 21, 22, 23]) (
    .cond (.t 24) (
     .reg [
       ⟨(some 25), .mv (.t 3), none, []⟩,
       ⟨(some 26), .bin .add (.t 25) (.k (.i .i64 1)), none, []⟩,
       ⟨(some 3), .mv (.t 26), none, []⟩] false [25, 26]) (
     .skip)))) (
   .reg [
     ⟨(some 15), .mv (.t 4), none, []⟩,
     ⟨(some 16), .bin .add (.t 15) (.k (.i .i64 1)), none, []⟩,
     ⟨(some 4), .mv (.t 16), none, []⟩] false [15, 16])))))) (
 .seq (
 .reg [
   ⟨(some 27), .mv (.t 2), none, []⟩,
   ⟨(some 28), .bin .eql (.t 27) (.k (.i .i64 0)), none, []⟩,
   ⟨(some 29), .mv (.t 28), none, []⟩,
   ⟨(some 30), .mv (.t 3), (some (29, true)), []⟩,
   ⟨(some 31), .bin .eql (.t 30) (.k (.i .i64 3)), (some (29, true)), []⟩,
   ⟨(some 32), .pick (.t 29) (.t 31) (.k (.b false)), none, []⟩,
   ⟨(some 33), .mv (.t 32), none, []⟩,
   ⟨(some 34), .load true 5 (.t 1), (some (33, true)), []⟩,
   ⟨(some 35), .call 11 [(.t 34)], (some (33, true)), []⟩,
   ⟨(some 36), .pick (.t 33) (.t 35) (.k (.b false)), none, []⟩,
   ⟨(some 37), .mv (.t 36), none, []⟩,
   ⟨(some 38), .faddr 4 (.t 1), (some (37, true)), []⟩,
   ⟨(some 39), .load false 1 (.t 38), (some (37, true)), []⟩,
   ⟨(some 40), .len false (.t 39), (some (37, true)), []⟩,
   ⟨(some 41), .bin .eql (.t 40) (.k (.i .i64 16)), (some (37, true)), []⟩,
   ⟨(some 42), .pick (.t 37) (.t 41) (.k (.b false)), none, []⟩,
   ⟨(some 43), .mv (.t 42), none, []⟩,
   ⟨(some 44), .faddr 3 (.t 1), (some (43, true)), []⟩,
   ⟨(some 45), .load false 1 (.t 44), (some (43, true)), []⟩,
   ⟨(some 46), .len false (.t 45), (some (43, true)), []⟩,
   ⟨(some 47), .bin .eql (.t 46) (.k (.i .i64 32)), (some (43, true)), []⟩,
   ⟨(some 48), .pick (.t 43) (.t 47) (.k (.b false)), none, []⟩,
   ⟨(some 0), .mv (.t 48), none, []⟩] false [1, 2, 3, 27, 28, 29, 30, 31, 32, 33, 34, 35, 36, 37, 38, 39, 40, 41, 42, 43, 44, 45, 46, 47, 48]) (
 .ret))))))
 [.tmp 0]

/-- reeve/geo.Plain -/
def m24 : MF := .code 0 (
 .seq (
 .reg [
   ⟨(some 0), .alloc [.i .i64 0, .i .i64 0, .i .i64 0], none, []⟩] false []) (
 .seq (
 .reg [
   ⟨(some 1), .build [.i .i64 0, .i .i64 0, .i .i64 0] [(0, 1, (.k (.i .i64 2))), (1, 1, (.k (.i .i64 32))), (2, 1, (.k (.i .i64 16)))], none, []⟩,
   ⟨none, .store 3 (.t 0) (.t 1), none, []⟩] false [1]) (
 .ret)))
 [.cell true 3 0]

/-- reeve/state.New -/
def m14 : MF := .code 2 (
 .seq (
 .reg [
   ⟨(some 2), .box (.t 0), none, []⟩,
   ⟨(some 4), .alloc [.i .i64 0, .i .i64 0, .i .i64 0, .lst true true 0 [], .lst true true 0 []], none, []⟩,
   ⟨(some 5), .mv (.k (.i .i64 0)), none, []⟩] false [0, 5]) (
 .seq (
 .reg [
   ⟨(some 14), .mv (.t 1), none, []⟩,
   ⟨(some 15), .call 43 [(.k (.i .i64 1)), (.t 14), (.k (.i .i64 0))], none, []⟩,
   ⟨(some 13), .mv (.t 15), none, []⟩,
   ⟨(some 16), .ext (.t 13) 0, none, []⟩,
   ⟨(some 17), .ext (.t 13) 1, none, []⟩,
   ⟨(some 6), .alloc [.i .i64 0, .i .i64 0, .i .i64 0, .i .i64 0, .i .i64 0, .i .i64 0, .i .i64 0, .b false, .i .u64 0, .i .u64 0, .i .u64 0, .i .u64 0, .i .u64 0], none, []⟩,
   ⟨none, .store 13 (.t 6) (.t 16), none, []⟩,
   ⟨(some 7), .mv (.t 17), none, []⟩] false [1, 13, 14, 15, 16, 17]) (
 .seq (
 .seq (
 .reg [
   ⟨(some 18), .load true 3 (.t 2), none, []⟩,
   ⟨(some 19), .call 15 [(.t 18)], none, []⟩,
   ⟨(some 20), .un .not (.t 19), none, []⟩,
   ⟨(some 21), .mv (.t 20), none, []⟩,
   ⟨(some 22), .mv (.t 7), (some (21, false)), []⟩,
   ⟨(some 23), .un .not (.t 22), (some (21, false)), []⟩,
   ⟨(some 24), .pick (.t 21) (.k (.b true)) (.t 23), none, []⟩] false [7, 18, 19, 20, 21, 22, 23]) (
 .cond (.t 24) (
  .seq (
  .reg [
    ⟨(some 25), .build [.i .i64 0, .i .i64 0, .i .i64 0, .lst true true 0 [], .lst true true 0 []] [], none, []⟩,
    ⟨none, .store 5 (.t 4) (.t 25), none, []⟩,
    ⟨(some 5), .mv (.k (.i .i64 1)), none, []⟩] false [25]) (
  .ret)) (
  .skip))) (
 .seq (
 .reg [
   ⟨(some 26), .load true 3 (.t 2), none, [2, 3, 5, 6, 8]⟩,
   ⟨(some 27), .faddr 1 (.t 2), none, []⟩,
   ⟨(some 28), .load false 1 (.t 27), none, [0, 5, 6, 8]⟩,
   ⟨(some 29), .mkrow [.i .i64 0, .i .i64 0, .i .i64 0, .i .i64 0, .i .i64 0] (.t 28) (.t 28), none, [0, 5, 6, 8]⟩,
   ⟨(some 30), .faddr 2 (.t 2), none, []⟩,
   ⟨(some 31), .load false 1 (.t 30), none, [0, 2, 3, 8]⟩,
   ⟨(some 32), .mkrow [.i .i64 0, .i .i64 0, .i .i64 0, .i .i64 0, .i .i64 0, .i .i64 0, .i .i64 0, .b false, .i .u64 0, .i .u64 0, .i .u64 0, .i .u64 0, .i .u64 0] (.t 31) (.t 31), none, [0, 2, 3, 8]⟩,
   ⟨(some 33), .build [.i .i64 0, .i .i64 0, .i .i64 0, .lst true true 0 [], .lst true true 0 []] [(0, 3, (.t 26)), (3, 1, (.t 29)), (4, 1, (.t 32))], none, []⟩,
   ⟨(some 8), .alloc [.i .i64 0, .i .i64 0, .i .i64 0, .lst true true 0 [], .lst true true 0 []], none, [0, 2, 3, 5, 6]⟩,
   ⟨none, .store 5 (.t 8) (.t 33), none, []⟩] true [26, 27, 28, 29, 30, 31, 32, 33]) (
 .seq (
 .seq (
 .reg [
   ⟨(some 34), .faddr 3 (.t 8), none, []⟩,
   ⟨(some 35), .load false 1 (.t 34), none, []⟩,
   ⟨(some 36), .len false (.t 35), none, []⟩,
   ⟨(some 37), .mv (.k (.i .i64 0)), none, []⟩] false [34, 35]) (
 .block 0 (
  .loop 6 [2, 4, 6, 8, 36, 37] [2, 4, 6, 8] (
   .seq (
   .reg [
     ⟨(some 38), .bin .lss (.t 37) (.t 36), none, []⟩] false []) (
   .seq (
   .cond (.t 38) (
    .skip) (
    .exit 0)) (
   .seq (
   .block 1 (
    .seq (
    .reg [
      ⟨(some 39), .mv (.t 37), none, []⟩,
      ⟨(some 9), .mv (.t 39), none, []⟩] false [39]) (
    .reg [
      ⟨(some 40), .faddr 3 (.t 8), none, []⟩,
      ⟨(some 41), .load false 1 (.t 40), none, []⟩,
      ⟨(some 42), .mv (.t 9), none, []⟩,
      ⟨(some 43), .iaddr 5 (.t 41) (.t 42), none, []⟩,
      ⟨(some 44), .faddr 4 (.t 43), none, []⟩,
      ⟨none, .store 1 (.t 44) (.k (.i .i64 (-1))), none, []⟩] false [9, 40, 41, 42, 43, 44]))) (
   .reg [
     ⟨(some 45), .bin .add (.t 37) (.k (.i .i64 1)), none, []⟩,
     ⟨(some 37), .mv (.t 45), none, []⟩] false [45]))))))) (
 .seq (
 .reg [
   ⟨(some 46), .faddr 4 (.t 8), none, []⟩,
   ⟨(some 47), .load false 1 (.t 46), none, []⟩,
   ⟨(some 48), .load true 13 (.t 6), none, []⟩,
   ⟨(some 49), .iaddr 13 (.t 47) (.k (.i .i64 0)), none, []⟩,
   ⟨none, .store 13 (.t 49) (.t 48), none, []⟩] false [6, 46, 47, 48, 49]) (
 .seq (
 .reg [
   ⟨(some 51), .faddr 4 (.t 8), none, []⟩,
   ⟨(some 52), .load false 1 (.t 51), none, [2]⟩,
   ⟨(some 53), .call 43 [(.k (.i .i64 3)), (.k (.i .i64 0)), (.k (.i .i64 0))], none, [1]⟩,
   ⟨(some 50), .mv (.t 53), none, []⟩,
   ⟨(some 54), .ext (.t 50) 0, none, []⟩,
   ⟨(some 55), .ext (.t 50) 1, none, []⟩,
   ⟨(some 56), .iaddr 13 (.t 52) (.k (.i .i64 1)), none, []⟩,
   ⟨none, .store 13 (.t 56) (.t 54), none, []⟩] true [50, 51, 52, 53, 54, 55, 56]) (
 .seq (
 .reg [
   ⟨(some 57), .load true 3 (.t 2), none, []⟩,
   ⟨(some 58), .call 16 [(.t 57), (.k (.i .i64 0))], none, []⟩,
   ⟨(some 10), .mv (.t 58), none, []⟩] false [57, 58]) (
 .seq (
 .reg [
   ⟨(some 59), .faddr 3 (.t 8), none, []⟩,
   ⟨(some 60), .load false 1 (.t 59), none, []⟩,
   ⟨(some 61), .mv (.t 10), none, []⟩,
   ⟨(some 62), .build [.i .i64 0, .i .i64 0, .i .i64 0, .i .i64 0] [(0, 1, (.k (.i .i64 1))), (1, 1, (.k (.i .i64 0))), (2, 1, (.k (.i .i64 7)))], none, []⟩,
   ⟨(some 63), .iaddr 5 (.t 60) (.t 61), none, []⟩,
   ⟨(some 64), .faddr 0 (.t 63), none, []⟩,
   ⟨none, .store 4 (.t 64) (.t 62), none, []⟩] false [59, 60, 61, 62, 63, 64]) (
 .seq (
 .seq (
 .reg [
   ⟨(some 65), .faddr 0 (.t 2), none, []⟩,
   ⟨(some 66), .load false 1 (.t 65), none, []⟩,
   ⟨(some 67), .mv (.k (.i .i64 0)), none, []⟩] false [65]) (
 .block 2 (
  .loop 15 [2, 4, 8, 10, 66, 67] [4, 8, 10] (
   .seq (
   .reg [
     ⟨(some 68), .bin .lss (.t 67) (.t 66), none, []⟩] false []) (
   .seq (
   .cond (.t 68) (
    .skip) (
    .exit 2)) (
   .seq (
   .block 3 (
    .seq (
    .reg [
      ⟨(some 69), .mv (.t 67), none, []⟩,
      ⟨(some 11), .mv (.t 69), none, []⟩] false [69]) (
    .seq (
    .reg [
      ⟨(some 70), .load true 3 (.t 2), none, []⟩,
      ⟨(some 71), .mv (.t 11), none, []⟩,
      ⟨(some 72), .call 16 [(.t 70), (.t 71)], none, []⟩,
      ⟨(some 12), .mv (.t 72), none, []⟩] false [70, 71, 72]) (
    .seq (
    .reg [
      ⟨(some 74), .faddr 4 (.t 8), none, []⟩,
      ⟨(some 75), .load false 1 (.t 74), none, [5]⟩,
      ⟨(some 76), .mv (.t 11), none, []⟩,
      ⟨(some 77), .bin .add (.k (.i .i64 2)) (.t 76), none, []⟩,
      ⟨(some 78), .mv (.t 12), none, []⟩,
      ⟨(some 79), .call 43 [(.k (.i .i64 2)), (.k (.i .i64 3)), (.t 78)], none, [1]⟩,
      ⟨(some 73), .mv (.t 79), none, []⟩,
      ⟨(some 80), .ext (.t 73) 0, none, []⟩,
      ⟨(some 81), .ext (.t 73) 1, none, []⟩,
      ⟨(some 82), .iaddr 13 (.t 75) (.t 77), none, []⟩,
      ⟨none, .store 13 (.t 82) (.t 80), none, []⟩] true [11, 73, 74, 75, 76, 77, 78, 79, 80, 81, 82]) (
    .reg [
      ⟨(some 83), .faddr 3 (.t 8), none, []⟩,
      ⟨(some 84), .load false 1 (.t 83), none, []⟩,
      ⟨(some 85), .mv (.t 12), none, []⟩,
      ⟨(some 86), .bin .add (.t 85) (.k (.i .i64 1)), none, []⟩,
      ⟨(some 87), .build [.i .i64 0, .i .i64 0, .i .i64 0, .i .i64 0] [(0, 1, (.k (.i .i64 3))), (1, 1, (.k (.i .i64 1))), (2, 1, (.k (.i .i64 7)))], none, []⟩,
      ⟨(some 88), .mv (.t 10), none, []⟩,
      ⟨(some 89), .bin .add (.t 88) (.k (.i .i64 1)), none, []⟩,
      ⟨(some 90), .build [.i .i64 0, .i .i64 0, .i .i64 0, .i .i64 0, .i .i64 0] [(0, 4, (.t 87)), (4, 1, (.t 89))], none, []⟩,
      ⟨(some 91), .iaddr 5 (.t 84) (.t 86), none, []⟩,
      ⟨none, .store 5 (.t 91) (.t 90), none, []⟩] false [12, 83, 84, 85, 86, 87, 88, 89, 90, 91]))))) (
   .reg [
     ⟨(some 92), .bin .add (.t 67) (.k (.i .i64 1)), none, []⟩,
     ⟨(some 67), .mv (.t 92), none, []⟩] false [92]))))))) (
 .seq (
 .reg [
   ⟨(some 93), .faddr 3 (.t 8), none, []⟩,
   ⟨(some 94), .load false 1 (.t 93), none, []⟩,
   ⟨(some 95), .mv (.t 10), none, []⟩,
   ⟨(some 96), .bin .add (.t 95) (.k (.i .i64 1)), none, []⟩,
   ⟨(some 97), .iaddr 5 (.t 94) (.t 96), none, []⟩,
   ⟨(some 98), .faddr 4 (.t 97), none, []⟩,
   ⟨none, .store 1 (.t 98) (.k (.i .i64 (-1))), none, []⟩] false [10, 93, 94, 95, 96, 97, 98]) (
 .seq (
 .reg [
   ⟨(some 99), .load true 5 (.t 8), none, []⟩,
   ⟨none, .store 5 (.t 4) (.t 99), none, []⟩,
   ⟨(some 5), .mv (.k (.i .i64 0)), none, []⟩] false [8, 99]) (
 .ret)))))))))))))
 [.cell true 5 4, .tmp 5]

/-- reeve/thing.New -/
def m43 : MF := .code 3 (
 .seq (
 .reg [
   ⟨(some 6), .alloc [.i .i64 0, .i .i64 0, .i .i64 0, .i .i64 0, .i .i64 0, .i .i64 0, .i .i64 0, .b false, .i .u64 0, .i .u64 0, .i .u64 0, .i .u64 0, .i .u64 0], none, []⟩,
   ⟨(some 7), .mv (.k (.b false)), none, []⟩] false [7]) (
 .seq (
 .reg [
   ⟨(some 9), .mv (.t 0), none, []⟩,
   ⟨(some 10), .build [.i .i64 0, .i .i64 0, .i .i64 0, .i .i64 0, .i .i64 0, .i .i64 0, .i .i64 0, .b false, .i .u64 0, .i .u64 0, .i .u64 0, .i .u64 0, .i .u64 0] [(0, 1, (.t 9))], none, []⟩,
   ⟨(some 8), .alloc [.i .i64 0, .i .i64 0, .i .i64 0, .i .i64 0, .i .i64 0, .i .i64 0, .i .i64 0, .b false, .i .u64 0, .i .u64 0, .i .u64 0, .i .u64 0, .i .u64 0], none, []⟩,
   ⟨none, .store 13 (.t 8) (.t 10), none, []⟩] false [9, 10]) (
 .seq (
 .seq (
 .reg [
   ⟨(some 11), .mv (.t 0), none, []⟩] false [0]) (
 .block 0 (
  .seq (
  .reg [
    ⟨(some 14), .bin .eql (.t 11) (.k (.i .i64 1)), none, []⟩,
    ⟨(some 13), .mv (.t 14), none, []⟩] false [14]) (
  .cond (.t 13) (
   .reg [
     ⟨(some 15), .mv (.t 1), none, []⟩,
     ⟨(some 16), .faddr 3 (.t 8), none, []⟩,
     ⟨none, .store 1 (.t 16) (.t 15), none, []⟩] false [1, 15, 16]) (
   .seq (
   .reg [
     ⟨(some 18), .bin .eql (.t 11) (.k (.i .i64 2)), none, []⟩,
     ⟨(some 17), .mv (.t 18), none, []⟩] false [18]) (
   .cond (.t 17) (
    .reg [
      ⟨(some 19), .mv (.t 1), none, []⟩,
      ⟨(some 20), .mv (.t 2), none, []⟩,
      ⟨(some 21), .faddr 1 (.t 8), none, []⟩,
      ⟨none, .store 1 (.t 21) (.t 19), none, []⟩,
      ⟨(some 22), .faddr 2 (.t 8), none, []⟩,
      ⟨none, .store 1 (.t 22) (.t 20), none, []⟩] false [1, 2, 19, 20, 21, 22]) (
    .seq (
    .seq (
    .reg [
      ⟨(some 24), .bin .eql (.t 11) (.k (.i .i64 3)), none, []⟩,
      ⟨(some 23), .mv (.t 24), none, []⟩] false [24]) (
    .cond (.t 23) (
     .skip) (
     .seq (
     .reg [
       ⟨(some 25), .bin .eql (.t 11) (.k (.i .i64 4)), none, []⟩,
       ⟨(some 23), .mv (.t 25), none, []⟩] false [25]) (
     .cond (.t 23) (
      .skip) (
      .reg [
        ⟨(some 26), .bin .eql (.t 11) (.k (.i .i64 5)), none, []⟩,
        ⟨(some 23), .mv (.t 26), none, []⟩] false [11, 26]))))) (
    .cond (.t 23) (
     .skip) (
     .seq (
     .reg [
       ⟨(some 12), .build [.i .i64 0, .i .i64 0, .i .i64 0, .i .i64 0, .i .i64 0, .i .i64 0, .i .i64 0, .b false, .i .u64 0, .i .u64 0, .i .u64 0, .i .u64 0, .i .u64 0] [], none, []⟩,
       ⟨none, .store 13 (.t 6) (.t 12), none, []⟩,
       ⟨(some 7), .mv (.k (.b false)), none, []⟩] false [12]) (
     .ret)))))))))) (
 .seq (
 .seq (
 .reg [
   ⟨(some 27), .load true 13 (.t 8), none, []⟩,
   ⟨(some 28), .call 70 [(.t 27)], none, []⟩,
   ⟨(some 29), .un .not (.t 28), none, []⟩] false [27, 28]) (
 .cond (.t 29) (
  .seq (
  .reg [
    ⟨(some 30), .build [.i .i64 0, .i .i64 0, .i .i64 0, .i .i64 0, .i .i64 0, .i .i64 0, .i .i64 0, .b false, .i .u64 0, .i .u64 0, .i .u64 0, .i .u64 0, .i .u64 0] [], none, []⟩,
    ⟨none, .store 13 (.t 6) (.t 30), none, []⟩,
    ⟨(some 7), .mv (.k (.b false)), none, []⟩] false [30]) (
  .ret)) (
  .skip))) (
 .seq (
 .reg [
   ⟨(some 31), .load true 13 (.t 8), none, []⟩,
   ⟨none, .store 13 (.t 6) (.t 31), none, []⟩,
   ⟨(some 7), .mv (.k (.b true)), none, []⟩] false [8, 31]) (
 .ret))))))
 [.cell true 13 6, .tmp 7]

/-- reeve/thing.Good -/
def m70 : MF := .code 1 (
 .seq (
 .reg [
   ⟨(some 1), .box (.t 0), none, []⟩,
   ⟨(some 2), .mv (.k (.b false)), none, []⟩] false [0, 2]) (
 .seq (
 .seq (
 .reg [
   ⟨(some 3), .load true 13 (.t 1), none, [2]⟩,
   ⟨(some 4), .call 82 [(.t 3)], none, [2]⟩,
   ⟨(some 5), .load true 13 (.t 1), none, [0, 1]⟩,
   ⟨(some 6), .eq true true [.i, .i, .i, .i, .i, .i, .i, .b, .i, .i, .i, .i, .i] (.t 4) (.t 5), none, []⟩] true [3, 4, 5]) (
 .cond (.t 6) (
  .seq (
  .reg [
    ⟨(some 2), .mv (.k (.b false)), none, []⟩] false []) (
  .ret)) (
  .skip))) (
 .seq (
 .seq (
 .reg [
   ⟨(some 7), .faddr 0 (.t 1), none, []⟩,
   ⟨(some 8), .load false 1 (.t 7), none, []⟩] false [7]) (
 .block 0 (
  .seq (
  .reg [
    ⟨(some 10), .bin .eql (.t 8) (.k (.i .i64 1)), none, []⟩,
    ⟨(some 9), .mv (.t 10), none, []⟩] false [10]) (
  .cond (.t 9) (
   .seq (
   .reg [
     ⟨(some 11), .faddr 3 (.t 1), none, []⟩,
     ⟨(some 12), .load false 1 (.t 11), none, []⟩,
     ⟨(some 13), .call 83 [(.t 12), (.k (.i .i64 1)), (.k (.i .i64 4096))], none, []⟩,
     ⟨(some 14), .mv (.t 13), none, []⟩,
     ⟨(some 15), .faddr 4 (.t 1), (some (14, true)), []⟩,
     ⟨(some 16), .load false 1 (.t 15), (some (14, true)), []⟩,
     ⟨(some 17), .faddr 3 (.t 1), (some (14, true)), []⟩,
     ⟨(some 18), .load false 1 (.t 17), (some (14, true)), []⟩,
     ⟨(some 19), .call 83 [(.t 16), (.k (.i .i64 0)), (.t 18)], (some (14, true)), []⟩,
     ⟨(some 20), .pick (.t 14) (.t 19) (.k (.b false)), none, []⟩,
     ⟨(some 2), .mv (.t 20), none, []⟩] false [1, 11, 12, 13, 14, 15, 16, 17, 18, 19, 20]) (
   .ret)) (
   .seq (
   .reg [
     ⟨(some 22), .bin .eql (.t 8) (.k (.i .i64 2)), none, []⟩,
     ⟨(some 21), .mv (.t 22), none, []⟩] false [22]) (
   .cond (.t 21) (
    .seq (
    .reg [
      ⟨(some 23), .faddr 1 (.t 1), none, []⟩,
      ⟨(some 24), .load false 1 (.t 23), none, []⟩,
      ⟨(some 25), .call 83 [(.t 24), (.k (.i .i64 1)), (.k (.i .i64 4))], none, []⟩,
      ⟨(some 26), .mv (.t 25), none, []⟩,
      ⟨(some 27), .faddr 2 (.t 1), (some (26, true)), []⟩,
      ⟨(some 28), .load false 1 (.t 27), (some (26, true)), [7]⟩,
      ⟨(some 29), .faddr 1 (.t 1), (some (26, true)), []⟩,
      ⟨(some 30), .load false 1 (.t 29), (some (26, true)), [5]⟩,
      ⟨(some 31), .bin .shl (.k (.i .i64 1)) (.t 30), (some (26, true)), []⟩,
      ⟨(some 32), .bin .sub (.k (.i .i64 96)) (.t 31), (some (26, true)), []⟩,
      ⟨(some 33), .call 83 [(.t 28), (.k (.i .i64 0)), (.t 32)], (some (26, true)), []⟩,
      ⟨(some 34), .pick (.t 26) (.t 33) (.k (.b false)), none, []⟩,
      ⟨(some 2), .mv (.t 34), none, []⟩] true [1, 23, 24, 25, 26, 27, 28, 29, 30, 31, 32, 33, 34]) (
    .ret)) (
    .seq (
    .reg [
      ⟨(some 36), .bin .eql (.t 8) (.k (.i .i64 3)), none, []⟩,
      ⟨(some 35), .mv (.t 36), none, []⟩] false [8, 36]) (
    .cond (.t 35) (
     .seq (
     .reg [
       ⟨(some 37), .faddr 6 (.t 1), none, []⟩,
       ⟨(some 38), .load false 1 (.t 37), none, []⟩,
       ⟨(some 39), .call 83 [(.t 38), (.k (.i .i64 0)), (.k (.i .i64 65535))], none, []⟩,
       ⟨(some 40), .mv (.t 39), none, []⟩,
       ⟨(some 41), .faddr 5 (.t 1), (some (40, true)), []⟩,
       ⟨(some 42), .load false 1 (.t 41), (some (40, true)), []⟩,
       ⟨(some 43), .call 83 [(.t 42), (.k (.i .i64 0)), (.k (.i .i64 96))], (some (40, true)), []⟩,
       ⟨(some 44), .pick (.t 40) (.t 43) (.k (.b false)), none, []⟩,
       ⟨(some 2), .mv (.t 44), none, []⟩] false [1, 37, 38, 39, 40, 41, 42, 43, 44]) (
     .ret)) (
     .skip))))))))) (
 .seq (
 .reg [
   ⟨(some 2), .mv (.k (.b true)), none, []⟩] false []) (
 .ret)))))
 [.tmp 2]

/-- reeve/thing.own -/
def m82 : MF := .code 1 (
 .seq (
 .reg [
   ⟨(some 1), .box (.t 0), none, []⟩,
   ⟨(some 2), .alloc [.i .i64 0, .i .i64 0, .i .i64 0, .i .i64 0, .i .i64 0, .i .i64 0, .i .i64 0, .b false, .i .u64 0, .i .u64 0, .i .u64 0, .i .u64 0, .i .u64 0], none, []⟩] false [0]) (
 .seq (
 .seq (
 .reg [
   ⟨(some 3), .faddr 0 (.t 1), none, []⟩,
   ⟨(some 4), .load false 1 (.t 3), none, []⟩] false [3]) (
 .block 0 (
  .seq (
  .reg [
    ⟨(some 6), .bin .eql (.t 4) (.k (.i .i64 1)), none, []⟩,
    ⟨(some 5), .mv (.t 6), none, []⟩] false [6]) (
  .cond (.t 5) (
   .seq (
   .reg [
     ⟨(some 7), .faddr 0 (.t 1), none, []⟩,
     ⟨(some 8), .load false 1 (.t 7), none, []⟩,
     ⟨(some 9), .faddr 3 (.t 1), none, []⟩,
     ⟨(some 10), .load false 1 (.t 9), none, []⟩,
     ⟨(some 11), .faddr 4 (.t 1), none, []⟩,
     ⟨(some 12), .load false 1 (.t 11), none, []⟩,
     ⟨(some 13), .build [.i .i64 0, .i .i64 0, .i .i64 0, .i .i64 0, .i .i64 0, .i .i64 0, .i .i64 0, .b false, .i .u64 0, .i .u64 0, .i .u64 0, .i .u64 0, .i .u64 0] [(0, 1, (.t 8)), (3, 1, (.t 10)), (4, 1, (.t 12))], none, []⟩,
     ⟨none, .store 13 (.t 2) (.t 13), none, []⟩] false [1, 7, 8, 9, 10, 11, 12, 13]) (
   .ret)) (
   .seq (
   .reg [
     ⟨(some 15), .bin .eql (.t 4) (.k (.i .i64 2)), none, []⟩,
     ⟨(some 14), .mv (.t 15), none, []⟩] false [15]) (
   .cond (.t 14) (
    .seq (
    .reg [
      ⟨(some 16), .faddr 0 (.t 1), none, []⟩,
      ⟨(some 17), .load false 1 (.t 16), none, []⟩,
      ⟨(some 18), .faddr 1 (.t 1), none, []⟩,
      ⟨(some 19), .load false 1 (.t 18), none, []⟩,
      ⟨(some 20), .faddr 2 (.t 1), none, []⟩,
      ⟨(some 21), .load false 1 (.t 20), none, []⟩,
      ⟨(some 22), .build [.i .i64 0, .i .i64 0, .i .i64 0, .i .i64 0, .i .i64 0, .i .i64 0, .i .i64 0, .b false, .i .u64 0, .i .u64 0, .i .u64 0, .i .u64 0, .i .u64 0] [(0, 1, (.t 17)), (1, 1, (.t 19)), (2, 1, (.t 21))], none, []⟩,
      ⟨none, .store 13 (.t 2) (.t 22), none, []⟩] false [1, 16, 17, 18, 19, 20, 21, 22]) (
    .ret)) (
    .seq (
    .reg [
      ⟨(some 24), .bin .eql (.t 4) (.k (.i .i64 3)), none, []⟩,
      ⟨(some 23), .mv (.t 24), none, []⟩] false [24]) (
    .cond (.t 23) (
     .seq (
     .seq (
     .reg [
       ⟨(some 25), .faddr 7 (.t 1), none, []⟩,
       ⟨(some 26), .load false 1 (.t 25), none, []⟩,
       ⟨(some 27), .un .not (.t 26), none, []⟩] false [25, 26]) (
     .cond (.t 27) (
      .seq (
      .reg [
        ⟨(some 28), .faddr 0 (.t 1), none, []⟩,
        ⟨(some 29), .load false 1 (.t 28), none, []⟩,
        ⟨(some 30), .build [.i .i64 0, .i .i64 0, .i .i64 0, .i .i64 0, .i .i64 0, .i .i64 0, .i .i64 0, .b false, .i .u64 0, .i .u64 0, .i .u64 0, .i .u64 0, .i .u64 0] [(0, 1, (.t 29))], none, []⟩,
        ⟨none, .store 13 (.t 2) (.t 30), none, []⟩] false [1, 28, 29, 30]) (
      .ret)) (
      .skip))) (
     .seq (
     .reg [
       ⟨(some 31), .faddr 0 (.t 1), none, []⟩,
       ⟨(some 32), .load false 1 (.t 31), none, []⟩,
       ⟨(some 33), .faddr 8 (.t 1), none, []⟩,
       ⟨(some 34), .load false 1 (.t 33), none, []⟩,
       ⟨(some 35), .faddr 6 (.t 1), none, []⟩,
       ⟨(some 36), .load false 1 (.t 35), none, []⟩,
       ⟨(some 37), .faddr 5 (.t 1), none, []⟩,
       ⟨(some 38), .load false 1 (.t 37), none, []⟩,
       ⟨(some 39), .build [.i .i64 0, .i .i64 0, .i .i64 0, .i .i64 0, .i .i64 0, .i .i64 0, .i .i64 0, .b false, .i .u64 0, .i .u64 0, .i .u64 0, .i .u64 0, .i .u64 0] [(0, 1, (.t 32)), (7, 1, (.k (.b true))), (8, 1, (.t 34)), (6, 1, (.t 36)), (5, 1, (.t 38))], none, []⟩,
       ⟨none, .store 13 (.t 2) (.t 39), none, []⟩] false [1, 31, 32, 33, 34, 35, 36, 37, 38, 39]) (
     .ret))) (
     .seq (
     .reg [
       ⟨(some 41), .bin .eql (.t 4) (.k (.i .i64 4)), none, []⟩,
       ⟨(some 40), .mv (.t 41), none, []⟩] false [41]) (
     .cond (.t 40) (
      .seq (
      .reg [
        ⟨(some 42), .faddr 0 (.t 1), none, []⟩,
        ⟨(some 43), .load false 1 (.t 42), none, []⟩,
        ⟨(some 44), .faddr 8 (.t 1), none, []⟩,
        ⟨(some 45), .load false 1 (.t 44), none, []⟩,
        ⟨(some 46), .build [.i .i64 0, .i .i64 0, .i .i64 0, .i .i64 0, .i .i64 0, .i .i64 0, .i .i64 0, .b false, .i .u64 0, .i .u64 0, .i .u64 0, .i .u64 0, .i .u64 0] [(0, 1, (.t 43)), (8, 1, (.t 45))], none, []⟩,
        ⟨none, .store 13 (.t 2) (.t 46), none, []⟩] false [1, 42, 43, 44, 45, 46]) (
      .ret)) (
      .seq (
      .reg [
        ⟨(some 48), .bin .eql (.t 4) (.k (.i .i64 5)), none, []⟩,
        ⟨(some 47), .mv (.t 48), none, []⟩] false [4, 48]) (
      .cond (.t 47) (
       .seq (
       .reg [
         ⟨(some 49), .faddr 0 (.t 1), none, []⟩,
         ⟨(some 50), .load false 1 (.t 49), none, []⟩,
         ⟨(some 51), .faddr 9 (.t 1), none, []⟩,
         ⟨(some 52), .load true 4 (.t 51), none, []⟩,
         ⟨(some 53), .build [.i .i64 0, .i .i64 0, .i .i64 0, .i .i64 0, .i .i64 0, .i .i64 0, .i .i64 0, .b false, .i .u64 0, .i .u64 0, .i .u64 0, .i .u64 0, .i .u64 0] [(0, 1, (.t 50)), (9, 4, (.t 52))], none, []⟩,
         ⟨none, .store 13 (.t 2) (.t 53), none, []⟩] false [1, 49, 50, 51, 52, 53]) (
       .ret)) (
       .skip))))))))))))) (
 .seq (
 .reg [
   ⟨(some 54), .build [.i .i64 0, .i .i64 0, .i .i64 0, .i .i64 0, .i .i64 0, .i .i64 0, .i .i64 0, .b false, .i .u64 0, .i .u64 0, .i .u64 0, .i .u64 0, .i .u64 0] [], none, []⟩,
   ⟨none, .store 13 (.t 2) (.t 54), none, []⟩] false [54]) (
 .ret))))
 [.cell true 13 2]

/-- reeve/thing.in -/
def m83 : MF := .code 3 (
 .seq (
 .reg [
   ⟨(some 6), .mv (.k (.b false)), none, []⟩] false [6]) (
 .seq (
 .reg [
   ⟨(some 7), .mv (.t 0), none, []⟩,
   ⟨(some 8), .mv (.t 1), none, []⟩,
   ⟨(some 9), .bin .geq (.t 7) (.t 8), none, []⟩,
   ⟨(some 10), .mv (.t 9), none, []⟩,
   ⟨(some 11), .mv (.t 0), (some (10, true)), []⟩,
   ⟨(some 12), .mv (.t 2), (some (10, true)), []⟩,
   ⟨(some 13), .bin .leq (.t 11) (.t 12), (some (10, true)), []⟩,
   ⟨(some 14), .pick (.t 10) (.t 13) (.k (.b false)), none, []⟩,
   ⟨(some 6), .mv (.t 14), none, []⟩] false [0, 1, 2, 7, 8, 9, 10, 11, 12, 13, 14]) (
 .ret)))
 [.tmp 6]

/-- reeve/geo.Good -/
def m15 : MF := .code 1 (
 .seq (
 .reg [
   ⟨(some 1), .box (.t 0), none, []⟩,
   ⟨(some 2), .mv (.k (.b false)), none, []⟩] false [0, 2]) (
 .seq (
 .reg [
   ⟨(some 3), .faddr 0 (.t 1), none, []⟩,
   ⟨(some 4), .load false 1 (.t 3), none, []⟩,
   ⟨(some 5), .call 44 [(.t 4), (.k (.i .i64 1)), (.k (.i .i64 4))], none, []⟩,
   ⟨(some 6), .mv (.t 5), none, []⟩,
   ⟨(some 7), .faddr 1 (.t 1), (some (6, true)), []⟩,
   ⟨(some 8), .load false 1 (.t 7), (some (6, true)), []⟩,
   ⟨(some 9), .faddr 0 (.t 1), (some (6, true)), []⟩,
   ⟨(some 10), .load false 1 (.t 9), (some (6, true)), []⟩,
   ⟨(some 11), .bin .mul (.k (.i .i64 8)) (.t 10), (some (6, true)), []⟩,
   ⟨(some 12), .call 44 [(.t 8), (.t 11), (.k (.i .i64 96))], (some (6, true)), []⟩,
   ⟨(some 13), .pick (.t 6) (.t 12) (.k (.b false)), none, []⟩,
   ⟨(some 14), .mv (.t 13), none, []⟩,
   ⟨(some 15), .faddr 1 (.t 1), (some (14, true)), []⟩,
   ⟨(some 16), .load false 1 (.t 15), (some (14, true)), []⟩,
   ⟨(some 17), .bin .rem (.t 16) (.k (.i .i64 8)), (some (14, true)), []⟩,
   ⟨(some 18), .bin .eql (.t 17) (.k (.i .i64 0)), (some (14, true)), []⟩,
   ⟨(some 19), .pick (.t 14) (.t 18) (.k (.b false)), none, []⟩,
   ⟨(some 20), .mv (.t 19), none, []⟩,
   ⟨(some 21), .faddr 2 (.t 1), (some (20, true)), []⟩,
   ⟨(some 22), .load false 1 (.t 21), (some (20, true)), []⟩,
   ⟨(some 23), .faddr 0 (.t 1), (some (20, true)), []⟩,
   ⟨(some 24), .load false 1 (.t 23), (some (20, true)), []⟩,
   ⟨(some 25), .bin .add (.t 24) (.k (.i .i64 2)), (some (20, true)), []⟩,
   ⟨(some 26), .call 44 [(.t 22), (.t 25), (.k (.i .i64 48))], (some (20, true)), []⟩,
   ⟨(some 27), .pick (.t 20) (.t 26) (.k (.b false)), none, []⟩,
   ⟨(some 2), .mv (.t 27), none, []⟩] false [1, 3, 4, 5, 6, 7, 8, 9, 10, 11, 12, 13, 14, 15, 16, 17, 18, 19, 20, 21, 22, 23, 24, 25, 26, 27]) (
 .ret)))
 [.tmp 2]

/-- reeve/geo.in -/
def m44 : MF := .code 3 (
 .seq (
 .reg [
   ⟨(some 6), .mv (.k (.b false)), none, []⟩] false [6]) (
 .seq (
 .reg [
   ⟨(some 7), .mv (.t 0), none, []⟩,
   ⟨(some 8), .mv (.t 1), none, []⟩,
   ⟨(some 9), .bin .geq (.t 7) (.t 8), none, []⟩,
   ⟨(some 10), .mv (.t 9), none, []⟩,
   ⟨(some 11), .mv (.t 0), (some (10, true)), []⟩,
   ⟨(some 12), .mv (.t 2), (some (10, true)), []⟩,
   ⟨(some 13), .bin .leq (.t 11) (.t 12), (some (10, true)), []⟩,
   ⟨(some 14), .pick (.t 10) (.t 13) (.k (.b false)), none, []⟩,
   ⟨(some 6), .mv (.t 14), none, []⟩] false [0, 1, 2, 7, 8, 9, 10, 11, 12, 13, 14]) (
 .ret)))
 [.tmp 6]

/-- reeve/geo.Root -/
def m16 : MF := .code 2 (
 .seq (
 .reg [
   ⟨(some 2), .box (.t 0), none, []⟩,
   ⟨(some 4), .mv (.k (.i .i64 0)), none, []⟩] false [0, 4]) (
 .seq (
 .seq (
 .reg [
   ⟨(some 5), .load true 3 (.t 2), none, []⟩,
   ⟨(some 6), .call 15 [(.t 5)], none, []⟩,
   ⟨(some 7), .un .not (.t 6), none, []⟩,
   ⟨(some 8), .mv (.t 7), none, []⟩,
   ⟨(some 9), .mv (.t 1), (some (8, false)), []⟩,
   ⟨(some 10), .faddr 0 (.t 2), (some (8, false)), []⟩,
   ⟨(some 11), .load false 1 (.t 10), (some (8, false)), []⟩,
   ⟨(some 12), .bin .sub (.t 11) (.k (.i .i64 1)), (some (8, false)), []⟩,
   ⟨(some 13), .call 44 [(.t 9), (.k (.i .i64 0)), (.t 12)], (some (8, false)), []⟩,
   ⟨(some 14), .un .not (.t 13), (some (8, false)), []⟩,
   ⟨(some 15), .pick (.t 8) (.k (.b true)) (.t 14), none, []⟩] false [2, 5, 6, 7, 8, 9, 10, 11, 12, 13, 14]) (
 .cond (.t 15) (
  .seq (
  .reg [
    ⟨(some 4), .mv (.k (.i .i64 0)), none, []⟩] false []) (
  .ret)) (
  .skip))) (
 .seq (
 .reg [
   ⟨(some 16), .mv (.t 1), none, []⟩,
   ⟨(some 17), .bin .mul (.k (.i .i64 8)) (.t 16), none, []⟩,
   ⟨(some 4), .mv (.t 17), none, []⟩] false [1, 16, 17]) (
 .ret))))
 [.tmp 4]

/-- reeve/cap.None -/
def m12 : MF := .code 1 (
 .seq (
 .reg [
   ⟨(some 1), .box (.t 0), none, []⟩,
   ⟨(some 2), .mv (.k (.b false)), none, []⟩] false [0, 2]) (
 .seq (
 .reg [
   ⟨(some 3), .load true 4 (.t 1), none, []⟩,
   ⟨(some 4), .build [.i .i64 0, .i .i64 0, .i .i64 0, .i .i64 0] [], none, []⟩,
   ⟨(some 5), .eq false true [.i, .i, .i, .i] (.t 3) (.t 4), none, []⟩,
   ⟨(some 2), .mv (.t 5), none, []⟩] false [1, 3, 4, 5]) (
 .ret)))
 [.tmp 2]

/-- reeve/state.Good -/
def m11 : MF := .code 1 (
 .seq (
 .reg [
   ⟨(some 1), .box (.t 0), none, []⟩,
   ⟨(some 2), .mv (.k (.b false)), none, []⟩] false [0, 2]) (
 .seq (
 .seq (
 .reg [
   ⟨(some 3), .faddr 0 (.t 1), none, []⟩,
   ⟨(some 4), .load true 3 (.t 3), none, []⟩,
   ⟨(some 5), .call 15 [(.t 4)], none, []⟩,
   ⟨(some 6), .un .not (.t 5), none, []⟩,
   ⟨(some 7), .mv (.t 6), none, []⟩,
   ⟨(some 8), .faddr 3 (.t 1), (some (7, false)), []⟩,
   ⟨(some 9), .load false 1 (.t 8), (some (7, false)), []⟩,
   ⟨(some 10), .len false (.t 9), (some (7, false)), []⟩,
   ⟨(some 11), .faddr 0 (.t 1), (some (7, false)), []⟩,
   ⟨(some 12), .faddr 1 (.t 11), (some (7, false)), []⟩,
   ⟨(some 13), .load false 1 (.t 12), (some (7, false)), []⟩,
   ⟨(some 14), .bin .neq (.t 10) (.t 13), (some (7, false)), []⟩,
   ⟨(some 15), .pick (.t 7) (.k (.b true)) (.t 14), none, []⟩,
   ⟨(some 16), .mv (.t 15), none, []⟩,
   ⟨(some 17), .faddr 4 (.t 1), (some (16, false)), []⟩,
   ⟨(some 18), .load false 1 (.t 17), (some (16, false)), []⟩,
   ⟨(some 19), .len false (.t 18), (some (16, false)), []⟩,
   ⟨(some 20), .faddr 0 (.t 1), (some (16, false)), []⟩,
   ⟨(some 21), .faddr 2 (.t 20), (some (16, false)), []⟩,
   ⟨(some 22), .load false 1 (.t 21), (some (16, false)), []⟩,
   ⟨(some 23), .bin .neq (.t 19) (.t 22), (some (16, false)), []⟩,
   ⟨(some 24), .pick (.t 16) (.k (.b true)) (.t 23), none, []⟩] false [3, 4, 5, 6, 7, 8, 9, 10, 11, 12, 13, 14, 15, 16, 17, 18, 19, 20, 21, 22, 23]) (
 .cond (.t 24) (
  .seq (
  .reg [
    ⟨(some 2), .mv (.k (.b false)), none, []⟩] false []) (
  .ret)) (
  .skip))) (
 .seq (
 .reg [
   ⟨(some 25), .load true 5 (.t 1), none, []⟩,
   ⟨(some 26), .call 37 [(.t 25)], none, []⟩,
   ⟨(some 27), .mv (.t 26), none, []⟩,
   ⟨(some 28), .load true 5 (.t 1), (some (27, true)), []⟩,
   ⟨(some 29), .call 38 [(.t 28)], (some (27, true)), []⟩,
   ⟨(some 30), .pick (.t 27) (.t 29) (.k (.b false)), none, []⟩,
   ⟨(some 31), .mv (.t 30), none, []⟩,
   ⟨(some 32), .load true 5 (.t 1), (some (31, true)), []⟩,
   ⟨(some 33), .call 39 [(.t 32)], (some (31, true)), []⟩,
   ⟨(some 34), .pick (.t 31) (.t 33) (.k (.b false)), none, []⟩,
   ⟨(some 35), .mv (.t 34), none, []⟩,
   ⟨(some 36), .load true 5 (.t 1), (some (35, true)), []⟩,
   ⟨(some 37), .call 40 [(.t 36)], (some (35, true)), []⟩,
   ⟨(some 38), .un .not (.t 37), (some (35, true)), []⟩,
   ⟨(some 39), .pick (.t 35) (.t 38) (.k (.b false)), none, []⟩,
   ⟨(some 40), .mv (.t 39), none, []⟩,
   ⟨(some 41), .load true 5 (.t 1), (some (40, true)), []⟩,
   ⟨(some 42), .call 25 [(.t 41)], (some (40, true)), []⟩,
   ⟨(some 43), .call 27 [(.t 42)], (some (40, true)), []⟩,
   ⟨(some 44), .pick (.t 40) (.t 43) (.k (.b false)), none, []⟩,
   ⟨(some 45), .mv (.t 44), none, []⟩,
   ⟨(some 46), .load true 5 (.t 1), (some (45, true)), []⟩,
   ⟨(some 47), .call 41 [(.t 46)], (some (45, true)), []⟩,
   ⟨(some 48), .pick (.t 45) (.t 47) (.k (.b false)), none, []⟩,
   ⟨(some 2), .mv (.t 48), none, []⟩] false [1, 25, 26, 27, 28, 29, 30, 31, 32, 33, 34, 35, 36, 37, 38, 39, 40, 41, 42, 43, 44, 45, 46, 47, 48]) (
 .ret))))
 [.tmp 2]

/-- (reeve/state.State).caps -/
def m37 : MF := .code 1 (
 .seq (
 .reg [
   ⟨(some 1), .box (.t 0), none, []⟩,
   ⟨(some 2), .mv (.k (.b false)), none, []⟩] false [0, 2]) (
 .seq (
 .seq (
 .reg [
   ⟨(some 6), .faddr 3 (.t 1), none, []⟩,
   ⟨(some 7), .load false 1 (.t 6), none, []⟩,
   ⟨(some 8), .len false (.t 7), none, []⟩,
   ⟨(some 9), .mv (.k (.i .i64 0)), none, []⟩] false [6]) (
 .block 0 (
  .loop 2 [1, 7, 8, 9] [2] (
   .seq (
   .reg [
     ⟨(some 10), .bin .lss (.t 9) (.t 8), none, []⟩] false []) (
   .seq (
   .cond (.t 10) (
    .skip) (
    .exit 0)) (
   .seq (
   .block 1 (
    .seq (
    .reg [
      ⟨(some 11), .iaddr 5 (.t 7) (.t 9), none, []⟩,
      ⟨(some 12), .load true 5 (.t 11), none, []⟩,
      ⟨(some 4), .alloc [.i .i64 0, .i .i64 0, .i .i64 0, .i .i64 0, .i .i64 0], none, []⟩,
      ⟨none, .store 5 (.t 4) (.t 12), none, []⟩] false [11, 12]) (
    .seq (
    .reg [
      ⟨(some 13), .faddr 0 (.t 4), none, []⟩,
      ⟨(some 14), .load true 4 (.t 13), none, []⟩,
      ⟨(some 5), .alloc [.i .i64 0, .i .i64 0, .i .i64 0, .i .i64 0], none, []⟩,
      ⟨none, .store 4 (.t 5) (.t 14), none, []⟩] false [13, 14]) (
    .block 2 (
     .seq (
     .reg [
       ⟨(some 16), .load true 4 (.t 5), none, []⟩,
       ⟨(some 17), .call 68 [(.t 16)], none, []⟩,
       ⟨(some 18), .un .not (.t 17), none, []⟩,
       ⟨(some 15), .mv (.t 18), none, []⟩] false [16, 17, 18]) (
     .cond (.t 15) (
      .seq (
      .reg [
        ⟨(some 2), .mv (.k (.b false)), none, []⟩] false []) (
      .ret)) (
      .seq (
      .seq (
      .reg [
        ⟨(some 20), .load true 4 (.t 5), none, []⟩,
        ⟨(some 21), .call 12 [(.t 20)], none, []⟩,
        ⟨(some 22), .mv (.t 21), none, []⟩,
        ⟨(some 23), .faddr 4 (.t 4), (some (22, true)), []⟩,
        ⟨(some 24), .load false 1 (.t 23), (some (22, true)), []⟩,
        ⟨(some 25), .bin .neq (.t 24) (.k (.i .i64 (-1))), (some (22, true)), []⟩,
        ⟨(some 26), .pick (.t 22) (.t 25) (.k (.b false)), none, []⟩,
        ⟨(some 19), .mv (.t 26), none, []⟩] false [20, 21, 22, 23, 24, 25, 26]) (
      .cond (.t 19) (
       .skip) (
       .reg [
         ⟨(some 27), .load true 4 (.t 5), none, []⟩,
         ⟨(some 28), .call 12 [(.t 27)], none, []⟩,
         ⟨(some 29), .un .not (.t 28), none, []⟩,
         ⟨(some 30), .mv (.t 29), none, []⟩,
         ⟨(some 31), .faddr 4 (.t 4), (some (30, true)), []⟩,
         ⟨(some 32), .load false 1 (.t 31), (some (30, true)), []⟩,
         ⟨(some 33), .bin .lss (.t 32) (.k (.i .i64 (-1))), (some (30, true)), []⟩,
         ⟨(some 34), .pick (.t 30) (.t 33) (.k (.b false)), none, []⟩,
         ⟨(some 19), .mv (.t 34), none, []⟩] false [4, 27, 28, 29, 30, 31, 32, 33, 34]))) (
      .cond (.t 19) (
       .seq (
       .reg [
         ⟨(some 2), .mv (.k (.b false)), none, []⟩] false []) (
       .ret)) (
       .seq (
       .reg [
         ⟨(some 36), .load true 4 (.t 5), none, []⟩,
         ⟨(some 37), .call 12 [(.t 36)], none, []⟩,
         ⟨(some 38), .un .not (.t 37), none, []⟩,
         ⟨(some 39), .mv (.t 38), none, []⟩,
         ⟨(some 40), .load true 5 (.t 1), (some (39, true)), [6]⟩,
         ⟨(some 41), .faddr 1 (.t 5), (some (39, true)), []⟩,
         ⟨(some 42), .load false 1 (.t 41), (some (39, true)), [4]⟩,
         ⟨(some 43), .call 69 [(.t 40), (.t 42)], (some (39, true)), []⟩,
         ⟨(some 44), .un .not (.t 43), (some (39, true)), []⟩,
         ⟨(some 45), .mv (.t 44), (some (39, true)), []⟩,
         ⟨(some 46), .faddr 4 (.t 1), (some (45, false)), []⟩,
         ⟨(some 47), .load false 1 (.t 46), (some (45, false)), [13, 18]⟩,
         ⟨(some 48), .faddr 1 (.t 5), (some (45, false)), []⟩,
         ⟨(some 49), .load false 1 (.t 48), (some (45, false)), [11, 18]⟩,
         ⟨(some 50), .iaddr 13 (.t 47) (.t 49), (some (45, false)), []⟩,
         ⟨(some 51), .faddr 0 (.t 50), (some (45, false)), []⟩,
         ⟨(some 52), .load false 1 (.t 51), (some (45, false)), [18]⟩,
         ⟨(some 53), .faddr 0 (.t 5), (some (45, false)), []⟩,
         ⟨(some 54), .load false 1 (.t 53), (some (45, false)), [11, 13, 16]⟩,
         ⟨(some 55), .bin .neq (.t 52) (.t 54), (some (45, false)), []⟩,
         ⟨(some 56), .pick (.t 45) (.k (.b true)) (.t 55), (some (39, true)), []⟩,
         ⟨(some 57), .pick (.t 39) (.t 56) (.k (.b false)), none, []⟩,
         ⟨(some 35), .mv (.t 57), none, []⟩] true [5, 36, 37, 38, 39, 40, 41, 42, 43, 44, 45, 46, 47, 48, 49, 50, 51, 52, 53, 54, 55, 56, 57]) (
       .cond (.t 35) (
        .seq (
        .reg [
          ⟨(some 2), .mv (.k (.b false)), none, []⟩] false []) (
        .ret)) (
        .skip))))))))))) (
   .reg [
     ⟨(some 58), .bin .add (.t 9) (.k (.i .i64 1)), none, []⟩,
     ⟨(some 9), .mv (.t 58), none, []⟩] false [58]))))))) (
 .seq (
 .reg [
   ⟨(some 2), .mv (.k (.b true)), none, []⟩] false []) (
 .ret))))
 [.tmp 2]

/-- reeve/cap.Good -/
def m68 : MF := .code 1 (
 .seq (
 .reg [
   ⟨(some 1), .box (.t 0), none, []⟩,
   ⟨(some 2), .mv (.k (.b false)), none, []⟩] false [0, 2]) (
 .seq (
 .seq (
 .reg [
   ⟨(some 3), .load true 4 (.t 1), none, []⟩,
   ⟨(some 4), .call 12 [(.t 3)], none, []⟩] false [3]) (
 .cond (.t 4) (
  .seq (
  .reg [
    ⟨(some 2), .mv (.k (.b true)), none, []⟩] false []) (
  .ret)) (
  .skip))) (
 .seq (
 .reg [
   ⟨(some 5), .faddr 0 (.t 1), none, []⟩,
   ⟨(some 6), .load false 1 (.t 5), none, []⟩,
   ⟨(some 7), .call 78 [(.t 6), (.k (.i .i64 1)), (.k (.i .i64 5))], none, []⟩,
   ⟨(some 8), .mv (.t 7), none, []⟩,
   ⟨(some 9), .faddr 1 (.t 1), (some (8, true)), []⟩,
   ⟨(some 10), .load false 1 (.t 9), (some (8, true)), []⟩,
   ⟨(some 11), .call 78 [(.t 10), (.k (.i .i64 0)), (.k (.i .i64 47))], (some (8, true)), []⟩,
   ⟨(some 12), .pick (.t 8) (.t 11) (.k (.b false)), none, []⟩,
   ⟨(some 13), .mv (.t 12), none, []⟩,
   ⟨(some 14), .faddr 2 (.t 1), (some (13, true)), []⟩,
   ⟨(some 15), .load false 1 (.t 14), (some (13, true)), []⟩,
   ⟨(some 16), .call 79 [(.t 15)], (some (13, true)), []⟩,
   ⟨(some 17), .pick (.t 13) (.t 16) (.k (.b false)), none, []⟩,
   ⟨(some 18), .mv (.t 17), none, []⟩,
   ⟨(some 19), .faddr 3 (.t 1), (some (18, true)), []⟩,
   ⟨(some 20), .load false 1 (.t 19), (some (18, true)), []⟩,
   ⟨(some 21), .call 80 [(.t 20)], (some (18, true)), []⟩,
   ⟨(some 22), .pick (.t 18) (.t 21) (.k (.b false)), none, []⟩,
   ⟨(some 23), .mv (.t 22), none, []⟩,
   ⟨(some 24), .faddr 3 (.t 1), (some (23, true)), []⟩,
   ⟨(some 25), .load false 1 (.t 24), (some (23, true)), []⟩,
   ⟨(some 26), .bin .eql (.t 25) (.k (.i .i64 0)), (some (23, true)), []⟩,
   ⟨(some 27), .mv (.t 26), (some (23, true)), []⟩,
   ⟨(some 28), .faddr 0 (.t 1), (some (27, false)), []⟩,
   ⟨(some 29), .load false 1 (.t 28), (some (27, false)), []⟩,
   ⟨(some 30), .call 81 [(.t 29)], (some (27, false)), []⟩,
   ⟨(some 31), .pick (.t 27) (.k (.b true)) (.t 30), (some (23, true)), []⟩,
   ⟨(some 32), .pick (.t 23) (.t 31) (.k (.b false)), none, []⟩,
   ⟨(some 2), .mv (.t 32), none, []⟩] false [1, 5, 6, 7, 8, 9, 10, 11, 12, 13, 14, 15, 16, 17, 18, 19, 20, 21, 22, 23, 24, 25, 26, 27, 28, 29, 30, 31, 32]) (
 .ret))))
 [.tmp 2]

/-- reeve/cap.in -/
def m78 : MF := .code 3 (
 .seq (
 .reg [
   ⟨(some 6), .mv (.k (.b false)), none, []⟩] false [6]) (
 .seq (
 .reg [
   ⟨(some 7), .mv (.t 0), none, []⟩,
   ⟨(some 8), .mv (.t 1), none, []⟩,
   ⟨(some 9), .bin .geq (.t 7) (.t 8), none, []⟩,
   ⟨(some 10), .mv (.t 9), none, []⟩,
   ⟨(some 11), .mv (.t 0), (some (10, true)), []⟩,
   ⟨(some 12), .mv (.t 2), (some (10, true)), []⟩,
   ⟨(some 13), .bin .leq (.t 11) (.t 12), (some (10, true)), []⟩,
   ⟨(some 14), .pick (.t 10) (.t 13) (.k (.b false)), none, []⟩,
   ⟨(some 6), .mv (.t 14), none, []⟩] false [0, 1, 2, 7, 8, 9, 10, 11, 12, 13, 14]) (
 .ret)))
 [.tmp 6]

/-- reeve/right.Good -/
def m79 : MF := .code 1 (
 .seq (
 .reg [
   ⟨(some 2), .mv (.k (.b false)), none, []⟩] false [2]) (
 .seq (
 .reg [
   ⟨(some 3), .mv (.t 0), none, []⟩,
   ⟨(some 4), .bin .geq (.t 3) (.k (.i .i64 0)), none, []⟩,
   ⟨(some 5), .mv (.t 4), none, []⟩,
   ⟨(some 6), .mv (.t 0), (some (5, true)), []⟩,
   ⟨(some 7), .bin .leq (.t 6) (.k (.i .i64 7)), (some (5, true)), []⟩,
   ⟨(some 8), .pick (.t 5) (.t 7) (.k (.b false)), none, []⟩,
   ⟨(some 2), .mv (.t 8), none, []⟩] false [0, 3, 4, 5, 6, 7, 8]) (
 .ret)))
 [.tmp 2]

/-- reeve/right.Badge -/
def m80 : MF := .code 1 (
 .seq (
 .reg [
   ⟨(some 2), .mv (.k (.b false)), none, []⟩] false [2]) (
 .seq (
 .reg [
   ⟨(some 3), .mv (.t 0), none, []⟩,
   ⟨(some 4), .bin .geq (.t 3) (.k (.i .i64 0)), none, []⟩,
   ⟨(some 5), .mv (.t 4), none, []⟩,
   ⟨(some 6), .mv (.t 0), (some (5, true)), []⟩,
   ⟨(some 7), .bin .leq (.t 6) (.k (.i .i64 65535)), (some (5, true)), []⟩,
   ⟨(some 8), .pick (.t 5) (.t 7) (.k (.b false)), none, []⟩,
   ⟨(some 2), .mv (.t 8), none, []⟩] false [0, 3, 4, 5, 6, 7, 8]) (
 .ret)))
 [.tmp 2]

/-- reeve/cap.badged -/
def m81 : MF := .code 1 (
 .seq (
 .reg [
   ⟨(some 2), .mv (.k (.b false)), none, []⟩] false [2]) (
 .seq (
 .reg [
   ⟨(some 3), .mv (.t 0), none, []⟩,
   ⟨(some 4), .bin .eql (.t 3) (.k (.i .i64 3)), none, []⟩,
   ⟨(some 5), .mv (.t 4), none, []⟩,
   ⟨(some 6), .mv (.t 0), (some (5, false)), []⟩,
   ⟨(some 7), .bin .eql (.t 6) (.k (.i .i64 4)), (some (5, false)), []⟩,
   ⟨(some 8), .pick (.t 5) (.k (.b true)) (.t 7), none, []⟩,
   ⟨(some 2), .mv (.t 8), none, []⟩] false [0, 3, 4, 5, 6, 7, 8]) (
 .ret)))
 [.tmp 2]

/-- (reeve/state.State).there -/
def m69 : MF := .code 2 (
 .seq (
 .reg [
   ⟨(some 2), .box (.t 0), none, []⟩,
   ⟨(some 4), .mv (.k (.b false)), none, []⟩] false [0, 4]) (
 .seq (
 .reg [
   ⟨(some 5), .mv (.t 1), none, []⟩,
   ⟨(some 6), .bin .geq (.t 5) (.k (.i .i64 0)), none, []⟩,
   ⟨(some 7), .mv (.t 6), none, []⟩,
   ⟨(some 8), .mv (.t 1), (some (7, true)), []⟩,
   ⟨(some 9), .faddr 4 (.t 2), (some (7, true)), []⟩,
   ⟨(some 10), .load false 1 (.t 9), (some (7, true)), []⟩,
   ⟨(some 11), .len false (.t 10), (some (7, true)), []⟩,
   ⟨(some 12), .bin .lss (.t 8) (.t 11), (some (7, true)), []⟩,
   ⟨(some 13), .pick (.t 7) (.t 12) (.k (.b false)), none, []⟩,
   ⟨(some 14), .mv (.t 13), none, []⟩,
   ⟨(some 15), .faddr 4 (.t 2), (some (14, true)), []⟩,
   ⟨(some 16), .load false 1 (.t 15), (some (14, true)), []⟩,
   ⟨(some 17), .mv (.t 1), (some (14, true)), []⟩,
   ⟨(some 18), .iaddr 13 (.t 16) (.t 17), (some (14, true)), []⟩,
   ⟨(some 19), .faddr 0 (.t 18), (some (14, true)), []⟩,
   ⟨(some 20), .load false 1 (.t 19), (some (14, true)), []⟩,
   ⟨(some 21), .bin .neq (.t 20) (.k (.i .i64 0)), (some (14, true)), []⟩,
   ⟨(some 22), .pick (.t 14) (.t 21) (.k (.b false)), none, []⟩,
   ⟨(some 4), .mv (.t 22), none, []⟩] false [1, 2, 5, 6, 7, 8, 9, 10, 11, 12, 13, 14, 15, 16, 17, 18, 19, 20, 21, 22]) (
 .ret)))
 [.tmp 4]

/-- (reeve/state.State).things -/
def m38 : MF := .code 1 (
 .seq (
 .reg [
   ⟨(some 1), .box (.t 0), none, []⟩,
   ⟨(some 2), .mv (.k (.b false)), none, []⟩] false [0, 2]) (
 .seq (
 .seq (
 .reg [
   ⟨(some 6), .faddr 4 (.t 1), none, []⟩,
   ⟨(some 7), .load false 1 (.t 6), none, []⟩,
   ⟨(some 8), .len false (.t 7), none, []⟩,
   ⟨(some 9), .mv (.k (.i .i64 0)), none, []⟩] false [6]) (
 .block 0 (
  .loop 2 [1, 7, 8, 9] [2] (
   .seq (
   .reg [
     ⟨(some 10), .bin .lss (.t 9) (.t 8), none, []⟩] false []) (
   .seq (
   .cond (.t 10) (
    .skip) (
    .exit 0)) (
   .seq (
   .block 1 (
    .seq (
    .reg [
      ⟨(some 11), .mv (.t 9), none, []⟩,
      ⟨(some 12), .iaddr 13 (.t 7) (.t 9), none, []⟩,
      ⟨(some 13), .load true 13 (.t 12), none, []⟩,
      ⟨(some 4), .alloc [.i .i64 0, .i .i64 0, .i .i64 0, .i .i64 0, .i .i64 0, .i .i64 0, .i .i64 0, .b false, .i .u64 0, .i .u64 0, .i .u64 0, .i .u64 0, .i .u64 0], none, []⟩,
      ⟨(some 3), .mv (.t 11), none, []⟩,
      ⟨none, .store 13 (.t 4) (.t 13), none, []⟩] false [11, 12, 13]) (
    .seq (
    .seq (
    .reg [
      ⟨(some 14), .load true 13 (.t 4), none, []⟩,
      ⟨(some 15), .call 70 [(.t 14)], none, []⟩,
      ⟨(some 16), .un .not (.t 15), none, []⟩] false [14, 15]) (
    .cond (.t 16) (
     .seq (
     .reg [
       ⟨(some 2), .mv (.k (.b false)), none, []⟩] false []) (
     .ret)) (
     .skip))) (
    .seq (
    .seq (
    .reg [
      ⟨(some 17), .faddr 5 (.t 4), none, []⟩,
      ⟨(some 18), .load false 1 (.t 17), none, []⟩,
      ⟨(some 19), .bin .gtr (.t 18) (.k (.i .i64 0)), none, []⟩,
      ⟨(some 20), .mv (.t 19), none, []⟩,
      ⟨(some 21), .faddr 5 (.t 4), (some (20, true)), []⟩,
      ⟨(some 22), .load false 1 (.t 21), (some (20, true)), []⟩,
      ⟨(some 23), .faddr 3 (.t 1), (some (20, true)), []⟩,
      ⟨(some 24), .load false 1 (.t 23), (some (20, true)), []⟩,
      ⟨(some 25), .len false (.t 24), (some (20, true)), []⟩,
      ⟨(some 26), .bin .gtr (.t 22) (.t 25), (some (20, true)), []⟩,
      ⟨(some 27), .mv (.t 26), (some (20, true)), []⟩,
      ⟨(some 28), .faddr 3 (.t 1), (some (27, false)), []⟩,
      ⟨(some 29), .load false 1 (.t 28), (some (27, false)), []⟩,
      ⟨(some 30), .faddr 5 (.t 4), (some (27, false)), []⟩,
      ⟨(some 31), .load false 1 (.t 30), (some (27, false)), []⟩,
      ⟨(some 32), .bin .sub (.t 31) (.k (.i .i64 1)), (some (27, false)), []⟩,
      ⟨(some 33), .iaddr 5 (.t 29) (.t 32), (some (27, false)), []⟩,
      ⟨(some 34), .faddr 0 (.t 33), (some (27, false)), []⟩,
      ⟨(some 35), .load true 4 (.t 34), (some (27, false)), []⟩,
      ⟨(some 36), .call 12 [(.t 35)], (some (27, false)), []⟩,
      ⟨(some 37), .pick (.t 27) (.k (.b true)) (.t 36), (some (20, true)), []⟩,
      ⟨(some 38), .pick (.t 20) (.t 37) (.k (.b false)), none, []⟩] false [17, 18, 19, 20, 21, 22, 23, 24, 25, 26, 27, 28, 29, 30, 31, 32, 33, 34, 35, 36, 37]) (
    .cond (.t 38) (
     .seq (
     .reg [
       ⟨(some 2), .mv (.k (.b false)), none, []⟩] false []) (
     .ret)) (
     .skip))) (
    .seq (
    .reg [
      ⟨(some 39), .mv (.t 3), none, []⟩,
      ⟨(some 40), .bin .geq (.t 39) (.k (.i .i64 2)), none, []⟩,
      ⟨(some 41), .mv (.t 40), none, []⟩,
      ⟨(some 42), .mv (.t 3), (some (41, true)), []⟩,
      ⟨(some 43), .faddr 0 (.t 1), (some (41, true)), []⟩,
      ⟨(some 44), .faddr 0 (.t 43), (some (41, true)), []⟩,
      ⟨(some 45), .load false 1 (.t 44), (some (41, true)), []⟩,
      ⟨(some 46), .bin .add (.k (.i .i64 2)) (.t 45), (some (41, true)), []⟩,
      ⟨(some 47), .bin .lss (.t 42) (.t 46), (some (41, true)), []⟩,
      ⟨(some 48), .pick (.t 41) (.t 47) (.k (.b false)), none, []⟩,
      ⟨(some 5), .mv (.t 48), none, []⟩] false [39, 40, 41, 42, 43, 44, 45, 46, 47, 48]) (
    .seq (
    .seq (
    .reg [
      ⟨(some 49), .mv (.t 5), none, []⟩,
      ⟨(some 50), .mv (.t 49), none, []⟩,
      ⟨(some 51), .load true 13 (.t 4), (some (50, true)), [4, 7]⟩,
      ⟨(some 52), .faddr 0 (.t 1), (some (50, true)), []⟩,
      ⟨(some 53), .load true 3 (.t 52), (some (50, true)), [2]⟩,
      ⟨(some 54), .mv (.t 3), (some (50, true)), []⟩,
      ⟨(some 55), .bin .sub (.t 54) (.k (.i .i64 2)), (some (50, true)), []⟩,
      ⟨(some 56), .call 16 [(.t 53), (.t 55)], (some (50, true)), [2]⟩,
      ⟨(some 57), .build [.i .i64 0, .i .i64 0, .i .i64 0, .i .i64 0, .i .i64 0, .i .i64 0, .i .i64 0, .b false, .i .u64 0, .i .u64 0, .i .u64 0, .i .u64 0, .i .u64 0] [(0, 1, (.k (.i .i64 2))), (1, 1, (.k (.i .i64 3))), (2, 1, (.t 56))], (some (50, true)), []⟩,
      ⟨(some 58), .eq true true [.i, .i, .i, .i, .i, .i, .i, .b, .i, .i, .i, .i, .i] (.t 51) (.t 57), (some (50, true)), []⟩,
      ⟨(some 59), .pick (.t 50) (.t 58) (.k (.b false)), none, []⟩] true [49, 50, 51, 52, 53, 54, 55, 56, 57, 58]) (
    .cond (.t 59) (
     .seq (
     .reg [
       ⟨(some 2), .mv (.k (.b false)), none, []⟩] false []) (
     .ret)) (
     .skip))) (
    .seq (
    .reg [
      ⟨(some 60), .mv (.t 5), none, []⟩,
      ⟨(some 61), .un .not (.t 60), none, []⟩,
      ⟨(some 62), .mv (.t 61), none, []⟩,
      ⟨(some 63), .faddr 0 (.t 4), (some (62, true)), []⟩,
      ⟨(some 64), .load false 1 (.t 63), (some (62, true)), []⟩,
      ⟨(some 65), .bin .neq (.t 64) (.k (.i .i64 0)), (some (62, true)), []⟩,
      ⟨(some 66), .pick (.t 62) (.t 65) (.k (.b false)), none, []⟩,
      ⟨(some 67), .mv (.t 66), none, []⟩,
      ⟨(some 68), .load true 5 (.t 1), (some (67, true)), []⟩,
      ⟨(some 69), .mv (.t 3), (some (67, true)), []⟩,
      ⟨(some 70), .call 42 [(.t 68), (.t 69)], (some (67, true)), []⟩,
      ⟨(some 71), .len false (.t 70), (some (67, true)), []⟩,
      ⟨(some 72), .bin .eql (.t 71) (.k (.i .i64 0)), (some (67, true)), []⟩,
      ⟨(some 73), .pick (.t 67) (.t 72) (.k (.b false)), none, []⟩] false [3, 4, 5, 60, 61, 62, 63, 64, 65, 66, 67, 68, 69, 70, 71, 72]) (
    .cond (.t 73) (
     .seq (
     .reg [
       ⟨(some 2), .mv (.k (.b false)), none, []⟩] false []) (
     .ret)) (
     .skip))))))))) (
   .reg [
     ⟨(some 74), .bin .add (.t 9) (.k (.i .i64 1)), none, []⟩,
     ⟨(some 9), .mv (.t 74), none, []⟩] false [74]))))))) (
 .seq (
 .reg [
   ⟨(some 2), .mv (.k (.b true)), none, []⟩] false []) (
 .ret))))
 [.tmp 2]

/-- (reeve/state.State).holders -/
def m42 : MF := .code 2 (
 .seq (
 .reg [
   ⟨(some 2), .box (.t 0), none, []⟩,
   ⟨(some 4), .mv (.k (.lst true true 0 [])), none, []⟩] false [0, 4]) (
 .seq (
 .reg [
   ⟨(some 5), .mv (.k (.lst true true 0 [])), none, []⟩] false []) (
 .seq (
 .seq (
 .reg [
   ⟨(some 8), .faddr 3 (.t 2), none, []⟩,
   ⟨(some 9), .load false 1 (.t 8), none, []⟩,
   ⟨(some 10), .len false (.t 9), none, []⟩,
   ⟨(some 11), .mv (.k (.i .i64 0)), none, []⟩] false [2, 8]) (
 .block 0 (
  .loop 3 [1, 5, 9, 10, 11] [5] (
   .seq (
   .reg [
     ⟨(some 12), .bin .lss (.t 11) (.t 10), none, []⟩] false []) (
   .seq (
   .cond (.t 12) (
    .skip) (
    .exit 0)) (
   .seq (
   .block 1 (
    .seq (
    .reg [
      ⟨(some 13), .mv (.t 11), none, []⟩,
      ⟨(some 14), .iaddr 5 (.t 9) (.t 11), none, []⟩,
      ⟨(some 15), .load true 5 (.t 14), none, []⟩,
      ⟨(some 7), .alloc [.i .i64 0, .i .i64 0, .i .i64 0, .i .i64 0, .i .i64 0], none, []⟩,
      ⟨(some 6), .mv (.t 13), none, []⟩,
      ⟨none, .store 5 (.t 7) (.t 15), none, []⟩] false [13, 14, 15]) (
    .seq (
    .reg [
      ⟨(some 16), .faddr 0 (.t 7), none, []⟩,
      ⟨(some 17), .load true 4 (.t 16), none, []⟩,
      ⟨(some 18), .call 12 [(.t 17)], none, []⟩,
      ⟨(some 19), .un .not (.t 18), none, []⟩,
      ⟨(some 20), .mv (.t 19), none, []⟩,
      ⟨(some 21), .faddr 0 (.t 7), (some (20, true)), []⟩,
      ⟨(some 22), .faddr 1 (.t 21), (some (20, true)), []⟩,
      ⟨(some 23), .load false 1 (.t 22), (some (20, true)), []⟩,
      ⟨(some 24), .mv (.t 1), (some (20, true)), []⟩,
      ⟨(some 25), .bin .eql (.t 23) (.t 24), (some (20, true)), []⟩,
      ⟨(some 26), .pick (.t 20) (.t 25) (.k (.b false)), none, []⟩] false [7, 16, 17, 18, 19, 20, 21, 22, 23, 24, 25]) (
    .cond (.t 26) (
     .reg [
       ⟨(some 27), .mv (.t 5), none, []⟩,
       ⟨(some 28), .mv (.t 6), none, []⟩,
       ⟨(some 29), .bsl [.i .i64 0] 1 [(0, (.t 28))], none, []⟩,
       ⟨(some 30), .append 1 (.t 27) (.t 29), none, []⟩,
       ⟨(some 5), .mv (.t 30), none, []⟩] false [6, 27, 28, 29, 30]) (
     .skip))))) (
   .reg [
     ⟨(some 31), .bin .add (.t 11) (.k (.i .i64 1)), none, []⟩,
     ⟨(some 11), .mv (.t 31), none, []⟩] false [31]))))))) (
 .seq (
 .reg [
   ⟨(some 32), .mv (.t 5), none, []⟩,
   ⟨(some 4), .mv (.t 32), none, []⟩] false [5, 32]) (
 .ret)))))
 [.tmp 4]

/-- (reeve/state.State).nodes -/
def m39 : MF := .code 1 (
 .seq (
 .reg [
   ⟨(some 1), .box (.t 0), none, []⟩,
   ⟨(some 2), .mv (.k (.b false)), none, []⟩] false [0, 2]) (
 .seq (
 .reg [
   ⟨(some 10), .faddr 3 (.t 1), none, []⟩,
   ⟨(some 11), .load false 1 (.t 10), none, []⟩,
   ⟨(some 12), .len false (.t 11), none, []⟩,
   ⟨(some 13), .mkrow [.b false] (.t 12) (.t 12), none, []⟩,
   ⟨(some 3), .mv (.t 13), none, []⟩] false [10, 11, 12, 13]) (
 .seq (
 .seq (
 .reg [
   ⟨(some 14), .faddr 4 (.t 1), none, []⟩,
   ⟨(some 15), .load false 1 (.t 14), none, []⟩,
   ⟨(some 16), .len false (.t 15), none, []⟩,
   ⟨(some 17), .mv (.k (.i .i64 0)), none, []⟩] false [14]) (
 .block 0 (
  .loop 3 [1, 3, 15, 16, 17] [1, 2, 3] (
   .seq (
   .reg [
     ⟨(some 18), .bin .lss (.t 17) (.t 16), none, []⟩] false []) (
   .seq (
   .cond (.t 18) (
    .skip) (
    .exit 0)) (
   .seq (
   .block 1 (
    .seq (
    .reg [
      ⟨(some 19), .iaddr 13 (.t 15) (.t 17), none, []⟩,
      ⟨(some 20), .load true 13 (.t 19), none, []⟩,
      ⟨(some 5), .alloc [.i .i64 0, .i .i64 0, .i .i64 0, .i .i64 0, .i .i64 0, .i .i64 0, .i .i64 0, .b false, .i .u64 0, .i .u64 0, .i .u64 0, .i .u64 0, .i .u64 0], none, []⟩,
      ⟨none, .store 13 (.t 5) (.t 20), none, []⟩] false [19, 20]) (
    .seq (
    .seq (
    .reg [
      ⟨(some 21), .faddr 0 (.t 5), none, []⟩,
      ⟨(some 22), .load false 1 (.t 21), none, []⟩,
      ⟨(some 23), .bin .neq (.t 22) (.k (.i .i64 2)), none, []⟩] false [21, 22]) (
    .cond (.t 23) (
     .exit 1) (
     .skip))) (
    .seq (
    .reg [
      ⟨(some 24), .faddr 1 (.t 5), none, []⟩,
      ⟨(some 25), .load false 1 (.t 24), none, []⟩,
      ⟨(some 26), .bin .shl (.k (.i .i64 1)) (.t 25), none, []⟩,
      ⟨(some 27), .mv (.k (.i .i64 0)), none, []⟩] false [24, 25]) (
    .block 2 (
     .loop 7 [1, 3, 5, 15, 16, 17, 26, 27] [1, 2, 3, 15, 16, 17] (
      .seq (
      .reg [
        ⟨(some 28), .bin .lss (.t 27) (.t 26), none, []⟩] false []) (
      .seq (
      .cond (.t 28) (
       .skip) (
       .exit 2)) (
      .seq (
      .block 3 (
       .seq (
       .reg [
         ⟨(some 29), .mv (.t 27), none, []⟩,
         ⟨(some 6), .mv (.t 29), none, []⟩] false [29]) (
       .seq (
       .reg [
         ⟨(some 30), .faddr 2 (.t 5), none, []⟩,
         ⟨(some 31), .load false 1 (.t 30), none, []⟩,
         ⟨(some 32), .mv (.t 6), none, []⟩,
         ⟨(some 33), .bin .add (.t 31) (.t 32), none, []⟩,
         ⟨(some 7), .mv (.t 33), none, []⟩] false [6, 30, 31, 32, 33]) (
       .seq (
       .seq (
       .reg [
         ⟨(some 34), .mv (.t 7), none, []⟩,
         ⟨(some 35), .mv (.t 3), none, []⟩,
         ⟨(some 36), .len false (.t 35), none, []⟩,
         ⟨(some 37), .bin .geq (.t 34) (.t 36), none, []⟩,
         ⟨(some 38), .mv (.t 37), none, []⟩,
         ⟨(some 39), .mv (.t 3), (some (38, false)), []⟩,
         ⟨(some 40), .mv (.t 7), (some (38, false)), []⟩,
         ⟨(some 41), .iaddr 1 (.t 39) (.t 40), (some (38, false)), []⟩,
         ⟨(some 42), .load false 1 (.t 41), (some (38, false)), []⟩,
         ⟨(some 43), .pick (.t 38) (.k (.b true)) (.t 42), none, []⟩] false [34, 35, 36, 37, 38, 39, 40, 41, 42]) (
       .cond (.t 43) (
        .seq (
        .reg [
          ⟨(some 2), .mv (.k (.b false)), none, []⟩] false []) (
        .ret)) (
        .skip))) (
       .reg [
         ⟨(some 44), .mv (.t 3), none, []⟩,
         ⟨(some 45), .mv (.t 7), none, []⟩,
         ⟨(some 46), .iaddr 1 (.t 44) (.t 45), none, []⟩,
         ⟨none, .store 1 (.t 46) (.k (.b true)), none, []⟩] false [7, 44, 45, 46]))))) (
      .reg [
        ⟨(some 47), .bin .add (.t 27) (.k (.i .i64 1)), none, []⟩,
        ⟨(some 27), .mv (.t 47), none, []⟩] false [47])))))))))) (
   .reg [
     ⟨(some 48), .bin .add (.t 17) (.k (.i .i64 1)), none, []⟩,
     ⟨(some 17), .mv (.t 48), none, []⟩] false [48]))))))) (
 .seq (
 .seq (
 .reg [
   ⟨(some 49), .faddr 3 (.t 1), none, []⟩,
   ⟨(some 50), .load false 1 (.t 49), none, []⟩,
   ⟨(some 51), .len false (.t 50), none, []⟩,
   ⟨(some 52), .mv (.k (.i .i64 0)), none, []⟩] false [1, 49]) (
 .block 4 (
  .loop 16 [3, 50, 51, 52] [2] (
   .seq (
   .reg [
     ⟨(some 53), .bin .lss (.t 52) (.t 51), none, []⟩] false []) (
   .seq (
   .cond (.t 53) (
    .skip) (
    .exit 4)) (
   .seq (
   .block 5 (
    .seq (
    .reg [
      ⟨(some 54), .mv (.t 52), none, []⟩,
      ⟨(some 55), .iaddr 5 (.t 50) (.t 52), none, []⟩,
      ⟨(some 56), .load true 5 (.t 55), none, []⟩,
      ⟨(some 9), .alloc [.i .i64 0, .i .i64 0, .i .i64 0, .i .i64 0, .i .i64 0], none, []⟩,
      ⟨(some 8), .mv (.t 54), none, []⟩,
      ⟨none, .store 5 (.t 9) (.t 56), none, []⟩] false [54, 55, 56]) (
    .seq (
    .reg [
      ⟨(some 57), .mv (.t 3), none, []⟩,
      ⟨(some 58), .mv (.t 8), none, []⟩,
      ⟨(some 59), .iaddr 1 (.t 57) (.t 58), none, []⟩,
      ⟨(some 60), .load false 1 (.t 59), none, []⟩,
      ⟨(some 61), .un .not (.t 60), none, []⟩,
      ⟨(some 62), .mv (.t 61), none, []⟩,
      ⟨(some 63), .faddr 0 (.t 9), (some (62, true)), []⟩,
      ⟨(some 64), .load true 4 (.t 63), (some (62, true)), []⟩,
      ⟨(some 65), .call 12 [(.t 64)], (some (62, true)), []⟩,
      ⟨(some 66), .un .not (.t 65), (some (62, true)), []⟩,
      ⟨(some 67), .pick (.t 62) (.t 66) (.k (.b false)), none, []⟩] false [8, 9, 57, 58, 59, 60, 61, 62, 63, 64, 65, 66]) (
    .cond (.t 67) (
     .seq (
     .reg [
       ⟨(some 2), .mv (.k (.b false)), none, []⟩] false []) (
     .ret)) (
     .skip))))) (
   .reg [
     ⟨(some 68), .bin .add (.t 52) (.k (.i .i64 1)), none, []⟩,
     ⟨(some 52), .mv (.t 68), none, []⟩] false [68]))))))) (
 .seq (
 .reg [
   ⟨(some 2), .mv (.k (.b true)), none, []⟩] false []) (
 .ret))))))
 [.tmp 2]

/-- (reeve/state.State).ring -/
def m40 : MF := .code 1 (
 .seq (
 .reg [
   ⟨(some 1), .box (.t 0), none, []⟩,
   ⟨(some 2), .mv (.k (.b false)), none, []⟩] false [0, 2]) (
 .seq (
 .seq (
 .reg [
   ⟨(some 5), .faddr 3 (.t 1), none, []⟩,
   ⟨(some 6), .load false 1 (.t 5), none, []⟩,
   ⟨(some 7), .len false (.t 6), none, []⟩,
   ⟨(some 8), .mv (.k (.i .i64 0)), none, []⟩] false [5]) (
 .block 0 (
  .loop 2 [1, 6, 7, 8] [2] (
   .seq (
   .reg [
     ⟨(some 9), .bin .lss (.t 8) (.t 7), none, []⟩] false []) (
   .seq (
   .cond (.t 9) (
    .skip) (
    .exit 0)) (
   .seq (
   .block 1 (
    .seq (
    .reg [
      ⟨(some 10), .mv (.t 8), none, []⟩,
      ⟨(some 11), .iaddr 5 (.t 6) (.t 8), none, []⟩,
      ⟨(some 12), .load true 5 (.t 11), none, []⟩,
      ⟨(some 4), .alloc [.i .i64 0, .i .i64 0, .i .i64 0, .i .i64 0, .i .i64 0], none, []⟩,
      ⟨(some 3), .mv (.t 10), none, []⟩,
      ⟨none, .store 5 (.t 4) (.t 12), none, []⟩] false [10, 11, 12]) (
    .seq (
    .reg [
      ⟨(some 13), .faddr 0 (.t 4), none, []⟩,
      ⟨(some 14), .faddr 0 (.t 13), none, []⟩,
      ⟨(some 15), .load false 1 (.t 14), none, []⟩,
      ⟨(some 16), .bin .eql (.t 15) (.k (.i .i64 2)), none, []⟩,
      ⟨(some 17), .mv (.t 16), none, []⟩,
      ⟨(some 18), .load true 5 (.t 1), (some (17, true)), []⟩,
      ⟨(some 19), .faddr 0 (.t 4), (some (17, true)), []⟩,
      ⟨(some 20), .faddr 1 (.t 19), (some (17, true)), []⟩,
      ⟨(some 21), .load false 1 (.t 20), (some (17, true)), []⟩,
      ⟨(some 22), .mv (.t 3), (some (17, true)), []⟩,
      ⟨(some 23), .call 54 [(.t 18), (.t 21), (.t 22)], (some (17, true)), []⟩,
      ⟨(some 24), .pick (.t 17) (.t 23) (.k (.b false)), none, []⟩] false [3, 4, 13, 14, 15, 16, 17, 18, 19, 20, 21, 22, 23]) (
    .cond (.t 24) (
     .seq (
     .reg [
       ⟨(some 2), .mv (.k (.b true)), none, []⟩] false []) (
     .ret)) (
     .skip))))) (
   .reg [
     ⟨(some 25), .bin .add (.t 8) (.k (.i .i64 1)), none, []⟩,
     ⟨(some 8), .mv (.t 25), none, []⟩] false [25]))))))) (
 .seq (
 .reg [
   ⟨(some 2), .mv (.k (.b false)), none, []⟩] false []) (
 .ret))))
 [.tmp 2]

/-- (reeve/state.State).inside -/
def m54 : MF := .code 3 (
 .seq (
 .reg [
   ⟨(some 3), .box (.t 0), none, []⟩,
   ⟨(some 6), .mv (.k (.b false)), none, []⟩] false [0, 6]) (
 .seq (
 .seq (
 .reg [
   ⟨(some 8), .load true 5 (.t 3), none, []⟩,
   ⟨(some 9), .mv (.t 1), none, []⟩,
   ⟨(some 10), .call 69 [(.t 8), (.t 9)], none, []⟩,
   ⟨(some 11), .un .not (.t 10), none, []⟩,
   ⟨(some 12), .mv (.t 11), none, []⟩,
   ⟨(some 13), .faddr 4 (.t 3), (some (12, false)), []⟩,
   ⟨(some 14), .load false 1 (.t 13), (some (12, false)), []⟩,
   ⟨(some 15), .mv (.t 1), (some (12, false)), []⟩,
   ⟨(some 16), .iaddr 13 (.t 14) (.t 15), (some (12, false)), []⟩,
   ⟨(some 17), .faddr 0 (.t 16), (some (12, false)), []⟩,
   ⟨(some 18), .load false 1 (.t 17), (some (12, false)), []⟩,
   ⟨(some 19), .bin .neq (.t 18) (.k (.i .i64 2)), (some (12, false)), []⟩,
   ⟨(some 20), .pick (.t 12) (.k (.b true)) (.t 19), none, []⟩] false [8, 9, 10, 11, 12, 13, 14, 15, 16, 17, 18, 19]) (
 .cond (.t 20) (
  .seq (
  .reg [
    ⟨(some 6), .mv (.k (.b false)), none, []⟩] false []) (
  .ret)) (
  .skip))) (
 .seq (
 .reg [
   ⟨(some 21), .mkmap, none, []⟩,
   ⟨(some 7), .mv (.t 21), none, []⟩] false [21]) (
 .seq (
 .reg [
   ⟨(some 22), .load true 5 (.t 3), none, []⟩,
   ⟨(some 23), .mv (.t 1), none, []⟩,
   ⟨(some 24), .mv (.t 7), none, []⟩,
   ⟨(some 25), .call 74 [(.t 22), (.t 23), (.t 24)], none, []⟩] false [1, 22, 23, 24, 25]) (
 .seq (
 .reg [
   ⟨(some 26), .mv (.t 7), none, []⟩,
   ⟨(some 27), .load true 5 (.t 3), none, []⟩,
   ⟨(some 28), .mv (.t 2), none, []⟩,
   ⟨(some 29), .call 45 [(.t 27), (.t 28)], none, []⟩,
   ⟨(some 30), .look (.b false) false (.t 26) (.t 29), none, []⟩,
   ⟨(some 6), .mv (.t 30), none, []⟩] false [2, 3, 7, 26, 27, 28, 29, 30]) (
 .ret))))))
 [.tmp 6]

/-- reeve/state.within -/
def m74 : MF := .code 3 (
 .seq (
 .reg [
   ⟨(some 3), .box (.t 0), none, []⟩] false [0]) (
 .seq (
 .seq (
 .reg [
   ⟨(some 8), .mv (.t 2), none, []⟩,
   ⟨(some 9), .mv (.t 1), none, []⟩,
   ⟨(some 10), .look (.b false) false (.t 8) (.t 9), none, []⟩] false [8, 9]) (
 .cond (.t 10) (
  .ret) (
  .skip))) (
 .seq (
 .reg [
   ⟨(some 11), .mv (.t 2), none, []⟩,
   ⟨(some 12), .mv (.t 1), none, []⟩,
   ⟨none, .mset (.t 11) (.t 12) (.k (.b true)), none, []⟩] false [11, 12]) (
 .seq (
 .reg [
   ⟨(some 13), .faddr 3 (.t 3), none, []⟩,
   ⟨(some 14), .load false 1 (.t 13), none, []⟩,
   ⟨(some 15), .len false (.t 14), none, []⟩,
   ⟨(some 16), .mv (.k (.i .i64 0)), none, []⟩] false [13]) (
 .block 0 (
  .loop 4 [1, 2, 3, 14, 15, 16] [] (
   .seq (
   .reg [
     ⟨(some 17), .bin .lss (.t 16) (.t 15), none, []⟩] false []) (
   .seq (
   .cond (.t 17) (
    .skip) (
    .exit 0)) (
   .seq (
   .block 1 (
    .seq (
    .reg [
      ⟨(some 18), .mv (.t 16), none, []⟩,
      ⟨(some 19), .iaddr 5 (.t 14) (.t 16), none, []⟩,
      ⟨(some 20), .load true 5 (.t 19), none, []⟩,
      ⟨(some 7), .alloc [.i .i64 0, .i .i64 0, .i .i64 0, .i .i64 0, .i .i64 0], none, []⟩,
      ⟨(some 6), .mv (.t 18), none, []⟩,
      ⟨none, .store 5 (.t 7) (.t 20), none, []⟩] false [18, 19, 20]) (
    .seq (
    .reg [
      ⟨(some 21), .faddr 0 (.t 7), none, []⟩,
      ⟨(some 22), .faddr 0 (.t 21), none, []⟩,
      ⟨(some 23), .load false 1 (.t 22), none, []⟩,
      ⟨(some 24), .bin .eql (.t 23) (.k (.i .i64 2)), none, []⟩,
      ⟨(some 25), .mv (.t 24), none, []⟩,
      ⟨(some 26), .faddr 4 (.t 3), (some (25, true)), []⟩,
      ⟨(some 27), .load false 1 (.t 26), (some (25, true)), []⟩,
      ⟨(some 28), .mv (.t 1), (some (25, true)), []⟩,
      ⟨(some 29), .iaddr 13 (.t 27) (.t 28), (some (25, true)), []⟩,
      ⟨(some 30), .load true 13 (.t 29), (some (25, true)), []⟩,
      ⟨(some 31), .mv (.t 6), (some (25, true)), []⟩,
      ⟨(some 32), .call 73 [(.t 30), (.t 31)], (some (25, true)), []⟩,
      ⟨(some 33), .pick (.t 25) (.t 32) (.k (.b false)), none, []⟩,
      ⟨(some 34), .mv (.t 33), none, []⟩,
      ⟨(some 35), .load true 5 (.t 3), (some (34, true)), []⟩,
      ⟨(some 36), .faddr 0 (.t 7), (some (34, true)), []⟩,
      ⟨(some 37), .faddr 1 (.t 36), (some (34, true)), []⟩,
      ⟨(some 38), .load false 1 (.t 37), (some (34, true)), []⟩,
      ⟨(some 39), .call 69 [(.t 35), (.t 38)], (some (34, true)), []⟩,
      ⟨(some 40), .pick (.t 34) (.t 39) (.k (.b false)), none, []⟩] false [6, 21, 22, 23, 24, 25, 26, 27, 28, 29, 30, 31, 32, 33, 34, 35, 36, 37, 38, 39]) (
    .cond (.t 40) (
     .reg [
       ⟨(some 41), .load true 5 (.t 3), none, []⟩,
       ⟨(some 42), .faddr 0 (.t 7), none, []⟩,
       ⟨(some 43), .faddr 1 (.t 42), none, []⟩,
       ⟨(some 44), .load false 1 (.t 43), none, []⟩,
       ⟨(some 45), .mv (.t 2), none, []⟩,
       ⟨(some 46), .call 74 [(.t 41), (.t 44), (.t 45)], none, []⟩] false [7, 41, 42, 43, 44, 45, 46]) (
     .skip))))) (
   .reg [
     ⟨(some 47), .bin .add (.t 16) (.k (.i .i64 1)), none, []⟩,
     ⟨(some 16), .mv (.t 47), none, []⟩] false [47]))))))))))
 []

/-- reeve/state.has -/
def m73 : MF := .code 2 (
 .seq (
 .reg [
   ⟨(some 2), .box (.t 0), none, []⟩,
   ⟨(some 4), .mv (.k (.b false)), none, []⟩] false [0, 4]) (
 .seq (
 .reg [
   ⟨(some 5), .faddr 0 (.t 2), none, []⟩,
   ⟨(some 6), .load false 1 (.t 5), none, []⟩,
   ⟨(some 7), .bin .eql (.t 6) (.k (.i .i64 2)), none, []⟩,
   ⟨(some 8), .mv (.t 7), none, []⟩,
   ⟨(some 9), .mv (.t 1), (some (8, true)), []⟩,
   ⟨(some 10), .faddr 2 (.t 2), (some (8, true)), []⟩,
   ⟨(some 11), .load false 1 (.t 10), (some (8, true)), []⟩,
   ⟨(some 12), .bin .geq (.t 9) (.t 11), (some (8, true)), []⟩,
   ⟨(some 13), .pick (.t 8) (.t 12) (.k (.b false)), none, []⟩,
   ⟨(some 14), .mv (.t 13), none, []⟩,
   ⟨(some 15), .mv (.t 1), (some (14, true)), []⟩,
   ⟨(some 16), .faddr 2 (.t 2), (some (14, true)), []⟩,
   ⟨(some 17), .load false 1 (.t 16), (some (14, true)), [14]⟩,
   ⟨(some 18), .faddr 1 (.t 2), (some (14, true)), []⟩,
   ⟨(some 19), .load false 1 (.t 18), (some (14, true)), [12]⟩,
   ⟨(some 20), .bin .shl (.k (.i .i64 1)) (.t 19), (some (14, true)), []⟩,
   ⟨(some 21), .bin .add (.t 17) (.t 20), (some (14, true)), []⟩,
   ⟨(some 22), .bin .lss (.t 15) (.t 21), (some (14, true)), []⟩,
   ⟨(some 23), .pick (.t 14) (.t 22) (.k (.b false)), none, []⟩,
   ⟨(some 4), .mv (.t 23), none, []⟩] true [1, 2, 5, 6, 7, 8, 9, 10, 11, 12, 13, 14, 15, 16, 17, 18, 19, 20, 21, 22, 23]) (
 .ret)))
 [.tmp 4]

/-- (reeve/state.State).owner -/
def m45 : MF := .code 2 (
 .seq (
 .reg [
   ⟨(some 2), .box (.t 0), none, []⟩,
   ⟨(some 3), .box (.t 1), none, []⟩,
   ⟨(some 4), .mv (.k (.i .i64 0)), none, []⟩] false [0, 1, 4]) (
 .seq (
 .reg [
   ⟨(some 5), .faddr 4 (.t 2), none, []⟩,
   ⟨(some 6), .load false 1 (.t 5), none, []⟩,
   ⟨(some 7), .mkfn 72 [(.t 3)], none, []⟩,
   ⟨(some 8), .call 46 [(.t 6), (.t 7)], none, []⟩,
   ⟨(some 4), .mv (.t 8), none, []⟩] false [2, 3, 5, 6, 7, 8]) (
 .ret)))
 [.tmp 4]

/-- slices.IndexFunc[[]reeve/thing.Thing,reeve/thing.Thing] -/
def m46 : MF := .code 2 (
 .seq (
 .reg [
   ⟨(some 4), .mv (.k (.i .i64 0)), none, []⟩] false [4]) (
 .seq (
 .seq (
 .reg [
   ⟨(some 6), .mv (.t 0), none, []⟩,
   ⟨(some 7), .len false (.t 6), none, []⟩,
   ⟨(some 8), .mv (.k (.i .i64 0)), none, []⟩] false [6]) (
 .block 0 (
  .loop 2 [0, 1, 7, 8] [4] (
   .seq (
   .reg [
     ⟨(some 9), .bin .lss (.t 8) (.t 7), none, []⟩] false []) (
   .seq (
   .cond (.t 9) (
    .skip) (
    .exit 0)) (
   .seq (
   .block 1 (
    .seq (
    .reg [
      ⟨(some 10), .mv (.t 8), none, []⟩,
      ⟨(some 5), .mv (.t 10), none, []⟩] false [10]) (
    .seq (
    .reg [
      ⟨(some 11), .mv (.t 1), none, []⟩,
      ⟨(some 12), .mv (.t 0), none, []⟩,
      ⟨(some 13), .mv (.t 5), none, []⟩,
      ⟨(some 14), .iaddr 13 (.t 12) (.t 13), none, []⟩,
      ⟨(some 15), .load true 13 (.t 14), none, []⟩,
      ⟨(some 16), .callv (.t 11) [(.t 15)], none, []⟩] false [11, 12, 13, 14, 15]) (
    .cond (.t 16) (
     .seq (
     .reg [
       ⟨(some 17), .mv (.t 5), none, []⟩,
       ⟨(some 4), .mv (.t 17), none, []⟩] false [5, 17]) (
     .ret)) (
     .skip))))) (
   .reg [
     ⟨(some 18), .bin .add (.t 8) (.k (.i .i64 1)), none, []⟩,
     ⟨(some 8), .mv (.t 18), none, []⟩] false [18]))))))) (
 .seq (
 .reg [
   ⟨(some 4), .mv (.k (.i .i64 (-1))), none, []⟩] false []) (
 .ret))))
 [.tmp 4]

/-- (reeve/state.State).owner$1 -/
def m72 : MF := .code 2 (
 .seq (
 .reg [
   ⟨(some 2), .box (.t 0), none, []⟩,
   ⟨(some 3), .mv (.k (.b false)), none, []⟩] false [0, 3]) (
 .seq (
 .reg [
   ⟨(some 4), .load true 13 (.t 2), none, []⟩,
   ⟨(some 5), .load false 1 (.t 1), none, []⟩,
   ⟨(some 6), .call 73 [(.t 4), (.t 5)], none, []⟩,
   ⟨(some 3), .mv (.t 6), none, []⟩] false [1, 2, 4, 5, 6]) (
 .ret)))
 [.tmp 3]

/-- reeve/state.Forest -/
def m25 : MF := .code 1 (
 .seq (
 .reg [
   ⟨(some 1), .box (.t 0), none, []⟩,
   ⟨(some 2), .alloc [.lst true true 0 []], none, []⟩] false [0]) (
 .seq (
 .reg [
   ⟨(some 3), .alloc [.lst true true 0 []], none, []⟩] false []) (
 .seq (
 .seq (
 .reg [
   ⟨(some 6), .faddr 3 (.t 1), none, []⟩,
   ⟨(some 7), .load false 1 (.t 6), none, []⟩,
   ⟨(some 8), .len false (.t 7), none, []⟩,
   ⟨(some 9), .mv (.k (.i .i64 0)), none, []⟩] false [1, 6]) (
 .block 0 (
  .loop 3 [2, 3, 7, 8, 9] [2, 3] (
   .seq (
   .reg [
     ⟨(some 10), .bin .lss (.t 9) (.t 8), none, []⟩] false []) (
   .seq (
   .cond (.t 10) (
    .skip) (
    .exit 0)) (
   .seq (
   .block 1 (
    .seq (
    .reg [
      ⟨(some 11), .iaddr 5 (.t 7) (.t 9), none, []⟩,
      ⟨(some 12), .load true 5 (.t 11), none, []⟩,
      ⟨(some 5), .alloc [.i .i64 0, .i .i64 0, .i .i64 0, .i .i64 0, .i .i64 0], none, []⟩,
      ⟨none, .store 5 (.t 5) (.t 12), none, []⟩] false [11, 12]) (
    .seq (
    .seq (
    .reg [
      ⟨(some 13), .faddr 0 (.t 5), none, []⟩,
      ⟨(some 14), .load true 4 (.t 13), none, []⟩,
      ⟨(some 15), .call 12 [(.t 14)], none, []⟩] false [13, 14]) (
    .cond (.t 15) (
     .reg [
       ⟨(some 16), .faddr 4 (.t 5), none, []⟩,
       ⟨none, .store 1 (.t 16) (.k (.i .i64 (-2))), none, []⟩] false [16]) (
     .skip))) (
    .reg [
      ⟨(some 17), .faddr 0 (.t 3), none, []⟩,
      ⟨(some 18), .load false 1 (.t 17), none, []⟩,
      ⟨(some 19), .faddr 4 (.t 5), none, []⟩,
      ⟨(some 20), .load false 1 (.t 19), none, []⟩,
      ⟨(some 21), .bsl [.i .i64 0] 1 [(0, (.t 20))], none, []⟩,
      ⟨(some 22), .append 1 (.t 18) (.t 21), none, []⟩,
      ⟨(some 23), .faddr 0 (.t 3), none, []⟩,
      ⟨none, .store 1 (.t 23) (.t 22), none, []⟩] false [5, 17, 18, 19, 20, 21, 22, 23])))) (
   .reg [
     ⟨(some 24), .bin .add (.t 9) (.k (.i .i64 1)), none, []⟩,
     ⟨(some 9), .mv (.t 24), none, []⟩] false [24]))))))) (
 .seq (
 .reg [
   ⟨(some 25), .load true 1 (.t 3), none, []⟩,
   ⟨none, .store 1 (.t 2) (.t 25), none, []⟩] false [3, 25]) (
 .ret)))))
 [.cell true 1 2]

/-- reeve/forest.Good -/
def m27 : MF := .code 1 (
 .seq (
 .reg [
   ⟨(some 1), .box (.t 0), none, []⟩,
   ⟨(some 2), .mv (.k (.b false)), none, []⟩] false [0, 2]) (
 .seq (
 .seq (
 .reg [
   ⟨(some 8), .faddr 0 (.t 1), none, []⟩,
   ⟨(some 9), .load false 1 (.t 8), none, []⟩,
   ⟨(some 10), .len false (.t 9), none, []⟩,
   ⟨(some 11), .bin .gtr (.t 10) (.k (.i .i64 96)), none, []⟩] false [8, 9, 10]) (
 .cond (.t 11) (
  .seq (
  .reg [
    ⟨(some 2), .mv (.k (.b false)), none, []⟩] false []) (
  .ret)) (
  .skip))) (
 .seq (
 .seq (
 .reg [
   ⟨(some 12), .faddr 0 (.t 1), none, []⟩,
   ⟨(some 13), .load false 1 (.t 12), none, []⟩,
   ⟨(some 14), .len false (.t 13), none, []⟩,
   ⟨(some 15), .mv (.k (.i .i64 0)), none, []⟩] false [12]) (
 .block 0 (
  .loop 4 [1, 13, 14, 15] [1, 2] (
   .seq (
   .reg [
     ⟨(some 16), .bin .lss (.t 15) (.t 14), none, []⟩] false []) (
   .seq (
   .cond (.t 16) (
    .skip) (
    .exit 0)) (
   .seq (
   .block 1 (
    .seq (
    .reg [
      ⟨(some 17), .iaddr 1 (.t 13) (.t 15), none, []⟩,
      ⟨(some 18), .load false 1 (.t 17), none, []⟩,
      ⟨(some 4), .mv (.t 18), none, []⟩] false [17, 18]) (
    .seq (
    .reg [
      ⟨(some 19), .mv (.t 4), none, []⟩,
      ⟨(some 20), .bin .neq (.t 19) (.k (.i .i64 (-2))), none, []⟩,
      ⟨(some 21), .mv (.t 20), none, []⟩,
      ⟨(some 22), .mv (.t 4), (some (21, true)), []⟩,
      ⟨(some 23), .bin .neq (.t 22) (.k (.i .i64 (-1))), (some (21, true)), []⟩,
      ⟨(some 24), .pick (.t 21) (.t 23) (.k (.b false)), none, []⟩,
      ⟨(some 25), .mv (.t 24), none, []⟩,
      ⟨(some 26), .load true 1 (.t 1), (some (25, true)), []⟩,
      ⟨(some 27), .mv (.t 4), (some (25, true)), []⟩,
      ⟨(some 28), .call 53 [(.t 26), (.t 27)], (some (25, true)), []⟩,
      ⟨(some 29), .un .not (.t 28), (some (25, true)), []⟩,
      ⟨(some 30), .pick (.t 25) (.t 29) (.k (.b false)), none, []⟩] false [4, 19, 20, 21, 22, 23, 24, 25, 26, 27, 28, 29]) (
    .cond (.t 30) (
     .seq (
     .reg [
       ⟨(some 2), .mv (.k (.b false)), none, []⟩] false []) (
     .ret)) (
     .skip))))) (
   .reg [
     ⟨(some 31), .bin .add (.t 15) (.k (.i .i64 1)), none, []⟩,
     ⟨(some 15), .mv (.t 31), none, []⟩] false [31]))))))) (
 .seq (
 .seq (
 .reg [
   ⟨(some 32), .faddr 0 (.t 1), none, []⟩,
   ⟨(some 33), .load false 1 (.t 32), none, []⟩,
   ⟨(some 34), .len false (.t 33), none, []⟩,
   ⟨(some 35), .mv (.k (.i .i64 0)), none, []⟩] false [32, 33]) (
 .block 2 (
  .loop 10 [1, 34, 35] [2] (
   .seq (
   .reg [
     ⟨(some 36), .bin .lss (.t 35) (.t 34), none, []⟩] false []) (
   .seq (
   .cond (.t 36) (
    .skip) (
    .exit 2)) (
   .seq (
   .block 3 (
    .seq (
    .reg [
      ⟨(some 37), .mv (.t 35), none, []⟩,
      ⟨(some 5), .mv (.t 37), none, []⟩] false [37]) (
    .seq (
    .reg [
      ⟨(some 6), .mv (.k (.i .i64 0)), none, []⟩] false []) (
    .seq (
    .reg [
      ⟨(some 38), .mv (.t 5), none, []⟩,
      ⟨(some 7), .mv (.t 38), none, []⟩] false [5, 38]) (
    .block 4 (
     .loop 14 [1, 6, 7, 34, 35] [1, 2, 34, 35] (
      .seq (
      .seq (
      .reg [
        ⟨(some 39), .load true 1 (.t 1), none, []⟩,
        ⟨(some 40), .mv (.t 7), none, []⟩,
        ⟨(some 41), .call 53 [(.t 39), (.t 40)], none, []⟩] false [39, 40]) (
      .cond (.t 41) (
       .skip) (
       .exit 4))) (
      .seq (
      .block 5 (
       .seq (
       .seq (
       .reg [
         ⟨(some 47), .mv (.t 6), none, []⟩,
         ⟨(some 48), .faddr 0 (.t 1), none, []⟩,
         ⟨(some 49), .load false 1 (.t 48), none, []⟩,
         ⟨(some 50), .len false (.t 49), none, []⟩,
         ⟨(some 51), .bin .gtr (.t 47) (.t 50), none, []⟩] false [47, 48, 49, 50]) (
       .cond (.t 51) (
        .seq (
        .reg [
          ⟨(some 2), .mv (.k (.b false)), none, []⟩] false []) (
        .ret)) (
        .skip))) (
       .reg [
         ⟨(some 52), .mv (.t 6), none, []⟩,
         ⟨(some 53), .bin .add (.t 52) (.k (.i .i64 1)), none, []⟩,
         ⟨(some 6), .mv (.t 53), none, []⟩] false [52, 53]))) (
      .reg [
        ⟨(some 42), .faddr 0 (.t 1), none, []⟩,
        ⟨(some 43), .load false 1 (.t 42), none, []⟩,
        ⟨(some 44), .mv (.t 7), none, []⟩,
        ⟨(some 45), .iaddr 1 (.t 43) (.t 44), none, []⟩,
        ⟨(some 46), .load false 1 (.t 45), none, []⟩,
        ⟨(some 7), .mv (.t 46), none, []⟩] false [42, 43, 44, 45, 46]))))))))) (
   .reg [
     ⟨(some 54), .bin .add (.t 35) (.k (.i .i64 1)), none, []⟩,
     ⟨(some 35), .mv (.t 54), none, []⟩] false [54]))))))) (
 .seq (
 .reg [
   ⟨(some 2), .mv (.k (.b true)), none, []⟩] false []) (
 .ret))))))
 [.tmp 2]

/-- (reeve/state.State).allowed -/
def m41 : MF := .code 1 (
 .seq (
 .reg [
   ⟨(some 1), .box (.t 0), none, []⟩,
   ⟨(some 2), .mv (.k (.b false)), none, []⟩] false [0, 2]) (
 .seq (
 .seq (
 .reg [
   ⟨(some 7), .faddr 3 (.t 1), none, []⟩,
   ⟨(some 8), .load false 1 (.t 7), none, []⟩,
   ⟨(some 9), .len false (.t 8), none, []⟩,
   ⟨(some 10), .mv (.k (.i .i64 0)), none, []⟩] false [7]) (
 .block 0 (
  .loop 2 [1, 8, 9, 10] [2] (
   .seq (
   .reg [
     ⟨(some 11), .bin .lss (.t 10) (.t 9), none, []⟩] false []) (
   .seq (
   .cond (.t 11) (
    .skip) (
    .exit 0)) (
   .seq (
   .block 1 (
    .seq (
    .reg [
      ⟨(some 12), .iaddr 5 (.t 8) (.t 10), none, []⟩,
      ⟨(some 13), .load true 5 (.t 12), none, []⟩,
      ⟨(some 4), .alloc [.i .i64 0, .i .i64 0, .i .i64 0, .i .i64 0, .i .i64 0], none, []⟩,
      ⟨none, .store 5 (.t 4) (.t 13), none, []⟩] false [12, 13]) (
    .seq (
    .reg [
      ⟨(some 14), .faddr 4 (.t 4), none, []⟩,
      ⟨(some 15), .load false 1 (.t 14), none, []⟩,
      ⟨(some 5), .mv (.t 15), none, []⟩] false [14, 15]) (
    .seq (
    .reg [
      ⟨(some 16), .faddr 3 (.t 1), none, []⟩,
      ⟨(some 17), .load false 1 (.t 16), none, []⟩,
      ⟨(some 18), .len false (.t 17), none, []⟩,
      ⟨(some 19), .mv (.k (.i .i64 0)), none, []⟩] false [16, 17]) (
    .block 2 (
     .loop 6 [1, 4, 5, 8, 9, 10, 18, 19] [1, 2, 8, 9, 10] (
      .seq (
      .reg [
        ⟨(some 20), .bin .lss (.t 19) (.t 18), none, []⟩] false []) (
      .seq (
      .cond (.t 20) (
       .skip) (
       .exit 2)) (
      .seq (
      .block 3 (
       .seq (
       .seq (
       .reg [
         ⟨(some 21), .mv (.t 5), none, []⟩,
         ⟨(some 22), .bin .lss (.t 21) (.k (.i .i64 0)), none, []⟩] false [21]) (
       .cond (.t 22) (
        .exit 2) (
        .skip))) (
       .seq (
       .reg [
         ⟨(some 23), .faddr 3 (.t 1), none, []⟩,
         ⟨(some 24), .load false 1 (.t 23), none, []⟩,
         ⟨(some 25), .mv (.t 5), none, []⟩,
         ⟨(some 26), .iaddr 5 (.t 24) (.t 25), none, []⟩,
         ⟨(some 27), .load true 5 (.t 26), none, []⟩,
         ⟨(some 6), .alloc [.i .i64 0, .i .i64 0, .i .i64 0, .i .i64 0, .i .i64 0], none, []⟩,
         ⟨none, .store 5 (.t 6) (.t 27), none, []⟩] false [5, 23, 24, 25, 26, 27]) (
       .seq (
       .seq (
       .reg [
         ⟨(some 28), .faddr 0 (.t 4), none, []⟩,
         ⟨(some 29), .load true 4 (.t 28), none, []⟩,
         ⟨(some 30), .faddr 0 (.t 6), none, []⟩,
         ⟨(some 31), .load true 4 (.t 30), none, []⟩,
         ⟨(some 32), .call 71 [(.t 29), (.t 31)], none, []⟩,
         ⟨(some 33), .un .not (.t 32), none, []⟩,
         ⟨(some 34), .mv (.t 33), none, []⟩,
         ⟨(some 35), .faddr 0 (.t 6), (some (34, true)), []⟩,
         ⟨(some 36), .faddr 0 (.t 35), (some (34, true)), []⟩,
         ⟨(some 37), .load false 1 (.t 36), (some (34, true)), []⟩,
         ⟨(some 38), .bin .neq (.t 37) (.k (.i .i64 1)), (some (34, true)), []⟩,
         ⟨(some 39), .mv (.t 38), (some (34, true)), []⟩,
         ⟨(some 40), .faddr 0 (.t 4), (some (39, false)), []⟩,
         ⟨(some 41), .faddr 1 (.t 40), (some (39, false)), []⟩,
         ⟨(some 42), .load false 1 (.t 41), (some (39, false)), []⟩,
         ⟨(some 43), .faddr 0 (.t 6), (some (39, false)), []⟩,
         ⟨(some 44), .faddr 1 (.t 43), (some (39, false)), []⟩,
         ⟨(some 45), .load false 1 (.t 44), (some (39, false)), []⟩,
         ⟨(some 46), .bin .eql (.t 42) (.t 45), (some (39, false)), []⟩,
         ⟨(some 47), .pick (.t 39) (.k (.b true)) (.t 46), (some (34, true)), []⟩,
         ⟨(some 48), .pick (.t 34) (.t 47) (.k (.b false)), none, []⟩] false [28, 29, 30, 31, 32, 33, 34, 35, 36, 37, 38, 39, 40, 41, 42, 43, 44, 45, 46, 47]) (
       .cond (.t 48) (
        .seq (
        .reg [
          ⟨(some 2), .mv (.k (.b false)), none, []⟩] false []) (
        .ret)) (
        .skip))) (
       .reg [
         ⟨(some 49), .faddr 4 (.t 6), none, []⟩,
         ⟨(some 50), .load false 1 (.t 49), none, []⟩,
         ⟨(some 5), .mv (.t 50), none, []⟩] false [6, 49, 50]))))) (
      .reg [
        ⟨(some 51), .bin .add (.t 19) (.k (.i .i64 1)), none, []⟩,
        ⟨(some 19), .mv (.t 51), none, []⟩] false [51])))))))))) (
   .reg [
     ⟨(some 52), .bin .add (.t 10) (.k (.i .i64 1)), none, []⟩,
     ⟨(some 10), .mv (.t 52), none, []⟩] false [52]))))))) (
 .seq (
 .reg [
   ⟨(some 2), .mv (.k (.b true)), none, []⟩] false []) (
 .ret))))
 [.tmp 2]

/-- reeve/cap.Less -/
def m71 : MF := .code 2 (
 .seq (
 .reg [
   ⟨(some 2), .box (.t 0), none, []⟩,
   ⟨(some 3), .box (.t 1), none, []⟩,
   ⟨(some 4), .mv (.k (.b false)), none, []⟩] false [0, 1, 4]) (
 .seq (
 .seq (
 .reg [
   ⟨(some 5), .load true 4 (.t 2), none, []⟩,
   ⟨(some 6), .call 12 [(.t 5)], none, []⟩] false [5]) (
 .cond (.t 6) (
  .seq (
  .reg [
    ⟨(some 4), .mv (.k (.b true)), none, []⟩] false []) (
  .ret)) (
  .skip))) (
 .seq (
 .reg [
   ⟨(some 7), .faddr 0 (.t 2), none, []⟩,
   ⟨(some 8), .load false 1 (.t 7), none, []⟩,
   ⟨(some 9), .faddr 0 (.t 3), none, []⟩,
   ⟨(some 10), .load false 1 (.t 9), none, []⟩,
   ⟨(some 11), .bin .eql (.t 8) (.t 10), none, []⟩,
   ⟨(some 12), .mv (.t 11), none, []⟩,
   ⟨(some 13), .faddr 1 (.t 2), (some (12, true)), []⟩,
   ⟨(some 14), .load false 1 (.t 13), (some (12, true)), []⟩,
   ⟨(some 15), .faddr 1 (.t 3), (some (12, true)), []⟩,
   ⟨(some 16), .load false 1 (.t 15), (some (12, true)), []⟩,
   ⟨(some 17), .bin .eql (.t 14) (.t 16), (some (12, true)), []⟩,
   ⟨(some 18), .pick (.t 12) (.t 17) (.k (.b false)), none, []⟩,
   ⟨(some 19), .mv (.t 18), none, []⟩,
   ⟨(some 20), .faddr 2 (.t 2), (some (19, true)), []⟩,
   ⟨(some 21), .load false 1 (.t 20), (some (19, true)), []⟩,
   ⟨(some 22), .faddr 2 (.t 3), (some (19, true)), []⟩,
   ⟨(some 23), .load false 1 (.t 22), (some (19, true)), []⟩,
   ⟨(some 24), .call 84 [(.t 21), (.t 23)], (some (19, true)), []⟩,
   ⟨(some 25), .pick (.t 19) (.t 24) (.k (.b false)), none, []⟩,
   ⟨(some 26), .mv (.t 25), none, []⟩,
   ⟨(some 27), .faddr 3 (.t 3), (some (26, true)), []⟩,
   ⟨(some 28), .load false 1 (.t 27), (some (26, true)), []⟩,
   ⟨(some 29), .bin .eql (.t 28) (.k (.i .i64 0)), (some (26, true)), []⟩,
   ⟨(some 30), .mv (.t 29), (some (26, true)), []⟩,
   ⟨(some 31), .faddr 3 (.t 3), (some (30, false)), []⟩,
   ⟨(some 32), .load false 1 (.t 31), (some (30, false)), []⟩,
   ⟨(some 33), .faddr 3 (.t 2), (some (30, false)), []⟩,
   ⟨(some 34), .load false 1 (.t 33), (some (30, false)), []⟩,
   ⟨(some 35), .bin .eql (.t 32) (.t 34), (some (30, false)), []⟩,
   ⟨(some 36), .pick (.t 30) (.k (.b true)) (.t 35), (some (26, true)), []⟩,
   ⟨(some 37), .pick (.t 26) (.t 36) (.k (.b false)), none, []⟩,
   ⟨(some 4), .mv (.t 37), none, []⟩] false [2, 3, 7, 8, 9, 10, 11, 12, 13, 14, 15, 16, 17, 18, 19, 20, 21, 22, 23, 24, 25, 26, 27, 28, 29, 30, 31, 32, 33, 34, 35, 36, 37]) (
 .ret))))
 [.tmp 4]

/-- reeve/right.Within -/
def m84 : MF := .code 2 (
 .seq (
 .reg [
   ⟨(some 4), .mv (.k (.b false)), none, []⟩] false [4]) (
 .seq (
 .reg [
   ⟨(some 5), .mv (.t 0), none, []⟩,
   ⟨(some 6), .mv (.t 1), none, []⟩,
   ⟨(some 7), .call 86 [(.t 5), (.t 6)], none, []⟩,
   ⟨(some 8), .bin .eql (.t 7) (.k (.i .i64 0)), none, []⟩,
   ⟨(some 4), .mv (.t 8), none, []⟩] false [0, 1, 5, 6, 7, 8]) (
 .ret)))
 [.tmp 4]

/-- reeve/right.Less -/
def m86 : MF := .code 2 (
 .seq (
 .reg [
   ⟨(some 4), .mv (.k (.i .i64 0)), none, []⟩] false [4]) (
 .seq (
 .reg [
   ⟨(some 5), .mv (.t 0), none, []⟩,
   ⟨(some 6), .call 89 [(.t 5)], none, []⟩,
   ⟨(some 7), .mv (.t 1), none, []⟩,
   ⟨(some 8), .call 89 [(.t 7)], none, []⟩,
   ⟨(some 9), .bin .andNot (.t 6) (.t 8), none, []⟩,
   ⟨(some 4), .mv (.t 9), none, []⟩] false [0, 1, 5, 6, 7, 8, 9]) (
 .ret)))
 [.tmp 4]

/-- reeve/right.of -/
def m89 : MF := .code 1 (
 .seq (
 .reg [
   ⟨(some 2), .mv (.k (.i .i64 0)), none, []⟩] false [2]) (
 .seq (
 .seq (
 .reg [
   ⟨(some 3), .mv (.t 0), none, []⟩,
   ⟨(some 4), .call 79 [(.t 3)], none, []⟩,
   ⟨(some 5), .un .not (.t 4), none, []⟩] false [3, 4]) (
 .cond (.t 5) (
  .seq (
  .reg [
    ⟨(some 2), .mv (.k (.i .i64 0)), none, []⟩] false []) (
  .ret)) (
  .skip))) (
 .seq (
 .reg [
   ⟨(some 6), .mv (.t 0), none, []⟩,
   ⟨(some 2), .mv (.t 6), none, []⟩] false [0, 6]) (
 .ret))))
 [.tmp 2]

/-- (reeve/forest.Forest).is -/
def m53 : MF := .code 2 (
 .seq (
 .reg [
   ⟨(some 2), .box (.t 0), none, []⟩,
   ⟨(some 4), .mv (.k (.b false)), none, []⟩] false [0, 4]) (
 .seq (
 .reg [
   ⟨(some 5), .mv (.t 1), none, []⟩,
   ⟨(some 6), .bin .geq (.t 5) (.k (.i .i64 0)), none, []⟩,
   ⟨(some 7), .mv (.t 6), none, []⟩,
   ⟨(some 8), .mv (.t 1), (some (7, true)), []⟩,
   ⟨(some 9), .faddr 0 (.t 2), (some (7, true)), []⟩,
   ⟨(some 10), .load false 1 (.t 9), (some (7, true)), []⟩,
   ⟨(some 11), .len false (.t 10), (some (7, true)), []⟩,
   ⟨(some 12), .bin .lss (.t 8) (.t 11), (some (7, true)), []⟩,
   ⟨(some 13), .pick (.t 7) (.t 12) (.k (.b false)), none, []⟩,
   ⟨(some 14), .mv (.t 13), none, []⟩,
   ⟨(some 15), .faddr 0 (.t 2), (some (14, true)), []⟩,
   ⟨(some 16), .load false 1 (.t 15), (some (14, true)), []⟩,
   ⟨(some 17), .mv (.t 1), (some (14, true)), []⟩,
   ⟨(some 18), .iaddr 1 (.t 16) (.t 17), (some (14, true)), []⟩,
   ⟨(some 19), .load false 1 (.t 18), (some (14, true)), []⟩,
   ⟨(some 20), .bin .neq (.t 19) (.k (.i .i64 (-2))), (some (14, true)), []⟩,
   ⟨(some 21), .pick (.t 14) (.t 20) (.k (.b false)), none, []⟩,
   ⟨(some 4), .mv (.t 21), none, []⟩] false [1, 2, 5, 6, 7, 8, 9, 10, 11, 12, 13, 14, 15, 16, 17, 18, 19, 20, 21]) (
 .ret)))
 [.tmp 4]

/-- reeve/reevelaw12.StateSame -/
def m6 : MF := .code 3 (
 .seq (
 .reg [
   ⟨(some 3), .box (.t 0), none, []⟩,
   ⟨(some 4), .box (.t 1), none, []⟩,
   ⟨(some 6), .mv (.k (.b false)), none, []⟩] false [0, 1, 6]) (
 .seq (
 .seq (
 .reg [
   ⟨(some 9), .call 9 [], none, []⟩,
   ⟨(some 10), .un .not (.t 9), none, []⟩] false [9]) (
 .cond (.t 10) (
  .seq (
  .reg [
    ⟨(some 6), .mv (.k (.b false)), none, []⟩] false []) (
  .ret)) (
  .skip))) (
 .seq (
 .seq (
 .reg [
   ⟨(some 11), .load true 5 (.t 3), none, []⟩,
   ⟨(some 12), .call 10 [(.t 11)], none, []⟩,
   ⟨(some 13), .mv (.t 12), none, []⟩,
   ⟨(some 14), .load true 5 (.t 4), (some (13, false)), []⟩,
   ⟨(some 15), .call 10 [(.t 14)], (some (13, false)), []⟩,
   ⟨(some 16), .pick (.t 13) (.k (.b true)) (.t 15), none, []⟩] false [11, 12, 13, 14, 15]) (
 .cond (.t 16) (
  .seq (
  .reg [
    ⟨(some 6), .mv (.k (.b true)), none, []⟩] false []) (
  .ret)) (
  .skip))) (
 .seq (
 .seq (
 .reg [
   ⟨(some 17), .load true 5 (.t 3), none, [1, 3, 5]⟩,
   ⟨(some 18), .load true 5 (.t 4), none, [0, 3, 5]⟩,
   ⟨(some 19), .call 20 [(.t 17), (.t 18)], none, [3, 5]⟩,
   ⟨(some 20), .load true 5 (.t 3), none, [0, 1, 2, 5]⟩,
   ⟨(some 21), .call 22 [(.t 20)], none, [5]⟩,
   ⟨(some 22), .load true 5 (.t 4), none, [0, 1, 2, 3, 4]⟩,
   ⟨(some 23), .call 22 [(.t 22)], none, []⟩,
   ⟨(some 24), .call 21 [(.t 21), (.t 23)], none, []⟩,
   ⟨(some 25), .eq true false [.b] (.t 19) (.t 24), none, []⟩] true [4, 17, 18, 19, 20, 21, 22, 23, 24]) (
 .cond (.t 25) (
  .seq (
  .reg [
    ⟨(some 6), .mv (.k (.b false)), none, []⟩] false []) (
  .ret)) (
  .skip))) (
 .seq (
 .reg [
   ⟨(some 26), .load true 5 (.t 3), none, []⟩,
   ⟨(some 27), .call 23 [(.t 26)], none, []⟩,
   ⟨(some 7), .alloc [.i .i64 0, .i .i64 0, .i .i64 0, .lst true true 0 [], .lst true true 0 []], none, []⟩,
   ⟨none, .store 5 (.t 7) (.t 27), none, []⟩] false [26, 27]) (
 .seq (
 .seq (
 .reg [
   ⟨(some 28), .mv (.t 2), none, []⟩,
   ⟨(some 29), .bin .lss (.t 28) (.k (.i .i64 0)), none, []⟩,
   ⟨(some 30), .mv (.t 29), none, []⟩,
   ⟨(some 31), .mv (.t 2), (some (30, false)), []⟩,
   ⟨(some 32), .faddr 3 (.t 7), (some (30, false)), []⟩,
   ⟨(some 33), .load false 1 (.t 32), (some (30, false)), []⟩,
   ⟨(some 34), .len false (.t 33), (some (30, false)), []⟩,
   ⟨(some 35), .bin .geq (.t 31) (.t 34), (some (30, false)), []⟩,
   ⟨(some 36), .pick (.t 30) (.k (.b true)) (.t 35), none, []⟩,
   ⟨(some 37), .mv (.t 36), none, []⟩,
   ⟨(some 38), .mv (.t 2), (some (37, false)), []⟩,
   ⟨(some 39), .faddr 3 (.t 3), (some (37, false)), []⟩,
   ⟨(some 40), .load false 1 (.t 39), (some (37, false)), []⟩,
   ⟨(some 41), .len false (.t 40), (some (37, false)), []⟩,
   ⟨(some 42), .bin .geq (.t 38) (.t 41), (some (37, false)), []⟩,
   ⟨(some 43), .pick (.t 37) (.k (.b true)) (.t 42), none, []⟩] false [28, 29, 30, 31, 32, 33, 34, 35, 36, 37, 38, 39, 40, 41, 42]) (
 .cond (.t 43) (
  .seq (
  .reg [
    ⟨(some 44), .load true 5 (.t 7), none, []⟩,
    ⟨(some 45), .load true 5 (.t 3), none, []⟩,
    ⟨(some 46), .call 20 [(.t 44), (.t 45)], none, []⟩,
    ⟨(some 6), .mv (.t 46), none, []⟩] false [3, 7, 44, 45, 46]) (
  .ret)) (
  .skip))) (
 .seq (
 .reg [
   ⟨(some 47), .faddr 3 (.t 3), none, []⟩,
   ⟨(some 48), .load false 1 (.t 47), none, []⟩,
   ⟨(some 49), .mv (.t 2), none, []⟩,
   ⟨(some 50), .iaddr 5 (.t 48) (.t 49), none, []⟩,
   ⟨(some 51), .load true 5 (.t 50), none, []⟩,
   ⟨(some 8), .alloc [.i .i64 0, .i .i64 0, .i .i64 0, .i .i64 0, .i .i64 0], none, []⟩,
   ⟨none, .store 5 (.t 8) (.t 51), none, []⟩] false [47, 48, 49, 50, 51]) (
 .seq (
 .reg [
   ⟨(some 52), .faddr 3 (.t 7), none, []⟩,
   ⟨(some 53), .load false 1 (.t 52), none, [4, 8]⟩,
   ⟨(some 54), .mv (.t 2), none, []⟩,
   ⟨(some 55), .faddr 3 (.t 7), none, []⟩,
   ⟨(some 56), .load false 1 (.t 55), none, [1]⟩,
   ⟨(some 57), .mv (.t 2), none, []⟩,
   ⟨(some 58), .iaddr 5 (.t 56) (.t 57), none, []⟩,
   ⟨(some 59), .faddr 4 (.t 58), none, []⟩,
   ⟨(some 60), .load false 1 (.t 59), none, [1]⟩,
   ⟨(some 61), .bin .add (.t 60) (.k (.i .i64 1)), none, []⟩,
   ⟨(some 62), .iaddr 5 (.t 53) (.t 54), none, []⟩,
   ⟨(some 63), .faddr 4 (.t 62), none, []⟩,
   ⟨none, .store 1 (.t 63) (.t 61), none, []⟩] true [52, 53, 54, 55, 56, 57, 58, 59, 60, 61, 62, 63]) (
 .seq (
 .reg [
   ⟨(some 64), .faddr 3 (.t 3), none, []⟩,
   ⟨(some 65), .load false 1 (.t 64), none, [5]⟩,
   ⟨(some 66), .mv (.t 2), none, []⟩,
   ⟨(some 67), .iaddr 5 (.t 65) (.t 66), none, []⟩,
   ⟨(some 68), .load true 5 (.t 67), none, [5]⟩,
   ⟨(some 69), .load true 5 (.t 8), none, [1, 4]⟩,
   ⟨(some 70), .eq false true [.i, .i, .i, .i, .i] (.t 68) (.t 69), none, []⟩,
   ⟨(some 71), .mv (.t 70), none, []⟩,
   ⟨(some 72), .load true 5 (.t 3), (some (71, true)), [9]⟩,
   ⟨(some 73), .load true 5 (.t 7), (some (71, true)), [8]⟩,
   ⟨(some 74), .call 20 [(.t 72), (.t 73)], (some (71, true)), []⟩,
   ⟨(some 75), .un .not (.t 74), (some (71, true)), []⟩,
   ⟨(some 76), .pick (.t 71) (.t 75) (.k (.b false)), none, []⟩,
   ⟨(some 6), .mv (.t 76), none, []⟩] true [2, 3, 7, 8, 64, 65, 66, 67, 68, 69, 70, 71, 72, 73, 74, 75, 76]) (
 .ret))))))))))
 [.tmp 6]

/-- reeve/reevelaw12.heavy -/
def m10 : MF := .code 1 (
 .seq (
 .reg [
   ⟨(some 1), .box (.t 0), none, []⟩,
   ⟨(some 2), .mv (.k (.b false)), none, []⟩] false [0, 2]) (
 .seq (
 .reg [
   ⟨(some 3), .faddr 3 (.t 1), none, []⟩,
   ⟨(some 4), .load false 1 (.t 3), none, []⟩,
   ⟨(some 5), .len false (.t 4), none, []⟩,
   ⟨(some 6), .bin .gtr (.t 5) (.k (.i .i64 100)), none, []⟩,
   ⟨(some 7), .mv (.t 6), none, []⟩,
   ⟨(some 8), .faddr 4 (.t 1), (some (7, false)), []⟩,
   ⟨(some 9), .load false 1 (.t 8), (some (7, false)), []⟩,
   ⟨(some 10), .len false (.t 9), (some (7, false)), []⟩,
   ⟨(some 11), .bin .gtr (.t 10) (.k (.i .i64 50)), (some (7, false)), []⟩,
   ⟨(some 12), .pick (.t 7) (.k (.b true)) (.t 11), none, []⟩,
   ⟨(some 2), .mv (.t 12), none, []⟩] false [1, 3, 4, 5, 6, 7, 8, 9, 10, 11, 12]) (
 .ret)))
 [.tmp 2]

/-- reeve/state.Same -/
def m20 : MF := .code 2 (
 .seq (
 .reg [
   ⟨(some 2), .box (.t 0), none, []⟩,
   ⟨(some 3), .box (.t 1), none, []⟩,
   ⟨(some 4), .mv (.k (.b false)), none, []⟩] false [0, 1, 4]) (
 .seq (
 .reg [
   ⟨(some 5), .faddr 0 (.t 2), none, []⟩,
   ⟨(some 6), .load true 3 (.t 5), none, []⟩,
   ⟨(some 7), .faddr 0 (.t 3), none, []⟩,
   ⟨(some 8), .load true 3 (.t 7), none, []⟩,
   ⟨(some 9), .eq false true [.i, .i, .i] (.t 6) (.t 8), none, []⟩,
   ⟨(some 10), .mv (.t 9), none, []⟩,
   ⟨(some 11), .faddr 3 (.t 2), (some (10, true)), []⟩,
   ⟨(some 12), .load false 1 (.t 11), (some (10, true)), []⟩,
   ⟨(some 13), .faddr 3 (.t 3), (some (10, true)), []⟩,
   ⟨(some 14), .load false 1 (.t 13), (some (10, true)), []⟩,
   ⟨(some 15), .call 48 [(.t 12), (.t 14)], (some (10, true)), []⟩,
   ⟨(some 16), .pick (.t 10) (.t 15) (.k (.b false)), none, []⟩,
   ⟨(some 17), .mv (.t 16), none, []⟩,
   ⟨(some 18), .faddr 4 (.t 2), (some (17, true)), []⟩,
   ⟨(some 19), .load false 1 (.t 18), (some (17, true)), []⟩,
   ⟨(some 20), .faddr 4 (.t 3), (some (17, true)), []⟩,
   ⟨(some 21), .load false 1 (.t 20), (some (17, true)), []⟩,
   ⟨(some 22), .call 49 [(.t 19), (.t 21)], (some (17, true)), []⟩,
   ⟨(some 23), .pick (.t 17) (.t 22) (.k (.b false)), none, []⟩,
   ⟨(some 4), .mv (.t 23), none, []⟩] false [2, 3, 5, 6, 7, 8, 9, 10, 11, 12, 13, 14, 15, 16, 17, 18, 19, 20, 21, 22, 23]) (
 .ret)))
 [.tmp 4]

/-- slices.Equal[[]reeve/state.Slot,reeve/state.Slot] -/
def m48 : MF := .code 2 (
 .seq (
 .reg [
   ⟨(some 4), .mv (.k (.b false)), none, []⟩] false [4]) (
 .seq (
 .seq (
 .reg [
   ⟨(some 6), .mv (.t 0), none, []⟩,
   ⟨(some 7), .len false (.t 6), none, []⟩,
   ⟨(some 8), .mv (.t 1), none, []⟩,
   ⟨(some 9), .len false (.t 8), none, []⟩,
   ⟨(some 10), .bin .neq (.t 7) (.t 9), none, []⟩] false [6, 7, 8, 9]) (
 .cond (.t 10) (
  .seq (
  .reg [
    ⟨(some 4), .mv (.k (.b false)), none, []⟩] false []) (
  .ret)) (
  .skip))) (
 .seq (
 .seq (
 .reg [
   ⟨(some 11), .mv (.t 0), none, []⟩,
   ⟨(some 12), .len false (.t 11), none, []⟩,
   ⟨(some 13), .mv (.k (.i .i64 0)), none, []⟩] false [11]) (
 .block 0 (
  .loop 4 [0, 1, 12, 13] [4] (
   .seq (
   .reg [
     ⟨(some 14), .bin .lss (.t 13) (.t 12), none, []⟩] false []) (
   .seq (
   .cond (.t 14) (
    .skip) (
    .exit 0)) (
   .seq (
   .block 1 (
    .seq (
    .reg [
      ⟨(some 15), .mv (.t 13), none, []⟩,
      ⟨(some 5), .mv (.t 15), none, []⟩] false [15]) (
    .seq (
    .reg [
      ⟨(some 16), .mv (.t 0), none, []⟩,
      ⟨(some 17), .mv (.t 5), none, []⟩,
      ⟨(some 18), .iaddr 5 (.t 16) (.t 17), none, []⟩,
      ⟨(some 19), .load true 5 (.t 18), none, [7]⟩,
      ⟨(some 20), .mv (.t 1), none, []⟩,
      ⟨(some 21), .mv (.t 5), none, []⟩,
      ⟨(some 22), .iaddr 5 (.t 20) (.t 21), none, []⟩,
      ⟨(some 23), .load true 5 (.t 22), none, [3]⟩,
      ⟨(some 24), .eq true true [.i, .i, .i, .i, .i] (.t 19) (.t 23), none, []⟩] true [5, 16, 17, 18, 19, 20, 21, 22, 23]) (
    .cond (.t 24) (
     .seq (
     .reg [
       ⟨(some 4), .mv (.k (.b false)), none, []⟩] false []) (
     .ret)) (
     .skip))))) (
   .reg [
     ⟨(some 25), .bin .add (.t 13) (.k (.i .i64 1)), none, []⟩,
     ⟨(some 13), .mv (.t 25), none, []⟩] false [25]))))))) (
 .seq (
 .reg [
   ⟨(some 4), .mv (.k (.b true)), none, []⟩] false []) (
 .ret)))))
 [.tmp 4]

/-- slices.Equal[[]reeve/thing.Thing,reeve/thing.Thing] -/
def m49 : MF := .code 2 (
 .seq (
 .reg [
   ⟨(some 4), .mv (.k (.b false)), none, []⟩] false [4]) (
 .seq (
 .seq (
 .reg [
   ⟨(some 6), .mv (.t 0), none, []⟩,
   ⟨(some 7), .len false (.t 6), none, []⟩,
   ⟨(some 8), .mv (.t 1), none, []⟩,
   ⟨(some 9), .len false (.t 8), none, []⟩,
   ⟨(some 10), .bin .neq (.t 7) (.t 9), none, []⟩] false [6, 7, 8, 9]) (
 .cond (.t 10) (
  .seq (
  .reg [
    ⟨(some 4), .mv (.k (.b false)), none, []⟩] false []) (
  .ret)) (
  .skip))) (
 .seq (
 .seq (
 .reg [
   ⟨(some 11), .mv (.t 0), none, []⟩,
   ⟨(some 12), .len false (.t 11), none, []⟩,
   ⟨(some 13), .mv (.k (.i .i64 0)), none, []⟩] false [11]) (
 .block 0 (
  .loop 4 [0, 1, 12, 13] [4] (
   .seq (
   .reg [
     ⟨(some 14), .bin .lss (.t 13) (.t 12), none, []⟩] false []) (
   .seq (
   .cond (.t 14) (
    .skip) (
    .exit 0)) (
   .seq (
   .block 1 (
    .seq (
    .reg [
      ⟨(some 15), .mv (.t 13), none, []⟩,
      ⟨(some 5), .mv (.t 15), none, []⟩] false [15]) (
    .seq (
    .reg [
      ⟨(some 16), .mv (.t 0), none, []⟩,
      ⟨(some 17), .mv (.t 5), none, []⟩,
      ⟨(some 18), .iaddr 13 (.t 16) (.t 17), none, []⟩,
      ⟨(some 19), .load true 13 (.t 18), none, [7]⟩,
      ⟨(some 20), .mv (.t 1), none, []⟩,
      ⟨(some 21), .mv (.t 5), none, []⟩,
      ⟨(some 22), .iaddr 13 (.t 20) (.t 21), none, []⟩,
      ⟨(some 23), .load true 13 (.t 22), none, [3]⟩,
      ⟨(some 24), .eq true true [.i, .i, .i, .i, .i, .i, .i, .b, .i, .i, .i, .i, .i] (.t 19) (.t 23), none, []⟩] true [5, 16, 17, 18, 19, 20, 21, 22, 23]) (
    .cond (.t 24) (
     .seq (
     .reg [
       ⟨(some 4), .mv (.k (.b false)), none, []⟩] false []) (
     .ret)) (
     .skip))))) (
   .reg [
     ⟨(some 25), .bin .add (.t 13) (.k (.i .i64 1)), none, []⟩,
     ⟨(some 13), .mv (.t 25), none, []⟩] false [25]))))))) (
 .seq (
 .reg [
   ⟨(some 4), .mv (.k (.b true)), none, []⟩] false []) (
 .ret)))))
 [.tmp 4]

/-- reeve/reevelaw12.ownOf -/
def m22 : MF := .code 1 (
 .seq (
 .reg [
   ⟨(some 1), .box (.t 0), none, []⟩,
   ⟨(some 2), .alloc [.i .i64 0, .i .i64 0, .i .i64 0, .lst true true 0 [], .lst true true 0 []], none, []⟩] false [0]) (
 .seq (
 .reg [
   ⟨(some 7), .faddr 0 (.t 1), none, []⟩,
   ⟨(some 8), .faddr 0 (.t 7), none, []⟩,
   ⟨(some 9), .load false 1 (.t 8), none, []⟩,
   ⟨(some 10), .faddr 0 (.t 1), none, []⟩,
   ⟨(some 11), .faddr 1 (.t 10), none, []⟩,
   ⟨(some 12), .load false 1 (.t 11), none, []⟩,
   ⟨(some 13), .faddr 0 (.t 1), none, []⟩,
   ⟨(some 14), .faddr 2 (.t 13), none, []⟩,
   ⟨(some 15), .load false 1 (.t 14), none, []⟩,
   ⟨(some 16), .build [.i .i64 0, .i .i64 0, .i .i64 0] [(0, 1, (.t 9)), (1, 1, (.t 12)), (2, 1, (.t 15))], none, []⟩,
   ⟨(some 17), .build [.i .i64 0, .i .i64 0, .i .i64 0, .lst true true 0 [], .lst true true 0 []] [(0, 3, (.t 16))], none, []⟩,
   ⟨(some 3), .alloc [.i .i64 0, .i .i64 0, .i .i64 0, .lst true true 0 [], .lst true true 0 []], none, []⟩,
   ⟨none, .store 5 (.t 3) (.t 17), none, []⟩] false [7, 8, 9, 10, 11, 12, 13, 14, 15, 16, 17]) (
 .seq (
 .seq (
 .reg [
   ⟨(some 4), .mv (.k (.i .i64 0)), none, []⟩] false []) (
 .block 0 (
  .loop 3 [1, 2, 3, 4] [1, 2, 3] (
   .seq (
   .seq (
   .reg [
     ⟨(some 18), .mv (.t 4), none, []⟩,
     ⟨(some 19), .faddr 3 (.t 1), none, []⟩,
     ⟨(some 20), .load false 1 (.t 19), none, []⟩,
     ⟨(some 21), .len false (.t 20), none, []⟩,
     ⟨(some 22), .bin .lss (.t 18) (.t 21), none, []⟩] false [18, 19, 20, 21]) (
   .cond (.t 22) (
    .skip) (
    .exit 0))) (
   .seq (
   .block 1 (
    .seq (
    .reg [
      ⟨(some 25), .faddr 3 (.t 1), none, []⟩,
      ⟨(some 26), .load false 1 (.t 25), none, []⟩,
      ⟨(some 27), .mv (.t 4), none, []⟩,
      ⟨(some 28), .iaddr 5 (.t 26) (.t 27), none, []⟩,
      ⟨(some 29), .faddr 0 (.t 28), none, []⟩,
      ⟨(some 30), .load true 4 (.t 29), none, []⟩,
      ⟨(some 5), .alloc [.i .i64 0, .i .i64 0, .i .i64 0, .i .i64 0], none, []⟩,
      ⟨none, .store 4 (.t 5) (.t 30), none, []⟩] false [25, 26, 27, 28, 29, 30]) (
    .reg [
      ⟨(some 31), .faddr 3 (.t 3), none, []⟩,
      ⟨(some 32), .load false 1 (.t 31), none, [3, 5, 7, 9, 12, 16, 18]⟩,
      ⟨(some 33), .faddr 0 (.t 5), none, []⟩,
      ⟨(some 34), .load false 1 (.t 33), none, [1, 5, 7, 9, 12, 16]⟩,
      ⟨(some 35), .faddr 1 (.t 5), none, []⟩,
      ⟨(some 36), .load false 1 (.t 35), none, [1, 3, 7, 9, 12, 16]⟩,
      ⟨(some 37), .faddr 2 (.t 5), none, []⟩,
      ⟨(some 38), .load false 1 (.t 37), none, [1, 3, 5, 9, 12, 16]⟩,
      ⟨(some 39), .faddr 3 (.t 5), none, []⟩,
      ⟨(some 40), .load false 1 (.t 39), none, [1, 3, 5, 7, 12, 16]⟩,
      ⟨(some 41), .build [.i .i64 0, .i .i64 0, .i .i64 0, .i .i64 0] [(0, 1, (.t 34)), (1, 1, (.t 36)), (2, 1, (.t 38)), (3, 1, (.t 40))], none, []⟩,
      ⟨(some 42), .faddr 3 (.t 1), none, []⟩,
      ⟨(some 43), .load false 1 (.t 42), none, [1, 3, 5, 7, 9]⟩,
      ⟨(some 44), .mv (.t 4), none, []⟩,
      ⟨(some 45), .iaddr 5 (.t 43) (.t 44), none, []⟩,
      ⟨(some 46), .faddr 4 (.t 45), none, []⟩,
      ⟨(some 47), .load false 1 (.t 46), none, [1, 3, 5, 7, 9]⟩,
      ⟨(some 48), .build [.i .i64 0, .i .i64 0, .i .i64 0, .i .i64 0, .i .i64 0] [(0, 4, (.t 41)), (4, 1, (.t 47))], none, []⟩,
      ⟨(some 49), .bsl [.i .i64 0, .i .i64 0, .i .i64 0, .i .i64 0, .i .i64 0] 1 [(0, (.t 48))], none, [1]⟩,
      ⟨(some 50), .append 5 (.t 32) (.t 49), none, []⟩,
      ⟨(some 51), .faddr 3 (.t 3), none, []⟩,
      ⟨none, .store 1 (.t 51) (.t 50), none, []⟩] true [5, 31, 32, 33, 34, 35, 36, 37, 38, 39, 40, 41, 42, 43, 44, 45, 46, 47, 48, 49, 50, 51]))) (
   .reg [
     ⟨(some 23), .mv (.t 4), none, []⟩,
     ⟨(some 24), .bin .add (.t 23) (.k (.i .i64 1)), none, []⟩,
     ⟨(some 4), .mv (.t 24), none, []⟩] false [23, 24])))))) (
 .seq (
 .seq (
 .reg [
   ⟨(some 6), .mv (.k (.i .i64 0)), none, []⟩] false []) (
 .block 2 (
  .loop 8 [1, 2, 3, 6] [2, 3] (
   .seq (
   .seq (
   .reg [
     ⟨(some 52), .mv (.t 6), none, []⟩,
     ⟨(some 53), .faddr 4 (.t 1), none, []⟩,
     ⟨(some 54), .load false 1 (.t 53), none, []⟩,
     ⟨(some 55), .len false (.t 54), none, []⟩,
     ⟨(some 56), .bin .lss (.t 52) (.t 55), none, []⟩] false [52, 53, 54, 55]) (
   .cond (.t 56) (
    .skip) (
    .exit 2))) (
   .seq (
   .block 3 (
    .reg [
      ⟨(some 59), .faddr 4 (.t 3), none, []⟩,
      ⟨(some 60), .load false 1 (.t 59), none, [3, 6, 7, 8]⟩,
      ⟨(some 61), .faddr 4 (.t 1), none, []⟩,
      ⟨(some 62), .load false 1 (.t 61), none, [1]⟩,
      ⟨(some 63), .mv (.t 6), none, []⟩,
      ⟨(some 64), .iaddr 13 (.t 62) (.t 63), none, []⟩,
      ⟨(some 65), .load true 13 (.t 64), none, [1]⟩,
      ⟨(some 66), .call 50 [(.t 65)], none, [1]⟩,
      ⟨(some 67), .bsl [.i .i64 0, .i .i64 0, .i .i64 0, .i .i64 0, .i .i64 0, .i .i64 0, .i .i64 0, .b false, .i .u64 0, .i .u64 0, .i .u64 0, .i .u64 0, .i .u64 0] 1 [(0, (.t 66))], none, [1]⟩,
      ⟨(some 68), .append 13 (.t 60) (.t 67), none, []⟩,
      ⟨(some 69), .faddr 4 (.t 3), none, []⟩,
      ⟨none, .store 1 (.t 69) (.t 68), none, []⟩] true [59, 60, 61, 62, 63, 64, 65, 66, 67, 68, 69])) (
   .reg [
     ⟨(some 57), .mv (.t 6), none, []⟩,
     ⟨(some 58), .bin .add (.t 57) (.k (.i .i64 1)), none, []⟩,
     ⟨(some 6), .mv (.t 58), none, []⟩] false [57, 58])))))) (
 .seq (
 .reg [
   ⟨(some 70), .load true 5 (.t 3), none, []⟩,
   ⟨none, .store 5 (.t 2) (.t 70), none, []⟩] false [3, 70]) (
 .ret))))))
 [.fz [[0, 0, 0, 5, 13]], .cell true 5 2]

/-- reeve/reevelaw12.thingOf -/
def m50 : MF := .code 1 (
 .seq (
 .reg [
   ⟨(some 1), .box (.t 0), none, []⟩,
   ⟨(some 2), .alloc [.i .i64 0, .i .i64 0, .i .i64 0, .i .i64 0, .i .i64 0, .i .i64 0, .i .i64 0, .b false, .i .u64 0, .i .u64 0, .i .u64 0, .i .u64 0, .i .u64 0], none, []⟩] false [0]) (
 .seq (
 .reg [
   ⟨(some 3), .faddr 0 (.t 1), none, []⟩,
   ⟨(some 4), .load false 1 (.t 3), none, []⟩,
   ⟨(some 5), .faddr 1 (.t 1), none, []⟩,
   ⟨(some 6), .load false 1 (.t 5), none, []⟩,
   ⟨(some 7), .faddr 2 (.t 1), none, []⟩,
   ⟨(some 8), .load false 1 (.t 7), none, []⟩,
   ⟨(some 9), .faddr 3 (.t 1), none, []⟩,
   ⟨(some 10), .load false 1 (.t 9), none, []⟩,
   ⟨(some 11), .faddr 4 (.t 1), none, []⟩,
   ⟨(some 12), .load false 1 (.t 11), none, []⟩,
   ⟨(some 13), .faddr 5 (.t 1), none, []⟩,
   ⟨(some 14), .load false 1 (.t 13), none, []⟩,
   ⟨(some 15), .faddr 6 (.t 1), none, []⟩,
   ⟨(some 16), .load false 1 (.t 15), none, []⟩,
   ⟨(some 17), .faddr 7 (.t 1), none, []⟩,
   ⟨(some 18), .load false 1 (.t 17), none, []⟩,
   ⟨(some 19), .faddr 8 (.t 1), none, []⟩,
   ⟨(some 20), .load false 1 (.t 19), none, []⟩,
   ⟨(some 21), .faddr 9 (.t 1), none, []⟩,
   ⟨(some 22), .load true 4 (.t 21), none, []⟩,
   ⟨(some 23), .build [.i .i64 0, .i .i64 0, .i .i64 0, .i .i64 0, .i .i64 0, .i .i64 0, .i .i64 0, .b false, .i .u64 0, .i .u64 0, .i .u64 0, .i .u64 0, .i .u64 0] [(0, 1, (.t 4)), (1, 1, (.t 6)), (2, 1, (.t 8)), (3, 1, (.t 10)), (4, 1, (.t 12)), (5, 1, (.t 14)), (6, 1, (.t 16)), (7, 1, (.t 18)), (8, 1, (.t 20)), (9, 4, (.t 22))], none, []⟩,
   ⟨none, .store 13 (.t 2) (.t 23), none, []⟩] false [1, 3, 4, 5, 6, 7, 8, 9, 10, 11, 12, 13, 14, 15, 16, 17, 18, 19, 20, 21, 22, 23]) (
 .ret)))
 [.cell true 13 2]

/-- reeve/reeveref11.Same -/
def m21 : MF := .code 2 (
 .seq (
 .reg [
   ⟨(some 2), .box (.t 0), none, []⟩,
   ⟨(some 3), .box (.t 1), none, []⟩,
   ⟨(some 4), .mv (.k (.b false)), none, []⟩] false [0, 1, 4]) (
 .seq (
 .seq (
 .reg [
   ⟨(some 7), .faddr 0 (.t 2), none, []⟩,
   ⟨(some 8), .load true 3 (.t 7), none, []⟩,
   ⟨(some 9), .faddr 0 (.t 3), none, []⟩,
   ⟨(some 10), .load true 3 (.t 9), none, []⟩,
   ⟨(some 11), .eq true true [.i, .i, .i] (.t 8) (.t 10), none, []⟩,
   ⟨(some 12), .mv (.t 11), none, []⟩,
   ⟨(some 13), .faddr 3 (.t 2), (some (12, false)), []⟩,
   ⟨(some 14), .load false 1 (.t 13), (some (12, false)), []⟩,
   ⟨(some 15), .len false (.t 14), (some (12, false)), []⟩,
   ⟨(some 16), .faddr 3 (.t 3), (some (12, false)), []⟩,
   ⟨(some 17), .load false 1 (.t 16), (some (12, false)), []⟩,
   ⟨(some 18), .len false (.t 17), (some (12, false)), []⟩,
   ⟨(some 19), .bin .neq (.t 15) (.t 18), (some (12, false)), []⟩,
   ⟨(some 20), .pick (.t 12) (.k (.b true)) (.t 19), none, []⟩,
   ⟨(some 21), .mv (.t 20), none, []⟩,
   ⟨(some 22), .faddr 4 (.t 2), (some (21, false)), []⟩,
   ⟨(some 23), .load false 1 (.t 22), (some (21, false)), []⟩,
   ⟨(some 24), .len false (.t 23), (some (21, false)), []⟩,
   ⟨(some 25), .faddr 4 (.t 3), (some (21, false)), []⟩,
   ⟨(some 26), .load false 1 (.t 25), (some (21, false)), []⟩,
   ⟨(some 27), .len false (.t 26), (some (21, false)), []⟩,
   ⟨(some 28), .bin .neq (.t 24) (.t 27), (some (21, false)), []⟩,
   ⟨(some 29), .pick (.t 21) (.k (.b true)) (.t 28), none, []⟩] false [7, 8, 9, 10, 11, 12, 13, 14, 15, 16, 17, 18, 19, 20, 21, 22, 23, 24, 25, 26, 27, 28]) (
 .cond (.t 29) (
  .seq (
  .reg [
    ⟨(some 4), .mv (.k (.b false)), none, []⟩] false []) (
  .ret)) (
  .skip))) (
 .seq (
 .seq (
 .reg [
   ⟨(some 5), .mv (.k (.i .i64 0)), none, []⟩] false []) (
 .block 0 (
  .loop 4 [2, 3, 5] [2, 3, 4] (
   .seq (
   .seq (
   .reg [
     ⟨(some 30), .mv (.t 5), none, []⟩,
     ⟨(some 31), .faddr 3 (.t 2), none, []⟩,
     ⟨(some 32), .load false 1 (.t 31), none, []⟩,
     ⟨(some 33), .len false (.t 32), none, []⟩,
     ⟨(some 34), .bin .lss (.t 30) (.t 33), none, []⟩] false [30, 31, 32, 33]) (
   .cond (.t 34) (
    .skip) (
    .exit 0))) (
   .seq (
   .block 1 (
    .seq (
    .reg [
      ⟨(some 37), .faddr 3 (.t 2), none, []⟩,
      ⟨(some 38), .load false 1 (.t 37), none, [6, 9]⟩,
      ⟨(some 39), .mv (.t 5), none, []⟩,
      ⟨(some 40), .iaddr 5 (.t 38) (.t 39), none, []⟩,
      ⟨(some 41), .load true 5 (.t 40), none, [6, 9]⟩,
      ⟨(some 42), .faddr 3 (.t 3), none, []⟩,
      ⟨(some 43), .load false 1 (.t 42), none, [1, 4]⟩,
      ⟨(some 44), .mv (.t 5), none, []⟩,
      ⟨(some 45), .iaddr 5 (.t 43) (.t 44), none, []⟩,
      ⟨(some 46), .load true 5 (.t 45), none, [1, 4]⟩,
      ⟨(some 47), .eq true true [.i, .i, .i, .i, .i] (.t 41) (.t 46), none, []⟩] true [37, 38, 39, 40, 41, 42, 43, 44, 45, 46]) (
    .cond (.t 47) (
     .seq (
     .reg [
       ⟨(some 4), .mv (.k (.b false)), none, []⟩] false []) (
     .ret)) (
     .skip)))) (
   .reg [
     ⟨(some 35), .mv (.t 5), none, []⟩,
     ⟨(some 36), .bin .add (.t 35) (.k (.i .i64 1)), none, []⟩,
     ⟨(some 5), .mv (.t 36), none, []⟩] false [35, 36])))))) (
 .seq (
 .seq (
 .reg [
   ⟨(some 6), .mv (.k (.i .i64 0)), none, []⟩] false []) (
 .block 2 (
  .loop 9 [2, 3, 6] [4] (
   .seq (
   .seq (
   .reg [
     ⟨(some 48), .mv (.t 6), none, []⟩,
     ⟨(some 49), .faddr 4 (.t 2), none, []⟩,
     ⟨(some 50), .load false 1 (.t 49), none, []⟩,
     ⟨(some 51), .len false (.t 50), none, []⟩,
     ⟨(some 52), .bin .lss (.t 48) (.t 51), none, []⟩] false [48, 49, 50, 51]) (
   .cond (.t 52) (
    .skip) (
    .exit 2))) (
   .seq (
   .block 3 (
    .seq (
    .reg [
      ⟨(some 55), .faddr 4 (.t 2), none, []⟩,
      ⟨(some 56), .load false 1 (.t 55), none, [6, 9]⟩,
      ⟨(some 57), .mv (.t 6), none, []⟩,
      ⟨(some 58), .iaddr 13 (.t 56) (.t 57), none, []⟩,
      ⟨(some 59), .load true 13 (.t 58), none, [6, 9]⟩,
      ⟨(some 60), .faddr 4 (.t 3), none, []⟩,
      ⟨(some 61), .load false 1 (.t 60), none, [1, 4]⟩,
      ⟨(some 62), .mv (.t 6), none, []⟩,
      ⟨(some 63), .iaddr 13 (.t 61) (.t 62), none, []⟩,
      ⟨(some 64), .load true 13 (.t 63), none, [1, 4]⟩,
      ⟨(some 65), .eq true true [.i, .i, .i, .i, .i, .i, .i, .b, .i, .i, .i, .i, .i] (.t 59) (.t 64), none, []⟩] true [55, 56, 57, 58, 59, 60, 61, 62, 63, 64]) (
    .cond (.t 65) (
     .seq (
     .reg [
       ⟨(some 4), .mv (.k (.b false)), none, []⟩] false []) (
     .ret)) (
     .skip)))) (
   .reg [
     ⟨(some 53), .mv (.t 6), none, []⟩,
     ⟨(some 54), .bin .add (.t 53) (.k (.i .i64 1)), none, []⟩,
     ⟨(some 6), .mv (.t 54), none, []⟩] false [53, 54])))))) (
 .seq (
 .reg [
   ⟨(some 4), .mv (.k (.b true)), none, []⟩] false []) (
 .ret))))))
 [.tmp 4]

/-- reeve/state.Clone -/
def m23 : MF := .code 1 (
 .seq (
 .reg [
   ⟨(some 1), .box (.t 0), none, []⟩,
   ⟨(some 2), .alloc [.i .i64 0, .i .i64 0, .i .i64 0, .lst true true 0 [], .lst true true 0 []], none, []⟩] false [0]) (
 .seq (
 .reg [
   ⟨(some 3), .faddr 0 (.t 1), none, []⟩,
   ⟨(some 4), .load true 3 (.t 3), none, [3, 4, 6, 7]⟩,
   ⟨(some 5), .faddr 3 (.t 1), none, []⟩,
   ⟨(some 6), .load false 1 (.t 5), none, [1, 6]⟩,
   ⟨(some 7), .call 51 [(.t 6)], none, [1, 6]⟩,
   ⟨(some 8), .faddr 4 (.t 1), none, []⟩,
   ⟨(some 9), .load false 1 (.t 8), none, [1, 3, 4]⟩,
   ⟨(some 10), .call 52 [(.t 9)], none, [1]⟩,
   ⟨(some 11), .build [.i .i64 0, .i .i64 0, .i .i64 0, .lst true true 0 [], .lst true true 0 []] [(0, 3, (.t 4)), (3, 1, (.t 7)), (4, 1, (.t 10))], none, []⟩,
   ⟨none, .store 5 (.t 2) (.t 11), none, []⟩] true [1, 3, 4, 5, 6, 7, 8, 9, 10, 11]) (
 .ret)))
 [.cell true 5 2]

/-- slices.Clone[[]reeve/state.Slot,reeve/state.Slot] -/
def m51 : MF := .code 1 (
 .seq (
 .reg [
   ⟨(some 2), .mv (.k (.lst true true 0 [])), none, []⟩] false [2]) (
 .seq (
 .seq (
 .reg [
   ⟨(some 3), .mv (.t 0), none, []⟩,
   ⟨(some 4), .eqn false (.t 3), none, []⟩] false [3]) (
 .cond (.t 4) (
  .seq (
  .reg [
    ⟨(some 2), .mv (.k (.lst true true 0 [])), none, []⟩] false []) (
  .ret)) (
  .skip))) (
 .seq (
 .reg [
   ⟨(some 5), .bsl [.i .i64 0, .i .i64 0, .i .i64 0, .i .i64 0, .i .i64 0] 0 [], none, []⟩,
   ⟨(some 6), .mv (.t 0), none, []⟩,
   ⟨(some 7), .append 5 (.t 5) (.t 6), none, []⟩,
   ⟨(some 2), .mv (.t 7), none, []⟩] false [0, 5, 6, 7]) (
 .ret))))
 [.tmp 2]

/-- slices.Clone[[]reeve/thing.Thing,reeve/thing.Thing] -/
def m52 : MF := .code 1 (
 .seq (
 .reg [
   ⟨(some 2), .mv (.k (.lst true true 0 [])), none, []⟩] false [2]) (
 .seq (
 .seq (
 .reg [
   ⟨(some 3), .mv (.t 0), none, []⟩,
   ⟨(some 4), .eqn false (.t 3), none, []⟩] false [3]) (
 .cond (.t 4) (
  .seq (
  .reg [
    ⟨(some 2), .mv (.k (.lst true true 0 [])), none, []⟩] false []) (
  .ret)) (
  .skip))) (
 .seq (
 .reg [
   ⟨(some 5), .bsl [.i .i64 0, .i .i64 0, .i .i64 0, .i .i64 0, .i .i64 0, .i .i64 0, .i .i64 0, .b false, .i .u64 0, .i .u64 0, .i .u64 0, .i .u64 0, .i .u64 0] 0 [], none, []⟩,
   ⟨(some 6), .mv (.t 0), none, []⟩,
   ⟨(some 7), .append 13 (.t 5) (.t 6), none, []⟩,
   ⟨(some 2), .mv (.t 7), none, []⟩] false [0, 5, 6, 7]) (
 .ret))))
 [.tmp 2]

def tabL0 : List (Nat × MF) := [(9, m9), (24, m24), (14, m14), (43, m43), (70, m70), (82, m82), (83, m83), (15, m15), (44, m44), (16, m16), (12, m12), (11, m11), (37, m37), (68, m68), (78, m78), (79, m79), (80, m80), (81, m81), (69, m69), (38, m38), (42, m42), (39, m39), (40, m40), (54, m54), (74, m74), (73, m73), (45, m45), (46, m46), (72, m72), (25, m25), (27, m27), (41, m41), (71, m71), (84, m84), (86, m86), (89, m89), (53, m53), (6, m6), (10, m10), (20, m20), (48, m48), (49, m49), (22, m22), (50, m50), (21, m21), (23, m23), (51, m51), (52, m52)]
def tab : Tab := tabOf tabL0
end Go.Rv
