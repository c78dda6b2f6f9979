/- functions as programs of ours, and their ties, part 4 -/
import Derived.Test.YtbmobnjhdealiaaGreatNb
import Derived.KernelRfl
noncomputable section
namespace Go.Rv
abbrev Q0_T : Type 1 := (ρ : Type) → Int → Int → Int → Bool → Bool → Rows → Bool → Bool → Rows → Int → Int → (Nat → Nat → Rows → Option ρ) → (Nat → Nat → Nat → Nat → Rows → Rows → Option ρ) → Option ρ
def Q0_E (G : Q0_T) : EK := fun ρ args K => decL [.agg [.i .i64 none, .i .i64 none, .i .i64 none, .lst none none 5 none, .lst none none 13 none], .i .i64 none, .i .i64 none] args fun c => G ρ c.1.1 c.1.2.1 c.1.2.2.1 c.1.2.2.2.1.1 c.1.2.2.2.1.2.1 c.1.2.2.2.1.2.2 c.1.2.2.2.2.1.1 c.1.2.2.2.2.1.2.1 c.1.2.2.2.2.1.2.2 c.2.1 c.2.2.1 (fun w0 w1 w2 => K ⟨.agg [.i .i64 c.1.1, .i .i64 c.1.2.1, .i .i64 c.1.2.2.1, .sl 0 w0 5 0 w1, .lst true true 0 []], [.row 5 true false w2], []⟩) (fun w0 w1 w2 w3 w4 w5 => K ⟨.agg [.i .i64 c.1.1, .i .i64 c.1.2.1, .i .i64 c.1.2.2.1, .sl 0 w0 5 0 w1, .sl 1 w2 13 0 w3], [.row 5 true false w4, .row 13 true false w5], []⟩)
structure Q0_G where
 mk ::
 Q8 : Q8_T
 Q3 : Q3_T
 Qv : Qv_T
abbrev Q0_l5_0_V : Type := Unit
def Q0_l5_0_s (_G : Q0_G) {ρ : Type} (_n : Nat) (_p0 _p1 : Int) (_p2 _p3 _p4 : Int) (_p5 _p6 : Nat) (_p7 : Rows) (k0 : (Option ρ)) (_rec' : Q0_l5_0_V → Option ρ) : Q0_l5_0_V → Option ρ
 | _v =>
 k0
def Q0_l5_0 (G : Q0_G) {ρ : Type} (n : Nat) (p0 p1 : Int) (p2 p3 p4 : Int) (p5 p6 : Nat) (p7 : Rows) (k0 : (Option ρ)) (v : Q0_l5_0_V) : Option ρ := fuelN (Q0_l5_0_s G n p0 p1 p2 p3 p4 p5 p6 p7 k0) n v
def Q0_l5_0_enc (p0 p1 : Int) (p2 p3 p4 : Int) (p5 p6 : Nat) (p7 : Rows) : Q0_l5_0_V → St
 | _v => ⟨[(1, .i .i64 p0), (2, .i .i64 p1), (3, .ptr 0 1 5 0 0), (6, .ptr 1 1 5 0 0), (40, .lst true true 0 []), (41, .i .i64 0), (42, .i .i64 0)], [.row 5 false false [[.i .i64 p2, .i .i64 p3, .i .i64 p4, .sl 3 p5 5 0 p6, .lst true true 0 []]], .row 5 true false [[.i .i64 0, .i .i64 0, .i .i64 0, .lst true true 0 [], .lst true true 0 []]], .row 1 true false [[.lst true true 0 []]], .row 5 true false p7]⟩
abbrev Q0_l10_0_V : Type := Unit
def Q0_l10_0_s (_G : Q0_G) {ρ : Type} (_n : Nat) (_p0 _p1 : Int) (_p2 _p3 _p4 : Int) (_p5 _p6 : Nat) (_p7 : Rows) (k0 : (Option ρ)) (_rec' : Q0_l10_0_V → Option ρ) : Q0_l10_0_V → Option ρ
 | _v =>
 k0
def Q0_l10_0 (G : Q0_G) {ρ : Type} (n : Nat) (p0 p1 : Int) (p2 p3 p4 : Int) (p5 p6 : Nat) (p7 : Rows) (k0 : (Option ρ)) (v : Q0_l10_0_V) : Option ρ := fuelN (Q0_l10_0_s G n p0 p1 p2 p3 p4 p5 p6 p7 k0) n v
def Q0_l10_0_enc (p0 p1 : Int) (p2 p3 p4 : Int) (p5 p6 : Nat) (p7 : Rows) : Q0_l10_0_V → St
 | _v => ⟨[(1, .i .i64 p0), (2, .i .i64 p1), (3, .ptr 0 1 5 0 0), (6, .ptr 1 1 5 0 0), (57, .i .i64 0), (58, .i .i64 0)], [.row 5 false false [[.i .i64 p2, .i .i64 p3, .i .i64 p4, .sl 3 p5 5 0 p6, .lst true true 0 []]], .row 5 true false [[.i .i64 0, .i .i64 0, .i .i64 0, .lst true true 0 [], .lst true true 0 []]], .row 1 true false [[.lst true true 0 []]], .row 5 true false p7]⟩
abbrev Q0_l5_1_V : Type := Unit
def Q0_l5_1_s (_G : Q0_G) {ρ : Type} (_n : Nat) (_p0 _p1 : Int) (_p2 _p3 _p4 : Int) (_p5 _p6 : Nat) (_p7 _p8 : Nat) (_p9 _p10 : Rows) (k0 : (Option ρ)) (_rec' : Q0_l5_1_V → Option ρ) : Q0_l5_1_V → Option ρ
 | _v =>
 k0
def Q0_l5_1 (G : Q0_G) {ρ : Type} (n : Nat) (p0 p1 : Int) (p2 p3 p4 : Int) (p5 p6 : Nat) (p7 p8 : Nat) (p9 p10 : Rows) (k0 : (Option ρ)) (v : Q0_l5_1_V) : Option ρ := fuelN (Q0_l5_1_s G n p0 p1 p2 p3 p4 p5 p6 p7 p8 p9 p10 k0) n v
def Q0_l5_1_enc (p0 p1 : Int) (p2 p3 p4 : Int) (p5 p6 : Nat) (p7 p8 : Nat) (p9 p10 : Rows) : Q0_l5_1_V → St
 | _v => ⟨[(1, .i .i64 p0), (2, .i .i64 p1), (3, .ptr 0 1 5 0 0), (6, .ptr 1 1 5 0 0), (40, .lst true true 0 []), (41, .i .i64 0), (42, .i .i64 0)], [.row 5 false false [[.i .i64 p2, .i .i64 p3, .i .i64 p4, .sl 3 p5 5 0 p6, .sl 4 p7 13 0 p8]], .row 5 true false [[.i .i64 0, .i .i64 0, .i .i64 0, .lst true true 0 [], .lst true true 0 []]], .row 1 true false [[.lst true true 0 []]], .row 5 true false p9, .row 13 true false p10]⟩
abbrev Q0_l10_1_V : Type := Int × Rows
def Q0_l10_1_s (_G : Q0_G) {ρ : Type} (_n : Nat) (p0 p1 : Int) (p2 _p3 : Int) (_p4 _p5 : Int) (_p6 _p7 : Nat) (p8 p9 : Nat) (_p10 : Rows) (k0 : (Rows → Option ρ)) (rec' : Q0_l10_1_V → Option ρ) : Q0_l10_1_V → Option ρ
 | v =>
 bif decide ((v.1 : Int) < p2) then
 chk (decide ((0 : Int) ≤ v.1)) <|
 chk (decide ((v.1 : Int) < ((p9 : Nat) : Int))) <|
 chk (((List.length (v.2 : Rows)) : Nat) == p8) <|
 rowN [.i .i64, .i .i64, .i .i64, .i .i64, .i .i64, .i .i64, .i .i64, .b, .i .u64, .i .u64, .i .u64, .i .u64, .i .u64] v.2 (0 + v.1.toNat) fun c0 =>
 bif ((c0.2.2.2.2.2.1 : Int) == (IntKind.wrap .i64 (p0 + 1))) then
 chk (decide ((0 : Int) ≤ v.1)) <|
 chk (decide ((v.1 : Int) < ((p9 : Nat) : Int))) <|
 chk (((List.length (v.2 : Rows)) : Nat) == p8) <|
 rowN [.a, .a, .a, .a, .a, .a, .a, .a, .a, .a, .a, .a, .a] v.2 (0 + v.1.toNat) fun c1 =>
 rec' ((IntKind.wrap .i64 (v.1 + 1)), (List.set (v.2 : Rows) (0 + v.1.toNat) [c1.1, c1.2.1, c1.2.2.1, c1.2.2.2.1, c1.2.2.2.2.1, .i .i64 (IntKind.wrap .i64 (p1 + 1)), c1.2.2.2.2.2.2.1, c1.2.2.2.2.2.2.2.1, c1.2.2.2.2.2.2.2.2.1, c1.2.2.2.2.2.2.2.2.2.1, c1.2.2.2.2.2.2.2.2.2.2.1, c1.2.2.2.2.2.2.2.2.2.2.2.1, c1.2.2.2.2.2.2.2.2.2.2.2.2.1]))
 else rec' ((IntKind.wrap .i64 (v.1 + 1)), v.2)
 else k0 v.2
def Q0_l10_1 (G : Q0_G) {ρ : Type} (n : Nat) (p0 p1 : Int) (p2 p3 : Int) (p4 p5 : Int) (p6 p7 : Nat) (p8 p9 : Nat) (p10 : Rows) (k0 : (Rows → Option ρ)) (v : Q0_l10_1_V) : Option ρ := fuelN (Q0_l10_1_s G n p0 p1 p2 p3 p4 p5 p6 p7 p8 p9 p10 k0) n v
def Q0_l10_1_enc (p0 p1 : Int) (p2 p3 : Int) (p4 p5 : Int) (p6 p7 : Nat) (p8 p9 : Nat) (p10 : Rows) : Q0_l10_1_V → St
 | v => ⟨[(1, .i .i64 p0), (2, .i .i64 p1), (3, .ptr 0 1 5 0 0), (6, .ptr 1 1 5 0 0), (57, .i .i64 p2), (58, .i .i64 v.1)], [.row 5 false false [[.i .i64 p3, .i .i64 p4, .i .i64 p5, .sl 3 p6 5 0 p7, .sl 4 p8 13 0 p9]], .row 5 true false [[.i .i64 0, .i .i64 0, .i .i64 0, .lst true true 0 [], .lst true true 0 []]], .row 1 true false [[.lst true true 0 []]], .row 5 true false p10, .row 13 true false v.2]⟩
abbrev Q0_l5_2_V : Type := Int × Rows
def Q0_l5_2_s (_G : Q0_G) {ρ : Type} (_n : Nat) (_p0 _p1 : Int) (p2 p3 : Nat) (p4 _p5 : Int) (_p6 _p7 : Int) (p8 p9 : Nat) (p10 : Rows) (_p11 _p12 : Nat) (k0 : (Rows → Option ρ)) (rec' : Q0_l5_2_V → Option ρ) : Q0_l5_2_V → Option ρ
 | v =>
 bif decide ((v.1 : Int) < p4) then
 chk (decide ((0 : Int) ≤ v.1)) <|
 chk (decide ((v.1 : Int) < ((p3 : Nat) : Int))) <|
 chk (((List.length (p10 : Rows)) : Nat) == p2) <|
 rowN [.i .i64] p10 (0 + v.1.toNat) fun c0 =>
 chk (decide ((0 : Int) ≤ v.1)) <|
 chk (decide ((v.1 : Int) < ((p9 : Nat) : Int))) <|
 chk (((List.length (v.2 : Rows)) : Nat) == p8) <|
 rowN [.a, .a, .a, .a, .a] v.2 (0 + v.1.toNat) fun c1 =>
 rec' ((IntKind.wrap .i64 (v.1 + 1)), (List.set (v.2 : Rows) (0 + v.1.toNat) [c1.1, c1.2.1, c1.2.2.1, c1.2.2.2.1, .i .i64 (if (-1) > c0.1 then (-1) else c0.1)]))
 else k0 v.2
def Q0_l5_2 (G : Q0_G) {ρ : Type} (n : Nat) (p0 p1 : Int) (p2 p3 : Nat) (p4 p5 : Int) (p6 p7 : Int) (p8 p9 : Nat) (p10 : Rows) (p11 p12 : Nat) (k0 : (Rows → Option ρ)) (v : Q0_l5_2_V) : Option ρ := fuelN (Q0_l5_2_s G n p0 p1 p2 p3 p4 p5 p6 p7 p8 p9 p10 p11 p12 k0) n v
def Q0_l5_2_enc (p0 p1 : Int) (p2 p3 : Nat) (p4 p5 : Int) (p6 p7 : Int) (p8 p9 : Nat) (p10 : Rows) (p11 p12 : Nat) : Q0_l5_2_V → St
 | v => ⟨[(1, .i .i64 p0), (2, .i .i64 p1), (3, .ptr 0 1 5 0 0), (6, .ptr 1 1 5 0 0), (40, .sl 2 p2 1 0 p3), (41, .i .i64 p4), (42, .i .i64 v.1)], [.row 5 false false [[.i .i64 p5, .i .i64 p6, .i .i64 p7, .sl 4 p8 5 0 p9, .lst true true 0 []]], .row 5 true false [[.i .i64 0, .i .i64 0, .i .i64 0, .lst true true 0 [], .lst true true 0 []]], .row 1 true false p10, .row 1 false false [[.sl 2 p11 1 0 p12]], .row 5 true false v.2]⟩
abbrev Q0_l10_2_V : Type := Unit
def Q0_l10_2_s (_G : Q0_G) {ρ : Type} (_n : Nat) (_p0 _p1 : Int) (_p2 _p3 _p4 : Int) (_p5 _p6 : Nat) (_p7 : Rows) (_p8 _p9 : Nat) (_p10 : Rows) (k0 : (Option ρ)) (_rec' : Q0_l10_2_V → Option ρ) : Q0_l10_2_V → Option ρ
 | _v =>
 k0
def Q0_l10_2 (G : Q0_G) {ρ : Type} (n : Nat) (p0 p1 : Int) (p2 p3 p4 : Int) (p5 p6 : Nat) (p7 : Rows) (p8 p9 : Nat) (p10 : Rows) (k0 : (Option ρ)) (v : Q0_l10_2_V) : Option ρ := fuelN (Q0_l10_2_s G n p0 p1 p2 p3 p4 p5 p6 p7 p8 p9 p10 k0) n v
def Q0_l10_2_enc (p0 p1 : Int) (p2 p3 p4 : Int) (p5 p6 : Nat) (p7 : Rows) (p8 p9 : Nat) (p10 : Rows) : Q0_l10_2_V → St
 | _v => ⟨[(1, .i .i64 p0), (2, .i .i64 p1), (3, .ptr 0 1 5 0 0), (6, .ptr 1 1 5 0 0), (57, .i .i64 0), (58, .i .i64 0)], [.row 5 false false [[.i .i64 p2, .i .i64 p3, .i .i64 p4, .sl 4 p5 5 0 p6, .lst true true 0 []]], .row 5 true false [[.i .i64 0, .i .i64 0, .i .i64 0, .lst true true 0 [], .lst true true 0 []]], .row 1 true false p7, .row 1 false false [[.sl 2 p8 1 0 p9]], .row 5 true false p10]⟩
abbrev Q0_l5_3_V : Type := Int × Rows
def Q0_l5_3_s (_G : Q0_G) {ρ : Type} (_n : Nat) (_p0 _p1 : Int) (p2 p3 : Nat) (p4 _p5 : Int) (_p6 _p7 : Int) (p8 p9 : Nat) (_p10 _p11 : Nat) (p12 : Rows) (_p13 _p14 : Nat) (_p16 : Rows) (k0 : (Rows → Option ρ)) (rec' : Q0_l5_3_V → Option ρ) : Q0_l5_3_V → Option ρ
 | v =>
 bif decide ((v.1 : Int) < p4) then
 chk (decide ((0 : Int) ≤ v.1)) <|
 chk (decide ((v.1 : Int) < ((p3 : Nat) : Int))) <|
 chk (((List.length (p12 : Rows)) : Nat) == p2) <|
 rowN [.i .i64] p12 (0 + v.1.toNat) fun c0 =>
 chk (decide ((0 : Int) ≤ v.1)) <|
 chk (decide ((v.1 : Int) < ((p9 : Nat) : Int))) <|
 chk (((List.length (v.2 : Rows)) : Nat) == p8) <|
 rowN [.a, .a, .a, .a, .a] v.2 (0 + v.1.toNat) fun c1 =>
 rec' ((IntKind.wrap .i64 (v.1 + 1)), (List.set (v.2 : Rows) (0 + v.1.toNat) [c1.1, c1.2.1, c1.2.2.1, c1.2.2.2.1, .i .i64 (if (-1) > c0.1 then (-1) else c0.1)]))
 else k0 v.2
def Q0_l5_3 (G : Q0_G) {ρ : Type} (n : Nat) (p0 p1 : Int) (p2 p3 : Nat) (p4 p5 : Int) (p6 p7 : Int) (p8 p9 : Nat) (p10 p11 : Nat) (p12 : Rows) (p13 p14 : Nat) (p16 : Rows) (k0 : (Rows → Option ρ)) (v : Q0_l5_3_V) : Option ρ := fuelN (Q0_l5_3_s G n p0 p1 p2 p3 p4 p5 p6 p7 p8 p9 p10 p11 p12 p13 p14 p16 k0) n v
def Q0_l5_3_enc (p0 p1 : Int) (p2 p3 : Nat) (p4 p5 : Int) (p6 p7 : Int) (p8 p9 : Nat) (p10 p11 : Nat) (p12 : Rows) (p13 p14 : Nat) (p16 : Rows) : Q0_l5_3_V → St
 | v => ⟨[(1, .i .i64 p0), (2, .i .i64 p1), (3, .ptr 0 1 5 0 0), (6, .ptr 1 1 5 0 0), (40, .sl 2 p2 1 0 p3), (41, .i .i64 p4), (42, .i .i64 v.1)], [.row 5 false false [[.i .i64 p5, .i .i64 p6, .i .i64 p7, .sl 4 p8 5 0 p9, .sl 5 p10 13 0 p11]], .row 5 true false [[.i .i64 0, .i .i64 0, .i .i64 0, .lst true true 0 [], .lst true true 0 []]], .row 1 true false p12, .row 1 false false [[.sl 2 p13 1 0 p14]], .row 5 true false v.2, .row 13 true false p16]⟩
abbrev Q0_l10_3_V : Type := Int × Rows
def Q0_l10_3_s (_G : Q0_G) {ρ : Type} (_n : Nat) (p0 p1 : Int) (p2 _p3 : Int) (_p4 _p5 : Int) (_p6 _p7 : Nat) (p8 p9 : Nat) (_p10 : Rows) (_p11 _p12 : Nat) (_p13 : Rows) (k0 : (Rows → Option ρ)) (rec' : Q0_l10_3_V → Option ρ) : Q0_l10_3_V → Option ρ
 | v =>
 bif decide ((v.1 : Int) < p2) then
 chk (decide ((0 : Int) ≤ v.1)) <|
 chk (decide ((v.1 : Int) < ((p9 : Nat) : Int))) <|
 chk (((List.length (v.2 : Rows)) : Nat) == p8) <|
 rowN [.i .i64, .i .i64, .i .i64, .i .i64, .i .i64, .i .i64, .i .i64, .b, .i .u64, .i .u64, .i .u64, .i .u64, .i .u64] v.2 (0 + v.1.toNat) fun c0 =>
 bif ((c0.2.2.2.2.2.1 : Int) == (IntKind.wrap .i64 (p0 + 1))) then
 chk (decide ((0 : Int) ≤ v.1)) <|
 chk (decide ((v.1 : Int) < ((p9 : Nat) : Int))) <|
 chk (((List.length (v.2 : Rows)) : Nat) == p8) <|
 rowN [.a, .a, .a, .a, .a, .a, .a, .a, .a, .a, .a, .a, .a] v.2 (0 + v.1.toNat) fun c1 =>
 rec' ((IntKind.wrap .i64 (v.1 + 1)), (List.set (v.2 : Rows) (0 + v.1.toNat) [c1.1, c1.2.1, c1.2.2.1, c1.2.2.2.1, c1.2.2.2.2.1, .i .i64 (IntKind.wrap .i64 (p1 + 1)), c1.2.2.2.2.2.2.1, c1.2.2.2.2.2.2.2.1, c1.2.2.2.2.2.2.2.2.1, c1.2.2.2.2.2.2.2.2.2.1, c1.2.2.2.2.2.2.2.2.2.2.1, c1.2.2.2.2.2.2.2.2.2.2.2.1, c1.2.2.2.2.2.2.2.2.2.2.2.2.1]))
 else rec' ((IntKind.wrap .i64 (v.1 + 1)), v.2)
 else k0 v.2
def Q0_l10_3 (G : Q0_G) {ρ : Type} (n : Nat) (p0 p1 : Int) (p2 p3 : Int) (p4 p5 : Int) (p6 p7 : Nat) (p8 p9 : Nat) (p10 : Rows) (p11 p12 : Nat) (p13 : Rows) (k0 : (Rows → Option ρ)) (v : Q0_l10_3_V) : Option ρ := fuelN (Q0_l10_3_s G n p0 p1 p2 p3 p4 p5 p6 p7 p8 p9 p10 p11 p12 p13 k0) n v
def Q0_l10_3_enc (p0 p1 : Int) (p2 p3 : Int) (p4 p5 : Int) (p6 p7 : Nat) (p8 p9 : Nat) (p10 : Rows) (p11 p12 : Nat) (p13 : Rows) : Q0_l10_3_V → St
 | v => ⟨[(1, .i .i64 p0), (2, .i .i64 p1), (3, .ptr 0 1 5 0 0), (6, .ptr 1 1 5 0 0), (57, .i .i64 p2), (58, .i .i64 v.1)], [.row 5 false false [[.i .i64 p3, .i .i64 p4, .i .i64 p5, .sl 4 p6 5 0 p7, .sl 5 p8 13 0 p9]], .row 5 true false [[.i .i64 0, .i .i64 0, .i .i64 0, .lst true true 0 [], .lst true true 0 []]], .row 1 true false p10, .row 1 false false [[.sl 2 p11 1 0 p12]], .row 5 true false p13, .row 13 true false v.2]⟩
def Q0_s (G : Q0_G) {ρ : Type} (n : Nat) (a0 a1 a2 : Int) (a3 a4 : Bool) (a5 : Rows) (a6 a7 : Bool) (a8 : Rows) (a9 a10 : Int) (k0 : (Nat → Nat → Rows → Option ρ)) (k1 : (Nat → Nat → Nat → Nat → Rows → Rows → Option ρ)) : Option ρ :=
 G.Q8 ρ a0 a1 a2 a3 a4 a5 a6 a7 a8 (fun w0_0 w0_1 w0_2 =>
 G.Q3 ρ w0_0 w0_1 w0_2 a9 a10 (G.Qv ρ a0 a1 a2 a3 a4 a5 a6 a7 a8 (none) (fun _w3_0 _w3_1 _w3_2 =>
 none) (fun w4_0 w4_1 w4_2 =>
 chk (decide ((0 : Int) ≤ a9)) <|
 chk (decide ((a9 : Int) < ((w4_1 : Nat) : Int))) <|
 chk (((List.length (w4_2 : Rows)) : Nat) == w4_0) <|
 rowN [.i .i64, .i .i64, .i .i64, .i .i64, .i .i64] w4_2 (0 + a9.toNat) fun c5 =>
 chk (decide ((0 : Int) ≤ a10)) <|
 chk (decide ((a10 : Int) < ((w4_1 : Nat) : Int))) <|
 chk (((List.length (w4_2 : Rows)) : Nat) == w4_0) <|
 rowN [.a, .a, .a, .a, .a] w4_2 (0 + a10.toNat) fun c6 =>
 chk (decide ((0 : Int) ≤ a9)) <|
 chk (decide ((a9 : Int) < ((w4_1 : Nat) : Int))) <|
 chk (((List.length ((List.set (w4_2 : Rows) (0 + a10.toNat) [.i .i64 c5.1, .i .i64 c5.2.1, .i .i64 c5.2.2.1, .i .i64 c5.2.2.2.1, c6.2.2.2.2.1]) : Rows)) : Nat) == w4_0) <|
 rowN [.a, .a, .a, .a, .a] (List.set (w4_2 : Rows) (0 + a10.toNat) [.i .i64 c5.1, .i .i64 c5.2.1, .i .i64 c5.2.2.1, .i .i64 c5.2.2.2.1, c6.2.2.2.2.1]) (0 + a9.toNat) fun c7 =>
 Q0_l5_0 G n a9 a10 a0 a1 a2 w4_0 w4_1 (List.set ((List.set (w4_2 : Rows) (0 + a10.toNat) [.i .i64 c5.1, .i .i64 c5.2.1, .i .i64 c5.2.2.1, .i .i64 c5.2.2.2.1, c6.2.2.2.2.1]) : Rows) (0 + a9.toNat) [.i .i64 0, .i .i64 0, .i .i64 0, .i .i64 0, c7.2.2.2.2.1]) (Q0_l10_0 G n a9 a10 a0 a1 a2 w4_0 w4_1 (List.set ((List.set (w4_2 : Rows) (0 + a10.toNat) [.i .i64 c5.1, .i .i64 c5.2.1, .i .i64 c5.2.2.1, .i .i64 c5.2.2.2.1, c6.2.2.2.2.1]) : Rows) (0 + a9.toNat) [.i .i64 0, .i .i64 0, .i .i64 0, .i .i64 0, c7.2.2.2.2.1]) (k0 w4_0 w4_1 (List.set ((List.set (w4_2 : Rows) (0 + a10.toNat) [.i .i64 c5.1, .i .i64 c5.2.1, .i .i64 c5.2.2.1, .i .i64 c5.2.2.2.1, c6.2.2.2.2.1]) : Rows) (0 + a9.toNat) [.i .i64 0, .i .i64 0, .i .i64 0, .i .i64 0, c7.2.2.2.2.1])) ()) ()) (fun w10_0 w10_1 w10_2 w10_3 w10_4 w10_5 =>
 chk (decide ((0 : Int) ≤ a9)) <|
 chk (decide ((a9 : Int) < ((w10_1 : Nat) : Int))) <|
 chk (((List.length (w10_4 : Rows)) : Nat) == w10_0) <|
 rowN [.i .i64, .i .i64, .i .i64, .i .i64, .i .i64] w10_4 (0 + a9.toNat) fun c11 =>
 chk (decide ((0 : Int) ≤ a10)) <|
 chk (decide ((a10 : Int) < ((w10_1 : Nat) : Int))) <|
 chk (((List.length (w10_4 : Rows)) : Nat) == w10_0) <|
 rowN [.a, .a, .a, .a, .a] w10_4 (0 + a10.toNat) fun c12 =>
 chk (decide ((0 : Int) ≤ a9)) <|
 chk (decide ((a9 : Int) < ((w10_1 : Nat) : Int))) <|
 chk (((List.length ((List.set (w10_4 : Rows) (0 + a10.toNat) [.i .i64 c11.1, .i .i64 c11.2.1, .i .i64 c11.2.2.1, .i .i64 c11.2.2.2.1, c12.2.2.2.2.1]) : Rows)) : Nat) == w10_0) <|
 rowN [.a, .a, .a, .a, .a] (List.set (w10_4 : Rows) (0 + a10.toNat) [.i .i64 c11.1, .i .i64 c11.2.1, .i .i64 c11.2.2.1, .i .i64 c11.2.2.2.1, c12.2.2.2.2.1]) (0 + a9.toNat) fun c13 =>
 Q0_l5_1 G n a9 a10 a0 a1 a2 w10_0 w10_1 w10_2 w10_3 (List.set ((List.set (w10_4 : Rows) (0 + a10.toNat) [.i .i64 c11.1, .i .i64 c11.2.1, .i .i64 c11.2.2.1, .i .i64 c11.2.2.2.1, c12.2.2.2.2.1]) : Rows) (0 + a9.toNat) [.i .i64 0, .i .i64 0, .i .i64 0, .i .i64 0, c13.2.2.2.2.1]) w10_5 (Q0_l10_1 G n a9 a10 ((w10_3 : Nat) : Int) a0 a1 a2 w10_0 w10_1 w10_2 w10_3 (List.set ((List.set (w10_4 : Rows) (0 + a10.toNat) [.i .i64 c11.1, .i .i64 c11.2.1, .i .i64 c11.2.2.1, .i .i64 c11.2.2.2.1, c12.2.2.2.2.1]) : Rows) (0 + a9.toNat) [.i .i64 0, .i .i64 0, .i .i64 0, .i .i64 0, c13.2.2.2.2.1]) (fun w15_0 =>
 k1 w10_0 w10_1 w10_2 w10_3 (List.set ((List.set (w10_4 : Rows) (0 + a10.toNat) [.i .i64 c11.1, .i .i64 c11.2.1, .i .i64 c11.2.2.1, .i .i64 c11.2.2.2.1, c12.2.2.2.2.1]) : Rows) (0 + a9.toNat) [.i .i64 0, .i .i64 0, .i .i64 0, .i .i64 0, c13.2.2.2.2.1]) w15_0) (0, w10_5)) ())) (fun w16_0 w16_1 w16_2 =>
 G.Qv ρ a0 a1 a2 a3 a4 a5 a6 a7 a8 (none) (fun _w18_0 _w18_1 _w18_2 =>
 none) (fun w19_0 w19_1 w19_2 =>
 chk (decide ((0 : Int) ≤ a9)) <|
 chk (decide ((a9 : Int) < ((w19_1 : Nat) : Int))) <|
 chk (((List.length (w19_2 : Rows)) : Nat) == w19_0) <|
 rowN [.i .i64, .i .i64, .i .i64, .i .i64, .i .i64] w19_2 (0 + a9.toNat) fun c20 =>
 chk (decide ((0 : Int) ≤ a10)) <|
 chk (decide ((a10 : Int) < ((w19_1 : Nat) : Int))) <|
 chk (((List.length (w19_2 : Rows)) : Nat) == w19_0) <|
 rowN [.a, .a, .a, .a, .a] w19_2 (0 + a10.toNat) fun c21 =>
 chk (decide ((0 : Int) ≤ a9)) <|
 chk (decide ((a9 : Int) < ((w19_1 : Nat) : Int))) <|
 chk (((List.length ((List.set (w19_2 : Rows) (0 + a10.toNat) [.i .i64 c20.1, .i .i64 c20.2.1, .i .i64 c20.2.2.1, .i .i64 c20.2.2.2.1, c21.2.2.2.2.1]) : Rows)) : Nat) == w19_0) <|
 rowN [.a, .a, .a, .a, .a] (List.set (w19_2 : Rows) (0 + a10.toNat) [.i .i64 c20.1, .i .i64 c20.2.1, .i .i64 c20.2.2.1, .i .i64 c20.2.2.2.1, c21.2.2.2.2.1]) (0 + a9.toNat) fun c22 =>
 Q0_l5_2 G n a9 a10 w16_0 w16_1 ((w16_1 : Nat) : Int) a0 a1 a2 w19_0 w19_1 w16_2 w16_0 w16_1 (fun w23_0 =>
 Q0_l10_2 G n a9 a10 a0 a1 a2 w19_0 w19_1 w16_2 w16_0 w16_1 w23_0 (k0 w19_0 w19_1 w23_0) ()) (0, (List.set ((List.set (w19_2 : Rows) (0 + a10.toNat) [.i .i64 c20.1, .i .i64 c20.2.1, .i .i64 c20.2.2.1, .i .i64 c20.2.2.2.1, c21.2.2.2.2.1]) : Rows) (0 + a9.toNat) [.i .i64 0, .i .i64 0, .i .i64 0, .i .i64 0, c22.2.2.2.2.1]))) (fun w25_0 w25_1 w25_2 w25_3 w25_4 w25_5 =>
 chk (decide ((0 : Int) ≤ a9)) <|
 chk (decide ((a9 : Int) < ((w25_1 : Nat) : Int))) <|
 chk (((List.length (w25_4 : Rows)) : Nat) == w25_0) <|
 rowN [.i .i64, .i .i64, .i .i64, .i .i64, .i .i64] w25_4 (0 + a9.toNat) fun c26 =>
 chk (decide ((0 : Int) ≤ a10)) <|
 chk (decide ((a10 : Int) < ((w25_1 : Nat) : Int))) <|
 chk (((List.length (w25_4 : Rows)) : Nat) == w25_0) <|
 rowN [.a, .a, .a, .a, .a] w25_4 (0 + a10.toNat) fun c27 =>
 chk (decide ((0 : Int) ≤ a9)) <|
 chk (decide ((a9 : Int) < ((w25_1 : Nat) : Int))) <|
 chk (((List.length ((List.set (w25_4 : Rows) (0 + a10.toNat) [.i .i64 c26.1, .i .i64 c26.2.1, .i .i64 c26.2.2.1, .i .i64 c26.2.2.2.1, c27.2.2.2.2.1]) : Rows)) : Nat) == w25_0) <|
 rowN [.a, .a, .a, .a, .a] (List.set (w25_4 : Rows) (0 + a10.toNat) [.i .i64 c26.1, .i .i64 c26.2.1, .i .i64 c26.2.2.1, .i .i64 c26.2.2.2.1, c27.2.2.2.2.1]) (0 + a9.toNat) fun c28 =>
 Q0_l5_3 G n a9 a10 w16_0 w16_1 ((w16_1 : Nat) : Int) a0 a1 a2 w25_0 w25_1 w25_2 w25_3 w16_2 w16_0 w16_1 w25_5 (fun w29_0 =>
 Q0_l10_3 G n a9 a10 ((w25_3 : Nat) : Int) a0 a1 a2 w25_0 w25_1 w25_2 w25_3 w16_2 w16_0 w16_1 w29_0 (fun w30_0 =>
 k1 w25_0 w25_1 w25_2 w25_3 w29_0 w30_0) (0, w25_5)) (0, (List.set ((List.set (w25_4 : Rows) (0 + a10.toNat) [.i .i64 c26.1, .i .i64 c26.2.1, .i .i64 c26.2.2.1, .i .i64 c26.2.2.2.1, c27.2.2.2.2.1]) : Rows) (0 + a9.toNat) [.i .i64 0, .i .i64 0, .i .i64 0, .i .i64 0, c28.2.2.2.2.1])))))
def Q0_g (n : Nat) : Q0_G := ⟨Q8 n, Q3 n, Qv n⟩
def Q0 (n : Nat) : Q0_T := fun _ρ a0 a1 a2 a3 a4 a5 a6 a7 a8 a9 a10 k0 k1 => Q0_s (Q0_g n) n a0 a1 a2 a3 a4 a5 a6 a7 a8 a9 a10 k0 k1
def Q0_e (n : Nat) : EK := Q0_E (Q0 n)
def Q0_S (G : Q0_G) : CK := tabS [(25, Q8_E G.Q8), (114, Q3_E G.Q3), (29, Qv_E G.Qv)]
theorem Q0_Sok (n : Nat) : CK.OK (Q0_S (Q0_g n)) (L tab) := tabS_ok _ (List.forall_mem_cons.2 ⟨(Q8_ok n), List.forall_mem_cons.2 ⟨(Q3_ok n), List.forall_mem_cons.2 ⟨(Qv_ok n), (fun _ h => nomatch h)⟩⟩⟩)
def Q0_hs : HintC := hintL [(33, [.i .i64, .i .i64, .i .i64, .i .i64, .i .i64]), (66, [.i .i64, .i .i64, .i .i64, .i .i64, .i .i64, .i .i64, .i .i64, .b, .i .u64, .i .u64, .i .u64, .i .u64, .i .u64]), (46, [.i .i64])]
def Q0_c5 : Nat × List Nat × List Nat × MC := loopAt 5 m98
def Q0_l5_3_d (G : Q0_G) (n : Nat) : Go.Rv.LE := fun _ρ h K => decSt [(1, .i .i64 none), (2, .i .i64 none), (3, .ptr 0 5 0 (some 1) (some 0)), (6, .ptr 1 5 0 (some 1) (some 0)), (40, .sl 2 1 none (some 0) none), (41, .i .i64 none), (42, .i .i64 none)] [.row 5 false false (some [[.i .i64 none, .i .i64 none, .i .i64 none, .sl 4 5 none (some 0) none, .sl 5 13 none (some 0) none]]), .row 5 true false (some [[.i .i64 (some 0), .i .i64 (some 0), .i .i64 (some 0), .lst (some true) (some true) 0 (some []), .lst (some true) (some true) 0 (some [])]]), .row 1 true false none, .row 1 false false (some [[.sl 2 1 none (some 0) none]]), .row 5 true false none, .row 13 true false none] h fun a b => Q0_l5_3 G n a.1 a.2.1 a.2.2.2.2.1.1 a.2.2.2.2.1.2.2 a.2.2.2.2.2.1 b.1.1.1 b.1.1.2.1 b.1.1.2.2.1 b.1.1.2.2.2.1.1 b.1.1.2.2.2.1.2.2 b.1.1.2.2.2.2.1.1 b.1.1.2.2.2.2.1.2.2 b.2.2.1 b.2.2.2.1.1.1.1 b.2.2.2.1.1.1.2.2 b.2.2.2.2.2.1 (fun w0 => K (.exit 0) ⟨[(1, .i .i64 a.1), (2, .i .i64 a.2.1), (3, .ptr 0 1 5 0 0), (6, .ptr 1 1 5 0 0)], [.row 5 false false [[.i .i64 b.1.1.1, .i .i64 b.1.1.2.1, .i .i64 b.1.1.2.2.1, .sl 4 b.1.1.2.2.2.1.1 5 0 b.1.1.2.2.2.1.2.2, .sl 5 b.1.1.2.2.2.2.1.1 13 0 b.1.1.2.2.2.2.1.2.2]], .row 5 true false [[.i .i64 0, .i .i64 0, .i .i64 0, .lst true true 0 [], .lst true true 0 []]], .row 1 true false b.2.2.1, .row 1 false false [[.sl 2 b.2.2.2.1.1.1.1 1 0 b.2.2.2.1.1.1.2.2]], .row 5 true false w0, .row 13 true false b.2.2.2.2.2.1]⟩) (a.2.2.2.2.2.2.1, b.2.2.2.2.1)
def Q0_l5_2_d (G : Q0_G) (n : Nat) : Go.Rv.LE := fun _ρ h K => decSt [(1, .i .i64 none), (2, .i .i64 none), (3, .ptr 0 5 0 (some 1) (some 0)), (6, .ptr 1 5 0 (some 1) (some 0)), (40, .sl 2 1 none (some 0) none), (41, .i .i64 none), (42, .i .i64 none)] [.row 5 false false (some [[.i .i64 none, .i .i64 none, .i .i64 none, .sl 4 5 none (some 0) none, .lst (some true) (some true) 0 (some [])]]), .row 5 true false (some [[.i .i64 (some 0), .i .i64 (some 0), .i .i64 (some 0), .lst (some true) (some true) 0 (some []), .lst (some true) (some true) 0 (some [])]]), .row 1 true false none, .row 1 false false (some [[.sl 2 1 none (some 0) none]]), .row 5 true false none] h fun a b => Q0_l5_2 G n a.1 a.2.1 a.2.2.2.2.1.1 a.2.2.2.2.1.2.2 a.2.2.2.2.2.1 b.1.1.1 b.1.1.2.1 b.1.1.2.2.1 b.1.1.2.2.2.1.1 b.1.1.2.2.2.1.2.2 b.2.2.1 b.2.2.2.1.1.1.1 b.2.2.2.1.1.1.2.2 (fun w0 => K (.exit 0) ⟨[(1, .i .i64 a.1), (2, .i .i64 a.2.1), (3, .ptr 0 1 5 0 0), (6, .ptr 1 1 5 0 0)], [.row 5 false false [[.i .i64 b.1.1.1, .i .i64 b.1.1.2.1, .i .i64 b.1.1.2.2.1, .sl 4 b.1.1.2.2.2.1.1 5 0 b.1.1.2.2.2.1.2.2, .lst true true 0 []]], .row 5 true false [[.i .i64 0, .i .i64 0, .i .i64 0, .lst true true 0 [], .lst true true 0 []]], .row 1 true false b.2.2.1, .row 1 false false [[.sl 2 b.2.2.2.1.1.1.1 1 0 b.2.2.2.1.1.1.2.2]], .row 5 true false w0]⟩) (a.2.2.2.2.2.2.1, b.2.2.2.2.1)
def Q0_l5_1_d (G : Q0_G) (n : Nat) : Go.Rv.LE := fun _ρ h K => decSt [(1, .i .i64 none), (2, .i .i64 none), (3, .ptr 0 5 0 (some 1) (some 0)), (6, .ptr 1 5 0 (some 1) (some 0)), (40, .lst (some true) (some true) 0 (some [])), (41, .i .i64 (some 0)), (42, .i .i64 (some 0))] [.row 5 false false (some [[.i .i64 none, .i .i64 none, .i .i64 none, .sl 3 5 none (some 0) none, .sl 4 13 none (some 0) none]]), .row 5 true false (some [[.i .i64 (some 0), .i .i64 (some 0), .i .i64 (some 0), .lst (some true) (some true) 0 (some []), .lst (some true) (some true) 0 (some [])]]), .row 1 true false (some [[.lst (some true) (some true) 0 (some [])]]), .row 5 true false none, .row 13 true false none] h fun a b => Q0_l5_1 G n a.1 a.2.1 b.1.1.1 b.1.1.2.1 b.1.1.2.2.1 b.1.1.2.2.2.1.1 b.1.1.2.2.2.1.2.2 b.1.1.2.2.2.2.1.1 b.1.1.2.2.2.2.1.2.2 b.2.2.2.1 b.2.2.2.2.1 (K (.exit 0) ⟨[(1, .i .i64 a.1), (2, .i .i64 a.2.1), (3, .ptr 0 1 5 0 0), (6, .ptr 1 1 5 0 0)], [.row 5 false false [[.i .i64 b.1.1.1, .i .i64 b.1.1.2.1, .i .i64 b.1.1.2.2.1, .sl 3 b.1.1.2.2.2.1.1 5 0 b.1.1.2.2.2.1.2.2, .sl 4 b.1.1.2.2.2.2.1.1 13 0 b.1.1.2.2.2.2.1.2.2]], .row 5 true false [[.i .i64 0, .i .i64 0, .i .i64 0, .lst true true 0 [], .lst true true 0 []]], .row 1 true false [[.lst true true 0 []]], .row 5 true false b.2.2.2.1, .row 13 true false b.2.2.2.2.1]⟩) ()
def Q0_l5_0_d (G : Q0_G) (n : Nat) : Go.Rv.LE := fun _ρ h K => decSt [(1, .i .i64 none), (2, .i .i64 none), (3, .ptr 0 5 0 (some 1) (some 0)), (6, .ptr 1 5 0 (some 1) (some 0)), (40, .lst (some true) (some true) 0 (some [])), (41, .i .i64 (some 0)), (42, .i .i64 (some 0))] [.row 5 false false (some [[.i .i64 none, .i .i64 none, .i .i64 none, .sl 3 5 none (some 0) none, .lst (some true) (some true) 0 (some [])]]), .row 5 true false (some [[.i .i64 (some 0), .i .i64 (some 0), .i .i64 (some 0), .lst (some true) (some true) 0 (some []), .lst (some true) (some true) 0 (some [])]]), .row 1 true false (some [[.lst (some true) (some true) 0 (some [])]]), .row 5 true false none] h fun a b => Q0_l5_0 G n a.1 a.2.1 b.1.1.1 b.1.1.2.1 b.1.1.2.2.1 b.1.1.2.2.2.1.1 b.1.1.2.2.2.1.2.2 b.2.2.2.1 (K (.exit 0) ⟨[(1, .i .i64 a.1), (2, .i .i64 a.2.1), (3, .ptr 0 1 5 0 0), (6, .ptr 1 1 5 0 0)], [.row 5 false false [[.i .i64 b.1.1.1, .i .i64 b.1.1.2.1, .i .i64 b.1.1.2.2.1, .sl 3 b.1.1.2.2.2.1.1 5 0 b.1.1.2.2.2.1.2.2, .lst true true 0 []]], .row 5 true false [[.i .i64 0, .i .i64 0, .i .i64 0, .lst true true 0 [], .lst true true 0 []]], .row 1 true false [[.lst true true 0 []]], .row 5 true false b.2.2.2.1]⟩) ()
def Q0_d5 (G : Q0_G) (n : Nat) : Go.Rv.LE := altL [(1, .i .i64 none), (2, .i .i64 none), (3, .ptr 0 5 0 (some 1) (some 0)), (6, .ptr 1 5 0 (some 1) (some 0)), (40, .sl 2 1 none (some 0) none), (41, .i .i64 none), (42, .i .i64 none)] [.row 5 false false (some [[.i .i64 none, .i .i64 none, .i .i64 none, .sl 4 5 none (some 0) none, .sl 5 13 none (some 0) none]]), .row 5 true false (some [[.i .i64 (some 0), .i .i64 (some 0), .i .i64 (some 0), .lst (some true) (some true) 0 (some []), .lst (some true) (some true) 0 (some [])]]), .row 1 true false none, .row 1 false false (some [[.sl 2 1 none (some 0) none]]), .row 5 true false none, .row 13 true false none] (Q0_l5_3_d G n) (altL [(1, .i .i64 none), (2, .i .i64 none), (3, .ptr 0 5 0 (some 1) (some 0)), (6, .ptr 1 5 0 (some 1) (some 0)), (40, .sl 2 1 none (some 0) none), (41, .i .i64 none), (42, .i .i64 none)] [.row 5 false false (some [[.i .i64 none, .i .i64 none, .i .i64 none, .sl 4 5 none (some 0) none, .lst (some true) (some true) 0 (some [])]]), .row 5 true false (some [[.i .i64 (some 0), .i .i64 (some 0), .i .i64 (some 0), .lst (some true) (some true) 0 (some []), .lst (some true) (some true) 0 (some [])]]), .row 1 true false none, .row 1 false false (some [[.sl 2 1 none (some 0) none]]), .row 5 true false none] (Q0_l5_2_d G n) (altL [(1, .i .i64 none), (2, .i .i64 none), (3, .ptr 0 5 0 (some 1) (some 0)), (6, .ptr 1 5 0 (some 1) (some 0)), (40, .lst (some true) (some true) 0 (some [])), (41, .i .i64 (some 0)), (42, .i .i64 (some 0))] [.row 5 false false (some [[.i .i64 none, .i .i64 none, .i .i64 none, .sl 3 5 none (some 0) none, .sl 4 13 none (some 0) none]]), .row 5 true false (some [[.i .i64 (some 0), .i .i64 (some 0), .i .i64 (some 0), .lst (some true) (some true) 0 (some []), .lst (some true) (some true) 0 (some [])]]), .row 1 true false (some [[.lst (some true) (some true) 0 (some [])]]), .row 5 true false none, .row 13 true false none] (Q0_l5_1_d G n) (Q0_l5_0_d G n)))
def Q0_c10 : Nat × List Nat × List Nat × MC := loopAt 10 m98
def Q0_l10_3_d (G : Q0_G) (n : Nat) : Go.Rv.LE := fun _ρ h K => decSt [(1, .i .i64 none), (2, .i .i64 none), (3, .ptr 0 5 0 (some 1) (some 0)), (6, .ptr 1 5 0 (some 1) (some 0)), (57, .i .i64 none), (58, .i .i64 none)] [.row 5 false false (some [[.i .i64 none, .i .i64 none, .i .i64 none, .sl 4 5 none (some 0) none, .sl 5 13 none (some 0) none]]), .row 5 true false (some [[.i .i64 (some 0), .i .i64 (some 0), .i .i64 (some 0), .lst (some true) (some true) 0 (some []), .lst (some true) (some true) 0 (some [])]]), .row 1 true false none, .row 1 false false (some [[.sl 2 1 none (some 0) none]]), .row 5 true false none, .row 13 true false none] h fun a b => Q0_l10_3 G n a.1 a.2.1 a.2.2.2.2.1 b.1.1.1 b.1.1.2.1 b.1.1.2.2.1 b.1.1.2.2.2.1.1 b.1.1.2.2.2.1.2.2 b.1.1.2.2.2.2.1.1 b.1.1.2.2.2.2.1.2.2 b.2.2.1 b.2.2.2.1.1.1.1 b.2.2.2.1.1.1.2.2 b.2.2.2.2.1 (fun w0 => K (.exit 2) ⟨[(3, .ptr 0 1 5 0 0), (6, .ptr 1 1 5 0 0)], [.row 5 false false [[.i .i64 b.1.1.1, .i .i64 b.1.1.2.1, .i .i64 b.1.1.2.2.1, .sl 4 b.1.1.2.2.2.1.1 5 0 b.1.1.2.2.2.1.2.2, .sl 5 b.1.1.2.2.2.2.1.1 13 0 b.1.1.2.2.2.2.1.2.2]], .row 5 true false [[.i .i64 0, .i .i64 0, .i .i64 0, .lst true true 0 [], .lst true true 0 []]], .row 1 true false b.2.2.1, .row 1 false false [[.sl 2 b.2.2.2.1.1.1.1 1 0 b.2.2.2.1.1.1.2.2]], .row 5 true false b.2.2.2.2.1, .row 13 true false w0]⟩) (a.2.2.2.2.2.1, b.2.2.2.2.2.1)
def Q0_l10_1_d (G : Q0_G) (n : Nat) : Go.Rv.LE := fun _ρ h K => decSt [(1, .i .i64 none), (2, .i .i64 none), (3, .ptr 0 5 0 (some 1) (some 0)), (6, .ptr 1 5 0 (some 1) (some 0)), (57, .i .i64 none), (58, .i .i64 none)] [.row 5 false false (some [[.i .i64 none, .i .i64 none, .i .i64 none, .sl 3 5 none (some 0) none, .sl 4 13 none (some 0) none]]), .row 5 true false (some [[.i .i64 (some 0), .i .i64 (some 0), .i .i64 (some 0), .lst (some true) (some true) 0 (some []), .lst (some true) (some true) 0 (some [])]]), .row 1 true false (some [[.lst (some true) (some true) 0 (some [])]]), .row 5 true false none, .row 13 true false none] h fun a b => Q0_l10_1 G n a.1 a.2.1 a.2.2.2.2.1 b.1.1.1 b.1.1.2.1 b.1.1.2.2.1 b.1.1.2.2.2.1.1 b.1.1.2.2.2.1.2.2 b.1.1.2.2.2.2.1.1 b.1.1.2.2.2.2.1.2.2 b.2.2.2.1 (fun w0 => K (.exit 2) ⟨[(3, .ptr 0 1 5 0 0), (6, .ptr 1 1 5 0 0)], [.row 5 false false [[.i .i64 b.1.1.1, .i .i64 b.1.1.2.1, .i .i64 b.1.1.2.2.1, .sl 3 b.1.1.2.2.2.1.1 5 0 b.1.1.2.2.2.1.2.2, .sl 4 b.1.1.2.2.2.2.1.1 13 0 b.1.1.2.2.2.2.1.2.2]], .row 5 true false [[.i .i64 0, .i .i64 0, .i .i64 0, .lst true true 0 [], .lst true true 0 []]], .row 1 true false [[.lst true true 0 []]], .row 5 true false b.2.2.2.1, .row 13 true false w0]⟩) (a.2.2.2.2.2.1, b.2.2.2.2.1)
def Q0_l10_2_d (G : Q0_G) (n : Nat) : Go.Rv.LE := fun _ρ h K => decSt [(1, .i .i64 none), (2, .i .i64 none), (3, .ptr 0 5 0 (some 1) (some 0)), (6, .ptr 1 5 0 (some 1) (some 0)), (57, .i .i64 (some 0)), (58, .i .i64 (some 0))] [.row 5 false false (some [[.i .i64 none, .i .i64 none, .i .i64 none, .sl 4 5 none (some 0) none, .lst (some true) (some true) 0 (some [])]]), .row 5 true false (some [[.i .i64 (some 0), .i .i64 (some 0), .i .i64 (some 0), .lst (some true) (some true) 0 (some []), .lst (some true) (some true) 0 (some [])]]), .row 1 true false none, .row 1 false false (some [[.sl 2 1 none (some 0) none]]), .row 5 true false none] h fun a b => Q0_l10_2 G n a.1 a.2.1 b.1.1.1 b.1.1.2.1 b.1.1.2.2.1 b.1.1.2.2.2.1.1 b.1.1.2.2.2.1.2.2 b.2.2.1 b.2.2.2.1.1.1.1 b.2.2.2.1.1.1.2.2 b.2.2.2.2.1 (K (.exit 2) ⟨[(3, .ptr 0 1 5 0 0), (6, .ptr 1 1 5 0 0)], [.row 5 false false [[.i .i64 b.1.1.1, .i .i64 b.1.1.2.1, .i .i64 b.1.1.2.2.1, .sl 4 b.1.1.2.2.2.1.1 5 0 b.1.1.2.2.2.1.2.2, .lst true true 0 []]], .row 5 true false [[.i .i64 0, .i .i64 0, .i .i64 0, .lst true true 0 [], .lst true true 0 []]], .row 1 true false b.2.2.1, .row 1 false false [[.sl 2 b.2.2.2.1.1.1.1 1 0 b.2.2.2.1.1.1.2.2]], .row 5 true false b.2.2.2.2.1]⟩) ()
def Q0_l10_0_d (G : Q0_G) (n : Nat) : Go.Rv.LE := fun _ρ h K => decSt [(1, .i .i64 none), (2, .i .i64 none), (3, .ptr 0 5 0 (some 1) (some 0)), (6, .ptr 1 5 0 (some 1) (some 0)), (57, .i .i64 (some 0)), (58, .i .i64 (some 0))] [.row 5 false false (some [[.i .i64 none, .i .i64 none, .i .i64 none, .sl 3 5 none (some 0) none, .lst (some true) (some true) 0 (some [])]]), .row 5 true false (some [[.i .i64 (some 0), .i .i64 (some 0), .i .i64 (some 0), .lst (some true) (some true) 0 (some []), .lst (some true) (some true) 0 (some [])]]), .row 1 true false (some [[.lst (some true) (some true) 0 (some [])]]), .row 5 true false none] h fun a b => Q0_l10_0 G n a.1 a.2.1 b.1.1.1 b.1.1.2.1 b.1.1.2.2.1 b.1.1.2.2.2.1.1 b.1.1.2.2.2.1.2.2 b.2.2.2.1 (K (.exit 2) ⟨[(3, .ptr 0 1 5 0 0), (6, .ptr 1 1 5 0 0)], [.row 5 false false [[.i .i64 b.1.1.1, .i .i64 b.1.1.2.1, .i .i64 b.1.1.2.2.1, .sl 3 b.1.1.2.2.2.1.1 5 0 b.1.1.2.2.2.1.2.2, .lst true true 0 []]], .row 5 true false [[.i .i64 0, .i .i64 0, .i .i64 0, .lst true true 0 [], .lst true true 0 []]], .row 1 true false [[.lst true true 0 []]], .row 5 true false b.2.2.2.1]⟩) ()
def Q0_d10 (G : Q0_G) (n : Nat) : Go.Rv.LE := altL [(1, .i .i64 none), (2, .i .i64 none), (3, .ptr 0 5 0 (some 1) (some 0)), (6, .ptr 1 5 0 (some 1) (some 0)), (57, .i .i64 none), (58, .i .i64 none)] [.row 5 false false (some [[.i .i64 none, .i .i64 none, .i .i64 none, .sl 4 5 none (some 0) none, .sl 5 13 none (some 0) none]]), .row 5 true false (some [[.i .i64 (some 0), .i .i64 (some 0), .i .i64 (some 0), .lst (some true) (some true) 0 (some []), .lst (some true) (some true) 0 (some [])]]), .row 1 true false none, .row 1 false false (some [[.sl 2 1 none (some 0) none]]), .row 5 true false none, .row 13 true false none] (Q0_l10_3_d G n) (altL [(1, .i .i64 none), (2, .i .i64 none), (3, .ptr 0 5 0 (some 1) (some 0)), (6, .ptr 1 5 0 (some 1) (some 0)), (57, .i .i64 none), (58, .i .i64 none)] [.row 5 false false (some [[.i .i64 none, .i .i64 none, .i .i64 none, .sl 3 5 none (some 0) none, .sl 4 13 none (some 0) none]]), .row 5 true false (some [[.i .i64 (some 0), .i .i64 (some 0), .i .i64 (some 0), .lst (some true) (some true) 0 (some []), .lst (some true) (some true) 0 (some [])]]), .row 1 true false (some [[.lst (some true) (some true) 0 (some [])]]), .row 5 true false none, .row 13 true false none] (Q0_l10_1_d G n) (altL [(1, .i .i64 none), (2, .i .i64 none), (3, .ptr 0 5 0 (some 1) (some 0)), (6, .ptr 1 5 0 (some 1) (some 0)), (57, .i .i64 (some 0)), (58, .i .i64 (some 0))] [.row 5 false false (some [[.i .i64 none, .i .i64 none, .i .i64 none, .sl 4 5 none (some 0) none, .lst (some true) (some true) 0 (some [])]]), .row 5 true false (some [[.i .i64 (some 0), .i .i64 (some 0), .i .i64 (some 0), .lst (some true) (some true) 0 (some []), .lst (some true) (some true) 0 (some [])]]), .row 1 true false none, .row 1 false false (some [[.sl 2 1 none (some 0) none]]), .row 5 true false none] (Q0_l10_2_d G n) (Q0_l10_0_d G n)))
def Q0_lp (G : Q0_G) (n : Nat) : LK := tabL [(5, Q0_d5 G n), (10, Q0_d10 G n)]
theorem Q0_l5_3_k (G : Q0_G) {ρ : Type} (n : Nat) (p0 p1 : Int) (p2 p3 : Nat) (p4 p5 : Int) (p6 p7 : Int) (p8 p9 : Nat) (p10 p11 : Nat) (p12 : Rows) (p13 p14 : Nat) (p16 : Rows) (K : Ex → St → Option ρ) (N : St → Option ρ) : ∀ v, roundC (Q0_S G) Q0_hs (Q0_lp G n) Q0_c5 6 N K (Q0_l5_3_enc p0 p1 p2 p3 p4 p5 p6 p7 p8 p9 p10 p11 p12 p13 p14 p16 v) = Q0_l5_3_s G n p0 p1 p2 p3 p4 p5 p6 p7 p8 p9 p10 p11 p12 p13 p14 p16 (fun w0 => K (.exit 0) ⟨[(1, .i .i64 p0), (2, .i .i64 p1), (3, .ptr 0 1 5 0 0), (6, .ptr 1 1 5 0 0)], [.row 5 false false [[.i .i64 p5, .i .i64 p6, .i .i64 p7, .sl 4 p8 5 0 p9, .sl 5 p10 13 0 p11]], .row 5 true false [[.i .i64 0, .i .i64 0, .i .i64 0, .lst true true 0 [], .lst true true 0 []]], .row 1 true false p12, .row 1 false false [[.sl 2 p13 1 0 p14]], .row 5 true false w0, .row 13 true false p16]⟩) (fun v => N (Q0_l5_3_enc p0 p1 p2 p3 p4 p5 p6 p7 p8 p9 p10 p11 p12 p13 p14 p16 v)) v
 | v => by kernel_rfl
theorem Q0_l5_3_dok (n : Nat) : LE.OK (Q0_l5_3_d (Q0_g n) n) (L tab) Q0_c5 := LE.shp (fun _ _ _ => rfl) fun ρ K y a b e => LE.rounds (Q0_Sok n) (LK.of (l := []) (by kernel_rfl) ((fun _ h => nomatch h))) (Q0_l5_3_k (Q0_g n) n _ _ _ _ _ _ _ _ _ _ _ _ _ _ _ _ K) (by kernel_rfl) (by kernel_rfl) e
theorem Q0_l5_2_k (G : Q0_G) {ρ : Type} (n : Nat) (p0 p1 : Int) (p2 p3 : Nat) (p4 p5 : Int) (p6 p7 : Int) (p8 p9 : Nat) (p10 : Rows) (p11 p12 : Nat) (K : Ex → St → Option ρ) (N : St → Option ρ) : ∀ v, roundC (Q0_S G) Q0_hs (Q0_lp G n) Q0_c5 5 N K (Q0_l5_2_enc p0 p1 p2 p3 p4 p5 p6 p7 p8 p9 p10 p11 p12 v) = Q0_l5_2_s G n p0 p1 p2 p3 p4 p5 p6 p7 p8 p9 p10 p11 p12 (fun w0 => K (.exit 0) ⟨[(1, .i .i64 p0), (2, .i .i64 p1), (3, .ptr 0 1 5 0 0), (6, .ptr 1 1 5 0 0)], [.row 5 false false [[.i .i64 p5, .i .i64 p6, .i .i64 p7, .sl 4 p8 5 0 p9, .lst true true 0 []]], .row 5 true false [[.i .i64 0, .i .i64 0, .i .i64 0, .lst true true 0 [], .lst true true 0 []]], .row 1 true false p10, .row 1 false false [[.sl 2 p11 1 0 p12]], .row 5 true false w0]⟩) (fun v => N (Q0_l5_2_enc p0 p1 p2 p3 p4 p5 p6 p7 p8 p9 p10 p11 p12 v)) v
 | v => by kernel_rfl
theorem Q0_l5_2_dok (n : Nat) : LE.OK (Q0_l5_2_d (Q0_g n) n) (L tab) Q0_c5 := LE.shp (fun _ _ _ => rfl) fun ρ K y a b e => LE.rounds (Q0_Sok n) (LK.of (l := []) (by kernel_rfl) ((fun _ h => nomatch h))) (Q0_l5_2_k (Q0_g n) n _ _ _ _ _ _ _ _ _ _ _ _ _ K) (by kernel_rfl) (by kernel_rfl) e
theorem Q0_l5_1_k (G : Q0_G) {ρ : Type} (n : Nat) (p0 p1 : Int) (p2 p3 p4 : Int) (p5 p6 : Nat) (p7 p8 : Nat) (p9 p10 : Rows) (K : Ex → St → Option ρ) (N : St → Option ρ) : ∀ v, roundC (Q0_S G) Q0_hs (Q0_lp G n) Q0_c5 5 N K (Q0_l5_1_enc p0 p1 p2 p3 p4 p5 p6 p7 p8 p9 p10 v) = Q0_l5_1_s G n p0 p1 p2 p3 p4 p5 p6 p7 p8 p9 p10 (K (.exit 0) ⟨[(1, .i .i64 p0), (2, .i .i64 p1), (3, .ptr 0 1 5 0 0), (6, .ptr 1 1 5 0 0)], [.row 5 false false [[.i .i64 p2, .i .i64 p3, .i .i64 p4, .sl 3 p5 5 0 p6, .sl 4 p7 13 0 p8]], .row 5 true false [[.i .i64 0, .i .i64 0, .i .i64 0, .lst true true 0 [], .lst true true 0 []]], .row 1 true false [[.lst true true 0 []]], .row 5 true false p9, .row 13 true false p10]⟩) (fun v => N (Q0_l5_1_enc p0 p1 p2 p3 p4 p5 p6 p7 p8 p9 p10 v)) v
 | v => by kernel_rfl
theorem Q0_l5_1_dok (n : Nat) : LE.OK (Q0_l5_1_d (Q0_g n) n) (L tab) Q0_c5 := LE.shp (fun _ _ _ => rfl) fun ρ K y a b e => LE.rounds (Q0_Sok n) (LK.of (l := []) (by kernel_rfl) ((fun _ h => nomatch h))) (Q0_l5_1_k (Q0_g n) n _ _ _ _ _ _ _ _ _ _ _ K) (by kernel_rfl) (by kernel_rfl) e
theorem Q0_l5_0_k (G : Q0_G) {ρ : Type} (n : Nat) (p0 p1 : Int) (p2 p3 p4 : Int) (p5 p6 : Nat) (p7 : Rows) (K : Ex → St → Option ρ) (N : St → Option ρ) : ∀ v, roundC (Q0_S G) Q0_hs (Q0_lp G n) Q0_c5 4 N K (Q0_l5_0_enc p0 p1 p2 p3 p4 p5 p6 p7 v) = Q0_l5_0_s G n p0 p1 p2 p3 p4 p5 p6 p7 (K (.exit 0) ⟨[(1, .i .i64 p0), (2, .i .i64 p1), (3, .ptr 0 1 5 0 0), (6, .ptr 1 1 5 0 0)], [.row 5 false false [[.i .i64 p2, .i .i64 p3, .i .i64 p4, .sl 3 p5 5 0 p6, .lst true true 0 []]], .row 5 true false [[.i .i64 0, .i .i64 0, .i .i64 0, .lst true true 0 [], .lst true true 0 []]], .row 1 true false [[.lst true true 0 []]], .row 5 true false p7]⟩) (fun v => N (Q0_l5_0_enc p0 p1 p2 p3 p4 p5 p6 p7 v)) v
 | v => by kernel_rfl
theorem Q0_l5_0_dok (n : Nat) : LE.OK (Q0_l5_0_d (Q0_g n) n) (L tab) Q0_c5 := LE.shp (fun _ _ _ => rfl) fun ρ K y a b e => LE.rounds (Q0_Sok n) (LK.of (l := []) (by kernel_rfl) ((fun _ h => nomatch h))) (Q0_l5_0_k (Q0_g n) n _ _ _ _ _ _ _ _ K) (by kernel_rfl) (by kernel_rfl) e
theorem Q0_d5_ok (n : Nat) : LE.OK (Q0_d5 (Q0_g n) n) (L tab) Q0_c5 := altL_ok (Q0_l5_3_dok n) (altL_ok (Q0_l5_2_dok n) (altL_ok (Q0_l5_1_dok n) (Q0_l5_0_dok n)))
theorem Q0_l10_3_k (G : Q0_G) {ρ : Type} (n : Nat) (p0 p1 : Int) (p2 p3 : Int) (p4 p5 : Int) (p6 p7 : Nat) (p8 p9 : Nat) (p10 : Rows) (p11 p12 : Nat) (p13 : Rows) (K : Ex → St → Option ρ) (N : St → Option ρ) : ∀ v, roundC (Q0_S G) Q0_hs (Q0_lp G n) Q0_c10 6 N K (Q0_l10_3_enc p0 p1 p2 p3 p4 p5 p6 p7 p8 p9 p10 p11 p12 p13 v) = Q0_l10_3_s G n p0 p1 p2 p3 p4 p5 p6 p7 p8 p9 p10 p11 p12 p13 (fun w0 => K (.exit 2) ⟨[(3, .ptr 0 1 5 0 0), (6, .ptr 1 1 5 0 0)], [.row 5 false false [[.i .i64 p3, .i .i64 p4, .i .i64 p5, .sl 4 p6 5 0 p7, .sl 5 p8 13 0 p9]], .row 5 true false [[.i .i64 0, .i .i64 0, .i .i64 0, .lst true true 0 [], .lst true true 0 []]], .row 1 true false p10, .row 1 false false [[.sl 2 p11 1 0 p12]], .row 5 true false p13, .row 13 true false w0]⟩) (fun v => N (Q0_l10_3_enc p0 p1 p2 p3 p4 p5 p6 p7 p8 p9 p10 p11 p12 p13 v)) v
 | v => by kernel_rfl
theorem Q0_l10_3_dok (n : Nat) : LE.OK (Q0_l10_3_d (Q0_g n) n) (L tab) Q0_c10 := LE.shp (fun _ _ _ => rfl) fun ρ K y a b e => LE.rounds (Q0_Sok n) (LK.of (l := []) (by kernel_rfl) ((fun _ h => nomatch h))) (Q0_l10_3_k (Q0_g n) n _ _ _ _ _ _ _ _ _ _ _ _ _ _ K) (by kernel_rfl) (by kernel_rfl) e
theorem Q0_l10_1_k (G : Q0_G) {ρ : Type} (n : Nat) (p0 p1 : Int) (p2 p3 : Int) (p4 p5 : Int) (p6 p7 : Nat) (p8 p9 : Nat) (p10 : Rows) (K : Ex → St → Option ρ) (N : St → Option ρ) : ∀ v, roundC (Q0_S G) Q0_hs (Q0_lp G n) Q0_c10 5 N K (Q0_l10_1_enc p0 p1 p2 p3 p4 p5 p6 p7 p8 p9 p10 v) = Q0_l10_1_s G n p0 p1 p2 p3 p4 p5 p6 p7 p8 p9 p10 (fun w0 => K (.exit 2) ⟨[(3, .ptr 0 1 5 0 0), (6, .ptr 1 1 5 0 0)], [.row 5 false false [[.i .i64 p3, .i .i64 p4, .i .i64 p5, .sl 3 p6 5 0 p7, .sl 4 p8 13 0 p9]], .row 5 true false [[.i .i64 0, .i .i64 0, .i .i64 0, .lst true true 0 [], .lst true true 0 []]], .row 1 true false [[.lst true true 0 []]], .row 5 true false p10, .row 13 true false w0]⟩) (fun v => N (Q0_l10_1_enc p0 p1 p2 p3 p4 p5 p6 p7 p8 p9 p10 v)) v
 | v => by kernel_rfl
theorem Q0_l10_1_dok (n : Nat) : LE.OK (Q0_l10_1_d (Q0_g n) n) (L tab) Q0_c10 := LE.shp (fun _ _ _ => rfl) fun ρ K y a b e => LE.rounds (Q0_Sok n) (LK.of (l := []) (by kernel_rfl) ((fun _ h => nomatch h))) (Q0_l10_1_k (Q0_g n) n _ _ _ _ _ _ _ _ _ _ _ K) (by kernel_rfl) (by kernel_rfl) e
theorem Q0_l10_2_k (G : Q0_G) {ρ : Type} (n : Nat) (p0 p1 : Int) (p2 p3 p4 : Int) (p5 p6 : Nat) (p7 : Rows) (p8 p9 : Nat) (p10 : Rows) (K : Ex → St → Option ρ) (N : St → Option ρ) : ∀ v, roundC (Q0_S G) Q0_hs (Q0_lp G n) Q0_c10 5 N K (Q0_l10_2_enc p0 p1 p2 p3 p4 p5 p6 p7 p8 p9 p10 v) = Q0_l10_2_s G n p0 p1 p2 p3 p4 p5 p6 p7 p8 p9 p10 (K (.exit 2) ⟨[(3, .ptr 0 1 5 0 0), (6, .ptr 1 1 5 0 0)], [.row 5 false false [[.i .i64 p2, .i .i64 p3, .i .i64 p4, .sl 4 p5 5 0 p6, .lst true true 0 []]], .row 5 true false [[.i .i64 0, .i .i64 0, .i .i64 0, .lst true true 0 [], .lst true true 0 []]], .row 1 true false p7, .row 1 false false [[.sl 2 p8 1 0 p9]], .row 5 true false p10]⟩) (fun v => N (Q0_l10_2_enc p0 p1 p2 p3 p4 p5 p6 p7 p8 p9 p10 v)) v
 | v => by kernel_rfl
theorem Q0_l10_2_dok (n : Nat) : LE.OK (Q0_l10_2_d (Q0_g n) n) (L tab) Q0_c10 := LE.shp (fun _ _ _ => rfl) fun ρ K y a b e => LE.rounds (Q0_Sok n) (LK.of (l := []) (by kernel_rfl) ((fun _ h => nomatch h))) (Q0_l10_2_k (Q0_g n) n _ _ _ _ _ _ _ _ _ _ _ K) (by kernel_rfl) (by kernel_rfl) e
theorem Q0_l10_0_k (G : Q0_G) {ρ : Type} (n : Nat) (p0 p1 : Int) (p2 p3 p4 : Int) (p5 p6 : Nat) (p7 : Rows) (K : Ex → St → Option ρ) (N : St → Option ρ) : ∀ v, roundC (Q0_S G) Q0_hs (Q0_lp G n) Q0_c10 4 N K (Q0_l10_0_enc p0 p1 p2 p3 p4 p5 p6 p7 v) = Q0_l10_0_s G n p0 p1 p2 p3 p4 p5 p6 p7 (K (.exit 2) ⟨[(3, .ptr 0 1 5 0 0), (6, .ptr 1 1 5 0 0)], [.row 5 false false [[.i .i64 p2, .i .i64 p3, .i .i64 p4, .sl 3 p5 5 0 p6, .lst true true 0 []]], .row 5 true false [[.i .i64 0, .i .i64 0, .i .i64 0, .lst true true 0 [], .lst true true 0 []]], .row 1 true false [[.lst true true 0 []]], .row 5 true false p7]⟩) (fun v => N (Q0_l10_0_enc p0 p1 p2 p3 p4 p5 p6 p7 v)) v
 | v => by kernel_rfl
theorem Q0_l10_0_dok (n : Nat) : LE.OK (Q0_l10_0_d (Q0_g n) n) (L tab) Q0_c10 := LE.shp (fun _ _ _ => rfl) fun ρ K y a b e => LE.rounds (Q0_Sok n) (LK.of (l := []) (by kernel_rfl) ((fun _ h => nomatch h))) (Q0_l10_0_k (Q0_g n) n _ _ _ _ _ _ _ _ K) (by kernel_rfl) (by kernel_rfl) e
theorem Q0_d10_ok (n : Nat) : LE.OK (Q0_d10 (Q0_g n) n) (L tab) Q0_c10 := altL_ok (Q0_l10_3_dok n) (altL_ok (Q0_l10_1_dok n) (altL_ok (Q0_l10_2_dok n) (Q0_l10_0_dok n)))
theorem Q0_k (G : Q0_G) {ρ : Type} (n : Nat) (a0 a1 a2 : Int) (a3 a4 : Bool) (a5 : Rows) (a6 a7 : Bool) (a8 : Rows) (a9 a10 : Int) (K : Res → Option ρ) : runC (Q0_S G) Q0_hs (Q0_lp G n) m98 [.agg [.i .i64 a0, .i .i64 a1, .i .i64 a2, .lst a3 a4 5 a5, .lst a6 a7 13 a8], .i .i64 a9, .i .i64 a10] K = Q0_s G n a0 a1 a2 a3 a4 a5 a6 a7 a8 a9 a10 (fun w0 w1 w2 => K ⟨.agg [.i .i64 a0, .i .i64 a1, .i .i64 a2, .sl 0 w0 5 0 w1, .lst true true 0 []], [.row 5 true false w2], []⟩) (fun w0 w1 w2 w3 w4 w5 => K ⟨.agg [.i .i64 a0, .i .i64 a1, .i .i64 a2, .sl 0 w0 5 0 w1, .sl 1 w2 13 0 w3], [.row 5 true false w4, .row 13 true false w5], []⟩) := by kernel_rfl
theorem Q0_ok (n : Nat) : EK.OK (Q0_e n) 98 (L tab) := EK.shp (fun _ _ _ => rfl) fun ρ K y c e => EK.run (Q0_Sok n) (by kernel_rfl) (MF.LKOK.of (LK.of (l := [Q0_c5, Q0_c10]) (by kernel_rfl) (List.forall_mem_cons.2 ⟨LE.at (e := Q0_d5 (Q0_g n) n) (by kernel_rfl) (Q0_d5_ok n), List.forall_mem_cons.2 ⟨LE.at (e := Q0_d10 (Q0_g n) n) (by kernel_rfl) (Q0_d10_ok n), (fun _ h => nomatch h)⟩⟩))) (Q0_k (Q0_g n) n _ _ _ _ _ _ _ _ _ _ _ K) (by kernel_rfl) e
abbrev Q0y_T : Type 1 := (ρ : Type) → Int → Int → Int → Bool → Bool → Rows → Bool → Bool → Rows → Int → Int → Bool → Bool → Rows → Bool → Bool → Rows → Int → Int → Int → (Bool → Bool → Rows → Bool → Bool → Rows → Int → Option ρ) → (Nat → Nat → Rows → Option ρ) → (Nat → Nat → Nat → Nat → Rows → Rows → Option ρ) → Option ρ
def Q0y_E (G : Q0y_T) : EK := fun ρ args K => decL [.agg [.i .i64 none, .i .i64 none, .i .i64 none, .lst none none 5 none, .lst none none 13 none], .i .i64 none, .agg [.i .i64 none, .lst none none 1 none, .lst none none 1 none, .i .i64 none, .i .i64 none, .i .u64 none]] args fun c => G ρ c.1.1 c.1.2.1 c.1.2.2.1 c.1.2.2.2.1.1 c.1.2.2.2.1.2.1 c.1.2.2.2.1.2.2 c.1.2.2.2.2.1.1 c.1.2.2.2.2.1.2.1 c.1.2.2.2.2.1.2.2 c.2.1 c.2.2.1.1 c.2.2.1.2.1.1 c.2.2.1.2.1.2.1 c.2.2.1.2.1.2.2 c.2.2.1.2.2.1.1 c.2.2.1.2.2.1.2.1 c.2.2.1.2.2.1.2.2 c.2.2.1.2.2.2.1 c.2.2.1.2.2.2.2.1 c.2.2.1.2.2.2.2.2.1 (fun w0 w1 w2 w3 w4 w5 w6 => K ⟨.tup [.agg [.i .i64 c.1.1, .i .i64 c.1.2.1, .i .i64 c.1.2.2.1, .lst w0 w1 5 w2, .lst w3 w4 13 w5], .i .i64 w6], [], []⟩) (fun w0 w1 w2 => K ⟨.tup [.agg [.i .i64 c.1.1, .i .i64 c.1.2.1, .i .i64 c.1.2.2.1, .sl 0 w0 5 0 w1, .lst true true 0 []], .i .i64 0], [.row 5 true false w2], []⟩) (fun w0 w1 w2 w3 w4 w5 => K ⟨.tup [.agg [.i .i64 c.1.1, .i .i64 c.1.2.1, .i .i64 c.1.2.2.1, .sl 0 w0 5 0 w1, .sl 1 w2 13 0 w3], .i .i64 0], [.row 5 true false w4, .row 13 true false w5], []⟩)
structure Q0y_G where
 mk ::
 Ql : Ql_T
 Qt : Qt_T
 Q0l : Q0l_T
 Q0i : Q0i_T
 Qz : Qz_T
 Q08 : Q08_T
 Q00 : Q00_T
 Q0 : Q0_T
def Q0y_s (G : Q0y_G) {ρ : Type} (_n : Nat) (a0 a1 a2 : Int) (a3 a4 : Bool) (a5 : Rows) (a6 a7 : Bool) (a8 : Rows) (a9 a10 : Int) (a11 a12 : Bool) (a13 : Rows) (a14 a15 : Bool) (a16 : Rows) (a17 a18 a19 : Int) (k0 : (Bool → Bool → Rows → Bool → Bool → Rows → Int → Option ρ)) (k1 : (Nat → Nat → Rows → Option ρ)) (k2 : (Nat → Nat → Nat → Nat → Rows → Rows → Option ρ)) : Option ρ :=
 G.Ql ρ a10 a11 a12 a13 a14 a15 a16 a17 a18 a19 (fun w0_0 =>
 bif w0_0 then
 bif ((a10 : Int) != 2) then
 bif ((a10 : Int) != 3) then
 bif ((a10 : Int) != 4) then
 k0 a3 a4 a5 a6 a7 a8 1
 else G.Qt ρ a0 a1 a2 a3 a4 a5 a6 a7 a8 a9 a11 a12 a13 (fun w1_0 w1_1 w1_2 w1_3 w1_4 w1_5 =>
 bif ((w1_5 : Int) != 0) then
 k0 a3 a4 a5 a6 a7 a8 w1_5
 else bif ((a10 : Int) != 4) then
 G.Q0l ρ w1_1 w1_2 w1_3 w1_4 a17 (fun w2_0 w2_1 w2_2 w2_3 =>
 bif ((a10 : Int) == 3) then
 G.Q0i ρ w2_0 w2_1 w2_2 w2_3 a18 (fun w3_0 w3_1 w3_2 w3_3 w3_4 =>
 bif ((w3_4 : Int) != 0) then
 k0 a3 a4 a5 a6 a7 a8 w3_4
 else G.Qz ρ a0 a1 a2 a3 a4 a5 a6 a7 a8 a9 a14 a15 a16 (fun w4_0 w4_1 =>
 bif ((w4_1 : Int) != 0) then
 k0 a3 a4 a5 a6 a7 a8 w4_1
 else bif ((a10 : Int) != 4) then
 G.Q08 ρ a0 a1 a2 a3 a4 a5 a6 a7 a8 w1_0 w4_0 w3_0 w3_1 w3_2 w3_3 (fun w5_0 w5_1 w5_2 w5_3 w5_4 w5_5 w5_6 =>
 k0 w5_0 w5_1 w5_2 w5_3 w5_4 w5_5 w5_6)
 else G.Q00 ρ a0 a1 a2 a3 a4 a5 a6 a7 a8 w3_0 w3_1 w3_2 w3_3 w4_0 (fun w6_0 =>
 bif w6_0 then
 k0 a3 a4 a5 a6 a7 a8 1
 else G.Q0 ρ a0 a1 a2 a3 a4 a5 a6 a7 a8 w1_0 w4_0 (fun w7_0 w7_1 w7_2 =>
 k1 w7_0 w7_1 w7_2) (fun w8_0 w8_1 w8_2 w8_3 w8_4 w8_5 =>
 k2 w8_0 w8_1 w8_2 w8_3 w8_4 w8_5))))
 else G.Qz ρ a0 a1 a2 a3 a4 a5 a6 a7 a8 a9 a14 a15 a16 (fun w9_0 w9_1 =>
 bif ((w9_1 : Int) != 0) then
 k0 a3 a4 a5 a6 a7 a8 w9_1
 else bif ((a10 : Int) != 4) then
 G.Q08 ρ a0 a1 a2 a3 a4 a5 a6 a7 a8 w1_0 w9_0 w2_0 w2_1 w2_2 w2_3 (fun w10_0 w10_1 w10_2 w10_3 w10_4 w10_5 w10_6 =>
 k0 w10_0 w10_1 w10_2 w10_3 w10_4 w10_5 w10_6)
 else G.Q00 ρ a0 a1 a2 a3 a4 a5 a6 a7 a8 w2_0 w2_1 w2_2 w2_3 w9_0 (fun w11_0 =>
 bif w11_0 then
 k0 a3 a4 a5 a6 a7 a8 1
 else G.Q0 ρ a0 a1 a2 a3 a4 a5 a6 a7 a8 w1_0 w9_0 (fun w12_0 w12_1 w12_2 =>
 k1 w12_0 w12_1 w12_2) (fun w13_0 w13_1 w13_2 w13_3 w13_4 w13_5 =>
 k2 w13_0 w13_1 w13_2 w13_3 w13_4 w13_5))))
 else bif ((a10 : Int) == 3) then
 G.Q0i ρ w1_1 w1_2 w1_3 w1_4 a18 (fun w14_0 w14_1 w14_2 w14_3 w14_4 =>
 bif ((w14_4 : Int) != 0) then
 k0 a3 a4 a5 a6 a7 a8 w14_4
 else G.Qz ρ a0 a1 a2 a3 a4 a5 a6 a7 a8 a9 a14 a15 a16 (fun w15_0 w15_1 =>
 bif ((w15_1 : Int) != 0) then
 k0 a3 a4 a5 a6 a7 a8 w15_1
 else bif ((a10 : Int) != 4) then
 G.Q08 ρ a0 a1 a2 a3 a4 a5 a6 a7 a8 w1_0 w15_0 w14_0 w14_1 w14_2 w14_3 (fun w16_0 w16_1 w16_2 w16_3 w16_4 w16_5 w16_6 =>
 k0 w16_0 w16_1 w16_2 w16_3 w16_4 w16_5 w16_6)
 else G.Q00 ρ a0 a1 a2 a3 a4 a5 a6 a7 a8 w14_0 w14_1 w14_2 w14_3 w15_0 (fun w17_0 =>
 bif w17_0 then
 k0 a3 a4 a5 a6 a7 a8 1
 else G.Q0 ρ a0 a1 a2 a3 a4 a5 a6 a7 a8 w1_0 w15_0 (fun w18_0 w18_1 w18_2 =>
 k1 w18_0 w18_1 w18_2) (fun w19_0 w19_1 w19_2 w19_3 w19_4 w19_5 =>
 k2 w19_0 w19_1 w19_2 w19_3 w19_4 w19_5))))
 else G.Qz ρ a0 a1 a2 a3 a4 a5 a6 a7 a8 a9 a14 a15 a16 (fun w20_0 w20_1 =>
 bif ((w20_1 : Int) != 0) then
 k0 a3 a4 a5 a6 a7 a8 w20_1
 else bif ((a10 : Int) != 4) then
 G.Q08 ρ a0 a1 a2 a3 a4 a5 a6 a7 a8 w1_0 w20_0 w1_1 w1_2 w1_3 w1_4 (fun w21_0 w21_1 w21_2 w21_3 w21_4 w21_5 w21_6 =>
 k0 w21_0 w21_1 w21_2 w21_3 w21_4 w21_5 w21_6)
 else G.Q00 ρ a0 a1 a2 a3 a4 a5 a6 a7 a8 w1_1 w1_2 w1_3 w1_4 w20_0 (fun w22_0 =>
 bif w22_0 then
 k0 a3 a4 a5 a6 a7 a8 1
 else G.Q0 ρ a0 a1 a2 a3 a4 a5 a6 a7 a8 w1_0 w20_0 (fun w23_0 w23_1 w23_2 =>
 k1 w23_0 w23_1 w23_2) (fun w24_0 w24_1 w24_2 w24_3 w24_4 w24_5 =>
 k2 w24_0 w24_1 w24_2 w24_3 w24_4 w24_5))))
 else G.Qt ρ a0 a1 a2 a3 a4 a5 a6 a7 a8 a9 a11 a12 a13 (fun w25_0 w25_1 w25_2 w25_3 w25_4 w25_5 =>
 bif ((w25_5 : Int) != 0) then
 k0 a3 a4 a5 a6 a7 a8 w25_5
 else bif ((a10 : Int) != 4) then
 G.Q0l ρ w25_1 w25_2 w25_3 w25_4 a17 (fun w26_0 w26_1 w26_2 w26_3 =>
 bif ((a10 : Int) == 3) then
 G.Q0i ρ w26_0 w26_1 w26_2 w26_3 a18 (fun w27_0 w27_1 w27_2 w27_3 w27_4 =>
 bif ((w27_4 : Int) != 0) then
 k0 a3 a4 a5 a6 a7 a8 w27_4
 else G.Qz ρ a0 a1 a2 a3 a4 a5 a6 a7 a8 a9 a14 a15 a16 (fun w28_0 w28_1 =>
 bif ((w28_1 : Int) != 0) then
 k0 a3 a4 a5 a6 a7 a8 w28_1
 else bif ((a10 : Int) != 4) then
 G.Q08 ρ a0 a1 a2 a3 a4 a5 a6 a7 a8 w25_0 w28_0 w27_0 w27_1 w27_2 w27_3 (fun w29_0 w29_1 w29_2 w29_3 w29_4 w29_5 w29_6 =>
 k0 w29_0 w29_1 w29_2 w29_3 w29_4 w29_5 w29_6)
 else G.Q00 ρ a0 a1 a2 a3 a4 a5 a6 a7 a8 w27_0 w27_1 w27_2 w27_3 w28_0 (fun w30_0 =>
 bif w30_0 then
 k0 a3 a4 a5 a6 a7 a8 1
 else G.Q0 ρ a0 a1 a2 a3 a4 a5 a6 a7 a8 w25_0 w28_0 (fun w31_0 w31_1 w31_2 =>
 k1 w31_0 w31_1 w31_2) (fun w32_0 w32_1 w32_2 w32_3 w32_4 w32_5 =>
 k2 w32_0 w32_1 w32_2 w32_3 w32_4 w32_5))))
 else G.Qz ρ a0 a1 a2 a3 a4 a5 a6 a7 a8 a9 a14 a15 a16 (fun w33_0 w33_1 =>
 bif ((w33_1 : Int) != 0) then
 k0 a3 a4 a5 a6 a7 a8 w33_1
 else bif ((a10 : Int) != 4) then
 G.Q08 ρ a0 a1 a2 a3 a4 a5 a6 a7 a8 w25_0 w33_0 w26_0 w26_1 w26_2 w26_3 (fun w34_0 w34_1 w34_2 w34_3 w34_4 w34_5 w34_6 =>
 k0 w34_0 w34_1 w34_2 w34_3 w34_4 w34_5 w34_6)
 else G.Q00 ρ a0 a1 a2 a3 a4 a5 a6 a7 a8 w26_0 w26_1 w26_2 w26_3 w33_0 (fun w35_0 =>
 bif w35_0 then
 k0 a3 a4 a5 a6 a7 a8 1
 else G.Q0 ρ a0 a1 a2 a3 a4 a5 a6 a7 a8 w25_0 w33_0 (fun w36_0 w36_1 w36_2 =>
 k1 w36_0 w36_1 w36_2) (fun w37_0 w37_1 w37_2 w37_3 w37_4 w37_5 =>
 k2 w37_0 w37_1 w37_2 w37_3 w37_4 w37_5))))
 else bif ((a10 : Int) == 3) then
 G.Q0i ρ w25_1 w25_2 w25_3 w25_4 a18 (fun w38_0 w38_1 w38_2 w38_3 w38_4 =>
 bif ((w38_4 : Int) != 0) then
 k0 a3 a4 a5 a6 a7 a8 w38_4
 else G.Qz ρ a0 a1 a2 a3 a4 a5 a6 a7 a8 a9 a14 a15 a16 (fun w39_0 w39_1 =>
 bif ((w39_1 : Int) != 0) then
 k0 a3 a4 a5 a6 a7 a8 w39_1
 else bif ((a10 : Int) != 4) then
 G.Q08 ρ a0 a1 a2 a3 a4 a5 a6 a7 a8 w25_0 w39_0 w38_0 w38_1 w38_2 w38_3 (fun w40_0 w40_1 w40_2 w40_3 w40_4 w40_5 w40_6 =>
 k0 w40_0 w40_1 w40_2 w40_3 w40_4 w40_5 w40_6)
 else G.Q00 ρ a0 a1 a2 a3 a4 a5 a6 a7 a8 w38_0 w38_1 w38_2 w38_3 w39_0 (fun w41_0 =>
 bif w41_0 then
 k0 a3 a4 a5 a6 a7 a8 1
 else G.Q0 ρ a0 a1 a2 a3 a4 a5 a6 a7 a8 w25_0 w39_0 (fun w42_0 w42_1 w42_2 =>
 k1 w42_0 w42_1 w42_2) (fun w43_0 w43_1 w43_2 w43_3 w43_4 w43_5 =>
 k2 w43_0 w43_1 w43_2 w43_3 w43_4 w43_5))))
 else G.Qz ρ a0 a1 a2 a3 a4 a5 a6 a7 a8 a9 a14 a15 a16 (fun w44_0 w44_1 =>
 bif ((w44_1 : Int) != 0) then
 k0 a3 a4 a5 a6 a7 a8 w44_1
 else bif ((a10 : Int) != 4) then
 G.Q08 ρ a0 a1 a2 a3 a4 a5 a6 a7 a8 w25_0 w44_0 w25_1 w25_2 w25_3 w25_4 (fun w45_0 w45_1 w45_2 w45_3 w45_4 w45_5 w45_6 =>
 k0 w45_0 w45_1 w45_2 w45_3 w45_4 w45_5 w45_6)
 else G.Q00 ρ a0 a1 a2 a3 a4 a5 a6 a7 a8 w25_1 w25_2 w25_3 w25_4 w44_0 (fun w46_0 =>
 bif w46_0 then
 k0 a3 a4 a5 a6 a7 a8 1
 else G.Q0 ρ a0 a1 a2 a3 a4 a5 a6 a7 a8 w25_0 w44_0 (fun w47_0 w47_1 w47_2 =>
 k1 w47_0 w47_1 w47_2) (fun w48_0 w48_1 w48_2 w48_3 w48_4 w48_5 =>
 k2 w48_0 w48_1 w48_2 w48_3 w48_4 w48_5))))
 else G.Qt ρ a0 a1 a2 a3 a4 a5 a6 a7 a8 a9 a11 a12 a13 (fun w49_0 w49_1 w49_2 w49_3 w49_4 w49_5 =>
 bif ((w49_5 : Int) != 0) then
 k0 a3 a4 a5 a6 a7 a8 w49_5
 else bif ((a10 : Int) != 4) then
 G.Q0l ρ w49_1 w49_2 w49_3 w49_4 a17 (fun w50_0 w50_1 w50_2 w50_3 =>
 bif ((a10 : Int) == 3) then
 G.Q0i ρ w50_0 w50_1 w50_2 w50_3 a18 (fun w51_0 w51_1 w51_2 w51_3 w51_4 =>
 bif ((w51_4 : Int) != 0) then
 k0 a3 a4 a5 a6 a7 a8 w51_4
 else G.Qz ρ a0 a1 a2 a3 a4 a5 a6 a7 a8 a9 a14 a15 a16 (fun w52_0 w52_1 =>
 bif ((w52_1 : Int) != 0) then
 k0 a3 a4 a5 a6 a7 a8 w52_1
 else bif ((a10 : Int) != 4) then
 G.Q08 ρ a0 a1 a2 a3 a4 a5 a6 a7 a8 w49_0 w52_0 w51_0 w51_1 w51_2 w51_3 (fun w53_0 w53_1 w53_2 w53_3 w53_4 w53_5 w53_6 =>
 k0 w53_0 w53_1 w53_2 w53_3 w53_4 w53_5 w53_6)
 else G.Q00 ρ a0 a1 a2 a3 a4 a5 a6 a7 a8 w51_0 w51_1 w51_2 w51_3 w52_0 (fun w54_0 =>
 bif w54_0 then
 k0 a3 a4 a5 a6 a7 a8 1
 else G.Q0 ρ a0 a1 a2 a3 a4 a5 a6 a7 a8 w49_0 w52_0 (fun w55_0 w55_1 w55_2 =>
 k1 w55_0 w55_1 w55_2) (fun w56_0 w56_1 w56_2 w56_3 w56_4 w56_5 =>
 k2 w56_0 w56_1 w56_2 w56_3 w56_4 w56_5))))
 else G.Qz ρ a0 a1 a2 a3 a4 a5 a6 a7 a8 a9 a14 a15 a16 (fun w57_0 w57_1 =>
 bif ((w57_1 : Int) != 0) then
 k0 a3 a4 a5 a6 a7 a8 w57_1
 else bif ((a10 : Int) != 4) then
 G.Q08 ρ a0 a1 a2 a3 a4 a5 a6 a7 a8 w49_0 w57_0 w50_0 w50_1 w50_2 w50_3 (fun w58_0 w58_1 w58_2 w58_3 w58_4 w58_5 w58_6 =>
 k0 w58_0 w58_1 w58_2 w58_3 w58_4 w58_5 w58_6)
 else G.Q00 ρ a0 a1 a2 a3 a4 a5 a6 a7 a8 w50_0 w50_1 w50_2 w50_3 w57_0 (fun w59_0 =>
 bif w59_0 then
 k0 a3 a4 a5 a6 a7 a8 1
 else G.Q0 ρ a0 a1 a2 a3 a4 a5 a6 a7 a8 w49_0 w57_0 (fun w60_0 w60_1 w60_2 =>
 k1 w60_0 w60_1 w60_2) (fun w61_0 w61_1 w61_2 w61_3 w61_4 w61_5 =>
 k2 w61_0 w61_1 w61_2 w61_3 w61_4 w61_5))))
 else bif ((a10 : Int) == 3) then
 G.Q0i ρ w49_1 w49_2 w49_3 w49_4 a18 (fun w62_0 w62_1 w62_2 w62_3 w62_4 =>
 bif ((w62_4 : Int) != 0) then
 k0 a3 a4 a5 a6 a7 a8 w62_4
 else G.Qz ρ a0 a1 a2 a3 a4 a5 a6 a7 a8 a9 a14 a15 a16 (fun w63_0 w63_1 =>
 bif ((w63_1 : Int) != 0) then
 k0 a3 a4 a5 a6 a7 a8 w63_1
 else bif ((a10 : Int) != 4) then
 G.Q08 ρ a0 a1 a2 a3 a4 a5 a6 a7 a8 w49_0 w63_0 w62_0 w62_1 w62_2 w62_3 (fun w64_0 w64_1 w64_2 w64_3 w64_4 w64_5 w64_6 =>
 k0 w64_0 w64_1 w64_2 w64_3 w64_4 w64_5 w64_6)
 else G.Q00 ρ a0 a1 a2 a3 a4 a5 a6 a7 a8 w62_0 w62_1 w62_2 w62_3 w63_0 (fun w65_0 =>
 bif w65_0 then
 k0 a3 a4 a5 a6 a7 a8 1
 else G.Q0 ρ a0 a1 a2 a3 a4 a5 a6 a7 a8 w49_0 w63_0 (fun w66_0 w66_1 w66_2 =>
 k1 w66_0 w66_1 w66_2) (fun w67_0 w67_1 w67_2 w67_3 w67_4 w67_5 =>
 k2 w67_0 w67_1 w67_2 w67_3 w67_4 w67_5))))
 else G.Qz ρ a0 a1 a2 a3 a4 a5 a6 a7 a8 a9 a14 a15 a16 (fun w68_0 w68_1 =>
 bif ((w68_1 : Int) != 0) then
 k0 a3 a4 a5 a6 a7 a8 w68_1
 else bif ((a10 : Int) != 4) then
 G.Q08 ρ a0 a1 a2 a3 a4 a5 a6 a7 a8 w49_0 w68_0 w49_1 w49_2 w49_3 w49_4 (fun w69_0 w69_1 w69_2 w69_3 w69_4 w69_5 w69_6 =>
 k0 w69_0 w69_1 w69_2 w69_3 w69_4 w69_5 w69_6)
 else G.Q00 ρ a0 a1 a2 a3 a4 a5 a6 a7 a8 w49_1 w49_2 w49_3 w49_4 w68_0 (fun w70_0 =>
 bif w70_0 then
 k0 a3 a4 a5 a6 a7 a8 1
 else G.Q0 ρ a0 a1 a2 a3 a4 a5 a6 a7 a8 w49_0 w68_0 (fun w71_0 w71_1 w71_2 =>
 k1 w71_0 w71_1 w71_2) (fun w72_0 w72_1 w72_2 w72_3 w72_4 w72_5 =>
 k2 w72_0 w72_1 w72_2 w72_3 w72_4 w72_5))))
 else k0 a3 a4 a5 a6 a7 a8 1)
def Q0y_g (n : Nat) : Q0y_G := ⟨Ql n, Qt n, Q0l n, Q0i n, Qz n, Q08 n, Q00 n, Q0 n⟩
def Q0y (n : Nat) : Q0y_T := fun _ρ a0 a1 a2 a3 a4 a5 a6 a7 a8 a9 a10 a11 a12 a13 a14 a15 a16 a17 a18 a19 k0 k1 k2 => Q0y_s (Q0y_g n) n a0 a1 a2 a3 a4 a5 a6 a7 a8 a9 a10 a11 a12 a13 a14 a15 a16 a17 a18 a19 k0 k1 k2
def Q0y_e (n : Nat) : EK := Q0y_E (Q0y n)
def Q0y_S (G : Q0y_G) : CK := tabS [(27, Ql_E G.Ql), (16, Qt_E G.Qt), (94, Q0l_E G.Q0l), (95, Q0i_E G.Q0i), (88, Qz_E G.Qz), (96, Q08_E G.Q08), (97, Q00_E G.Q00), (98, Q0_E G.Q0)]
theorem Q0y_Sok (n : Nat) : CK.OK (Q0y_S (Q0y_g n)) (L tab) := tabS_ok _ (List.forall_mem_cons.2 ⟨(Ql_ok n), List.forall_mem_cons.2 ⟨(Qt_ok n), List.forall_mem_cons.2 ⟨(Q0l_ok n), List.forall_mem_cons.2 ⟨(Q0i_ok n), List.forall_mem_cons.2 ⟨(Qz_ok n), List.forall_mem_cons.2 ⟨(Q08_ok n), List.forall_mem_cons.2 ⟨(Q00_ok n), List.forall_mem_cons.2 ⟨(Q0_ok n), (fun _ h => nomatch h)⟩⟩⟩⟩⟩⟩⟩⟩)
def Q0y_hs : HintC := hintL []
def Q0y_lp (_G : Q0y_G) (_n : Nat) : LK := tabL []
theorem Q0y_k (G : Q0y_G) {ρ : Type} (n : Nat) (a0 a1 a2 : Int) (a3 a4 : Bool) (a5 : Rows) (a6 a7 : Bool) (a8 : Rows) (a9 a10 : Int) (a11 a12 : Bool) (a13 : Rows) (a14 a15 : Bool) (a16 : Rows) (a17 a18 a19 : Int) (K : Res → Option ρ) : runC (Q0y_S G) Q0y_hs (Q0y_lp G n) m76 [.agg [.i .i64 a0, .i .i64 a1, .i .i64 a2, .lst a3 a4 5 a5, .lst a6 a7 13 a8], .i .i64 a9, .agg [.i .i64 a10, .lst a11 a12 1 a13, .lst a14 a15 1 a16, .i .i64 a17, .i .i64 a18, .i .u64 a19]] K = Q0y_s G n a0 a1 a2 a3 a4 a5 a6 a7 a8 a9 a10 a11 a12 a13 a14 a15 a16 a17 a18 a19 (fun w0 w1 w2 w3 w4 w5 w6 => K ⟨.tup [.agg [.i .i64 a0, .i .i64 a1, .i .i64 a2, .lst w0 w1 5 w2, .lst w3 w4 13 w5], .i .i64 w6], [], []⟩) (fun w0 w1 w2 => K ⟨.tup [.agg [.i .i64 a0, .i .i64 a1, .i .i64 a2, .sl 0 w0 5 0 w1, .lst true true 0 []], .i .i64 0], [.row 5 true false w2], []⟩) (fun w0 w1 w2 w3 w4 w5 => K ⟨.tup [.agg [.i .i64 a0, .i .i64 a1, .i .i64 a2, .sl 0 w0 5 0 w1, .sl 1 w2 13 0 w3], .i .i64 0], [.row 5 true false w4, .row 13 true false w5], []⟩) := by kernel_rfl
theorem Q0y_ok (n : Nat) : EK.OK (Q0y_e n) 76 (L tab) := EK.shp (fun _ _ _ => rfl) fun ρ K y c e => EK.run (Q0y_Sok n) (by kernel_rfl) (MF.LKOK.of (LK.of (l := []) (by kernel_rfl) ((fun _ h => nomatch h)))) (Q0y_k (Q0y_g n) n _ _ _ _ _ _ _ _ _ _ _ _ _ _ _ _ _ _ _ _ K) (by kernel_rfl) e
abbrev Q0n_T : Type 1 := (ρ : Type) → Int → Int → Int → Bool → Bool → Rows → Bool → Bool → Rows → Int → Int → Bool → Bool → Rows → Bool → Bool → Rows → Int → Int → Int → (Bool → Bool → Rows → Bool → Bool → Rows → Int → Option ρ) → Option ρ
def Q0n_E (G : Q0n_T) : EK := fun ρ args K => decL [.agg [.i .i64 none, .i .i64 none, .i .i64 none, .lst none none 5 none, .lst none none 13 none], .i .i64 none, .agg [.i .i64 none, .lst none none 1 none, .lst none none 1 none, .i .i64 none, .i .i64 none, .i .u64 none]] args fun c => G ρ c.1.1 c.1.2.1 c.1.2.2.1 c.1.2.2.2.1.1 c.1.2.2.2.1.2.1 c.1.2.2.2.1.2.2 c.1.2.2.2.2.1.1 c.1.2.2.2.2.1.2.1 c.1.2.2.2.2.1.2.2 c.2.1 c.2.2.1.1 c.2.2.1.2.1.1 c.2.2.1.2.1.2.1 c.2.2.1.2.1.2.2 c.2.2.1.2.2.1.1 c.2.2.1.2.2.1.2.1 c.2.2.1.2.2.1.2.2 c.2.2.1.2.2.2.1 c.2.2.1.2.2.2.2.1 c.2.2.1.2.2.2.2.2.1 (fun w0 w1 w2 w3 w4 w5 w6 => K ⟨.tup [.agg [.i .i64 c.1.1, .i .i64 c.1.2.1, .i .i64 c.1.2.2.1, .lst w0 w1 5 w2, .lst w3 w4 13 w5], .agg [.i .i64 w6, .i .u64 0, .i .i64 0]], [], []⟩)
structure Q0n_G where
 mk ::
 Q0y : Q0y_T
def Q0n_s (G : Q0n_G) {ρ : Type} (_n : Nat) (a0 a1 a2 : Int) (a3 a4 : Bool) (a5 : Rows) (a6 a7 : Bool) (a8 : Rows) (a9 a10 : Int) (a11 a12 : Bool) (a13 : Rows) (a14 a15 : Bool) (a16 : Rows) (a17 a18 a19 : Int) (k0 : (Bool → Bool → Rows → Bool → Bool → Rows → Int → Option ρ)) : Option ρ :=
 G.Q0y ρ a0 a1 a2 a3 a4 a5 a6 a7 a8 a9 a10 a11 a12 a13 a14 a15 a16 a17 a18 a19 (fun w0_0 w0_1 w0_2 w0_3 w0_4 w0_5 w0_6 =>
 bif ((w0_6 : Int) != 0) then
 k0 a3 a4 a5 a6 a7 a8 w0_6
 else k0 w0_0 w0_1 w0_2 w0_3 w0_4 w0_5 0) (fun w1_0 w1_1 w1_2 =>
 chk (((List.length (w1_2 : Rows)) : Nat) == w1_0) <|
 k0 false false (List.take w1_1 (List.drop 0 (w1_2 : Rows))) true true [] 0) (fun w2_0 w2_1 w2_2 w2_3 w2_4 w2_5 =>
 chk (((List.length (w2_4 : Rows)) : Nat) == w2_0) <|
 chk (((List.length (w2_5 : Rows)) : Nat) == w2_2) <|
 k0 false false (List.take w2_1 (List.drop 0 (w2_4 : Rows))) false false (List.take w2_3 (List.drop 0 (w2_5 : Rows))) 0)
def Q0n_g (n : Nat) : Q0n_G := ⟨Q0y n⟩
def Q0n (n : Nat) : Q0n_T := fun _ρ a0 a1 a2 a3 a4 a5 a6 a7 a8 a9 a10 a11 a12 a13 a14 a15 a16 a17 a18 a19 k0 => Q0n_s (Q0n_g n) n a0 a1 a2 a3 a4 a5 a6 a7 a8 a9 a10 a11 a12 a13 a14 a15 a16 a17 a18 a19 k0
def Q0n_e (n : Nat) : EK := Q0n_E (Q0n n)
def Q0n_S (G : Q0n_G) : CK := tabS [(76, Q0y_E G.Q0y)]
theorem Q0n_Sok (n : Nat) : CK.OK (Q0n_S (Q0n_g n)) (L tab) := tabS_ok _ (List.forall_mem_cons.2 ⟨(Q0y_ok n), (fun _ h => nomatch h)⟩)
def Q0n_hs : HintC := hintL []
def Q0n_lp (_G : Q0n_G) (_n : Nat) : LK := tabL []
theorem Q0n_k (G : Q0n_G) {ρ : Type} (n : Nat) (a0 a1 a2 : Int) (a3 a4 : Bool) (a5 : Rows) (a6 a7 : Bool) (a8 : Rows) (a9 a10 : Int) (a11 a12 : Bool) (a13 : Rows) (a14 a15 : Bool) (a16 : Rows) (a17 a18 a19 : Int) (K : Res → Option ρ) : runC (Q0n_S G) Q0n_hs (Q0n_lp G n) m43 [.agg [.i .i64 a0, .i .i64 a1, .i .i64 a2, .lst a3 a4 5 a5, .lst a6 a7 13 a8], .i .i64 a9, .agg [.i .i64 a10, .lst a11 a12 1 a13, .lst a14 a15 1 a16, .i .i64 a17, .i .i64 a18, .i .u64 a19]] K = Q0n_s G n a0 a1 a2 a3 a4 a5 a6 a7 a8 a9 a10 a11 a12 a13 a14 a15 a16 a17 a18 a19 (fun w0 w1 w2 w3 w4 w5 w6 => K ⟨.tup [.agg [.i .i64 a0, .i .i64 a1, .i .i64 a2, .lst w0 w1 5 w2, .lst w3 w4 13 w5], .agg [.i .i64 w6, .i .u64 0, .i .i64 0]], [], []⟩) := by kernel_rfl
theorem Q0n_ok (n : Nat) : EK.OK (Q0n_e n) 43 (L tab) := EK.shp (fun _ _ _ => rfl) fun ρ K y c e => EK.run (Q0n_Sok n) (by kernel_rfl) (MF.LKOK.of (LK.of (l := []) (by kernel_rfl) ((fun _ h => nomatch h)))) (Q0n_k (Q0n_g n) n _ _ _ _ _ _ _ _ _ _ _ _ _ _ _ _ _ _ _ _ K) (by kernel_rfl) e
abbrev Q0q_T : Type 1 := (ρ : Type) → (Int → Int → Int → Bool → Bool → Rows → Bool → Bool → Rows → Option ρ) → Option ρ
def Q0q_E (G : Q0q_T) : EK := fun ρ args K => decL [] args fun _c => G ρ (fun w0 w1 w2 w3 w4 w5 w6 w7 w8 => K ⟨.agg [.i .i64 w0, .i .i64 w1, .i .i64 w2, .lst w3 w4 5 w5, .lst w6 w7 13 w8], [], []⟩)
structure Q0q_G where
 mk ::
 Q0p : Q0p_T
 reevelaw20_way : reevelaw20_way_T
 Q0z : Q0z_T
 Q0n : Q0n_T
def Q0q_s (G : Q0q_G) {ρ : Type} (_n : Nat)  (k0 : (Int → Int → Int → Bool → Bool → Rows → Bool → Bool → Rows → Option ρ)) : Option ρ :=
 G.Q0p ρ (fun w0_0 w0_1 w0_2 w0_3 w0_4 w0_5 w0_6 w0_7 w0_8 =>
 G.reevelaw20_way ρ false false ([[.i .i64 0]]) (bs (stayR ⟨.agg [.lst false false 1 ([[.i .i64 0]])], [], []⟩) <|
 G.reevelaw20_way ρ false false ([[.i .i64 3]]) (bs (stayR ⟨.agg [.lst false false 1 ([[.i .i64 3]])], [], []⟩) <|
 G.Q0z ρ w0_0 w0_1 w0_2 w0_3 w0_4 w0_5 w0_6 w0_7 w0_8 0 1 false false ([[.i .i64 0]]) false false ([[.i .i64 3]]) 5 0 0 (fun w3_0 w3_1 w3_2 w3_3 w3_4 w3_5 _w3_6 _w3_7 =>
 G.reevelaw20_way ρ false false ([[.i .i64 3]]) (bs (stayR ⟨.agg [.lst false false 1 ([[.i .i64 3]])], [], []⟩) <|
 G.reevelaw20_way ρ false false ([[.i .i64 4]]) (bs (stayR ⟨.agg [.lst false false 1 ([[.i .i64 4]])], [], []⟩) <|
 G.Q0n ρ w0_0 w0_1 w0_2 w3_0 w3_1 w3_2 w3_3 w3_4 w3_5 0 2 false false ([[.i .i64 3]]) false false ([[.i .i64 4]]) 1 0 0 (fun w6_0 w6_1 w6_2 w6_3 w6_4 w6_5 _w6_6 =>
 G.reevelaw20_way ρ false false ([[.i .i64 3]]) (bs (stayR ⟨.agg [.lst false false 1 ([[.i .i64 3]])], [], []⟩) <|
 G.reevelaw20_way ρ false false ([[.i .i64 5]]) (bs (stayR ⟨.agg [.lst false false 1 ([[.i .i64 5]])], [], []⟩) <|
 G.Q0n ρ w0_0 w0_1 w0_2 w6_0 w6_1 w6_2 w6_3 w6_4 w6_5 0 2 false false ([[.i .i64 3]]) false false ([[.i .i64 5]]) 2 0 0 (fun w9_0 w9_1 w9_2 w9_3 w9_4 w9_5 _w9_6 =>
 k0 w0_0 w0_1 w0_2 w9_0 w9_1 w9_2 w9_3 w9_4 w9_5))))))))))
def Q0q_g (n : Nat) : Q0q_G := ⟨Q0p n, reevelaw20_way n, Q0z n, Q0n n⟩
def Q0q (n : Nat) : Q0q_T := fun _ρ k0 => Q0q_s (Q0q_g n) n k0
def Q0q_e (n : Nat) : EK := Q0q_E (Q0q n)
def Q0q_S (G : Q0q_G) : CK := tabS [(60, Q0p_E G.Q0p), (13, reevelaw20_way_E G.reevelaw20_way), (41, Q0z_E G.Q0z), (43, Q0n_E G.Q0n)]
theorem Q0q_Sok (n : Nat) : CK.OK (Q0q_S (Q0q_g n)) (L tab) := tabS_ok _ (List.forall_mem_cons.2 ⟨(Q0p_ok n), List.forall_mem_cons.2 ⟨(reevelaw20_way_ok n), List.forall_mem_cons.2 ⟨(Q0z_ok n), List.forall_mem_cons.2 ⟨(Q0n_ok n), (fun _ h => nomatch h)⟩⟩⟩⟩)
def Q0q_hs : HintC := hintL []
def Q0q_lp (_G : Q0q_G) (_n : Nat) : LK := tabL []
theorem Q0q_k (G : Q0q_G) {ρ : Type} (n : Nat)  (K : Res → Option ρ) : runC (Q0q_S G) Q0q_hs (Q0q_lp G n) m32 [] K = Q0q_s G n  (fun w0 w1 w2 w3 w4 w5 w6 w7 w8 => K ⟨.agg [.i .i64 w0, .i .i64 w1, .i .i64 w2, .lst w3 w4 5 w5, .lst w6 w7 13 w8], [], []⟩) := by kernel_rfl
theorem Q0q_ok (n : Nat) : EK.OK (Q0q_e n) 32 (L tab) := EK.shp (fun _ _ _ => rfl) fun ρ K y c e => EK.run (Q0q_Sok n) (by kernel_rfl) (MF.LKOK.of (LK.of (l := []) (by kernel_rfl) ((fun _ h => nomatch h)))) (Q0q_k (Q0q_g n) n  K) (by kernel_rfl) e
abbrev Q5_i1_T : Type 1 := (ρ : Type) → Bool → Bool → (Option ρ) → Option ρ
def Q5_i1_E (G : Q5_i1_T) : EK := fun ρ args K => decL [.agg [.lst none none 0 (some [])]] args fun c => G ρ c.1.1.1 c.1.1.2.1 (K ⟨.b false, [], []⟩)
structure Q5_i1_G where
 mk ::
def Q5_i1_s (_G : Q5_i1_G) {ρ : Type} (_n : Nat) (_a0 _a1 : Bool) (k0 : (Option ρ)) : Option ρ :=
 k0
def Q5_i1_g (_n : Nat) : Q5_i1_G := ⟨⟩
def Q5_i1 (n : Nat) : Q5_i1_T := fun _ρ a0 a1 k0 => Q5_i1_s (Q5_i1_g n) n a0 a1 k0
def Q5_i1_e (n : Nat) : EK := Q5_i1_E (Q5_i1 n)
def Q5_i1_S (_G : Q5_i1_G) : CK := tabS []
theorem Q5_i1_Sok (n : Nat) : CK.OK (Q5_i1_S (Q5_i1_g n)) (L tab) := tabS_ok _ ((fun _ h => nomatch h))
def Q5_i1_hs : HintC := hintL []
def Q5_i1_lp (_G : Q5_i1_G) (_n : Nat) : LK := tabL []
theorem Q5_i1_k (G : Q5_i1_G) {ρ : Type} (n : Nat) (a0 a1 : Bool) (K : Res → Option ρ) : runC (Q5_i1_S G) Q5_i1_hs (Q5_i1_lp G n) m54 [.agg [.lst a0 a1 0 []]] K = Q5_i1_s G n a0 a1 (K ⟨.b false, [], []⟩) := by kernel_rfl
theorem Q5_i1_ok (n : Nat) : EK.OK (Q5_i1_e n) 54 (L tab) := EK.shp (fun _ _ _ => rfl) fun ρ K y c e => EK.run (Q5_i1_Sok n) (by kernel_rfl) (MF.LKOK.of (LK.of (l := []) (by kernel_rfl) ((fun _ h => nomatch h)))) (Q5_i1_k (Q5_i1_g n) n _ _ K) (by kernel_rfl) e
abbrev Q0m_T : Type 1 := (ρ : Type) → Int → Bool → Bool → Rows → Bool → Bool → Int → Int → Int → (Bool → Option ρ) → Option ρ
def Q0m_E (G : Q0m_T) : EK := fun ρ args K => decL [.agg [.i .i64 none, .lst none none 1 none, .lst none none 0 (some []), .i .i64 none, .i .i64 none, .i .u64 none]] args fun c => G ρ c.1.1 c.1.2.1.1 c.1.2.1.2.1 c.1.2.1.2.2 c.1.2.2.1.1 c.1.2.2.1.2.1 c.1.2.2.2.1 c.1.2.2.2.2.1 c.1.2.2.2.2.2.1 (fun w0 => K ⟨.b w0, [], []⟩)
structure Q0m_G where
 mk ::
 call_in : call_in_T
 right_Good : right_Good_T
def Q0m_s (G : Q0m_G) {ρ : Type} (_n : Nat) (a0 : Int) (_a1 _a2 : Bool) (_a3 : Rows) (_a4 _a5 : Bool) (a6 a7 _a8 : Int) (k0 : (Bool → Option ρ)) : Option ρ :=
 bif ((a0 : Int) == 1) then
 G.call_in ρ a6 1 5 (fun w0_0 =>
 bif w0_0 then
 G.call_in ρ a7 0 4096 (fun w1_0 =>
 bif w1_0 then
 k0 true
 else k0 false)
 else k0 false)
 else bif ((a0 : Int) == 2) then
 G.right_Good ρ a6 (fun w2_0 =>
 bif w2_0 then
 bif ((a7 : Int) == 0) then
 k0 true
 else k0 false
 else k0 false)
 else bif ((a0 : Int) == 3) then
 G.right_Good ρ a6 (fun w3_0 =>
 bif w3_0 then
 G.call_in ρ a7 1 65535 (fun w4_0 =>
 bif w4_0 then
 k0 true
 else k0 false)
 else k0 false)
 else bif ((a0 : Int) == 11) then
 G.call_in ρ a6 0 3 (fun w5_0 =>
 bif w5_0 then
 bif ((a7 : Int) == 0) then
 k0 true
 else k0 false
 else k0 false)
 else bif ((a0 : Int) == 12) then
 G.call_in ρ a6 0 3 (fun w6_0 =>
 bif w6_0 then
 bif ((a7 : Int) == 0) then
 k0 true
 else k0 false
 else k0 false)
 else bif ((a6 : Int) == 0) then
 bif ((a7 : Int) == 0) then
 k0 true
 else k0 false
 else k0 false
def Q0m_g (n : Nat) : Q0m_G := ⟨call_in n, right_Good n⟩
def Q0m (n : Nat) : Q0m_T := fun _ρ a0 a1 a2 a3 a4 a5 a6 a7 a8 k0 => Q0m_s (Q0m_g n) n a0 a1 a2 a3 a4 a5 a6 a7 a8 k0
def Q0m_e (n : Nat) : EK := Q0m_E (Q0m n)
def Q0m_S (G : Q0m_G) : CK := tabS [(86, call_in_E G.call_in), (70, right_Good_E G.right_Good)]
theorem Q0m_Sok (n : Nat) : CK.OK (Q0m_S (Q0m_g n)) (L tab) := tabS_ok _ (List.forall_mem_cons.2 ⟨(call_in_ok n), List.forall_mem_cons.2 ⟨(right_Good_ok n), (fun _ h => nomatch h)⟩⟩)
def Q0m_hs : HintC := hintL []
def Q0m_lp (_G : Q0m_G) (_n : Nat) : LK := tabL []
theorem Q0m_k (G : Q0m_G) {ρ : Type} (n : Nat) (a0 : Int) (a1 a2 : Bool) (a3 : Rows) (a4 a5 : Bool) (a6 a7 a8 : Int) (K : Res → Option ρ) : runC (Q0m_S G) Q0m_hs (Q0m_lp G n) m56 [.agg [.i .i64 a0, .lst a1 a2 1 a3, .lst a4 a5 0 [], .i .i64 a6, .i .i64 a7, .i .u64 a8]] K = Q0m_s G n a0 a1 a2 a3 a4 a5 a6 a7 a8 (fun w0 => K ⟨.b w0, [], []⟩) := by kernel_rfl
theorem Q0m_ok (n : Nat) : EK.OK (Q0m_e n) 56 (L tab) := EK.shp (fun _ _ _ => rfl) fun ρ K y c e => EK.run (Q0m_Sok n) (by kernel_rfl) (MF.LKOK.of (LK.of (l := []) (by kernel_rfl) ((fun _ h => nomatch h)))) (Q0m_k (Q0m_g n) n _ _ _ _ _ _ _ _ _ K) (by kernel_rfl) e
abbrev Q0h_T : Type 1 := (ρ : Type) → Int → Bool → Bool → Rows → Bool → Bool → Int → Int → Int → (Bool → Option ρ) → Option ρ
def Q0h_E (G : Q0h_T) : EK := fun ρ args K => decL [.agg [.i .i64 none, .lst none none 1 none, .lst none none 0 (some []), .i .i64 none, .i .i64 none, .i .u64 none]] args fun c => G ρ c.1.1 c.1.2.1.1 c.1.2.1.2.1 c.1.2.1.2.2 c.1.2.2.1.1 c.1.2.2.1.2.1 c.1.2.2.2.1 c.1.2.2.2.2.1 c.1.2.2.2.2.2.1 (fun w0 => K ⟨.b w0, [], []⟩)
structure Q0h_G where
 mk ::
 Q0a : Q0a_T
 strings_Contains : strings_Contains_T
 Q5_i1 : Q5_i1_T
 Q5 : Q5_T
 Q0m : Q0m_T
def Q0h_s (G : Q0h_G) {ρ : Type} (_n : Nat) (a0 : Int) (a1 a2 : Bool) (a3 : Rows) (a4 a5 : Bool) (a6 a7 a8 : Int) (k0 : (Bool → Option ρ)) : Option ρ :=
 G.Q0a ρ a0 (fun _w0_0 w0_1 =>
 G.strings_Contains ρ w0_1 [66] (fun w1_0 =>
 bif w1_0 then
 G.Q5_i1 ρ a4 a5 (bif ((w0_1 : Bys) != []) then
 G.Q5 ρ a1 a2 a3 (fun w3_0 =>
 bif w3_0 then
 k0 false
 else k0 false)
 else k0 false)
 else bif ((w0_1 : Bys) != []) then
 G.Q5 ρ a1 a2 a3 (fun w4_0 =>
 bif w4_0 then
 G.Q0m ρ a0 a1 a2 a3 a4 a5 a6 a7 a8 (fun w5_0 =>
 bif w5_0 then
 bif ((a8 : Int) == 0) then
 k0 true
 else G.strings_Contains ρ w0_1 [87] (fun w6_0 =>
 bif w6_0 then
 k0 true
 else k0 false)
 else k0 false)
 else k0 false)
 else k0 false))
def Q0h_g (n : Nat) : Q0h_G := ⟨Q0a n, strings_Contains n, Q5_i1 n, Q5 n, Q0m n⟩
def Q0h (n : Nat) : Q0h_T := fun _ρ a0 a1 a2 a3 a4 a5 a6 a7 a8 k0 => Q0h_s (Q0h_g n) n a0 a1 a2 a3 a4 a5 a6 a7 a8 k0
def Q0h_e (n : Nat) : EK := Q0h_E (Q0h n)
def Q0h_S (G : Q0h_G) : CK := tabS [(52, Q0a_E G.Q0a), (53, strings_Contains_E G.strings_Contains), (54, altE [.agg [.lst none none 0 (some [])]] (Q5_i1_E G.Q5_i1) (Q5_E G.Q5)), (56, Q0m_E G.Q0m)]
theorem Q0h_Sok (n : Nat) : CK.OK (Q0h_S (Q0h_g n)) (L tab) := tabS_ok _ (List.forall_mem_cons.2 ⟨(Q0a_ok n), List.forall_mem_cons.2 ⟨(strings_Contains_ok n), List.forall_mem_cons.2 ⟨altE_ok (Q5_i1_ok n) ((Q5_ok n)), List.forall_mem_cons.2 ⟨(Q0m_ok n), (fun _ h => nomatch h)⟩⟩⟩⟩)
def Q0h_hs : HintC := hintL []
def Q0h_lp (_G : Q0h_G) (_n : Nat) : LK := tabL []
theorem Q0h_k (G : Q0h_G) {ρ : Type} (n : Nat) (a0 : Int) (a1 a2 : Bool) (a3 : Rows) (a4 a5 : Bool) (a6 a7 a8 : Int) (K : Res → Option ρ) : runC (Q0h_S G) Q0h_hs (Q0h_lp G n) m27 [.agg [.i .i64 a0, .lst a1 a2 1 a3, .lst a4 a5 0 [], .i .i64 a6, .i .i64 a7, .i .u64 a8]] K = Q0h_s G n a0 a1 a2 a3 a4 a5 a6 a7 a8 (fun w0 => K ⟨.b w0, [], []⟩) := by kernel_rfl
theorem Q0h_ok (n : Nat) : EK.OK (Q0h_e n) 27 (L tab) := EK.shp (fun _ _ _ => rfl) fun ρ K y c e => EK.run (Q0h_Sok n) (by kernel_rfl) (MF.LKOK.of (LK.of (l := []) (by kernel_rfl) ((fun _ h => nomatch h)))) (Q0h_k (Q0h_g n) n _ _ _ _ _ _ _ _ _ K) (by kernel_rfl) e
abbrev cap_fields_T : Type 1 := (ρ : Type) → (Option ρ) → Option ρ
def cap_fields_E (G : cap_fields_T) : EK := fun ρ args K => decL [] args fun _c => G ρ (K ⟨.sl 0 4 2 0 4, [.row 2 true false [[.i .i64 0, .i .i64 8], [.i .i64 8, .i .i64 8], [.i .i64 16, .i .i64 16], [.i .i64 32, .i .i64 16]]], []⟩)
structure cap_fields_G where
 mk ::
def cap_fields_s (_G : cap_fields_G) {ρ : Type} (_n : Nat)  (k0 : (Option ρ)) : Option ρ :=
 k0
def cap_fields_g (_n : Nat) : cap_fields_G := ⟨⟩
def cap_fields (n : Nat) : cap_fields_T := fun _ρ k0 => cap_fields_s (cap_fields_g n) n k0
def cap_fields_e (n : Nat) : EK := cap_fields_E (cap_fields n)
def cap_fields_S (_G : cap_fields_G) : CK := tabS []
theorem cap_fields_Sok (n : Nat) : CK.OK (cap_fields_S (cap_fields_g n)) (L tab) := tabS_ok _ ((fun _ h => nomatch h))
def cap_fields_hs : HintC := hintL []
def cap_fields_lp (_G : cap_fields_G) (_n : Nat) : LK := tabL []
theorem cap_fields_k (G : cap_fields_G) {ρ : Type} (n : Nat)  (K : Res → Option ρ) : runC (cap_fields_S G) cap_fields_hs (cap_fields_lp G n) m38 [] K = cap_fields_s G n  (K ⟨.sl 0 4 2 0 4, [.row 2 true false [[.i .i64 0, .i .i64 8], [.i .i64 8, .i .i64 8], [.i .i64 16, .i .i64 16], [.i .i64 32, .i .i64 16]]], []⟩) := by kernel_rfl
theorem cap_fields_ok (n : Nat) : EK.OK (cap_fields_e n) 38 (L tab) := EK.shp (fun _ _ _ => rfl) fun ρ K y c e => EK.run (cap_fields_Sok n) (by kernel_rfl) (MF.LKOK.of (LK.of (l := []) (by kernel_rfl) ((fun _ h => nomatch h)))) (cap_fields_k (cap_fields_g n) n  K) (by kernel_rfl) e
abbrev tag_Field_mask_T : Type 1 := (ρ : Type) → Int → Int → (Int → Option ρ) → Option ρ
def tag_Field_mask_E (G : tag_Field_mask_T) : EK := fun ρ args K => decL [.agg [.i .i64 none, .i .i64 none]] args fun c => G ρ c.1.1 c.1.2.1 (fun w0 => K ⟨.i .u64 w0, [], []⟩)
structure tag_Field_mask_G where
 mk ::
def tag_Field_mask_s (_G : tag_Field_mask_G) {ρ : Type} (_n : Nat) (a0 a1 : Int) (k0 : (Int → Option ρ)) : Option ρ :=
 chk (decide (0 ≤ (a1 : Int))) <|
 chk (decide (0 ≤ (a0 : Int))) <|
 k0 (IntKind.wrap .u64 (((IntKind.wrap .u64 ((IntKind.wrap .u64 ((1 : Int) * 2 ^ (min a1.toNat (IntKind.bits .u64)))) - 1)) : Int) * 2 ^ (min a0.toNat (IntKind.bits .u64))))
def tag_Field_mask_g (_n : Nat) : tag_Field_mask_G := ⟨⟩
def tag_Field_mask (n : Nat) : tag_Field_mask_T := fun _ρ a0 a1 k0 => tag_Field_mask_s (tag_Field_mask_g n) n a0 a1 k0
def tag_Field_mask_e (n : Nat) : EK := tag_Field_mask_E (tag_Field_mask n)
def tag_Field_mask_S (_G : tag_Field_mask_G) : CK := tabS []
theorem tag_Field_mask_Sok (n : Nat) : CK.OK (tag_Field_mask_S (tag_Field_mask_g n)) (L tab) := tabS_ok _ ((fun _ h => nomatch h))
def tag_Field_mask_hs : HintC := hintL []
def tag_Field_mask_lp (_G : tag_Field_mask_G) (_n : Nat) : LK := tabL []
theorem tag_Field_mask_k (G : tag_Field_mask_G) {ρ : Type} (n : Nat) (a0 a1 : Int) (K : Res → Option ρ) : runC (tag_Field_mask_S G) tag_Field_mask_hs (tag_Field_mask_lp G n) m67 [.agg [.i .i64 a0, .i .i64 a1]] K = tag_Field_mask_s G n a0 a1 (fun w0 => K ⟨.i .u64 w0, [], []⟩) := by kernel_rfl
theorem tag_Field_mask_ok (n : Nat) : EK.OK (tag_Field_mask_e n) 67 (L tab) := EK.shp (fun _ _ _ => rfl) fun ρ K y c e => EK.run (tag_Field_mask_Sok n) (by kernel_rfl) (MF.LKOK.of (LK.of (l := []) (by kernel_rfl) ((fun _ h => nomatch h)))) (tag_Field_mask_k (tag_Field_mask_g n) n _ _ K) (by kernel_rfl) e
abbrev Qh_T : Type 1 := (ρ : Type) → Bool → Bool → Rows → (Int → Bool → Option ρ) → Option ρ
def Qh_E (G : Qh_T) : EK := fun ρ args K => decL [.lst none none 2 none] args fun c => G ρ c.1.1 c.1.2.1 c.1.2.2 (fun w0 w1 => K ⟨.tup [.i .u64 w0, .b w1], [], []⟩)
structure Qh_G where
 mk ::
 tag_Field_mask : tag_Field_mask_T
abbrev Qh_l3_V : Type := Int × Int
def Qh_l3_s (G : Qh_G) {ρ : Type} (_n : Nat) (_p0 _p1 : Bool) (p2 : Rows) (p3 : Int) (k0 : (Int → Option ρ)) (k1 : (Int → Option ρ)) (rec' : Qh_l3_V → Option ρ) : Qh_l3_V → Option ρ
 | v =>
 bif decide ((v.2 : Int) < p3) then
 rowT [.i .i64, .i .i64] p2 v.2 fun c0 =>
 bif decide ((c0.1 : Int) < 0) then
 k0 v.1
 else bif decide ((c0.1 : Int) ≥ 64) then
 k0 v.1
 else bif decide ((c0.2.1 : Int) < 1) then
 k0 v.1
 else bif decide ((c0.2.1 : Int) > (IntKind.wrap .i64 (64 - c0.1))) then
 k0 v.1
 else G.tag_Field_mask ρ c0.1 c0.2.1 (fun w1_0 =>
 bif (((IntKind.wrap .u64 (BitVec.ofInt (IntKind.bits .u64) v.1 &&& BitVec.ofInt (IntKind.bits .u64) w1_0).toNat) : Int) != 0) then
 k0 v.1
 else G.tag_Field_mask ρ c0.1 c0.2.1 (fun w2_0 =>
 rec' ((IntKind.wrap .u64 (BitVec.ofInt (IntKind.bits .u64) v.1 ||| BitVec.ofInt (IntKind.bits .u64) w2_0).toNat), (IntKind.wrap .i64 (v.2 + 1)))))
 else k1 v.1
def Qh_l3 (G : Qh_G) {ρ : Type} (n : Nat) (p0 p1 : Bool) (p2 : Rows) (p3 : Int) (k0 : (Int → Option ρ)) (k1 : (Int → Option ρ)) (v : Qh_l3_V) : Option ρ := fuelN (Qh_l3_s G n p0 p1 p2 p3 k0 k1) n v
def Qh_l3_enc (p0 p1 : Bool) (p2 : Rows) (p3 : Int) : Qh_l3_V → St
 | v => ⟨[(4, .i .u64 v.1), (7, .lst p0 p1 2 p2), (8, .i .i64 p3), (9, .i .i64 v.2)], []⟩
def Qh_s (G : Qh_G) {ρ : Type} (n : Nat) (a0 a1 : Bool) (a2 : Rows) (k0 : (Int → Bool → Option ρ)) : Option ρ :=
 Qh_l3 G n a0 a1 a2 (((List.length (a2 : Rows)) : Nat) : Int) (fun _w0_0 =>
 k0 0 false) (fun w1_0 =>
 k0 w1_0 true) (0, 0)
def Qh_g (n : Nat) : Qh_G := ⟨tag_Field_mask n⟩
def Qh (n : Nat) : Qh_T := fun _ρ a0 a1 a2 k0 => Qh_s (Qh_g n) n a0 a1 a2 k0
def Qh_e (n : Nat) : EK := Qh_E (Qh n)
def Qh_S (G : Qh_G) : CK := tabS [(67, tag_Field_mask_E G.tag_Field_mask)]
theorem Qh_Sok (n : Nat) : CK.OK (Qh_S (Qh_g n)) (L tab) := tabS_ok _ (List.forall_mem_cons.2 ⟨(tag_Field_mask_ok n), (fun _ h => nomatch h)⟩)
def Qh_hs : HintC := hintL [(11, [.i .i64, .i .i64])]
def Qh_c3 : Nat × List Nat × List Nat × MC := loopAt 3 m68
def Qh_l3_d (G : Qh_G) (n : Nat) : Go.Rv.LE := fun _ρ h K => decSt [(4, .i .u64 none), (7, .lst none none 2 none), (8, .i .i64 none), (9, .i .i64 none)] [] h fun a _b => Qh_l3 G n a.2.1.1 a.2.1.2.1 a.2.1.2.2 a.2.2.1 (fun w0 => K .ret ⟨[(2, .i .u64 0), (3, .b false), (4, .i .u64 w0)], []⟩) (fun w0 => K (.exit 0) ⟨[(2, .u), (3, .u), (4, .i .u64 w0)], []⟩) (a.1, a.2.2.2.1)
def Qh_d3 (G : Qh_G) (n : Nat) : Go.Rv.LE := Qh_l3_d G n
def Qh_lp (G : Qh_G) (n : Nat) : LK := tabL [(3, Qh_d3 G n)]
theorem Qh_l3_k (G : Qh_G) {ρ : Type} (n : Nat) (p0 p1 : Bool) (p2 : Rows) (p3 : Int) (K : Ex → St → Option ρ) (N : St → Option ρ) : ∀ v, roundC (Qh_S G) Qh_hs (Qh_lp G n) Qh_c3 0 N K (Qh_l3_enc p0 p1 p2 p3 v) = Qh_l3_s G n p0 p1 p2 p3 (fun w0 => K .ret ⟨[(2, .i .u64 0), (3, .b false), (4, .i .u64 w0)], []⟩) (fun w0 => K (.exit 0) ⟨[(2, .u), (3, .u), (4, .i .u64 w0)], []⟩) (fun v => N (Qh_l3_enc p0 p1 p2 p3 v)) v
 | v => by kernel_rfl
theorem Qh_l3_dok (n : Nat) : LE.OK (Qh_l3_d (Qh_g n) n) (L tab) Qh_c3 := LE.shp (fun _ _ _ => rfl) fun ρ K y a b e => LE.rounds (Qh_Sok n) (LK.of (l := []) (by kernel_rfl) ((fun _ h => nomatch h))) (Qh_l3_k (Qh_g n) n _ _ _ _ K) (by kernel_rfl) (by kernel_rfl) e
theorem Qh_d3_ok (n : Nat) : LE.OK (Qh_d3 (Qh_g n) n) (L tab) Qh_c3 := Qh_l3_dok n
theorem Qh_k (G : Qh_G) {ρ : Type} (n : Nat) (a0 a1 : Bool) (a2 : Rows) (K : Res → Option ρ) : runC (Qh_S G) Qh_hs (Qh_lp G n) m68 [.lst a0 a1 2 a2] K = Qh_s G n a0 a1 a2 (fun w0 w1 => K ⟨.tup [.i .u64 w0, .b w1], [], []⟩) := by kernel_rfl
theorem Qh_ok (n : Nat) : EK.OK (Qh_e n) 68 (L tab) := EK.shp (fun _ _ _ => rfl) fun ρ K y c e => EK.run (Qh_Sok n) (by kernel_rfl) (MF.LKOK.of (LK.of (l := [Qh_c3]) (by kernel_rfl) (List.forall_mem_cons.2 ⟨LE.at (e := Qh_d3 (Qh_g n) n) (by kernel_rfl) (Qh_d3_ok n), (fun _ h => nomatch h)⟩))) (Qh_k (Qh_g n) n _ _ _ K) (by kernel_rfl) e
abbrev Q04_T : Type 1 := (ρ : Type) → Bool → Bool → Rows → (Bool → Option ρ) → Option ρ
def Q04_E (G : Q04_T) : EK := fun ρ args K => decL [.lst none none 2 none] args fun c => G ρ c.1.1 c.1.2.1 c.1.2.2 (fun w0 => K ⟨.b w0, [], []⟩)
structure Q04_G where
 mk ::
 Qh : Qh_T
def Q04_s (G : Q04_G) {ρ : Type} (_n : Nat) (a0 a1 : Bool) (a2 : Rows) (k0 : (Bool → Option ρ)) : Option ρ :=
 G.Qh ρ a0 a1 a2 (fun _w0_0 w0_1 =>
 bif w0_1 then
 k0 true
 else k0 false)
def Q04_g (n : Nat) : Q04_G := ⟨Qh n⟩
def Q04 (n : Nat) : Q04_T := fun _ρ a0 a1 a2 k0 => Q04_s (Q04_g n) n a0 a1 a2 k0
def Q04_e (n : Nat) : EK := Q04_E (Q04 n)
def Q04_S (G : Q04_G) : CK := tabS [(68, Qh_E G.Qh)]
theorem Q04_Sok (n : Nat) : CK.OK (Q04_S (Q04_g n)) (L tab) := tabS_ok _ (List.forall_mem_cons.2 ⟨(Qh_ok n), (fun _ h => nomatch h)⟩)
def Q04_hs : HintC := hintL []
def Q04_lp (_G : Q04_G) (_n : Nat) : LK := tabL []
theorem Q04_k (G : Q04_G) {ρ : Type} (n : Nat) (a0 a1 : Bool) (a2 : Rows) (K : Res → Option ρ) : runC (Q04_S G) Q04_hs (Q04_lp G n) m66 [.lst a0 a1 2 a2] K = Q04_s G n a0 a1 a2 (fun w0 => K ⟨.b w0, [], []⟩) := by kernel_rfl
theorem Q04_ok (n : Nat) : EK.OK (Q04_e n) 66 (L tab) := EK.shp (fun _ _ _ => rfl) fun ρ K y c e => EK.run (Q04_Sok n) (by kernel_rfl) (MF.LKOK.of (LK.of (l := []) (by kernel_rfl) ((fun _ h => nomatch h)))) (Q04_k (Q04_g n) n _ _ _ K) (by kernel_rfl) e
end Go.Rv
namespace Go.Rv
abbrev Qf_T : Type 1 := (ρ : Type) → Bool → Bool → Rows → Bool → Bool → Rows → (Int → Bool → Option ρ) → Option ρ
def Qf_E (G : Qf_T) : EK := fun ρ args K => decL [.lst none none 2 none, .lst none none 1 none] args fun c => G ρ c.1.1 c.1.2.1 c.1.2.2 c.2.1.1 c.2.1.2.1 c.2.1.2.2 (fun w0 w1 => K ⟨.tup [.i .u64 w0, .b w1], [], []⟩)
structure Qf_G where
 mk ::
 Q04 : Q04_T
 tag_Field_mask : tag_Field_mask_T
abbrev Qf_l5_V : Type := Int × Int
def Qf_l5_s (G : Qf_G) {ρ : Type} (_n : Nat) (_p0 _p1 : Bool) (p2 : Rows) (_p3 _p4 : Bool) (p5 : Rows) (p6 : Int) (k0 : (Int → Option ρ)) (k1 : (Int → Option ρ)) (rec' : Qf_l5_V → Option ρ) : Qf_l5_V → Option ρ
 | v =>
 bif decide ((v.2 : Int) < p6) then
 rowT [.i .i64, .i .i64] p5 v.2 fun c0 =>
 rowT [.i .u64] p2 v.2 fun c1 =>
 G.tag_Field_mask ρ c0.1 c0.2.1 (fun w2_0 =>
 chk (decide (0 ≤ (c0.1 : Int))) <|
 bif decide ((c1.1 : Int) > ((w2_0 : Int).fdiv (2 ^ (min c0.1.toNat (IntKind.bits .u64))))) then
 k0 v.1
 else rowT [.i .u64] p2 v.2 fun c3 =>
 chk (decide (0 ≤ (c0.1 : Int))) <|
 rec' ((IntKind.wrap .u64 (BitVec.ofInt (IntKind.bits .u64) v.1 ||| BitVec.ofInt (IntKind.bits .u64) (IntKind.wrap .u64 ((c3.1 : Int) * 2 ^ (min c0.1.toNat (IntKind.bits .u64))))).toNat), (IntKind.wrap .i64 (v.2 + 1))))
 else k1 v.1
def Qf_l5 (G : Qf_G) {ρ : Type} (n : Nat) (p0 p1 : Bool) (p2 : Rows) (p3 p4 : Bool) (p5 : Rows) (p6 : Int) (k0 : (Int → Option ρ)) (k1 : (Int → Option ρ)) (v : Qf_l5_V) : Option ρ := fuelN (Qf_l5_s G n p0 p1 p2 p3 p4 p5 p6 k0 k1) n v
def Qf_l5_enc (p0 p1 : Bool) (p2 : Rows) (p3 p4 : Bool) (p5 : Rows) (p6 : Int) : Qf_l5_V → St
 | v => ⟨[(1, .lst p0 p1 1 p2), (6, .i .u64 v.1), (19, .lst p3 p4 2 p5), (20, .i .i64 p6), (21, .i .i64 v.2)], []⟩
def Qf_s (G : Qf_G) {ρ : Type} (n : Nat) (a0 a1 : Bool) (a2 : Rows) (a3 a4 : Bool) (a5 : Rows) (k0 : (Int → Bool → Option ρ)) : Option ρ :=
 G.Q04 ρ a0 a1 a2 (fun w0_0 =>
 bif w0_0 then
 bif (((((List.length (a2 : Rows)) : Nat) : Int) : Int) != (((List.length (a5 : Rows)) : Nat) : Int)) then
 k0 0 false
 else Qf_l5 G n a3 a4 a5 a0 a1 a2 (((List.length (a2 : Rows)) : Nat) : Int) (fun _w1_0 =>
 k0 0 false) (fun w2_0 =>
 k0 w2_0 true) (0, 0)
 else k0 0 false)
def Qf_g (n : Nat) : Qf_G := ⟨Q04 n, tag_Field_mask n⟩
def Qf (n : Nat) : Qf_T := fun _ρ a0 a1 a2 a3 a4 a5 k0 => Qf_s (Qf_g n) n a0 a1 a2 a3 a4 a5 k0
def Qf_e (n : Nat) : EK := Qf_E (Qf n)
def Qf_S (G : Qf_G) : CK := tabS [(66, Q04_E G.Q04), (67, tag_Field_mask_E G.tag_Field_mask)]
theorem Qf_Sok (n : Nat) : CK.OK (Qf_S (Qf_g n)) (L tab) := tabS_ok _ (List.forall_mem_cons.2 ⟨(Q04_ok n), List.forall_mem_cons.2 ⟨(tag_Field_mask_ok n), (fun _ h => nomatch h)⟩⟩)
def Qf_hs : HintC := hintL [(24, [.i .i64, .i .i64]), (28, [.i .u64]), (39, [.i .u64])]
def Qf_c5 : Nat × List Nat × List Nat × MC := loopAt 5 m61
def Qf_l5_d (G : Qf_G) (n : Nat) : Go.Rv.LE := fun _ρ h K => decSt [(1, .lst none none 1 none), (6, .i .u64 none), (19, .lst none none 2 none), (20, .i .i64 none), (21, .i .i64 none)] [] h fun a _b => Qf_l5 G n a.1.1 a.1.2.1 a.1.2.2 a.2.2.1.1 a.2.2.1.2.1 a.2.2.1.2.2 a.2.2.2.1 (fun w0 => K .ret ⟨[(4, .i .u64 0), (5, .b false), (6, .i .u64 w0)], []⟩) (fun w0 => K (.exit 0) ⟨[(4, .u), (5, .u), (6, .i .u64 w0)], []⟩) (a.2.1, a.2.2.2.2.1)
def Qf_d5 (G : Qf_G) (n : Nat) : Go.Rv.LE := Qf_l5_d G n
def Qf_lp (G : Qf_G) (n : Nat) : LK := tabL [(5, Qf_d5 G n)]
theorem Qf_l5_k (G : Qf_G) {ρ : Type} (n : Nat) (p0 p1 : Bool) (p2 : Rows) (p3 p4 : Bool) (p5 : Rows) (p6 : Int) (K : Ex → St → Option ρ) (N : St → Option ρ) : ∀ v, roundC (Qf_S G) Qf_hs (Qf_lp G n) Qf_c5 0 N K (Qf_l5_enc p0 p1 p2 p3 p4 p5 p6 v) = Qf_l5_s G n p0 p1 p2 p3 p4 p5 p6 (fun w0 => K .ret ⟨[(4, .i .u64 0), (5, .b false), (6, .i .u64 w0)], []⟩) (fun w0 => K (.exit 0) ⟨[(4, .u), (5, .u), (6, .i .u64 w0)], []⟩) (fun v => N (Qf_l5_enc p0 p1 p2 p3 p4 p5 p6 v)) v
 | v => by kernel_rfl
theorem Qf_l5_dok (n : Nat) : LE.OK (Qf_l5_d (Qf_g n) n) (L tab) Qf_c5 := LE.shp (fun _ _ _ => rfl) fun ρ K y a b e => LE.rounds (Qf_Sok n) (LK.of (l := []) (by kernel_rfl) ((fun _ h => nomatch h))) (Qf_l5_k (Qf_g n) n _ _ _ _ _ _ _ K) (by kernel_rfl) (by kernel_rfl) e
theorem Qf_d5_ok (n : Nat) : LE.OK (Qf_d5 (Qf_g n) n) (L tab) Qf_c5 := Qf_l5_dok n
theorem Qf_k (G : Qf_G) {ρ : Type} (n : Nat) (a0 a1 : Bool) (a2 : Rows) (a3 a4 : Bool) (a5 : Rows) (K : Res → Option ρ) : runC (Qf_S G) Qf_hs (Qf_lp G n) m61 [.lst a0 a1 2 a2, .lst a3 a4 1 a5] K = Qf_s G n a0 a1 a2 a3 a4 a5 (fun w0 w1 => K ⟨.tup [.i .u64 w0, .b w1], [], []⟩) := by kernel_rfl
theorem Qf_ok (n : Nat) : EK.OK (Qf_e n) 61 (L tab) := EK.shp (fun _ _ _ => rfl) fun ρ K y c e => EK.run (Qf_Sok n) (by kernel_rfl) (MF.LKOK.of (LK.of (l := [Qf_c5]) (by kernel_rfl) (List.forall_mem_cons.2 ⟨LE.at (e := Qf_d5 (Qf_g n) n) (by kernel_rfl) (Qf_d5_ok n), (fun _ h => nomatch h)⟩))) (Qf_k (Qf_g n) n _ _ _ _ _ _ K) (by kernel_rfl) e
abbrev Q09_T : Type 1 := (ρ : Type) → Int → Int → Int → Int → (Int → Bool → Option ρ) → Option ρ
def Q09_E (G : Q09_T) : EK := fun ρ args K => decL [.agg [.i .i64 none, .i .i64 none, .i .i64 none, .i .i64 none]] args fun c => G ρ c.1.1 c.1.2.1 c.1.2.2.1 c.1.2.2.2.1 (fun w0 w1 => K ⟨.tup [.i .u64 w0, .b w1], [], []⟩)
structure Q09_G where
 mk ::
 Qq : Qq_T
 cap_fields : cap_fields_T
 Qf : Qf_T
def Q09_s (G : Q09_G) {ρ : Type} (_n : Nat) (a0 a1 : Int) (a2 a3 : Int) (k0 : (Int → Bool → Option ρ)) : Option ρ :=
 G.Qq ρ a0 a1 a2 a3 (fun w0_0 =>
 bif w0_0 then
 G.cap_fields ρ (G.Qf ρ false false ([[.i .i64 0, .i .i64 8], [.i .i64 8, .i .i64 8], [.i .i64 16, .i .i64 16], [.i .i64 32, .i .i64 16]]) false false ([[.i .u64 (IntKind.wrap .u64 (a0))], [.i .u64 (IntKind.wrap .u64 (a2))], [.i .u64 (IntKind.wrap .u64 (a3))], [.i .u64 (IntKind.wrap .u64 (a1))]]) (fun w2_0 w2_1 =>
 bif w2_1 then
 k0 w2_0 true
 else k0 w2_0 false))
 else k0 0 false)
def Q09_g (n : Nat) : Q09_G := ⟨Qq n, cap_fields n, Qf n⟩
def Q09 (n : Nat) : Q09_T := fun _ρ a0 a1 a2 a3 k0 => Q09_s (Q09_g n) n a0 a1 a2 a3 k0
def Q09_e (n : Nat) : EK := Q09_E (Q09 n)
def Q09_S (G : Q09_G) : CK := tabS [(40, Qq_E G.Qq), (38, cap_fields_E G.cap_fields), (61, Qf_E G.Qf)]
theorem Q09_Sok (n : Nat) : CK.OK (Q09_S (Q09_g n)) (L tab) := tabS_ok _ (List.forall_mem_cons.2 ⟨(Qq_ok n), List.forall_mem_cons.2 ⟨(cap_fields_ok n), List.forall_mem_cons.2 ⟨(Qf_ok n), (fun _ h => nomatch h)⟩⟩⟩)
def Q09_hs : HintC := hintL []
def Q09_lp (_G : Q09_G) (_n : Nat) : LK := tabL []
theorem Q09_k (G : Q09_G) {ρ : Type} (n : Nat) (a0 a1 : Int) (a2 a3 : Int) (K : Res → Option ρ) : runC (Q09_S G) Q09_hs (Q09_lp G n) m33 [.agg [.i .i64 a0, .i .i64 a1, .i .i64 a2, .i .i64 a3]] K = Q09_s G n a0 a1 a2 a3 (fun w0 w1 => K ⟨.tup [.i .u64 w0, .b w1], [], []⟩) := by kernel_rfl
theorem Q09_ok (n : Nat) : EK.OK (Q09_e n) 33 (L tab) := EK.shp (fun _ _ _ => rfl) fun ρ K y c e => EK.run (Q09_Sok n) (by kernel_rfl) (MF.LKOK.of (LK.of (l := []) (by kernel_rfl) ((fun _ h => nomatch h)))) (Q09_k (Q09_g n) n _ _ _ _ K) (by kernel_rfl) e
abbrev Qg_T : Type 1 := (ρ : Type) → Bool → Bool → Rows → Int → (Int → Option ρ) → Option ρ
def Qg_E (G : Qg_T) : EK := fun ρ args K => decL [.agg [.lst none none 1 none], .i .i64 none] args fun c => G ρ c.1.1.1 c.1.1.2.1 c.1.1.2.2 c.2.1 (fun w0 => K ⟨.i .i64 w0, [], []⟩)
structure Qg_G where
 mk ::
 Qx : Qx_T
abbrev Qg_l5_V : Type := Int × Int
def Qg_l5_s (_G : Qg_G) {ρ : Type} (_n : Nat) (_p1 _p2 : Bool) (p3 : Rows) (k0 : (Int → Option ρ)) (rec' : Qg_l5_V → Option ρ) : Qg_l5_V → Option ρ
 | v =>
 bif ((v.2 : Int) != (-1)) then
 rowT [.i .i64] p3 v.2 fun c0 =>
 rec' ((IntKind.wrap .i64 (v.1 + 1)), c0.1)
 else k0 v.1
def Qg_l5 (G : Qg_G) {ρ : Type} (n : Nat) (p1 p2 : Bool) (p3 : Rows) (k0 : (Int → Option ρ)) (v : Qg_l5_V) : Option ρ := fuelN (Qg_l5_s G n p1 p2 p3 k0) n v
def Qg_l5_enc (p1 p2 : Bool) (p3 : Rows) : Qg_l5_V → St
 | v => ⟨[(2, .ptr 0 1 1 0 0), (5, .i .i64 v.1), (6, .i .i64 v.2)], [.row 1 true false [[.lst p1 p2 1 p3]]]⟩
def Qg_s (G : Qg_G) {ρ : Type} (n : Nat) (a0 a1 : Bool) (a2 : Rows) (a3 : Int) (k0 : (Int → Option ρ)) : Option ρ :=
 G.Qx ρ a0 a1 a2 a3 (fun w0_0 =>
 bif w0_0 then
 rowT [.i .i64] a2 a3 fun c1 =>
 Qg_l5 G n a0 a1 a2 (fun w2_0 =>
 k0 w2_0) (0, c1.1)
 else k0 (-1))
def Qg_g (n : Nat) : Qg_G := ⟨Qx n⟩
def Qg (n : Nat) : Qg_T := fun _ρ a0 a1 a2 a3 k0 => Qg_s (Qg_g n) n a0 a1 a2 a3 k0
def Qg_e (n : Nat) : EK := Qg_E (Qg n)
def Qg_S (G : Qg_G) : CK := tabS [(62, Qx_E G.Qx)]
theorem Qg_Sok (n : Nat) : CK.OK (Qg_S (Qg_g n)) (L tab) := tabS_ok _ (List.forall_mem_cons.2 ⟨(Qx_ok n), (fun _ h => nomatch h)⟩)
def Qg_hs : HintC := hintL [(14, [.i .i64]), (21, [.i .i64])]
def Qg_c5 : Nat × List Nat × List Nat × MC := loopAt 5 m34
def Qg_l5_d (G : Qg_G) (n : Nat) : Go.Rv.LE := fun _ρ h K => decSt [(2, .ptr 0 1 0 (some 1) (some 0)), (5, .i .i64 none), (6, .i .i64 none)] [.row 1 true false (some [[.lst none none 1 none]])] h fun a b => Qg_l5 G n b.1.1.1.1 b.1.1.1.2.1 b.1.1.1.2.2 (fun w0 => K (.exit 0) ⟨[(5, .i .i64 w0)], [.row 1 true false [[.lst b.1.1.1.1 b.1.1.1.2.1 1 b.1.1.1.2.2]]]⟩) (a.2.1, a.2.2.1)
def Qg_d5 (G : Qg_G) (n : Nat) : Go.Rv.LE := Qg_l5_d G n
def Qg_lp (G : Qg_G) (n : Nat) : LK := tabL [(5, Qg_d5 G n)]
theorem Qg_l5_k (G : Qg_G) {ρ : Type} (n : Nat) (p1 p2 : Bool) (p3 : Rows) (K : Ex → St → Option ρ) (N : St → Option ρ) : ∀ v, roundC (Qg_S G) Qg_hs (Qg_lp G n) Qg_c5 1 N K (Qg_l5_enc p1 p2 p3 v) = Qg_l5_s G n p1 p2 p3 (fun w0 => K (.exit 0) ⟨[(5, .i .i64 w0)], [.row 1 true false [[.lst p1 p2 1 p3]]]⟩) (fun v => N (Qg_l5_enc p1 p2 p3 v)) v
 | v => by kernel_rfl
theorem Qg_l5_dok (n : Nat) : LE.OK (Qg_l5_d (Qg_g n) n) (L tab) Qg_c5 := LE.shp (fun _ _ _ => rfl) fun ρ K y a b e => LE.rounds (Qg_Sok n) (LK.of (l := []) (by kernel_rfl) ((fun _ h => nomatch h))) (Qg_l5_k (Qg_g n) n _ _ _ K) (by kernel_rfl) (by kernel_rfl) e
theorem Qg_d5_ok (n : Nat) : LE.OK (Qg_d5 (Qg_g n) n) (L tab) Qg_c5 := Qg_l5_dok n
theorem Qg_k (G : Qg_G) {ρ : Type} (n : Nat) (a0 a1 : Bool) (a2 : Rows) (a3 : Int) (K : Res → Option ρ) : runC (Qg_S G) Qg_hs (Qg_lp G n) m34 [.agg [.lst a0 a1 1 a2], .i .i64 a3] K = Qg_s G n a0 a1 a2 a3 (fun w0 => K ⟨.i .i64 w0, [], []⟩) := by kernel_rfl
theorem Qg_ok (n : Nat) : EK.OK (Qg_e n) 34 (L tab) := EK.shp (fun _ _ _ => rfl) fun ρ K y c e => EK.run (Qg_Sok n) (by kernel_rfl) (MF.LKOK.of (LK.of (l := [Qg_c5]) (by kernel_rfl) (List.forall_mem_cons.2 ⟨LE.at (e := Qg_d5 (Qg_g n) n) (by kernel_rfl) (Qg_d5_ok n), (fun _ h => nomatch h)⟩))) (Qg_k (Qg_g n) n _ _ _ _ K) (by kernel_rfl) e
abbrev Q06_T : Type 1 := (ρ : Type) → Int → Int → Int → Bool → Bool → Rows → Bool → Bool → Rows → Int → Int → Bool → Bool → Rows → Bool → Bool → Int → Int → Int → (Bool → Bool → Rows → Bool → Bool → Rows → Int → Int → Int → Option ρ) → Option ρ
def Q06_E (G : Q06_T) : EK := fun ρ args K => decL [.agg [.i .i64 none, .i .i64 none, .i .i64 none, .lst none none 5 none, .lst none none 13 none], .i .i64 none, .agg [.i .i64 none, .lst none none 1 none, .lst none none 0 (some []), .i .i64 none, .i .i64 none, .i .u64 none]] args fun c => G ρ c.1.1 c.1.2.1 c.1.2.2.1 c.1.2.2.2.1.1 c.1.2.2.2.1.2.1 c.1.2.2.2.1.2.2 c.1.2.2.2.2.1.1 c.1.2.2.2.2.1.2.1 c.1.2.2.2.2.1.2.2 c.2.1 c.2.2.1.1 c.2.2.1.2.1.1 c.2.2.1.2.1.2.1 c.2.2.1.2.1.2.2 c.2.2.1.2.2.1.1 c.2.2.1.2.2.1.2.1 c.2.2.1.2.2.2.1 c.2.2.1.2.2.2.2.1 c.2.2.1.2.2.2.2.2.1 (fun w0 w1 w2 w3 w4 w5 w6 w7 w8 => K ⟨.tup [.agg [.i .i64 c.1.1, .i .i64 c.1.2.1, .i .i64 c.1.2.2.1, .lst w0 w1 5 w2, .lst w3 w4 13 w5], .agg [.i .i64 w6, .i .u64 w7, .i .i64 w8]], [], []⟩)
structure Q06_G where
 mk ::
 Q0h : Q0h_T
 Qt : Qt_T
 Q09 : Q09_T
 Q8 : Q8_T
 Qg : Qg_T
 Qu : Qu_T
 Qv : Qv_T
def Q06_s (G : Q06_G) {ρ : Type} (_n : Nat) (a0 a1 a2 : Int) (a3 a4 : Bool) (a5 : Rows) (a6 a7 : Bool) (a8 : Rows) (a9 a10 : Int) (a11 a12 : Bool) (a13 : Rows) (a14 a15 : Bool) (a16 a17 a18 : Int) (k0 : (Bool → Bool → Rows → Bool → Bool → Rows → Int → Int → Int → Option ρ)) : Option ρ :=
 G.Q0h ρ a10 a11 a12 a13 a14 a15 a16 a17 a18 (fun w0_0 =>
 bif w0_0 then
 bif ((a10 : Int) != 11) then
 bif ((a10 : Int) != 12) then
 bif ((a10 : Int) != 13) then
 k0 a3 a4 a5 a6 a7 a8 1 0 0
 else G.Qt ρ a0 a1 a2 a3 a4 a5 a6 a7 a8 a9 a11 a12 a13 (fun w1_0 w1_1 w1_2 w1_3 w1_4 w1_5 =>
 bif ((w1_5 : Int) != 0) then
 k0 a3 a4 a5 a6 a7 a8 w1_5 0 0
 else bif ((a10 : Int) == 13) then
 G.Q09 ρ w1_1 w1_2 w1_3 w1_4 (fun w2_0 w2_1 =>
 bif w2_1 then
 G.Q8 ρ a0 a1 a2 a3 a4 a5 a6 a7 a8 (fun w3_0 w3_1 w3_2 =>
 G.Qg ρ w3_0 w3_1 w3_2 w1_0 (fun w4_0 =>
 k0 a3 a4 a5 a6 a7 a8 0 w2_0 w4_0))
 else G.Q8 ρ a0 a1 a2 a3 a4 a5 a6 a7 a8 (fun w5_0 w5_1 w5_2 =>
 G.Qg ρ w5_0 w5_1 w5_2 w1_0 (fun w6_0 =>
 k0 a3 a4 a5 a6 a7 a8 0 w2_0 w6_0)))
 else bif ((a10 : Int) == 12) then
 bif ((w1_1 : Int) != 5) then
 k0 a3 a4 a5 a6 a7 a8 7 0 0
 else G.Qu ρ 1 w1_3 (fun w7_0 =>
 bif w7_0 then
 bif ((a10 : Int) == 12) then
 rowT [.i .i64, .i .i64, .i .i64, .i .i64, .i .i64, .i .i64, .i .i64, .b, .i .u64, .i .u64, .i .u64, .i .u64, .i .u64] a8 w1_2 fun c8 =>
 bif ((a16 : Int) == 0) then
 k0 a3 a4 a5 a6 a7 a8 0 c8.2.2.2.2.2.2.2.2.2.1 0
 else bif ((a16 : Int) == 1) then
 k0 a3 a4 a5 a6 a7 a8 0 c8.2.2.2.2.2.2.2.2.2.2.1 0
 else bif ((a16 : Int) == 2) then
 k0 a3 a4 a5 a6 a7 a8 0 c8.2.2.2.2.2.2.2.2.2.2.2.1 0
 else bif ((a16 : Int) == 3) then
 k0 a3 a4 a5 a6 a7 a8 0 c8.2.2.2.2.2.2.2.2.2.2.2.2.1 0
 else none
 else G.Qv ρ a0 a1 a2 a3 a4 a5 a6 a7 a8 (none) (fun w10_0 w10_1 w10_2 =>
 chk (decide ((0 : Int) ≤ w1_2)) <|
 chk (decide ((w1_2 : Int) < ((w10_1 : Nat) : Int))) <|
 bif ((a16 : Int) == 0) then
 chk (((List.length (w10_2 : Rows)) : Nat) == w10_0) <|
 rowN [.a, .a, .a, .a, .a, .a, .a, .a, .a, .a, .a, .a, .a] w10_2 (0 + w1_2.toNat) fun c11 =>
 chk (((List.length ((List.set (w10_2 : Rows) (0 + w1_2.toNat) [c11.1, c11.2.1, c11.2.2.1, c11.2.2.2.1, c11.2.2.2.2.1, c11.2.2.2.2.2.1, c11.2.2.2.2.2.2.1, c11.2.2.2.2.2.2.2.1, c11.2.2.2.2.2.2.2.2.1, .i .u64 a18, c11.2.2.2.2.2.2.2.2.2.2.1, c11.2.2.2.2.2.2.2.2.2.2.2.1, c11.2.2.2.2.2.2.2.2.2.2.2.2.1]) : Rows)) : Nat) == w10_0) <|
 k0 true true [] false false (List.take w10_1 (List.drop 0 ((List.set (w10_2 : Rows) (0 + w1_2.toNat) [c11.1, c11.2.1, c11.2.2.1, c11.2.2.2.1, c11.2.2.2.2.1, c11.2.2.2.2.2.1, c11.2.2.2.2.2.2.1, c11.2.2.2.2.2.2.2.1, c11.2.2.2.2.2.2.2.2.1, .i .u64 a18, c11.2.2.2.2.2.2.2.2.2.2.1, c11.2.2.2.2.2.2.2.2.2.2.2.1, c11.2.2.2.2.2.2.2.2.2.2.2.2.1]) : Rows))) 0 0 0
 else bif ((a16 : Int) == 1) then
 chk (((List.length (w10_2 : Rows)) : Nat) == w10_0) <|
 rowN [.a, .a, .a, .a, .a, .a, .a, .a, .a, .a, .a, .a, .a] w10_2 (0 + w1_2.toNat) fun c12 =>
 chk (((List.length ((List.set (w10_2 : Rows) (0 + w1_2.toNat) [c12.1, c12.2.1, c12.2.2.1, c12.2.2.2.1, c12.2.2.2.2.1, c12.2.2.2.2.2.1, c12.2.2.2.2.2.2.1, c12.2.2.2.2.2.2.2.1, c12.2.2.2.2.2.2.2.2.1, c12.2.2.2.2.2.2.2.2.2.1, .i .u64 a18, c12.2.2.2.2.2.2.2.2.2.2.2.1, c12.2.2.2.2.2.2.2.2.2.2.2.2.1]) : Rows)) : Nat) == w10_0) <|
 k0 true true [] false false (List.take w10_1 (List.drop 0 ((List.set (w10_2 : Rows) (0 + w1_2.toNat) [c12.1, c12.2.1, c12.2.2.1, c12.2.2.2.1, c12.2.2.2.2.1, c12.2.2.2.2.2.1, c12.2.2.2.2.2.2.1, c12.2.2.2.2.2.2.2.1, c12.2.2.2.2.2.2.2.2.1, c12.2.2.2.2.2.2.2.2.2.1, .i .u64 a18, c12.2.2.2.2.2.2.2.2.2.2.2.1, c12.2.2.2.2.2.2.2.2.2.2.2.2.1]) : Rows))) 0 0 0
 else bif ((a16 : Int) == 2) then
 chk (((List.length (w10_2 : Rows)) : Nat) == w10_0) <|
 rowN [.a, .a, .a, .a, .a, .a, .a, .a, .a, .a, .a, .a, .a] w10_2 (0 + w1_2.toNat) fun c13 =>
 chk (((List.length ((List.set (w10_2 : Rows) (0 + w1_2.toNat) [c13.1, c13.2.1, c13.2.2.1, c13.2.2.2.1, c13.2.2.2.2.1, c13.2.2.2.2.2.1, c13.2.2.2.2.2.2.1, c13.2.2.2.2.2.2.2.1, c13.2.2.2.2.2.2.2.2.1, c13.2.2.2.2.2.2.2.2.2.1, c13.2.2.2.2.2.2.2.2.2.2.1, .i .u64 a18, c13.2.2.2.2.2.2.2.2.2.2.2.2.1]) : Rows)) : Nat) == w10_0) <|
 k0 true true [] false false (List.take w10_1 (List.drop 0 ((List.set (w10_2 : Rows) (0 + w1_2.toNat) [c13.1, c13.2.1, c13.2.2.1, c13.2.2.2.1, c13.2.2.2.2.1, c13.2.2.2.2.2.1, c13.2.2.2.2.2.2.1, c13.2.2.2.2.2.2.2.1, c13.2.2.2.2.2.2.2.2.1, c13.2.2.2.2.2.2.2.2.2.1, c13.2.2.2.2.2.2.2.2.2.2.1, .i .u64 a18, c13.2.2.2.2.2.2.2.2.2.2.2.2.1]) : Rows))) 0 0 0
 else bif ((a16 : Int) == 3) then
 chk (((List.length (w10_2 : Rows)) : Nat) == w10_0) <|
 rowN [.a, .a, .a, .a, .a, .a, .a, .a, .a, .a, .a, .a, .a] w10_2 (0 + w1_2.toNat) fun c14 =>
 chk (((List.length ((List.set (w10_2 : Rows) (0 + w1_2.toNat) [c14.1, c14.2.1, c14.2.2.1, c14.2.2.2.1, c14.2.2.2.2.1, c14.2.2.2.2.2.1, c14.2.2.2.2.2.2.1, c14.2.2.2.2.2.2.2.1, c14.2.2.2.2.2.2.2.2.1, c14.2.2.2.2.2.2.2.2.2.1, c14.2.2.2.2.2.2.2.2.2.2.1, c14.2.2.2.2.2.2.2.2.2.2.2.1, .i .u64 a18]) : Rows)) : Nat) == w10_0) <|
 k0 true true [] false false (List.take w10_1 (List.drop 0 ((List.set (w10_2 : Rows) (0 + w1_2.toNat) [c14.1, c14.2.1, c14.2.2.1, c14.2.2.2.1, c14.2.2.2.2.1, c14.2.2.2.2.2.1, c14.2.2.2.2.2.2.1, c14.2.2.2.2.2.2.2.1, c14.2.2.2.2.2.2.2.2.1, c14.2.2.2.2.2.2.2.2.2.1, c14.2.2.2.2.2.2.2.2.2.2.1, c14.2.2.2.2.2.2.2.2.2.2.2.1, .i .u64 a18]) : Rows))) 0 0 0
 else none) (fun _w15_0 _w15_1 _w15_2 =>
 none) (fun w16_0 w16_1 w16_2 w16_3 w16_4 w16_5 =>
 chk (decide ((0 : Int) ≤ w1_2)) <|
 chk (decide ((w1_2 : Int) < ((w16_3 : Nat) : Int))) <|
 bif ((a16 : Int) == 0) then
 chk (((List.length (w16_5 : Rows)) : Nat) == w16_2) <|
 rowN [.a, .a, .a, .a, .a, .a, .a, .a, .a, .a, .a, .a, .a] w16_5 (0 + w1_2.toNat) fun c17 =>
 chk (((List.length (w16_4 : Rows)) : Nat) == w16_0) <|
 chk (((List.length ((List.set (w16_5 : Rows) (0 + w1_2.toNat) [c17.1, c17.2.1, c17.2.2.1, c17.2.2.2.1, c17.2.2.2.2.1, c17.2.2.2.2.2.1, c17.2.2.2.2.2.2.1, c17.2.2.2.2.2.2.2.1, c17.2.2.2.2.2.2.2.2.1, .i .u64 a18, c17.2.2.2.2.2.2.2.2.2.2.1, c17.2.2.2.2.2.2.2.2.2.2.2.1, c17.2.2.2.2.2.2.2.2.2.2.2.2.1]) : Rows)) : Nat) == w16_2) <|
 k0 false false (List.take w16_1 (List.drop 0 (w16_4 : Rows))) false false (List.take w16_3 (List.drop 0 ((List.set (w16_5 : Rows) (0 + w1_2.toNat) [c17.1, c17.2.1, c17.2.2.1, c17.2.2.2.1, c17.2.2.2.2.1, c17.2.2.2.2.2.1, c17.2.2.2.2.2.2.1, c17.2.2.2.2.2.2.2.1, c17.2.2.2.2.2.2.2.2.1, .i .u64 a18, c17.2.2.2.2.2.2.2.2.2.2.1, c17.2.2.2.2.2.2.2.2.2.2.2.1, c17.2.2.2.2.2.2.2.2.2.2.2.2.1]) : Rows))) 0 0 0
 else bif ((a16 : Int) == 1) then
 chk (((List.length (w16_5 : Rows)) : Nat) == w16_2) <|
 rowN [.a, .a, .a, .a, .a, .a, .a, .a, .a, .a, .a, .a, .a] w16_5 (0 + w1_2.toNat) fun c18 =>
 chk (((List.length (w16_4 : Rows)) : Nat) == w16_0) <|
 chk (((List.length ((List.set (w16_5 : Rows) (0 + w1_2.toNat) [c18.1, c18.2.1, c18.2.2.1, c18.2.2.2.1, c18.2.2.2.2.1, c18.2.2.2.2.2.1, c18.2.2.2.2.2.2.1, c18.2.2.2.2.2.2.2.1, c18.2.2.2.2.2.2.2.2.1, c18.2.2.2.2.2.2.2.2.2.1, .i .u64 a18, c18.2.2.2.2.2.2.2.2.2.2.2.1, c18.2.2.2.2.2.2.2.2.2.2.2.2.1]) : Rows)) : Nat) == w16_2) <|
 k0 false false (List.take w16_1 (List.drop 0 (w16_4 : Rows))) false false (List.take w16_3 (List.drop 0 ((List.set (w16_5 : Rows) (0 + w1_2.toNat) [c18.1, c18.2.1, c18.2.2.1, c18.2.2.2.1, c18.2.2.2.2.1, c18.2.2.2.2.2.1, c18.2.2.2.2.2.2.1, c18.2.2.2.2.2.2.2.1, c18.2.2.2.2.2.2.2.2.1, c18.2.2.2.2.2.2.2.2.2.1, .i .u64 a18, c18.2.2.2.2.2.2.2.2.2.2.2.1, c18.2.2.2.2.2.2.2.2.2.2.2.2.1]) : Rows))) 0 0 0
 else bif ((a16 : Int) == 2) then
 chk (((List.length (w16_5 : Rows)) : Nat) == w16_2) <|
 rowN [.a, .a, .a, .a, .a, .a, .a, .a, .a, .a, .a, .a, .a] w16_5 (0 + w1_2.toNat) fun c19 =>
 chk (((List.length (w16_4 : Rows)) : Nat) == w16_0) <|
 chk (((List.length ((List.set (w16_5 : Rows) (0 + w1_2.toNat) [c19.1, c19.2.1, c19.2.2.1, c19.2.2.2.1, c19.2.2.2.2.1, c19.2.2.2.2.2.1, c19.2.2.2.2.2.2.1, c19.2.2.2.2.2.2.2.1, c19.2.2.2.2.2.2.2.2.1, c19.2.2.2.2.2.2.2.2.2.1, c19.2.2.2.2.2.2.2.2.2.2.1, .i .u64 a18, c19.2.2.2.2.2.2.2.2.2.2.2.2.1]) : Rows)) : Nat) == w16_2) <|
 k0 false false (List.take w16_1 (List.drop 0 (w16_4 : Rows))) false false (List.take w16_3 (List.drop 0 ((List.set (w16_5 : Rows) (0 + w1_2.toNat) [c19.1, c19.2.1, c19.2.2.1, c19.2.2.2.1, c19.2.2.2.2.1, c19.2.2.2.2.2.1, c19.2.2.2.2.2.2.1, c19.2.2.2.2.2.2.2.1, c19.2.2.2.2.2.2.2.2.1, c19.2.2.2.2.2.2.2.2.2.1, c19.2.2.2.2.2.2.2.2.2.2.1, .i .u64 a18, c19.2.2.2.2.2.2.2.2.2.2.2.2.1]) : Rows))) 0 0 0
 else bif ((a16 : Int) == 3) then
 chk (((List.length (w16_5 : Rows)) : Nat) == w16_2) <|
 rowN [.a, .a, .a, .a, .a, .a, .a, .a, .a, .a, .a, .a, .a] w16_5 (0 + w1_2.toNat) fun c20 =>
 chk (((List.length (w16_4 : Rows)) : Nat) == w16_0) <|
 chk (((List.length ((List.set (w16_5 : Rows) (0 + w1_2.toNat) [c20.1, c20.2.1, c20.2.2.1, c20.2.2.2.1, c20.2.2.2.2.1, c20.2.2.2.2.2.1, c20.2.2.2.2.2.2.1, c20.2.2.2.2.2.2.2.1, c20.2.2.2.2.2.2.2.2.1, c20.2.2.2.2.2.2.2.2.2.1, c20.2.2.2.2.2.2.2.2.2.2.1, c20.2.2.2.2.2.2.2.2.2.2.2.1, .i .u64 a18]) : Rows)) : Nat) == w16_2) <|
 k0 false false (List.take w16_1 (List.drop 0 (w16_4 : Rows))) false false (List.take w16_3 (List.drop 0 ((List.set (w16_5 : Rows) (0 + w1_2.toNat) [c20.1, c20.2.1, c20.2.2.1, c20.2.2.2.1, c20.2.2.2.2.1, c20.2.2.2.2.2.1, c20.2.2.2.2.2.2.1, c20.2.2.2.2.2.2.2.1, c20.2.2.2.2.2.2.2.2.1, c20.2.2.2.2.2.2.2.2.2.1, c20.2.2.2.2.2.2.2.2.2.2.1, c20.2.2.2.2.2.2.2.2.2.2.2.1, .i .u64 a18]) : Rows))) 0 0 0
 else none)
 else k0 a3 a4 a5 a6 a7 a8 6 0 0)
 else bif ((w1_1 : Int) != 5) then
 k0 a3 a4 a5 a6 a7 a8 7 0 0
 else G.Qu ρ 2 w1_3 (fun w21_0 =>
 bif w21_0 then
 bif ((a10 : Int) == 12) then
 rowT [.i .i64, .i .i64, .i .i64, .i .i64, .i .i64, .i .i64, .i .i64, .b, .i .u64, .i .u64, .i .u64, .i .u64, .i .u64] a8 w1_2 fun c22 =>
 bif ((a16 : Int) == 0) then
 k0 a3 a4 a5 a6 a7 a8 0 c22.2.2.2.2.2.2.2.2.2.1 0
 else bif ((a16 : Int) == 1) then
 k0 a3 a4 a5 a6 a7 a8 0 c22.2.2.2.2.2.2.2.2.2.2.1 0
 else bif ((a16 : Int) == 2) then
 k0 a3 a4 a5 a6 a7 a8 0 c22.2.2.2.2.2.2.2.2.2.2.2.1 0
 else bif ((a16 : Int) == 3) then
 k0 a3 a4 a5 a6 a7 a8 0 c22.2.2.2.2.2.2.2.2.2.2.2.2.1 0
 else none
 else G.Qv ρ a0 a1 a2 a3 a4 a5 a6 a7 a8 (none) (fun w24_0 w24_1 w24_2 =>
 chk (decide ((0 : Int) ≤ w1_2)) <|
 chk (decide ((w1_2 : Int) < ((w24_1 : Nat) : Int))) <|
 bif ((a16 : Int) == 0) then
 chk (((List.length (w24_2 : Rows)) : Nat) == w24_0) <|
 rowN [.a, .a, .a, .a, .a, .a, .a, .a, .a, .a, .a, .a, .a] w24_2 (0 + w1_2.toNat) fun c25 =>
 chk (((List.length ((List.set (w24_2 : Rows) (0 + w1_2.toNat) [c25.1, c25.2.1, c25.2.2.1, c25.2.2.2.1, c25.2.2.2.2.1, c25.2.2.2.2.2.1, c25.2.2.2.2.2.2.1, c25.2.2.2.2.2.2.2.1, c25.2.2.2.2.2.2.2.2.1, .i .u64 a18, c25.2.2.2.2.2.2.2.2.2.2.1, c25.2.2.2.2.2.2.2.2.2.2.2.1, c25.2.2.2.2.2.2.2.2.2.2.2.2.1]) : Rows)) : Nat) == w24_0) <|
 k0 true true [] false false (List.take w24_1 (List.drop 0 ((List.set (w24_2 : Rows) (0 + w1_2.toNat) [c25.1, c25.2.1, c25.2.2.1, c25.2.2.2.1, c25.2.2.2.2.1, c25.2.2.2.2.2.1, c25.2.2.2.2.2.2.1, c25.2.2.2.2.2.2.2.1, c25.2.2.2.2.2.2.2.2.1, .i .u64 a18, c25.2.2.2.2.2.2.2.2.2.2.1, c25.2.2.2.2.2.2.2.2.2.2.2.1, c25.2.2.2.2.2.2.2.2.2.2.2.2.1]) : Rows))) 0 0 0
 else bif ((a16 : Int) == 1) then
 chk (((List.length (w24_2 : Rows)) : Nat) == w24_0) <|
 rowN [.a, .a, .a, .a, .a, .a, .a, .a, .a, .a, .a, .a, .a] w24_2 (0 + w1_2.toNat) fun c26 =>
 chk (((List.length ((List.set (w24_2 : Rows) (0 + w1_2.toNat) [c26.1, c26.2.1, c26.2.2.1, c26.2.2.2.1, c26.2.2.2.2.1, c26.2.2.2.2.2.1, c26.2.2.2.2.2.2.1, c26.2.2.2.2.2.2.2.1, c26.2.2.2.2.2.2.2.2.1, c26.2.2.2.2.2.2.2.2.2.1, .i .u64 a18, c26.2.2.2.2.2.2.2.2.2.2.2.1, c26.2.2.2.2.2.2.2.2.2.2.2.2.1]) : Rows)) : Nat) == w24_0) <|
 k0 true true [] false false (List.take w24_1 (List.drop 0 ((List.set (w24_2 : Rows) (0 + w1_2.toNat) [c26.1, c26.2.1, c26.2.2.1, c26.2.2.2.1, c26.2.2.2.2.1, c26.2.2.2.2.2.1, c26.2.2.2.2.2.2.1, c26.2.2.2.2.2.2.2.1, c26.2.2.2.2.2.2.2.2.1, c26.2.2.2.2.2.2.2.2.2.1, .i .u64 a18, c26.2.2.2.2.2.2.2.2.2.2.2.1, c26.2.2.2.2.2.2.2.2.2.2.2.2.1]) : Rows))) 0 0 0
 else bif ((a16 : Int) == 2) then
 chk (((List.length (w24_2 : Rows)) : Nat) == w24_0) <|
 rowN [.a, .a, .a, .a, .a, .a, .a, .a, .a, .a, .a, .a, .a] w24_2 (0 + w1_2.toNat) fun c27 =>
 chk (((List.length ((List.set (w24_2 : Rows) (0 + w1_2.toNat) [c27.1, c27.2.1, c27.2.2.1, c27.2.2.2.1, c27.2.2.2.2.1, c27.2.2.2.2.2.1, c27.2.2.2.2.2.2.1, c27.2.2.2.2.2.2.2.1, c27.2.2.2.2.2.2.2.2.1, c27.2.2.2.2.2.2.2.2.2.1, c27.2.2.2.2.2.2.2.2.2.2.1, .i .u64 a18, c27.2.2.2.2.2.2.2.2.2.2.2.2.1]) : Rows)) : Nat) == w24_0) <|
 k0 true true [] false false (List.take w24_1 (List.drop 0 ((List.set (w24_2 : Rows) (0 + w1_2.toNat) [c27.1, c27.2.1, c27.2.2.1, c27.2.2.2.1, c27.2.2.2.2.1, c27.2.2.2.2.2.1, c27.2.2.2.2.2.2.1, c27.2.2.2.2.2.2.2.1, c27.2.2.2.2.2.2.2.2.1, c27.2.2.2.2.2.2.2.2.2.1, c27.2.2.2.2.2.2.2.2.2.2.1, .i .u64 a18, c27.2.2.2.2.2.2.2.2.2.2.2.2.1]) : Rows))) 0 0 0
 else bif ((a16 : Int) == 3) then
 chk (((List.length (w24_2 : Rows)) : Nat) == w24_0) <|
 rowN [.a, .a, .a, .a, .a, .a, .a, .a, .a, .a, .a, .a, .a] w24_2 (0 + w1_2.toNat) fun c28 =>
 chk (((List.length ((List.set (w24_2 : Rows) (0 + w1_2.toNat) [c28.1, c28.2.1, c28.2.2.1, c28.2.2.2.1, c28.2.2.2.2.1, c28.2.2.2.2.2.1, c28.2.2.2.2.2.2.1, c28.2.2.2.2.2.2.2.1, c28.2.2.2.2.2.2.2.2.1, c28.2.2.2.2.2.2.2.2.2.1, c28.2.2.2.2.2.2.2.2.2.2.1, c28.2.2.2.2.2.2.2.2.2.2.2.1, .i .u64 a18]) : Rows)) : Nat) == w24_0) <|
 k0 true true [] false false (List.take w24_1 (List.drop 0 ((List.set (w24_2 : Rows) (0 + w1_2.toNat) [c28.1, c28.2.1, c28.2.2.1, c28.2.2.2.1, c28.2.2.2.2.1, c28.2.2.2.2.2.1, c28.2.2.2.2.2.2.1, c28.2.2.2.2.2.2.2.1, c28.2.2.2.2.2.2.2.2.1, c28.2.2.2.2.2.2.2.2.2.1, c28.2.2.2.2.2.2.2.2.2.2.1, c28.2.2.2.2.2.2.2.2.2.2.2.1, .i .u64 a18]) : Rows))) 0 0 0
 else none) (fun _w29_0 _w29_1 _w29_2 =>
 none) (fun w30_0 w30_1 w30_2 w30_3 w30_4 w30_5 =>
 chk (decide ((0 : Int) ≤ w1_2)) <|
 chk (decide ((w1_2 : Int) < ((w30_3 : Nat) : Int))) <|
 bif ((a16 : Int) == 0) then
 chk (((List.length (w30_5 : Rows)) : Nat) == w30_2) <|
 rowN [.a, .a, .a, .a, .a, .a, .a, .a, .a, .a, .a, .a, .a] w30_5 (0 + w1_2.toNat) fun c31 =>
 chk (((List.length (w30_4 : Rows)) : Nat) == w30_0) <|
 chk (((List.length ((List.set (w30_5 : Rows) (0 + w1_2.toNat) [c31.1, c31.2.1, c31.2.2.1, c31.2.2.2.1, c31.2.2.2.2.1, c31.2.2.2.2.2.1, c31.2.2.2.2.2.2.1, c31.2.2.2.2.2.2.2.1, c31.2.2.2.2.2.2.2.2.1, .i .u64 a18, c31.2.2.2.2.2.2.2.2.2.2.1, c31.2.2.2.2.2.2.2.2.2.2.2.1, c31.2.2.2.2.2.2.2.2.2.2.2.2.1]) : Rows)) : Nat) == w30_2) <|
 k0 false false (List.take w30_1 (List.drop 0 (w30_4 : Rows))) false false (List.take w30_3 (List.drop 0 ((List.set (w30_5 : Rows) (0 + w1_2.toNat) [c31.1, c31.2.1, c31.2.2.1, c31.2.2.2.1, c31.2.2.2.2.1, c31.2.2.2.2.2.1, c31.2.2.2.2.2.2.1, c31.2.2.2.2.2.2.2.1, c31.2.2.2.2.2.2.2.2.1, .i .u64 a18, c31.2.2.2.2.2.2.2.2.2.2.1, c31.2.2.2.2.2.2.2.2.2.2.2.1, c31.2.2.2.2.2.2.2.2.2.2.2.2.1]) : Rows))) 0 0 0
 else bif ((a16 : Int) == 1) then
 chk (((List.length (w30_5 : Rows)) : Nat) == w30_2) <|
 rowN [.a, .a, .a, .a, .a, .a, .a, .a, .a, .a, .a, .a, .a] w30_5 (0 + w1_2.toNat) fun c32 =>
 chk (((List.length (w30_4 : Rows)) : Nat) == w30_0) <|
 chk (((List.length ((List.set (w30_5 : Rows) (0 + w1_2.toNat) [c32.1, c32.2.1, c32.2.2.1, c32.2.2.2.1, c32.2.2.2.2.1, c32.2.2.2.2.2.1, c32.2.2.2.2.2.2.1, c32.2.2.2.2.2.2.2.1, c32.2.2.2.2.2.2.2.2.1, c32.2.2.2.2.2.2.2.2.2.1, .i .u64 a18, c32.2.2.2.2.2.2.2.2.2.2.2.1, c32.2.2.2.2.2.2.2.2.2.2.2.2.1]) : Rows)) : Nat) == w30_2) <|
 k0 false false (List.take w30_1 (List.drop 0 (w30_4 : Rows))) false false (List.take w30_3 (List.drop 0 ((List.set (w30_5 : Rows) (0 + w1_2.toNat) [c32.1, c32.2.1, c32.2.2.1, c32.2.2.2.1, c32.2.2.2.2.1, c32.2.2.2.2.2.1, c32.2.2.2.2.2.2.1, c32.2.2.2.2.2.2.2.1, c32.2.2.2.2.2.2.2.2.1, c32.2.2.2.2.2.2.2.2.2.1, .i .u64 a18, c32.2.2.2.2.2.2.2.2.2.2.2.1, c32.2.2.2.2.2.2.2.2.2.2.2.2.1]) : Rows))) 0 0 0
 else bif ((a16 : Int) == 2) then
 chk (((List.length (w30_5 : Rows)) : Nat) == w30_2) <|
 rowN [.a, .a, .a, .a, .a, .a, .a, .a, .a, .a, .a, .a, .a] w30_5 (0 + w1_2.toNat) fun c33 =>
 chk (((List.length (w30_4 : Rows)) : Nat) == w30_0) <|
 chk (((List.length ((List.set (w30_5 : Rows) (0 + w1_2.toNat) [c33.1, c33.2.1, c33.2.2.1, c33.2.2.2.1, c33.2.2.2.2.1, c33.2.2.2.2.2.1, c33.2.2.2.2.2.2.1, c33.2.2.2.2.2.2.2.1, c33.2.2.2.2.2.2.2.2.1, c33.2.2.2.2.2.2.2.2.2.1, c33.2.2.2.2.2.2.2.2.2.2.1, .i .u64 a18, c33.2.2.2.2.2.2.2.2.2.2.2.2.1]) : Rows)) : Nat) == w30_2) <|
 k0 false false (List.take w30_1 (List.drop 0 (w30_4 : Rows))) false false (List.take w30_3 (List.drop 0 ((List.set (w30_5 : Rows) (0 + w1_2.toNat) [c33.1, c33.2.1, c33.2.2.1, c33.2.2.2.1, c33.2.2.2.2.1, c33.2.2.2.2.2.1, c33.2.2.2.2.2.2.1, c33.2.2.2.2.2.2.2.1, c33.2.2.2.2.2.2.2.2.1, c33.2.2.2.2.2.2.2.2.2.1, c33.2.2.2.2.2.2.2.2.2.2.1, .i .u64 a18, c33.2.2.2.2.2.2.2.2.2.2.2.2.1]) : Rows))) 0 0 0
 else bif ((a16 : Int) == 3) then
 chk (((List.length (w30_5 : Rows)) : Nat) == w30_2) <|
 rowN [.a, .a, .a, .a, .a, .a, .a, .a, .a, .a, .a, .a, .a] w30_5 (0 + w1_2.toNat) fun c34 =>
 chk (((List.length (w30_4 : Rows)) : Nat) == w30_0) <|
 chk (((List.length ((List.set (w30_5 : Rows) (0 + w1_2.toNat) [c34.1, c34.2.1, c34.2.2.1, c34.2.2.2.1, c34.2.2.2.2.1, c34.2.2.2.2.2.1, c34.2.2.2.2.2.2.1, c34.2.2.2.2.2.2.2.1, c34.2.2.2.2.2.2.2.2.1, c34.2.2.2.2.2.2.2.2.2.1, c34.2.2.2.2.2.2.2.2.2.2.1, c34.2.2.2.2.2.2.2.2.2.2.2.1, .i .u64 a18]) : Rows)) : Nat) == w30_2) <|
 k0 false false (List.take w30_1 (List.drop 0 (w30_4 : Rows))) false false (List.take w30_3 (List.drop 0 ((List.set (w30_5 : Rows) (0 + w1_2.toNat) [c34.1, c34.2.1, c34.2.2.1, c34.2.2.2.1, c34.2.2.2.2.1, c34.2.2.2.2.2.1, c34.2.2.2.2.2.2.1, c34.2.2.2.2.2.2.2.1, c34.2.2.2.2.2.2.2.2.1, c34.2.2.2.2.2.2.2.2.2.1, c34.2.2.2.2.2.2.2.2.2.2.1, c34.2.2.2.2.2.2.2.2.2.2.2.1, .i .u64 a18]) : Rows))) 0 0 0
 else none)
 else k0 a3 a4 a5 a6 a7 a8 6 0 0))
 else G.Qt ρ a0 a1 a2 a3 a4 a5 a6 a7 a8 a9 a11 a12 a13 (fun w35_0 w35_1 w35_2 w35_3 w35_4 w35_5 =>
 bif ((w35_5 : Int) != 0) then
 k0 a3 a4 a5 a6 a7 a8 w35_5 0 0
 else bif ((a10 : Int) == 13) then
 G.Q09 ρ w35_1 w35_2 w35_3 w35_4 (fun w36_0 w36_1 =>
 bif w36_1 then
 G.Q8 ρ a0 a1 a2 a3 a4 a5 a6 a7 a8 (fun w37_0 w37_1 w37_2 =>
 G.Qg ρ w37_0 w37_1 w37_2 w35_0 (fun w38_0 =>
 k0 a3 a4 a5 a6 a7 a8 0 w36_0 w38_0))
 else G.Q8 ρ a0 a1 a2 a3 a4 a5 a6 a7 a8 (fun w39_0 w39_1 w39_2 =>
 G.Qg ρ w39_0 w39_1 w39_2 w35_0 (fun w40_0 =>
 k0 a3 a4 a5 a6 a7 a8 0 w36_0 w40_0)))
 else bif ((a10 : Int) == 12) then
 bif ((w35_1 : Int) != 5) then
 k0 a3 a4 a5 a6 a7 a8 7 0 0
 else G.Qu ρ 1 w35_3 (fun w41_0 =>
 bif w41_0 then
 bif ((a10 : Int) == 12) then
 rowT [.i .i64, .i .i64, .i .i64, .i .i64, .i .i64, .i .i64, .i .i64, .b, .i .u64, .i .u64, .i .u64, .i .u64, .i .u64] a8 w35_2 fun c42 =>
 bif ((a16 : Int) == 0) then
 k0 a3 a4 a5 a6 a7 a8 0 c42.2.2.2.2.2.2.2.2.2.1 0
 else bif ((a16 : Int) == 1) then
 k0 a3 a4 a5 a6 a7 a8 0 c42.2.2.2.2.2.2.2.2.2.2.1 0
 else bif ((a16 : Int) == 2) then
 k0 a3 a4 a5 a6 a7 a8 0 c42.2.2.2.2.2.2.2.2.2.2.2.1 0
 else bif ((a16 : Int) == 3) then
 k0 a3 a4 a5 a6 a7 a8 0 c42.2.2.2.2.2.2.2.2.2.2.2.2.1 0
 else none
 else G.Qv ρ a0 a1 a2 a3 a4 a5 a6 a7 a8 (none) (fun w44_0 w44_1 w44_2 =>
 chk (decide ((0 : Int) ≤ w35_2)) <|
 chk (decide ((w35_2 : Int) < ((w44_1 : Nat) : Int))) <|
 bif ((a16 : Int) == 0) then
 chk (((List.length (w44_2 : Rows)) : Nat) == w44_0) <|
 rowN [.a, .a, .a, .a, .a, .a, .a, .a, .a, .a, .a, .a, .a] w44_2 (0 + w35_2.toNat) fun c45 =>
 chk (((List.length ((List.set (w44_2 : Rows) (0 + w35_2.toNat) [c45.1, c45.2.1, c45.2.2.1, c45.2.2.2.1, c45.2.2.2.2.1, c45.2.2.2.2.2.1, c45.2.2.2.2.2.2.1, c45.2.2.2.2.2.2.2.1, c45.2.2.2.2.2.2.2.2.1, .i .u64 a18, c45.2.2.2.2.2.2.2.2.2.2.1, c45.2.2.2.2.2.2.2.2.2.2.2.1, c45.2.2.2.2.2.2.2.2.2.2.2.2.1]) : Rows)) : Nat) == w44_0) <|
 k0 true true [] false false (List.take w44_1 (List.drop 0 ((List.set (w44_2 : Rows) (0 + w35_2.toNat) [c45.1, c45.2.1, c45.2.2.1, c45.2.2.2.1, c45.2.2.2.2.1, c45.2.2.2.2.2.1, c45.2.2.2.2.2.2.1, c45.2.2.2.2.2.2.2.1, c45.2.2.2.2.2.2.2.2.1, .i .u64 a18, c45.2.2.2.2.2.2.2.2.2.2.1, c45.2.2.2.2.2.2.2.2.2.2.2.1, c45.2.2.2.2.2.2.2.2.2.2.2.2.1]) : Rows))) 0 0 0
 else bif ((a16 : Int) == 1) then
 chk (((List.length (w44_2 : Rows)) : Nat) == w44_0) <|
 rowN [.a, .a, .a, .a, .a, .a, .a, .a, .a, .a, .a, .a, .a] w44_2 (0 + w35_2.toNat) fun c46 =>
 chk (((List.length ((List.set (w44_2 : Rows) (0 + w35_2.toNat) [c46.1, c46.2.1, c46.2.2.1, c46.2.2.2.1, c46.2.2.2.2.1, c46.2.2.2.2.2.1, c46.2.2.2.2.2.2.1, c46.2.2.2.2.2.2.2.1, c46.2.2.2.2.2.2.2.2.1, c46.2.2.2.2.2.2.2.2.2.1, .i .u64 a18, c46.2.2.2.2.2.2.2.2.2.2.2.1, c46.2.2.2.2.2.2.2.2.2.2.2.2.1]) : Rows)) : Nat) == w44_0) <|
 k0 true true [] false false (List.take w44_1 (List.drop 0 ((List.set (w44_2 : Rows) (0 + w35_2.toNat) [c46.1, c46.2.1, c46.2.2.1, c46.2.2.2.1, c46.2.2.2.2.1, c46.2.2.2.2.2.1, c46.2.2.2.2.2.2.1, c46.2.2.2.2.2.2.2.1, c46.2.2.2.2.2.2.2.2.1, c46.2.2.2.2.2.2.2.2.2.1, .i .u64 a18, c46.2.2.2.2.2.2.2.2.2.2.2.1, c46.2.2.2.2.2.2.2.2.2.2.2.2.1]) : Rows))) 0 0 0
 else bif ((a16 : Int) == 2) then
 chk (((List.length (w44_2 : Rows)) : Nat) == w44_0) <|
 rowN [.a, .a, .a, .a, .a, .a, .a, .a, .a, .a, .a, .a, .a] w44_2 (0 + w35_2.toNat) fun c47 =>
 chk (((List.length ((List.set (w44_2 : Rows) (0 + w35_2.toNat) [c47.1, c47.2.1, c47.2.2.1, c47.2.2.2.1, c47.2.2.2.2.1, c47.2.2.2.2.2.1, c47.2.2.2.2.2.2.1, c47.2.2.2.2.2.2.2.1, c47.2.2.2.2.2.2.2.2.1, c47.2.2.2.2.2.2.2.2.2.1, c47.2.2.2.2.2.2.2.2.2.2.1, .i .u64 a18, c47.2.2.2.2.2.2.2.2.2.2.2.2.1]) : Rows)) : Nat) == w44_0) <|
 k0 true true [] false false (List.take w44_1 (List.drop 0 ((List.set (w44_2 : Rows) (0 + w35_2.toNat) [c47.1, c47.2.1, c47.2.2.1, c47.2.2.2.1, c47.2.2.2.2.1, c47.2.2.2.2.2.1, c47.2.2.2.2.2.2.1, c47.2.2.2.2.2.2.2.1, c47.2.2.2.2.2.2.2.2.1, c47.2.2.2.2.2.2.2.2.2.1, c47.2.2.2.2.2.2.2.2.2.2.1, .i .u64 a18, c47.2.2.2.2.2.2.2.2.2.2.2.2.1]) : Rows))) 0 0 0
 else bif ((a16 : Int) == 3) then
 chk (((List.length (w44_2 : Rows)) : Nat) == w44_0) <|
 rowN [.a, .a, .a, .a, .a, .a, .a, .a, .a, .a, .a, .a, .a] w44_2 (0 + w35_2.toNat) fun c48 =>
 chk (((List.length ((List.set (w44_2 : Rows) (0 + w35_2.toNat) [c48.1, c48.2.1, c48.2.2.1, c48.2.2.2.1, c48.2.2.2.2.1, c48.2.2.2.2.2.1, c48.2.2.2.2.2.2.1, c48.2.2.2.2.2.2.2.1, c48.2.2.2.2.2.2.2.2.1, c48.2.2.2.2.2.2.2.2.2.1, c48.2.2.2.2.2.2.2.2.2.2.1, c48.2.2.2.2.2.2.2.2.2.2.2.1, .i .u64 a18]) : Rows)) : Nat) == w44_0) <|
 k0 true true [] false false (List.take w44_1 (List.drop 0 ((List.set (w44_2 : Rows) (0 + w35_2.toNat) [c48.1, c48.2.1, c48.2.2.1, c48.2.2.2.1, c48.2.2.2.2.1, c48.2.2.2.2.2.1, c48.2.2.2.2.2.2.1, c48.2.2.2.2.2.2.2.1, c48.2.2.2.2.2.2.2.2.1, c48.2.2.2.2.2.2.2.2.2.1, c48.2.2.2.2.2.2.2.2.2.2.1, c48.2.2.2.2.2.2.2.2.2.2.2.1, .i .u64 a18]) : Rows))) 0 0 0
 else none) (fun _w49_0 _w49_1 _w49_2 =>
 none) (fun w50_0 w50_1 w50_2 w50_3 w50_4 w50_5 =>
 chk (decide ((0 : Int) ≤ w35_2)) <|
 chk (decide ((w35_2 : Int) < ((w50_3 : Nat) : Int))) <|
 bif ((a16 : Int) == 0) then
 chk (((List.length (w50_5 : Rows)) : Nat) == w50_2) <|
 rowN [.a, .a, .a, .a, .a, .a, .a, .a, .a, .a, .a, .a, .a] w50_5 (0 + w35_2.toNat) fun c51 =>
 chk (((List.length (w50_4 : Rows)) : Nat) == w50_0) <|
 chk (((List.length ((List.set (w50_5 : Rows) (0 + w35_2.toNat) [c51.1, c51.2.1, c51.2.2.1, c51.2.2.2.1, c51.2.2.2.2.1, c51.2.2.2.2.2.1, c51.2.2.2.2.2.2.1, c51.2.2.2.2.2.2.2.1, c51.2.2.2.2.2.2.2.2.1, .i .u64 a18, c51.2.2.2.2.2.2.2.2.2.2.1, c51.2.2.2.2.2.2.2.2.2.2.2.1, c51.2.2.2.2.2.2.2.2.2.2.2.2.1]) : Rows)) : Nat) == w50_2) <|
 k0 false false (List.take w50_1 (List.drop 0 (w50_4 : Rows))) false false (List.take w50_3 (List.drop 0 ((List.set (w50_5 : Rows) (0 + w35_2.toNat) [c51.1, c51.2.1, c51.2.2.1, c51.2.2.2.1, c51.2.2.2.2.1, c51.2.2.2.2.2.1, c51.2.2.2.2.2.2.1, c51.2.2.2.2.2.2.2.1, c51.2.2.2.2.2.2.2.2.1, .i .u64 a18, c51.2.2.2.2.2.2.2.2.2.2.1, c51.2.2.2.2.2.2.2.2.2.2.2.1, c51.2.2.2.2.2.2.2.2.2.2.2.2.1]) : Rows))) 0 0 0
 else bif ((a16 : Int) == 1) then
 chk (((List.length (w50_5 : Rows)) : Nat) == w50_2) <|
 rowN [.a, .a, .a, .a, .a, .a, .a, .a, .a, .a, .a, .a, .a] w50_5 (0 + w35_2.toNat) fun c52 =>
 chk (((List.length (w50_4 : Rows)) : Nat) == w50_0) <|
 chk (((List.length ((List.set (w50_5 : Rows) (0 + w35_2.toNat) [c52.1, c52.2.1, c52.2.2.1, c52.2.2.2.1, c52.2.2.2.2.1, c52.2.2.2.2.2.1, c52.2.2.2.2.2.2.1, c52.2.2.2.2.2.2.2.1, c52.2.2.2.2.2.2.2.2.1, c52.2.2.2.2.2.2.2.2.2.1, .i .u64 a18, c52.2.2.2.2.2.2.2.2.2.2.2.1, c52.2.2.2.2.2.2.2.2.2.2.2.2.1]) : Rows)) : Nat) == w50_2) <|
 k0 false false (List.take w50_1 (List.drop 0 (w50_4 : Rows))) false false (List.take w50_3 (List.drop 0 ((List.set (w50_5 : Rows) (0 + w35_2.toNat) [c52.1, c52.2.1, c52.2.2.1, c52.2.2.2.1, c52.2.2.2.2.1, c52.2.2.2.2.2.1, c52.2.2.2.2.2.2.1, c52.2.2.2.2.2.2.2.1, c52.2.2.2.2.2.2.2.2.1, c52.2.2.2.2.2.2.2.2.2.1, .i .u64 a18, c52.2.2.2.2.2.2.2.2.2.2.2.1, c52.2.2.2.2.2.2.2.2.2.2.2.2.1]) : Rows))) 0 0 0
 else bif ((a16 : Int) == 2) then
 chk (((List.length (w50_5 : Rows)) : Nat) == w50_2) <|
 rowN [.a, .a, .a, .a, .a, .a, .a, .a, .a, .a, .a, .a, .a] w50_5 (0 + w35_2.toNat) fun c53 =>
 chk (((List.length (w50_4 : Rows)) : Nat) == w50_0) <|
 chk (((List.length ((List.set (w50_5 : Rows) (0 + w35_2.toNat) [c53.1, c53.2.1, c53.2.2.1, c53.2.2.2.1, c53.2.2.2.2.1, c53.2.2.2.2.2.1, c53.2.2.2.2.2.2.1, c53.2.2.2.2.2.2.2.1, c53.2.2.2.2.2.2.2.2.1, c53.2.2.2.2.2.2.2.2.2.1, c53.2.2.2.2.2.2.2.2.2.2.1, .i .u64 a18, c53.2.2.2.2.2.2.2.2.2.2.2.2.1]) : Rows)) : Nat) == w50_2) <|
 k0 false false (List.take w50_1 (List.drop 0 (w50_4 : Rows))) false false (List.take w50_3 (List.drop 0 ((List.set (w50_5 : Rows) (0 + w35_2.toNat) [c53.1, c53.2.1, c53.2.2.1, c53.2.2.2.1, c53.2.2.2.2.1, c53.2.2.2.2.2.1, c53.2.2.2.2.2.2.1, c53.2.2.2.2.2.2.2.1, c53.2.2.2.2.2.2.2.2.1, c53.2.2.2.2.2.2.2.2.2.1, c53.2.2.2.2.2.2.2.2.2.2.1, .i .u64 a18, c53.2.2.2.2.2.2.2.2.2.2.2.2.1]) : Rows))) 0 0 0
 else bif ((a16 : Int) == 3) then
 chk (((List.length (w50_5 : Rows)) : Nat) == w50_2) <|
 rowN [.a, .a, .a, .a, .a, .a, .a, .a, .a, .a, .a, .a, .a] w50_5 (0 + w35_2.toNat) fun c54 =>
 chk (((List.length (w50_4 : Rows)) : Nat) == w50_0) <|
 chk (((List.length ((List.set (w50_5 : Rows) (0 + w35_2.toNat) [c54.1, c54.2.1, c54.2.2.1, c54.2.2.2.1, c54.2.2.2.2.1, c54.2.2.2.2.2.1, c54.2.2.2.2.2.2.1, c54.2.2.2.2.2.2.2.1, c54.2.2.2.2.2.2.2.2.1, c54.2.2.2.2.2.2.2.2.2.1, c54.2.2.2.2.2.2.2.2.2.2.1, c54.2.2.2.2.2.2.2.2.2.2.2.1, .i .u64 a18]) : Rows)) : Nat) == w50_2) <|
 k0 false false (List.take w50_1 (List.drop 0 (w50_4 : Rows))) false false (List.take w50_3 (List.drop 0 ((List.set (w50_5 : Rows) (0 + w35_2.toNat) [c54.1, c54.2.1, c54.2.2.1, c54.2.2.2.1, c54.2.2.2.2.1, c54.2.2.2.2.2.1, c54.2.2.2.2.2.2.1, c54.2.2.2.2.2.2.2.1, c54.2.2.2.2.2.2.2.2.1, c54.2.2.2.2.2.2.2.2.2.1, c54.2.2.2.2.2.2.2.2.2.2.1, c54.2.2.2.2.2.2.2.2.2.2.2.1, .i .u64 a18]) : Rows))) 0 0 0
 else none)
 else k0 a3 a4 a5 a6 a7 a8 6 0 0)
 else bif ((w35_1 : Int) != 5) then
 k0 a3 a4 a5 a6 a7 a8 7 0 0
 else G.Qu ρ 2 w35_3 (fun w55_0 =>
 bif w55_0 then
 bif ((a10 : Int) == 12) then
 rowT [.i .i64, .i .i64, .i .i64, .i .i64, .i .i64, .i .i64, .i .i64, .b, .i .u64, .i .u64, .i .u64, .i .u64, .i .u64] a8 w35_2 fun c56 =>
 bif ((a16 : Int) == 0) then
 k0 a3 a4 a5 a6 a7 a8 0 c56.2.2.2.2.2.2.2.2.2.1 0
 else bif ((a16 : Int) == 1) then
 k0 a3 a4 a5 a6 a7 a8 0 c56.2.2.2.2.2.2.2.2.2.2.1 0
 else bif ((a16 : Int) == 2) then
 k0 a3 a4 a5 a6 a7 a8 0 c56.2.2.2.2.2.2.2.2.2.2.2.1 0
 else bif ((a16 : Int) == 3) then
 k0 a3 a4 a5 a6 a7 a8 0 c56.2.2.2.2.2.2.2.2.2.2.2.2.1 0
 else none
 else G.Qv ρ a0 a1 a2 a3 a4 a5 a6 a7 a8 (none) (fun w58_0 w58_1 w58_2 =>
 chk (decide ((0 : Int) ≤ w35_2)) <|
 chk (decide ((w35_2 : Int) < ((w58_1 : Nat) : Int))) <|
 bif ((a16 : Int) == 0) then
 chk (((List.length (w58_2 : Rows)) : Nat) == w58_0) <|
 rowN [.a, .a, .a, .a, .a, .a, .a, .a, .a, .a, .a, .a, .a] w58_2 (0 + w35_2.toNat) fun c59 =>
 chk (((List.length ((List.set (w58_2 : Rows) (0 + w35_2.toNat) [c59.1, c59.2.1, c59.2.2.1, c59.2.2.2.1, c59.2.2.2.2.1, c59.2.2.2.2.2.1, c59.2.2.2.2.2.2.1, c59.2.2.2.2.2.2.2.1, c59.2.2.2.2.2.2.2.2.1, .i .u64 a18, c59.2.2.2.2.2.2.2.2.2.2.1, c59.2.2.2.2.2.2.2.2.2.2.2.1, c59.2.2.2.2.2.2.2.2.2.2.2.2.1]) : Rows)) : Nat) == w58_0) <|
 k0 true true [] false false (List.take w58_1 (List.drop 0 ((List.set (w58_2 : Rows) (0 + w35_2.toNat) [c59.1, c59.2.1, c59.2.2.1, c59.2.2.2.1, c59.2.2.2.2.1, c59.2.2.2.2.2.1, c59.2.2.2.2.2.2.1, c59.2.2.2.2.2.2.2.1, c59.2.2.2.2.2.2.2.2.1, .i .u64 a18, c59.2.2.2.2.2.2.2.2.2.2.1, c59.2.2.2.2.2.2.2.2.2.2.2.1, c59.2.2.2.2.2.2.2.2.2.2.2.2.1]) : Rows))) 0 0 0
 else bif ((a16 : Int) == 1) then
 chk (((List.length (w58_2 : Rows)) : Nat) == w58_0) <|
 rowN [.a, .a, .a, .a, .a, .a, .a, .a, .a, .a, .a, .a, .a] w58_2 (0 + w35_2.toNat) fun c60 =>
 chk (((List.length ((List.set (w58_2 : Rows) (0 + w35_2.toNat) [c60.1, c60.2.1, c60.2.2.1, c60.2.2.2.1, c60.2.2.2.2.1, c60.2.2.2.2.2.1, c60.2.2.2.2.2.2.1, c60.2.2.2.2.2.2.2.1, c60.2.2.2.2.2.2.2.2.1, c60.2.2.2.2.2.2.2.2.2.1, .i .u64 a18, c60.2.2.2.2.2.2.2.2.2.2.2.1, c60.2.2.2.2.2.2.2.2.2.2.2.2.1]) : Rows)) : Nat) == w58_0) <|
 k0 true true [] false false (List.take w58_1 (List.drop 0 ((List.set (w58_2 : Rows) (0 + w35_2.toNat) [c60.1, c60.2.1, c60.2.2.1, c60.2.2.2.1, c60.2.2.2.2.1, c60.2.2.2.2.2.1, c60.2.2.2.2.2.2.1, c60.2.2.2.2.2.2.2.1, c60.2.2.2.2.2.2.2.2.1, c60.2.2.2.2.2.2.2.2.2.1, .i .u64 a18, c60.2.2.2.2.2.2.2.2.2.2.2.1, c60.2.2.2.2.2.2.2.2.2.2.2.2.1]) : Rows))) 0 0 0
 else bif ((a16 : Int) == 2) then
 chk (((List.length (w58_2 : Rows)) : Nat) == w58_0) <|
 rowN [.a, .a, .a, .a, .a, .a, .a, .a, .a, .a, .a, .a, .a] w58_2 (0 + w35_2.toNat) fun c61 =>
 chk (((List.length ((List.set (w58_2 : Rows) (0 + w35_2.toNat) [c61.1, c61.2.1, c61.2.2.1, c61.2.2.2.1, c61.2.2.2.2.1, c61.2.2.2.2.2.1, c61.2.2.2.2.2.2.1, c61.2.2.2.2.2.2.2.1, c61.2.2.2.2.2.2.2.2.1, c61.2.2.2.2.2.2.2.2.2.1, c61.2.2.2.2.2.2.2.2.2.2.1, .i .u64 a18, c61.2.2.2.2.2.2.2.2.2.2.2.2.1]) : Rows)) : Nat) == w58_0) <|
 k0 true true [] false false (List.take w58_1 (List.drop 0 ((List.set (w58_2 : Rows) (0 + w35_2.toNat) [c61.1, c61.2.1, c61.2.2.1, c61.2.2.2.1, c61.2.2.2.2.1, c61.2.2.2.2.2.1, c61.2.2.2.2.2.2.1, c61.2.2.2.2.2.2.2.1, c61.2.2.2.2.2.2.2.2.1, c61.2.2.2.2.2.2.2.2.2.1, c61.2.2.2.2.2.2.2.2.2.2.1, .i .u64 a18, c61.2.2.2.2.2.2.2.2.2.2.2.2.1]) : Rows))) 0 0 0
 else bif ((a16 : Int) == 3) then
 chk (((List.length (w58_2 : Rows)) : Nat) == w58_0) <|
 rowN [.a, .a, .a, .a, .a, .a, .a, .a, .a, .a, .a, .a, .a] w58_2 (0 + w35_2.toNat) fun c62 =>
 chk (((List.length ((List.set (w58_2 : Rows) (0 + w35_2.toNat) [c62.1, c62.2.1, c62.2.2.1, c62.2.2.2.1, c62.2.2.2.2.1, c62.2.2.2.2.2.1, c62.2.2.2.2.2.2.1, c62.2.2.2.2.2.2.2.1, c62.2.2.2.2.2.2.2.2.1, c62.2.2.2.2.2.2.2.2.2.1, c62.2.2.2.2.2.2.2.2.2.2.1, c62.2.2.2.2.2.2.2.2.2.2.2.1, .i .u64 a18]) : Rows)) : Nat) == w58_0) <|
 k0 true true [] false false (List.take w58_1 (List.drop 0 ((List.set (w58_2 : Rows) (0 + w35_2.toNat) [c62.1, c62.2.1, c62.2.2.1, c62.2.2.2.1, c62.2.2.2.2.1, c62.2.2.2.2.2.1, c62.2.2.2.2.2.2.1, c62.2.2.2.2.2.2.2.1, c62.2.2.2.2.2.2.2.2.1, c62.2.2.2.2.2.2.2.2.2.1, c62.2.2.2.2.2.2.2.2.2.2.1, c62.2.2.2.2.2.2.2.2.2.2.2.1, .i .u64 a18]) : Rows))) 0 0 0
 else none) (fun _w63_0 _w63_1 _w63_2 =>
 none) (fun w64_0 w64_1 w64_2 w64_3 w64_4 w64_5 =>
 chk (decide ((0 : Int) ≤ w35_2)) <|
 chk (decide ((w35_2 : Int) < ((w64_3 : Nat) : Int))) <|
 bif ((a16 : Int) == 0) then
 chk (((List.length (w64_5 : Rows)) : Nat) == w64_2) <|
 rowN [.a, .a, .a, .a, .a, .a, .a, .a, .a, .a, .a, .a, .a] w64_5 (0 + w35_2.toNat) fun c65 =>
 chk (((List.length (w64_4 : Rows)) : Nat) == w64_0) <|
 chk (((List.length ((List.set (w64_5 : Rows) (0 + w35_2.toNat) [c65.1, c65.2.1, c65.2.2.1, c65.2.2.2.1, c65.2.2.2.2.1, c65.2.2.2.2.2.1, c65.2.2.2.2.2.2.1, c65.2.2.2.2.2.2.2.1, c65.2.2.2.2.2.2.2.2.1, .i .u64 a18, c65.2.2.2.2.2.2.2.2.2.2.1, c65.2.2.2.2.2.2.2.2.2.2.2.1, c65.2.2.2.2.2.2.2.2.2.2.2.2.1]) : Rows)) : Nat) == w64_2) <|
 k0 false false (List.take w64_1 (List.drop 0 (w64_4 : Rows))) false false (List.take w64_3 (List.drop 0 ((List.set (w64_5 : Rows) (0 + w35_2.toNat) [c65.1, c65.2.1, c65.2.2.1, c65.2.2.2.1, c65.2.2.2.2.1, c65.2.2.2.2.2.1, c65.2.2.2.2.2.2.1, c65.2.2.2.2.2.2.2.1, c65.2.2.2.2.2.2.2.2.1, .i .u64 a18, c65.2.2.2.2.2.2.2.2.2.2.1, c65.2.2.2.2.2.2.2.2.2.2.2.1, c65.2.2.2.2.2.2.2.2.2.2.2.2.1]) : Rows))) 0 0 0
 else bif ((a16 : Int) == 1) then
 chk (((List.length (w64_5 : Rows)) : Nat) == w64_2) <|
 rowN [.a, .a, .a, .a, .a, .a, .a, .a, .a, .a, .a, .a, .a] w64_5 (0 + w35_2.toNat) fun c66 =>
 chk (((List.length (w64_4 : Rows)) : Nat) == w64_0) <|
 chk (((List.length ((List.set (w64_5 : Rows) (0 + w35_2.toNat) [c66.1, c66.2.1, c66.2.2.1, c66.2.2.2.1, c66.2.2.2.2.1, c66.2.2.2.2.2.1, c66.2.2.2.2.2.2.1, c66.2.2.2.2.2.2.2.1, c66.2.2.2.2.2.2.2.2.1, c66.2.2.2.2.2.2.2.2.2.1, .i .u64 a18, c66.2.2.2.2.2.2.2.2.2.2.2.1, c66.2.2.2.2.2.2.2.2.2.2.2.2.1]) : Rows)) : Nat) == w64_2) <|
 k0 false false (List.take w64_1 (List.drop 0 (w64_4 : Rows))) false false (List.take w64_3 (List.drop 0 ((List.set (w64_5 : Rows) (0 + w35_2.toNat) [c66.1, c66.2.1, c66.2.2.1, c66.2.2.2.1, c66.2.2.2.2.1, c66.2.2.2.2.2.1, c66.2.2.2.2.2.2.1, c66.2.2.2.2.2.2.2.1, c66.2.2.2.2.2.2.2.2.1, c66.2.2.2.2.2.2.2.2.2.1, .i .u64 a18, c66.2.2.2.2.2.2.2.2.2.2.2.1, c66.2.2.2.2.2.2.2.2.2.2.2.2.1]) : Rows))) 0 0 0
 else bif ((a16 : Int) == 2) then
 chk (((List.length (w64_5 : Rows)) : Nat) == w64_2) <|
 rowN [.a, .a, .a, .a, .a, .a, .a, .a, .a, .a, .a, .a, .a] w64_5 (0 + w35_2.toNat) fun c67 =>
 chk (((List.length (w64_4 : Rows)) : Nat) == w64_0) <|
 chk (((List.length ((List.set (w64_5 : Rows) (0 + w35_2.toNat) [c67.1, c67.2.1, c67.2.2.1, c67.2.2.2.1, c67.2.2.2.2.1, c67.2.2.2.2.2.1, c67.2.2.2.2.2.2.1, c67.2.2.2.2.2.2.2.1, c67.2.2.2.2.2.2.2.2.1, c67.2.2.2.2.2.2.2.2.2.1, c67.2.2.2.2.2.2.2.2.2.2.1, .i .u64 a18, c67.2.2.2.2.2.2.2.2.2.2.2.2.1]) : Rows)) : Nat) == w64_2) <|
 k0 false false (List.take w64_1 (List.drop 0 (w64_4 : Rows))) false false (List.take w64_3 (List.drop 0 ((List.set (w64_5 : Rows) (0 + w35_2.toNat) [c67.1, c67.2.1, c67.2.2.1, c67.2.2.2.1, c67.2.2.2.2.1, c67.2.2.2.2.2.1, c67.2.2.2.2.2.2.1, c67.2.2.2.2.2.2.2.1, c67.2.2.2.2.2.2.2.2.1, c67.2.2.2.2.2.2.2.2.2.1, c67.2.2.2.2.2.2.2.2.2.2.1, .i .u64 a18, c67.2.2.2.2.2.2.2.2.2.2.2.2.1]) : Rows))) 0 0 0
 else bif ((a16 : Int) == 3) then
 chk (((List.length (w64_5 : Rows)) : Nat) == w64_2) <|
 rowN [.a, .a, .a, .a, .a, .a, .a, .a, .a, .a, .a, .a, .a] w64_5 (0 + w35_2.toNat) fun c68 =>
 chk (((List.length (w64_4 : Rows)) : Nat) == w64_0) <|
 chk (((List.length ((List.set (w64_5 : Rows) (0 + w35_2.toNat) [c68.1, c68.2.1, c68.2.2.1, c68.2.2.2.1, c68.2.2.2.2.1, c68.2.2.2.2.2.1, c68.2.2.2.2.2.2.1, c68.2.2.2.2.2.2.2.1, c68.2.2.2.2.2.2.2.2.1, c68.2.2.2.2.2.2.2.2.2.1, c68.2.2.2.2.2.2.2.2.2.2.1, c68.2.2.2.2.2.2.2.2.2.2.2.1, .i .u64 a18]) : Rows)) : Nat) == w64_2) <|
 k0 false false (List.take w64_1 (List.drop 0 (w64_4 : Rows))) false false (List.take w64_3 (List.drop 0 ((List.set (w64_5 : Rows) (0 + w35_2.toNat) [c68.1, c68.2.1, c68.2.2.1, c68.2.2.2.1, c68.2.2.2.2.1, c68.2.2.2.2.2.1, c68.2.2.2.2.2.2.1, c68.2.2.2.2.2.2.2.1, c68.2.2.2.2.2.2.2.2.1, c68.2.2.2.2.2.2.2.2.2.1, c68.2.2.2.2.2.2.2.2.2.2.1, c68.2.2.2.2.2.2.2.2.2.2.2.1, .i .u64 a18]) : Rows))) 0 0 0
 else none)
 else k0 a3 a4 a5 a6 a7 a8 6 0 0))
 else G.Qt ρ a0 a1 a2 a3 a4 a5 a6 a7 a8 a9 a11 a12 a13 (fun w69_0 w69_1 w69_2 w69_3 w69_4 w69_5 =>
 bif ((w69_5 : Int) != 0) then
 k0 a3 a4 a5 a6 a7 a8 w69_5 0 0
 else bif ((a10 : Int) == 13) then
 G.Q09 ρ w69_1 w69_2 w69_3 w69_4 (fun w70_0 w70_1 =>
 bif w70_1 then
 G.Q8 ρ a0 a1 a2 a3 a4 a5 a6 a7 a8 (fun w71_0 w71_1 w71_2 =>
 G.Qg ρ w71_0 w71_1 w71_2 w69_0 (fun w72_0 =>
 k0 a3 a4 a5 a6 a7 a8 0 w70_0 w72_0))
 else G.Q8 ρ a0 a1 a2 a3 a4 a5 a6 a7 a8 (fun w73_0 w73_1 w73_2 =>
 G.Qg ρ w73_0 w73_1 w73_2 w69_0 (fun w74_0 =>
 k0 a3 a4 a5 a6 a7 a8 0 w70_0 w74_0)))
 else bif ((a10 : Int) == 12) then
 bif ((w69_1 : Int) != 5) then
 k0 a3 a4 a5 a6 a7 a8 7 0 0
 else G.Qu ρ 1 w69_3 (fun w75_0 =>
 bif w75_0 then
 bif ((a10 : Int) == 12) then
 rowT [.i .i64, .i .i64, .i .i64, .i .i64, .i .i64, .i .i64, .i .i64, .b, .i .u64, .i .u64, .i .u64, .i .u64, .i .u64] a8 w69_2 fun c76 =>
 bif ((a16 : Int) == 0) then
 k0 a3 a4 a5 a6 a7 a8 0 c76.2.2.2.2.2.2.2.2.2.1 0
 else bif ((a16 : Int) == 1) then
 k0 a3 a4 a5 a6 a7 a8 0 c76.2.2.2.2.2.2.2.2.2.2.1 0
 else bif ((a16 : Int) == 2) then
 k0 a3 a4 a5 a6 a7 a8 0 c76.2.2.2.2.2.2.2.2.2.2.2.1 0
 else bif ((a16 : Int) == 3) then
 k0 a3 a4 a5 a6 a7 a8 0 c76.2.2.2.2.2.2.2.2.2.2.2.2.1 0
 else none
 else G.Qv ρ a0 a1 a2 a3 a4 a5 a6 a7 a8 (none) (fun w78_0 w78_1 w78_2 =>
 chk (decide ((0 : Int) ≤ w69_2)) <|
 chk (decide ((w69_2 : Int) < ((w78_1 : Nat) : Int))) <|
 bif ((a16 : Int) == 0) then
 chk (((List.length (w78_2 : Rows)) : Nat) == w78_0) <|
 rowN [.a, .a, .a, .a, .a, .a, .a, .a, .a, .a, .a, .a, .a] w78_2 (0 + w69_2.toNat) fun c79 =>
 chk (((List.length ((List.set (w78_2 : Rows) (0 + w69_2.toNat) [c79.1, c79.2.1, c79.2.2.1, c79.2.2.2.1, c79.2.2.2.2.1, c79.2.2.2.2.2.1, c79.2.2.2.2.2.2.1, c79.2.2.2.2.2.2.2.1, c79.2.2.2.2.2.2.2.2.1, .i .u64 a18, c79.2.2.2.2.2.2.2.2.2.2.1, c79.2.2.2.2.2.2.2.2.2.2.2.1, c79.2.2.2.2.2.2.2.2.2.2.2.2.1]) : Rows)) : Nat) == w78_0) <|
 k0 true true [] false false (List.take w78_1 (List.drop 0 ((List.set (w78_2 : Rows) (0 + w69_2.toNat) [c79.1, c79.2.1, c79.2.2.1, c79.2.2.2.1, c79.2.2.2.2.1, c79.2.2.2.2.2.1, c79.2.2.2.2.2.2.1, c79.2.2.2.2.2.2.2.1, c79.2.2.2.2.2.2.2.2.1, .i .u64 a18, c79.2.2.2.2.2.2.2.2.2.2.1, c79.2.2.2.2.2.2.2.2.2.2.2.1, c79.2.2.2.2.2.2.2.2.2.2.2.2.1]) : Rows))) 0 0 0
 else bif ((a16 : Int) == 1) then
 chk (((List.length (w78_2 : Rows)) : Nat) == w78_0) <|
 rowN [.a, .a, .a, .a, .a, .a, .a, .a, .a, .a, .a, .a, .a] w78_2 (0 + w69_2.toNat) fun c80 =>
 chk (((List.length ((List.set (w78_2 : Rows) (0 + w69_2.toNat) [c80.1, c80.2.1, c80.2.2.1, c80.2.2.2.1, c80.2.2.2.2.1, c80.2.2.2.2.2.1, c80.2.2.2.2.2.2.1, c80.2.2.2.2.2.2.2.1, c80.2.2.2.2.2.2.2.2.1, c80.2.2.2.2.2.2.2.2.2.1, .i .u64 a18, c80.2.2.2.2.2.2.2.2.2.2.2.1, c80.2.2.2.2.2.2.2.2.2.2.2.2.1]) : Rows)) : Nat) == w78_0) <|
 k0 true true [] false false (List.take w78_1 (List.drop 0 ((List.set (w78_2 : Rows) (0 + w69_2.toNat) [c80.1, c80.2.1, c80.2.2.1, c80.2.2.2.1, c80.2.2.2.2.1, c80.2.2.2.2.2.1, c80.2.2.2.2.2.2.1, c80.2.2.2.2.2.2.2.1, c80.2.2.2.2.2.2.2.2.1, c80.2.2.2.2.2.2.2.2.2.1, .i .u64 a18, c80.2.2.2.2.2.2.2.2.2.2.2.1, c80.2.2.2.2.2.2.2.2.2.2.2.2.1]) : Rows))) 0 0 0
 else bif ((a16 : Int) == 2) then
 chk (((List.length (w78_2 : Rows)) : Nat) == w78_0) <|
 rowN [.a, .a, .a, .a, .a, .a, .a, .a, .a, .a, .a, .a, .a] w78_2 (0 + w69_2.toNat) fun c81 =>
 chk (((List.length ((List.set (w78_2 : Rows) (0 + w69_2.toNat) [c81.1, c81.2.1, c81.2.2.1, c81.2.2.2.1, c81.2.2.2.2.1, c81.2.2.2.2.2.1, c81.2.2.2.2.2.2.1, c81.2.2.2.2.2.2.2.1, c81.2.2.2.2.2.2.2.2.1, c81.2.2.2.2.2.2.2.2.2.1, c81.2.2.2.2.2.2.2.2.2.2.1, .i .u64 a18, c81.2.2.2.2.2.2.2.2.2.2.2.2.1]) : Rows)) : Nat) == w78_0) <|
 k0 true true [] false false (List.take w78_1 (List.drop 0 ((List.set (w78_2 : Rows) (0 + w69_2.toNat) [c81.1, c81.2.1, c81.2.2.1, c81.2.2.2.1, c81.2.2.2.2.1, c81.2.2.2.2.2.1, c81.2.2.2.2.2.2.1, c81.2.2.2.2.2.2.2.1, c81.2.2.2.2.2.2.2.2.1, c81.2.2.2.2.2.2.2.2.2.1, c81.2.2.2.2.2.2.2.2.2.2.1, .i .u64 a18, c81.2.2.2.2.2.2.2.2.2.2.2.2.1]) : Rows))) 0 0 0
 else bif ((a16 : Int) == 3) then
 chk (((List.length (w78_2 : Rows)) : Nat) == w78_0) <|
 rowN [.a, .a, .a, .a, .a, .a, .a, .a, .a, .a, .a, .a, .a] w78_2 (0 + w69_2.toNat) fun c82 =>
 chk (((List.length ((List.set (w78_2 : Rows) (0 + w69_2.toNat) [c82.1, c82.2.1, c82.2.2.1, c82.2.2.2.1, c82.2.2.2.2.1, c82.2.2.2.2.2.1, c82.2.2.2.2.2.2.1, c82.2.2.2.2.2.2.2.1, c82.2.2.2.2.2.2.2.2.1, c82.2.2.2.2.2.2.2.2.2.1, c82.2.2.2.2.2.2.2.2.2.2.1, c82.2.2.2.2.2.2.2.2.2.2.2.1, .i .u64 a18]) : Rows)) : Nat) == w78_0) <|
 k0 true true [] false false (List.take w78_1 (List.drop 0 ((List.set (w78_2 : Rows) (0 + w69_2.toNat) [c82.1, c82.2.1, c82.2.2.1, c82.2.2.2.1, c82.2.2.2.2.1, c82.2.2.2.2.2.1, c82.2.2.2.2.2.2.1, c82.2.2.2.2.2.2.2.1, c82.2.2.2.2.2.2.2.2.1, c82.2.2.2.2.2.2.2.2.2.1, c82.2.2.2.2.2.2.2.2.2.2.1, c82.2.2.2.2.2.2.2.2.2.2.2.1, .i .u64 a18]) : Rows))) 0 0 0
 else none) (fun _w83_0 _w83_1 _w83_2 =>
 none) (fun w84_0 w84_1 w84_2 w84_3 w84_4 w84_5 =>
 chk (decide ((0 : Int) ≤ w69_2)) <|
 chk (decide ((w69_2 : Int) < ((w84_3 : Nat) : Int))) <|
 bif ((a16 : Int) == 0) then
 chk (((List.length (w84_5 : Rows)) : Nat) == w84_2) <|
 rowN [.a, .a, .a, .a, .a, .a, .a, .a, .a, .a, .a, .a, .a] w84_5 (0 + w69_2.toNat) fun c85 =>
 chk (((List.length (w84_4 : Rows)) : Nat) == w84_0) <|
 chk (((List.length ((List.set (w84_5 : Rows) (0 + w69_2.toNat) [c85.1, c85.2.1, c85.2.2.1, c85.2.2.2.1, c85.2.2.2.2.1, c85.2.2.2.2.2.1, c85.2.2.2.2.2.2.1, c85.2.2.2.2.2.2.2.1, c85.2.2.2.2.2.2.2.2.1, .i .u64 a18, c85.2.2.2.2.2.2.2.2.2.2.1, c85.2.2.2.2.2.2.2.2.2.2.2.1, c85.2.2.2.2.2.2.2.2.2.2.2.2.1]) : Rows)) : Nat) == w84_2) <|
 k0 false false (List.take w84_1 (List.drop 0 (w84_4 : Rows))) false false (List.take w84_3 (List.drop 0 ((List.set (w84_5 : Rows) (0 + w69_2.toNat) [c85.1, c85.2.1, c85.2.2.1, c85.2.2.2.1, c85.2.2.2.2.1, c85.2.2.2.2.2.1, c85.2.2.2.2.2.2.1, c85.2.2.2.2.2.2.2.1, c85.2.2.2.2.2.2.2.2.1, .i .u64 a18, c85.2.2.2.2.2.2.2.2.2.2.1, c85.2.2.2.2.2.2.2.2.2.2.2.1, c85.2.2.2.2.2.2.2.2.2.2.2.2.1]) : Rows))) 0 0 0
 else bif ((a16 : Int) == 1) then
 chk (((List.length (w84_5 : Rows)) : Nat) == w84_2) <|
 rowN [.a, .a, .a, .a, .a, .a, .a, .a, .a, .a, .a, .a, .a] w84_5 (0 + w69_2.toNat) fun c86 =>
 chk (((List.length (w84_4 : Rows)) : Nat) == w84_0) <|
 chk (((List.length ((List.set (w84_5 : Rows) (0 + w69_2.toNat) [c86.1, c86.2.1, c86.2.2.1, c86.2.2.2.1, c86.2.2.2.2.1, c86.2.2.2.2.2.1, c86.2.2.2.2.2.2.1, c86.2.2.2.2.2.2.2.1, c86.2.2.2.2.2.2.2.2.1, c86.2.2.2.2.2.2.2.2.2.1, .i .u64 a18, c86.2.2.2.2.2.2.2.2.2.2.2.1, c86.2.2.2.2.2.2.2.2.2.2.2.2.1]) : Rows)) : Nat) == w84_2) <|
 k0 false false (List.take w84_1 (List.drop 0 (w84_4 : Rows))) false false (List.take w84_3 (List.drop 0 ((List.set (w84_5 : Rows) (0 + w69_2.toNat) [c86.1, c86.2.1, c86.2.2.1, c86.2.2.2.1, c86.2.2.2.2.1, c86.2.2.2.2.2.1, c86.2.2.2.2.2.2.1, c86.2.2.2.2.2.2.2.1, c86.2.2.2.2.2.2.2.2.1, c86.2.2.2.2.2.2.2.2.2.1, .i .u64 a18, c86.2.2.2.2.2.2.2.2.2.2.2.1, c86.2.2.2.2.2.2.2.2.2.2.2.2.1]) : Rows))) 0 0 0
 else bif ((a16 : Int) == 2) then
 chk (((List.length (w84_5 : Rows)) : Nat) == w84_2) <|
 rowN [.a, .a, .a, .a, .a, .a, .a, .a, .a, .a, .a, .a, .a] w84_5 (0 + w69_2.toNat) fun c87 =>
 chk (((List.length (w84_4 : Rows)) : Nat) == w84_0) <|
 chk (((List.length ((List.set (w84_5 : Rows) (0 + w69_2.toNat) [c87.1, c87.2.1, c87.2.2.1, c87.2.2.2.1, c87.2.2.2.2.1, c87.2.2.2.2.2.1, c87.2.2.2.2.2.2.1, c87.2.2.2.2.2.2.2.1, c87.2.2.2.2.2.2.2.2.1, c87.2.2.2.2.2.2.2.2.2.1, c87.2.2.2.2.2.2.2.2.2.2.1, .i .u64 a18, c87.2.2.2.2.2.2.2.2.2.2.2.2.1]) : Rows)) : Nat) == w84_2) <|
 k0 false false (List.take w84_1 (List.drop 0 (w84_4 : Rows))) false false (List.take w84_3 (List.drop 0 ((List.set (w84_5 : Rows) (0 + w69_2.toNat) [c87.1, c87.2.1, c87.2.2.1, c87.2.2.2.1, c87.2.2.2.2.1, c87.2.2.2.2.2.1, c87.2.2.2.2.2.2.1, c87.2.2.2.2.2.2.2.1, c87.2.2.2.2.2.2.2.2.1, c87.2.2.2.2.2.2.2.2.2.1, c87.2.2.2.2.2.2.2.2.2.2.1, .i .u64 a18, c87.2.2.2.2.2.2.2.2.2.2.2.2.1]) : Rows))) 0 0 0
 else bif ((a16 : Int) == 3) then
 chk (((List.length (w84_5 : Rows)) : Nat) == w84_2) <|
 rowN [.a, .a, .a, .a, .a, .a, .a, .a, .a, .a, .a, .a, .a] w84_5 (0 + w69_2.toNat) fun c88 =>
 chk (((List.length (w84_4 : Rows)) : Nat) == w84_0) <|
 chk (((List.length ((List.set (w84_5 : Rows) (0 + w69_2.toNat) [c88.1, c88.2.1, c88.2.2.1, c88.2.2.2.1, c88.2.2.2.2.1, c88.2.2.2.2.2.1, c88.2.2.2.2.2.2.1, c88.2.2.2.2.2.2.2.1, c88.2.2.2.2.2.2.2.2.1, c88.2.2.2.2.2.2.2.2.2.1, c88.2.2.2.2.2.2.2.2.2.2.1, c88.2.2.2.2.2.2.2.2.2.2.2.1, .i .u64 a18]) : Rows)) : Nat) == w84_2) <|
 k0 false false (List.take w84_1 (List.drop 0 (w84_4 : Rows))) false false (List.take w84_3 (List.drop 0 ((List.set (w84_5 : Rows) (0 + w69_2.toNat) [c88.1, c88.2.1, c88.2.2.1, c88.2.2.2.1, c88.2.2.2.2.1, c88.2.2.2.2.2.1, c88.2.2.2.2.2.2.1, c88.2.2.2.2.2.2.2.1, c88.2.2.2.2.2.2.2.2.1, c88.2.2.2.2.2.2.2.2.2.1, c88.2.2.2.2.2.2.2.2.2.2.1, c88.2.2.2.2.2.2.2.2.2.2.2.1, .i .u64 a18]) : Rows))) 0 0 0
 else none)
 else k0 a3 a4 a5 a6 a7 a8 6 0 0)
 else bif ((w69_1 : Int) != 5) then
 k0 a3 a4 a5 a6 a7 a8 7 0 0
 else G.Qu ρ 2 w69_3 (fun w89_0 =>
 bif w89_0 then
 bif ((a10 : Int) == 12) then
 rowT [.i .i64, .i .i64, .i .i64, .i .i64, .i .i64, .i .i64, .i .i64, .b, .i .u64, .i .u64, .i .u64, .i .u64, .i .u64] a8 w69_2 fun c90 =>
 bif ((a16 : Int) == 0) then
 k0 a3 a4 a5 a6 a7 a8 0 c90.2.2.2.2.2.2.2.2.2.1 0
 else bif ((a16 : Int) == 1) then
 k0 a3 a4 a5 a6 a7 a8 0 c90.2.2.2.2.2.2.2.2.2.2.1 0
 else bif ((a16 : Int) == 2) then
 k0 a3 a4 a5 a6 a7 a8 0 c90.2.2.2.2.2.2.2.2.2.2.2.1 0
 else bif ((a16 : Int) == 3) then
 k0 a3 a4 a5 a6 a7 a8 0 c90.2.2.2.2.2.2.2.2.2.2.2.2.1 0
 else none
 else G.Qv ρ a0 a1 a2 a3 a4 a5 a6 a7 a8 (none) (fun w92_0 w92_1 w92_2 =>
 chk (decide ((0 : Int) ≤ w69_2)) <|
 chk (decide ((w69_2 : Int) < ((w92_1 : Nat) : Int))) <|
 bif ((a16 : Int) == 0) then
 chk (((List.length (w92_2 : Rows)) : Nat) == w92_0) <|
 rowN [.a, .a, .a, .a, .a, .a, .a, .a, .a, .a, .a, .a, .a] w92_2 (0 + w69_2.toNat) fun c93 =>
 chk (((List.length ((List.set (w92_2 : Rows) (0 + w69_2.toNat) [c93.1, c93.2.1, c93.2.2.1, c93.2.2.2.1, c93.2.2.2.2.1, c93.2.2.2.2.2.1, c93.2.2.2.2.2.2.1, c93.2.2.2.2.2.2.2.1, c93.2.2.2.2.2.2.2.2.1, .i .u64 a18, c93.2.2.2.2.2.2.2.2.2.2.1, c93.2.2.2.2.2.2.2.2.2.2.2.1, c93.2.2.2.2.2.2.2.2.2.2.2.2.1]) : Rows)) : Nat) == w92_0) <|
 k0 true true [] false false (List.take w92_1 (List.drop 0 ((List.set (w92_2 : Rows) (0 + w69_2.toNat) [c93.1, c93.2.1, c93.2.2.1, c93.2.2.2.1, c93.2.2.2.2.1, c93.2.2.2.2.2.1, c93.2.2.2.2.2.2.1, c93.2.2.2.2.2.2.2.1, c93.2.2.2.2.2.2.2.2.1, .i .u64 a18, c93.2.2.2.2.2.2.2.2.2.2.1, c93.2.2.2.2.2.2.2.2.2.2.2.1, c93.2.2.2.2.2.2.2.2.2.2.2.2.1]) : Rows))) 0 0 0
 else bif ((a16 : Int) == 1) then
 chk (((List.length (w92_2 : Rows)) : Nat) == w92_0) <|
 rowN [.a, .a, .a, .a, .a, .a, .a, .a, .a, .a, .a, .a, .a] w92_2 (0 + w69_2.toNat) fun c94 =>
 chk (((List.length ((List.set (w92_2 : Rows) (0 + w69_2.toNat) [c94.1, c94.2.1, c94.2.2.1, c94.2.2.2.1, c94.2.2.2.2.1, c94.2.2.2.2.2.1, c94.2.2.2.2.2.2.1, c94.2.2.2.2.2.2.2.1, c94.2.2.2.2.2.2.2.2.1, c94.2.2.2.2.2.2.2.2.2.1, .i .u64 a18, c94.2.2.2.2.2.2.2.2.2.2.2.1, c94.2.2.2.2.2.2.2.2.2.2.2.2.1]) : Rows)) : Nat) == w92_0) <|
 k0 true true [] false false (List.take w92_1 (List.drop 0 ((List.set (w92_2 : Rows) (0 + w69_2.toNat) [c94.1, c94.2.1, c94.2.2.1, c94.2.2.2.1, c94.2.2.2.2.1, c94.2.2.2.2.2.1, c94.2.2.2.2.2.2.1, c94.2.2.2.2.2.2.2.1, c94.2.2.2.2.2.2.2.2.1, c94.2.2.2.2.2.2.2.2.2.1, .i .u64 a18, c94.2.2.2.2.2.2.2.2.2.2.2.1, c94.2.2.2.2.2.2.2.2.2.2.2.2.1]) : Rows))) 0 0 0
 else bif ((a16 : Int) == 2) then
 chk (((List.length (w92_2 : Rows)) : Nat) == w92_0) <|
 rowN [.a, .a, .a, .a, .a, .a, .a, .a, .a, .a, .a, .a, .a] w92_2 (0 + w69_2.toNat) fun c95 =>
 chk (((List.length ((List.set (w92_2 : Rows) (0 + w69_2.toNat) [c95.1, c95.2.1, c95.2.2.1, c95.2.2.2.1, c95.2.2.2.2.1, c95.2.2.2.2.2.1, c95.2.2.2.2.2.2.1, c95.2.2.2.2.2.2.2.1, c95.2.2.2.2.2.2.2.2.1, c95.2.2.2.2.2.2.2.2.2.1, c95.2.2.2.2.2.2.2.2.2.2.1, .i .u64 a18, c95.2.2.2.2.2.2.2.2.2.2.2.2.1]) : Rows)) : Nat) == w92_0) <|
 k0 true true [] false false (List.take w92_1 (List.drop 0 ((List.set (w92_2 : Rows) (0 + w69_2.toNat) [c95.1, c95.2.1, c95.2.2.1, c95.2.2.2.1, c95.2.2.2.2.1, c95.2.2.2.2.2.1, c95.2.2.2.2.2.2.1, c95.2.2.2.2.2.2.2.1, c95.2.2.2.2.2.2.2.2.1, c95.2.2.2.2.2.2.2.2.2.1, c95.2.2.2.2.2.2.2.2.2.2.1, .i .u64 a18, c95.2.2.2.2.2.2.2.2.2.2.2.2.1]) : Rows))) 0 0 0
 else bif ((a16 : Int) == 3) then
 chk (((List.length (w92_2 : Rows)) : Nat) == w92_0) <|
 rowN [.a, .a, .a, .a, .a, .a, .a, .a, .a, .a, .a, .a, .a] w92_2 (0 + w69_2.toNat) fun c96 =>
 chk (((List.length ((List.set (w92_2 : Rows) (0 + w69_2.toNat) [c96.1, c96.2.1, c96.2.2.1, c96.2.2.2.1, c96.2.2.2.2.1, c96.2.2.2.2.2.1, c96.2.2.2.2.2.2.1, c96.2.2.2.2.2.2.2.1, c96.2.2.2.2.2.2.2.2.1, c96.2.2.2.2.2.2.2.2.2.1, c96.2.2.2.2.2.2.2.2.2.2.1, c96.2.2.2.2.2.2.2.2.2.2.2.1, .i .u64 a18]) : Rows)) : Nat) == w92_0) <|
 k0 true true [] false false (List.take w92_1 (List.drop 0 ((List.set (w92_2 : Rows) (0 + w69_2.toNat) [c96.1, c96.2.1, c96.2.2.1, c96.2.2.2.1, c96.2.2.2.2.1, c96.2.2.2.2.2.1, c96.2.2.2.2.2.2.1, c96.2.2.2.2.2.2.2.1, c96.2.2.2.2.2.2.2.2.1, c96.2.2.2.2.2.2.2.2.2.1, c96.2.2.2.2.2.2.2.2.2.2.1, c96.2.2.2.2.2.2.2.2.2.2.2.1, .i .u64 a18]) : Rows))) 0 0 0
 else none) (fun _w97_0 _w97_1 _w97_2 =>
 none) (fun w98_0 w98_1 w98_2 w98_3 w98_4 w98_5 =>
 chk (decide ((0 : Int) ≤ w69_2)) <|
 chk (decide ((w69_2 : Int) < ((w98_3 : Nat) : Int))) <|
 bif ((a16 : Int) == 0) then
 chk (((List.length (w98_5 : Rows)) : Nat) == w98_2) <|
 rowN [.a, .a, .a, .a, .a, .a, .a, .a, .a, .a, .a, .a, .a] w98_5 (0 + w69_2.toNat) fun c99 =>
 chk (((List.length (w98_4 : Rows)) : Nat) == w98_0) <|
 chk (((List.length ((List.set (w98_5 : Rows) (0 + w69_2.toNat) [c99.1, c99.2.1, c99.2.2.1, c99.2.2.2.1, c99.2.2.2.2.1, c99.2.2.2.2.2.1, c99.2.2.2.2.2.2.1, c99.2.2.2.2.2.2.2.1, c99.2.2.2.2.2.2.2.2.1, .i .u64 a18, c99.2.2.2.2.2.2.2.2.2.2.1, c99.2.2.2.2.2.2.2.2.2.2.2.1, c99.2.2.2.2.2.2.2.2.2.2.2.2.1]) : Rows)) : Nat) == w98_2) <|
 k0 false false (List.take w98_1 (List.drop 0 (w98_4 : Rows))) false false (List.take w98_3 (List.drop 0 ((List.set (w98_5 : Rows) (0 + w69_2.toNat) [c99.1, c99.2.1, c99.2.2.1, c99.2.2.2.1, c99.2.2.2.2.1, c99.2.2.2.2.2.1, c99.2.2.2.2.2.2.1, c99.2.2.2.2.2.2.2.1, c99.2.2.2.2.2.2.2.2.1, .i .u64 a18, c99.2.2.2.2.2.2.2.2.2.2.1, c99.2.2.2.2.2.2.2.2.2.2.2.1, c99.2.2.2.2.2.2.2.2.2.2.2.2.1]) : Rows))) 0 0 0
 else bif ((a16 : Int) == 1) then
 chk (((List.length (w98_5 : Rows)) : Nat) == w98_2) <|
 rowN [.a, .a, .a, .a, .a, .a, .a, .a, .a, .a, .a, .a, .a] w98_5 (0 + w69_2.toNat) fun c100 =>
 chk (((List.length (w98_4 : Rows)) : Nat) == w98_0) <|
 chk (((List.length ((List.set (w98_5 : Rows) (0 + w69_2.toNat) [c100.1, c100.2.1, c100.2.2.1, c100.2.2.2.1, c100.2.2.2.2.1, c100.2.2.2.2.2.1, c100.2.2.2.2.2.2.1, c100.2.2.2.2.2.2.2.1, c100.2.2.2.2.2.2.2.2.1, c100.2.2.2.2.2.2.2.2.2.1, .i .u64 a18, c100.2.2.2.2.2.2.2.2.2.2.2.1, c100.2.2.2.2.2.2.2.2.2.2.2.2.1]) : Rows)) : Nat) == w98_2) <|
 k0 false false (List.take w98_1 (List.drop 0 (w98_4 : Rows))) false false (List.take w98_3 (List.drop 0 ((List.set (w98_5 : Rows) (0 + w69_2.toNat) [c100.1, c100.2.1, c100.2.2.1, c100.2.2.2.1, c100.2.2.2.2.1, c100.2.2.2.2.2.1, c100.2.2.2.2.2.2.1, c100.2.2.2.2.2.2.2.1, c100.2.2.2.2.2.2.2.2.1, c100.2.2.2.2.2.2.2.2.2.1, .i .u64 a18, c100.2.2.2.2.2.2.2.2.2.2.2.1, c100.2.2.2.2.2.2.2.2.2.2.2.2.1]) : Rows))) 0 0 0
 else bif ((a16 : Int) == 2) then
 chk (((List.length (w98_5 : Rows)) : Nat) == w98_2) <|
 rowN [.a, .a, .a, .a, .a, .a, .a, .a, .a, .a, .a, .a, .a] w98_5 (0 + w69_2.toNat) fun c101 =>
 chk (((List.length (w98_4 : Rows)) : Nat) == w98_0) <|
 chk (((List.length ((List.set (w98_5 : Rows) (0 + w69_2.toNat) [c101.1, c101.2.1, c101.2.2.1, c101.2.2.2.1, c101.2.2.2.2.1, c101.2.2.2.2.2.1, c101.2.2.2.2.2.2.1, c101.2.2.2.2.2.2.2.1, c101.2.2.2.2.2.2.2.2.1, c101.2.2.2.2.2.2.2.2.2.1, c101.2.2.2.2.2.2.2.2.2.2.1, .i .u64 a18, c101.2.2.2.2.2.2.2.2.2.2.2.2.1]) : Rows)) : Nat) == w98_2) <|
 k0 false false (List.take w98_1 (List.drop 0 (w98_4 : Rows))) false false (List.take w98_3 (List.drop 0 ((List.set (w98_5 : Rows) (0 + w69_2.toNat) [c101.1, c101.2.1, c101.2.2.1, c101.2.2.2.1, c101.2.2.2.2.1, c101.2.2.2.2.2.1, c101.2.2.2.2.2.2.1, c101.2.2.2.2.2.2.2.1, c101.2.2.2.2.2.2.2.2.1, c101.2.2.2.2.2.2.2.2.2.1, c101.2.2.2.2.2.2.2.2.2.2.1, .i .u64 a18, c101.2.2.2.2.2.2.2.2.2.2.2.2.1]) : Rows))) 0 0 0
 else bif ((a16 : Int) == 3) then
 chk (((List.length (w98_5 : Rows)) : Nat) == w98_2) <|
 rowN [.a, .a, .a, .a, .a, .a, .a, .a, .a, .a, .a, .a, .a] w98_5 (0 + w69_2.toNat) fun c102 =>
 chk (((List.length (w98_4 : Rows)) : Nat) == w98_0) <|
 chk (((List.length ((List.set (w98_5 : Rows) (0 + w69_2.toNat) [c102.1, c102.2.1, c102.2.2.1, c102.2.2.2.1, c102.2.2.2.2.1, c102.2.2.2.2.2.1, c102.2.2.2.2.2.2.1, c102.2.2.2.2.2.2.2.1, c102.2.2.2.2.2.2.2.2.1, c102.2.2.2.2.2.2.2.2.2.1, c102.2.2.2.2.2.2.2.2.2.2.1, c102.2.2.2.2.2.2.2.2.2.2.2.1, .i .u64 a18]) : Rows)) : Nat) == w98_2) <|
 k0 false false (List.take w98_1 (List.drop 0 (w98_4 : Rows))) false false (List.take w98_3 (List.drop 0 ((List.set (w98_5 : Rows) (0 + w69_2.toNat) [c102.1, c102.2.1, c102.2.2.1, c102.2.2.2.1, c102.2.2.2.2.1, c102.2.2.2.2.2.1, c102.2.2.2.2.2.2.1, c102.2.2.2.2.2.2.2.1, c102.2.2.2.2.2.2.2.2.1, c102.2.2.2.2.2.2.2.2.2.1, c102.2.2.2.2.2.2.2.2.2.2.1, c102.2.2.2.2.2.2.2.2.2.2.2.1, .i .u64 a18]) : Rows))) 0 0 0
 else none)
 else k0 a3 a4 a5 a6 a7 a8 6 0 0))
 else k0 a3 a4 a5 a6 a7 a8 1 0 0)
def Q06_g (n : Nat) : Q06_G := ⟨Q0h n, Qt n, Q09 n, Q8 n, Qg n, Qu n, Qv n⟩
def Q06 (n : Nat) : Q06_T := fun _ρ a0 a1 a2 a3 a4 a5 a6 a7 a8 a9 a10 a11 a12 a13 a14 a15 a16 a17 a18 k0 => Q06_s (Q06_g n) n a0 a1 a2 a3 a4 a5 a6 a7 a8 a9 a10 a11 a12 a13 a14 a15 a16 a17 a18 k0
def Q06_e (n : Nat) : EK := Q06_E (Q06 n)
def Q06_S (G : Q06_G) : CK := tabS [(27, Q0h_E G.Q0h), (16, Qt_E G.Qt), (33, Q09_E G.Q09), (25, Q8_E G.Q8), (34, Qg_E G.Qg), (28, Qu_E G.Qu), (29, Qv_E G.Qv)]
theorem Q06_Sok (n : Nat) : CK.OK (Q06_S (Q06_g n)) (L tab) := tabS_ok _ (List.forall_mem_cons.2 ⟨(Q0h_ok n), List.forall_mem_cons.2 ⟨(Qt_ok n), List.forall_mem_cons.2 ⟨(Q09_ok n), List.forall_mem_cons.2 ⟨(Q8_ok n), List.forall_mem_cons.2 ⟨(Qg_ok n), List.forall_mem_cons.2 ⟨(Qu_ok n), List.forall_mem_cons.2 ⟨(Qv_ok n), (fun _ h => nomatch h)⟩⟩⟩⟩⟩⟩⟩)
def Q06_hs : HintC := hintL [(91, [.i .i64, .i .i64, .i .i64, .i .i64, .i .i64, .i .i64, .i .i64, .b, .i .u64, .i .u64, .i .u64, .i .u64, .i .u64])]
def Q06_lp (_G : Q06_G) (_n : Nat) : LK := tabL []
theorem Q06_k (G : Q06_G) {ρ : Type} (n : Nat) (a0 a1 a2 : Int) (a3 a4 : Bool) (a5 : Rows) (a6 a7 : Bool) (a8 : Rows) (a9 a10 : Int) (a11 a12 : Bool) (a13 : Rows) (a14 a15 : Bool) (a16 a17 a18 : Int) (K : Res → Option ρ) : runC (Q06_S G) Q06_hs (Q06_lp G n) m15 [.agg [.i .i64 a0, .i .i64 a1, .i .i64 a2, .lst a3 a4 5 a5, .lst a6 a7 13 a8], .i .i64 a9, .agg [.i .i64 a10, .lst a11 a12 1 a13, .lst a14 a15 0 [], .i .i64 a16, .i .i64 a17, .i .u64 a18]] K = Q06_s G n a0 a1 a2 a3 a4 a5 a6 a7 a8 a9 a10 a11 a12 a13 a14 a15 a16 a17 a18 (fun w0 w1 w2 w3 w4 w5 w6 w7 w8 => K ⟨.tup [.agg [.i .i64 a0, .i .i64 a1, .i .i64 a2, .lst w0 w1 5 w2, .lst w3 w4 13 w5], .agg [.i .i64 w6, .i .u64 w7, .i .i64 w8]], [], []⟩) := by kernel_rfl
theorem Q06_ok (n : Nat) : EK.OK (Q06_e n) 15 (L tab) := EK.shp (fun _ _ _ => rfl) fun ρ K y c e => EK.run (Q06_Sok n) (by kernel_rfl) (MF.LKOK.of (LK.of (l := []) (by kernel_rfl) ((fun _ h => nomatch h)))) (Q06_k (Q06_g n) n _ _ _ _ _ _ _ _ _ _ _ _ _ _ _ _ _ _ _ K) (by kernel_rfl) e
abbrev Q0k_T : Type 1 := (ρ : Type) → (Bool → Option ρ) → Option ρ
def Q0k_E (G : Q0k_T) : EK := fun ρ args K => decL [] args fun _c => G ρ (fun w0 => K ⟨.b w0, [], []⟩)
structure Q0k_G where
 mk ::
 Q0q : Q0q_T
 reevelaw20_way : reevelaw20_way_T
 Q06 : Q06_T
def Q0k_s (G : Q0k_G) {ρ : Type} (_n : Nat)  (k0 : (Bool → Option ρ)) : Option ρ :=
 G.Q0q ρ (fun w0_0 w0_1 w0_2 w0_3 w0_4 w0_5 w0_6 w0_7 w0_8 =>
 G.reevelaw20_way ρ false false ([[.i .i64 3]]) (bs (stayR ⟨.agg [.lst false false 1 ([[.i .i64 3]])], [], []⟩) <|
 G.Q06 ρ w0_0 w0_1 w0_2 w0_3 w0_4 w0_5 w0_6 w0_7 w0_8 0 11 false false ([[.i .i64 3]]) true true 2 0 77 (fun w2_0 w2_1 w2_2 w2_3 w2_4 w2_5 w2_6 w2_7 w2_8 =>
 G.reevelaw20_way ρ false false ([[.i .i64 4]]) (bs (stayR ⟨.agg [.lst false false 1 ([[.i .i64 4]])], [], []⟩) <|
 G.Q06 ρ w0_0 w0_1 w0_2 w2_0 w2_1 w2_2 w2_3 w2_4 w2_5 0 12 false false ([[.i .i64 4]]) true true 2 0 0 (fun _w4_0 _w4_1 _w4_2 _w4_3 _w4_4 _w4_5 w4_6 w4_7 w4_8 =>
 bif (((w2_6 : Int) == 0) && (((w2_7 : Int) == 0) && (((w2_8 : Int) == 0) && true))) then
 bif (((w4_6 : Int) == 0) && (((w4_7 : Int) == 77) && (((w4_8 : Int) == 0) && true))) then
 k0 true
 else k0 false
 else k0 false)))))
def Q0k_g (n : Nat) : Q0k_G := ⟨Q0q n, reevelaw20_way n, Q06 n⟩
def Q0k (n : Nat) : Q0k_T := fun _ρ k0 => Q0k_s (Q0k_g n) n k0
def Q0k_e (n : Nat) : EK := Q0k_E (Q0k n)
def Q0k_S (G : Q0k_G) : CK := tabS [(32, Q0q_E G.Q0q), (13, reevelaw20_way_E G.reevelaw20_way), (15, Q06_E G.Q06)]
theorem Q0k_Sok (n : Nat) : CK.OK (Q0k_S (Q0k_g n)) (L tab) := tabS_ok _ (List.forall_mem_cons.2 ⟨(Q0q_ok n), List.forall_mem_cons.2 ⟨(reevelaw20_way_ok n), List.forall_mem_cons.2 ⟨(Q06_ok n), (fun _ h => nomatch h)⟩⟩⟩)
def Q0k_hs : HintC := hintL []
def Q0k_lp (_G : Q0k_G) (_n : Nat) : LK := tabL []
theorem Q0k_k (G : Q0k_G) {ρ : Type} (n : Nat)  (K : Res → Option ρ) : runC (Q0k_S G) Q0k_hs (Q0k_lp G n) m12 [] K = Q0k_s G n  (fun w0 => K ⟨.b w0, [], []⟩) := by kernel_rfl
theorem Q0k_ok (n : Nat) : EK.OK (Q0k_e n) 12 (L tab) := EK.shp (fun _ _ _ => rfl) fun ρ K y c e => EK.run (Q0k_Sok n) (by kernel_rfl) (MF.LKOK.of (LK.of (l := []) (by kernel_rfl) ((fun _ h => nomatch h)))) (Q0k_k (Q0k_g n) n  K) (by kernel_rfl) e
abbrev reevelaw20_heavy_T : Type 1 := (ρ : Type) → Int → Int → Int → Bool → Bool → Rows → Bool → Bool → Rows → Int → Bool → Bool → Rows → Bool → Bool → Int → Int → Int → (Bool → Option ρ) → Option ρ
def reevelaw20_heavy_E (G : reevelaw20_heavy_T) : EK := fun ρ args K => decL [.agg [.i .i64 none, .i .i64 none, .i .i64 none, .lst none none 5 none, .lst none none 13 none], .agg [.i .i64 none, .lst none none 1 none, .lst none none 0 (some []), .i .i64 none, .i .i64 none, .i .u64 none]] args fun c => G ρ c.1.1 c.1.2.1 c.1.2.2.1 c.1.2.2.2.1.1 c.1.2.2.2.1.2.1 c.1.2.2.2.1.2.2 c.1.2.2.2.2.1.1 c.1.2.2.2.2.1.2.1 c.1.2.2.2.2.1.2.2 c.2.1.1 c.2.1.2.1.1 c.2.1.2.1.2.1 c.2.1.2.1.2.2 c.2.1.2.2.1.1 c.2.1.2.2.1.2.1 c.2.1.2.2.2.1 c.2.1.2.2.2.2.1 c.2.1.2.2.2.2.2.1 (fun w0 => K ⟨.b w0, [], []⟩)
structure reevelaw20_heavy_G where
 mk ::
def reevelaw20_heavy_s (_G : reevelaw20_heavy_G) {ρ : Type} (_n : Nat) (_a0 _a1 _a2 : Int) (_a3 _a4 : Bool) (a5 : Rows) (_a6 _a7 : Bool) (a8 : Rows) (_a9 : Int) (_a10 _a11 : Bool) (a12 : Rows) (_a13 _a14 : Bool) (_a15 _a16 _a17 : Int) (k0 : (Bool → Option ρ)) : Option ρ :=
 bif decide (((((List.length (a5 : Rows)) : Nat) : Int) : Int) > 100) then
 k0 true
 else bif decide (((((List.length (a8 : Rows)) : Nat) : Int) : Int) > 50) then
 k0 true
 else bif decide (((((List.length (a12 : Rows)) : Nat) : Int) : Int) > 10) then
 k0 true
 else k0 false
def reevelaw20_heavy_g (_n : Nat) : reevelaw20_heavy_G := ⟨⟩
def reevelaw20_heavy (n : Nat) : reevelaw20_heavy_T := fun _ρ a0 a1 a2 a3 a4 a5 a6 a7 a8 a9 a10 a11 a12 a13 a14 a15 a16 a17 k0 => reevelaw20_heavy_s (reevelaw20_heavy_g n) n a0 a1 a2 a3 a4 a5 a6 a7 a8 a9 a10 a11 a12 a13 a14 a15 a16 a17 k0
def reevelaw20_heavy_e (n : Nat) : EK := reevelaw20_heavy_E (reevelaw20_heavy n)
def reevelaw20_heavy_S (_G : reevelaw20_heavy_G) : CK := tabS []
theorem reevelaw20_heavy_Sok (n : Nat) : CK.OK (reevelaw20_heavy_S (reevelaw20_heavy_g n)) (L tab) := tabS_ok _ ((fun _ h => nomatch h))
def reevelaw20_heavy_hs : HintC := hintL []
def reevelaw20_heavy_lp (_G : reevelaw20_heavy_G) (_n : Nat) : LK := tabL []
theorem reevelaw20_heavy_k (G : reevelaw20_heavy_G) {ρ : Type} (n : Nat) (a0 a1 a2 : Int) (a3 a4 : Bool) (a5 : Rows) (a6 a7 : Bool) (a8 : Rows) (a9 : Int) (a10 a11 : Bool) (a12 : Rows) (a13 a14 : Bool) (a15 a16 a17 : Int) (K : Res → Option ρ) : runC (reevelaw20_heavy_S G) reevelaw20_heavy_hs (reevelaw20_heavy_lp G n) m14 [.agg [.i .i64 a0, .i .i64 a1, .i .i64 a2, .lst a3 a4 5 a5, .lst a6 a7 13 a8], .agg [.i .i64 a9, .lst a10 a11 1 a12, .lst a13 a14 0 [], .i .i64 a15, .i .i64 a16, .i .u64 a17]] K = reevelaw20_heavy_s G n a0 a1 a2 a3 a4 a5 a6 a7 a8 a9 a10 a11 a12 a13 a14 a15 a16 a17 (fun w0 => K ⟨.b w0, [], []⟩) := by kernel_rfl
theorem reevelaw20_heavy_ok (n : Nat) : EK.OK (reevelaw20_heavy_e n) 14 (L tab) := EK.shp (fun _ _ _ => rfl) fun ρ K y c e => EK.run (reevelaw20_heavy_Sok n) (by kernel_rfl) (MF.LKOK.of (LK.of (l := []) (by kernel_rfl) ((fun _ h => nomatch h)))) (reevelaw20_heavy_k (reevelaw20_heavy_g n) n _ _ _ _ _ _ _ _ _ _ _ _ _ _ _ _ _ _ K) (by kernel_rfl) e
abbrev slices_Equal_Slot_T : Type 1 := (ρ : Type) → Bool → Bool → Rows → Bool → Bool → Rows → (Bool → Option ρ) → Option ρ
def slices_Equal_Slot_E (G : slices_Equal_Slot_T) : EK := fun ρ args K => decL [.lst none none 5 none, .lst none none 5 none] args fun c => G ρ c.1.1 c.1.2.1 c.1.2.2 c.2.1.1 c.2.1.2.1 c.2.1.2.2 (fun w0 => K ⟨.b w0, [], []⟩)
structure slices_Equal_Slot_G where
 mk ::
abbrev slices_Equal_Slot_l4_V : Type := Int
def slices_Equal_Slot_l4_s (_G : slices_Equal_Slot_G) {ρ : Type} (_n : Nat) (_p0 _p1 : Bool) (p2 : Rows) (_p3 _p4 : Bool) (p5 : Rows) (p6 : Int) (k0 : (Option ρ)) (k1 : (Option ρ)) (rec' : slices_Equal_Slot_l4_V → Option ρ) : slices_Equal_Slot_l4_V → Option ρ
 | v =>
 bif decide ((v : Int) < p6) then
 rowT [.i .i64, .i .i64, .i .i64, .i .i64, .i .i64] p2 v fun c0 =>
 rowT [.i .i64, .i .i64, .i .i64, .i .i64, .i .i64] p5 v fun c1 =>
 bif (!(((c0.1 : Int) == c1.1) && (((c0.2.1 : Int) == c1.2.1) && (((c0.2.2.1 : Int) == c1.2.2.1) && (((c0.2.2.2.1 : Int) == c1.2.2.2.1) && (((c0.2.2.2.2.1 : Int) == c1.2.2.2.2.1) && true)))))) then
 k0
 else rec' ((IntKind.wrap .i64 (v + 1)))
 else k1
def slices_Equal_Slot_l4 (G : slices_Equal_Slot_G) {ρ : Type} (n : Nat) (p0 p1 : Bool) (p2 : Rows) (p3 p4 : Bool) (p5 : Rows) (p6 : Int) (k0 : (Option ρ)) (k1 : (Option ρ)) (v : slices_Equal_Slot_l4_V) : Option ρ := fuelN (slices_Equal_Slot_l4_s G n p0 p1 p2 p3 p4 p5 p6 k0 k1) n v
def slices_Equal_Slot_l4_enc (p0 p1 : Bool) (p2 : Rows) (p3 p4 : Bool) (p5 : Rows) (p6 : Int) : slices_Equal_Slot_l4_V → St
 | v => ⟨[(0, .lst p0 p1 5 p2), (1, .lst p3 p4 5 p5), (12, .i .i64 p6), (13, .i .i64 v)], []⟩
def slices_Equal_Slot_s (G : slices_Equal_Slot_G) {ρ : Type} (n : Nat) (a0 a1 : Bool) (a2 : Rows) (a3 a4 : Bool) (a5 : Rows) (k0 : (Bool → Option ρ)) : Option ρ :=
 bif (((((List.length (a2 : Rows)) : Nat) : Int) : Int) != (((List.length (a5 : Rows)) : Nat) : Int)) then
 k0 false
 else slices_Equal_Slot_l4 G n a0 a1 a2 a3 a4 a5 (((List.length (a2 : Rows)) : Nat) : Int) (k0 false) (k0 true) (0)
def slices_Equal_Slot_g (_n : Nat) : slices_Equal_Slot_G := ⟨⟩
def slices_Equal_Slot (n : Nat) : slices_Equal_Slot_T := fun _ρ a0 a1 a2 a3 a4 a5 k0 => slices_Equal_Slot_s (slices_Equal_Slot_g n) n a0 a1 a2 a3 a4 a5 k0
def slices_Equal_Slot_e (n : Nat) : EK := slices_Equal_Slot_E (slices_Equal_Slot n)
def slices_Equal_Slot_S (_G : slices_Equal_Slot_G) : CK := tabS []
theorem slices_Equal_Slot_Sok (n : Nat) : CK.OK (slices_Equal_Slot_S (slices_Equal_Slot_g n)) (L tab) := tabS_ok _ ((fun _ h => nomatch h))
def slices_Equal_Slot_hs : HintC := hintL [(18, [.i .i64, .i .i64, .i .i64, .i .i64, .i .i64]), (22, [.i .i64, .i .i64, .i .i64, .i .i64, .i .i64])]
def slices_Equal_Slot_c4 : Nat × List Nat × List Nat × MC := loopAt 4 m30
def slices_Equal_Slot_l4_d (G : slices_Equal_Slot_G) (n : Nat) : Go.Rv.LE := fun _ρ h K => decSt [(0, .lst none none 5 none), (1, .lst none none 5 none), (12, .i .i64 none), (13, .i .i64 none)] [] h fun a _b => slices_Equal_Slot_l4 G n a.1.1 a.1.2.1 a.1.2.2 a.2.1.1 a.2.1.2.1 a.2.1.2.2 a.2.2.1 (K .ret ⟨[(4, .b false)], []⟩) (K (.exit 0) ⟨[(4, .u)], []⟩) (a.2.2.2.1)
def slices_Equal_Slot_d4 (G : slices_Equal_Slot_G) (n : Nat) : Go.Rv.LE := slices_Equal_Slot_l4_d G n
def slices_Equal_Slot_lp (G : slices_Equal_Slot_G) (n : Nat) : LK := tabL [(4, slices_Equal_Slot_d4 G n)]
theorem slices_Equal_Slot_l4_k (G : slices_Equal_Slot_G) {ρ : Type} (n : Nat) (p0 p1 : Bool) (p2 : Rows) (p3 p4 : Bool) (p5 : Rows) (p6 : Int) (K : Ex → St → Option ρ) (N : St → Option ρ) : ∀ v, roundC (slices_Equal_Slot_S G) slices_Equal_Slot_hs (slices_Equal_Slot_lp G n) slices_Equal_Slot_c4 0 N K (slices_Equal_Slot_l4_enc p0 p1 p2 p3 p4 p5 p6 v) = slices_Equal_Slot_l4_s G n p0 p1 p2 p3 p4 p5 p6 (K .ret ⟨[(4, .b false)], []⟩) (K (.exit 0) ⟨[(4, .u)], []⟩) (fun v => N (slices_Equal_Slot_l4_enc p0 p1 p2 p3 p4 p5 p6 v)) v
 | v => by kernel_rfl
theorem slices_Equal_Slot_l4_dok (n : Nat) : LE.OK (slices_Equal_Slot_l4_d (slices_Equal_Slot_g n) n) (L tab) slices_Equal_Slot_c4 := LE.shp (fun _ _ _ => rfl) fun ρ K y a b e => LE.rounds (slices_Equal_Slot_Sok n) (LK.of (l := []) (by kernel_rfl) ((fun _ h => nomatch h))) (slices_Equal_Slot_l4_k (slices_Equal_Slot_g n) n _ _ _ _ _ _ _ K) (by kernel_rfl) (by kernel_rfl) e
theorem slices_Equal_Slot_d4_ok (n : Nat) : LE.OK (slices_Equal_Slot_d4 (slices_Equal_Slot_g n) n) (L tab) slices_Equal_Slot_c4 := slices_Equal_Slot_l4_dok n
theorem slices_Equal_Slot_k (G : slices_Equal_Slot_G) {ρ : Type} (n : Nat) (a0 a1 : Bool) (a2 : Rows) (a3 a4 : Bool) (a5 : Rows) (K : Res → Option ρ) : runC (slices_Equal_Slot_S G) slices_Equal_Slot_hs (slices_Equal_Slot_lp G n) m30 [.lst a0 a1 5 a2, .lst a3 a4 5 a5] K = slices_Equal_Slot_s G n a0 a1 a2 a3 a4 a5 (fun w0 => K ⟨.b w0, [], []⟩) := by kernel_rfl
theorem slices_Equal_Slot_ok (n : Nat) : EK.OK (slices_Equal_Slot_e n) 30 (L tab) := EK.shp (fun _ _ _ => rfl) fun ρ K y c e => EK.run (slices_Equal_Slot_Sok n) (by kernel_rfl) (MF.LKOK.of (LK.of (l := [slices_Equal_Slot_c4]) (by kernel_rfl) (List.forall_mem_cons.2 ⟨LE.at (e := slices_Equal_Slot_d4 (slices_Equal_Slot_g n) n) (by kernel_rfl) (slices_Equal_Slot_d4_ok n), (fun _ h => nomatch h)⟩))) (slices_Equal_Slot_k (slices_Equal_Slot_g n) n _ _ _ _ _ _ K) (by kernel_rfl) e
abbrev slices_Equal_Thing_T : Type 1 := (ρ : Type) → Bool → Bool → Rows → Bool → Bool → Rows → (Bool → Option ρ) → Option ρ
def slices_Equal_Thing_E (G : slices_Equal_Thing_T) : EK := fun ρ args K => decL [.lst none none 13 none, .lst none none 13 none] args fun c => G ρ c.1.1 c.1.2.1 c.1.2.2 c.2.1.1 c.2.1.2.1 c.2.1.2.2 (fun w0 => K ⟨.b w0, [], []⟩)
structure slices_Equal_Thing_G where
 mk ::
abbrev slices_Equal_Thing_l4_V : Type := Int
def slices_Equal_Thing_l4_s (_G : slices_Equal_Thing_G) {ρ : Type} (_n : Nat) (_p0 _p1 : Bool) (p2 : Rows) (_p3 _p4 : Bool) (p5 : Rows) (p6 : Int) (k0 : (Option ρ)) (k1 : (Option ρ)) (rec' : slices_Equal_Thing_l4_V → Option ρ) : slices_Equal_Thing_l4_V → Option ρ
 | v =>
 bif decide ((v : Int) < p6) then
 rowT [.i .i64, .i .i64, .i .i64, .i .i64, .i .i64, .i .i64, .i .i64, .b, .i .u64, .i .u64, .i .u64, .i .u64, .i .u64] p2 v fun c0 =>
 rowT [.i .i64, .i .i64, .i .i64, .i .i64, .i .i64, .i .i64, .i .i64, .b, .i .u64, .i .u64, .i .u64, .i .u64, .i .u64] p5 v fun c1 =>
 bif (!(((c0.1 : Int) == c1.1) && (((c0.2.1 : Int) == c1.2.1) && (((c0.2.2.1 : Int) == c1.2.2.1) && (((c0.2.2.2.1 : Int) == c1.2.2.2.1) && (((c0.2.2.2.2.1 : Int) == c1.2.2.2.2.1) && (((c0.2.2.2.2.2.1 : Int) == c1.2.2.2.2.2.1) && (((c0.2.2.2.2.2.2.1 : Int) == c1.2.2.2.2.2.2.1) && (((c0.2.2.2.2.2.2.2.1 : Bool) == c1.2.2.2.2.2.2.2.1) && (((c0.2.2.2.2.2.2.2.2.1 : Int) == c1.2.2.2.2.2.2.2.2.1) && (((c0.2.2.2.2.2.2.2.2.2.1 : Int) == c1.2.2.2.2.2.2.2.2.2.1) && (((c0.2.2.2.2.2.2.2.2.2.2.1 : Int) == c1.2.2.2.2.2.2.2.2.2.2.1) && (((c0.2.2.2.2.2.2.2.2.2.2.2.1 : Int) == c1.2.2.2.2.2.2.2.2.2.2.2.1) && (((c0.2.2.2.2.2.2.2.2.2.2.2.2.1 : Int) == c1.2.2.2.2.2.2.2.2.2.2.2.2.1) && true)))))))))))))) then
 k0
 else rec' ((IntKind.wrap .i64 (v + 1)))
 else k1
def slices_Equal_Thing_l4 (G : slices_Equal_Thing_G) {ρ : Type} (n : Nat) (p0 p1 : Bool) (p2 : Rows) (p3 p4 : Bool) (p5 : Rows) (p6 : Int) (k0 : (Option ρ)) (k1 : (Option ρ)) (v : slices_Equal_Thing_l4_V) : Option ρ := fuelN (slices_Equal_Thing_l4_s G n p0 p1 p2 p3 p4 p5 p6 k0 k1) n v
def slices_Equal_Thing_l4_enc (p0 p1 : Bool) (p2 : Rows) (p3 p4 : Bool) (p5 : Rows) (p6 : Int) : slices_Equal_Thing_l4_V → St
 | v => ⟨[(0, .lst p0 p1 13 p2), (1, .lst p3 p4 13 p5), (12, .i .i64 p6), (13, .i .i64 v)], []⟩
def slices_Equal_Thing_s (G : slices_Equal_Thing_G) {ρ : Type} (n : Nat) (a0 a1 : Bool) (a2 : Rows) (a3 a4 : Bool) (a5 : Rows) (k0 : (Bool → Option ρ)) : Option ρ :=
 bif (((((List.length (a2 : Rows)) : Nat) : Int) : Int) != (((List.length (a5 : Rows)) : Nat) : Int)) then
 k0 false
 else slices_Equal_Thing_l4 G n a0 a1 a2 a3 a4 a5 (((List.length (a2 : Rows)) : Nat) : Int) (k0 false) (k0 true) (0)
def slices_Equal_Thing_g (_n : Nat) : slices_Equal_Thing_G := ⟨⟩
def slices_Equal_Thing (n : Nat) : slices_Equal_Thing_T := fun _ρ a0 a1 a2 a3 a4 a5 k0 => slices_Equal_Thing_s (slices_Equal_Thing_g n) n a0 a1 a2 a3 a4 a5 k0
def slices_Equal_Thing_e (n : Nat) : EK := slices_Equal_Thing_E (slices_Equal_Thing n)
def slices_Equal_Thing_S (_G : slices_Equal_Thing_G) : CK := tabS []
theorem slices_Equal_Thing_Sok (n : Nat) : CK.OK (slices_Equal_Thing_S (slices_Equal_Thing_g n)) (L tab) := tabS_ok _ ((fun _ h => nomatch h))
def slices_Equal_Thing_hs : HintC := hintL [(18, [.i .i64, .i .i64, .i .i64, .i .i64, .i .i64, .i .i64, .i .i64, .b, .i .u64, .i .u64, .i .u64, .i .u64, .i .u64]), (22, [.i .i64, .i .i64, .i .i64, .i .i64, .i .i64, .i .i64, .i .i64, .b, .i .u64, .i .u64, .i .u64, .i .u64, .i .u64])]
def slices_Equal_Thing_c4 : Nat × List Nat × List Nat × MC := loopAt 4 m31
def slices_Equal_Thing_l4_d (G : slices_Equal_Thing_G) (n : Nat) : Go.Rv.LE := fun _ρ h K => decSt [(0, .lst none none 13 none), (1, .lst none none 13 none), (12, .i .i64 none), (13, .i .i64 none)] [] h fun a _b => slices_Equal_Thing_l4 G n a.1.1 a.1.2.1 a.1.2.2 a.2.1.1 a.2.1.2.1 a.2.1.2.2 a.2.2.1 (K .ret ⟨[(4, .b false)], []⟩) (K (.exit 0) ⟨[(4, .u)], []⟩) (a.2.2.2.1)
def slices_Equal_Thing_d4 (G : slices_Equal_Thing_G) (n : Nat) : Go.Rv.LE := slices_Equal_Thing_l4_d G n
def slices_Equal_Thing_lp (G : slices_Equal_Thing_G) (n : Nat) : LK := tabL [(4, slices_Equal_Thing_d4 G n)]
theorem slices_Equal_Thing_l4_k (G : slices_Equal_Thing_G) {ρ : Type} (n : Nat) (p0 p1 : Bool) (p2 : Rows) (p3 p4 : Bool) (p5 : Rows) (p6 : Int) (K : Ex → St → Option ρ) (N : St → Option ρ) : ∀ v, roundC (slices_Equal_Thing_S G) slices_Equal_Thing_hs (slices_Equal_Thing_lp G n) slices_Equal_Thing_c4 0 N K (slices_Equal_Thing_l4_enc p0 p1 p2 p3 p4 p5 p6 v) = slices_Equal_Thing_l4_s G n p0 p1 p2 p3 p4 p5 p6 (K .ret ⟨[(4, .b false)], []⟩) (K (.exit 0) ⟨[(4, .u)], []⟩) (fun v => N (slices_Equal_Thing_l4_enc p0 p1 p2 p3 p4 p5 p6 v)) v
 | v => by kernel_rfl
theorem slices_Equal_Thing_l4_dok (n : Nat) : LE.OK (slices_Equal_Thing_l4_d (slices_Equal_Thing_g n) n) (L tab) slices_Equal_Thing_c4 := LE.shp (fun _ _ _ => rfl) fun ρ K y a b e => LE.rounds (slices_Equal_Thing_Sok n) (LK.of (l := []) (by kernel_rfl) ((fun _ h => nomatch h))) (slices_Equal_Thing_l4_k (slices_Equal_Thing_g n) n _ _ _ _ _ _ _ K) (by kernel_rfl) (by kernel_rfl) e
theorem slices_Equal_Thing_d4_ok (n : Nat) : LE.OK (slices_Equal_Thing_d4 (slices_Equal_Thing_g n) n) (L tab) slices_Equal_Thing_c4 := slices_Equal_Thing_l4_dok n
theorem slices_Equal_Thing_k (G : slices_Equal_Thing_G) {ρ : Type} (n : Nat) (a0 a1 : Bool) (a2 : Rows) (a3 a4 : Bool) (a5 : Rows) (K : Res → Option ρ) : runC (slices_Equal_Thing_S G) slices_Equal_Thing_hs (slices_Equal_Thing_lp G n) m31 [.lst a0 a1 13 a2, .lst a3 a4 13 a5] K = slices_Equal_Thing_s G n a0 a1 a2 a3 a4 a5 (fun w0 => K ⟨.b w0, [], []⟩) := by kernel_rfl
theorem slices_Equal_Thing_ok (n : Nat) : EK.OK (slices_Equal_Thing_e n) 31 (L tab) := EK.shp (fun _ _ _ => rfl) fun ρ K y c e => EK.run (slices_Equal_Thing_Sok n) (by kernel_rfl) (MF.LKOK.of (LK.of (l := [slices_Equal_Thing_c4]) (by kernel_rfl) (List.forall_mem_cons.2 ⟨LE.at (e := slices_Equal_Thing_d4 (slices_Equal_Thing_g n) n) (by kernel_rfl) (slices_Equal_Thing_d4_ok n), (fun _ h => nomatch h)⟩))) (slices_Equal_Thing_k (slices_Equal_Thing_g n) n _ _ _ _ _ _ K) (by kernel_rfl) e
abbrev Q0b_T : Type 1 := (ρ : Type) → Int → Int → Int → Bool → Bool → Rows → Bool → Bool → Rows → Int → Int → Int → Bool → Bool → Rows → Bool → Bool → Rows → (Bool → Option ρ) → Option ρ
def Q0b_E (G : Q0b_T) : EK := fun ρ args K => decL [.agg [.i .i64 none, .i .i64 none, .i .i64 none, .lst none none 5 none, .lst none none 13 none], .agg [.i .i64 none, .i .i64 none, .i .i64 none, .lst none none 5 none, .lst none none 13 none]] args fun c => G ρ c.1.1 c.1.2.1 c.1.2.2.1 c.1.2.2.2.1.1 c.1.2.2.2.1.2.1 c.1.2.2.2.1.2.2 c.1.2.2.2.2.1.1 c.1.2.2.2.2.1.2.1 c.1.2.2.2.2.1.2.2 c.2.1.1 c.2.1.2.1 c.2.1.2.2.1 c.2.1.2.2.2.1.1 c.2.1.2.2.2.1.2.1 c.2.1.2.2.2.1.2.2 c.2.1.2.2.2.2.1.1 c.2.1.2.2.2.2.1.2.1 c.2.1.2.2.2.2.1.2.2 (fun w0 => K ⟨.b w0, [], []⟩)
structure Q0b_G where
 mk ::
 slices_Equal_Slot : slices_Equal_Slot_T
 slices_Equal_Thing : slices_Equal_Thing_T
def Q0b_s (G : Q0b_G) {ρ : Type} (_n : Nat) (a0 a1 a2 : Int) (a3 a4 : Bool) (a5 : Rows) (a6 a7 : Bool) (a8 : Rows) (a9 a10 a11 : Int) (a12 a13 : Bool) (a14 : Rows) (a15 a16 : Bool) (a17 : Rows) (k0 : (Bool → Option ρ)) : Option ρ :=
 bif (((a0 : Int) == a9) && (((a1 : Int) == a10) && (((a2 : Int) == a11) && true))) then
 G.slices_Equal_Slot ρ a3 a4 a5 a12 a13 a14 (fun w0_0 =>
 bif w0_0 then
 G.slices_Equal_Thing ρ a6 a7 a8 a15 a16 a17 (fun w1_0 =>
 bif w1_0 then
 k0 true
 else k0 false)
 else k0 false)
 else k0 false
def Q0b_g (n : Nat) : Q0b_G := ⟨slices_Equal_Slot n, slices_Equal_Thing n⟩
def Q0b (n : Nat) : Q0b_T := fun _ρ a0 a1 a2 a3 a4 a5 a6 a7 a8 a9 a10 a11 a12 a13 a14 a15 a16 a17 k0 => Q0b_s (Q0b_g n) n a0 a1 a2 a3 a4 a5 a6 a7 a8 a9 a10 a11 a12 a13 a14 a15 a16 a17 k0
def Q0b_e (n : Nat) : EK := Q0b_E (Q0b n)
def Q0b_S (G : Q0b_G) : CK := tabS [(30, slices_Equal_Slot_E G.slices_Equal_Slot), (31, slices_Equal_Thing_E G.slices_Equal_Thing)]
theorem Q0b_Sok (n : Nat) : CK.OK (Q0b_S (Q0b_g n)) (L tab) := tabS_ok _ (List.forall_mem_cons.2 ⟨(slices_Equal_Slot_ok n), List.forall_mem_cons.2 ⟨(slices_Equal_Thing_ok n), (fun _ h => nomatch h)⟩⟩)
def Q0b_hs : HintC := hintL []
def Q0b_lp (_G : Q0b_G) (_n : Nat) : LK := tabL []
theorem Q0b_k (G : Q0b_G) {ρ : Type} (n : Nat) (a0 a1 a2 : Int) (a3 a4 : Bool) (a5 : Rows) (a6 a7 : Bool) (a8 : Rows) (a9 a10 a11 : Int) (a12 a13 : Bool) (a14 : Rows) (a15 a16 : Bool) (a17 : Rows) (K : Res → Option ρ) : runC (Q0b_S G) Q0b_hs (Q0b_lp G n) m11 [.agg [.i .i64 a0, .i .i64 a1, .i .i64 a2, .lst a3 a4 5 a5, .lst a6 a7 13 a8], .agg [.i .i64 a9, .i .i64 a10, .i .i64 a11, .lst a12 a13 5 a14, .lst a15 a16 13 a17]] K = Q0b_s G n a0 a1 a2 a3 a4 a5 a6 a7 a8 a9 a10 a11 a12 a13 a14 a15 a16 a17 (fun w0 => K ⟨.b w0, [], []⟩) := by kernel_rfl
theorem Q0b_ok (n : Nat) : EK.OK (Q0b_e n) 11 (L tab) := EK.shp (fun _ _ _ => rfl) fun ρ K y c e => EK.run (Q0b_Sok n) (by kernel_rfl) (MF.LKOK.of (LK.of (l := []) (by kernel_rfl) ((fun _ h => nomatch h)))) (Q0b_k (Q0b_g n) n _ _ _ _ _ _ _ _ _ _ _ _ _ _ _ _ _ _ K) (by kernel_rfl) e
end Go.Rv
namespace Go.Rv
abbrev Qe_T : Type 1 := (ρ : Type) → Int → Bool → Bool → Rows → (Nat → Nat → Rows → Option ρ) → (Option ρ) → Option ρ
def Qe_E (G : Qe_T) : EK := fun ρ args K => decL [.i .u64 none, .lst none none 2 none] args fun c => G ρ c.1 c.2.1.1 c.2.1.2.1 c.2.1.2.2 (fun w0 w1 w2 => K ⟨.sl 0 w0 1 0 w1, [.row 1 true false w2], []⟩) (K ⟨.lst true true 0 [], [], []⟩)
structure Qe_G where
 mk ::
 Q04 : Q04_T
 tag_Field_mask : tag_Field_mask_T
abbrev Qe_l5_V : Type := Nat × Nat × Int × Rows
def Qe_l5_s (G : Qe_G) {ρ : Type} (_n : Nat) (p0 : Int) (_p1 _p2 : Bool) (p3 : Rows) (p4 : Int) (k0 : (Nat → Nat → Rows → Option ρ)) (rec' : Qe_l5_V → Option ρ) : Qe_l5_V → Option ρ
 | v =>
 bif decide ((v.2.2.1 : Int) < p4) then
 rowT [.i .i64, .i .i64] p3 v.2.2.1 fun c0 =>
 G.tag_Field_mask ρ c0.1 c0.2.1 (fun w1_0 =>
 chk (decide (0 ≤ (c0.1 : Int))) <|
 chk (((List.length (v.2.2.2 : Rows)) : Nat) == v.1) <|
 chk ((v.2.1 : Nat) == v.1) <|
 chk (decide ((v.1 + 1) ≤ most)) <|
 rec' ((v.1 + 1), (v.1 + 1), (IntKind.wrap .i64 (v.2.2.1 + 1)), (v.2.2.2 ++ [[.i .u64 (((IntKind.wrap .u64 (BitVec.ofInt (IntKind.bits .u64) p0 &&& BitVec.ofInt (IntKind.bits .u64) w1_0).toNat) : Int).fdiv (2 ^ (min c0.1.toNat (IntKind.bits .u64))))]])))
 else k0 v.1 v.2.1 v.2.2.2
def Qe_l5 (G : Qe_G) {ρ : Type} (n : Nat) (p0 : Int) (p1 p2 : Bool) (p3 : Rows) (p4 : Int) (k0 : (Nat → Nat → Rows → Option ρ)) (v : Qe_l5_V) : Option ρ := fuelN (Qe_l5_s G n p0 p1 p2 p3 p4 k0) n v
def Qe_l5_enc (p0 : Int) (p1 p2 : Bool) (p3 : Rows) (p4 : Int) : Qe_l5_V → St
 | v => ⟨[(0, .i .u64 p0), (5, .sl 0 v.1 1 0 v.2.1), (14, .lst p1 p2 2 p3), (15, .i .i64 p4), (16, .i .i64 v.2.2.1)], [.row 1 true false v.2.2.2]⟩
def Qe_s (G : Qe_G) {ρ : Type} (n : Nat) (a0 : Int) (a1 a2 : Bool) (a3 : Rows) (k0 : (Nat → Nat → Rows → Option ρ)) (k1 : (Option ρ)) : Option ρ :=
 G.Q04 ρ a1 a2 a3 (fun w0_0 =>
 bif w0_0 then
 chk (decide ((0 : Int) ≤ (((List.length (a3 : Rows)) : Nat) : Int))) <|
 chk (decide (((((List.length (a3 : Rows)) : Nat) : Int) : Int) ≤ most)) <|
 Qe_l5 G n a0 a1 a2 a3 (((List.length (a3 : Rows)) : Nat) : Int) (fun w1_0 w1_1 w1_2 =>
 k0 w1_0 w1_1 w1_2) (0, 0, 0, [])
 else k1)
def Qe_g (n : Nat) : Qe_G := ⟨Q04 n, tag_Field_mask n⟩
def Qe (n : Nat) : Qe_T := fun _ρ a0 a1 a2 a3 k0 k1 => Qe_s (Qe_g n) n a0 a1 a2 a3 k0 k1
def Qe_e (n : Nat) : EK := Qe_E (Qe n)
def Qe_S (G : Qe_G) : CK := tabS [(66, Q04_E G.Q04), (67, tag_Field_mask_E G.tag_Field_mask)]
theorem Qe_Sok (n : Nat) : CK.OK (Qe_S (Qe_g n)) (L tab) := tabS_ok _ (List.forall_mem_cons.2 ⟨(Q04_ok n), List.forall_mem_cons.2 ⟨(tag_Field_mask_ok n), (fun _ h => nomatch h)⟩⟩)
def Qe_hs : HintC := hintL [(18, [.i .i64, .i .i64])]
def Qe_c5 : Nat × List Nat × List Nat × MC := loopAt 5 m37
def Qe_l5_d (G : Qe_G) (n : Nat) : Go.Rv.LE := fun _ρ h K => decSt [(0, .i .u64 none), (5, .sl 0 1 none (some 0) none), (14, .lst none none 2 none), (15, .i .i64 none), (16, .i .i64 none)] [.row 1 true false none] h fun a b => Qe_l5 G n a.1 a.2.2.1.1 a.2.2.1.2.1 a.2.2.1.2.2 a.2.2.2.1 (fun w0 w1 w2 => K (.exit 0) ⟨[(5, .sl 0 w0 1 0 w1)], [.row 1 true false w2]⟩) (a.2.1.1, a.2.1.2.2, a.2.2.2.2.1, b.1)
def Qe_d5 (G : Qe_G) (n : Nat) : Go.Rv.LE := Qe_l5_d G n
def Qe_lp (G : Qe_G) (n : Nat) : LK := tabL [(5, Qe_d5 G n)]
theorem Qe_l5_k (G : Qe_G) {ρ : Type} (n : Nat) (p0 : Int) (p1 p2 : Bool) (p3 : Rows) (p4 : Int) (K : Ex → St → Option ρ) (N : St → Option ρ) : ∀ v, roundC (Qe_S G) Qe_hs (Qe_lp G n) Qe_c5 1 N K (Qe_l5_enc p0 p1 p2 p3 p4 v) = Qe_l5_s G n p0 p1 p2 p3 p4 (fun w0 w1 w2 => K (.exit 0) ⟨[(5, .sl 0 w0 1 0 w1)], [.row 1 true false w2]⟩) (fun v => N (Qe_l5_enc p0 p1 p2 p3 p4 v)) v
 | v => by kernel_rfl
theorem Qe_l5_dok (n : Nat) : LE.OK (Qe_l5_d (Qe_g n) n) (L tab) Qe_c5 := LE.shp (fun _ _ _ => rfl) fun ρ K y a b e => LE.rounds (Qe_Sok n) (LK.of (l := []) (by kernel_rfl) ((fun _ h => nomatch h))) (Qe_l5_k (Qe_g n) n _ _ _ _ _ K) (by kernel_rfl) (by kernel_rfl) e
theorem Qe_d5_ok (n : Nat) : LE.OK (Qe_d5 (Qe_g n) n) (L tab) Qe_c5 := Qe_l5_dok n
theorem Qe_k (G : Qe_G) {ρ : Type} (n : Nat) (a0 : Int) (a1 a2 : Bool) (a3 : Rows) (K : Res → Option ρ) : runC (Qe_S G) Qe_hs (Qe_lp G n) m37 [.i .u64 a0, .lst a1 a2 2 a3] K = Qe_s G n a0 a1 a2 a3 (fun w0 w1 w2 => K ⟨.sl 0 w0 1 0 w1, [.row 1 true false w2], []⟩) (K ⟨.lst true true 0 [], [], []⟩) := by kernel_rfl
theorem Qe_ok (n : Nat) : EK.OK (Qe_e n) 37 (L tab) := EK.shp (fun _ _ _ => rfl) fun ρ K y c e => EK.run (Qe_Sok n) (by kernel_rfl) (MF.LKOK.of (LK.of (l := [Qe_c5]) (by kernel_rfl) (List.forall_mem_cons.2 ⟨LE.at (e := Qe_d5 (Qe_g n) n) (by kernel_rfl) (Qe_d5_ok n), (fun _ h => nomatch h)⟩))) (Qe_k (Qe_g n) n _ _ _ _ K) (by kernel_rfl) e
abbrev Q0f_T : Type 1 := (ρ : Type) → Int → Bool → Bool → Rows → (Int → Option ρ) → Option ρ
def Q0f_E (G : Q0f_T) : EK := fun ρ args K => decL [.i .u64 none, .lst none none 2 none] args fun c => G ρ c.1 c.2.1.1 c.2.1.2.1 c.2.1.2.2 (fun w0 => K ⟨.i .u64 w0, [], []⟩)
structure Q0f_G where
 mk ::
 Qh : Qh_T
def Q0f_s (G : Q0f_G) {ρ : Type} (_n : Nat) (a0 : Int) (a1 a2 : Bool) (a3 : Rows) (k0 : (Int → Option ρ)) : Option ρ :=
 G.Qh ρ a1 a2 a3 (fun w0_0 w0_1 =>
 bif w0_1 then
 k0 (IntKind.wrap .u64 (BitVec.ofInt (IntKind.bits .u64) a0 &&& ~~~ BitVec.ofInt (IntKind.bits .u64) w0_0).toNat)
 else k0 (IntKind.wrap .u64 (BitVec.ofInt (IntKind.bits .u64) a0 &&& ~~~ BitVec.ofInt (IntKind.bits .u64) w0_0).toNat))
def Q0f_g (n : Nat) : Q0f_G := ⟨Qh n⟩
def Q0f (n : Nat) : Q0f_T := fun _ρ a0 a1 a2 a3 k0 => Q0f_s (Q0f_g n) n a0 a1 a2 a3 k0
def Q0f_e (n : Nat) : EK := Q0f_E (Q0f n)
def Q0f_S (G : Q0f_G) : CK := tabS [(68, Qh_E G.Qh)]
theorem Q0f_Sok (n : Nat) : CK.OK (Q0f_S (Q0f_g n)) (L tab) := tabS_ok _ (List.forall_mem_cons.2 ⟨(Qh_ok n), (fun _ h => nomatch h)⟩)
def Q0f_hs : HintC := hintL []
def Q0f_lp (_G : Q0f_G) (_n : Nat) : LK := tabL []
theorem Q0f_k (G : Q0f_G) {ρ : Type} (n : Nat) (a0 : Int) (a1 a2 : Bool) (a3 : Rows) (K : Res → Option ρ) : runC (Q0f_S G) Q0f_hs (Q0f_lp G n) m39 [.i .u64 a0, .lst a1 a2 2 a3] K = Q0f_s G n a0 a1 a2 a3 (fun w0 => K ⟨.i .u64 w0, [], []⟩) := by kernel_rfl
theorem Q0f_ok (n : Nat) : EK.OK (Q0f_e n) 39 (L tab) := EK.shp (fun _ _ _ => rfl) fun ρ K y c e => EK.run (Q0f_Sok n) (by kernel_rfl) (MF.LKOK.of (LK.of (l := []) (by kernel_rfl) ((fun _ h => nomatch h)))) (Q0f_k (Q0f_g n) n _ _ _ _ K) (by kernel_rfl) e
abbrev Q0e_T : Type 1 := (ρ : Type) → Int → (Int → Int → Int → Int → Bool → Option ρ) → Option ρ
def Q0e_E (G : Q0e_T) : EK := fun ρ args K => decL [.i .u64 none] args fun c => G ρ c.1 (fun w0 w1 w2 w3 w4 => K ⟨.tup [.agg [.i .i64 w0, .i .i64 w1, .i .i64 w2, .i .i64 w3], .b w4], [], []⟩)
structure Q0e_G where
 mk ::
 cap_fields : cap_fields_T
 Qe : Qe_T
 Q0f : Q0f_T
 Qq : Qq_T
def Q0e_s (G : Q0e_G) {ρ : Type} (_n : Nat) (a0 : Int) (k0 : (Int → Int → Int → Int → Bool → Option ρ)) : Option ρ :=
 G.cap_fields ρ (G.Qe ρ a0 false false ([[.i .i64 0, .i .i64 8], [.i .i64 8, .i .i64 8], [.i .i64 16, .i .i64 16], [.i .i64 32, .i .i64 16]]) (fun w1_0 w1_1 w1_2 =>
 bs (stayR ⟨.sl 0 w1_0 1 0 w1_1, [.row 1 true false w1_2], []⟩) <|
 chk (decide ((0 : Int) < ((w1_1 : Nat) : Int))) <|
 chk (((List.length (w1_2 : Rows)) : Nat) == w1_0) <|
 rowN [.i .u64] w1_2 0 fun c2 =>
 chk (decide ((3 : Int) < ((w1_1 : Nat) : Int))) <|
 chk (((List.length (w1_2 : Rows)) : Nat) == w1_0) <|
 rowN [.i .u64] w1_2 3 fun c3 =>
 chk (decide ((1 : Int) < ((w1_1 : Nat) : Int))) <|
 chk (((List.length (w1_2 : Rows)) : Nat) == w1_0) <|
 rowN [.i .u64] w1_2 1 fun c4 =>
 chk (decide ((2 : Int) < ((w1_1 : Nat) : Int))) <|
 chk (((List.length (w1_2 : Rows)) : Nat) == w1_0) <|
 rowN [.i .u64] w1_2 2 fun c5 =>
 G.cap_fields ρ (G.Q0f ρ a0 false false ([[.i .i64 0, .i .i64 8], [.i .i64 8, .i .i64 8], [.i .i64 16, .i .i64 16], [.i .i64 32, .i .i64 16]]) (fun w7_0 =>
 bif ((w7_0 : Int) != 0) then
 k0 0 0 0 0 false
 else G.Qq ρ (IntKind.wrap .i64 (c2.1)) (IntKind.wrap .i64 (c3.1)) (IntKind.wrap .i64 (c4.1)) (IntKind.wrap .i64 (c5.1)) (fun w8_0 =>
 bif w8_0 then
 k0 (IntKind.wrap .i64 (c2.1)) (IntKind.wrap .i64 (c3.1)) (IntKind.wrap .i64 (c4.1)) (IntKind.wrap .i64 (c5.1)) true
 else k0 0 0 0 0 false)))) (none))
def Q0e_g (n : Nat) : Q0e_G := ⟨cap_fields n, Qe n, Q0f n, Qq n⟩
def Q0e (n : Nat) : Q0e_T := fun _ρ a0 k0 => Q0e_s (Q0e_g n) n a0 k0
def Q0e_e (n : Nat) : EK := Q0e_E (Q0e n)
def Q0e_S (G : Q0e_G) : CK := tabS [(38, cap_fields_E G.cap_fields), (37, Qe_E G.Qe), (39, Q0f_E G.Q0f), (40, Qq_E G.Qq)]
theorem Q0e_Sok (n : Nat) : CK.OK (Q0e_S (Q0e_g n)) (L tab) := tabS_ok _ (List.forall_mem_cons.2 ⟨(cap_fields_ok n), List.forall_mem_cons.2 ⟨(Qe_ok n), List.forall_mem_cons.2 ⟨(Q0f_ok n), List.forall_mem_cons.2 ⟨(Qq_ok n), (fun _ h => nomatch h)⟩⟩⟩⟩)
def Q0e_hs : HintC := hintL [(11, [.i .u64]), (15, [.i .u64]), (19, [.i .u64]), (23, [.i .u64])]
def Q0e_lp (_G : Q0e_G) (_n : Nat) : LK := tabL []
theorem Q0e_k (G : Q0e_G) {ρ : Type} (n : Nat) (a0 : Int) (K : Res → Option ρ) : runC (Q0e_S G) Q0e_hs (Q0e_lp G n) m17 [.i .u64 a0] K = Q0e_s G n a0 (fun w0 w1 w2 w3 w4 => K ⟨.tup [.agg [.i .i64 w0, .i .i64 w1, .i .i64 w2, .i .i64 w3], .b w4], [], []⟩) := by kernel_rfl
theorem Q0e_ok (n : Nat) : EK.OK (Q0e_e n) 17 (L tab) := EK.shp (fun _ _ _ => rfl) fun ρ K y c e => EK.run (Q0e_Sok n) (by kernel_rfl) (MF.LKOK.of (LK.of (l := []) (by kernel_rfl) ((fun _ h => nomatch h)))) (Q0e_k (Q0e_g n) n _ K) (by kernel_rfl) e
abbrev Q9_T : Type 1 := (ρ : Type) → Int → Int → Int → Bool → Bool → Rows → Bool → Bool → Rows → Int → Bool → Bool → Rows → (Bool → Option ρ) → Option ρ
def Q9_E (G : Q9_T) : EK := fun ρ args K => decL [.agg [.i .i64 none, .i .i64 none, .i .i64 none, .lst none none 5 none, .lst none none 13 none], .i .i64 none, .lst none none 1 none] args fun c => G ρ c.1.1 c.1.2.1 c.1.2.2.1 c.1.2.2.2.1.1 c.1.2.2.2.1.2.1 c.1.2.2.2.1.2.2 c.1.2.2.2.2.1.1 c.1.2.2.2.2.1.2.1 c.1.2.2.2.2.1.2.2 c.2.1 c.2.2.1.1 c.2.2.1.2.1 c.2.2.1.2.2 (fun w0 => K ⟨.b w0, [], []⟩)
structure Q9_G where
 mk ::
 Q0k : Q0k_T
 reevelaw20_way : reevelaw20_way_T
 reevelaw20_heavy : reevelaw20_heavy_T
 Qj : Qj_T
 Q06 : Q06_T
 Qt : Qt_T
 Q0b : Q0b_T
 Q0e : Q0e_T
abbrev Q9_l13_0_V : Type := Int × Int
def Q9_l13_0_s (_G : Q9_G) {ρ : Type} (_n : Nat) (_p1 _p2 _p3 : Int) (_p4 _p5 : Bool) (p6 : Rows) (_p7 _p8 : Bool) (_p9 : Rows) (_p10 _p11 : Bool) (_p12 : Rows) (_p13 _p14 _p15 : Int) (_p16 _p17 : Bool) (_p18 : Rows) (_p19 _p20 : Bool) (_p21 : Rows) (_p22 _p23 : Int) (_p24 _p25 : Int) (_p26 _p27 : Int) (_p28 _p29 : Int) (_p30 _p31 _p32 : Int) (k0 : (Int → Option ρ)) (rec' : Q9_l13_0_V → Option ρ) : Q9_l13_0_V → Option ρ
 | v =>
 bif decide ((v.2 : Int) ≥ 0) then
 bif decide ((v.1 : Int) < 100) then
 rowT [.i .i64, .i .i64, .i .i64, .i .i64, .i .i64] p6 v.2 fun c0 =>
 rec' ((IntKind.wrap .i64 (v.1 + 1)), c0.2.2.2.2.1)
 else k0 v.1
 else k0 v.1
def Q9_l13_0 (G : Q9_G) {ρ : Type} (n : Nat) (p1 p2 p3 : Int) (p4 p5 : Bool) (p6 : Rows) (p7 p8 : Bool) (p9 : Rows) (p10 p11 : Bool) (p12 : Rows) (p13 p14 p15 : Int) (p16 p17 : Bool) (p18 : Rows) (p19 p20 : Bool) (p21 : Rows) (p22 p23 : Int) (p24 p25 : Int) (p26 p27 : Int) (p28 p29 : Int) (p30 p31 p32 : Int) (k0 : (Int → Option ρ)) (v : Q9_l13_0_V) : Option ρ := fuelN (Q9_l13_0_s G n p1 p2 p3 p4 p5 p6 p7 p8 p9 p10 p11 p12 p13 p14 p15 p16 p17 p18 p19 p20 p21 p22 p23 p24 p25 p26 p27 p28 p29 p30 p31 p32 k0) n v
def Q9_l13_0_enc (p1 p2 p3 : Int) (p4 p5 : Bool) (p6 : Rows) (p7 p8 : Bool) (p9 : Rows) (p10 p11 : Bool) (p12 : Rows) (p13 p14 p15 : Int) (p16 p17 : Bool) (p18 : Rows) (p19 p20 : Bool) (p21 : Rows) (p22 p23 : Int) (p24 p25 : Int) (p26 p27 : Int) (p28 p29 : Int) (p30 p31 p32 : Int) : Q9_l13_0_V → St
 | v => ⟨[(3, .ptr 0 1 5 0 0), (8, .ptr 2 1 5 0 0), (9, .ptr 3 1 3 0 0), (11, .ptr 4 1 4 0 0), (13, .ptr 5 1 4 0 0), (14, .b true), (15, .i .i64 v.1), (16, .i .i64 v.2)], [.row 5 true false [[.i .i64 p1, .i .i64 p2, .i .i64 p3, .lst p4 p5 5 p6, .lst p7 p8 13 p9]], .row 6 true false [[.i .i64 13, .lst p10 p11 1 p12, .lst true true 0 [], .i .i64 0, .i .i64 0, .i .u64 0]], .row 5 true false [[.i .i64 p13, .i .i64 p14, .i .i64 p15, .lst p16 p17 5 p18, .lst p19 p20 13 p21]], .row 3 true false [[.i .i64 p22, .i .u64 p23, .i .i64 p24]], .row 4 true false [[.i .i64 p25, .i .i64 p26, .i .i64 p27, .i .i64 p28]], .row 4 true false [[.i .i64 p29, .i .i64 p30, .i .i64 p31, .i .i64 p32]]]⟩
abbrev Q9_l13_1_V : Type := Int × Int
def Q9_l13_1_s (_G : Q9_G) {ρ : Type} (_n : Nat) (_p1 _p2 _p3 : Int) (_p4 _p5 : Bool) (p6 : Rows) (_p7 _p8 : Bool) (_p9 : Rows) (_p10 _p11 : Bool) (_p12 : Rows) (_p13 _p14 _p15 : Int) (_p16 _p17 : Bool) (_p18 : Rows) (_p19 _p20 : Bool) (_p21 : Rows) (_p22 _p23 : Int) (_p24 _p25 : Int) (_p26 _p27 : Int) (_p28 _p29 : Int) (_p30 _p31 _p32 : Int) (k0 : (Int → Option ρ)) (rec' : Q9_l13_1_V → Option ρ) : Q9_l13_1_V → Option ρ
 | v =>
 bif decide ((v.2 : Int) ≥ 0) then
 bif decide ((v.1 : Int) < 100) then
 rowT [.i .i64, .i .i64, .i .i64, .i .i64, .i .i64] p6 v.2 fun c0 =>
 rec' ((IntKind.wrap .i64 (v.1 + 1)), c0.2.2.2.2.1)
 else k0 v.1
 else k0 v.1
def Q9_l13_1 (G : Q9_G) {ρ : Type} (n : Nat) (p1 p2 p3 : Int) (p4 p5 : Bool) (p6 : Rows) (p7 p8 : Bool) (p9 : Rows) (p10 p11 : Bool) (p12 : Rows) (p13 p14 p15 : Int) (p16 p17 : Bool) (p18 : Rows) (p19 p20 : Bool) (p21 : Rows) (p22 p23 : Int) (p24 p25 : Int) (p26 p27 : Int) (p28 p29 : Int) (p30 p31 p32 : Int) (k0 : (Int → Option ρ)) (v : Q9_l13_1_V) : Option ρ := fuelN (Q9_l13_1_s G n p1 p2 p3 p4 p5 p6 p7 p8 p9 p10 p11 p12 p13 p14 p15 p16 p17 p18 p19 p20 p21 p22 p23 p24 p25 p26 p27 p28 p29 p30 p31 p32 k0) n v
def Q9_l13_1_enc (p1 p2 p3 : Int) (p4 p5 : Bool) (p6 : Rows) (p7 p8 : Bool) (p9 : Rows) (p10 p11 : Bool) (p12 : Rows) (p13 p14 p15 : Int) (p16 p17 : Bool) (p18 : Rows) (p19 p20 : Bool) (p21 : Rows) (p22 p23 : Int) (p24 p25 : Int) (p26 p27 : Int) (p28 p29 : Int) (p30 p31 p32 : Int) : Q9_l13_1_V → St
 | v => ⟨[(3, .ptr 0 1 5 0 0), (8, .ptr 2 1 5 0 0), (9, .ptr 3 1 3 0 0), (11, .ptr 4 1 4 0 0), (13, .ptr 5 1 4 0 0), (14, .b false), (15, .i .i64 v.1), (16, .i .i64 v.2)], [.row 5 true false [[.i .i64 p1, .i .i64 p2, .i .i64 p3, .lst p4 p5 5 p6, .lst p7 p8 13 p9]], .row 6 true false [[.i .i64 13, .lst p10 p11 1 p12, .lst true true 0 [], .i .i64 0, .i .i64 0, .i .u64 0]], .row 5 true false [[.i .i64 p13, .i .i64 p14, .i .i64 p15, .lst p16 p17 5 p18, .lst p19 p20 13 p21]], .row 3 true false [[.i .i64 p22, .i .u64 p23, .i .i64 p24]], .row 4 true false [[.i .i64 p25, .i .i64 p26, .i .i64 p27, .i .i64 p28]], .row 4 true false [[.i .i64 p29, .i .i64 p30, .i .i64 p31, .i .i64 p32]]]⟩
def Q9_s (G : Q9_G) {ρ : Type} (n : Nat) (a0 a1 a2 : Int) (a3 a4 : Bool) (a5 : Rows) (a6 a7 : Bool) (a8 : Rows) (a9 : Int) (a10 a11 : Bool) (a12 : Rows) (k0 : (Bool → Option ρ)) : Option ρ :=
 G.Q0k ρ (fun w0_0 =>
 bif w0_0 then
 G.reevelaw20_way ρ a10 a11 a12 (G.reevelaw20_heavy ρ a0 a1 a2 a3 a4 a5 a6 a7 a8 13 a10 a11 a12 true true 0 0 0 (fun w2_0 =>
 bif w2_0 then
 k0 true
 else G.Qj ρ a0 a1 a2 a3 a4 a5 a6 a7 a8 (fun w3_0 =>
 bif w3_0 then
 G.Q06 ρ a0 a1 a2 a3 a4 a5 a6 a7 a8 a9 13 a10 a11 a12 true true 0 0 0 (fun w4_0 w4_1 w4_2 w4_3 w4_4 w4_5 w4_6 w4_7 w4_8 =>
 G.Qt ρ a0 a1 a2 a3 a4 a5 a6 a7 a8 a9 a10 a11 a12 (fun w5_0 w5_1 w5_2 w5_3 w5_4 w5_5 =>
 bif ((w5_5 : Int) != 0) then
 bif (((w4_6 : Int) == w5_5) && (((w4_7 : Int) == 0) && (((w4_8 : Int) == 0) && true))) then
 G.Q0b ρ a0 a1 a2 w4_0 w4_1 w4_2 w4_3 w4_4 w4_5 a0 a1 a2 a3 a4 a5 a6 a7 a8 (fun w6_0 =>
 bif w6_0 then
 k0 true
 else k0 false)
 else k0 false
 else G.Q0e ρ w4_7 (fun w7_0 w7_1 w7_2 w7_3 w7_4 =>
 bif w7_4 then
 rowT [.i .i64, .i .i64, .i .i64, .i .i64, .i .i64] a5 w5_0 fun c8 =>
 Q9_l13_0 G n a0 a1 a2 a3 a4 a5 a6 a7 a8 a10 a11 a12 a0 a1 a2 w4_0 w4_1 w4_2 w4_3 w4_4 w4_5 w4_6 w4_7 w4_8 w5_1 w5_2 w5_3 w5_4 w7_0 w7_1 w7_2 w7_3 (fun w9_0 =>
 bif ((w4_6 : Int) == 0) then
 bif (((w7_0 : Int) == w5_1) && (((w7_1 : Int) == w5_2) && (((w7_2 : Int) == w5_3) && (((w7_3 : Int) == w5_4) && true)))) then
 bif ((w4_8 : Int) == w9_0) then
 G.Q0b ρ a0 a1 a2 w4_0 w4_1 w4_2 w4_3 w4_4 w4_5 a0 a1 a2 a3 a4 a5 a6 a7 a8 (fun w10_0 =>
 bif w10_0 then
 k0 true
 else k0 false)
 else k0 false
 else k0 false
 else k0 false) (0, c8.2.2.2.2.1)
 else rowT [.i .i64, .i .i64, .i .i64, .i .i64, .i .i64] a5 w5_0 fun c11 =>
 Q9_l13_1 G n a0 a1 a2 a3 a4 a5 a6 a7 a8 a10 a11 a12 a0 a1 a2 w4_0 w4_1 w4_2 w4_3 w4_4 w4_5 w4_6 w4_7 w4_8 w5_1 w5_2 w5_3 w5_4 w7_0 w7_1 w7_2 w7_3 (fun _w12_0 =>
 bif ((w4_6 : Int) == 0) then
 k0 false
 else k0 false) (0, c11.2.2.2.2.1))))
 else k0 true)))
 else k0 false)
def Q9_g (n : Nat) : Q9_G := ⟨Q0k n, reevelaw20_way n, reevelaw20_heavy n, Qj n, Q06 n, Qt n, Q0b n, Q0e n⟩
def Q9 (n : Nat) : Q9_T := fun _ρ a0 a1 a2 a3 a4 a5 a6 a7 a8 a9 a10 a11 a12 k0 => Q9_s (Q9_g n) n a0 a1 a2 a3 a4 a5 a6 a7 a8 a9 a10 a11 a12 k0
def Q9_e (n : Nat) : EK := Q9_E (Q9 n)
def Q9_S (G : Q9_G) : CK := tabS [(12, Q0k_E G.Q0k), (13, reevelaw20_way_E G.reevelaw20_way), (14, reevelaw20_heavy_E G.reevelaw20_heavy), (9, Qj_E G.Qj), (15, Q06_E G.Q06), (16, Qt_E G.Qt), (11, Q0b_E G.Q0b), (17, Q0e_E G.Q0e)]
theorem Q9_Sok (n : Nat) : CK.OK (Q9_S (Q9_g n)) (L tab) := tabS_ok _ (List.forall_mem_cons.2 ⟨(Q0k_ok n), List.forall_mem_cons.2 ⟨(reevelaw20_way_ok n), List.forall_mem_cons.2 ⟨(reevelaw20_heavy_ok n), List.forall_mem_cons.2 ⟨(Qj_ok n), List.forall_mem_cons.2 ⟨(Q06_ok n), List.forall_mem_cons.2 ⟨(Qt_ok n), List.forall_mem_cons.2 ⟨(Q0b_ok n), List.forall_mem_cons.2 ⟨(Q0e_ok n), (fun _ h => nomatch h)⟩⟩⟩⟩⟩⟩⟩⟩)
def Q9_hs : HintC := hintL [(66, [.i .i64, .i .i64, .i .i64, .i .i64, .i .i64]), (78, [.i .i64, .i .i64, .i .i64, .i .i64, .i .i64])]
def Q9_c13 : Nat × List Nat × List Nat × MC := loopAt 13 m5
def Q9_l13_0_d (G : Q9_G) (n : Nat) : Go.Rv.LE := fun _ρ h K => decSt [(3, .ptr 0 5 0 (some 1) (some 0)), (8, .ptr 2 5 0 (some 1) (some 0)), (9, .ptr 3 3 0 (some 1) (some 0)), (11, .ptr 4 4 0 (some 1) (some 0)), (13, .ptr 5 4 0 (some 1) (some 0)), (14, .b (some true)), (15, .i .i64 none), (16, .i .i64 none)] [.row 5 true false (some [[.i .i64 none, .i .i64 none, .i .i64 none, .lst none none 5 none, .lst none none 13 none]]), .row 6 true false (some [[.i .i64 (some 13), .lst none none 1 none, .lst (some true) (some true) 0 (some []), .i .i64 (some 0), .i .i64 (some 0), .i .u64 (some 0)]]), .row 5 true false (some [[.i .i64 none, .i .i64 none, .i .i64 none, .lst none none 5 none, .lst none none 13 none]]), .row 3 true false (some [[.i .i64 none, .i .u64 none, .i .i64 none]]), .row 4 true false (some [[.i .i64 none, .i .i64 none, .i .i64 none, .i .i64 none]]), .row 4 true false (some [[.i .i64 none, .i .i64 none, .i .i64 none, .i .i64 none]])] h fun a b => Q9_l13_0 G n b.1.1.1 b.1.1.2.1 b.1.1.2.2.1 b.1.1.2.2.2.1.1 b.1.1.2.2.2.1.2.1 b.1.1.2.2.2.1.2.2 b.1.1.2.2.2.2.1.1 b.1.1.2.2.2.2.1.2.1 b.1.1.2.2.2.2.1.2.2 b.2.1.1.2.1.1 b.2.1.1.2.1.2.1 b.2.1.1.2.1.2.2 b.2.2.1.1.1 b.2.2.1.1.2.1 b.2.2.1.1.2.2.1 b.2.2.1.1.2.2.2.1.1 b.2.2.1.1.2.2.2.1.2.1 b.2.2.1.1.2.2.2.1.2.2 b.2.2.1.1.2.2.2.2.1.1 b.2.2.1.1.2.2.2.2.1.2.1 b.2.2.1.1.2.2.2.2.1.2.2 b.2.2.2.1.1.1 b.2.2.2.1.1.2.1 b.2.2.2.1.1.2.2.1 b.2.2.2.2.1.1.1 b.2.2.2.2.1.1.2.1 b.2.2.2.2.1.1.2.2.1 b.2.2.2.2.1.1.2.2.2.1 b.2.2.2.2.2.1.1.1 b.2.2.2.2.2.1.1.2.1 b.2.2.2.2.2.1.1.2.2.1 b.2.2.2.2.2.1.1.2.2.2.1 (fun w0 => K (.exit 0) ⟨[(3, .ptr 0 1 5 0 0), (8, .ptr 2 1 5 0 0), (9, .ptr 3 1 3 0 0), (11, .ptr 4 1 4 0 0), (13, .ptr 5 1 4 0 0), (14, .b true), (15, .i .i64 w0)], [.row 5 true false [[.i .i64 b.1.1.1, .i .i64 b.1.1.2.1, .i .i64 b.1.1.2.2.1, .lst b.1.1.2.2.2.1.1 b.1.1.2.2.2.1.2.1 5 b.1.1.2.2.2.1.2.2, .lst b.1.1.2.2.2.2.1.1 b.1.1.2.2.2.2.1.2.1 13 b.1.1.2.2.2.2.1.2.2]], .row 6 true false [[.i .i64 13, .lst b.2.1.1.2.1.1 b.2.1.1.2.1.2.1 1 b.2.1.1.2.1.2.2, .lst true true 0 [], .i .i64 0, .i .i64 0, .i .u64 0]], .row 5 true false [[.i .i64 b.2.2.1.1.1, .i .i64 b.2.2.1.1.2.1, .i .i64 b.2.2.1.1.2.2.1, .lst b.2.2.1.1.2.2.2.1.1 b.2.2.1.1.2.2.2.1.2.1 5 b.2.2.1.1.2.2.2.1.2.2, .lst b.2.2.1.1.2.2.2.2.1.1 b.2.2.1.1.2.2.2.2.1.2.1 13 b.2.2.1.1.2.2.2.2.1.2.2]], .row 3 true false [[.i .i64 b.2.2.2.1.1.1, .i .u64 b.2.2.2.1.1.2.1, .i .i64 b.2.2.2.1.1.2.2.1]], .row 4 true false [[.i .i64 b.2.2.2.2.1.1.1, .i .i64 b.2.2.2.2.1.1.2.1, .i .i64 b.2.2.2.2.1.1.2.2.1, .i .i64 b.2.2.2.2.1.1.2.2.2.1]], .row 4 true false [[.i .i64 b.2.2.2.2.2.1.1.1, .i .i64 b.2.2.2.2.2.1.1.2.1, .i .i64 b.2.2.2.2.2.1.1.2.2.1, .i .i64 b.2.2.2.2.2.1.1.2.2.2.1]]]⟩) (a.2.2.2.2.2.2.1, a.2.2.2.2.2.2.2.1)
def Q9_l13_1_d (G : Q9_G) (n : Nat) : Go.Rv.LE := fun _ρ h K => decSt [(3, .ptr 0 5 0 (some 1) (some 0)), (8, .ptr 2 5 0 (some 1) (some 0)), (9, .ptr 3 3 0 (some 1) (some 0)), (11, .ptr 4 4 0 (some 1) (some 0)), (13, .ptr 5 4 0 (some 1) (some 0)), (14, .b (some false)), (15, .i .i64 none), (16, .i .i64 none)] [.row 5 true false (some [[.i .i64 none, .i .i64 none, .i .i64 none, .lst none none 5 none, .lst none none 13 none]]), .row 6 true false (some [[.i .i64 (some 13), .lst none none 1 none, .lst (some true) (some true) 0 (some []), .i .i64 (some 0), .i .i64 (some 0), .i .u64 (some 0)]]), .row 5 true false (some [[.i .i64 none, .i .i64 none, .i .i64 none, .lst none none 5 none, .lst none none 13 none]]), .row 3 true false (some [[.i .i64 none, .i .u64 none, .i .i64 none]]), .row 4 true false (some [[.i .i64 none, .i .i64 none, .i .i64 none, .i .i64 none]]), .row 4 true false (some [[.i .i64 none, .i .i64 none, .i .i64 none, .i .i64 none]])] h fun a b => Q9_l13_1 G n b.1.1.1 b.1.1.2.1 b.1.1.2.2.1 b.1.1.2.2.2.1.1 b.1.1.2.2.2.1.2.1 b.1.1.2.2.2.1.2.2 b.1.1.2.2.2.2.1.1 b.1.1.2.2.2.2.1.2.1 b.1.1.2.2.2.2.1.2.2 b.2.1.1.2.1.1 b.2.1.1.2.1.2.1 b.2.1.1.2.1.2.2 b.2.2.1.1.1 b.2.2.1.1.2.1 b.2.2.1.1.2.2.1 b.2.2.1.1.2.2.2.1.1 b.2.2.1.1.2.2.2.1.2.1 b.2.2.1.1.2.2.2.1.2.2 b.2.2.1.1.2.2.2.2.1.1 b.2.2.1.1.2.2.2.2.1.2.1 b.2.2.1.1.2.2.2.2.1.2.2 b.2.2.2.1.1.1 b.2.2.2.1.1.2.1 b.2.2.2.1.1.2.2.1 b.2.2.2.2.1.1.1 b.2.2.2.2.1.1.2.1 b.2.2.2.2.1.1.2.2.1 b.2.2.2.2.1.1.2.2.2.1 b.2.2.2.2.2.1.1.1 b.2.2.2.2.2.1.1.2.1 b.2.2.2.2.2.1.1.2.2.1 b.2.2.2.2.2.1.1.2.2.2.1 (fun w0 => K (.exit 0) ⟨[(3, .ptr 0 1 5 0 0), (8, .ptr 2 1 5 0 0), (9, .ptr 3 1 3 0 0), (11, .ptr 4 1 4 0 0), (13, .ptr 5 1 4 0 0), (14, .b false), (15, .i .i64 w0)], [.row 5 true false [[.i .i64 b.1.1.1, .i .i64 b.1.1.2.1, .i .i64 b.1.1.2.2.1, .lst b.1.1.2.2.2.1.1 b.1.1.2.2.2.1.2.1 5 b.1.1.2.2.2.1.2.2, .lst b.1.1.2.2.2.2.1.1 b.1.1.2.2.2.2.1.2.1 13 b.1.1.2.2.2.2.1.2.2]], .row 6 true false [[.i .i64 13, .lst b.2.1.1.2.1.1 b.2.1.1.2.1.2.1 1 b.2.1.1.2.1.2.2, .lst true true 0 [], .i .i64 0, .i .i64 0, .i .u64 0]], .row 5 true false [[.i .i64 b.2.2.1.1.1, .i .i64 b.2.2.1.1.2.1, .i .i64 b.2.2.1.1.2.2.1, .lst b.2.2.1.1.2.2.2.1.1 b.2.2.1.1.2.2.2.1.2.1 5 b.2.2.1.1.2.2.2.1.2.2, .lst b.2.2.1.1.2.2.2.2.1.1 b.2.2.1.1.2.2.2.2.1.2.1 13 b.2.2.1.1.2.2.2.2.1.2.2]], .row 3 true false [[.i .i64 b.2.2.2.1.1.1, .i .u64 b.2.2.2.1.1.2.1, .i .i64 b.2.2.2.1.1.2.2.1]], .row 4 true false [[.i .i64 b.2.2.2.2.1.1.1, .i .i64 b.2.2.2.2.1.1.2.1, .i .i64 b.2.2.2.2.1.1.2.2.1, .i .i64 b.2.2.2.2.1.1.2.2.2.1]], .row 4 true false [[.i .i64 b.2.2.2.2.2.1.1.1, .i .i64 b.2.2.2.2.2.1.1.2.1, .i .i64 b.2.2.2.2.2.1.1.2.2.1, .i .i64 b.2.2.2.2.2.1.1.2.2.2.1]]]⟩) (a.2.2.2.2.2.2.1, a.2.2.2.2.2.2.2.1)
def Q9_d13 (G : Q9_G) (n : Nat) : Go.Rv.LE := altL [(3, .ptr 0 5 0 (some 1) (some 0)), (8, .ptr 2 5 0 (some 1) (some 0)), (9, .ptr 3 3 0 (some 1) (some 0)), (11, .ptr 4 4 0 (some 1) (some 0)), (13, .ptr 5 4 0 (some 1) (some 0)), (14, .b (some true)), (15, .i .i64 none), (16, .i .i64 none)] [.row 5 true false (some [[.i .i64 none, .i .i64 none, .i .i64 none, .lst none none 5 none, .lst none none 13 none]]), .row 6 true false (some [[.i .i64 (some 13), .lst none none 1 none, .lst (some true) (some true) 0 (some []), .i .i64 (some 0), .i .i64 (some 0), .i .u64 (some 0)]]), .row 5 true false (some [[.i .i64 none, .i .i64 none, .i .i64 none, .lst none none 5 none, .lst none none 13 none]]), .row 3 true false (some [[.i .i64 none, .i .u64 none, .i .i64 none]]), .row 4 true false (some [[.i .i64 none, .i .i64 none, .i .i64 none, .i .i64 none]]), .row 4 true false (some [[.i .i64 none, .i .i64 none, .i .i64 none, .i .i64 none]])] (Q9_l13_0_d G n) (Q9_l13_1_d G n)
def Q9_lp (G : Q9_G) (n : Nat) : LK := tabL [(13, Q9_d13 G n)]
theorem Q9_l13_0_k (G : Q9_G) {ρ : Type} (n : Nat) (p1 p2 p3 : Int) (p4 p5 : Bool) (p6 : Rows) (p7 p8 : Bool) (p9 : Rows) (p10 p11 : Bool) (p12 : Rows) (p13 p14 p15 : Int) (p16 p17 : Bool) (p18 : Rows) (p19 p20 : Bool) (p21 : Rows) (p22 p23 : Int) (p24 p25 : Int) (p26 p27 : Int) (p28 p29 : Int) (p30 p31 p32 : Int) (K : Ex → St → Option ρ) (N : St → Option ρ) : ∀ v, roundC (Q9_S G) Q9_hs (Q9_lp G n) Q9_c13 6 N K (Q9_l13_0_enc p1 p2 p3 p4 p5 p6 p7 p8 p9 p10 p11 p12 p13 p14 p15 p16 p17 p18 p19 p20 p21 p22 p23 p24 p25 p26 p27 p28 p29 p30 p31 p32 v) = Q9_l13_0_s G n p1 p2 p3 p4 p5 p6 p7 p8 p9 p10 p11 p12 p13 p14 p15 p16 p17 p18 p19 p20 p21 p22 p23 p24 p25 p26 p27 p28 p29 p30 p31 p32 (fun w0 => K (.exit 0) ⟨[(3, .ptr 0 1 5 0 0), (8, .ptr 2 1 5 0 0), (9, .ptr 3 1 3 0 0), (11, .ptr 4 1 4 0 0), (13, .ptr 5 1 4 0 0), (14, .b true), (15, .i .i64 w0)], [.row 5 true false [[.i .i64 p1, .i .i64 p2, .i .i64 p3, .lst p4 p5 5 p6, .lst p7 p8 13 p9]], .row 6 true false [[.i .i64 13, .lst p10 p11 1 p12, .lst true true 0 [], .i .i64 0, .i .i64 0, .i .u64 0]], .row 5 true false [[.i .i64 p13, .i .i64 p14, .i .i64 p15, .lst p16 p17 5 p18, .lst p19 p20 13 p21]], .row 3 true false [[.i .i64 p22, .i .u64 p23, .i .i64 p24]], .row 4 true false [[.i .i64 p25, .i .i64 p26, .i .i64 p27, .i .i64 p28]], .row 4 true false [[.i .i64 p29, .i .i64 p30, .i .i64 p31, .i .i64 p32]]]⟩) (fun v => N (Q9_l13_0_enc p1 p2 p3 p4 p5 p6 p7 p8 p9 p10 p11 p12 p13 p14 p15 p16 p17 p18 p19 p20 p21 p22 p23 p24 p25 p26 p27 p28 p29 p30 p31 p32 v)) v
 | v => by kernel_rfl
theorem Q9_l13_0_dok (n : Nat) : LE.OK (Q9_l13_0_d (Q9_g n) n) (L tab) Q9_c13 := LE.shp (fun _ _ _ => rfl) fun ρ K y a b e => LE.rounds (Q9_Sok n) (LK.of (l := []) (by kernel_rfl) ((fun _ h => nomatch h))) (Q9_l13_0_k (Q9_g n) n _ _ _ _ _ _ _ _ _ _ _ _ _ _ _ _ _ _ _ _ _ _ _ _ _ _ _ _ _ _ _ _ K) (by kernel_rfl) (by kernel_rfl) e
theorem Q9_l13_1_k (G : Q9_G) {ρ : Type} (n : Nat) (p1 p2 p3 : Int) (p4 p5 : Bool) (p6 : Rows) (p7 p8 : Bool) (p9 : Rows) (p10 p11 : Bool) (p12 : Rows) (p13 p14 p15 : Int) (p16 p17 : Bool) (p18 : Rows) (p19 p20 : Bool) (p21 : Rows) (p22 p23 : Int) (p24 p25 : Int) (p26 p27 : Int) (p28 p29 : Int) (p30 p31 p32 : Int) (K : Ex → St → Option ρ) (N : St → Option ρ) : ∀ v, roundC (Q9_S G) Q9_hs (Q9_lp G n) Q9_c13 6 N K (Q9_l13_1_enc p1 p2 p3 p4 p5 p6 p7 p8 p9 p10 p11 p12 p13 p14 p15 p16 p17 p18 p19 p20 p21 p22 p23 p24 p25 p26 p27 p28 p29 p30 p31 p32 v) = Q9_l13_1_s G n p1 p2 p3 p4 p5 p6 p7 p8 p9 p10 p11 p12 p13 p14 p15 p16 p17 p18 p19 p20 p21 p22 p23 p24 p25 p26 p27 p28 p29 p30 p31 p32 (fun w0 => K (.exit 0) ⟨[(3, .ptr 0 1 5 0 0), (8, .ptr 2 1 5 0 0), (9, .ptr 3 1 3 0 0), (11, .ptr 4 1 4 0 0), (13, .ptr 5 1 4 0 0), (14, .b false), (15, .i .i64 w0)], [.row 5 true false [[.i .i64 p1, .i .i64 p2, .i .i64 p3, .lst p4 p5 5 p6, .lst p7 p8 13 p9]], .row 6 true false [[.i .i64 13, .lst p10 p11 1 p12, .lst true true 0 [], .i .i64 0, .i .i64 0, .i .u64 0]], .row 5 true false [[.i .i64 p13, .i .i64 p14, .i .i64 p15, .lst p16 p17 5 p18, .lst p19 p20 13 p21]], .row 3 true false [[.i .i64 p22, .i .u64 p23, .i .i64 p24]], .row 4 true false [[.i .i64 p25, .i .i64 p26, .i .i64 p27, .i .i64 p28]], .row 4 true false [[.i .i64 p29, .i .i64 p30, .i .i64 p31, .i .i64 p32]]]⟩) (fun v => N (Q9_l13_1_enc p1 p2 p3 p4 p5 p6 p7 p8 p9 p10 p11 p12 p13 p14 p15 p16 p17 p18 p19 p20 p21 p22 p23 p24 p25 p26 p27 p28 p29 p30 p31 p32 v)) v
 | v => by kernel_rfl
theorem Q9_l13_1_dok (n : Nat) : LE.OK (Q9_l13_1_d (Q9_g n) n) (L tab) Q9_c13 := LE.shp (fun _ _ _ => rfl) fun ρ K y a b e => LE.rounds (Q9_Sok n) (LK.of (l := []) (by kernel_rfl) ((fun _ h => nomatch h))) (Q9_l13_1_k (Q9_g n) n _ _ _ _ _ _ _ _ _ _ _ _ _ _ _ _ _ _ _ _ _ _ _ _ _ _ _ _ _ _ _ _ K) (by kernel_rfl) (by kernel_rfl) e
theorem Q9_d13_ok (n : Nat) : LE.OK (Q9_d13 (Q9_g n) n) (L tab) Q9_c13 := altL_ok (Q9_l13_0_dok n) (Q9_l13_1_dok n)
theorem Q9_k (G : Q9_G) {ρ : Type} (n : Nat) (a0 a1 a2 : Int) (a3 a4 : Bool) (a5 : Rows) (a6 a7 : Bool) (a8 : Rows) (a9 : Int) (a10 a11 : Bool) (a12 : Rows) (K : Res → Option ρ) : runC (Q9_S G) Q9_hs (Q9_lp G n) m5 [.agg [.i .i64 a0, .i .i64 a1, .i .i64 a2, .lst a3 a4 5 a5, .lst a6 a7 13 a8], .i .i64 a9, .lst a10 a11 1 a12] K = Q9_s G n a0 a1 a2 a3 a4 a5 a6 a7 a8 a9 a10 a11 a12 (fun w0 => K ⟨.b w0, [], []⟩) := by kernel_rfl
theorem Q9_ok (n : Nat) : EK.OK (Q9_e n) 5 (L tab) := EK.shp (fun _ _ _ => rfl) fun ρ K y c e => EK.run (Q9_Sok n) (by kernel_rfl) (MF.LKOK.of (LK.of (l := [Q9_c13]) (by kernel_rfl) (List.forall_mem_cons.2 ⟨LE.at (e := Q9_d13 (Q9_g n) n) (by kernel_rfl) (Q9_d13_ok n), (fun _ h => nomatch h)⟩))) (Q9_k (Q9_g n) n _ _ _ _ _ _ _ _ _ _ _ _ _ K) (by kernel_rfl) e
end Go.Rv
