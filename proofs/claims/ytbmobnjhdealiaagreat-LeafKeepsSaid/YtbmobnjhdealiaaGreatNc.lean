/- functions as programs of ours, and their ties, part 4 -/
import Derived.Test.YtbmobnjhdealiaaGreatNb
import Derived.KernelRfl
namespace Go.Rv
abbrev Q0_T : Type 1 := (ρ : Type) → Int → Int → Int → Bool → Bool → Rows → Bool → Bool → Rows → Int → Int → (Nat → Nat → Rows → Option ρ) → (Nat → Nat → Nat → Nat → Rows → Rows → Option ρ) → Option ρ
def Q0_E (G : Q0_T) : EK := fun ρ args K => decL [.agg [.i .i64 none, .i .i64 none, .i .i64 none, .lst none none 5 none, .lst none none 13 none], .i .i64 none, .i .i64 none] args fun c => G ρ c.1.1 c.1.2.1 c.1.2.2.1 c.1.2.2.2.1.1 c.1.2.2.2.1.2.1 c.1.2.2.2.1.2.2 c.1.2.2.2.2.1.1 c.1.2.2.2.2.1.2.1 c.1.2.2.2.2.1.2.2 c.2.1 c.2.2.1 (fun w0 w1 w2 => K ⟨.agg [.i .i64 c.1.1, .i .i64 c.1.2.1, .i .i64 c.1.2.2.1, .sl 0 w0 5 0 w1, .lst true true 0 []], [.row 5 true false w2], []⟩) (fun w0 w1 w2 w3 w4 w5 => K ⟨.agg [.i .i64 c.1.1, .i .i64 c.1.2.1, .i .i64 c.1.2.2.1, .sl 0 w0 5 0 w1, .sl 1 w2 13 0 w3], [.row 5 true false w4, .row 13 true false w5], []⟩)
structure Q0_G where
 mk ::
 Q8 : Q8_T
 Q3 : Q3_T
 Qu : Qu_T
abbrev Q0_l5_0_V : Type := Unit
noncomputable def Q0_l5_0_s (_G : Q0_G) {ρ : Type} (_n : Nat) (_p0 _p1 : Int) (_p2 _p3 _p4 : Int) (_p5 _p6 : Nat) (_p7 : Rows) (k0 : (Option ρ)) (_rec' : Q0_l5_0_V → Option ρ) : Q0_l5_0_V → Option ρ
 | _v =>
 k0
noncomputable def Q0_l5_0 (G : Q0_G) {ρ : Type} (n : Nat) (p0 p1 : Int) (p2 p3 p4 : Int) (p5 p6 : Nat) (p7 : Rows) (k0 : (Option ρ)) (v : Q0_l5_0_V) : Option ρ := fuelN (Q0_l5_0_s G n p0 p1 p2 p3 p4 p5 p6 p7 k0) n v
def Q0_l5_0_enc (p0 p1 : Int) (p2 p3 p4 : Int) (p5 p6 : Nat) (p7 : Rows) : Q0_l5_0_V → St
 | _v => ⟨[(1, .i .i64 p0), (2, .i .i64 p1), (3, .ptr 0 1 5 0 0), (6, .ptr 1 1 5 0 0), (40, .lst true true 0 []), (41, .i .i64 0), (42, .i .i64 0)], [.row 5 false false [[.i .i64 p2, .i .i64 p3, .i .i64 p4, .sl 3 p5 5 0 p6, .lst true true 0 []]], .row 5 true false [[.i .i64 0, .i .i64 0, .i .i64 0, .lst true true 0 [], .lst true true 0 []]], .row 1 true false [[.lst true true 0 []]], .row 5 true false p7]⟩
abbrev Q0_l10_0_V : Type := Unit
noncomputable def Q0_l10_0_s (_G : Q0_G) {ρ : Type} (_n : Nat) (_p0 _p1 : Int) (_p2 _p3 _p4 : Int) (_p5 _p6 : Nat) (_p7 : Rows) (k0 : (Option ρ)) (_rec' : Q0_l10_0_V → Option ρ) : Q0_l10_0_V → Option ρ
 | _v =>
 k0
noncomputable def Q0_l10_0 (G : Q0_G) {ρ : Type} (n : Nat) (p0 p1 : Int) (p2 p3 p4 : Int) (p5 p6 : Nat) (p7 : Rows) (k0 : (Option ρ)) (v : Q0_l10_0_V) : Option ρ := fuelN (Q0_l10_0_s G n p0 p1 p2 p3 p4 p5 p6 p7 k0) n v
def Q0_l10_0_enc (p0 p1 : Int) (p2 p3 p4 : Int) (p5 p6 : Nat) (p7 : Rows) : Q0_l10_0_V → St
 | _v => ⟨[(1, .i .i64 p0), (2, .i .i64 p1), (3, .ptr 0 1 5 0 0), (6, .ptr 1 1 5 0 0), (57, .i .i64 0), (58, .i .i64 0)], [.row 5 false false [[.i .i64 p2, .i .i64 p3, .i .i64 p4, .sl 3 p5 5 0 p6, .lst true true 0 []]], .row 5 true false [[.i .i64 0, .i .i64 0, .i .i64 0, .lst true true 0 [], .lst true true 0 []]], .row 1 true false [[.lst true true 0 []]], .row 5 true false p7]⟩
abbrev Q0_l5_1_V : Type := Unit
noncomputable def Q0_l5_1_s (_G : Q0_G) {ρ : Type} (_n : Nat) (_p0 _p1 : Int) (_p2 _p3 _p4 : Int) (_p5 _p6 : Nat) (_p7 _p8 : Nat) (_p9 _p10 : Rows) (k0 : (Option ρ)) (_rec' : Q0_l5_1_V → Option ρ) : Q0_l5_1_V → Option ρ
 | _v =>
 k0
noncomputable def Q0_l5_1 (G : Q0_G) {ρ : Type} (n : Nat) (p0 p1 : Int) (p2 p3 p4 : Int) (p5 p6 : Nat) (p7 p8 : Nat) (p9 p10 : Rows) (k0 : (Option ρ)) (v : Q0_l5_1_V) : Option ρ := fuelN (Q0_l5_1_s G n p0 p1 p2 p3 p4 p5 p6 p7 p8 p9 p10 k0) n v
def Q0_l5_1_enc (p0 p1 : Int) (p2 p3 p4 : Int) (p5 p6 : Nat) (p7 p8 : Nat) (p9 p10 : Rows) : Q0_l5_1_V → St
 | _v => ⟨[(1, .i .i64 p0), (2, .i .i64 p1), (3, .ptr 0 1 5 0 0), (6, .ptr 1 1 5 0 0), (40, .lst true true 0 []), (41, .i .i64 0), (42, .i .i64 0)], [.row 5 false false [[.i .i64 p2, .i .i64 p3, .i .i64 p4, .sl 3 p5 5 0 p6, .sl 4 p7 13 0 p8]], .row 5 true false [[.i .i64 0, .i .i64 0, .i .i64 0, .lst true true 0 [], .lst true true 0 []]], .row 1 true false [[.lst true true 0 []]], .row 5 true false p9, .row 13 true false p10]⟩
abbrev Q0_l10_1_V : Type := Int × Rows
noncomputable def Q0_l10_1_s (_G : Q0_G) {ρ : Type} (_n : Nat) (p0 p1 : Int) (p2 _p3 : Int) (_p4 _p5 : Int) (_p6 _p7 : Nat) (p8 p9 : Nat) (_p10 : Rows) (k0 : (Rows → Option ρ)) (rec' : Q0_l10_1_V → Option ρ) : Q0_l10_1_V → Option ρ
 | v =>
 bif decide ((v.1 : Int) < p2) then
 chk (decide ((0 : Int) ≤ v.1)) <|
 chk (decide ((v.1 : Int) < ((p9 : Nat) : Int))) <|
 chk (((List.length (v.2 : Rows)) : Nat) == p8) <|
 rowN [.i .i64, .i .i64, .i .i64, .i .i64, .i .i64, .i .i64, .i .i64, .b, .i .u64, .i .u64, .i .u64, .i .u64, .i .u64] v.2 (0 + v.1.toNat) fun c0 =>
 bif ((c0.2.2.2.2.2.1 : Int) == (IntKind.wrap .i64 (p0 + 1))) then
 chk (decide ((0 : Int) ≤ v.1)) <|
 chk (decide ((v.1 : Int) < ((p9 : Nat) : Int))) <|
 chk (((List.length (v.2 : Rows)) : Nat) == p8) <|
 rowN [.a, .a, .a, .a, .a, .a, .a, .a, .a, .a, .a, .a, .a] v.2 (0 + v.1.toNat) fun c1 =>
 rec' ((IntKind.wrap .i64 (v.1 + 1)), (List.set (v.2 : Rows) (0 + v.1.toNat) [c1.1, c1.2.1, c1.2.2.1, c1.2.2.2.1, c1.2.2.2.2.1, .i .i64 (IntKind.wrap .i64 (p1 + 1)), c1.2.2.2.2.2.2.1, c1.2.2.2.2.2.2.2.1, c1.2.2.2.2.2.2.2.2.1, c1.2.2.2.2.2.2.2.2.2.1, c1.2.2.2.2.2.2.2.2.2.2.1, c1.2.2.2.2.2.2.2.2.2.2.2.1, c1.2.2.2.2.2.2.2.2.2.2.2.2.1]))
 else rec' ((IntKind.wrap .i64 (v.1 + 1)), v.2)
 else k0 v.2
noncomputable def Q0_l10_1 (G : Q0_G) {ρ : Type} (n : Nat) (p0 p1 : Int) (p2 p3 : Int) (p4 p5 : Int) (p6 p7 : Nat) (p8 p9 : Nat) (p10 : Rows) (k0 : (Rows → Option ρ)) (v : Q0_l10_1_V) : Option ρ := fuelN (Q0_l10_1_s G n p0 p1 p2 p3 p4 p5 p6 p7 p8 p9 p10 k0) n v
def Q0_l10_1_enc (p0 p1 : Int) (p2 p3 : Int) (p4 p5 : Int) (p6 p7 : Nat) (p8 p9 : Nat) (p10 : Rows) : Q0_l10_1_V → St
 | v => ⟨[(1, .i .i64 p0), (2, .i .i64 p1), (3, .ptr 0 1 5 0 0), (6, .ptr 1 1 5 0 0), (57, .i .i64 p2), (58, .i .i64 v.1)], [.row 5 false false [[.i .i64 p3, .i .i64 p4, .i .i64 p5, .sl 3 p6 5 0 p7, .sl 4 p8 13 0 p9]], .row 5 true false [[.i .i64 0, .i .i64 0, .i .i64 0, .lst true true 0 [], .lst true true 0 []]], .row 1 true false [[.lst true true 0 []]], .row 5 true false p10, .row 13 true false v.2]⟩
abbrev Q0_l5_2_V : Type := Int × Rows
noncomputable def Q0_l5_2_s (_G : Q0_G) {ρ : Type} (_n : Nat) (_p0 _p1 : Int) (p2 p3 : Nat) (p4 _p5 : Int) (_p6 _p7 : Int) (p8 p9 : Nat) (p10 : Rows) (_p11 _p12 : Nat) (k0 : (Rows → Option ρ)) (rec' : Q0_l5_2_V → Option ρ) : Q0_l5_2_V → Option ρ
 | v =>
 bif decide ((v.1 : Int) < p4) then
 chk (decide ((0 : Int) ≤ v.1)) <|
 chk (decide ((v.1 : Int) < ((p3 : Nat) : Int))) <|
 chk (((List.length (p10 : Rows)) : Nat) == p2) <|
 rowN [.i .i64] p10 (0 + v.1.toNat) fun c0 =>
 chk (decide ((0 : Int) ≤ v.1)) <|
 chk (decide ((v.1 : Int) < ((p9 : Nat) : Int))) <|
 chk (((List.length (v.2 : Rows)) : Nat) == p8) <|
 rowN [.a, .a, .a, .a, .a] v.2 (0 + v.1.toNat) fun c1 =>
 rec' ((IntKind.wrap .i64 (v.1 + 1)), (List.set (v.2 : Rows) (0 + v.1.toNat) [c1.1, c1.2.1, c1.2.2.1, c1.2.2.2.1, .i .i64 (if (-1) > c0.1 then (-1) else c0.1)]))
 else k0 v.2
noncomputable def Q0_l5_2 (G : Q0_G) {ρ : Type} (n : Nat) (p0 p1 : Int) (p2 p3 : Nat) (p4 p5 : Int) (p6 p7 : Int) (p8 p9 : Nat) (p10 : Rows) (p11 p12 : Nat) (k0 : (Rows → Option ρ)) (v : Q0_l5_2_V) : Option ρ := fuelN (Q0_l5_2_s G n p0 p1 p2 p3 p4 p5 p6 p7 p8 p9 p10 p11 p12 k0) n v
def Q0_l5_2_enc (p0 p1 : Int) (p2 p3 : Nat) (p4 p5 : Int) (p6 p7 : Int) (p8 p9 : Nat) (p10 : Rows) (p11 p12 : Nat) : Q0_l5_2_V → St
 | v => ⟨[(1, .i .i64 p0), (2, .i .i64 p1), (3, .ptr 0 1 5 0 0), (6, .ptr 1 1 5 0 0), (40, .sl 2 p2 1 0 p3), (41, .i .i64 p4), (42, .i .i64 v.1)], [.row 5 false false [[.i .i64 p5, .i .i64 p6, .i .i64 p7, .sl 4 p8 5 0 p9, .lst true true 0 []]], .row 5 true false [[.i .i64 0, .i .i64 0, .i .i64 0, .lst true true 0 [], .lst true true 0 []]], .row 1 true false p10, .row 1 false false [[.sl 2 p11 1 0 p12]], .row 5 true false v.2]⟩
abbrev Q0_l10_2_V : Type := Unit
noncomputable def Q0_l10_2_s (_G : Q0_G) {ρ : Type} (_n : Nat) (_p0 _p1 : Int) (_p2 _p3 _p4 : Int) (_p5 _p6 : Nat) (_p7 : Rows) (_p8 _p9 : Nat) (_p10 : Rows) (k0 : (Option ρ)) (_rec' : Q0_l10_2_V → Option ρ) : Q0_l10_2_V → Option ρ
 | _v =>
 k0
noncomputable def Q0_l10_2 (G : Q0_G) {ρ : Type} (n : Nat) (p0 p1 : Int) (p2 p3 p4 : Int) (p5 p6 : Nat) (p7 : Rows) (p8 p9 : Nat) (p10 : Rows) (k0 : (Option ρ)) (v : Q0_l10_2_V) : Option ρ := fuelN (Q0_l10_2_s G n p0 p1 p2 p3 p4 p5 p6 p7 p8 p9 p10 k0) n v
def Q0_l10_2_enc (p0 p1 : Int) (p2 p3 p4 : Int) (p5 p6 : Nat) (p7 : Rows) (p8 p9 : Nat) (p10 : Rows) : Q0_l10_2_V → St
 | _v => ⟨[(1, .i .i64 p0), (2, .i .i64 p1), (3, .ptr 0 1 5 0 0), (6, .ptr 1 1 5 0 0), (57, .i .i64 0), (58, .i .i64 0)], [.row 5 false false [[.i .i64 p2, .i .i64 p3, .i .i64 p4, .sl 4 p5 5 0 p6, .lst true true 0 []]], .row 5 true false [[.i .i64 0, .i .i64 0, .i .i64 0, .lst true true 0 [], .lst true true 0 []]], .row 1 true false p7, .row 1 false false [[.sl 2 p8 1 0 p9]], .row 5 true false p10]⟩
abbrev Q0_l5_3_V : Type := Int × Rows
noncomputable def Q0_l5_3_s (_G : Q0_G) {ρ : Type} (_n : Nat) (_p0 _p1 : Int) (p2 p3 : Nat) (p4 _p5 : Int) (_p6 _p7 : Int) (p8 p9 : Nat) (_p10 _p11 : Nat) (p12 : Rows) (_p13 _p14 : Nat) (_p16 : Rows) (k0 : (Rows → Option ρ)) (rec' : Q0_l5_3_V → Option ρ) : Q0_l5_3_V → Option ρ
 | v =>
 bif decide ((v.1 : Int) < p4) then
 chk (decide ((0 : Int) ≤ v.1)) <|
 chk (decide ((v.1 : Int) < ((p3 : Nat) : Int))) <|
 chk (((List.length (p12 : Rows)) : Nat) == p2) <|
 rowN [.i .i64] p12 (0 + v.1.toNat) fun c0 =>
 chk (decide ((0 : Int) ≤ v.1)) <|
 chk (decide ((v.1 : Int) < ((p9 : Nat) : Int))) <|
 chk (((List.length (v.2 : Rows)) : Nat) == p8) <|
 rowN [.a, .a, .a, .a, .a] v.2 (0 + v.1.toNat) fun c1 =>
 rec' ((IntKind.wrap .i64 (v.1 + 1)), (List.set (v.2 : Rows) (0 + v.1.toNat) [c1.1, c1.2.1, c1.2.2.1, c1.2.2.2.1, .i .i64 (if (-1) > c0.1 then (-1) else c0.1)]))
 else k0 v.2
noncomputable def Q0_l5_3 (G : Q0_G) {ρ : Type} (n : Nat) (p0 p1 : Int) (p2 p3 : Nat) (p4 p5 : Int) (p6 p7 : Int) (p8 p9 : Nat) (p10 p11 : Nat) (p12 : Rows) (p13 p14 : Nat) (p16 : Rows) (k0 : (Rows → Option ρ)) (v : Q0_l5_3_V) : Option ρ := fuelN (Q0_l5_3_s G n p0 p1 p2 p3 p4 p5 p6 p7 p8 p9 p10 p11 p12 p13 p14 p16 k0) n v
def Q0_l5_3_enc (p0 p1 : Int) (p2 p3 : Nat) (p4 p5 : Int) (p6 p7 : Int) (p8 p9 : Nat) (p10 p11 : Nat) (p12 : Rows) (p13 p14 : Nat) (p16 : Rows) : Q0_l5_3_V → St
 | v => ⟨[(1, .i .i64 p0), (2, .i .i64 p1), (3, .ptr 0 1 5 0 0), (6, .ptr 1 1 5 0 0), (40, .sl 2 p2 1 0 p3), (41, .i .i64 p4), (42, .i .i64 v.1)], [.row 5 false false [[.i .i64 p5, .i .i64 p6, .i .i64 p7, .sl 4 p8 5 0 p9, .sl 5 p10 13 0 p11]], .row 5 true false [[.i .i64 0, .i .i64 0, .i .i64 0, .lst true true 0 [], .lst true true 0 []]], .row 1 true false p12, .row 1 false false [[.sl 2 p13 1 0 p14]], .row 5 true false v.2, .row 13 true false p16]⟩
abbrev Q0_l10_3_V : Type := Int × Rows
noncomputable def Q0_l10_3_s (_G : Q0_G) {ρ : Type} (_n : Nat) (p0 p1 : Int) (p2 _p3 : Int) (_p4 _p5 : Int) (_p6 _p7 : Nat) (p8 p9 : Nat) (_p10 : Rows) (_p11 _p12 : Nat) (_p13 : Rows) (k0 : (Rows → Option ρ)) (rec' : Q0_l10_3_V → Option ρ) : Q0_l10_3_V → Option ρ
 | v =>
 bif decide ((v.1 : Int) < p2) then
 chk (decide ((0 : Int) ≤ v.1)) <|
 chk (decide ((v.1 : Int) < ((p9 : Nat) : Int))) <|
 chk (((List.length (v.2 : Rows)) : Nat) == p8) <|
 rowN [.i .i64, .i .i64, .i .i64, .i .i64, .i .i64, .i .i64, .i .i64, .b, .i .u64, .i .u64, .i .u64, .i .u64, .i .u64] v.2 (0 + v.1.toNat) fun c0 =>
 bif ((c0.2.2.2.2.2.1 : Int) == (IntKind.wrap .i64 (p0 + 1))) then
 chk (decide ((0 : Int) ≤ v.1)) <|
 chk (decide ((v.1 : Int) < ((p9 : Nat) : Int))) <|
 chk (((List.length (v.2 : Rows)) : Nat) == p8) <|
 rowN [.a, .a, .a, .a, .a, .a, .a, .a, .a, .a, .a, .a, .a] v.2 (0 + v.1.toNat) fun c1 =>
 rec' ((IntKind.wrap .i64 (v.1 + 1)), (List.set (v.2 : Rows) (0 + v.1.toNat) [c1.1, c1.2.1, c1.2.2.1, c1.2.2.2.1, c1.2.2.2.2.1, .i .i64 (IntKind.wrap .i64 (p1 + 1)), c1.2.2.2.2.2.2.1, c1.2.2.2.2.2.2.2.1, c1.2.2.2.2.2.2.2.2.1, c1.2.2.2.2.2.2.2.2.2.1, c1.2.2.2.2.2.2.2.2.2.2.1, c1.2.2.2.2.2.2.2.2.2.2.2.1, c1.2.2.2.2.2.2.2.2.2.2.2.2.1]))
 else rec' ((IntKind.wrap .i64 (v.1 + 1)), v.2)
 else k0 v.2
noncomputable def Q0_l10_3 (G : Q0_G) {ρ : Type} (n : Nat) (p0 p1 : Int) (p2 p3 : Int) (p4 p5 : Int) (p6 p7 : Nat) (p8 p9 : Nat) (p10 : Rows) (p11 p12 : Nat) (p13 : Rows) (k0 : (Rows → Option ρ)) (v : Q0_l10_3_V) : Option ρ := fuelN (Q0_l10_3_s G n p0 p1 p2 p3 p4 p5 p6 p7 p8 p9 p10 p11 p12 p13 k0) n v
def Q0_l10_3_enc (p0 p1 : Int) (p2 p3 : Int) (p4 p5 : Int) (p6 p7 : Nat) (p8 p9 : Nat) (p10 : Rows) (p11 p12 : Nat) (p13 : Rows) : Q0_l10_3_V → St
 | v => ⟨[(1, .i .i64 p0), (2, .i .i64 p1), (3, .ptr 0 1 5 0 0), (6, .ptr 1 1 5 0 0), (57, .i .i64 p2), (58, .i .i64 v.1)], [.row 5 false false [[.i .i64 p3, .i .i64 p4, .i .i64 p5, .sl 4 p6 5 0 p7, .sl 5 p8 13 0 p9]], .row 5 true false [[.i .i64 0, .i .i64 0, .i .i64 0, .lst true true 0 [], .lst true true 0 []]], .row 1 true false p10, .row 1 false false [[.sl 2 p11 1 0 p12]], .row 5 true false p13, .row 13 true false v.2]⟩
noncomputable def Q0_s (G : Q0_G) {ρ : Type} (n : Nat) (a0 a1 a2 : Int) (a3 a4 : Bool) (a5 : Rows) (a6 a7 : Bool) (a8 : Rows) (a9 a10 : Int) (k0 : (Nat → Nat → Rows → Option ρ)) (k1 : (Nat → Nat → Nat → Nat → Rows → Rows → Option ρ)) : Option ρ :=
 G.Q8 ρ a0 a1 a2 a3 a4 a5 a6 a7 a8 (fun w0_0 w0_1 w0_2 =>
 G.Q3 ρ w0_0 w0_1 w0_2 a9 a10 (G.Qu ρ a0 a1 a2 a3 a4 a5 a6 a7 a8 (none) (fun _w3_0 _w3_1 _w3_2 =>
 none) (fun w4_0 w4_1 w4_2 =>
 chk (decide ((0 : Int) ≤ a9)) <|
 chk (decide ((a9 : Int) < ((w4_1 : Nat) : Int))) <|
 chk (((List.length (w4_2 : Rows)) : Nat) == w4_0) <|
 rowN [.i .i64, .i .i64, .i .i64, .i .i64, .i .i64] w4_2 (0 + a9.toNat) fun c5 =>
 chk (decide ((0 : Int) ≤ a10)) <|
 chk (decide ((a10 : Int) < ((w4_1 : Nat) : Int))) <|
 chk (((List.length (w4_2 : Rows)) : Nat) == w4_0) <|
 rowN [.a, .a, .a, .a, .a] w4_2 (0 + a10.toNat) fun c6 =>
 chk (decide ((0 : Int) ≤ a9)) <|
 chk (decide ((a9 : Int) < ((w4_1 : Nat) : Int))) <|
 chk (((List.length ((List.set (w4_2 : Rows) (0 + a10.toNat) [.i .i64 c5.1, .i .i64 c5.2.1, .i .i64 c5.2.2.1, .i .i64 c5.2.2.2.1, c6.2.2.2.2.1]) : Rows)) : Nat) == w4_0) <|
 rowN [.a, .a, .a, .a, .a] (List.set (w4_2 : Rows) (0 + a10.toNat) [.i .i64 c5.1, .i .i64 c5.2.1, .i .i64 c5.2.2.1, .i .i64 c5.2.2.2.1, c6.2.2.2.2.1]) (0 + a9.toNat) fun c7 =>
 Q0_l5_0 G n a9 a10 a0 a1 a2 w4_0 w4_1 (List.set ((List.set (w4_2 : Rows) (0 + a10.toNat) [.i .i64 c5.1, .i .i64 c5.2.1, .i .i64 c5.2.2.1, .i .i64 c5.2.2.2.1, c6.2.2.2.2.1]) : Rows) (0 + a9.toNat) [.i .i64 0, .i .i64 0, .i .i64 0, .i .i64 0, c7.2.2.2.2.1]) (Q0_l10_0 G n a9 a10 a0 a1 a2 w4_0 w4_1 (List.set ((List.set (w4_2 : Rows) (0 + a10.toNat) [.i .i64 c5.1, .i .i64 c5.2.1, .i .i64 c5.2.2.1, .i .i64 c5.2.2.2.1, c6.2.2.2.2.1]) : Rows) (0 + a9.toNat) [.i .i64 0, .i .i64 0, .i .i64 0, .i .i64 0, c7.2.2.2.2.1]) (k0 w4_0 w4_1 (List.set ((List.set (w4_2 : Rows) (0 + a10.toNat) [.i .i64 c5.1, .i .i64 c5.2.1, .i .i64 c5.2.2.1, .i .i64 c5.2.2.2.1, c6.2.2.2.2.1]) : Rows) (0 + a9.toNat) [.i .i64 0, .i .i64 0, .i .i64 0, .i .i64 0, c7.2.2.2.2.1])) ()) ()) (fun w10_0 w10_1 w10_2 w10_3 w10_4 w10_5 =>
 chk (decide ((0 : Int) ≤ a9)) <|
 chk (decide ((a9 : Int) < ((w10_1 : Nat) : Int))) <|
 chk (((List.length (w10_4 : Rows)) : Nat) == w10_0) <|
 rowN [.i .i64, .i .i64, .i .i64, .i .i64, .i .i64] w10_4 (0 + a9.toNat) fun c11 =>
 chk (decide ((0 : Int) ≤ a10)) <|
 chk (decide ((a10 : Int) < ((w10_1 : Nat) : Int))) <|
 chk (((List.length (w10_4 : Rows)) : Nat) == w10_0) <|
 rowN [.a, .a, .a, .a, .a] w10_4 (0 + a10.toNat) fun c12 =>
 chk (decide ((0 : Int) ≤ a9)) <|
 chk (decide ((a9 : Int) < ((w10_1 : Nat) : Int))) <|
 chk (((List.length ((List.set (w10_4 : Rows) (0 + a10.toNat) [.i .i64 c11.1, .i .i64 c11.2.1, .i .i64 c11.2.2.1, .i .i64 c11.2.2.2.1, c12.2.2.2.2.1]) : Rows)) : Nat) == w10_0) <|
 rowN [.a, .a, .a, .a, .a] (List.set (w10_4 : Rows) (0 + a10.toNat) [.i .i64 c11.1, .i .i64 c11.2.1, .i .i64 c11.2.2.1, .i .i64 c11.2.2.2.1, c12.2.2.2.2.1]) (0 + a9.toNat) fun c13 =>
 Q0_l5_1 G n a9 a10 a0 a1 a2 w10_0 w10_1 w10_2 w10_3 (List.set ((List.set (w10_4 : Rows) (0 + a10.toNat) [.i .i64 c11.1, .i .i64 c11.2.1, .i .i64 c11.2.2.1, .i .i64 c11.2.2.2.1, c12.2.2.2.2.1]) : Rows) (0 + a9.toNat) [.i .i64 0, .i .i64 0, .i .i64 0, .i .i64 0, c13.2.2.2.2.1]) w10_5 (Q0_l10_1 G n a9 a10 ((w10_3 : Nat) : Int) a0 a1 a2 w10_0 w10_1 w10_2 w10_3 (List.set ((List.set (w10_4 : Rows) (0 + a10.toNat) [.i .i64 c11.1, .i .i64 c11.2.1, .i .i64 c11.2.2.1, .i .i64 c11.2.2.2.1, c12.2.2.2.2.1]) : Rows) (0 + a9.toNat) [.i .i64 0, .i .i64 0, .i .i64 0, .i .i64 0, c13.2.2.2.2.1]) (fun w15_0 =>
 k1 w10_0 w10_1 w10_2 w10_3 (List.set ((List.set (w10_4 : Rows) (0 + a10.toNat) [.i .i64 c11.1, .i .i64 c11.2.1, .i .i64 c11.2.2.1, .i .i64 c11.2.2.2.1, c12.2.2.2.2.1]) : Rows) (0 + a9.toNat) [.i .i64 0, .i .i64 0, .i .i64 0, .i .i64 0, c13.2.2.2.2.1]) w15_0) (0, w10_5)) ())) (fun w16_0 w16_1 w16_2 =>
 G.Qu ρ a0 a1 a2 a3 a4 a5 a6 a7 a8 (none) (fun _w18_0 _w18_1 _w18_2 =>
 none) (fun w19_0 w19_1 w19_2 =>
 chk (decide ((0 : Int) ≤ a9)) <|
 chk (decide ((a9 : Int) < ((w19_1 : Nat) : Int))) <|
 chk (((List.length (w19_2 : Rows)) : Nat) == w19_0) <|
 rowN [.i .i64, .i .i64, .i .i64, .i .i64, .i .i64] w19_2 (0 + a9.toNat) fun c20 =>
 chk (decide ((0 : Int) ≤ a10)) <|
 chk (decide ((a10 : Int) < ((w19_1 : Nat) : Int))) <|
 chk (((List.length (w19_2 : Rows)) : Nat) == w19_0) <|
 rowN [.a, .a, .a, .a, .a] w19_2 (0 + a10.toNat) fun c21 =>
 chk (decide ((0 : Int) ≤ a9)) <|
 chk (decide ((a9 : Int) < ((w19_1 : Nat) : Int))) <|
 chk (((List.length ((List.set (w19_2 : Rows) (0 + a10.toNat) [.i .i64 c20.1, .i .i64 c20.2.1, .i .i64 c20.2.2.1, .i .i64 c20.2.2.2.1, c21.2.2.2.2.1]) : Rows)) : Nat) == w19_0) <|
 rowN [.a, .a, .a, .a, .a] (List.set (w19_2 : Rows) (0 + a10.toNat) [.i .i64 c20.1, .i .i64 c20.2.1, .i .i64 c20.2.2.1, .i .i64 c20.2.2.2.1, c21.2.2.2.2.1]) (0 + a9.toNat) fun c22 =>
 Q0_l5_2 G n a9 a10 w16_0 w16_1 ((w16_1 : Nat) : Int) a0 a1 a2 w19_0 w19_1 w16_2 w16_0 w16_1 (fun w23_0 =>
 Q0_l10_2 G n a9 a10 a0 a1 a2 w19_0 w19_1 w16_2 w16_0 w16_1 w23_0 (k0 w19_0 w19_1 w23_0) ()) (0, (List.set ((List.set (w19_2 : Rows) (0 + a10.toNat) [.i .i64 c20.1, .i .i64 c20.2.1, .i .i64 c20.2.2.1, .i .i64 c20.2.2.2.1, c21.2.2.2.2.1]) : Rows) (0 + a9.toNat) [.i .i64 0, .i .i64 0, .i .i64 0, .i .i64 0, c22.2.2.2.2.1]))) (fun w25_0 w25_1 w25_2 w25_3 w25_4 w25_5 =>
 chk (decide ((0 : Int) ≤ a9)) <|
 chk (decide ((a9 : Int) < ((w25_1 : Nat) : Int))) <|
 chk (((List.length (w25_4 : Rows)) : Nat) == w25_0) <|
 rowN [.i .i64, .i .i64, .i .i64, .i .i64, .i .i64] w25_4 (0 + a9.toNat) fun c26 =>
 chk (decide ((0 : Int) ≤ a10)) <|
 chk (decide ((a10 : Int) < ((w25_1 : Nat) : Int))) <|
 chk (((List.length (w25_4 : Rows)) : Nat) == w25_0) <|
 rowN [.a, .a, .a, .a, .a] w25_4 (0 + a10.toNat) fun c27 =>
 chk (decide ((0 : Int) ≤ a9)) <|
 chk (decide ((a9 : Int) < ((w25_1 : Nat) : Int))) <|
 chk (((List.length ((List.set (w25_4 : Rows) (0 + a10.toNat) [.i .i64 c26.1, .i .i64 c26.2.1, .i .i64 c26.2.2.1, .i .i64 c26.2.2.2.1, c27.2.2.2.2.1]) : Rows)) : Nat) == w25_0) <|
 rowN [.a, .a, .a, .a, .a] (List.set (w25_4 : Rows) (0 + a10.toNat) [.i .i64 c26.1, .i .i64 c26.2.1, .i .i64 c26.2.2.1, .i .i64 c26.2.2.2.1, c27.2.2.2.2.1]) (0 + a9.toNat) fun c28 =>
 Q0_l5_3 G n a9 a10 w16_0 w16_1 ((w16_1 : Nat) : Int) a0 a1 a2 w25_0 w25_1 w25_2 w25_3 w16_2 w16_0 w16_1 w25_5 (fun w29_0 =>
 Q0_l10_3 G n a9 a10 ((w25_3 : Nat) : Int) a0 a1 a2 w25_0 w25_1 w25_2 w25_3 w16_2 w16_0 w16_1 w29_0 (fun w30_0 =>
 k1 w25_0 w25_1 w25_2 w25_3 w29_0 w30_0) (0, w25_5)) (0, (List.set ((List.set (w25_4 : Rows) (0 + a10.toNat) [.i .i64 c26.1, .i .i64 c26.2.1, .i .i64 c26.2.2.1, .i .i64 c26.2.2.2.1, c27.2.2.2.2.1]) : Rows) (0 + a9.toNat) [.i .i64 0, .i .i64 0, .i .i64 0, .i .i64 0, c28.2.2.2.2.1])))))
noncomputable def Q0_g (n : Nat) : Q0_G := ⟨Q8 n, Q3 n, Qu n⟩
noncomputable def Q0 (n : Nat) : Q0_T := fun _ρ a0 a1 a2 a3 a4 a5 a6 a7 a8 a9 a10 k0 k1 => Q0_s (Q0_g n) n a0 a1 a2 a3 a4 a5 a6 a7 a8 a9 a10 k0 k1
noncomputable def Q0_e (n : Nat) : EK := Q0_E (Q0 n)
def Q0_S (G : Q0_G) : CK := tabS [(25, Q8_E G.Q8), (114, Q3_E G.Q3), (29, Qu_E G.Qu)]
theorem Q0_Sok (n : Nat) : CK.OK (Q0_S (Q0_g n)) (L tab) := tabS_ok _ (List.forall_mem_cons.2 ⟨(Q8_ok n), List.forall_mem_cons.2 ⟨(Q3_ok n), List.forall_mem_cons.2 ⟨(Qu_ok n), (fun _ h => nomatch h)⟩⟩⟩)
def Q0_hs : HintC := hintL [(33, [.i .i64, .i .i64, .i .i64, .i .i64, .i .i64]), (66, [.i .i64, .i .i64, .i .i64, .i .i64, .i .i64, .i .i64, .i .i64, .b, .i .u64, .i .u64, .i .u64, .i .u64, .i .u64]), (46, [.i .i64])]
def Q0_c5 : Nat × List Nat × List Nat × MC := loopAt 5 m98
noncomputable def Q0_l5_3_d (G : Q0_G) (n : Nat) : Go.Rv.LE := fun _ρ h K => decSt [(1, .i .i64 none), (2, .i .i64 none), (3, .ptr 0 5 0 (some 1) (some 0)), (6, .ptr 1 5 0 (some 1) (some 0)), (40, .sl 2 1 none (some 0) none), (41, .i .i64 none), (42, .i .i64 none)] [.row 5 false false (some [[.i .i64 none, .i .i64 none, .i .i64 none, .sl 4 5 none (some 0) none, .sl 5 13 none (some 0) none]]), .row 5 true false (some [[.i .i64 (some 0), .i .i64 (some 0), .i .i64 (some 0), .lst (some true) (some true) 0 (some []), .lst (some true) (some true) 0 (some [])]]), .row 1 true false none, .row 1 false false (some [[.sl 2 1 none (some 0) none]]), .row 5 true false none, .row 13 true false none] h fun a b => Q0_l5_3 G n a.1 a.2.1 a.2.2.2.2.1.1 a.2.2.2.2.1.2.2 a.2.2.2.2.2.1 b.1.1.1 b.1.1.2.1 b.1.1.2.2.1 b.1.1.2.2.2.1.1 b.1.1.2.2.2.1.2.2 b.1.1.2.2.2.2.1.1 b.1.1.2.2.2.2.1.2.2 b.2.2.1 b.2.2.2.1.1.1.1 b.2.2.2.1.1.1.2.2 b.2.2.2.2.2.1 (fun w0 => K (.exit 0) ⟨[(1, .i .i64 a.1), (2, .i .i64 a.2.1), (3, .ptr 0 1 5 0 0), (6, .ptr 1 1 5 0 0)], [.row 5 false false [[.i .i64 b.1.1.1, .i .i64 b.1.1.2.1, .i .i64 b.1.1.2.2.1, .sl 4 b.1.1.2.2.2.1.1 5 0 b.1.1.2.2.2.1.2.2, .sl 5 b.1.1.2.2.2.2.1.1 13 0 b.1.1.2.2.2.2.1.2.2]], .row 5 true false [[.i .i64 0, .i .i64 0, .i .i64 0, .lst true true 0 [], .lst true true 0 []]], .row 1 true false b.2.2.1, .row 1 false false [[.sl 2 b.2.2.2.1.1.1.1 1 0 b.2.2.2.1.1.1.2.2]], .row 5 true false w0, .row 13 true false b.2.2.2.2.2.1]⟩) (a.2.2.2.2.2.2.1, b.2.2.2.2.1)
noncomputable def Q0_l5_2_d (G : Q0_G) (n : Nat) : Go.Rv.LE := fun _ρ h K => decSt [(1, .i .i64 none), (2, .i .i64 none), (3, .ptr 0 5 0 (some 1) (some 0)), (6, .ptr 1 5 0 (some 1) (some 0)), (40, .sl 2 1 none (some 0) none), (41, .i .i64 none), (42, .i .i64 none)] [.row 5 false false (some [[.i .i64 none, .i .i64 none, .i .i64 none, .sl 4 5 none (some 0) none, .lst (some true) (some true) 0 (some [])]]), .row 5 true false (some [[.i .i64 (some 0), .i .i64 (some 0), .i .i64 (some 0), .lst (some true) (some true) 0 (some []), .lst (some true) (some true) 0 (some [])]]), .row 1 true false none, .row 1 false false (some [[.sl 2 1 none (some 0) none]]), .row 5 true false none] h fun a b => Q0_l5_2 G n a.1 a.2.1 a.2.2.2.2.1.1 a.2.2.2.2.1.2.2 a.2.2.2.2.2.1 b.1.1.1 b.1.1.2.1 b.1.1.2.2.1 b.1.1.2.2.2.1.1 b.1.1.2.2.2.1.2.2 b.2.2.1 b.2.2.2.1.1.1.1 b.2.2.2.1.1.1.2.2 (fun w0 => K (.exit 0) ⟨[(1, .i .i64 a.1), (2, .i .i64 a.2.1), (3, .ptr 0 1 5 0 0), (6, .ptr 1 1 5 0 0)], [.row 5 false false [[.i .i64 b.1.1.1, .i .i64 b.1.1.2.1, .i .i64 b.1.1.2.2.1, .sl 4 b.1.1.2.2.2.1.1 5 0 b.1.1.2.2.2.1.2.2, .lst true true 0 []]], .row 5 true false [[.i .i64 0, .i .i64 0, .i .i64 0, .lst true true 0 [], .lst true true 0 []]], .row 1 true false b.2.2.1, .row 1 false false [[.sl 2 b.2.2.2.1.1.1.1 1 0 b.2.2.2.1.1.1.2.2]], .row 5 true false w0]⟩) (a.2.2.2.2.2.2.1, b.2.2.2.2.1)
noncomputable def Q0_l5_1_d (G : Q0_G) (n : Nat) : Go.Rv.LE := fun _ρ h K => decSt [(1, .i .i64 none), (2, .i .i64 none), (3, .ptr 0 5 0 (some 1) (some 0)), (6, .ptr 1 5 0 (some 1) (some 0)), (40, .lst (some true) (some true) 0 (some [])), (41, .i .i64 (some 0)), (42, .i .i64 (some 0))] [.row 5 false false (some [[.i .i64 none, .i .i64 none, .i .i64 none, .sl 3 5 none (some 0) none, .sl 4 13 none (some 0) none]]), .row 5 true false (some [[.i .i64 (some 0), .i .i64 (some 0), .i .i64 (some 0), .lst (some true) (some true) 0 (some []), .lst (some true) (some true) 0 (some [])]]), .row 1 true false (some [[.lst (some true) (some true) 0 (some [])]]), .row 5 true false none, .row 13 true false none] h fun a b => Q0_l5_1 G n a.1 a.2.1 b.1.1.1 b.1.1.2.1 b.1.1.2.2.1 b.1.1.2.2.2.1.1 b.1.1.2.2.2.1.2.2 b.1.1.2.2.2.2.1.1 b.1.1.2.2.2.2.1.2.2 b.2.2.2.1 b.2.2.2.2.1 (K (.exit 0) ⟨[(1, .i .i64 a.1), (2, .i .i64 a.2.1), (3, .ptr 0 1 5 0 0), (6, .ptr 1 1 5 0 0)], [.row 5 false false [[.i .i64 b.1.1.1, .i .i64 b.1.1.2.1, .i .i64 b.1.1.2.2.1, .sl 3 b.1.1.2.2.2.1.1 5 0 b.1.1.2.2.2.1.2.2, .sl 4 b.1.1.2.2.2.2.1.1 13 0 b.1.1.2.2.2.2.1.2.2]], .row 5 true false [[.i .i64 0, .i .i64 0, .i .i64 0, .lst true true 0 [], .lst true true 0 []]], .row 1 true false [[.lst true true 0 []]], .row 5 true false b.2.2.2.1, .row 13 true false b.2.2.2.2.1]⟩) ()
noncomputable def Q0_l5_0_d (G : Q0_G) (n : Nat) : Go.Rv.LE := fun _ρ h K => decSt [(1, .i .i64 none), (2, .i .i64 none), (3, .ptr 0 5 0 (some 1) (some 0)), (6, .ptr 1 5 0 (some 1) (some 0)), (40, .lst (some true) (some true) 0 (some [])), (41, .i .i64 (some 0)), (42, .i .i64 (some 0))] [.row 5 false false (some [[.i .i64 none, .i .i64 none, .i .i64 none, .sl 3 5 none (some 0) none, .lst (some true) (some true) 0 (some [])]]), .row 5 true false (some [[.i .i64 (some 0), .i .i64 (some 0), .i .i64 (some 0), .lst (some true) (some true) 0 (some []), .lst (some true) (some true) 0 (some [])]]), .row 1 true false (some [[.lst (some true) (some true) 0 (some [])]]), .row 5 true false none] h fun a b => Q0_l5_0 G n a.1 a.2.1 b.1.1.1 b.1.1.2.1 b.1.1.2.2.1 b.1.1.2.2.2.1.1 b.1.1.2.2.2.1.2.2 b.2.2.2.1 (K (.exit 0) ⟨[(1, .i .i64 a.1), (2, .i .i64 a.2.1), (3, .ptr 0 1 5 0 0), (6, .ptr 1 1 5 0 0)], [.row 5 false false [[.i .i64 b.1.1.1, .i .i64 b.1.1.2.1, .i .i64 b.1.1.2.2.1, .sl 3 b.1.1.2.2.2.1.1 5 0 b.1.1.2.2.2.1.2.2, .lst true true 0 []]], .row 5 true false [[.i .i64 0, .i .i64 0, .i .i64 0, .lst true true 0 [], .lst true true 0 []]], .row 1 true false [[.lst true true 0 []]], .row 5 true false b.2.2.2.1]⟩) ()
noncomputable def Q0_d5 (G : Q0_G) (n : Nat) : Go.Rv.LE := altL [(1, .i .i64 none), (2, .i .i64 none), (3, .ptr 0 5 0 (some 1) (some 0)), (6, .ptr 1 5 0 (some 1) (some 0)), (40, .sl 2 1 none (some 0) none), (41, .i .i64 none), (42, .i .i64 none)] [.row 5 false false (some [[.i .i64 none, .i .i64 none, .i .i64 none, .sl 4 5 none (some 0) none, .sl 5 13 none (some 0) none]]), .row 5 true false (some [[.i .i64 (some 0), .i .i64 (some 0), .i .i64 (some 0), .lst (some true) (some true) 0 (some []), .lst (some true) (some true) 0 (some [])]]), .row 1 true false none, .row 1 false false (some [[.sl 2 1 none (some 0) none]]), .row 5 true false none, .row 13 true false none] (Q0_l5_3_d G n) (altL [(1, .i .i64 none), (2, .i .i64 none), (3, .ptr 0 5 0 (some 1) (some 0)), (6, .ptr 1 5 0 (some 1) (some 0)), (40, .sl 2 1 none (some 0) none), (41, .i .i64 none), (42, .i .i64 none)] [.row 5 false false (some [[.i .i64 none, .i .i64 none, .i .i64 none, .sl 4 5 none (some 0) none, .lst (some true) (some true) 0 (some [])]]), .row 5 true false (some [[.i .i64 (some 0), .i .i64 (some 0), .i .i64 (some 0), .lst (some true) (some true) 0 (some []), .lst (some true) (some true) 0 (some [])]]), .row 1 true false none, .row 1 false false (some [[.sl 2 1 none (some 0) none]]), .row 5 true false none] (Q0_l5_2_d G n) (altL [(1, .i .i64 none), (2, .i .i64 none), (3, .ptr 0 5 0 (some 1) (some 0)), (6, .ptr 1 5 0 (some 1) (some 0)), (40, .lst (some true) (some true) 0 (some [])), (41, .i .i64 (some 0)), (42, .i .i64 (some 0))] [.row 5 false false (some [[.i .i64 none, .i .i64 none, .i .i64 none, .sl 3 5 none (some 0) none, .sl 4 13 none (some 0) none]]), .row 5 true false (some [[.i .i64 (some 0), .i .i64 (some 0), .i .i64 (some 0), .lst (some true) (some true) 0 (some []), .lst (some true) (some true) 0 (some [])]]), .row 1 true false (some [[.lst (some true) (some true) 0 (some [])]]), .row 5 true false none, .row 13 true false none] (Q0_l5_1_d G n) (Q0_l5_0_d G n)))
def Q0_c10 : Nat × List Nat × List Nat × MC := loopAt 10 m98
noncomputable def Q0_l10_3_d (G : Q0_G) (n : Nat) : Go.Rv.LE := fun _ρ h K => decSt [(1, .i .i64 none), (2, .i .i64 none), (3, .ptr 0 5 0 (some 1) (some 0)), (6, .ptr 1 5 0 (some 1) (some 0)), (57, .i .i64 none), (58, .i .i64 none)] [.row 5 false false (some [[.i .i64 none, .i .i64 none, .i .i64 none, .sl 4 5 none (some 0) none, .sl 5 13 none (some 0) none]]), .row 5 true false (some [[.i .i64 (some 0), .i .i64 (some 0), .i .i64 (some 0), .lst (some true) (some true) 0 (some []), .lst (some true) (some true) 0 (some [])]]), .row 1 true false none, .row 1 false false (some [[.sl 2 1 none (some 0) none]]), .row 5 true false none, .row 13 true false none] h fun a b => Q0_l10_3 G n a.1 a.2.1 a.2.2.2.2.1 b.1.1.1 b.1.1.2.1 b.1.1.2.2.1 b.1.1.2.2.2.1.1 b.1.1.2.2.2.1.2.2 b.1.1.2.2.2.2.1.1 b.1.1.2.2.2.2.1.2.2 b.2.2.1 b.2.2.2.1.1.1.1 b.2.2.2.1.1.1.2.2 b.2.2.2.2.1 (fun w0 => K (.exit 2) ⟨[(3, .ptr 0 1 5 0 0), (6, .ptr 1 1 5 0 0)], [.row 5 false false [[.i .i64 b.1.1.1, .i .i64 b.1.1.2.1, .i .i64 b.1.1.2.2.1, .sl 4 b.1.1.2.2.2.1.1 5 0 b.1.1.2.2.2.1.2.2, .sl 5 b.1.1.2.2.2.2.1.1 13 0 b.1.1.2.2.2.2.1.2.2]], .row 5 true false [[.i .i64 0, .i .i64 0, .i .i64 0, .lst true true 0 [], .lst true true 0 []]], .row 1 true false b.2.2.1, .row 1 false false [[.sl 2 b.2.2.2.1.1.1.1 1 0 b.2.2.2.1.1.1.2.2]], .row 5 true false b.2.2.2.2.1, .row 13 true false w0]⟩) (a.2.2.2.2.2.1, b.2.2.2.2.2.1)
noncomputable def Q0_l10_1_d (G : Q0_G) (n : Nat) : Go.Rv.LE := fun _ρ h K => decSt [(1, .i .i64 none), (2, .i .i64 none), (3, .ptr 0 5 0 (some 1) (some 0)), (6, .ptr 1 5 0 (some 1) (some 0)), (57, .i .i64 none), (58, .i .i64 none)] [.row 5 false false (some [[.i .i64 none, .i .i64 none, .i .i64 none, .sl 3 5 none (some 0) none, .sl 4 13 none (some 0) none]]), .row 5 true false (some [[.i .i64 (some 0), .i .i64 (some 0), .i .i64 (some 0), .lst (some true) (some true) 0 (some []), .lst (some true) (some true) 0 (some [])]]), .row 1 true false (some [[.lst (some true) (some true) 0 (some [])]]), .row 5 true false none, .row 13 true false none] h fun a b => Q0_l10_1 G n a.1 a.2.1 a.2.2.2.2.1 b.1.1.1 b.1.1.2.1 b.1.1.2.2.1 b.1.1.2.2.2.1.1 b.1.1.2.2.2.1.2.2 b.1.1.2.2.2.2.1.1 b.1.1.2.2.2.2.1.2.2 b.2.2.2.1 (fun w0 => K (.exit 2) ⟨[(3, .ptr 0 1 5 0 0), (6, .ptr 1 1 5 0 0)], [.row 5 false false [[.i .i64 b.1.1.1, .i .i64 b.1.1.2.1, .i .i64 b.1.1.2.2.1, .sl 3 b.1.1.2.2.2.1.1 5 0 b.1.1.2.2.2.1.2.2, .sl 4 b.1.1.2.2.2.2.1.1 13 0 b.1.1.2.2.2.2.1.2.2]], .row 5 true false [[.i .i64 0, .i .i64 0, .i .i64 0, .lst true true 0 [], .lst true true 0 []]], .row 1 true false [[.lst true true 0 []]], .row 5 true false b.2.2.2.1, .row 13 true false w0]⟩) (a.2.2.2.2.2.1, b.2.2.2.2.1)
noncomputable def Q0_l10_2_d (G : Q0_G) (n : Nat) : Go.Rv.LE := fun _ρ h K => decSt [(1, .i .i64 none), (2, .i .i64 none), (3, .ptr 0 5 0 (some 1) (some 0)), (6, .ptr 1 5 0 (some 1) (some 0)), (57, .i .i64 (some 0)), (58, .i .i64 (some 0))] [.row 5 false false (some [[.i .i64 none, .i .i64 none, .i .i64 none, .sl 4 5 none (some 0) none, .lst (some true) (some true) 0 (some [])]]), .row 5 true false (some [[.i .i64 (some 0), .i .i64 (some 0), .i .i64 (some 0), .lst (some true) (some true) 0 (some []), .lst (some true) (some true) 0 (some [])]]), .row 1 true false none, .row 1 false false (some [[.sl 2 1 none (some 0) none]]), .row 5 true false none] h fun a b => Q0_l10_2 G n a.1 a.2.1 b.1.1.1 b.1.1.2.1 b.1.1.2.2.1 b.1.1.2.2.2.1.1 b.1.1.2.2.2.1.2.2 b.2.2.1 b.2.2.2.1.1.1.1 b.2.2.2.1.1.1.2.2 b.2.2.2.2.1 (K (.exit 2) ⟨[(3, .ptr 0 1 5 0 0), (6, .ptr 1 1 5 0 0)], [.row 5 false false [[.i .i64 b.1.1.1, .i .i64 b.1.1.2.1, .i .i64 b.1.1.2.2.1, .sl 4 b.1.1.2.2.2.1.1 5 0 b.1.1.2.2.2.1.2.2, .lst true true 0 []]], .row 5 true false [[.i .i64 0, .i .i64 0, .i .i64 0, .lst true true 0 [], .lst true true 0 []]], .row 1 true false b.2.2.1, .row 1 false false [[.sl 2 b.2.2.2.1.1.1.1 1 0 b.2.2.2.1.1.1.2.2]], .row 5 true false b.2.2.2.2.1]⟩) ()
noncomputable def Q0_l10_0_d (G : Q0_G) (n : Nat) : Go.Rv.LE := fun _ρ h K => decSt [(1, .i .i64 none), (2, .i .i64 none), (3, .ptr 0 5 0 (some 1) (some 0)), (6, .ptr 1 5 0 (some 1) (some 0)), (57, .i .i64 (some 0)), (58, .i .i64 (some 0))] [.row 5 false false (some [[.i .i64 none, .i .i64 none, .i .i64 none, .sl 3 5 none (some 0) none, .lst (some true) (some true) 0 (some [])]]), .row 5 true false (some [[.i .i64 (some 0), .i .i64 (some 0), .i .i64 (some 0), .lst (some true) (some true) 0 (some []), .lst (some true) (some true) 0 (some [])]]), .row 1 true false (some [[.lst (some true) (some true) 0 (some [])]]), .row 5 true false none] h fun a b => Q0_l10_0 G n a.1 a.2.1 b.1.1.1 b.1.1.2.1 b.1.1.2.2.1 b.1.1.2.2.2.1.1 b.1.1.2.2.2.1.2.2 b.2.2.2.1 (K (.exit 2) ⟨[(3, .ptr 0 1 5 0 0), (6, .ptr 1 1 5 0 0)], [.row 5 false false [[.i .i64 b.1.1.1, .i .i64 b.1.1.2.1, .i .i64 b.1.1.2.2.1, .sl 3 b.1.1.2.2.2.1.1 5 0 b.1.1.2.2.2.1.2.2, .lst true true 0 []]], .row 5 true false [[.i .i64 0, .i .i64 0, .i .i64 0, .lst true true 0 [], .lst true true 0 []]], .row 1 true false [[.lst true true 0 []]], .row 5 true false b.2.2.2.1]⟩) ()
noncomputable def Q0_d10 (G : Q0_G) (n : Nat) : Go.Rv.LE := altL [(1, .i .i64 none), (2, .i .i64 none), (3, .ptr 0 5 0 (some 1) (some 0)), (6, .ptr 1 5 0 (some 1) (some 0)), (57, .i .i64 none), (58, .i .i64 none)] [.row 5 false false (some [[.i .i64 none, .i .i64 none, .i .i64 none, .sl 4 5 none (some 0) none, .sl 5 13 none (some 0) none]]), .row 5 true false (some [[.i .i64 (some 0), .i .i64 (some 0), .i .i64 (some 0), .lst (some true) (some true) 0 (some []), .lst (some true) (some true) 0 (some [])]]), .row 1 true false none, .row 1 false false (some [[.sl 2 1 none (some 0) none]]), .row 5 true false none, .row 13 true false none] (Q0_l10_3_d G n) (altL [(1, .i .i64 none), (2, .i .i64 none), (3, .ptr 0 5 0 (some 1) (some 0)), (6, .ptr 1 5 0 (some 1) (some 0)), (57, .i .i64 none), (58, .i .i64 none)] [.row 5 false false (some [[.i .i64 none, .i .i64 none, .i .i64 none, .sl 3 5 none (some 0) none, .sl 4 13 none (some 0) none]]), .row 5 true false (some [[.i .i64 (some 0), .i .i64 (some 0), .i .i64 (some 0), .lst (some true) (some true) 0 (some []), .lst (some true) (some true) 0 (some [])]]), .row 1 true false (some [[.lst (some true) (some true) 0 (some [])]]), .row 5 true false none, .row 13 true false none] (Q0_l10_1_d G n) (altL [(1, .i .i64 none), (2, .i .i64 none), (3, .ptr 0 5 0 (some 1) (some 0)), (6, .ptr 1 5 0 (some 1) (some 0)), (57, .i .i64 (some 0)), (58, .i .i64 (some 0))] [.row 5 false false (some [[.i .i64 none, .i .i64 none, .i .i64 none, .sl 4 5 none (some 0) none, .lst (some true) (some true) 0 (some [])]]), .row 5 true false (some [[.i .i64 (some 0), .i .i64 (some 0), .i .i64 (some 0), .lst (some true) (some true) 0 (some []), .lst (some true) (some true) 0 (some [])]]), .row 1 true false none, .row 1 false false (some [[.sl 2 1 none (some 0) none]]), .row 5 true false none] (Q0_l10_2_d G n) (Q0_l10_0_d G n)))
noncomputable def Q0_lp (G : Q0_G) (n : Nat) : LK := tabL [(5, Q0_d5 G n), (10, Q0_d10 G n)]
theorem Q0_l5_3_k (G : Q0_G) {ρ : Type} (n : Nat) (p0 p1 : Int) (p2 p3 : Nat) (p4 p5 : Int) (p6 p7 : Int) (p8 p9 : Nat) (p10 p11 : Nat) (p12 : Rows) (p13 p14 : Nat) (p16 : Rows) (K : Ex → St → Option ρ) (N : St → Option ρ) : ∀ v, roundC (Q0_S G) Q0_hs (Q0_lp G n) Q0_c5 6 N K (Q0_l5_3_enc p0 p1 p2 p3 p4 p5 p6 p7 p8 p9 p10 p11 p12 p13 p14 p16 v) = Q0_l5_3_s G n p0 p1 p2 p3 p4 p5 p6 p7 p8 p9 p10 p11 p12 p13 p14 p16 (fun w0 => K (.exit 0) ⟨[(1, .i .i64 p0), (2, .i .i64 p1), (3, .ptr 0 1 5 0 0), (6, .ptr 1 1 5 0 0)], [.row 5 false false [[.i .i64 p5, .i .i64 p6, .i .i64 p7, .sl 4 p8 5 0 p9, .sl 5 p10 13 0 p11]], .row 5 true false [[.i .i64 0, .i .i64 0, .i .i64 0, .lst true true 0 [], .lst true true 0 []]], .row 1 true false p12, .row 1 false false [[.sl 2 p13 1 0 p14]], .row 5 true false w0, .row 13 true false p16]⟩) (fun v => N (Q0_l5_3_enc p0 p1 p2 p3 p4 p5 p6 p7 p8 p9 p10 p11 p12 p13 p14 p16 v)) v
 | v => by kernel_rfl
theorem Q0_l5_3_dok (n : Nat) : LE.OK (Q0_l5_3_d (Q0_g n) n) (L tab) Q0_c5 := LE.shp (fun _ _ _ => rfl) fun ρ K y a b e => LE.rounds (Q0_Sok n) (LK.of (l := []) (by kernel_rfl) ((fun _ h => nomatch h))) (Q0_l5_3_k (Q0_g n) n _ _ _ _ _ _ _ _ _ _ _ _ _ _ _ _ K) (by kernel_rfl) (by kernel_rfl) e
theorem Q0_l5_2_k (G : Q0_G) {ρ : Type} (n : Nat) (p0 p1 : Int) (p2 p3 : Nat) (p4 p5 : Int) (p6 p7 : Int) (p8 p9 : Nat) (p10 : Rows) (p11 p12 : Nat) (K : Ex → St → Option ρ) (N : St → Option ρ) : ∀ v, roundC (Q0_S G) Q0_hs (Q0_lp G n) Q0_c5 5 N K (Q0_l5_2_enc p0 p1 p2 p3 p4 p5 p6 p7 p8 p9 p10 p11 p12 v) = Q0_l5_2_s G n p0 p1 p2 p3 p4 p5 p6 p7 p8 p9 p10 p11 p12 (fun w0 => K (.exit 0) ⟨[(1, .i .i64 p0), (2, .i .i64 p1), (3, .ptr 0 1 5 0 0), (6, .ptr 1 1 5 0 0)], [.row 5 false false [[.i .i64 p5, .i .i64 p6, .i .i64 p7, .sl 4 p8 5 0 p9, .lst true true 0 []]], .row 5 true false [[.i .i64 0, .i .i64 0, .i .i64 0, .lst true true 0 [], .lst true true 0 []]], .row 1 true false p10, .row 1 false false [[.sl 2 p11 1 0 p12]], .row 5 true false w0]⟩) (fun v => N (Q0_l5_2_enc p0 p1 p2 p3 p4 p5 p6 p7 p8 p9 p10 p11 p12 v)) v
 | v => by kernel_rfl
theorem Q0_l5_2_dok (n : Nat) : LE.OK (Q0_l5_2_d (Q0_g n) n) (L tab) Q0_c5 := LE.shp (fun _ _ _ => rfl) fun ρ K y a b e => LE.rounds (Q0_Sok n) (LK.of (l := []) (by kernel_rfl) ((fun _ h => nomatch h))) (Q0_l5_2_k (Q0_g n) n _ _ _ _ _ _ _ _ _ _ _ _ _ K) (by kernel_rfl) (by kernel_rfl) e
theorem Q0_l5_1_k (G : Q0_G) {ρ : Type} (n : Nat) (p0 p1 : Int) (p2 p3 p4 : Int) (p5 p6 : Nat) (p7 p8 : Nat) (p9 p10 : Rows) (K : Ex → St → Option ρ) (N : St → Option ρ) : ∀ v, roundC (Q0_S G) Q0_hs (Q0_lp G n) Q0_c5 5 N K (Q0_l5_1_enc p0 p1 p2 p3 p4 p5 p6 p7 p8 p9 p10 v) = Q0_l5_1_s G n p0 p1 p2 p3 p4 p5 p6 p7 p8 p9 p10 (K (.exit 0) ⟨[(1, .i .i64 p0), (2, .i .i64 p1), (3, .ptr 0 1 5 0 0), (6, .ptr 1 1 5 0 0)], [.row 5 false false [[.i .i64 p2, .i .i64 p3, .i .i64 p4, .sl 3 p5 5 0 p6, .sl 4 p7 13 0 p8]], .row 5 true false [[.i .i64 0, .i .i64 0, .i .i64 0, .lst true true 0 [], .lst true true 0 []]], .row 1 true false [[.lst true true 0 []]], .row 5 true false p9, .row 13 true false p10]⟩) (fun v => N (Q0_l5_1_enc p0 p1 p2 p3 p4 p5 p6 p7 p8 p9 p10 v)) v
 | v => by kernel_rfl
theorem Q0_l5_1_dok (n : Nat) : LE.OK (Q0_l5_1_d (Q0_g n) n) (L tab) Q0_c5 := LE.shp (fun _ _ _ => rfl) fun ρ K y a b e => LE.rounds (Q0_Sok n) (LK.of (l := []) (by kernel_rfl) ((fun _ h => nomatch h))) (Q0_l5_1_k (Q0_g n) n _ _ _ _ _ _ _ _ _ _ _ K) (by kernel_rfl) (by kernel_rfl) e
theorem Q0_l5_0_k (G : Q0_G) {ρ : Type} (n : Nat) (p0 p1 : Int) (p2 p3 p4 : Int) (p5 p6 : Nat) (p7 : Rows) (K : Ex → St → Option ρ) (N : St → Option ρ) : ∀ v, roundC (Q0_S G) Q0_hs (Q0_lp G n) Q0_c5 4 N K (Q0_l5_0_enc p0 p1 p2 p3 p4 p5 p6 p7 v) = Q0_l5_0_s G n p0 p1 p2 p3 p4 p5 p6 p7 (K (.exit 0) ⟨[(1, .i .i64 p0), (2, .i .i64 p1), (3, .ptr 0 1 5 0 0), (6, .ptr 1 1 5 0 0)], [.row 5 false false [[.i .i64 p2, .i .i64 p3, .i .i64 p4, .sl 3 p5 5 0 p6, .lst true true 0 []]], .row 5 true false [[.i .i64 0, .i .i64 0, .i .i64 0, .lst true true 0 [], .lst true true 0 []]], .row 1 true false [[.lst true true 0 []]], .row 5 true false p7]⟩) (fun v => N (Q0_l5_0_enc p0 p1 p2 p3 p4 p5 p6 p7 v)) v
 | v => by kernel_rfl
theorem Q0_l5_0_dok (n : Nat) : LE.OK (Q0_l5_0_d (Q0_g n) n) (L tab) Q0_c5 := LE.shp (fun _ _ _ => rfl) fun ρ K y a b e => LE.rounds (Q0_Sok n) (LK.of (l := []) (by kernel_rfl) ((fun _ h => nomatch h))) (Q0_l5_0_k (Q0_g n) n _ _ _ _ _ _ _ _ K) (by kernel_rfl) (by kernel_rfl) e
theorem Q0_d5_ok (n : Nat) : LE.OK (Q0_d5 (Q0_g n) n) (L tab) Q0_c5 := altL_ok (Q0_l5_3_dok n) (altL_ok (Q0_l5_2_dok n) (altL_ok (Q0_l5_1_dok n) (Q0_l5_0_dok n)))
theorem Q0_l10_3_k (G : Q0_G) {ρ : Type} (n : Nat) (p0 p1 : Int) (p2 p3 : Int) (p4 p5 : Int) (p6 p7 : Nat) (p8 p9 : Nat) (p10 : Rows) (p11 p12 : Nat) (p13 : Rows) (K : Ex → St → Option ρ) (N : St → Option ρ) : ∀ v, roundC (Q0_S G) Q0_hs (Q0_lp G n) Q0_c10 6 N K (Q0_l10_3_enc p0 p1 p2 p3 p4 p5 p6 p7 p8 p9 p10 p11 p12 p13 v) = Q0_l10_3_s G n p0 p1 p2 p3 p4 p5 p6 p7 p8 p9 p10 p11 p12 p13 (fun w0 => K (.exit 2) ⟨[(3, .ptr 0 1 5 0 0), (6, .ptr 1 1 5 0 0)], [.row 5 false false [[.i .i64 p3, .i .i64 p4, .i .i64 p5, .sl 4 p6 5 0 p7, .sl 5 p8 13 0 p9]], .row 5 true false [[.i .i64 0, .i .i64 0, .i .i64 0, .lst true true 0 [], .lst true true 0 []]], .row 1 true false p10, .row 1 false false [[.sl 2 p11 1 0 p12]], .row 5 true false p13, .row 13 true false w0]⟩) (fun v => N (Q0_l10_3_enc p0 p1 p2 p3 p4 p5 p6 p7 p8 p9 p10 p11 p12 p13 v)) v
 | v => by kernel_rfl
theorem Q0_l10_3_dok (n : Nat) : LE.OK (Q0_l10_3_d (Q0_g n) n) (L tab) Q0_c10 := LE.shp (fun _ _ _ => rfl) fun ρ K y a b e => LE.rounds (Q0_Sok n) (LK.of (l := []) (by kernel_rfl) ((fun _ h => nomatch h))) (Q0_l10_3_k (Q0_g n) n _ _ _ _ _ _ _ _ _ _ _ _ _ _ K) (by kernel_rfl) (by kernel_rfl) e
theorem Q0_l10_1_k (G : Q0_G) {ρ : Type} (n : Nat) (p0 p1 : Int) (p2 p3 : Int) (p4 p5 : Int) (p6 p7 : Nat) (p8 p9 : Nat) (p10 : Rows) (K : Ex → St → Option ρ) (N : St → Option ρ) : ∀ v, roundC (Q0_S G) Q0_hs (Q0_lp G n) Q0_c10 5 N K (Q0_l10_1_enc p0 p1 p2 p3 p4 p5 p6 p7 p8 p9 p10 v) = Q0_l10_1_s G n p0 p1 p2 p3 p4 p5 p6 p7 p8 p9 p10 (fun w0 => K (.exit 2) ⟨[(3, .ptr 0 1 5 0 0), (6, .ptr 1 1 5 0 0)], [.row 5 false false [[.i .i64 p3, .i .i64 p4, .i .i64 p5, .sl 3 p6 5 0 p7, .sl 4 p8 13 0 p9]], .row 5 true false [[.i .i64 0, .i .i64 0, .i .i64 0, .lst true true 0 [], .lst true true 0 []]], .row 1 true false [[.lst true true 0 []]], .row 5 true false p10, .row 13 true false w0]⟩) (fun v => N (Q0_l10_1_enc p0 p1 p2 p3 p4 p5 p6 p7 p8 p9 p10 v)) v
 | v => by kernel_rfl
theorem Q0_l10_1_dok (n : Nat) : LE.OK (Q0_l10_1_d (Q0_g n) n) (L tab) Q0_c10 := LE.shp (fun _ _ _ => rfl) fun ρ K y a b e => LE.rounds (Q0_Sok n) (LK.of (l := []) (by kernel_rfl) ((fun _ h => nomatch h))) (Q0_l10_1_k (Q0_g n) n _ _ _ _ _ _ _ _ _ _ _ K) (by kernel_rfl) (by kernel_rfl) e
theorem Q0_l10_2_k (G : Q0_G) {ρ : Type} (n : Nat) (p0 p1 : Int) (p2 p3 p4 : Int) (p5 p6 : Nat) (p7 : Rows) (p8 p9 : Nat) (p10 : Rows) (K : Ex → St → Option ρ) (N : St → Option ρ) : ∀ v, roundC (Q0_S G) Q0_hs (Q0_lp G n) Q0_c10 5 N K (Q0_l10_2_enc p0 p1 p2 p3 p4 p5 p6 p7 p8 p9 p10 v) = Q0_l10_2_s G n p0 p1 p2 p3 p4 p5 p6 p7 p8 p9 p10 (K (.exit 2) ⟨[(3, .ptr 0 1 5 0 0), (6, .ptr 1 1 5 0 0)], [.row 5 false false [[.i .i64 p2, .i .i64 p3, .i .i64 p4, .sl 4 p5 5 0 p6, .lst true true 0 []]], .row 5 true false [[.i .i64 0, .i .i64 0, .i .i64 0, .lst true true 0 [], .lst true true 0 []]], .row 1 true false p7, .row 1 false false [[.sl 2 p8 1 0 p9]], .row 5 true false p10]⟩) (fun v => N (Q0_l10_2_enc p0 p1 p2 p3 p4 p5 p6 p7 p8 p9 p10 v)) v
 | v => by kernel_rfl
theorem Q0_l10_2_dok (n : Nat) : LE.OK (Q0_l10_2_d (Q0_g n) n) (L tab) Q0_c10 := LE.shp (fun _ _ _ => rfl) fun ρ K y a b e => LE.rounds (Q0_Sok n) (LK.of (l := []) (by kernel_rfl) ((fun _ h => nomatch h))) (Q0_l10_2_k (Q0_g n) n _ _ _ _ _ _ _ _ _ _ _ K) (by kernel_rfl) (by kernel_rfl) e
theorem Q0_l10_0_k (G : Q0_G) {ρ : Type} (n : Nat) (p0 p1 : Int) (p2 p3 p4 : Int) (p5 p6 : Nat) (p7 : Rows) (K : Ex → St → Option ρ) (N : St → Option ρ) : ∀ v, roundC (Q0_S G) Q0_hs (Q0_lp G n) Q0_c10 4 N K (Q0_l10_0_enc p0 p1 p2 p3 p4 p5 p6 p7 v) = Q0_l10_0_s G n p0 p1 p2 p3 p4 p5 p6 p7 (K (.exit 2) ⟨[(3, .ptr 0 1 5 0 0), (6, .ptr 1 1 5 0 0)], [.row 5 false false [[.i .i64 p2, .i .i64 p3, .i .i64 p4, .sl 3 p5 5 0 p6, .lst true true 0 []]], .row 5 true false [[.i .i64 0, .i .i64 0, .i .i64 0, .lst true true 0 [], .lst true true 0 []]], .row 1 true false [[.lst true true 0 []]], .row 5 true false p7]⟩) (fun v => N (Q0_l10_0_enc p0 p1 p2 p3 p4 p5 p6 p7 v)) v
 | v => by kernel_rfl
theorem Q0_l10_0_dok (n : Nat) : LE.OK (Q0_l10_0_d (Q0_g n) n) (L tab) Q0_c10 := LE.shp (fun _ _ _ => rfl) fun ρ K y a b e => LE.rounds (Q0_Sok n) (LK.of (l := []) (by kernel_rfl) ((fun _ h => nomatch h))) (Q0_l10_0_k (Q0_g n) n _ _ _ _ _ _ _ _ K) (by kernel_rfl) (by kernel_rfl) e
theorem Q0_d10_ok (n : Nat) : LE.OK (Q0_d10 (Q0_g n) n) (L tab) Q0_c10 := altL_ok (Q0_l10_3_dok n) (altL_ok (Q0_l10_1_dok n) (altL_ok (Q0_l10_2_dok n) (Q0_l10_0_dok n)))
theorem Q0_k (G : Q0_G) {ρ : Type} (n : Nat) (a0 a1 a2 : Int) (a3 a4 : Bool) (a5 : Rows) (a6 a7 : Bool) (a8 : Rows) (a9 a10 : Int) (K : Res → Option ρ) : runC (Q0_S G) Q0_hs (Q0_lp G n) m98 [.agg [.i .i64 a0, .i .i64 a1, .i .i64 a2, .lst a3 a4 5 a5, .lst a6 a7 13 a8], .i .i64 a9, .i .i64 a10] K = Q0_s G n a0 a1 a2 a3 a4 a5 a6 a7 a8 a9 a10 (fun w0 w1 w2 => K ⟨.agg [.i .i64 a0, .i .i64 a1, .i .i64 a2, .sl 0 w0 5 0 w1, .lst true true 0 []], [.row 5 true false w2], []⟩) (fun w0 w1 w2 w3 w4 w5 => K ⟨.agg [.i .i64 a0, .i .i64 a1, .i .i64 a2, .sl 0 w0 5 0 w1, .sl 1 w2 13 0 w3], [.row 5 true false w4, .row 13 true false w5], []⟩) := by kernel_rfl
theorem Q0_ok (n : Nat) : EK.OK (Q0_e n) 98 (L tab) := EK.shp (fun _ _ _ => rfl) fun ρ K y c e => EK.run (Q0_Sok n) (by kernel_rfl) (MF.LKOK.of (LK.of (l := [Q0_c5, Q0_c10]) (by kernel_rfl) (List.forall_mem_cons.2 ⟨LE.at (e := Q0_d5 (Q0_g n) n) (by kernel_rfl) (Q0_d5_ok n), List.forall_mem_cons.2 ⟨LE.at (e := Q0_d10 (Q0_g n) n) (by kernel_rfl) (Q0_d10_ok n), (fun _ h => nomatch h)⟩⟩))) (Q0_k (Q0_g n) n _ _ _ _ _ _ _ _ _ _ _ K) (by kernel_rfl) e
abbrev Q0u_T : Type 1 := (ρ : Type) → Int → Int → Int → Bool → Bool → Rows → Bool → Bool → Rows → Int → Int → Bool → Bool → Rows → Bool → Bool → Rows → Int → Int → Int → (Bool → Bool → Rows → Bool → Bool → Rows → Int → Option ρ) → (Nat → Nat → Rows → Option ρ) → (Nat → Nat → Nat → Nat → Rows → Rows → Option ρ) → Option ρ
def Q0u_E (G : Q0u_T) : EK := fun ρ args K => decL [.agg [.i .i64 none, .i .i64 none, .i .i64 none, .lst none none 5 none, .lst none none 13 none], .i .i64 none, .agg [.i .i64 none, .lst none none 1 none, .lst none none 1 none, .i .i64 none, .i .i64 none, .i .u64 none]] args fun c => G ρ c.1.1 c.1.2.1 c.1.2.2.1 c.1.2.2.2.1.1 c.1.2.2.2.1.2.1 c.1.2.2.2.1.2.2 c.1.2.2.2.2.1.1 c.1.2.2.2.2.1.2.1 c.1.2.2.2.2.1.2.2 c.2.1 c.2.2.1.1 c.2.2.1.2.1.1 c.2.2.1.2.1.2.1 c.2.2.1.2.1.2.2 c.2.2.1.2.2.1.1 c.2.2.1.2.2.1.2.1 c.2.2.1.2.2.1.2.2 c.2.2.1.2.2.2.1 c.2.2.1.2.2.2.2.1 c.2.2.1.2.2.2.2.2.1 (fun w0 w1 w2 w3 w4 w5 w6 => K ⟨.tup [.agg [.i .i64 c.1.1, .i .i64 c.1.2.1, .i .i64 c.1.2.2.1, .lst w0 w1 5 w2, .lst w3 w4 13 w5], .i .i64 w6], [], []⟩) (fun w0 w1 w2 => K ⟨.tup [.agg [.i .i64 c.1.1, .i .i64 c.1.2.1, .i .i64 c.1.2.2.1, .sl 0 w0 5 0 w1, .lst true true 0 []], .i .i64 0], [.row 5 true false w2], []⟩) (fun w0 w1 w2 w3 w4 w5 => K ⟨.tup [.agg [.i .i64 c.1.1, .i .i64 c.1.2.1, .i .i64 c.1.2.2.1, .sl 0 w0 5 0 w1, .sl 1 w2 13 0 w3], .i .i64 0], [.row 5 true false w4, .row 13 true false w5], []⟩)
structure Q0u_G where
 mk ::
 Qd : Qd_T
 Qt : Qt_T
 Q0i : Q0i_T
 Q0e : Q0e_T
 Qy : Qy_T
 Q06 : Q06_T
 Qz : Qz_T
 Q0 : Q0_T
noncomputable def Q0u_s (G : Q0u_G) {ρ : Type} (_n : Nat) (a0 a1 a2 : Int) (a3 a4 : Bool) (a5 : Rows) (a6 a7 : Bool) (a8 : Rows) (a9 a10 : Int) (a11 a12 : Bool) (a13 : Rows) (a14 a15 : Bool) (a16 : Rows) (a17 a18 a19 : Int) (k0 : (Bool → Bool → Rows → Bool → Bool → Rows → Int → Option ρ)) (k1 : (Nat → Nat → Rows → Option ρ)) (k2 : (Nat → Nat → Nat → Nat → Rows → Rows → Option ρ)) : Option ρ :=
 G.Qd ρ a10 a11 a12 a13 a14 a15 a16 a17 a18 a19 (fun w0_0 =>
 bif w0_0 then
 bif ((a10 : Int) != 2) then
 bif ((a10 : Int) != 3) then
 bif ((a10 : Int) != 4) then
 k0 a3 a4 a5 a6 a7 a8 1
 else G.Qt ρ a0 a1 a2 a3 a4 a5 a6 a7 a8 a9 a11 a12 a13 (fun w1_0 w1_1 w1_2 w1_3 w1_4 w1_5 =>
 bif ((w1_5 : Int) != 0) then
 k0 a3 a4 a5 a6 a7 a8 w1_5
 else bif ((a10 : Int) != 4) then
 G.Q0i ρ w1_1 w1_2 w1_3 w1_4 a17 (fun w2_0 w2_1 w2_2 w2_3 =>
 bif ((a10 : Int) == 3) then
 G.Q0e ρ w2_0 w2_1 w2_2 w2_3 a18 (fun w3_0 w3_1 w3_2 w3_3 w3_4 =>
 bif ((w3_4 : Int) != 0) then
 k0 a3 a4 a5 a6 a7 a8 w3_4
 else G.Qy ρ a0 a1 a2 a3 a4 a5 a6 a7 a8 a9 a14 a15 a16 (fun w4_0 w4_1 =>
 bif ((w4_1 : Int) != 0) then
 k0 a3 a4 a5 a6 a7 a8 w4_1
 else bif ((a10 : Int) != 4) then
 G.Q06 ρ a0 a1 a2 a3 a4 a5 a6 a7 a8 w1_0 w4_0 w3_0 w3_1 w3_2 w3_3 (fun w5_0 w5_1 w5_2 w5_3 w5_4 w5_5 w5_6 =>
 k0 w5_0 w5_1 w5_2 w5_3 w5_4 w5_5 w5_6)
 else G.Qz ρ a0 a1 a2 a3 a4 a5 a6 a7 a8 w3_0 w3_1 w3_2 w3_3 w4_0 (fun w6_0 =>
 bif w6_0 then
 k0 a3 a4 a5 a6 a7 a8 1
 else G.Q0 ρ a0 a1 a2 a3 a4 a5 a6 a7 a8 w1_0 w4_0 (fun w7_0 w7_1 w7_2 =>
 k1 w7_0 w7_1 w7_2) (fun w8_0 w8_1 w8_2 w8_3 w8_4 w8_5 =>
 k2 w8_0 w8_1 w8_2 w8_3 w8_4 w8_5))))
 else G.Qy ρ a0 a1 a2 a3 a4 a5 a6 a7 a8 a9 a14 a15 a16 (fun w9_0 w9_1 =>
 bif ((w9_1 : Int) != 0) then
 k0 a3 a4 a5 a6 a7 a8 w9_1
 else bif ((a10 : Int) != 4) then
 G.Q06 ρ a0 a1 a2 a3 a4 a5 a6 a7 a8 w1_0 w9_0 w2_0 w2_1 w2_2 w2_3 (fun w10_0 w10_1 w10_2 w10_3 w10_4 w10_5 w10_6 =>
 k0 w10_0 w10_1 w10_2 w10_3 w10_4 w10_5 w10_6)
 else G.Qz ρ a0 a1 a2 a3 a4 a5 a6 a7 a8 w2_0 w2_1 w2_2 w2_3 w9_0 (fun w11_0 =>
 bif w11_0 then
 k0 a3 a4 a5 a6 a7 a8 1
 else G.Q0 ρ a0 a1 a2 a3 a4 a5 a6 a7 a8 w1_0 w9_0 (fun w12_0 w12_1 w12_2 =>
 k1 w12_0 w12_1 w12_2) (fun w13_0 w13_1 w13_2 w13_3 w13_4 w13_5 =>
 k2 w13_0 w13_1 w13_2 w13_3 w13_4 w13_5))))
 else bif ((a10 : Int) == 3) then
 G.Q0e ρ w1_1 w1_2 w1_3 w1_4 a18 (fun w14_0 w14_1 w14_2 w14_3 w14_4 =>
 bif ((w14_4 : Int) != 0) then
 k0 a3 a4 a5 a6 a7 a8 w14_4
 else G.Qy ρ a0 a1 a2 a3 a4 a5 a6 a7 a8 a9 a14 a15 a16 (fun w15_0 w15_1 =>
 bif ((w15_1 : Int) != 0) then
 k0 a3 a4 a5 a6 a7 a8 w15_1
 else bif ((a10 : Int) != 4) then
 G.Q06 ρ a0 a1 a2 a3 a4 a5 a6 a7 a8 w1_0 w15_0 w14_0 w14_1 w14_2 w14_3 (fun w16_0 w16_1 w16_2 w16_3 w16_4 w16_5 w16_6 =>
 k0 w16_0 w16_1 w16_2 w16_3 w16_4 w16_5 w16_6)
 else G.Qz ρ a0 a1 a2 a3 a4 a5 a6 a7 a8 w14_0 w14_1 w14_2 w14_3 w15_0 (fun w17_0 =>
 bif w17_0 then
 k0 a3 a4 a5 a6 a7 a8 1
 else G.Q0 ρ a0 a1 a2 a3 a4 a5 a6 a7 a8 w1_0 w15_0 (fun w18_0 w18_1 w18_2 =>
 k1 w18_0 w18_1 w18_2) (fun w19_0 w19_1 w19_2 w19_3 w19_4 w19_5 =>
 k2 w19_0 w19_1 w19_2 w19_3 w19_4 w19_5))))
 else G.Qy ρ a0 a1 a2 a3 a4 a5 a6 a7 a8 a9 a14 a15 a16 (fun w20_0 w20_1 =>
 bif ((w20_1 : Int) != 0) then
 k0 a3 a4 a5 a6 a7 a8 w20_1
 else bif ((a10 : Int) != 4) then
 G.Q06 ρ a0 a1 a2 a3 a4 a5 a6 a7 a8 w1_0 w20_0 w1_1 w1_2 w1_3 w1_4 (fun w21_0 w21_1 w21_2 w21_3 w21_4 w21_5 w21_6 =>
 k0 w21_0 w21_1 w21_2 w21_3 w21_4 w21_5 w21_6)
 else G.Qz ρ a0 a1 a2 a3 a4 a5 a6 a7 a8 w1_1 w1_2 w1_3 w1_4 w20_0 (fun w22_0 =>
 bif w22_0 then
 k0 a3 a4 a5 a6 a7 a8 1
 else G.Q0 ρ a0 a1 a2 a3 a4 a5 a6 a7 a8 w1_0 w20_0 (fun w23_0 w23_1 w23_2 =>
 k1 w23_0 w23_1 w23_2) (fun w24_0 w24_1 w24_2 w24_3 w24_4 w24_5 =>
 k2 w24_0 w24_1 w24_2 w24_3 w24_4 w24_5))))
 else G.Qt ρ a0 a1 a2 a3 a4 a5 a6 a7 a8 a9 a11 a12 a13 (fun w25_0 w25_1 w25_2 w25_3 w25_4 w25_5 =>
 bif ((w25_5 : Int) != 0) then
 k0 a3 a4 a5 a6 a7 a8 w25_5
 else bif ((a10 : Int) != 4) then
 G.Q0i ρ w25_1 w25_2 w25_3 w25_4 a17 (fun w26_0 w26_1 w26_2 w26_3 =>
 bif ((a10 : Int) == 3) then
 G.Q0e ρ w26_0 w26_1 w26_2 w26_3 a18 (fun w27_0 w27_1 w27_2 w27_3 w27_4 =>
 bif ((w27_4 : Int) != 0) then
 k0 a3 a4 a5 a6 a7 a8 w27_4
 else G.Qy ρ a0 a1 a2 a3 a4 a5 a6 a7 a8 a9 a14 a15 a16 (fun w28_0 w28_1 =>
 bif ((w28_1 : Int) != 0) then
 k0 a3 a4 a5 a6 a7 a8 w28_1
 else bif ((a10 : Int) != 4) then
 G.Q06 ρ a0 a1 a2 a3 a4 a5 a6 a7 a8 w25_0 w28_0 w27_0 w27_1 w27_2 w27_3 (fun w29_0 w29_1 w29_2 w29_3 w29_4 w29_5 w29_6 =>
 k0 w29_0 w29_1 w29_2 w29_3 w29_4 w29_5 w29_6)
 else G.Qz ρ a0 a1 a2 a3 a4 a5 a6 a7 a8 w27_0 w27_1 w27_2 w27_3 w28_0 (fun w30_0 =>
 bif w30_0 then
 k0 a3 a4 a5 a6 a7 a8 1
 else G.Q0 ρ a0 a1 a2 a3 a4 a5 a6 a7 a8 w25_0 w28_0 (fun w31_0 w31_1 w31_2 =>
 k1 w31_0 w31_1 w31_2) (fun w32_0 w32_1 w32_2 w32_3 w32_4 w32_5 =>
 k2 w32_0 w32_1 w32_2 w32_3 w32_4 w32_5))))
 else G.Qy ρ a0 a1 a2 a3 a4 a5 a6 a7 a8 a9 a14 a15 a16 (fun w33_0 w33_1 =>
 bif ((w33_1 : Int) != 0) then
 k0 a3 a4 a5 a6 a7 a8 w33_1
 else bif ((a10 : Int) != 4) then
 G.Q06 ρ a0 a1 a2 a3 a4 a5 a6 a7 a8 w25_0 w33_0 w26_0 w26_1 w26_2 w26_3 (fun w34_0 w34_1 w34_2 w34_3 w34_4 w34_5 w34_6 =>
 k0 w34_0 w34_1 w34_2 w34_3 w34_4 w34_5 w34_6)
 else G.Qz ρ a0 a1 a2 a3 a4 a5 a6 a7 a8 w26_0 w26_1 w26_2 w26_3 w33_0 (fun w35_0 =>
 bif w35_0 then
 k0 a3 a4 a5 a6 a7 a8 1
 else G.Q0 ρ a0 a1 a2 a3 a4 a5 a6 a7 a8 w25_0 w33_0 (fun w36_0 w36_1 w36_2 =>
 k1 w36_0 w36_1 w36_2) (fun w37_0 w37_1 w37_2 w37_3 w37_4 w37_5 =>
 k2 w37_0 w37_1 w37_2 w37_3 w37_4 w37_5))))
 else bif ((a10 : Int) == 3) then
 G.Q0e ρ w25_1 w25_2 w25_3 w25_4 a18 (fun w38_0 w38_1 w38_2 w38_3 w38_4 =>
 bif ((w38_4 : Int) != 0) then
 k0 a3 a4 a5 a6 a7 a8 w38_4
 else G.Qy ρ a0 a1 a2 a3 a4 a5 a6 a7 a8 a9 a14 a15 a16 (fun w39_0 w39_1 =>
 bif ((w39_1 : Int) != 0) then
 k0 a3 a4 a5 a6 a7 a8 w39_1
 else bif ((a10 : Int) != 4) then
 G.Q06 ρ a0 a1 a2 a3 a4 a5 a6 a7 a8 w25_0 w39_0 w38_0 w38_1 w38_2 w38_3 (fun w40_0 w40_1 w40_2 w40_3 w40_4 w40_5 w40_6 =>
 k0 w40_0 w40_1 w40_2 w40_3 w40_4 w40_5 w40_6)
 else G.Qz ρ a0 a1 a2 a3 a4 a5 a6 a7 a8 w38_0 w38_1 w38_2 w38_3 w39_0 (fun w41_0 =>
 bif w41_0 then
 k0 a3 a4 a5 a6 a7 a8 1
 else G.Q0 ρ a0 a1 a2 a3 a4 a5 a6 a7 a8 w25_0 w39_0 (fun w42_0 w42_1 w42_2 =>
 k1 w42_0 w42_1 w42_2) (fun w43_0 w43_1 w43_2 w43_3 w43_4 w43_5 =>
 k2 w43_0 w43_1 w43_2 w43_3 w43_4 w43_5))))
 else G.Qy ρ a0 a1 a2 a3 a4 a5 a6 a7 a8 a9 a14 a15 a16 (fun w44_0 w44_1 =>
 bif ((w44_1 : Int) != 0) then
 k0 a3 a4 a5 a6 a7 a8 w44_1
 else bif ((a10 : Int) != 4) then
 G.Q06 ρ a0 a1 a2 a3 a4 a5 a6 a7 a8 w25_0 w44_0 w25_1 w25_2 w25_3 w25_4 (fun w45_0 w45_1 w45_2 w45_3 w45_4 w45_5 w45_6 =>
 k0 w45_0 w45_1 w45_2 w45_3 w45_4 w45_5 w45_6)
 else G.Qz ρ a0 a1 a2 a3 a4 a5 a6 a7 a8 w25_1 w25_2 w25_3 w25_4 w44_0 (fun w46_0 =>
 bif w46_0 then
 k0 a3 a4 a5 a6 a7 a8 1
 else G.Q0 ρ a0 a1 a2 a3 a4 a5 a6 a7 a8 w25_0 w44_0 (fun w47_0 w47_1 w47_2 =>
 k1 w47_0 w47_1 w47_2) (fun w48_0 w48_1 w48_2 w48_3 w48_4 w48_5 =>
 k2 w48_0 w48_1 w48_2 w48_3 w48_4 w48_5))))
 else G.Qt ρ a0 a1 a2 a3 a4 a5 a6 a7 a8 a9 a11 a12 a13 (fun w49_0 w49_1 w49_2 w49_3 w49_4 w49_5 =>
 bif ((w49_5 : Int) != 0) then
 k0 a3 a4 a5 a6 a7 a8 w49_5
 else bif ((a10 : Int) != 4) then
 G.Q0i ρ w49_1 w49_2 w49_3 w49_4 a17 (fun w50_0 w50_1 w50_2 w50_3 =>
 bif ((a10 : Int) == 3) then
 G.Q0e ρ w50_0 w50_1 w50_2 w50_3 a18 (fun w51_0 w51_1 w51_2 w51_3 w51_4 =>
 bif ((w51_4 : Int) != 0) then
 k0 a3 a4 a5 a6 a7 a8 w51_4
 else G.Qy ρ a0 a1 a2 a3 a4 a5 a6 a7 a8 a9 a14 a15 a16 (fun w52_0 w52_1 =>
 bif ((w52_1 : Int) != 0) then
 k0 a3 a4 a5 a6 a7 a8 w52_1
 else bif ((a10 : Int) != 4) then
 G.Q06 ρ a0 a1 a2 a3 a4 a5 a6 a7 a8 w49_0 w52_0 w51_0 w51_1 w51_2 w51_3 (fun w53_0 w53_1 w53_2 w53_3 w53_4 w53_5 w53_6 =>
 k0 w53_0 w53_1 w53_2 w53_3 w53_4 w53_5 w53_6)
 else G.Qz ρ a0 a1 a2 a3 a4 a5 a6 a7 a8 w51_0 w51_1 w51_2 w51_3 w52_0 (fun w54_0 =>
 bif w54_0 then
 k0 a3 a4 a5 a6 a7 a8 1
 else G.Q0 ρ a0 a1 a2 a3 a4 a5 a6 a7 a8 w49_0 w52_0 (fun w55_0 w55_1 w55_2 =>
 k1 w55_0 w55_1 w55_2) (fun w56_0 w56_1 w56_2 w56_3 w56_4 w56_5 =>
 k2 w56_0 w56_1 w56_2 w56_3 w56_4 w56_5))))
 else G.Qy ρ a0 a1 a2 a3 a4 a5 a6 a7 a8 a9 a14 a15 a16 (fun w57_0 w57_1 =>
 bif ((w57_1 : Int) != 0) then
 k0 a3 a4 a5 a6 a7 a8 w57_1
 else bif ((a10 : Int) != 4) then
 G.Q06 ρ a0 a1 a2 a3 a4 a5 a6 a7 a8 w49_0 w57_0 w50_0 w50_1 w50_2 w50_3 (fun w58_0 w58_1 w58_2 w58_3 w58_4 w58_5 w58_6 =>
 k0 w58_0 w58_1 w58_2 w58_3 w58_4 w58_5 w58_6)
 else G.Qz ρ a0 a1 a2 a3 a4 a5 a6 a7 a8 w50_0 w50_1 w50_2 w50_3 w57_0 (fun w59_0 =>
 bif w59_0 then
 k0 a3 a4 a5 a6 a7 a8 1
 else G.Q0 ρ a0 a1 a2 a3 a4 a5 a6 a7 a8 w49_0 w57_0 (fun w60_0 w60_1 w60_2 =>
 k1 w60_0 w60_1 w60_2) (fun w61_0 w61_1 w61_2 w61_3 w61_4 w61_5 =>
 k2 w61_0 w61_1 w61_2 w61_3 w61_4 w61_5))))
 else bif ((a10 : Int) == 3) then
 G.Q0e ρ w49_1 w49_2 w49_3 w49_4 a18 (fun w62_0 w62_1 w62_2 w62_3 w62_4 =>
 bif ((w62_4 : Int) != 0) then
 k0 a3 a4 a5 a6 a7 a8 w62_4
 else G.Qy ρ a0 a1 a2 a3 a4 a5 a6 a7 a8 a9 a14 a15 a16 (fun w63_0 w63_1 =>
 bif ((w63_1 : Int) != 0) then
 k0 a3 a4 a5 a6 a7 a8 w63_1
 else bif ((a10 : Int) != 4) then
 G.Q06 ρ a0 a1 a2 a3 a4 a5 a6 a7 a8 w49_0 w63_0 w62_0 w62_1 w62_2 w62_3 (fun w64_0 w64_1 w64_2 w64_3 w64_4 w64_5 w64_6 =>
 k0 w64_0 w64_1 w64_2 w64_3 w64_4 w64_5 w64_6)
 else G.Qz ρ a0 a1 a2 a3 a4 a5 a6 a7 a8 w62_0 w62_1 w62_2 w62_3 w63_0 (fun w65_0 =>
 bif w65_0 then
 k0 a3 a4 a5 a6 a7 a8 1
 else G.Q0 ρ a0 a1 a2 a3 a4 a5 a6 a7 a8 w49_0 w63_0 (fun w66_0 w66_1 w66_2 =>
 k1 w66_0 w66_1 w66_2) (fun w67_0 w67_1 w67_2 w67_3 w67_4 w67_5 =>
 k2 w67_0 w67_1 w67_2 w67_3 w67_4 w67_5))))
 else G.Qy ρ a0 a1 a2 a3 a4 a5 a6 a7 a8 a9 a14 a15 a16 (fun w68_0 w68_1 =>
 bif ((w68_1 : Int) != 0) then
 k0 a3 a4 a5 a6 a7 a8 w68_1
 else bif ((a10 : Int) != 4) then
 G.Q06 ρ a0 a1 a2 a3 a4 a5 a6 a7 a8 w49_0 w68_0 w49_1 w49_2 w49_3 w49_4 (fun w69_0 w69_1 w69_2 w69_3 w69_4 w69_5 w69_6 =>
 k0 w69_0 w69_1 w69_2 w69_3 w69_4 w69_5 w69_6)
 else G.Qz ρ a0 a1 a2 a3 a4 a5 a6 a7 a8 w49_1 w49_2 w49_3 w49_4 w68_0 (fun w70_0 =>
 bif w70_0 then
 k0 a3 a4 a5 a6 a7 a8 1
 else G.Q0 ρ a0 a1 a2 a3 a4 a5 a6 a7 a8 w49_0 w68_0 (fun w71_0 w71_1 w71_2 =>
 k1 w71_0 w71_1 w71_2) (fun w72_0 w72_1 w72_2 w72_3 w72_4 w72_5 =>
 k2 w72_0 w72_1 w72_2 w72_3 w72_4 w72_5))))
 else k0 a3 a4 a5 a6 a7 a8 1)
noncomputable def Q0u_g (n : Nat) : Q0u_G := ⟨Qd n, Qt n, Q0i n, Q0e n, Qy n, Q06 n, Qz n, Q0 n⟩
noncomputable def Q0u (n : Nat) : Q0u_T := fun _ρ a0 a1 a2 a3 a4 a5 a6 a7 a8 a9 a10 a11 a12 a13 a14 a15 a16 a17 a18 a19 k0 k1 k2 => Q0u_s (Q0u_g n) n a0 a1 a2 a3 a4 a5 a6 a7 a8 a9 a10 a11 a12 a13 a14 a15 a16 a17 a18 a19 k0 k1 k2
noncomputable def Q0u_e (n : Nat) : EK := Q0u_E (Q0u n)
def Q0u_S (G : Q0u_G) : CK := tabS [(27, Qd_E G.Qd), (16, Qt_E G.Qt), (94, Q0i_E G.Q0i), (95, Q0e_E G.Q0e), (88, Qy_E G.Qy), (96, Q06_E G.Q06), (97, Qz_E G.Qz), (98, Q0_E G.Q0)]
theorem Q0u_Sok (n : Nat) : CK.OK (Q0u_S (Q0u_g n)) (L tab) := tabS_ok _ (List.forall_mem_cons.2 ⟨(Qd_ok n), List.forall_mem_cons.2 ⟨(Qt_ok n), List.forall_mem_cons.2 ⟨(Q0i_ok n), List.forall_mem_cons.2 ⟨(Q0e_ok n), List.forall_mem_cons.2 ⟨(Qy_ok n), List.forall_mem_cons.2 ⟨(Q06_ok n), List.forall_mem_cons.2 ⟨(Qz_ok n), List.forall_mem_cons.2 ⟨(Q0_ok n), (fun _ h => nomatch h)⟩⟩⟩⟩⟩⟩⟩⟩)
def Q0u_hs : HintC := hintL []
noncomputable def Q0u_lp (_G : Q0u_G) (_n : Nat) : LK := tabL []
theorem Q0u_k (G : Q0u_G) {ρ : Type} (n : Nat) (a0 a1 a2 : Int) (a3 a4 : Bool) (a5 : Rows) (a6 a7 : Bool) (a8 : Rows) (a9 a10 : Int) (a11 a12 : Bool) (a13 : Rows) (a14 a15 : Bool) (a16 : Rows) (a17 a18 a19 : Int) (K : Res → Option ρ) : runC (Q0u_S G) Q0u_hs (Q0u_lp G n) m76 [.agg [.i .i64 a0, .i .i64 a1, .i .i64 a2, .lst a3 a4 5 a5, .lst a6 a7 13 a8], .i .i64 a9, .agg [.i .i64 a10, .lst a11 a12 1 a13, .lst a14 a15 1 a16, .i .i64 a17, .i .i64 a18, .i .u64 a19]] K = Q0u_s G n a0 a1 a2 a3 a4 a5 a6 a7 a8 a9 a10 a11 a12 a13 a14 a15 a16 a17 a18 a19 (fun w0 w1 w2 w3 w4 w5 w6 => K ⟨.tup [.agg [.i .i64 a0, .i .i64 a1, .i .i64 a2, .lst w0 w1 5 w2, .lst w3 w4 13 w5], .i .i64 w6], [], []⟩) (fun w0 w1 w2 => K ⟨.tup [.agg [.i .i64 a0, .i .i64 a1, .i .i64 a2, .sl 0 w0 5 0 w1, .lst true true 0 []], .i .i64 0], [.row 5 true false w2], []⟩) (fun w0 w1 w2 w3 w4 w5 => K ⟨.tup [.agg [.i .i64 a0, .i .i64 a1, .i .i64 a2, .sl 0 w0 5 0 w1, .sl 1 w2 13 0 w3], .i .i64 0], [.row 5 true false w4, .row 13 true false w5], []⟩) := by kernel_rfl
theorem Q0u_ok (n : Nat) : EK.OK (Q0u_e n) 76 (L tab) := EK.shp (fun _ _ _ => rfl) fun ρ K y c e => EK.run (Q0u_Sok n) (by kernel_rfl) (MF.LKOK.of (LK.of (l := []) (by kernel_rfl) ((fun _ h => nomatch h)))) (Q0u_k (Q0u_g n) n _ _ _ _ _ _ _ _ _ _ _ _ _ _ _ _ _ _ _ _ K) (by kernel_rfl) e
abbrev Q0j_T : Type 1 := (ρ : Type) → Int → Int → Int → Bool → Bool → Rows → Bool → Bool → Rows → Int → Int → Bool → Bool → Rows → Bool → Bool → Rows → Int → Int → Int → (Bool → Bool → Rows → Bool → Bool → Rows → Int → Option ρ) → Option ρ
def Q0j_E (G : Q0j_T) : EK := fun ρ args K => decL [.agg [.i .i64 none, .i .i64 none, .i .i64 none, .lst none none 5 none, .lst none none 13 none], .i .i64 none, .agg [.i .i64 none, .lst none none 1 none, .lst none none 1 none, .i .i64 none, .i .i64 none, .i .u64 none]] args fun c => G ρ c.1.1 c.1.2.1 c.1.2.2.1 c.1.2.2.2.1.1 c.1.2.2.2.1.2.1 c.1.2.2.2.1.2.2 c.1.2.2.2.2.1.1 c.1.2.2.2.2.1.2.1 c.1.2.2.2.2.1.2.2 c.2.1 c.2.2.1.1 c.2.2.1.2.1.1 c.2.2.1.2.1.2.1 c.2.2.1.2.1.2.2 c.2.2.1.2.2.1.1 c.2.2.1.2.2.1.2.1 c.2.2.1.2.2.1.2.2 c.2.2.1.2.2.2.1 c.2.2.1.2.2.2.2.1 c.2.2.1.2.2.2.2.2.1 (fun w0 w1 w2 w3 w4 w5 w6 => K ⟨.tup [.agg [.i .i64 c.1.1, .i .i64 c.1.2.1, .i .i64 c.1.2.2.1, .lst w0 w1 5 w2, .lst w3 w4 13 w5], .agg [.i .i64 w6, .i .u64 0, .i .i64 0]], [], []⟩)
structure Q0j_G where
 mk ::
 Q0u : Q0u_T
noncomputable def Q0j_s (G : Q0j_G) {ρ : Type} (_n : Nat) (a0 a1 a2 : Int) (a3 a4 : Bool) (a5 : Rows) (a6 a7 : Bool) (a8 : Rows) (a9 a10 : Int) (a11 a12 : Bool) (a13 : Rows) (a14 a15 : Bool) (a16 : Rows) (a17 a18 a19 : Int) (k0 : (Bool → Bool → Rows → Bool → Bool → Rows → Int → Option ρ)) : Option ρ :=
 G.Q0u ρ a0 a1 a2 a3 a4 a5 a6 a7 a8 a9 a10 a11 a12 a13 a14 a15 a16 a17 a18 a19 (fun w0_0 w0_1 w0_2 w0_3 w0_4 w0_5 w0_6 =>
 bif ((w0_6 : Int) != 0) then
 k0 a3 a4 a5 a6 a7 a8 w0_6
 else k0 w0_0 w0_1 w0_2 w0_3 w0_4 w0_5 0) (fun w1_0 w1_1 w1_2 =>
 chk (((List.length (w1_2 : Rows)) : Nat) == w1_0) <|
 k0 false false (List.take w1_1 (List.drop 0 (w1_2 : Rows))) true true [] 0) (fun w2_0 w2_1 w2_2 w2_3 w2_4 w2_5 =>
 chk (((List.length (w2_4 : Rows)) : Nat) == w2_0) <|
 chk (((List.length (w2_5 : Rows)) : Nat) == w2_2) <|
 k0 false false (List.take w2_1 (List.drop 0 (w2_4 : Rows))) false false (List.take w2_3 (List.drop 0 (w2_5 : Rows))) 0)
noncomputable def Q0j_g (n : Nat) : Q0j_G := ⟨Q0u n⟩
noncomputable def Q0j (n : Nat) : Q0j_T := fun _ρ a0 a1 a2 a3 a4 a5 a6 a7 a8 a9 a10 a11 a12 a13 a14 a15 a16 a17 a18 a19 k0 => Q0j_s (Q0j_g n) n a0 a1 a2 a3 a4 a5 a6 a7 a8 a9 a10 a11 a12 a13 a14 a15 a16 a17 a18 a19 k0
noncomputable def Q0j_e (n : Nat) : EK := Q0j_E (Q0j n)
def Q0j_S (G : Q0j_G) : CK := tabS [(76, Q0u_E G.Q0u)]
theorem Q0j_Sok (n : Nat) : CK.OK (Q0j_S (Q0j_g n)) (L tab) := tabS_ok _ (List.forall_mem_cons.2 ⟨(Q0u_ok n), (fun _ h => nomatch h)⟩)
def Q0j_hs : HintC := hintL []
noncomputable def Q0j_lp (_G : Q0j_G) (_n : Nat) : LK := tabL []
theorem Q0j_k (G : Q0j_G) {ρ : Type} (n : Nat) (a0 a1 a2 : Int) (a3 a4 : Bool) (a5 : Rows) (a6 a7 : Bool) (a8 : Rows) (a9 a10 : Int) (a11 a12 : Bool) (a13 : Rows) (a14 a15 : Bool) (a16 : Rows) (a17 a18 a19 : Int) (K : Res → Option ρ) : runC (Q0j_S G) Q0j_hs (Q0j_lp G n) m43 [.agg [.i .i64 a0, .i .i64 a1, .i .i64 a2, .lst a3 a4 5 a5, .lst a6 a7 13 a8], .i .i64 a9, .agg [.i .i64 a10, .lst a11 a12 1 a13, .lst a14 a15 1 a16, .i .i64 a17, .i .i64 a18, .i .u64 a19]] K = Q0j_s G n a0 a1 a2 a3 a4 a5 a6 a7 a8 a9 a10 a11 a12 a13 a14 a15 a16 a17 a18 a19 (fun w0 w1 w2 w3 w4 w5 w6 => K ⟨.tup [.agg [.i .i64 a0, .i .i64 a1, .i .i64 a2, .lst w0 w1 5 w2, .lst w3 w4 13 w5], .agg [.i .i64 w6, .i .u64 0, .i .i64 0]], [], []⟩) := by kernel_rfl
theorem Q0j_ok (n : Nat) : EK.OK (Q0j_e n) 43 (L tab) := EK.shp (fun _ _ _ => rfl) fun ρ K y c e => EK.run (Q0j_Sok n) (by kernel_rfl) (MF.LKOK.of (LK.of (l := []) (by kernel_rfl) ((fun _ h => nomatch h)))) (Q0j_k (Q0j_g n) n _ _ _ _ _ _ _ _ _ _ _ _ _ _ _ _ _ _ _ _ K) (by kernel_rfl) e
abbrev Q0l_T : Type 1 := (ρ : Type) → (Int → Int → Int → Bool → Bool → Rows → Bool → Bool → Rows → Option ρ) → Option ρ
def Q0l_E (G : Q0l_T) : EK := fun ρ args K => decL [] args fun _c => G ρ (fun w0 w1 w2 w3 w4 w5 w6 w7 w8 => K ⟨.agg [.i .i64 w0, .i .i64 w1, .i .i64 w2, .lst w3 w4 5 w5, .lst w6 w7 13 w8], [], []⟩)
structure Q0l_G where
 mk ::
 Q0m : Q0m_T
 reevelaw20_way : reevelaw20_way_T
 Q0v : Q0v_T
 Q0j : Q0j_T
noncomputable def Q0l_s (G : Q0l_G) {ρ : Type} (_n : Nat)  (k0 : (Int → Int → Int → Bool → Bool → Rows → Bool → Bool → Rows → Option ρ)) : Option ρ :=
 G.Q0m ρ (fun w0_0 w0_1 w0_2 w0_3 w0_4 w0_5 w0_6 w0_7 w0_8 =>
 G.reevelaw20_way ρ false false ([[.i .i64 0]]) (bs (stayR ⟨.agg [.lst false false 1 ([[.i .i64 0]])], [], []⟩) <|
 G.reevelaw20_way ρ false false ([[.i .i64 3]]) (bs (stayR ⟨.agg [.lst false false 1 ([[.i .i64 3]])], [], []⟩) <|
 G.Q0v ρ w0_0 w0_1 w0_2 w0_3 w0_4 w0_5 w0_6 w0_7 w0_8 0 1 false false ([[.i .i64 0]]) false false ([[.i .i64 3]]) 5 0 0 (fun w3_0 w3_1 w3_2 w3_3 w3_4 w3_5 _w3_6 _w3_7 =>
 G.reevelaw20_way ρ false false ([[.i .i64 3]]) (bs (stayR ⟨.agg [.lst false false 1 ([[.i .i64 3]])], [], []⟩) <|
 G.reevelaw20_way ρ false false ([[.i .i64 4]]) (bs (stayR ⟨.agg [.lst false false 1 ([[.i .i64 4]])], [], []⟩) <|
 G.Q0j ρ w0_0 w0_1 w0_2 w3_0 w3_1 w3_2 w3_3 w3_4 w3_5 0 2 false false ([[.i .i64 3]]) false false ([[.i .i64 4]]) 1 0 0 (fun w6_0 w6_1 w6_2 w6_3 w6_4 w6_5 _w6_6 =>
 G.reevelaw20_way ρ false false ([[.i .i64 3]]) (bs (stayR ⟨.agg [.lst false false 1 ([[.i .i64 3]])], [], []⟩) <|
 G.reevelaw20_way ρ false false ([[.i .i64 5]]) (bs (stayR ⟨.agg [.lst false false 1 ([[.i .i64 5]])], [], []⟩) <|
 G.Q0j ρ w0_0 w0_1 w0_2 w6_0 w6_1 w6_2 w6_3 w6_4 w6_5 0 2 false false ([[.i .i64 3]]) false false ([[.i .i64 5]]) 2 0 0 (fun w9_0 w9_1 w9_2 w9_3 w9_4 w9_5 _w9_6 =>
 k0 w0_0 w0_1 w0_2 w9_0 w9_1 w9_2 w9_3 w9_4 w9_5))))))))))
noncomputable def Q0l_g (n : Nat) : Q0l_G := ⟨Q0m n, reevelaw20_way n, Q0v n, Q0j n⟩
noncomputable def Q0l (n : Nat) : Q0l_T := fun _ρ k0 => Q0l_s (Q0l_g n) n k0
noncomputable def Q0l_e (n : Nat) : EK := Q0l_E (Q0l n)
def Q0l_S (G : Q0l_G) : CK := tabS [(60, Q0m_E G.Q0m), (13, reevelaw20_way_E G.reevelaw20_way), (41, Q0v_E G.Q0v), (43, Q0j_E G.Q0j)]
theorem Q0l_Sok (n : Nat) : CK.OK (Q0l_S (Q0l_g n)) (L tab) := tabS_ok _ (List.forall_mem_cons.2 ⟨(Q0m_ok n), List.forall_mem_cons.2 ⟨(reevelaw20_way_ok n), List.forall_mem_cons.2 ⟨(Q0v_ok n), List.forall_mem_cons.2 ⟨(Q0j_ok n), (fun _ h => nomatch h)⟩⟩⟩⟩)
def Q0l_hs : HintC := hintL []
noncomputable def Q0l_lp (_G : Q0l_G) (_n : Nat) : LK := tabL []
theorem Q0l_k (G : Q0l_G) {ρ : Type} (n : Nat)  (K : Res → Option ρ) : runC (Q0l_S G) Q0l_hs (Q0l_lp G n) m32 [] K = Q0l_s G n  (fun w0 w1 w2 w3 w4 w5 w6 w7 w8 => K ⟨.agg [.i .i64 w0, .i .i64 w1, .i .i64 w2, .lst w3 w4 5 w5, .lst w6 w7 13 w8], [], []⟩) := by kernel_rfl
theorem Q0l_ok (n : Nat) : EK.OK (Q0l_e n) 32 (L tab) := EK.shp (fun _ _ _ => rfl) fun ρ K y c e => EK.run (Q0l_Sok n) (by kernel_rfl) (MF.LKOK.of (LK.of (l := []) (by kernel_rfl) ((fun _ h => nomatch h)))) (Q0l_k (Q0l_g n) n  K) (by kernel_rfl) e
abbrev Q5_i1_T : Type 1 := (ρ : Type) → Bool → Bool → (Option ρ) → Option ρ
def Q5_i1_E (G : Q5_i1_T) : EK := fun ρ args K => decL [.agg [.lst none none 0 (some [])]] args fun c => G ρ c.1.1.1 c.1.1.2.1 (K ⟨.b false, [], []⟩)
structure Q5_i1_G where
 mk ::
noncomputable def Q5_i1_s (_G : Q5_i1_G) {ρ : Type} (_n : Nat) (_a0 _a1 : Bool) (k0 : (Option ρ)) : Option ρ :=
 k0
noncomputable def Q5_i1_g (_n : Nat) : Q5_i1_G := ⟨⟩
noncomputable def Q5_i1 (n : Nat) : Q5_i1_T := fun _ρ a0 a1 k0 => Q5_i1_s (Q5_i1_g n) n a0 a1 k0
noncomputable def Q5_i1_e (n : Nat) : EK := Q5_i1_E (Q5_i1 n)
def Q5_i1_S (_G : Q5_i1_G) : CK := tabS []
theorem Q5_i1_Sok (n : Nat) : CK.OK (Q5_i1_S (Q5_i1_g n)) (L tab) := tabS_ok _ ((fun _ h => nomatch h))
def Q5_i1_hs : HintC := hintL []
noncomputable def Q5_i1_lp (_G : Q5_i1_G) (_n : Nat) : LK := tabL []
theorem Q5_i1_k (G : Q5_i1_G) {ρ : Type} (n : Nat) (a0 a1 : Bool) (K : Res → Option ρ) : runC (Q5_i1_S G) Q5_i1_hs (Q5_i1_lp G n) m54 [.agg [.lst a0 a1 0 []]] K = Q5_i1_s G n a0 a1 (K ⟨.b false, [], []⟩) := by kernel_rfl
theorem Q5_i1_ok (n : Nat) : EK.OK (Q5_i1_e n) 54 (L tab) := EK.shp (fun _ _ _ => rfl) fun ρ K y c e => EK.run (Q5_i1_Sok n) (by kernel_rfl) (MF.LKOK.of (LK.of (l := []) (by kernel_rfl) ((fun _ h => nomatch h)))) (Q5_i1_k (Q5_i1_g n) n _ _ K) (by kernel_rfl) e
abbrev Q0b_T : Type 1 := (ρ : Type) → Int → Bool → Bool → Rows → Bool → Bool → Int → Int → Int → (Bool → Option ρ) → Option ρ
def Q0b_E (G : Q0b_T) : EK := fun ρ args K => decL [.agg [.i .i64 none, .lst none none 1 none, .lst none none 0 (some []), .i .i64 none, .i .i64 none, .i .u64 none]] args fun c => G ρ c.1.1 c.1.2.1.1 c.1.2.1.2.1 c.1.2.1.2.2 c.1.2.2.1.1 c.1.2.2.1.2.1 c.1.2.2.2.1 c.1.2.2.2.2.1 c.1.2.2.2.2.2.1 (fun w0 => K ⟨.b w0, [], []⟩)
structure Q0b_G where
 mk ::
 call_in : call_in_T
 right_Good : right_Good_T
noncomputable def Q0b_s (G : Q0b_G) {ρ : Type} (_n : Nat) (a0 : Int) (_a1 _a2 : Bool) (_a3 : Rows) (_a4 _a5 : Bool) (a6 a7 _a8 : Int) (k0 : (Bool → Option ρ)) : Option ρ :=
 bif ((a0 : Int) == 1) then
 G.call_in ρ a6 1 5 (fun w0_0 =>
 bif w0_0 then
 G.call_in ρ a7 0 4096 (fun w1_0 =>
 bif w1_0 then
 k0 true
 else k0 false)
 else k0 false)
 else bif ((a0 : Int) == 2) then
 G.right_Good ρ a6 (fun w2_0 =>
 bif w2_0 then
 bif ((a7 : Int) == 0) then
 k0 true
 else k0 false
 else k0 false)
 else bif ((a0 : Int) == 3) then
 G.right_Good ρ a6 (fun w3_0 =>
 bif w3_0 then
 G.call_in ρ a7 1 65535 (fun w4_0 =>
 bif w4_0 then
 k0 true
 else k0 false)
 else k0 false)
 else bif ((a0 : Int) == 11) then
 G.call_in ρ a6 0 3 (fun w5_0 =>
 bif w5_0 then
 bif ((a7 : Int) == 0) then
 k0 true
 else k0 false
 else k0 false)
 else bif ((a0 : Int) == 12) then
 G.call_in ρ a6 0 3 (fun w6_0 =>
 bif w6_0 then
 bif ((a7 : Int) == 0) then
 k0 true
 else k0 false
 else k0 false)
 else bif ((a6 : Int) == 0) then
 bif ((a7 : Int) == 0) then
 k0 true
 else k0 false
 else k0 false
noncomputable def Q0b_g (n : Nat) : Q0b_G := ⟨call_in n, right_Good n⟩
noncomputable def Q0b (n : Nat) : Q0b_T := fun _ρ a0 a1 a2 a3 a4 a5 a6 a7 a8 k0 => Q0b_s (Q0b_g n) n a0 a1 a2 a3 a4 a5 a6 a7 a8 k0
noncomputable def Q0b_e (n : Nat) : EK := Q0b_E (Q0b n)
def Q0b_S (G : Q0b_G) : CK := tabS [(86, call_in_E G.call_in), (70, right_Good_E G.right_Good)]
theorem Q0b_Sok (n : Nat) : CK.OK (Q0b_S (Q0b_g n)) (L tab) := tabS_ok _ (List.forall_mem_cons.2 ⟨(call_in_ok n), List.forall_mem_cons.2 ⟨(right_Good_ok n), (fun _ h => nomatch h)⟩⟩)
def Q0b_hs : HintC := hintL []
noncomputable def Q0b_lp (_G : Q0b_G) (_n : Nat) : LK := tabL []
theorem Q0b_k (G : Q0b_G) {ρ : Type} (n : Nat) (a0 : Int) (a1 a2 : Bool) (a3 : Rows) (a4 a5 : Bool) (a6 a7 a8 : Int) (K : Res → Option ρ) : runC (Q0b_S G) Q0b_hs (Q0b_lp G n) m56 [.agg [.i .i64 a0, .lst a1 a2 1 a3, .lst a4 a5 0 [], .i .i64 a6, .i .i64 a7, .i .u64 a8]] K = Q0b_s G n a0 a1 a2 a3 a4 a5 a6 a7 a8 (fun w0 => K ⟨.b w0, [], []⟩) := by kernel_rfl
theorem Q0b_ok (n : Nat) : EK.OK (Q0b_e n) 56 (L tab) := EK.shp (fun _ _ _ => rfl) fun ρ K y c e => EK.run (Q0b_Sok n) (by kernel_rfl) (MF.LKOK.of (LK.of (l := []) (by kernel_rfl) ((fun _ h => nomatch h)))) (Q0b_k (Q0b_g n) n _ _ _ _ _ _ _ _ _ K) (by kernel_rfl) e
abbrev Q07_T : Type 1 := (ρ : Type) → Int → Bool → Bool → Rows → Bool → Bool → Int → Int → Int → (Bool → Option ρ) → Option ρ
def Q07_E (G : Q07_T) : EK := fun ρ args K => decL [.agg [.i .i64 none, .lst none none 1 none, .lst none none 0 (some []), .i .i64 none, .i .i64 none, .i .u64 none]] args fun c => G ρ c.1.1 c.1.2.1.1 c.1.2.1.2.1 c.1.2.1.2.2 c.1.2.2.1.1 c.1.2.2.1.2.1 c.1.2.2.2.1 c.1.2.2.2.2.1 c.1.2.2.2.2.2.1 (fun w0 => K ⟨.b w0, [], []⟩)
structure Q07_G where
 mk ::
 Q08 : Q08_T
 strings_Contains : strings_Contains_T
 Q5_i1 : Q5_i1_T
 Q5 : Q5_T
 Q0b : Q0b_T
noncomputable def Q07_s (G : Q07_G) {ρ : Type} (_n : Nat) (a0 : Int) (a1 a2 : Bool) (a3 : Rows) (a4 a5 : Bool) (a6 a7 a8 : Int) (k0 : (Bool → Option ρ)) : Option ρ :=
 G.Q08 ρ a0 (fun _w0_0 w0_1 =>
 G.strings_Contains ρ w0_1 [66] (fun w1_0 =>
 bif w1_0 then
 G.Q5_i1 ρ a4 a5 (bif ((w0_1 : Bys) != []) then
 G.Q5 ρ a1 a2 a3 (fun w3_0 =>
 bif w3_0 then
 k0 false
 else k0 false)
 else k0 false)
 else bif ((w0_1 : Bys) != []) then
 G.Q5 ρ a1 a2 a3 (fun w4_0 =>
 bif w4_0 then
 G.Q0b ρ a0 a1 a2 a3 a4 a5 a6 a7 a8 (fun w5_0 =>
 bif w5_0 then
 bif ((a8 : Int) == 0) then
 k0 true
 else G.strings_Contains ρ w0_1 [87] (fun w6_0 =>
 bif w6_0 then
 k0 true
 else k0 false)
 else k0 false)
 else k0 false)
 else k0 false))
noncomputable def Q07_g (n : Nat) : Q07_G := ⟨Q08 n, strings_Contains n, Q5_i1 n, Q5 n, Q0b n⟩
noncomputable def Q07 (n : Nat) : Q07_T := fun _ρ a0 a1 a2 a3 a4 a5 a6 a7 a8 k0 => Q07_s (Q07_g n) n a0 a1 a2 a3 a4 a5 a6 a7 a8 k0
noncomputable def Q07_e (n : Nat) : EK := Q07_E (Q07 n)
def Q07_S (G : Q07_G) : CK := tabS [(52, Q08_E G.Q08), (53, strings_Contains_E G.strings_Contains), (54, altE [.agg [.lst none none 0 (some [])]] (Q5_i1_E G.Q5_i1) (Q5_E G.Q5)), (56, Q0b_E G.Q0b)]
theorem Q07_Sok (n : Nat) : CK.OK (Q07_S (Q07_g n)) (L tab) := tabS_ok _ (List.forall_mem_cons.2 ⟨(Q08_ok n), List.forall_mem_cons.2 ⟨(strings_Contains_ok n), List.forall_mem_cons.2 ⟨altE_ok (Q5_i1_ok n) ((Q5_ok n)), List.forall_mem_cons.2 ⟨(Q0b_ok n), (fun _ h => nomatch h)⟩⟩⟩⟩)
def Q07_hs : HintC := hintL []
noncomputable def Q07_lp (_G : Q07_G) (_n : Nat) : LK := tabL []
theorem Q07_k (G : Q07_G) {ρ : Type} (n : Nat) (a0 : Int) (a1 a2 : Bool) (a3 : Rows) (a4 a5 : Bool) (a6 a7 a8 : Int) (K : Res → Option ρ) : runC (Q07_S G) Q07_hs (Q07_lp G n) m27 [.agg [.i .i64 a0, .lst a1 a2 1 a3, .lst a4 a5 0 [], .i .i64 a6, .i .i64 a7, .i .u64 a8]] K = Q07_s G n a0 a1 a2 a3 a4 a5 a6 a7 a8 (fun w0 => K ⟨.b w0, [], []⟩) := by kernel_rfl
theorem Q07_ok (n : Nat) : EK.OK (Q07_e n) 27 (L tab) := EK.shp (fun _ _ _ => rfl) fun ρ K y c e => EK.run (Q07_Sok n) (by kernel_rfl) (MF.LKOK.of (LK.of (l := []) (by kernel_rfl) ((fun _ h => nomatch h)))) (Q07_k (Q07_g n) n _ _ _ _ _ _ _ _ _ K) (by kernel_rfl) e
abbrev cap_fields_T : Type 1 := (ρ : Type) → (Option ρ) → Option ρ
def cap_fields_E (G : cap_fields_T) : EK := fun ρ args K => decL [] args fun _c => G ρ (K ⟨.sl 0 4 2 0 4, [.row 2 true false [[.i .i64 0, .i .i64 8], [.i .i64 8, .i .i64 8], [.i .i64 16, .i .i64 16], [.i .i64 32, .i .i64 16]]], []⟩)
structure cap_fields_G where
 mk ::
noncomputable def cap_fields_s (_G : cap_fields_G) {ρ : Type} (_n : Nat)  (k0 : (Option ρ)) : Option ρ :=
 k0
noncomputable def cap_fields_g (_n : Nat) : cap_fields_G := ⟨⟩
noncomputable def cap_fields (n : Nat) : cap_fields_T := fun _ρ k0 => cap_fields_s (cap_fields_g n) n k0
noncomputable def cap_fields_e (n : Nat) : EK := cap_fields_E (cap_fields n)
def cap_fields_S (_G : cap_fields_G) : CK := tabS []
theorem cap_fields_Sok (n : Nat) : CK.OK (cap_fields_S (cap_fields_g n)) (L tab) := tabS_ok _ ((fun _ h => nomatch h))
def cap_fields_hs : HintC := hintL []
noncomputable def cap_fields_lp (_G : cap_fields_G) (_n : Nat) : LK := tabL []
theorem cap_fields_k (G : cap_fields_G) {ρ : Type} (n : Nat)  (K : Res → Option ρ) : runC (cap_fields_S G) cap_fields_hs (cap_fields_lp G n) m38 [] K = cap_fields_s G n  (K ⟨.sl 0 4 2 0 4, [.row 2 true false [[.i .i64 0, .i .i64 8], [.i .i64 8, .i .i64 8], [.i .i64 16, .i .i64 16], [.i .i64 32, .i .i64 16]]], []⟩) := by kernel_rfl
theorem cap_fields_ok (n : Nat) : EK.OK (cap_fields_e n) 38 (L tab) := EK.shp (fun _ _ _ => rfl) fun ρ K y c e => EK.run (cap_fields_Sok n) (by kernel_rfl) (MF.LKOK.of (LK.of (l := []) (by kernel_rfl) ((fun _ h => nomatch h)))) (cap_fields_k (cap_fields_g n) n  K) (by kernel_rfl) e
abbrev tag_Field_mask_T : Type 1 := (ρ : Type) → Int → Int → (Int → Option ρ) → Option ρ
def tag_Field_mask_E (G : tag_Field_mask_T) : EK := fun ρ args K => decL [.agg [.i .i64 none, .i .i64 none]] args fun c => G ρ c.1.1 c.1.2.1 (fun w0 => K ⟨.i .u64 w0, [], []⟩)
structure tag_Field_mask_G where
 mk ::
noncomputable def tag_Field_mask_s (_G : tag_Field_mask_G) {ρ : Type} (_n : Nat) (a0 a1 : Int) (k0 : (Int → Option ρ)) : Option ρ :=
 chk (decide (0 ≤ (a1 : Int))) <|
 chk (decide (0 ≤ (a0 : Int))) <|
 k0 (IntKind.wrap .u64 (((IntKind.wrap .u64 ((IntKind.wrap .u64 ((1 : Int) * 2 ^ (min a1.toNat (IntKind.bits .u64)))) - 1)) : Int) * 2 ^ (min a0.toNat (IntKind.bits .u64))))
noncomputable def tag_Field_mask_g (_n : Nat) : tag_Field_mask_G := ⟨⟩
noncomputable def tag_Field_mask (n : Nat) : tag_Field_mask_T := fun _ρ a0 a1 k0 => tag_Field_mask_s (tag_Field_mask_g n) n a0 a1 k0
noncomputable def tag_Field_mask_e (n : Nat) : EK := tag_Field_mask_E (tag_Field_mask n)
def tag_Field_mask_S (_G : tag_Field_mask_G) : CK := tabS []
theorem tag_Field_mask_Sok (n : Nat) : CK.OK (tag_Field_mask_S (tag_Field_mask_g n)) (L tab) := tabS_ok _ ((fun _ h => nomatch h))
def tag_Field_mask_hs : HintC := hintL []
noncomputable def tag_Field_mask_lp (_G : tag_Field_mask_G) (_n : Nat) : LK := tabL []
theorem tag_Field_mask_k (G : tag_Field_mask_G) {ρ : Type} (n : Nat) (a0 a1 : Int) (K : Res → Option ρ) : runC (tag_Field_mask_S G) tag_Field_mask_hs (tag_Field_mask_lp G n) m67 [.agg [.i .i64 a0, .i .i64 a1]] K = tag_Field_mask_s G n a0 a1 (fun w0 => K ⟨.i .u64 w0, [], []⟩) := by kernel_rfl
theorem tag_Field_mask_ok (n : Nat) : EK.OK (tag_Field_mask_e n) 67 (L tab) := EK.shp (fun _ _ _ => rfl) fun ρ K y c e => EK.run (tag_Field_mask_Sok n) (by kernel_rfl) (MF.LKOK.of (LK.of (l := []) (by kernel_rfl) ((fun _ h => nomatch h)))) (tag_Field_mask_k (tag_Field_mask_g n) n _ _ K) (by kernel_rfl) e
abbrev Qp_T : Type 1 := (ρ : Type) → Bool → Bool → Rows → (Int → Bool → Option ρ) → Option ρ
def Qp_E (G : Qp_T) : EK := fun ρ args K => decL [.lst none none 2 none] args fun c => G ρ c.1.1 c.1.2.1 c.1.2.2 (fun w0 w1 => K ⟨.tup [.i .u64 w0, .b w1], [], []⟩)
structure Qp_G where
 mk ::
 tag_Field_mask : tag_Field_mask_T
abbrev Qp_l3_V : Type := Int × Int
noncomputable def Qp_l3_s (G : Qp_G) {ρ : Type} (_n : Nat) (_p0 _p1 : Bool) (p2 : Rows) (p3 : Int) (k0 : (Int → Option ρ)) (k1 : (Int → Option ρ)) (rec' : Qp_l3_V → Option ρ) : Qp_l3_V → Option ρ
 | v =>
 bif decide ((v.2 : Int) < p3) then
 rowT [.i .i64, .i .i64] p2 v.2 fun c0 =>
 bif decide ((c0.1 : Int) < 0) then
 k0 v.1
 else bif decide ((c0.1 : Int) ≥ 64) then
 k0 v.1
 else bif decide ((c0.2.1 : Int) < 1) then
 k0 v.1
 else bif decide ((c0.2.1 : Int) > (IntKind.wrap .i64 (64 - c0.1))) then
 k0 v.1
 else G.tag_Field_mask ρ c0.1 c0.2.1 (fun w1_0 =>
 bif (((IntKind.wrap .u64 (BitVec.ofInt (IntKind.bits .u64) v.1 &&& BitVec.ofInt (IntKind.bits .u64) w1_0).toNat) : Int) != 0) then
 k0 v.1
 else G.tag_Field_mask ρ c0.1 c0.2.1 (fun w2_0 =>
 rec' ((IntKind.wrap .u64 (BitVec.ofInt (IntKind.bits .u64) v.1 ||| BitVec.ofInt (IntKind.bits .u64) w2_0).toNat), (IntKind.wrap .i64 (v.2 + 1)))))
 else k1 v.1
noncomputable def Qp_l3 (G : Qp_G) {ρ : Type} (n : Nat) (p0 p1 : Bool) (p2 : Rows) (p3 : Int) (k0 : (Int → Option ρ)) (k1 : (Int → Option ρ)) (v : Qp_l3_V) : Option ρ := fuelN (Qp_l3_s G n p0 p1 p2 p3 k0 k1) n v
def Qp_l3_enc (p0 p1 : Bool) (p2 : Rows) (p3 : Int) : Qp_l3_V → St
 | v => ⟨[(4, .i .u64 v.1), (7, .lst p0 p1 2 p2), (8, .i .i64 p3), (9, .i .i64 v.2)], []⟩
noncomputable def Qp_s (G : Qp_G) {ρ : Type} (n : Nat) (a0 a1 : Bool) (a2 : Rows) (k0 : (Int → Bool → Option ρ)) : Option ρ :=
 Qp_l3 G n a0 a1 a2 (((List.length (a2 : Rows)) : Nat) : Int) (fun _w0_0 =>
 k0 0 false) (fun w1_0 =>
 k0 w1_0 true) (0, 0)
noncomputable def Qp_g (n : Nat) : Qp_G := ⟨tag_Field_mask n⟩
noncomputable def Qp (n : Nat) : Qp_T := fun _ρ a0 a1 a2 k0 => Qp_s (Qp_g n) n a0 a1 a2 k0
noncomputable def Qp_e (n : Nat) : EK := Qp_E (Qp n)
def Qp_S (G : Qp_G) : CK := tabS [(67, tag_Field_mask_E G.tag_Field_mask)]
theorem Qp_Sok (n : Nat) : CK.OK (Qp_S (Qp_g n)) (L tab) := tabS_ok _ (List.forall_mem_cons.2 ⟨(tag_Field_mask_ok n), (fun _ h => nomatch h)⟩)
def Qp_hs : HintC := hintL [(11, [.i .i64, .i .i64])]
def Qp_c3 : Nat × List Nat × List Nat × MC := loopAt 3 m68
noncomputable def Qp_l3_d (G : Qp_G) (n : Nat) : Go.Rv.LE := fun _ρ h K => decSt [(4, .i .u64 none), (7, .lst none none 2 none), (8, .i .i64 none), (9, .i .i64 none)] [] h fun a _b => Qp_l3 G n a.2.1.1 a.2.1.2.1 a.2.1.2.2 a.2.2.1 (fun w0 => K .ret ⟨[(2, .i .u64 0), (3, .b false), (4, .i .u64 w0)], []⟩) (fun w0 => K (.exit 0) ⟨[(2, .u), (3, .u), (4, .i .u64 w0)], []⟩) (a.1, a.2.2.2.1)
noncomputable def Qp_d3 (G : Qp_G) (n : Nat) : Go.Rv.LE := Qp_l3_d G n
noncomputable def Qp_lp (G : Qp_G) (n : Nat) : LK := tabL [(3, Qp_d3 G n)]
theorem Qp_l3_k (G : Qp_G) {ρ : Type} (n : Nat) (p0 p1 : Bool) (p2 : Rows) (p3 : Int) (K : Ex → St → Option ρ) (N : St → Option ρ) : ∀ v, roundC (Qp_S G) Qp_hs (Qp_lp G n) Qp_c3 0 N K (Qp_l3_enc p0 p1 p2 p3 v) = Qp_l3_s G n p0 p1 p2 p3 (fun w0 => K .ret ⟨[(2, .i .u64 0), (3, .b false), (4, .i .u64 w0)], []⟩) (fun w0 => K (.exit 0) ⟨[(2, .u), (3, .u), (4, .i .u64 w0)], []⟩) (fun v => N (Qp_l3_enc p0 p1 p2 p3 v)) v
 | v => by kernel_rfl
theorem Qp_l3_dok (n : Nat) : LE.OK (Qp_l3_d (Qp_g n) n) (L tab) Qp_c3 := LE.shp (fun _ _ _ => rfl) fun ρ K y a b e => LE.rounds (Qp_Sok n) (LK.of (l := []) (by kernel_rfl) ((fun _ h => nomatch h))) (Qp_l3_k (Qp_g n) n _ _ _ _ K) (by kernel_rfl) (by kernel_rfl) e
theorem Qp_d3_ok (n : Nat) : LE.OK (Qp_d3 (Qp_g n) n) (L tab) Qp_c3 := Qp_l3_dok n
theorem Qp_k (G : Qp_G) {ρ : Type} (n : Nat) (a0 a1 : Bool) (a2 : Rows) (K : Res → Option ρ) : runC (Qp_S G) Qp_hs (Qp_lp G n) m68 [.lst a0 a1 2 a2] K = Qp_s G n a0 a1 a2 (fun w0 w1 => K ⟨.tup [.i .u64 w0, .b w1], [], []⟩) := by kernel_rfl
theorem Qp_ok (n : Nat) : EK.OK (Qp_e n) 68 (L tab) := EK.shp (fun _ _ _ => rfl) fun ρ K y c e => EK.run (Qp_Sok n) (by kernel_rfl) (MF.LKOK.of (LK.of (l := [Qp_c3]) (by kernel_rfl) (List.forall_mem_cons.2 ⟨LE.at (e := Qp_d3 (Qp_g n) n) (by kernel_rfl) (Qp_d3_ok n), (fun _ h => nomatch h)⟩))) (Qp_k (Qp_g n) n _ _ _ K) (by kernel_rfl) e
abbrev Q0w_T : Type 1 := (ρ : Type) → Bool → Bool → Rows → (Bool → Option ρ) → Option ρ
def Q0w_E (G : Q0w_T) : EK := fun ρ args K => decL [.lst none none 2 none] args fun c => G ρ c.1.1 c.1.2.1 c.1.2.2 (fun w0 => K ⟨.b w0, [], []⟩)
structure Q0w_G where
 mk ::
 Qp : Qp_T
noncomputable def Q0w_s (G : Q0w_G) {ρ : Type} (_n : Nat) (a0 a1 : Bool) (a2 : Rows) (k0 : (Bool → Option ρ)) : Option ρ :=
 G.Qp ρ a0 a1 a2 (fun _w0_0 w0_1 =>
 bif w0_1 then
 k0 true
 else k0 false)
noncomputable def Q0w_g (n : Nat) : Q0w_G := ⟨Qp n⟩
noncomputable def Q0w (n : Nat) : Q0w_T := fun _ρ a0 a1 a2 k0 => Q0w_s (Q0w_g n) n a0 a1 a2 k0
noncomputable def Q0w_e (n : Nat) : EK := Q0w_E (Q0w n)
def Q0w_S (G : Q0w_G) : CK := tabS [(68, Qp_E G.Qp)]
theorem Q0w_Sok (n : Nat) : CK.OK (Q0w_S (Q0w_g n)) (L tab) := tabS_ok _ (List.forall_mem_cons.2 ⟨(Qp_ok n), (fun _ h => nomatch h)⟩)
def Q0w_hs : HintC := hintL []
noncomputable def Q0w_lp (_G : Q0w_G) (_n : Nat) : LK := tabL []
theorem Q0w_k (G : Q0w_G) {ρ : Type} (n : Nat) (a0 a1 : Bool) (a2 : Rows) (K : Res → Option ρ) : runC (Q0w_S G) Q0w_hs (Q0w_lp G n) m66 [.lst a0 a1 2 a2] K = Q0w_s G n a0 a1 a2 (fun w0 => K ⟨.b w0, [], []⟩) := by kernel_rfl
theorem Q0w_ok (n : Nat) : EK.OK (Q0w_e n) 66 (L tab) := EK.shp (fun _ _ _ => rfl) fun ρ K y c e => EK.run (Q0w_Sok n) (by kernel_rfl) (MF.LKOK.of (LK.of (l := []) (by kernel_rfl) ((fun _ h => nomatch h)))) (Q0w_k (Q0w_g n) n _ _ _ K) (by kernel_rfl) e
end Go.Rv
namespace Go.Rv
abbrev Qo_T : Type 1 := (ρ : Type) → Bool → Bool → Rows → Bool → Bool → Rows → (Int → Bool → Option ρ) → Option ρ
def Qo_E (G : Qo_T) : EK := fun ρ args K => decL [.lst none none 2 none, .lst none none 1 none] args fun c => G ρ c.1.1 c.1.2.1 c.1.2.2 c.2.1.1 c.2.1.2.1 c.2.1.2.2 (fun w0 w1 => K ⟨.tup [.i .u64 w0, .b w1], [], []⟩)
structure Qo_G where
 mk ::
 Q0w : Q0w_T
 tag_Field_mask : tag_Field_mask_T
abbrev Qo_l5_V : Type := Int × Int
noncomputable def Qo_l5_s (G : Qo_G) {ρ : Type} (_n : Nat) (_p0 _p1 : Bool) (p2 : Rows) (_p3 _p4 : Bool) (p5 : Rows) (p6 : Int) (k0 : (Int → Option ρ)) (k1 : (Int → Option ρ)) (rec' : Qo_l5_V → Option ρ) : Qo_l5_V → Option ρ
 | v =>
 bif decide ((v.2 : Int) < p6) then
 rowT [.i .i64, .i .i64] p5 v.2 fun c0 =>
 rowT [.i .u64] p2 v.2 fun c1 =>
 G.tag_Field_mask ρ c0.1 c0.2.1 (fun w2_0 =>
 chk (decide (0 ≤ (c0.1 : Int))) <|
 bif decide ((c1.1 : Int) > ((w2_0 : Int).fdiv (2 ^ (min c0.1.toNat (IntKind.bits .u64))))) then
 k0 v.1
 else rowT [.i .u64] p2 v.2 fun c3 =>
 chk (decide (0 ≤ (c0.1 : Int))) <|
 rec' ((IntKind.wrap .u64 (BitVec.ofInt (IntKind.bits .u64) v.1 ||| BitVec.ofInt (IntKind.bits .u64) (IntKind.wrap .u64 ((c3.1 : Int) * 2 ^ (min c0.1.toNat (IntKind.bits .u64))))).toNat), (IntKind.wrap .i64 (v.2 + 1))))
 else k1 v.1
noncomputable def Qo_l5 (G : Qo_G) {ρ : Type} (n : Nat) (p0 p1 : Bool) (p2 : Rows) (p3 p4 : Bool) (p5 : Rows) (p6 : Int) (k0 : (Int → Option ρ)) (k1 : (Int → Option ρ)) (v : Qo_l5_V) : Option ρ := fuelN (Qo_l5_s G n p0 p1 p2 p3 p4 p5 p6 k0 k1) n v
def Qo_l5_enc (p0 p1 : Bool) (p2 : Rows) (p3 p4 : Bool) (p5 : Rows) (p6 : Int) : Qo_l5_V → St
 | v => ⟨[(1, .lst p0 p1 1 p2), (6, .i .u64 v.1), (19, .lst p3 p4 2 p5), (20, .i .i64 p6), (21, .i .i64 v.2)], []⟩
noncomputable def Qo_s (G : Qo_G) {ρ : Type} (n : Nat) (a0 a1 : Bool) (a2 : Rows) (a3 a4 : Bool) (a5 : Rows) (k0 : (Int → Bool → Option ρ)) : Option ρ :=
 G.Q0w ρ a0 a1 a2 (fun w0_0 =>
 bif w0_0 then
 bif (((((List.length (a2 : Rows)) : Nat) : Int) : Int) != (((List.length (a5 : Rows)) : Nat) : Int)) then
 k0 0 false
 else Qo_l5 G n a3 a4 a5 a0 a1 a2 (((List.length (a2 : Rows)) : Nat) : Int) (fun _w1_0 =>
 k0 0 false) (fun w2_0 =>
 k0 w2_0 true) (0, 0)
 else k0 0 false)
noncomputable def Qo_g (n : Nat) : Qo_G := ⟨Q0w n, tag_Field_mask n⟩
noncomputable def Qo (n : Nat) : Qo_T := fun _ρ a0 a1 a2 a3 a4 a5 k0 => Qo_s (Qo_g n) n a0 a1 a2 a3 a4 a5 k0
noncomputable def Qo_e (n : Nat) : EK := Qo_E (Qo n)
def Qo_S (G : Qo_G) : CK := tabS [(66, Q0w_E G.Q0w), (67, tag_Field_mask_E G.tag_Field_mask)]
theorem Qo_Sok (n : Nat) : CK.OK (Qo_S (Qo_g n)) (L tab) := tabS_ok _ (List.forall_mem_cons.2 ⟨(Q0w_ok n), List.forall_mem_cons.2 ⟨(tag_Field_mask_ok n), (fun _ h => nomatch h)⟩⟩)
def Qo_hs : HintC := hintL [(24, [.i .i64, .i .i64]), (28, [.i .u64]), (39, [.i .u64])]
def Qo_c5 : Nat × List Nat × List Nat × MC := loopAt 5 m61
noncomputable def Qo_l5_d (G : Qo_G) (n : Nat) : Go.Rv.LE := fun _ρ h K => decSt [(1, .lst none none 1 none), (6, .i .u64 none), (19, .lst none none 2 none), (20, .i .i64 none), (21, .i .i64 none)] [] h fun a _b => Qo_l5 G n a.1.1 a.1.2.1 a.1.2.2 a.2.2.1.1 a.2.2.1.2.1 a.2.2.1.2.2 a.2.2.2.1 (fun w0 => K .ret ⟨[(4, .i .u64 0), (5, .b false), (6, .i .u64 w0)], []⟩) (fun w0 => K (.exit 0) ⟨[(4, .u), (5, .u), (6, .i .u64 w0)], []⟩) (a.2.1, a.2.2.2.2.1)
noncomputable def Qo_d5 (G : Qo_G) (n : Nat) : Go.Rv.LE := Qo_l5_d G n
noncomputable def Qo_lp (G : Qo_G) (n : Nat) : LK := tabL [(5, Qo_d5 G n)]
theorem Qo_l5_k (G : Qo_G) {ρ : Type} (n : Nat) (p0 p1 : Bool) (p2 : Rows) (p3 p4 : Bool) (p5 : Rows) (p6 : Int) (K : Ex → St → Option ρ) (N : St → Option ρ) : ∀ v, roundC (Qo_S G) Qo_hs (Qo_lp G n) Qo_c5 0 N K (Qo_l5_enc p0 p1 p2 p3 p4 p5 p6 v) = Qo_l5_s G n p0 p1 p2 p3 p4 p5 p6 (fun w0 => K .ret ⟨[(4, .i .u64 0), (5, .b false), (6, .i .u64 w0)], []⟩) (fun w0 => K (.exit 0) ⟨[(4, .u), (5, .u), (6, .i .u64 w0)], []⟩) (fun v => N (Qo_l5_enc p0 p1 p2 p3 p4 p5 p6 v)) v
 | v => by kernel_rfl
theorem Qo_l5_dok (n : Nat) : LE.OK (Qo_l5_d (Qo_g n) n) (L tab) Qo_c5 := LE.shp (fun _ _ _ => rfl) fun ρ K y a b e => LE.rounds (Qo_Sok n) (LK.of (l := []) (by kernel_rfl) ((fun _ h => nomatch h))) (Qo_l5_k (Qo_g n) n _ _ _ _ _ _ _ K) (by kernel_rfl) (by kernel_rfl) e
theorem Qo_d5_ok (n : Nat) : LE.OK (Qo_d5 (Qo_g n) n) (L tab) Qo_c5 := Qo_l5_dok n
theorem Qo_k (G : Qo_G) {ρ : Type} (n : Nat) (a0 a1 : Bool) (a2 : Rows) (a3 a4 : Bool) (a5 : Rows) (K : Res → Option ρ) : runC (Qo_S G) Qo_hs (Qo_lp G n) m61 [.lst a0 a1 2 a2, .lst a3 a4 1 a5] K = Qo_s G n a0 a1 a2 a3 a4 a5 (fun w0 w1 => K ⟨.tup [.i .u64 w0, .b w1], [], []⟩) := by kernel_rfl
theorem Qo_ok (n : Nat) : EK.OK (Qo_e n) 61 (L tab) := EK.shp (fun _ _ _ => rfl) fun ρ K y c e => EK.run (Qo_Sok n) (by kernel_rfl) (MF.LKOK.of (LK.of (l := [Qo_c5]) (by kernel_rfl) (List.forall_mem_cons.2 ⟨LE.at (e := Qo_d5 (Qo_g n) n) (by kernel_rfl) (Qo_d5_ok n), (fun _ h => nomatch h)⟩))) (Qo_k (Qo_g n) n _ _ _ _ _ _ K) (by kernel_rfl) e
abbrev Q0h_T : Type 1 := (ρ : Type) → Int → Int → Int → Int → (Int → Bool → Option ρ) → Option ρ
def Q0h_E (G : Q0h_T) : EK := fun ρ args K => decL [.agg [.i .i64 none, .i .i64 none, .i .i64 none, .i .i64 none]] args fun c => G ρ c.1.1 c.1.2.1 c.1.2.2.1 c.1.2.2.2.1 (fun w0 w1 => K ⟨.tup [.i .u64 w0, .b w1], [], []⟩)
structure Q0h_G where
 mk ::
 Qs : Qs_T
 cap_fields : cap_fields_T
 Qo : Qo_T
noncomputable def Q0h_s (G : Q0h_G) {ρ : Type} (_n : Nat) (a0 a1 : Int) (a2 a3 : Int) (k0 : (Int → Bool → Option ρ)) : Option ρ :=
 G.Qs ρ a0 a1 a2 a3 (fun w0_0 =>
 bif w0_0 then
 G.cap_fields ρ (G.Qo ρ false false ([[.i .i64 0, .i .i64 8], [.i .i64 8, .i .i64 8], [.i .i64 16, .i .i64 16], [.i .i64 32, .i .i64 16]]) false false ([[.i .u64 (IntKind.wrap .u64 (a0))], [.i .u64 (IntKind.wrap .u64 (a2))], [.i .u64 (IntKind.wrap .u64 (a3))], [.i .u64 (IntKind.wrap .u64 (a1))]]) (fun w2_0 w2_1 =>
 bif w2_1 then
 k0 w2_0 true
 else k0 w2_0 false))
 else k0 0 false)
noncomputable def Q0h_g (n : Nat) : Q0h_G := ⟨Qs n, cap_fields n, Qo n⟩
noncomputable def Q0h (n : Nat) : Q0h_T := fun _ρ a0 a1 a2 a3 k0 => Q0h_s (Q0h_g n) n a0 a1 a2 a3 k0
noncomputable def Q0h_e (n : Nat) : EK := Q0h_E (Q0h n)
def Q0h_S (G : Q0h_G) : CK := tabS [(40, Qs_E G.Qs), (38, cap_fields_E G.cap_fields), (61, Qo_E G.Qo)]
theorem Q0h_Sok (n : Nat) : CK.OK (Q0h_S (Q0h_g n)) (L tab) := tabS_ok _ (List.forall_mem_cons.2 ⟨(Qs_ok n), List.forall_mem_cons.2 ⟨(cap_fields_ok n), List.forall_mem_cons.2 ⟨(Qo_ok n), (fun _ h => nomatch h)⟩⟩⟩)
def Q0h_hs : HintC := hintL []
noncomputable def Q0h_lp (_G : Q0h_G) (_n : Nat) : LK := tabL []
theorem Q0h_k (G : Q0h_G) {ρ : Type} (n : Nat) (a0 a1 : Int) (a2 a3 : Int) (K : Res → Option ρ) : runC (Q0h_S G) Q0h_hs (Q0h_lp G n) m33 [.agg [.i .i64 a0, .i .i64 a1, .i .i64 a2, .i .i64 a3]] K = Q0h_s G n a0 a1 a2 a3 (fun w0 w1 => K ⟨.tup [.i .u64 w0, .b w1], [], []⟩) := by kernel_rfl
theorem Q0h_ok (n : Nat) : EK.OK (Q0h_e n) 33 (L tab) := EK.shp (fun _ _ _ => rfl) fun ρ K y c e => EK.run (Q0h_Sok n) (by kernel_rfl) (MF.LKOK.of (LK.of (l := []) (by kernel_rfl) ((fun _ h => nomatch h)))) (Q0h_k (Q0h_g n) n _ _ _ _ K) (by kernel_rfl) e
abbrev Qj_T : Type 1 := (ρ : Type) → Bool → Bool → Rows → Int → (Int → Option ρ) → Option ρ
def Qj_E (G : Qj_T) : EK := fun ρ args K => decL [.agg [.lst none none 1 none], .i .i64 none] args fun c => G ρ c.1.1.1 c.1.1.2.1 c.1.1.2.2 c.2.1 (fun w0 => K ⟨.i .i64 w0, [], []⟩)
structure Qj_G where
 mk ::
 Q03 : Q03_T
abbrev Qj_l5_V : Type := Int × Int
noncomputable def Qj_l5_s (_G : Qj_G) {ρ : Type} (_n : Nat) (_p1 _p2 : Bool) (p3 : Rows) (k0 : (Int → Option ρ)) (rec' : Qj_l5_V → Option ρ) : Qj_l5_V → Option ρ
 | v =>
 bif ((v.2 : Int) != (-1)) then
 rowT [.i .i64] p3 v.2 fun c0 =>
 rec' ((IntKind.wrap .i64 (v.1 + 1)), c0.1)
 else k0 v.1
noncomputable def Qj_l5 (G : Qj_G) {ρ : Type} (n : Nat) (p1 p2 : Bool) (p3 : Rows) (k0 : (Int → Option ρ)) (v : Qj_l5_V) : Option ρ := fuelN (Qj_l5_s G n p1 p2 p3 k0) n v
def Qj_l5_enc (p1 p2 : Bool) (p3 : Rows) : Qj_l5_V → St
 | v => ⟨[(2, .ptr 0 1 1 0 0), (5, .i .i64 v.1), (6, .i .i64 v.2)], [.row 1 true false [[.lst p1 p2 1 p3]]]⟩
noncomputable def Qj_s (G : Qj_G) {ρ : Type} (n : Nat) (a0 a1 : Bool) (a2 : Rows) (a3 : Int) (k0 : (Int → Option ρ)) : Option ρ :=
 G.Q03 ρ a0 a1 a2 a3 (fun w0_0 =>
 bif w0_0 then
 rowT [.i .i64] a2 a3 fun c1 =>
 Qj_l5 G n a0 a1 a2 (fun w2_0 =>
 k0 w2_0) (0, c1.1)
 else k0 (-1))
noncomputable def Qj_g (n : Nat) : Qj_G := ⟨Q03 n⟩
noncomputable def Qj (n : Nat) : Qj_T := fun _ρ a0 a1 a2 a3 k0 => Qj_s (Qj_g n) n a0 a1 a2 a3 k0
noncomputable def Qj_e (n : Nat) : EK := Qj_E (Qj n)
def Qj_S (G : Qj_G) : CK := tabS [(62, Q03_E G.Q03)]
theorem Qj_Sok (n : Nat) : CK.OK (Qj_S (Qj_g n)) (L tab) := tabS_ok _ (List.forall_mem_cons.2 ⟨(Q03_ok n), (fun _ h => nomatch h)⟩)
def Qj_hs : HintC := hintL [(14, [.i .i64]), (21, [.i .i64])]
def Qj_c5 : Nat × List Nat × List Nat × MC := loopAt 5 m34
noncomputable def Qj_l5_d (G : Qj_G) (n : Nat) : Go.Rv.LE := fun _ρ h K => decSt [(2, .ptr 0 1 0 (some 1) (some 0)), (5, .i .i64 none), (6, .i .i64 none)] [.row 1 true false (some [[.lst none none 1 none]])] h fun a b => Qj_l5 G n b.1.1.1.1 b.1.1.1.2.1 b.1.1.1.2.2 (fun w0 => K (.exit 0) ⟨[(5, .i .i64 w0)], [.row 1 true false [[.lst b.1.1.1.1 b.1.1.1.2.1 1 b.1.1.1.2.2]]]⟩) (a.2.1, a.2.2.1)
noncomputable def Qj_d5 (G : Qj_G) (n : Nat) : Go.Rv.LE := Qj_l5_d G n
noncomputable def Qj_lp (G : Qj_G) (n : Nat) : LK := tabL [(5, Qj_d5 G n)]
theorem Qj_l5_k (G : Qj_G) {ρ : Type} (n : Nat) (p1 p2 : Bool) (p3 : Rows) (K : Ex → St → Option ρ) (N : St → Option ρ) : ∀ v, roundC (Qj_S G) Qj_hs (Qj_lp G n) Qj_c5 1 N K (Qj_l5_enc p1 p2 p3 v) = Qj_l5_s G n p1 p2 p3 (fun w0 => K (.exit 0) ⟨[(5, .i .i64 w0)], [.row 1 true false [[.lst p1 p2 1 p3]]]⟩) (fun v => N (Qj_l5_enc p1 p2 p3 v)) v
 | v => by kernel_rfl
theorem Qj_l5_dok (n : Nat) : LE.OK (Qj_l5_d (Qj_g n) n) (L tab) Qj_c5 := LE.shp (fun _ _ _ => rfl) fun ρ K y a b e => LE.rounds (Qj_Sok n) (LK.of (l := []) (by kernel_rfl) ((fun _ h => nomatch h))) (Qj_l5_k (Qj_g n) n _ _ _ K) (by kernel_rfl) (by kernel_rfl) e
theorem Qj_d5_ok (n : Nat) : LE.OK (Qj_d5 (Qj_g n) n) (L tab) Qj_c5 := Qj_l5_dok n
theorem Qj_k (G : Qj_G) {ρ : Type} (n : Nat) (a0 a1 : Bool) (a2 : Rows) (a3 : Int) (K : Res → Option ρ) : runC (Qj_S G) Qj_hs (Qj_lp G n) m34 [.agg [.lst a0 a1 1 a2], .i .i64 a3] K = Qj_s G n a0 a1 a2 a3 (fun w0 => K ⟨.i .i64 w0, [], []⟩) := by kernel_rfl
theorem Qj_ok (n : Nat) : EK.OK (Qj_e n) 34 (L tab) := EK.shp (fun _ _ _ => rfl) fun ρ K y c e => EK.run (Qj_Sok n) (by kernel_rfl) (MF.LKOK.of (LK.of (l := [Qj_c5]) (by kernel_rfl) (List.forall_mem_cons.2 ⟨LE.at (e := Qj_d5 (Qj_g n) n) (by kernel_rfl) (Qj_d5_ok n), (fun _ h => nomatch h)⟩))) (Qj_k (Qj_g n) n _ _ _ _ K) (by kernel_rfl) e
abbrev Qv_T : Type 1 := (ρ : Type) → Int → Int → Int → Bool → Bool → Rows → Bool → Bool → Rows → Int → Int → Bool → Bool → Rows → Bool → Bool → Int → Int → Int → (Bool → Bool → Rows → Bool → Bool → Rows → Int → Int → Int → Option ρ) → Option ρ
def Qv_E (G : Qv_T) : EK := fun ρ args K => decL [.agg [.i .i64 none, .i .i64 none, .i .i64 none, .lst none none 5 none, .lst none none 13 none], .i .i64 none, .agg [.i .i64 none, .lst none none 1 none, .lst none none 0 (some []), .i .i64 none, .i .i64 none, .i .u64 none]] args fun c => G ρ c.1.1 c.1.2.1 c.1.2.2.1 c.1.2.2.2.1.1 c.1.2.2.2.1.2.1 c.1.2.2.2.1.2.2 c.1.2.2.2.2.1.1 c.1.2.2.2.2.1.2.1 c.1.2.2.2.2.1.2.2 c.2.1 c.2.2.1.1 c.2.2.1.2.1.1 c.2.2.1.2.1.2.1 c.2.2.1.2.1.2.2 c.2.2.1.2.2.1.1 c.2.2.1.2.2.1.2.1 c.2.2.1.2.2.2.1 c.2.2.1.2.2.2.2.1 c.2.2.1.2.2.2.2.2.1 (fun w0 w1 w2 w3 w4 w5 w6 w7 w8 => K ⟨.tup [.agg [.i .i64 c.1.1, .i .i64 c.1.2.1, .i .i64 c.1.2.2.1, .lst w0 w1 5 w2, .lst w3 w4 13 w5], .agg [.i .i64 w6, .i .u64 w7, .i .i64 w8]], [], []⟩)
structure Qv_G where
 mk ::
 Q07 : Q07_T
 Qt : Qt_T
 Q0h : Q0h_T
 Q8 : Q8_T
 Qj : Qj_T
 Qr : Qr_T
 Qu : Qu_T
noncomputable def Qv_s (G : Qv_G) {ρ : Type} (_n : Nat) (a0 a1 a2 : Int) (a3 a4 : Bool) (a5 : Rows) (a6 a7 : Bool) (a8 : Rows) (a9 a10 : Int) (a11 a12 : Bool) (a13 : Rows) (a14 a15 : Bool) (a16 a17 a18 : Int) (k0 : (Bool → Bool → Rows → Bool → Bool → Rows → Int → Int → Int → Option ρ)) : Option ρ :=
 G.Q07 ρ a10 a11 a12 a13 a14 a15 a16 a17 a18 (fun w0_0 =>
 bif w0_0 then
 bif ((a10 : Int) != 11) then
 bif ((a10 : Int) != 12) then
 bif ((a10 : Int) != 13) then
 k0 a3 a4 a5 a6 a7 a8 1 0 0
 else G.Qt ρ a0 a1 a2 a3 a4 a5 a6 a7 a8 a9 a11 a12 a13 (fun w1_0 w1_1 w1_2 w1_3 w1_4 w1_5 =>
 bif ((w1_5 : Int) != 0) then
 k0 a3 a4 a5 a6 a7 a8 w1_5 0 0
 else bif ((a10 : Int) == 13) then
 G.Q0h ρ w1_1 w1_2 w1_3 w1_4 (fun w2_0 w2_1 =>
 bif w2_1 then
 G.Q8 ρ a0 a1 a2 a3 a4 a5 a6 a7 a8 (fun w3_0 w3_1 w3_2 =>
 G.Qj ρ w3_0 w3_1 w3_2 w1_0 (fun w4_0 =>
 k0 a3 a4 a5 a6 a7 a8 0 w2_0 w4_0))
 else G.Q8 ρ a0 a1 a2 a3 a4 a5 a6 a7 a8 (fun w5_0 w5_1 w5_2 =>
 G.Qj ρ w5_0 w5_1 w5_2 w1_0 (fun w6_0 =>
 k0 a3 a4 a5 a6 a7 a8 0 w2_0 w6_0)))
 else bif ((a10 : Int) == 12) then
 bif ((w1_1 : Int) != 5) then
 k0 a3 a4 a5 a6 a7 a8 7 0 0
 else G.Qr ρ 1 w1_3 (fun w7_0 =>
 bif w7_0 then
 bif ((a10 : Int) == 12) then
 rowT [.i .i64, .i .i64, .i .i64, .i .i64, .i .i64, .i .i64, .i .i64, .b, .i .u64, .i .u64, .i .u64, .i .u64, .i .u64] a8 w1_2 fun c8 =>
 bif ((a16 : Int) == 0) then
 k0 a3 a4 a5 a6 a7 a8 0 c8.2.2.2.2.2.2.2.2.2.1 0
 else bif ((a16 : Int) == 1) then
 k0 a3 a4 a5 a6 a7 a8 0 c8.2.2.2.2.2.2.2.2.2.2.1 0
 else bif ((a16 : Int) == 2) then
 k0 a3 a4 a5 a6 a7 a8 0 c8.2.2.2.2.2.2.2.2.2.2.2.1 0
 else bif ((a16 : Int) == 3) then
 k0 a3 a4 a5 a6 a7 a8 0 c8.2.2.2.2.2.2.2.2.2.2.2.2.1 0
 else none
 else G.Qu ρ a0 a1 a2 a3 a4 a5 a6 a7 a8 (none) (fun w10_0 w10_1 w10_2 =>
 chk (decide ((0 : Int) ≤ w1_2)) <|
 chk (decide ((w1_2 : Int) < ((w10_1 : Nat) : Int))) <|
 bif ((a16 : Int) == 0) then
 chk (((List.length (w10_2 : Rows)) : Nat) == w10_0) <|
 rowN [.a, .a, .a, .a, .a, .a, .a, .a, .a, .a, .a, .a, .a] w10_2 (0 + w1_2.toNat) fun c11 =>
 chk (((List.length ((List.set (w10_2 : Rows) (0 + w1_2.toNat) [c11.1, c11.2.1, c11.2.2.1, c11.2.2.2.1, c11.2.2.2.2.1, c11.2.2.2.2.2.1, c11.2.2.2.2.2.2.1, c11.2.2.2.2.2.2.2.1, c11.2.2.2.2.2.2.2.2.1, .i .u64 a18, c11.2.2.2.2.2.2.2.2.2.2.1, c11.2.2.2.2.2.2.2.2.2.2.2.1, c11.2.2.2.2.2.2.2.2.2.2.2.2.1]) : Rows)) : Nat) == w10_0) <|
 k0 true true [] false false (List.take w10_1 (List.drop 0 ((List.set (w10_2 : Rows) (0 + w1_2.toNat) [c11.1, c11.2.1, c11.2.2.1, c11.2.2.2.1, c11.2.2.2.2.1, c11.2.2.2.2.2.1, c11.2.2.2.2.2.2.1, c11.2.2.2.2.2.2.2.1, c11.2.2.2.2.2.2.2.2.1, .i .u64 a18, c11.2.2.2.2.2.2.2.2.2.2.1, c11.2.2.2.2.2.2.2.2.2.2.2.1, c11.2.2.2.2.2.2.2.2.2.2.2.2.1]) : Rows))) 0 0 0
 else bif ((a16 : Int) == 1) then
 chk (((List.length (w10_2 : Rows)) : Nat) == w10_0) <|
 rowN [.a, .a, .a, .a, .a, .a, .a, .a, .a, .a, .a, .a, .a] w10_2 (0 + w1_2.toNat) fun c12 =>
 chk (((List.length ((List.set (w10_2 : Rows) (0 + w1_2.toNat) [c12.1, c12.2.1, c12.2.2.1, c12.2.2.2.1, c12.2.2.2.2.1, c12.2.2.2.2.2.1, c12.2.2.2.2.2.2.1, c12.2.2.2.2.2.2.2.1, c12.2.2.2.2.2.2.2.2.1, c12.2.2.2.2.2.2.2.2.2.1, .i .u64 a18, c12.2.2.2.2.2.2.2.2.2.2.2.1, c12.2.2.2.2.2.2.2.2.2.2.2.2.1]) : Rows)) : Nat) == w10_0) <|
 k0 true true [] false false (List.take w10_1 (List.drop 0 ((List.set (w10_2 : Rows) (0 + w1_2.toNat) [c12.1, c12.2.1, c12.2.2.1, c12.2.2.2.1, c12.2.2.2.2.1, c12.2.2.2.2.2.1, c12.2.2.2.2.2.2.1, c12.2.2.2.2.2.2.2.1, c12.2.2.2.2.2.2.2.2.1, c12.2.2.2.2.2.2.2.2.2.1, .i .u64 a18, c12.2.2.2.2.2.2.2.2.2.2.2.1, c12.2.2.2.2.2.2.2.2.2.2.2.2.1]) : Rows))) 0 0 0
 else bif ((a16 : Int) == 2) then
 chk (((List.length (w10_2 : Rows)) : Nat) == w10_0) <|
 rowN [.a, .a, .a, .a, .a, .a, .a, .a, .a, .a, .a, .a, .a] w10_2 (0 + w1_2.toNat) fun c13 =>
 chk (((List.length ((List.set (w10_2 : Rows) (0 + w1_2.toNat) [c13.1, c13.2.1, c13.2.2.1, c13.2.2.2.1, c13.2.2.2.2.1, c13.2.2.2.2.2.1, c13.2.2.2.2.2.2.1, c13.2.2.2.2.2.2.2.1, c13.2.2.2.2.2.2.2.2.1, c13.2.2.2.2.2.2.2.2.2.1, c13.2.2.2.2.2.2.2.2.2.2.1, .i .u64 a18, c13.2.2.2.2.2.2.2.2.2.2.2.2.1]) : Rows)) : Nat) == w10_0) <|
 k0 true true [] false false (List.take w10_1 (List.drop 0 ((List.set (w10_2 : Rows) (0 + w1_2.toNat) [c13.1, c13.2.1, c13.2.2.1, c13.2.2.2.1, c13.2.2.2.2.1, c13.2.2.2.2.2.1, c13.2.2.2.2.2.2.1, c13.2.2.2.2.2.2.2.1, c13.2.2.2.2.2.2.2.2.1, c13.2.2.2.2.2.2.2.2.2.1, c13.2.2.2.2.2.2.2.2.2.2.1, .i .u64 a18, c13.2.2.2.2.2.2.2.2.2.2.2.2.1]) : Rows))) 0 0 0
 else bif ((a16 : Int) == 3) then
 chk (((List.length (w10_2 : Rows)) : Nat) == w10_0) <|
 rowN [.a, .a, .a, .a, .a, .a, .a, .a, .a, .a, .a, .a, .a] w10_2 (0 + w1_2.toNat) fun c14 =>
 chk (((List.length ((List.set (w10_2 : Rows) (0 + w1_2.toNat) [c14.1, c14.2.1, c14.2.2.1, c14.2.2.2.1, c14.2.2.2.2.1, c14.2.2.2.2.2.1, c14.2.2.2.2.2.2.1, c14.2.2.2.2.2.2.2.1, c14.2.2.2.2.2.2.2.2.1, c14.2.2.2.2.2.2.2.2.2.1, c14.2.2.2.2.2.2.2.2.2.2.1, c14.2.2.2.2.2.2.2.2.2.2.2.1, .i .u64 a18]) : Rows)) : Nat) == w10_0) <|
 k0 true true [] false false (List.take w10_1 (List.drop 0 ((List.set (w10_2 : Rows) (0 + w1_2.toNat) [c14.1, c14.2.1, c14.2.2.1, c14.2.2.2.1, c14.2.2.2.2.1, c14.2.2.2.2.2.1, c14.2.2.2.2.2.2.1, c14.2.2.2.2.2.2.2.1, c14.2.2.2.2.2.2.2.2.1, c14.2.2.2.2.2.2.2.2.2.1, c14.2.2.2.2.2.2.2.2.2.2.1, c14.2.2.2.2.2.2.2.2.2.2.2.1, .i .u64 a18]) : Rows))) 0 0 0
 else none) (fun _w15_0 _w15_1 _w15_2 =>
 none) (fun w16_0 w16_1 w16_2 w16_3 w16_4 w16_5 =>
 chk (decide ((0 : Int) ≤ w1_2)) <|
 chk (decide ((w1_2 : Int) < ((w16_3 : Nat) : Int))) <|
 bif ((a16 : Int) == 0) then
 chk (((List.length (w16_5 : Rows)) : Nat) == w16_2) <|
 rowN [.a, .a, .a, .a, .a, .a, .a, .a, .a, .a, .a, .a, .a] w16_5 (0 + w1_2.toNat) fun c17 =>
 chk (((List.length (w16_4 : Rows)) : Nat) == w16_0) <|
 chk (((List.length ((List.set (w16_5 : Rows) (0 + w1_2.toNat) [c17.1, c17.2.1, c17.2.2.1, c17.2.2.2.1, c17.2.2.2.2.1, c17.2.2.2.2.2.1, c17.2.2.2.2.2.2.1, c17.2.2.2.2.2.2.2.1, c17.2.2.2.2.2.2.2.2.1, .i .u64 a18, c17.2.2.2.2.2.2.2.2.2.2.1, c17.2.2.2.2.2.2.2.2.2.2.2.1, c17.2.2.2.2.2.2.2.2.2.2.2.2.1]) : Rows)) : Nat) == w16_2) <|
 k0 false false (List.take w16_1 (List.drop 0 (w16_4 : Rows))) false false (List.take w16_3 (List.drop 0 ((List.set (w16_5 : Rows) (0 + w1_2.toNat) [c17.1, c17.2.1, c17.2.2.1, c17.2.2.2.1, c17.2.2.2.2.1, c17.2.2.2.2.2.1, c17.2.2.2.2.2.2.1, c17.2.2.2.2.2.2.2.1, c17.2.2.2.2.2.2.2.2.1, .i .u64 a18, c17.2.2.2.2.2.2.2.2.2.2.1, c17.2.2.2.2.2.2.2.2.2.2.2.1, c17.2.2.2.2.2.2.2.2.2.2.2.2.1]) : Rows))) 0 0 0
 else bif ((a16 : Int) == 1) then
 chk (((List.length (w16_5 : Rows)) : Nat) == w16_2) <|
 rowN [.a, .a, .a, .a, .a, .a, .a, .a, .a, .a, .a, .a, .a] w16_5 (0 + w1_2.toNat) fun c18 =>
 chk (((List.length (w16_4 : Rows)) : Nat) == w16_0) <|
 chk (((List.length ((List.set (w16_5 : Rows) (0 + w1_2.toNat) [c18.1, c18.2.1, c18.2.2.1, c18.2.2.2.1, c18.2.2.2.2.1, c18.2.2.2.2.2.1, c18.2.2.2.2.2.2.1, c18.2.2.2.2.2.2.2.1, c18.2.2.2.2.2.2.2.2.1, c18.2.2.2.2.2.2.2.2.2.1, .i .u64 a18, c18.2.2.2.2.2.2.2.2.2.2.2.1, c18.2.2.2.2.2.2.2.2.2.2.2.2.1]) : Rows)) : Nat) == w16_2) <|
 k0 false false (List.take w16_1 (List.drop 0 (w16_4 : Rows))) false false (List.take w16_3 (List.drop 0 ((List.set (w16_5 : Rows) (0 + w1_2.toNat) [c18.1, c18.2.1, c18.2.2.1, c18.2.2.2.1, c18.2.2.2.2.1, c18.2.2.2.2.2.1, c18.2.2.2.2.2.2.1, c18.2.2.2.2.2.2.2.1, c18.2.2.2.2.2.2.2.2.1, c18.2.2.2.2.2.2.2.2.2.1, .i .u64 a18, c18.2.2.2.2.2.2.2.2.2.2.2.1, c18.2.2.2.2.2.2.2.2.2.2.2.2.1]) : Rows))) 0 0 0
 else bif ((a16 : Int) == 2) then
 chk (((List.length (w16_5 : Rows)) : Nat) == w16_2) <|
 rowN [.a, .a, .a, .a, .a, .a, .a, .a, .a, .a, .a, .a, .a] w16_5 (0 + w1_2.toNat) fun c19 =>
 chk (((List.length (w16_4 : Rows)) : Nat) == w16_0) <|
 chk (((List.length ((List.set (w16_5 : Rows) (0 + w1_2.toNat) [c19.1, c19.2.1, c19.2.2.1, c19.2.2.2.1, c19.2.2.2.2.1, c19.2.2.2.2.2.1, c19.2.2.2.2.2.2.1, c19.2.2.2.2.2.2.2.1, c19.2.2.2.2.2.2.2.2.1, c19.2.2.2.2.2.2.2.2.2.1, c19.2.2.2.2.2.2.2.2.2.2.1, .i .u64 a18, c19.2.2.2.2.2.2.2.2.2.2.2.2.1]) : Rows)) : Nat) == w16_2) <|
 k0 false false (List.take w16_1 (List.drop 0 (w16_4 : Rows))) false false (List.take w16_3 (List.drop 0 ((List.set (w16_5 : Rows) (0 + w1_2.toNat) [c19.1, c19.2.1, c19.2.2.1, c19.2.2.2.1, c19.2.2.2.2.1, c19.2.2.2.2.2.1, c19.2.2.2.2.2.2.1, c19.2.2.2.2.2.2.2.1, c19.2.2.2.2.2.2.2.2.1, c19.2.2.2.2.2.2.2.2.2.1, c19.2.2.2.2.2.2.2.2.2.2.1, .i .u64 a18, c19.2.2.2.2.2.2.2.2.2.2.2.2.1]) : Rows))) 0 0 0
 else bif ((a16 : Int) == 3) then
 chk (((List.length (w16_5 : Rows)) : Nat) == w16_2) <|
 rowN [.a, .a, .a, .a, .a, .a, .a, .a, .a, .a, .a, .a, .a] w16_5 (0 + w1_2.toNat) fun c20 =>
 chk (((List.length (w16_4 : Rows)) : Nat) == w16_0) <|
 chk (((List.length ((List.set (w16_5 : Rows) (0 + w1_2.toNat) [c20.1, c20.2.1, c20.2.2.1, c20.2.2.2.1, c20.2.2.2.2.1, c20.2.2.2.2.2.1, c20.2.2.2.2.2.2.1, c20.2.2.2.2.2.2.2.1, c20.2.2.2.2.2.2.2.2.1, c20.2.2.2.2.2.2.2.2.2.1, c20.2.2.2.2.2.2.2.2.2.2.1, c20.2.2.2.2.2.2.2.2.2.2.2.1, .i .u64 a18]) : Rows)) : Nat) == w16_2) <|
 k0 false false (List.take w16_1 (List.drop 0 (w16_4 : Rows))) false false (List.take w16_3 (List.drop 0 ((List.set (w16_5 : Rows) (0 + w1_2.toNat) [c20.1, c20.2.1, c20.2.2.1, c20.2.2.2.1, c20.2.2.2.2.1, c20.2.2.2.2.2.1, c20.2.2.2.2.2.2.1, c20.2.2.2.2.2.2.2.1, c20.2.2.2.2.2.2.2.2.1, c20.2.2.2.2.2.2.2.2.2.1, c20.2.2.2.2.2.2.2.2.2.2.1, c20.2.2.2.2.2.2.2.2.2.2.2.1, .i .u64 a18]) : Rows))) 0 0 0
 else none)
 else k0 a3 a4 a5 a6 a7 a8 6 0 0)
 else bif ((w1_1 : Int) != 5) then
 k0 a3 a4 a5 a6 a7 a8 7 0 0
 else G.Qr ρ 2 w1_3 (fun w21_0 =>
 bif w21_0 then
 bif ((a10 : Int) == 12) then
 rowT [.i .i64, .i .i64, .i .i64, .i .i64, .i .i64, .i .i64, .i .i64, .b, .i .u64, .i .u64, .i .u64, .i .u64, .i .u64] a8 w1_2 fun c22 =>
 bif ((a16 : Int) == 0) then
 k0 a3 a4 a5 a6 a7 a8 0 c22.2.2.2.2.2.2.2.2.2.1 0
 else bif ((a16 : Int) == 1) then
 k0 a3 a4 a5 a6 a7 a8 0 c22.2.2.2.2.2.2.2.2.2.2.1 0
 else bif ((a16 : Int) == 2) then
 k0 a3 a4 a5 a6 a7 a8 0 c22.2.2.2.2.2.2.2.2.2.2.2.1 0
 else bif ((a16 : Int) == 3) then
 k0 a3 a4 a5 a6 a7 a8 0 c22.2.2.2.2.2.2.2.2.2.2.2.2.1 0
 else none
 else G.Qu ρ a0 a1 a2 a3 a4 a5 a6 a7 a8 (none) (fun w24_0 w24_1 w24_2 =>
 chk (decide ((0 : Int) ≤ w1_2)) <|
 chk (decide ((w1_2 : Int) < ((w24_1 : Nat) : Int))) <|
 bif ((a16 : Int) == 0) then
 chk (((List.length (w24_2 : Rows)) : Nat) == w24_0) <|
 rowN [.a, .a, .a, .a, .a, .a, .a, .a, .a, .a, .a, .a, .a] w24_2 (0 + w1_2.toNat) fun c25 =>
 chk (((List.length ((List.set (w24_2 : Rows) (0 + w1_2.toNat) [c25.1, c25.2.1, c25.2.2.1, c25.2.2.2.1, c25.2.2.2.2.1, c25.2.2.2.2.2.1, c25.2.2.2.2.2.2.1, c25.2.2.2.2.2.2.2.1, c25.2.2.2.2.2.2.2.2.1, .i .u64 a18, c25.2.2.2.2.2.2.2.2.2.2.1, c25.2.2.2.2.2.2.2.2.2.2.2.1, c25.2.2.2.2.2.2.2.2.2.2.2.2.1]) : Rows)) : Nat) == w24_0) <|
 k0 true true [] false false (List.take w24_1 (List.drop 0 ((List.set (w24_2 : Rows) (0 + w1_2.toNat) [c25.1, c25.2.1, c25.2.2.1, c25.2.2.2.1, c25.2.2.2.2.1, c25.2.2.2.2.2.1, c25.2.2.2.2.2.2.1, c25.2.2.2.2.2.2.2.1, c25.2.2.2.2.2.2.2.2.1, .i .u64 a18, c25.2.2.2.2.2.2.2.2.2.2.1, c25.2.2.2.2.2.2.2.2.2.2.2.1, c25.2.2.2.2.2.2.2.2.2.2.2.2.1]) : Rows))) 0 0 0
 else bif ((a16 : Int) == 1) then
 chk (((List.length (w24_2 : Rows)) : Nat) == w24_0) <|
 rowN [.a, .a, .a, .a, .a, .a, .a, .a, .a, .a, .a, .a, .a] w24_2 (0 + w1_2.toNat) fun c26 =>
 chk (((List.length ((List.set (w24_2 : Rows) (0 + w1_2.toNat) [c26.1, c26.2.1, c26.2.2.1, c26.2.2.2.1, c26.2.2.2.2.1, c26.2.2.2.2.2.1, c26.2.2.2.2.2.2.1, c26.2.2.2.2.2.2.2.1, c26.2.2.2.2.2.2.2.2.1, c26.2.2.2.2.2.2.2.2.2.1, .i .u64 a18, c26.2.2.2.2.2.2.2.2.2.2.2.1, c26.2.2.2.2.2.2.2.2.2.2.2.2.1]) : Rows)) : Nat) == w24_0) <|
 k0 true true [] false false (List.take w24_1 (List.drop 0 ((List.set (w24_2 : Rows) (0 + w1_2.toNat) [c26.1, c26.2.1, c26.2.2.1, c26.2.2.2.1, c26.2.2.2.2.1, c26.2.2.2.2.2.1, c26.2.2.2.2.2.2.1, c26.2.2.2.2.2.2.2.1, c26.2.2.2.2.2.2.2.2.1, c26.2.2.2.2.2.2.2.2.2.1, .i .u64 a18, c26.2.2.2.2.2.2.2.2.2.2.2.1, c26.2.2.2.2.2.2.2.2.2.2.2.2.1]) : Rows))) 0 0 0
 else bif ((a16 : Int) == 2) then
 chk (((List.length (w24_2 : Rows)) : Nat) == w24_0) <|
 rowN [.a, .a, .a, .a, .a, .a, .a, .a, .a, .a, .a, .a, .a] w24_2 (0 + w1_2.toNat) fun c27 =>
 chk (((List.length ((List.set (w24_2 : Rows) (0 + w1_2.toNat) [c27.1, c27.2.1, c27.2.2.1, c27.2.2.2.1, c27.2.2.2.2.1, c27.2.2.2.2.2.1, c27.2.2.2.2.2.2.1, c27.2.2.2.2.2.2.2.1, c27.2.2.2.2.2.2.2.2.1, c27.2.2.2.2.2.2.2.2.2.1, c27.2.2.2.2.2.2.2.2.2.2.1, .i .u64 a18, c27.2.2.2.2.2.2.2.2.2.2.2.2.1]) : Rows)) : Nat) == w24_0) <|
 k0 true true [] false false (List.take w24_1 (List.drop 0 ((List.set (w24_2 : Rows) (0 + w1_2.toNat) [c27.1, c27.2.1, c27.2.2.1, c27.2.2.2.1, c27.2.2.2.2.1, c27.2.2.2.2.2.1, c27.2.2.2.2.2.2.1, c27.2.2.2.2.2.2.2.1, c27.2.2.2.2.2.2.2.2.1, c27.2.2.2.2.2.2.2.2.2.1, c27.2.2.2.2.2.2.2.2.2.2.1, .i .u64 a18, c27.2.2.2.2.2.2.2.2.2.2.2.2.1]) : Rows))) 0 0 0
 else bif ((a16 : Int) == 3) then
 chk (((List.length (w24_2 : Rows)) : Nat) == w24_0) <|
 rowN [.a, .a, .a, .a, .a, .a, .a, .a, .a, .a, .a, .a, .a] w24_2 (0 + w1_2.toNat) fun c28 =>
 chk (((List.length ((List.set (w24_2 : Rows) (0 + w1_2.toNat) [c28.1, c28.2.1, c28.2.2.1, c28.2.2.2.1, c28.2.2.2.2.1, c28.2.2.2.2.2.1, c28.2.2.2.2.2.2.1, c28.2.2.2.2.2.2.2.1, c28.2.2.2.2.2.2.2.2.1, c28.2.2.2.2.2.2.2.2.2.1, c28.2.2.2.2.2.2.2.2.2.2.1, c28.2.2.2.2.2.2.2.2.2.2.2.1, .i .u64 a18]) : Rows)) : Nat) == w24_0) <|
 k0 true true [] false false (List.take w24_1 (List.drop 0 ((List.set (w24_2 : Rows) (0 + w1_2.toNat) [c28.1, c28.2.1, c28.2.2.1, c28.2.2.2.1, c28.2.2.2.2.1, c28.2.2.2.2.2.1, c28.2.2.2.2.2.2.1, c28.2.2.2.2.2.2.2.1, c28.2.2.2.2.2.2.2.2.1, c28.2.2.2.2.2.2.2.2.2.1, c28.2.2.2.2.2.2.2.2.2.2.1, c28.2.2.2.2.2.2.2.2.2.2.2.1, .i .u64 a18]) : Rows))) 0 0 0
 else none) (fun _w29_0 _w29_1 _w29_2 =>
 none) (fun w30_0 w30_1 w30_2 w30_3 w30_4 w30_5 =>
 chk (decide ((0 : Int) ≤ w1_2)) <|
 chk (decide ((w1_2 : Int) < ((w30_3 : Nat) : Int))) <|
 bif ((a16 : Int) == 0) then
 chk (((List.length (w30_5 : Rows)) : Nat) == w30_2) <|
 rowN [.a, .a, .a, .a, .a, .a, .a, .a, .a, .a, .a, .a, .a] w30_5 (0 + w1_2.toNat) fun c31 =>
 chk (((List.length (w30_4 : Rows)) : Nat) == w30_0) <|
 chk (((List.length ((List.set (w30_5 : Rows) (0 + w1_2.toNat) [c31.1, c31.2.1, c31.2.2.1, c31.2.2.2.1, c31.2.2.2.2.1, c31.2.2.2.2.2.1, c31.2.2.2.2.2.2.1, c31.2.2.2.2.2.2.2.1, c31.2.2.2.2.2.2.2.2.1, .i .u64 a18, c31.2.2.2.2.2.2.2.2.2.2.1, c31.2.2.2.2.2.2.2.2.2.2.2.1, c31.2.2.2.2.2.2.2.2.2.2.2.2.1]) : Rows)) : Nat) == w30_2) <|
 k0 false false (List.take w30_1 (List.drop 0 (w30_4 : Rows))) false false (List.take w30_3 (List.drop 0 ((List.set (w30_5 : Rows) (0 + w1_2.toNat) [c31.1, c31.2.1, c31.2.2.1, c31.2.2.2.1, c31.2.2.2.2.1, c31.2.2.2.2.2.1, c31.2.2.2.2.2.2.1, c31.2.2.2.2.2.2.2.1, c31.2.2.2.2.2.2.2.2.1, .i .u64 a18, c31.2.2.2.2.2.2.2.2.2.2.1, c31.2.2.2.2.2.2.2.2.2.2.2.1, c31.2.2.2.2.2.2.2.2.2.2.2.2.1]) : Rows))) 0 0 0
 else bif ((a16 : Int) == 1) then
 chk (((List.length (w30_5 : Rows)) : Nat) == w30_2) <|
 rowN [.a, .a, .a, .a, .a, .a, .a, .a, .a, .a, .a, .a, .a] w30_5 (0 + w1_2.toNat) fun c32 =>
 chk (((List.length (w30_4 : Rows)) : Nat) == w30_0) <|
 chk (((List.length ((List.set (w30_5 : Rows) (0 + w1_2.toNat) [c32.1, c32.2.1, c32.2.2.1, c32.2.2.2.1, c32.2.2.2.2.1, c32.2.2.2.2.2.1, c32.2.2.2.2.2.2.1, c32.2.2.2.2.2.2.2.1, c32.2.2.2.2.2.2.2.2.1, c32.2.2.2.2.2.2.2.2.2.1, .i .u64 a18, c32.2.2.2.2.2.2.2.2.2.2.2.1, c32.2.2.2.2.2.2.2.2.2.2.2.2.1]) : Rows)) : Nat) == w30_2) <|
 k0 false false (List.take w30_1 (List.drop 0 (w30_4 : Rows))) false false (List.take w30_3 (List.drop 0 ((List.set (w30_5 : Rows) (0 + w1_2.toNat) [c32.1, c32.2.1, c32.2.2.1, c32.2.2.2.1, c32.2.2.2.2.1, c32.2.2.2.2.2.1, c32.2.2.2.2.2.2.1, c32.2.2.2.2.2.2.2.1, c32.2.2.2.2.2.2.2.2.1, c32.2.2.2.2.2.2.2.2.2.1, .i .u64 a18, c32.2.2.2.2.2.2.2.2.2.2.2.1, c32.2.2.2.2.2.2.2.2.2.2.2.2.1]) : Rows))) 0 0 0
 else bif ((a16 : Int) == 2) then
 chk (((List.length (w30_5 : Rows)) : Nat) == w30_2) <|
 rowN [.a, .a, .a, .a, .a, .a, .a, .a, .a, .a, .a, .a, .a] w30_5 (0 + w1_2.toNat) fun c33 =>
 chk (((List.length (w30_4 : Rows)) : Nat) == w30_0) <|
 chk (((List.length ((List.set (w30_5 : Rows) (0 + w1_2.toNat) [c33.1, c33.2.1, c33.2.2.1, c33.2.2.2.1, c33.2.2.2.2.1, c33.2.2.2.2.2.1, c33.2.2.2.2.2.2.1, c33.2.2.2.2.2.2.2.1, c33.2.2.2.2.2.2.2.2.1, c33.2.2.2.2.2.2.2.2.2.1, c33.2.2.2.2.2.2.2.2.2.2.1, .i .u64 a18, c33.2.2.2.2.2.2.2.2.2.2.2.2.1]) : Rows)) : Nat) == w30_2) <|
 k0 false false (List.take w30_1 (List.drop 0 (w30_4 : Rows))) false false (List.take w30_3 (List.drop 0 ((List.set (w30_5 : Rows) (0 + w1_2.toNat) [c33.1, c33.2.1, c33.2.2.1, c33.2.2.2.1, c33.2.2.2.2.1, c33.2.2.2.2.2.1, c33.2.2.2.2.2.2.1, c33.2.2.2.2.2.2.2.1, c33.2.2.2.2.2.2.2.2.1, c33.2.2.2.2.2.2.2.2.2.1, c33.2.2.2.2.2.2.2.2.2.2.1, .i .u64 a18, c33.2.2.2.2.2.2.2.2.2.2.2.2.1]) : Rows))) 0 0 0
 else bif ((a16 : Int) == 3) then
 chk (((List.length (w30_5 : Rows)) : Nat) == w30_2) <|
 rowN [.a, .a, .a, .a, .a, .a, .a, .a, .a, .a, .a, .a, .a] w30_5 (0 + w1_2.toNat) fun c34 =>
 chk (((List.length (w30_4 : Rows)) : Nat) == w30_0) <|
 chk (((List.length ((List.set (w30_5 : Rows) (0 + w1_2.toNat) [c34.1, c34.2.1, c34.2.2.1, c34.2.2.2.1, c34.2.2.2.2.1, c34.2.2.2.2.2.1, c34.2.2.2.2.2.2.1, c34.2.2.2.2.2.2.2.1, c34.2.2.2.2.2.2.2.2.1, c34.2.2.2.2.2.2.2.2.2.1, c34.2.2.2.2.2.2.2.2.2.2.1, c34.2.2.2.2.2.2.2.2.2.2.2.1, .i .u64 a18]) : Rows)) : Nat) == w30_2) <|
 k0 false false (List.take w30_1 (List.drop 0 (w30_4 : Rows))) false false (List.take w30_3 (List.drop 0 ((List.set (w30_5 : Rows) (0 + w1_2.toNat) [c34.1, c34.2.1, c34.2.2.1, c34.2.2.2.1, c34.2.2.2.2.1, c34.2.2.2.2.2.1, c34.2.2.2.2.2.2.1, c34.2.2.2.2.2.2.2.1, c34.2.2.2.2.2.2.2.2.1, c34.2.2.2.2.2.2.2.2.2.1, c34.2.2.2.2.2.2.2.2.2.2.1, c34.2.2.2.2.2.2.2.2.2.2.2.1, .i .u64 a18]) : Rows))) 0 0 0
 else none)
 else k0 a3 a4 a5 a6 a7 a8 6 0 0))
 else G.Qt ρ a0 a1 a2 a3 a4 a5 a6 a7 a8 a9 a11 a12 a13 (fun w35_0 w35_1 w35_2 w35_3 w35_4 w35_5 =>
 bif ((w35_5 : Int) != 0) then
 k0 a3 a4 a5 a6 a7 a8 w35_5 0 0
 else bif ((a10 : Int) == 13) then
 G.Q0h ρ w35_1 w35_2 w35_3 w35_4 (fun w36_0 w36_1 =>
 bif w36_1 then
 G.Q8 ρ a0 a1 a2 a3 a4 a5 a6 a7 a8 (fun w37_0 w37_1 w37_2 =>
 G.Qj ρ w37_0 w37_1 w37_2 w35_0 (fun w38_0 =>
 k0 a3 a4 a5 a6 a7 a8 0 w36_0 w38_0))
 else G.Q8 ρ a0 a1 a2 a3 a4 a5 a6 a7 a8 (fun w39_0 w39_1 w39_2 =>
 G.Qj ρ w39_0 w39_1 w39_2 w35_0 (fun w40_0 =>
 k0 a3 a4 a5 a6 a7 a8 0 w36_0 w40_0)))
 else bif ((a10 : Int) == 12) then
 bif ((w35_1 : Int) != 5) then
 k0 a3 a4 a5 a6 a7 a8 7 0 0
 else G.Qr ρ 1 w35_3 (fun w41_0 =>
 bif w41_0 then
 bif ((a10 : Int) == 12) then
 rowT [.i .i64, .i .i64, .i .i64, .i .i64, .i .i64, .i .i64, .i .i64, .b, .i .u64, .i .u64, .i .u64, .i .u64, .i .u64] a8 w35_2 fun c42 =>
 bif ((a16 : Int) == 0) then
 k0 a3 a4 a5 a6 a7 a8 0 c42.2.2.2.2.2.2.2.2.2.1 0
 else bif ((a16 : Int) == 1) then
 k0 a3 a4 a5 a6 a7 a8 0 c42.2.2.2.2.2.2.2.2.2.2.1 0
 else bif ((a16 : Int) == 2) then
 k0 a3 a4 a5 a6 a7 a8 0 c42.2.2.2.2.2.2.2.2.2.2.2.1 0
 else bif ((a16 : Int) == 3) then
 k0 a3 a4 a5 a6 a7 a8 0 c42.2.2.2.2.2.2.2.2.2.2.2.2.1 0
 else none
 else G.Qu ρ a0 a1 a2 a3 a4 a5 a6 a7 a8 (none) (fun w44_0 w44_1 w44_2 =>
 chk (decide ((0 : Int) ≤ w35_2)) <|
 chk (decide ((w35_2 : Int) < ((w44_1 : Nat) : Int))) <|
 bif ((a16 : Int) == 0) then
 chk (((List.length (w44_2 : Rows)) : Nat) == w44_0) <|
 rowN [.a, .a, .a, .a, .a, .a, .a, .a, .a, .a, .a, .a, .a] w44_2 (0 + w35_2.toNat) fun c45 =>
 chk (((List.length ((List.set (w44_2 : Rows) (0 + w35_2.toNat) [c45.1, c45.2.1, c45.2.2.1, c45.2.2.2.1, c45.2.2.2.2.1, c45.2.2.2.2.2.1, c45.2.2.2.2.2.2.1, c45.2.2.2.2.2.2.2.1, c45.2.2.2.2.2.2.2.2.1, .i .u64 a18, c45.2.2.2.2.2.2.2.2.2.2.1, c45.2.2.2.2.2.2.2.2.2.2.2.1, c45.2.2.2.2.2.2.2.2.2.2.2.2.1]) : Rows)) : Nat) == w44_0) <|
 k0 true true [] false false (List.take w44_1 (List.drop 0 ((List.set (w44_2 : Rows) (0 + w35_2.toNat) [c45.1, c45.2.1, c45.2.2.1, c45.2.2.2.1, c45.2.2.2.2.1, c45.2.2.2.2.2.1, c45.2.2.2.2.2.2.1, c45.2.2.2.2.2.2.2.1, c45.2.2.2.2.2.2.2.2.1, .i .u64 a18, c45.2.2.2.2.2.2.2.2.2.2.1, c45.2.2.2.2.2.2.2.2.2.2.2.1, c45.2.2.2.2.2.2.2.2.2.2.2.2.1]) : Rows))) 0 0 0
 else bif ((a16 : Int) == 1) then
 chk (((List.length (w44_2 : Rows)) : Nat) == w44_0) <|
 rowN [.a, .a, .a, .a, .a, .a, .a, .a, .a, .a, .a, .a, .a] w44_2 (0 + w35_2.toNat) fun c46 =>
 chk (((List.length ((List.set (w44_2 : Rows) (0 + w35_2.toNat) [c46.1, c46.2.1, c46.2.2.1, c46.2.2.2.1, c46.2.2.2.2.1, c46.2.2.2.2.2.1, c46.2.2.2.2.2.2.1, c46.2.2.2.2.2.2.2.1, c46.2.2.2.2.2.2.2.2.1, c46.2.2.2.2.2.2.2.2.2.1, .i .u64 a18, c46.2.2.2.2.2.2.2.2.2.2.2.1, c46.2.2.2.2.2.2.2.2.2.2.2.2.1]) : Rows)) : Nat) == w44_0) <|
 k0 true true [] false false (List.take w44_1 (List.drop 0 ((List.set (w44_2 : Rows) (0 + w35_2.toNat) [c46.1, c46.2.1, c46.2.2.1, c46.2.2.2.1, c46.2.2.2.2.1, c46.2.2.2.2.2.1, c46.2.2.2.2.2.2.1, c46.2.2.2.2.2.2.2.1, c46.2.2.2.2.2.2.2.2.1, c46.2.2.2.2.2.2.2.2.2.1, .i .u64 a18, c46.2.2.2.2.2.2.2.2.2.2.2.1, c46.2.2.2.2.2.2.2.2.2.2.2.2.1]) : Rows))) 0 0 0
 else bif ((a16 : Int) == 2) then
 chk (((List.length (w44_2 : Rows)) : Nat) == w44_0) <|
 rowN [.a, .a, .a, .a, .a, .a, .a, .a, .a, .a, .a, .a, .a] w44_2 (0 + w35_2.toNat) fun c47 =>
 chk (((List.length ((List.set (w44_2 : Rows) (0 + w35_2.toNat) [c47.1, c47.2.1, c47.2.2.1, c47.2.2.2.1, c47.2.2.2.2.1, c47.2.2.2.2.2.1, c47.2.2.2.2.2.2.1, c47.2.2.2.2.2.2.2.1, c47.2.2.2.2.2.2.2.2.1, c47.2.2.2.2.2.2.2.2.2.1, c47.2.2.2.2.2.2.2.2.2.2.1, .i .u64 a18, c47.2.2.2.2.2.2.2.2.2.2.2.2.1]) : Rows)) : Nat) == w44_0) <|
 k0 true true [] false false (List.take w44_1 (List.drop 0 ((List.set (w44_2 : Rows) (0 + w35_2.toNat) [c47.1, c47.2.1, c47.2.2.1, c47.2.2.2.1, c47.2.2.2.2.1, c47.2.2.2.2.2.1, c47.2.2.2.2.2.2.1, c47.2.2.2.2.2.2.2.1, c47.2.2.2.2.2.2.2.2.1, c47.2.2.2.2.2.2.2.2.2.1, c47.2.2.2.2.2.2.2.2.2.2.1, .i .u64 a18, c47.2.2.2.2.2.2.2.2.2.2.2.2.1]) : Rows))) 0 0 0
 else bif ((a16 : Int) == 3) then
 chk (((List.length (w44_2 : Rows)) : Nat) == w44_0) <|
 rowN [.a, .a, .a, .a, .a, .a, .a, .a, .a, .a, .a, .a, .a] w44_2 (0 + w35_2.toNat) fun c48 =>
 chk (((List.length ((List.set (w44_2 : Rows) (0 + w35_2.toNat) [c48.1, c48.2.1, c48.2.2.1, c48.2.2.2.1, c48.2.2.2.2.1, c48.2.2.2.2.2.1, c48.2.2.2.2.2.2.1, c48.2.2.2.2.2.2.2.1, c48.2.2.2.2.2.2.2.2.1, c48.2.2.2.2.2.2.2.2.2.1, c48.2.2.2.2.2.2.2.2.2.2.1, c48.2.2.2.2.2.2.2.2.2.2.2.1, .i .u64 a18]) : Rows)) : Nat) == w44_0) <|
 k0 true true [] false false (List.take w44_1 (List.drop 0 ((List.set (w44_2 : Rows) (0 + w35_2.toNat) [c48.1, c48.2.1, c48.2.2.1, c48.2.2.2.1, c48.2.2.2.2.1, c48.2.2.2.2.2.1, c48.2.2.2.2.2.2.1, c48.2.2.2.2.2.2.2.1, c48.2.2.2.2.2.2.2.2.1, c48.2.2.2.2.2.2.2.2.2.1, c48.2.2.2.2.2.2.2.2.2.2.1, c48.2.2.2.2.2.2.2.2.2.2.2.1, .i .u64 a18]) : Rows))) 0 0 0
 else none) (fun _w49_0 _w49_1 _w49_2 =>
 none) (fun w50_0 w50_1 w50_2 w50_3 w50_4 w50_5 =>
 chk (decide ((0 : Int) ≤ w35_2)) <|
 chk (decide ((w35_2 : Int) < ((w50_3 : Nat) : Int))) <|
 bif ((a16 : Int) == 0) then
 chk (((List.length (w50_5 : Rows)) : Nat) == w50_2) <|
 rowN [.a, .a, .a, .a, .a, .a, .a, .a, .a, .a, .a, .a, .a] w50_5 (0 + w35_2.toNat) fun c51 =>
 chk (((List.length (w50_4 : Rows)) : Nat) == w50_0) <|
 chk (((List.length ((List.set (w50_5 : Rows) (0 + w35_2.toNat) [c51.1, c51.2.1, c51.2.2.1, c51.2.2.2.1, c51.2.2.2.2.1, c51.2.2.2.2.2.1, c51.2.2.2.2.2.2.1, c51.2.2.2.2.2.2.2.1, c51.2.2.2.2.2.2.2.2.1, .i .u64 a18, c51.2.2.2.2.2.2.2.2.2.2.1, c51.2.2.2.2.2.2.2.2.2.2.2.1, c51.2.2.2.2.2.2.2.2.2.2.2.2.1]) : Rows)) : Nat) == w50_2) <|
 k0 false false (List.take w50_1 (List.drop 0 (w50_4 : Rows))) false false (List.take w50_3 (List.drop 0 ((List.set (w50_5 : Rows) (0 + w35_2.toNat) [c51.1, c51.2.1, c51.2.2.1, c51.2.2.2.1, c51.2.2.2.2.1, c51.2.2.2.2.2.1, c51.2.2.2.2.2.2.1, c51.2.2.2.2.2.2.2.1, c51.2.2.2.2.2.2.2.2.1, .i .u64 a18, c51.2.2.2.2.2.2.2.2.2.2.1, c51.2.2.2.2.2.2.2.2.2.2.2.1, c51.2.2.2.2.2.2.2.2.2.2.2.2.1]) : Rows))) 0 0 0
 else bif ((a16 : Int) == 1) then
 chk (((List.length (w50_5 : Rows)) : Nat) == w50_2) <|
 rowN [.a, .a, .a, .a, .a, .a, .a, .a, .a, .a, .a, .a, .a] w50_5 (0 + w35_2.toNat) fun c52 =>
 chk (((List.length (w50_4 : Rows)) : Nat) == w50_0) <|
 chk (((List.length ((List.set (w50_5 : Rows) (0 + w35_2.toNat) [c52.1, c52.2.1, c52.2.2.1, c52.2.2.2.1, c52.2.2.2.2.1, c52.2.2.2.2.2.1, c52.2.2.2.2.2.2.1, c52.2.2.2.2.2.2.2.1, c52.2.2.2.2.2.2.2.2.1, c52.2.2.2.2.2.2.2.2.2.1, .i .u64 a18, c52.2.2.2.2.2.2.2.2.2.2.2.1, c52.2.2.2.2.2.2.2.2.2.2.2.2.1]) : Rows)) : Nat) == w50_2) <|
 k0 false false (List.take w50_1 (List.drop 0 (w50_4 : Rows))) false false (List.take w50_3 (List.drop 0 ((List.set (w50_5 : Rows) (0 + w35_2.toNat) [c52.1, c52.2.1, c52.2.2.1, c52.2.2.2.1, c52.2.2.2.2.1, c52.2.2.2.2.2.1, c52.2.2.2.2.2.2.1, c52.2.2.2.2.2.2.2.1, c52.2.2.2.2.2.2.2.2.1, c52.2.2.2.2.2.2.2.2.2.1, .i .u64 a18, c52.2.2.2.2.2.2.2.2.2.2.2.1, c52.2.2.2.2.2.2.2.2.2.2.2.2.1]) : Rows))) 0 0 0
 else bif ((a16 : Int) == 2) then
 chk (((List.length (w50_5 : Rows)) : Nat) == w50_2) <|
 rowN [.a, .a, .a, .a, .a, .a, .a, .a, .a, .a, .a, .a, .a] w50_5 (0 + w35_2.toNat) fun c53 =>
 chk (((List.length (w50_4 : Rows)) : Nat) == w50_0) <|
 chk (((List.length ((List.set (w50_5 : Rows) (0 + w35_2.toNat) [c53.1, c53.2.1, c53.2.2.1, c53.2.2.2.1, c53.2.2.2.2.1, c53.2.2.2.2.2.1, c53.2.2.2.2.2.2.1, c53.2.2.2.2.2.2.2.1, c53.2.2.2.2.2.2.2.2.1, c53.2.2.2.2.2.2.2.2.2.1, c53.2.2.2.2.2.2.2.2.2.2.1, .i .u64 a18, c53.2.2.2.2.2.2.2.2.2.2.2.2.1]) : Rows)) : Nat) == w50_2) <|
 k0 false false (List.take w50_1 (List.drop 0 (w50_4 : Rows))) false false (List.take w50_3 (List.drop 0 ((List.set (w50_5 : Rows) (0 + w35_2.toNat) [c53.1, c53.2.1, c53.2.2.1, c53.2.2.2.1, c53.2.2.2.2.1, c53.2.2.2.2.2.1, c53.2.2.2.2.2.2.1, c53.2.2.2.2.2.2.2.1, c53.2.2.2.2.2.2.2.2.1, c53.2.2.2.2.2.2.2.2.2.1, c53.2.2.2.2.2.2.2.2.2.2.1, .i .u64 a18, c53.2.2.2.2.2.2.2.2.2.2.2.2.1]) : Rows))) 0 0 0
 else bif ((a16 : Int) == 3) then
 chk (((List.length (w50_5 : Rows)) : Nat) == w50_2) <|
 rowN [.a, .a, .a, .a, .a, .a, .a, .a, .a, .a, .a, .a, .a] w50_5 (0 + w35_2.toNat) fun c54 =>
 chk (((List.length (w50_4 : Rows)) : Nat) == w50_0) <|
 chk (((List.length ((List.set (w50_5 : Rows) (0 + w35_2.toNat) [c54.1, c54.2.1, c54.2.2.1, c54.2.2.2.1, c54.2.2.2.2.1, c54.2.2.2.2.2.1, c54.2.2.2.2.2.2.1, c54.2.2.2.2.2.2.2.1, c54.2.2.2.2.2.2.2.2.1, c54.2.2.2.2.2.2.2.2.2.1, c54.2.2.2.2.2.2.2.2.2.2.1, c54.2.2.2.2.2.2.2.2.2.2.2.1, .i .u64 a18]) : Rows)) : Nat) == w50_2) <|
 k0 false false (List.take w50_1 (List.drop 0 (w50_4 : Rows))) false false (List.take w50_3 (List.drop 0 ((List.set (w50_5 : Rows) (0 + w35_2.toNat) [c54.1, c54.2.1, c54.2.2.1, c54.2.2.2.1, c54.2.2.2.2.1, c54.2.2.2.2.2.1, c54.2.2.2.2.2.2.1, c54.2.2.2.2.2.2.2.1, c54.2.2.2.2.2.2.2.2.1, c54.2.2.2.2.2.2.2.2.2.1, c54.2.2.2.2.2.2.2.2.2.2.1, c54.2.2.2.2.2.2.2.2.2.2.2.1, .i .u64 a18]) : Rows))) 0 0 0
 else none)
 else k0 a3 a4 a5 a6 a7 a8 6 0 0)
 else bif ((w35_1 : Int) != 5) then
 k0 a3 a4 a5 a6 a7 a8 7 0 0
 else G.Qr ρ 2 w35_3 (fun w55_0 =>
 bif w55_0 then
 bif ((a10 : Int) == 12) then
 rowT [.i .i64, .i .i64, .i .i64, .i .i64, .i .i64, .i .i64, .i .i64, .b, .i .u64, .i .u64, .i .u64, .i .u64, .i .u64] a8 w35_2 fun c56 =>
 bif ((a16 : Int) == 0) then
 k0 a3 a4 a5 a6 a7 a8 0 c56.2.2.2.2.2.2.2.2.2.1 0
 else bif ((a16 : Int) == 1) then
 k0 a3 a4 a5 a6 a7 a8 0 c56.2.2.2.2.2.2.2.2.2.2.1 0
 else bif ((a16 : Int) == 2) then
 k0 a3 a4 a5 a6 a7 a8 0 c56.2.2.2.2.2.2.2.2.2.2.2.1 0
 else bif ((a16 : Int) == 3) then
 k0 a3 a4 a5 a6 a7 a8 0 c56.2.2.2.2.2.2.2.2.2.2.2.2.1 0
 else none
 else G.Qu ρ a0 a1 a2 a3 a4 a5 a6 a7 a8 (none) (fun w58_0 w58_1 w58_2 =>
 chk (decide ((0 : Int) ≤ w35_2)) <|
 chk (decide ((w35_2 : Int) < ((w58_1 : Nat) : Int))) <|
 bif ((a16 : Int) == 0) then
 chk (((List.length (w58_2 : Rows)) : Nat) == w58_0) <|
 rowN [.a, .a, .a, .a, .a, .a, .a, .a, .a, .a, .a, .a, .a] w58_2 (0 + w35_2.toNat) fun c59 =>
 chk (((List.length ((List.set (w58_2 : Rows) (0 + w35_2.toNat) [c59.1, c59.2.1, c59.2.2.1, c59.2.2.2.1, c59.2.2.2.2.1, c59.2.2.2.2.2.1, c59.2.2.2.2.2.2.1, c59.2.2.2.2.2.2.2.1, c59.2.2.2.2.2.2.2.2.1, .i .u64 a18, c59.2.2.2.2.2.2.2.2.2.2.1, c59.2.2.2.2.2.2.2.2.2.2.2.1, c59.2.2.2.2.2.2.2.2.2.2.2.2.1]) : Rows)) : Nat) == w58_0) <|
 k0 true true [] false false (List.take w58_1 (List.drop 0 ((List.set (w58_2 : Rows) (0 + w35_2.toNat) [c59.1, c59.2.1, c59.2.2.1, c59.2.2.2.1, c59.2.2.2.2.1, c59.2.2.2.2.2.1, c59.2.2.2.2.2.2.1, c59.2.2.2.2.2.2.2.1, c59.2.2.2.2.2.2.2.2.1, .i .u64 a18, c59.2.2.2.2.2.2.2.2.2.2.1, c59.2.2.2.2.2.2.2.2.2.2.2.1, c59.2.2.2.2.2.2.2.2.2.2.2.2.1]) : Rows))) 0 0 0
 else bif ((a16 : Int) == 1) then
 chk (((List.length (w58_2 : Rows)) : Nat) == w58_0) <|
 rowN [.a, .a, .a, .a, .a, .a, .a, .a, .a, .a, .a, .a, .a] w58_2 (0 + w35_2.toNat) fun c60 =>
 chk (((List.length ((List.set (w58_2 : Rows) (0 + w35_2.toNat) [c60.1, c60.2.1, c60.2.2.1, c60.2.2.2.1, c60.2.2.2.2.1, c60.2.2.2.2.2.1, c60.2.2.2.2.2.2.1, c60.2.2.2.2.2.2.2.1, c60.2.2.2.2.2.2.2.2.1, c60.2.2.2.2.2.2.2.2.2.1, .i .u64 a18, c60.2.2.2.2.2.2.2.2.2.2.2.1, c60.2.2.2.2.2.2.2.2.2.2.2.2.1]) : Rows)) : Nat) == w58_0) <|
 k0 true true [] false false (List.take w58_1 (List.drop 0 ((List.set (w58_2 : Rows) (0 + w35_2.toNat) [c60.1, c60.2.1, c60.2.2.1, c60.2.2.2.1, c60.2.2.2.2.1, c60.2.2.2.2.2.1, c60.2.2.2.2.2.2.1, c60.2.2.2.2.2.2.2.1, c60.2.2.2.2.2.2.2.2.1, c60.2.2.2.2.2.2.2.2.2.1, .i .u64 a18, c60.2.2.2.2.2.2.2.2.2.2.2.1, c60.2.2.2.2.2.2.2.2.2.2.2.2.1]) : Rows))) 0 0 0
 else bif ((a16 : Int) == 2) then
 chk (((List.length (w58_2 : Rows)) : Nat) == w58_0) <|
 rowN [.a, .a, .a, .a, .a, .a, .a, .a, .a, .a, .a, .a, .a] w58_2 (0 + w35_2.toNat) fun c61 =>
 chk (((List.length ((List.set (w58_2 : Rows) (0 + w35_2.toNat) [c61.1, c61.2.1, c61.2.2.1, c61.2.2.2.1, c61.2.2.2.2.1, c61.2.2.2.2.2.1, c61.2.2.2.2.2.2.1, c61.2.2.2.2.2.2.2.1, c61.2.2.2.2.2.2.2.2.1, c61.2.2.2.2.2.2.2.2.2.1, c61.2.2.2.2.2.2.2.2.2.2.1, .i .u64 a18, c61.2.2.2.2.2.2.2.2.2.2.2.2.1]) : Rows)) : Nat) == w58_0) <|
 k0 true true [] false false (List.take w58_1 (List.drop 0 ((List.set (w58_2 : Rows) (0 + w35_2.toNat) [c61.1, c61.2.1, c61.2.2.1, c61.2.2.2.1, c61.2.2.2.2.1, c61.2.2.2.2.2.1, c61.2.2.2.2.2.2.1, c61.2.2.2.2.2.2.2.1, c61.2.2.2.2.2.2.2.2.1, c61.2.2.2.2.2.2.2.2.2.1, c61.2.2.2.2.2.2.2.2.2.2.1, .i .u64 a18, c61.2.2.2.2.2.2.2.2.2.2.2.2.1]) : Rows))) 0 0 0
 else bif ((a16 : Int) == 3) then
 chk (((List.length (w58_2 : Rows)) : Nat) == w58_0) <|
 rowN [.a, .a, .a, .a, .a, .a, .a, .a, .a, .a, .a, .a, .a] w58_2 (0 + w35_2.toNat) fun c62 =>
 chk (((List.length ((List.set (w58_2 : Rows) (0 + w35_2.toNat) [c62.1, c62.2.1, c62.2.2.1, c62.2.2.2.1, c62.2.2.2.2.1, c62.2.2.2.2.2.1, c62.2.2.2.2.2.2.1, c62.2.2.2.2.2.2.2.1, c62.2.2.2.2.2.2.2.2.1, c62.2.2.2.2.2.2.2.2.2.1, c62.2.2.2.2.2.2.2.2.2.2.1, c62.2.2.2.2.2.2.2.2.2.2.2.1, .i .u64 a18]) : Rows)) : Nat) == w58_0) <|
 k0 true true [] false false (List.take w58_1 (List.drop 0 ((List.set (w58_2 : Rows) (0 + w35_2.toNat) [c62.1, c62.2.1, c62.2.2.1, c62.2.2.2.1, c62.2.2.2.2.1, c62.2.2.2.2.2.1, c62.2.2.2.2.2.2.1, c62.2.2.2.2.2.2.2.1, c62.2.2.2.2.2.2.2.2.1, c62.2.2.2.2.2.2.2.2.2.1, c62.2.2.2.2.2.2.2.2.2.2.1, c62.2.2.2.2.2.2.2.2.2.2.2.1, .i .u64 a18]) : Rows))) 0 0 0
 else none) (fun _w63_0 _w63_1 _w63_2 =>
 none) (fun w64_0 w64_1 w64_2 w64_3 w64_4 w64_5 =>
 chk (decide ((0 : Int) ≤ w35_2)) <|
 chk (decide ((w35_2 : Int) < ((w64_3 : Nat) : Int))) <|
 bif ((a16 : Int) == 0) then
 chk (((List.length (w64_5 : Rows)) : Nat) == w64_2) <|
 rowN [.a, .a, .a, .a, .a, .a, .a, .a, .a, .a, .a, .a, .a] w64_5 (0 + w35_2.toNat) fun c65 =>
 chk (((List.length (w64_4 : Rows)) : Nat) == w64_0) <|
 chk (((List.length ((List.set (w64_5 : Rows) (0 + w35_2.toNat) [c65.1, c65.2.1, c65.2.2.1, c65.2.2.2.1, c65.2.2.2.2.1, c65.2.2.2.2.2.1, c65.2.2.2.2.2.2.1, c65.2.2.2.2.2.2.2.1, c65.2.2.2.2.2.2.2.2.1, .i .u64 a18, c65.2.2.2.2.2.2.2.2.2.2.1, c65.2.2.2.2.2.2.2.2.2.2.2.1, c65.2.2.2.2.2.2.2.2.2.2.2.2.1]) : Rows)) : Nat) == w64_2) <|
 k0 false false (List.take w64_1 (List.drop 0 (w64_4 : Rows))) false false (List.take w64_3 (List.drop 0 ((List.set (w64_5 : Rows) (0 + w35_2.toNat) [c65.1, c65.2.1, c65.2.2.1, c65.2.2.2.1, c65.2.2.2.2.1, c65.2.2.2.2.2.1, c65.2.2.2.2.2.2.1, c65.2.2.2.2.2.2.2.1, c65.2.2.2.2.2.2.2.2.1, .i .u64 a18, c65.2.2.2.2.2.2.2.2.2.2.1, c65.2.2.2.2.2.2.2.2.2.2.2.1, c65.2.2.2.2.2.2.2.2.2.2.2.2.1]) : Rows))) 0 0 0
 else bif ((a16 : Int) == 1) then
 chk (((List.length (w64_5 : Rows)) : Nat) == w64_2) <|
 rowN [.a, .a, .a, .a, .a, .a, .a, .a, .a, .a, .a, .a, .a] w64_5 (0 + w35_2.toNat) fun c66 =>
 chk (((List.length (w64_4 : Rows)) : Nat) == w64_0) <|
 chk (((List.length ((List.set (w64_5 : Rows) (0 + w35_2.toNat) [c66.1, c66.2.1, c66.2.2.1, c66.2.2.2.1, c66.2.2.2.2.1, c66.2.2.2.2.2.1, c66.2.2.2.2.2.2.1, c66.2.2.2.2.2.2.2.1, c66.2.2.2.2.2.2.2.2.1, c66.2.2.2.2.2.2.2.2.2.1, .i .u64 a18, c66.2.2.2.2.2.2.2.2.2.2.2.1, c66.2.2.2.2.2.2.2.2.2.2.2.2.1]) : Rows)) : Nat) == w64_2) <|
 k0 false false (List.take w64_1 (List.drop 0 (w64_4 : Rows))) false false (List.take w64_3 (List.drop 0 ((List.set (w64_5 : Rows) (0 + w35_2.toNat) [c66.1, c66.2.1, c66.2.2.1, c66.2.2.2.1, c66.2.2.2.2.1, c66.2.2.2.2.2.1, c66.2.2.2.2.2.2.1, c66.2.2.2.2.2.2.2.1, c66.2.2.2.2.2.2.2.2.1, c66.2.2.2.2.2.2.2.2.2.1, .i .u64 a18, c66.2.2.2.2.2.2.2.2.2.2.2.1, c66.2.2.2.2.2.2.2.2.2.2.2.2.1]) : Rows))) 0 0 0
 else bif ((a16 : Int) == 2) then
 chk (((List.length (w64_5 : Rows)) : Nat) == w64_2) <|
 rowN [.a, .a, .a, .a, .a, .a, .a, .a, .a, .a, .a, .a, .a] w64_5 (0 + w35_2.toNat) fun c67 =>
 chk (((List.length (w64_4 : Rows)) : Nat) == w64_0) <|
 chk (((List.length ((List.set (w64_5 : Rows) (0 + w35_2.toNat) [c67.1, c67.2.1, c67.2.2.1, c67.2.2.2.1, c67.2.2.2.2.1, c67.2.2.2.2.2.1, c67.2.2.2.2.2.2.1, c67.2.2.2.2.2.2.2.1, c67.2.2.2.2.2.2.2.2.1, c67.2.2.2.2.2.2.2.2.2.1, c67.2.2.2.2.2.2.2.2.2.2.1, .i .u64 a18, c67.2.2.2.2.2.2.2.2.2.2.2.2.1]) : Rows)) : Nat) == w64_2) <|
 k0 false false (List.take w64_1 (List.drop 0 (w64_4 : Rows))) false false (List.take w64_3 (List.drop 0 ((List.set (w64_5 : Rows) (0 + w35_2.toNat) [c67.1, c67.2.1, c67.2.2.1, c67.2.2.2.1, c67.2.2.2.2.1, c67.2.2.2.2.2.1, c67.2.2.2.2.2.2.1, c67.2.2.2.2.2.2.2.1, c67.2.2.2.2.2.2.2.2.1, c67.2.2.2.2.2.2.2.2.2.1, c67.2.2.2.2.2.2.2.2.2.2.1, .i .u64 a18, c67.2.2.2.2.2.2.2.2.2.2.2.2.1]) : Rows))) 0 0 0
 else bif ((a16 : Int) == 3) then
 chk (((List.length (w64_5 : Rows)) : Nat) == w64_2) <|
 rowN [.a, .a, .a, .a, .a, .a, .a, .a, .a, .a, .a, .a, .a] w64_5 (0 + w35_2.toNat) fun c68 =>
 chk (((List.length (w64_4 : Rows)) : Nat) == w64_0) <|
 chk (((List.length ((List.set (w64_5 : Rows) (0 + w35_2.toNat) [c68.1, c68.2.1, c68.2.2.1, c68.2.2.2.1, c68.2.2.2.2.1, c68.2.2.2.2.2.1, c68.2.2.2.2.2.2.1, c68.2.2.2.2.2.2.2.1, c68.2.2.2.2.2.2.2.2.1, c68.2.2.2.2.2.2.2.2.2.1, c68.2.2.2.2.2.2.2.2.2.2.1, c68.2.2.2.2.2.2.2.2.2.2.2.1, .i .u64 a18]) : Rows)) : Nat) == w64_2) <|
 k0 false false (List.take w64_1 (List.drop 0 (w64_4 : Rows))) false false (List.take w64_3 (List.drop 0 ((List.set (w64_5 : Rows) (0 + w35_2.toNat) [c68.1, c68.2.1, c68.2.2.1, c68.2.2.2.1, c68.2.2.2.2.1, c68.2.2.2.2.2.1, c68.2.2.2.2.2.2.1, c68.2.2.2.2.2.2.2.1, c68.2.2.2.2.2.2.2.2.1, c68.2.2.2.2.2.2.2.2.2.1, c68.2.2.2.2.2.2.2.2.2.2.1, c68.2.2.2.2.2.2.2.2.2.2.2.1, .i .u64 a18]) : Rows))) 0 0 0
 else none)
 else k0 a3 a4 a5 a6 a7 a8 6 0 0))
 else G.Qt ρ a0 a1 a2 a3 a4 a5 a6 a7 a8 a9 a11 a12 a13 (fun w69_0 w69_1 w69_2 w69_3 w69_4 w69_5 =>
 bif ((w69_5 : Int) != 0) then
 k0 a3 a4 a5 a6 a7 a8 w69_5 0 0
 else bif ((a10 : Int) == 13) then
 G.Q0h ρ w69_1 w69_2 w69_3 w69_4 (fun w70_0 w70_1 =>
 bif w70_1 then
 G.Q8 ρ a0 a1 a2 a3 a4 a5 a6 a7 a8 (fun w71_0 w71_1 w71_2 =>
 G.Qj ρ w71_0 w71_1 w71_2 w69_0 (fun w72_0 =>
 k0 a3 a4 a5 a6 a7 a8 0 w70_0 w72_0))
 else G.Q8 ρ a0 a1 a2 a3 a4 a5 a6 a7 a8 (fun w73_0 w73_1 w73_2 =>
 G.Qj ρ w73_0 w73_1 w73_2 w69_0 (fun w74_0 =>
 k0 a3 a4 a5 a6 a7 a8 0 w70_0 w74_0)))
 else bif ((a10 : Int) == 12) then
 bif ((w69_1 : Int) != 5) then
 k0 a3 a4 a5 a6 a7 a8 7 0 0
 else G.Qr ρ 1 w69_3 (fun w75_0 =>
 bif w75_0 then
 bif ((a10 : Int) == 12) then
 rowT [.i .i64, .i .i64, .i .i64, .i .i64, .i .i64, .i .i64, .i .i64, .b, .i .u64, .i .u64, .i .u64, .i .u64, .i .u64] a8 w69_2 fun c76 =>
 bif ((a16 : Int) == 0) then
 k0 a3 a4 a5 a6 a7 a8 0 c76.2.2.2.2.2.2.2.2.2.1 0
 else bif ((a16 : Int) == 1) then
 k0 a3 a4 a5 a6 a7 a8 0 c76.2.2.2.2.2.2.2.2.2.2.1 0
 else bif ((a16 : Int) == 2) then
 k0 a3 a4 a5 a6 a7 a8 0 c76.2.2.2.2.2.2.2.2.2.2.2.1 0
 else bif ((a16 : Int) == 3) then
 k0 a3 a4 a5 a6 a7 a8 0 c76.2.2.2.2.2.2.2.2.2.2.2.2.1 0
 else none
 else G.Qu ρ a0 a1 a2 a3 a4 a5 a6 a7 a8 (none) (fun w78_0 w78_1 w78_2 =>
 chk (decide ((0 : Int) ≤ w69_2)) <|
 chk (decide ((w69_2 : Int) < ((w78_1 : Nat) : Int))) <|
 bif ((a16 : Int) == 0) then
 chk (((List.length (w78_2 : Rows)) : Nat) == w78_0) <|
 rowN [.a, .a, .a, .a, .a, .a, .a, .a, .a, .a, .a, .a, .a] w78_2 (0 + w69_2.toNat) fun c79 =>
 chk (((List.length ((List.set (w78_2 : Rows) (0 + w69_2.toNat) [c79.1, c79.2.1, c79.2.2.1, c79.2.2.2.1, c79.2.2.2.2.1, c79.2.2.2.2.2.1, c79.2.2.2.2.2.2.1, c79.2.2.2.2.2.2.2.1, c79.2.2.2.2.2.2.2.2.1, .i .u64 a18, c79.2.2.2.2.2.2.2.2.2.2.1, c79.2.2.2.2.2.2.2.2.2.2.2.1, c79.2.2.2.2.2.2.2.2.2.2.2.2.1]) : Rows)) : Nat) == w78_0) <|
 k0 true true [] false false (List.take w78_1 (List.drop 0 ((List.set (w78_2 : Rows) (0 + w69_2.toNat) [c79.1, c79.2.1, c79.2.2.1, c79.2.2.2.1, c79.2.2.2.2.1, c79.2.2.2.2.2.1, c79.2.2.2.2.2.2.1, c79.2.2.2.2.2.2.2.1, c79.2.2.2.2.2.2.2.2.1, .i .u64 a18, c79.2.2.2.2.2.2.2.2.2.2.1, c79.2.2.2.2.2.2.2.2.2.2.2.1, c79.2.2.2.2.2.2.2.2.2.2.2.2.1]) : Rows))) 0 0 0
 else bif ((a16 : Int) == 1) then
 chk (((List.length (w78_2 : Rows)) : Nat) == w78_0) <|
 rowN [.a, .a, .a, .a, .a, .a, .a, .a, .a, .a, .a, .a, .a] w78_2 (0 + w69_2.toNat) fun c80 =>
 chk (((List.length ((List.set (w78_2 : Rows) (0 + w69_2.toNat) [c80.1, c80.2.1, c80.2.2.1, c80.2.2.2.1, c80.2.2.2.2.1, c80.2.2.2.2.2.1, c80.2.2.2.2.2.2.1, c80.2.2.2.2.2.2.2.1, c80.2.2.2.2.2.2.2.2.1, c80.2.2.2.2.2.2.2.2.2.1, .i .u64 a18, c80.2.2.2.2.2.2.2.2.2.2.2.1, c80.2.2.2.2.2.2.2.2.2.2.2.2.1]) : Rows)) : Nat) == w78_0) <|
 k0 true true [] false false (List.take w78_1 (List.drop 0 ((List.set (w78_2 : Rows) (0 + w69_2.toNat) [c80.1, c80.2.1, c80.2.2.1, c80.2.2.2.1, c80.2.2.2.2.1, c80.2.2.2.2.2.1, c80.2.2.2.2.2.2.1, c80.2.2.2.2.2.2.2.1, c80.2.2.2.2.2.2.2.2.1, c80.2.2.2.2.2.2.2.2.2.1, .i .u64 a18, c80.2.2.2.2.2.2.2.2.2.2.2.1, c80.2.2.2.2.2.2.2.2.2.2.2.2.1]) : Rows))) 0 0 0
 else bif ((a16 : Int) == 2) then
 chk (((List.length (w78_2 : Rows)) : Nat) == w78_0) <|
 rowN [.a, .a, .a, .a, .a, .a, .a, .a, .a, .a, .a, .a, .a] w78_2 (0 + w69_2.toNat) fun c81 =>
 chk (((List.length ((List.set (w78_2 : Rows) (0 + w69_2.toNat) [c81.1, c81.2.1, c81.2.2.1, c81.2.2.2.1, c81.2.2.2.2.1, c81.2.2.2.2.2.1, c81.2.2.2.2.2.2.1, c81.2.2.2.2.2.2.2.1, c81.2.2.2.2.2.2.2.2.1, c81.2.2.2.2.2.2.2.2.2.1, c81.2.2.2.2.2.2.2.2.2.2.1, .i .u64 a18, c81.2.2.2.2.2.2.2.2.2.2.2.2.1]) : Rows)) : Nat) == w78_0) <|
 k0 true true [] false false (List.take w78_1 (List.drop 0 ((List.set (w78_2 : Rows) (0 + w69_2.toNat) [c81.1, c81.2.1, c81.2.2.1, c81.2.2.2.1, c81.2.2.2.2.1, c81.2.2.2.2.2.1, c81.2.2.2.2.2.2.1, c81.2.2.2.2.2.2.2.1, c81.2.2.2.2.2.2.2.2.1, c81.2.2.2.2.2.2.2.2.2.1, c81.2.2.2.2.2.2.2.2.2.2.1, .i .u64 a18, c81.2.2.2.2.2.2.2.2.2.2.2.2.1]) : Rows))) 0 0 0
 else bif ((a16 : Int) == 3) then
 chk (((List.length (w78_2 : Rows)) : Nat) == w78_0) <|
 rowN [.a, .a, .a, .a, .a, .a, .a, .a, .a, .a, .a, .a, .a] w78_2 (0 + w69_2.toNat) fun c82 =>
 chk (((List.length ((List.set (w78_2 : Rows) (0 + w69_2.toNat) [c82.1, c82.2.1, c82.2.2.1, c82.2.2.2.1, c82.2.2.2.2.1, c82.2.2.2.2.2.1, c82.2.2.2.2.2.2.1, c82.2.2.2.2.2.2.2.1, c82.2.2.2.2.2.2.2.2.1, c82.2.2.2.2.2.2.2.2.2.1, c82.2.2.2.2.2.2.2.2.2.2.1, c82.2.2.2.2.2.2.2.2.2.2.2.1, .i .u64 a18]) : Rows)) : Nat) == w78_0) <|
 k0 true true [] false false (List.take w78_1 (List.drop 0 ((List.set (w78_2 : Rows) (0 + w69_2.toNat) [c82.1, c82.2.1, c82.2.2.1, c82.2.2.2.1, c82.2.2.2.2.1, c82.2.2.2.2.2.1, c82.2.2.2.2.2.2.1, c82.2.2.2.2.2.2.2.1, c82.2.2.2.2.2.2.2.2.1, c82.2.2.2.2.2.2.2.2.2.1, c82.2.2.2.2.2.2.2.2.2.2.1, c82.2.2.2.2.2.2.2.2.2.2.2.1, .i .u64 a18]) : Rows))) 0 0 0
 else none) (fun _w83_0 _w83_1 _w83_2 =>
 none) (fun w84_0 w84_1 w84_2 w84_3 w84_4 w84_5 =>
 chk (decide ((0 : Int) ≤ w69_2)) <|
 chk (decide ((w69_2 : Int) < ((w84_3 : Nat) : Int))) <|
 bif ((a16 : Int) == 0) then
 chk (((List.length (w84_5 : Rows)) : Nat) == w84_2) <|
 rowN [.a, .a, .a, .a, .a, .a, .a, .a, .a, .a, .a, .a, .a] w84_5 (0 + w69_2.toNat) fun c85 =>
 chk (((List.length (w84_4 : Rows)) : Nat) == w84_0) <|
 chk (((List.length ((List.set (w84_5 : Rows) (0 + w69_2.toNat) [c85.1, c85.2.1, c85.2.2.1, c85.2.2.2.1, c85.2.2.2.2.1, c85.2.2.2.2.2.1, c85.2.2.2.2.2.2.1, c85.2.2.2.2.2.2.2.1, c85.2.2.2.2.2.2.2.2.1, .i .u64 a18, c85.2.2.2.2.2.2.2.2.2.2.1, c85.2.2.2.2.2.2.2.2.2.2.2.1, c85.2.2.2.2.2.2.2.2.2.2.2.2.1]) : Rows)) : Nat) == w84_2) <|
 k0 false false (List.take w84_1 (List.drop 0 (w84_4 : Rows))) false false (List.take w84_3 (List.drop 0 ((List.set (w84_5 : Rows) (0 + w69_2.toNat) [c85.1, c85.2.1, c85.2.2.1, c85.2.2.2.1, c85.2.2.2.2.1, c85.2.2.2.2.2.1, c85.2.2.2.2.2.2.1, c85.2.2.2.2.2.2.2.1, c85.2.2.2.2.2.2.2.2.1, .i .u64 a18, c85.2.2.2.2.2.2.2.2.2.2.1, c85.2.2.2.2.2.2.2.2.2.2.2.1, c85.2.2.2.2.2.2.2.2.2.2.2.2.1]) : Rows))) 0 0 0
 else bif ((a16 : Int) == 1) then
 chk (((List.length (w84_5 : Rows)) : Nat) == w84_2) <|
 rowN [.a, .a, .a, .a, .a, .a, .a, .a, .a, .a, .a, .a, .a] w84_5 (0 + w69_2.toNat) fun c86 =>
 chk (((List.length (w84_4 : Rows)) : Nat) == w84_0) <|
 chk (((List.length ((List.set (w84_5 : Rows) (0 + w69_2.toNat) [c86.1, c86.2.1, c86.2.2.1, c86.2.2.2.1, c86.2.2.2.2.1, c86.2.2.2.2.2.1, c86.2.2.2.2.2.2.1, c86.2.2.2.2.2.2.2.1, c86.2.2.2.2.2.2.2.2.1, c86.2.2.2.2.2.2.2.2.2.1, .i .u64 a18, c86.2.2.2.2.2.2.2.2.2.2.2.1, c86.2.2.2.2.2.2.2.2.2.2.2.2.1]) : Rows)) : Nat) == w84_2) <|
 k0 false false (List.take w84_1 (List.drop 0 (w84_4 : Rows))) false false (List.take w84_3 (List.drop 0 ((List.set (w84_5 : Rows) (0 + w69_2.toNat) [c86.1, c86.2.1, c86.2.2.1, c86.2.2.2.1, c86.2.2.2.2.1, c86.2.2.2.2.2.1, c86.2.2.2.2.2.2.1, c86.2.2.2.2.2.2.2.1, c86.2.2.2.2.2.2.2.2.1, c86.2.2.2.2.2.2.2.2.2.1, .i .u64 a18, c86.2.2.2.2.2.2.2.2.2.2.2.1, c86.2.2.2.2.2.2.2.2.2.2.2.2.1]) : Rows))) 0 0 0
 else bif ((a16 : Int) == 2) then
 chk (((List.length (w84_5 : Rows)) : Nat) == w84_2) <|
 rowN [.a, .a, .a, .a, .a, .a, .a, .a, .a, .a, .a, .a, .a] w84_5 (0 + w69_2.toNat) fun c87 =>
 chk (((List.length (w84_4 : Rows)) : Nat) == w84_0) <|
 chk (((List.length ((List.set (w84_5 : Rows) (0 + w69_2.toNat) [c87.1, c87.2.1, c87.2.2.1, c87.2.2.2.1, c87.2.2.2.2.1, c87.2.2.2.2.2.1, c87.2.2.2.2.2.2.1, c87.2.2.2.2.2.2.2.1, c87.2.2.2.2.2.2.2.2.1, c87.2.2.2.2.2.2.2.2.2.1, c87.2.2.2.2.2.2.2.2.2.2.1, .i .u64 a18, c87.2.2.2.2.2.2.2.2.2.2.2.2.1]) : Rows)) : Nat) == w84_2) <|
 k0 false false (List.take w84_1 (List.drop 0 (w84_4 : Rows))) false false (List.take w84_3 (List.drop 0 ((List.set (w84_5 : Rows) (0 + w69_2.toNat) [c87.1, c87.2.1, c87.2.2.1, c87.2.2.2.1, c87.2.2.2.2.1, c87.2.2.2.2.2.1, c87.2.2.2.2.2.2.1, c87.2.2.2.2.2.2.2.1, c87.2.2.2.2.2.2.2.2.1, c87.2.2.2.2.2.2.2.2.2.1, c87.2.2.2.2.2.2.2.2.2.2.1, .i .u64 a18, c87.2.2.2.2.2.2.2.2.2.2.2.2.1]) : Rows))) 0 0 0
 else bif ((a16 : Int) == 3) then
 chk (((List.length (w84_5 : Rows)) : Nat) == w84_2) <|
 rowN [.a, .a, .a, .a, .a, .a, .a, .a, .a, .a, .a, .a, .a] w84_5 (0 + w69_2.toNat) fun c88 =>
 chk (((List.length (w84_4 : Rows)) : Nat) == w84_0) <|
 chk (((List.length ((List.set (w84_5 : Rows) (0 + w69_2.toNat) [c88.1, c88.2.1, c88.2.2.1, c88.2.2.2.1, c88.2.2.2.2.1, c88.2.2.2.2.2.1, c88.2.2.2.2.2.2.1, c88.2.2.2.2.2.2.2.1, c88.2.2.2.2.2.2.2.2.1, c88.2.2.2.2.2.2.2.2.2.1, c88.2.2.2.2.2.2.2.2.2.2.1, c88.2.2.2.2.2.2.2.2.2.2.2.1, .i .u64 a18]) : Rows)) : Nat) == w84_2) <|
 k0 false false (List.take w84_1 (List.drop 0 (w84_4 : Rows))) false false (List.take w84_3 (List.drop 0 ((List.set (w84_5 : Rows) (0 + w69_2.toNat) [c88.1, c88.2.1, c88.2.2.1, c88.2.2.2.1, c88.2.2.2.2.1, c88.2.2.2.2.2.1, c88.2.2.2.2.2.2.1, c88.2.2.2.2.2.2.2.1, c88.2.2.2.2.2.2.2.2.1, c88.2.2.2.2.2.2.2.2.2.1, c88.2.2.2.2.2.2.2.2.2.2.1, c88.2.2.2.2.2.2.2.2.2.2.2.1, .i .u64 a18]) : Rows))) 0 0 0
 else none)
 else k0 a3 a4 a5 a6 a7 a8 6 0 0)
 else bif ((w69_1 : Int) != 5) then
 k0 a3 a4 a5 a6 a7 a8 7 0 0
 else G.Qr ρ 2 w69_3 (fun w89_0 =>
 bif w89_0 then
 bif ((a10 : Int) == 12) then
 rowT [.i .i64, .i .i64, .i .i64, .i .i64, .i .i64, .i .i64, .i .i64, .b, .i .u64, .i .u64, .i .u64, .i .u64, .i .u64] a8 w69_2 fun c90 =>
 bif ((a16 : Int) == 0) then
 k0 a3 a4 a5 a6 a7 a8 0 c90.2.2.2.2.2.2.2.2.2.1 0
 else bif ((a16 : Int) == 1) then
 k0 a3 a4 a5 a6 a7 a8 0 c90.2.2.2.2.2.2.2.2.2.2.1 0
 else bif ((a16 : Int) == 2) then
 k0 a3 a4 a5 a6 a7 a8 0 c90.2.2.2.2.2.2.2.2.2.2.2.1 0
 else bif ((a16 : Int) == 3) then
 k0 a3 a4 a5 a6 a7 a8 0 c90.2.2.2.2.2.2.2.2.2.2.2.2.1 0
 else none
 else G.Qu ρ a0 a1 a2 a3 a4 a5 a6 a7 a8 (none) (fun w92_0 w92_1 w92_2 =>
 chk (decide ((0 : Int) ≤ w69_2)) <|
 chk (decide ((w69_2 : Int) < ((w92_1 : Nat) : Int))) <|
 bif ((a16 : Int) == 0) then
 chk (((List.length (w92_2 : Rows)) : Nat) == w92_0) <|
 rowN [.a, .a, .a, .a, .a, .a, .a, .a, .a, .a, .a, .a, .a] w92_2 (0 + w69_2.toNat) fun c93 =>
 chk (((List.length ((List.set (w92_2 : Rows) (0 + w69_2.toNat) [c93.1, c93.2.1, c93.2.2.1, c93.2.2.2.1, c93.2.2.2.2.1, c93.2.2.2.2.2.1, c93.2.2.2.2.2.2.1, c93.2.2.2.2.2.2.2.1, c93.2.2.2.2.2.2.2.2.1, .i .u64 a18, c93.2.2.2.2.2.2.2.2.2.2.1, c93.2.2.2.2.2.2.2.2.2.2.2.1, c93.2.2.2.2.2.2.2.2.2.2.2.2.1]) : Rows)) : Nat) == w92_0) <|
 k0 true true [] false false (List.take w92_1 (List.drop 0 ((List.set (w92_2 : Rows) (0 + w69_2.toNat) [c93.1, c93.2.1, c93.2.2.1, c93.2.2.2.1, c93.2.2.2.2.1, c93.2.2.2.2.2.1, c93.2.2.2.2.2.2.1, c93.2.2.2.2.2.2.2.1, c93.2.2.2.2.2.2.2.2.1, .i .u64 a18, c93.2.2.2.2.2.2.2.2.2.2.1, c93.2.2.2.2.2.2.2.2.2.2.2.1, c93.2.2.2.2.2.2.2.2.2.2.2.2.1]) : Rows))) 0 0 0
 else bif ((a16 : Int) == 1) then
 chk (((List.length (w92_2 : Rows)) : Nat) == w92_0) <|
 rowN [.a, .a, .a, .a, .a, .a, .a, .a, .a, .a, .a, .a, .a] w92_2 (0 + w69_2.toNat) fun c94 =>
 chk (((List.length ((List.set (w92_2 : Rows) (0 + w69_2.toNat) [c94.1, c94.2.1, c94.2.2.1, c94.2.2.2.1, c94.2.2.2.2.1, c94.2.2.2.2.2.1, c94.2.2.2.2.2.2.1, c94.2.2.2.2.2.2.2.1, c94.2.2.2.2.2.2.2.2.1, c94.2.2.2.2.2.2.2.2.2.1, .i .u64 a18, c94.2.2.2.2.2.2.2.2.2.2.2.1, c94.2.2.2.2.2.2.2.2.2.2.2.2.1]) : Rows)) : Nat) == w92_0) <|
 k0 true true [] false false (List.take w92_1 (List.drop 0 ((List.set (w92_2 : Rows) (0 + w69_2.toNat) [c94.1, c94.2.1, c94.2.2.1, c94.2.2.2.1, c94.2.2.2.2.1, c94.2.2.2.2.2.1, c94.2.2.2.2.2.2.1, c94.2.2.2.2.2.2.2.1, c94.2.2.2.2.2.2.2.2.1, c94.2.2.2.2.2.2.2.2.2.1, .i .u64 a18, c94.2.2.2.2.2.2.2.2.2.2.2.1, c94.2.2.2.2.2.2.2.2.2.2.2.2.1]) : Rows))) 0 0 0
 else bif ((a16 : Int) == 2) then
 chk (((List.length (w92_2 : Rows)) : Nat) == w92_0) <|
 rowN [.a, .a, .a, .a, .a, .a, .a, .a, .a, .a, .a, .a, .a] w92_2 (0 + w69_2.toNat) fun c95 =>
 chk (((List.length ((List.set (w92_2 : Rows) (0 + w69_2.toNat) [c95.1, c95.2.1, c95.2.2.1, c95.2.2.2.1, c95.2.2.2.2.1, c95.2.2.2.2.2.1, c95.2.2.2.2.2.2.1, c95.2.2.2.2.2.2.2.1, c95.2.2.2.2.2.2.2.2.1, c95.2.2.2.2.2.2.2.2.2.1, c95.2.2.2.2.2.2.2.2.2.2.1, .i .u64 a18, c95.2.2.2.2.2.2.2.2.2.2.2.2.1]) : Rows)) : Nat) == w92_0) <|
 k0 true true [] false false (List.take w92_1 (List.drop 0 ((List.set (w92_2 : Rows) (0 + w69_2.toNat) [c95.1, c95.2.1, c95.2.2.1, c95.2.2.2.1, c95.2.2.2.2.1, c95.2.2.2.2.2.1, c95.2.2.2.2.2.2.1, c95.2.2.2.2.2.2.2.1, c95.2.2.2.2.2.2.2.2.1, c95.2.2.2.2.2.2.2.2.2.1, c95.2.2.2.2.2.2.2.2.2.2.1, .i .u64 a18, c95.2.2.2.2.2.2.2.2.2.2.2.2.1]) : Rows))) 0 0 0
 else bif ((a16 : Int) == 3) then
 chk (((List.length (w92_2 : Rows)) : Nat) == w92_0) <|
 rowN [.a, .a, .a, .a, .a, .a, .a, .a, .a, .a, .a, .a, .a] w92_2 (0 + w69_2.toNat) fun c96 =>
 chk (((List.length ((List.set (w92_2 : Rows) (0 + w69_2.toNat) [c96.1, c96.2.1, c96.2.2.1, c96.2.2.2.1, c96.2.2.2.2.1, c96.2.2.2.2.2.1, c96.2.2.2.2.2.2.1, c96.2.2.2.2.2.2.2.1, c96.2.2.2.2.2.2.2.2.1, c96.2.2.2.2.2.2.2.2.2.1, c96.2.2.2.2.2.2.2.2.2.2.1, c96.2.2.2.2.2.2.2.2.2.2.2.1, .i .u64 a18]) : Rows)) : Nat) == w92_0) <|
 k0 true true [] false false (List.take w92_1 (List.drop 0 ((List.set (w92_2 : Rows) (0 + w69_2.toNat) [c96.1, c96.2.1, c96.2.2.1, c96.2.2.2.1, c96.2.2.2.2.1, c96.2.2.2.2.2.1, c96.2.2.2.2.2.2.1, c96.2.2.2.2.2.2.2.1, c96.2.2.2.2.2.2.2.2.1, c96.2.2.2.2.2.2.2.2.2.1, c96.2.2.2.2.2.2.2.2.2.2.1, c96.2.2.2.2.2.2.2.2.2.2.2.1, .i .u64 a18]) : Rows))) 0 0 0
 else none) (fun _w97_0 _w97_1 _w97_2 =>
 none) (fun w98_0 w98_1 w98_2 w98_3 w98_4 w98_5 =>
 chk (decide ((0 : Int) ≤ w69_2)) <|
 chk (decide ((w69_2 : Int) < ((w98_3 : Nat) : Int))) <|
 bif ((a16 : Int) == 0) then
 chk (((List.length (w98_5 : Rows)) : Nat) == w98_2) <|
 rowN [.a, .a, .a, .a, .a, .a, .a, .a, .a, .a, .a, .a, .a] w98_5 (0 + w69_2.toNat) fun c99 =>
 chk (((List.length (w98_4 : Rows)) : Nat) == w98_0) <|
 chk (((List.length ((List.set (w98_5 : Rows) (0 + w69_2.toNat) [c99.1, c99.2.1, c99.2.2.1, c99.2.2.2.1, c99.2.2.2.2.1, c99.2.2.2.2.2.1, c99.2.2.2.2.2.2.1, c99.2.2.2.2.2.2.2.1, c99.2.2.2.2.2.2.2.2.1, .i .u64 a18, c99.2.2.2.2.2.2.2.2.2.2.1, c99.2.2.2.2.2.2.2.2.2.2.2.1, c99.2.2.2.2.2.2.2.2.2.2.2.2.1]) : Rows)) : Nat) == w98_2) <|
 k0 false false (List.take w98_1 (List.drop 0 (w98_4 : Rows))) false false (List.take w98_3 (List.drop 0 ((List.set (w98_5 : Rows) (0 + w69_2.toNat) [c99.1, c99.2.1, c99.2.2.1, c99.2.2.2.1, c99.2.2.2.2.1, c99.2.2.2.2.2.1, c99.2.2.2.2.2.2.1, c99.2.2.2.2.2.2.2.1, c99.2.2.2.2.2.2.2.2.1, .i .u64 a18, c99.2.2.2.2.2.2.2.2.2.2.1, c99.2.2.2.2.2.2.2.2.2.2.2.1, c99.2.2.2.2.2.2.2.2.2.2.2.2.1]) : Rows))) 0 0 0
 else bif ((a16 : Int) == 1) then
 chk (((List.length (w98_5 : Rows)) : Nat) == w98_2) <|
 rowN [.a, .a, .a, .a, .a, .a, .a, .a, .a, .a, .a, .a, .a] w98_5 (0 + w69_2.toNat) fun c100 =>
 chk (((List.length (w98_4 : Rows)) : Nat) == w98_0) <|
 chk (((List.length ((List.set (w98_5 : Rows) (0 + w69_2.toNat) [c100.1, c100.2.1, c100.2.2.1, c100.2.2.2.1, c100.2.2.2.2.1, c100.2.2.2.2.2.1, c100.2.2.2.2.2.2.1, c100.2.2.2.2.2.2.2.1, c100.2.2.2.2.2.2.2.2.1, c100.2.2.2.2.2.2.2.2.2.1, .i .u64 a18, c100.2.2.2.2.2.2.2.2.2.2.2.1, c100.2.2.2.2.2.2.2.2.2.2.2.2.1]) : Rows)) : Nat) == w98_2) <|
 k0 false false (List.take w98_1 (List.drop 0 (w98_4 : Rows))) false false (List.take w98_3 (List.drop 0 ((List.set (w98_5 : Rows) (0 + w69_2.toNat) [c100.1, c100.2.1, c100.2.2.1, c100.2.2.2.1, c100.2.2.2.2.1, c100.2.2.2.2.2.1, c100.2.2.2.2.2.2.1, c100.2.2.2.2.2.2.2.1, c100.2.2.2.2.2.2.2.2.1, c100.2.2.2.2.2.2.2.2.2.1, .i .u64 a18, c100.2.2.2.2.2.2.2.2.2.2.2.1, c100.2.2.2.2.2.2.2.2.2.2.2.2.1]) : Rows))) 0 0 0
 else bif ((a16 : Int) == 2) then
 chk (((List.length (w98_5 : Rows)) : Nat) == w98_2) <|
 rowN [.a, .a, .a, .a, .a, .a, .a, .a, .a, .a, .a, .a, .a] w98_5 (0 + w69_2.toNat) fun c101 =>
 chk (((List.length (w98_4 : Rows)) : Nat) == w98_0) <|
 chk (((List.length ((List.set (w98_5 : Rows) (0 + w69_2.toNat) [c101.1, c101.2.1, c101.2.2.1, c101.2.2.2.1, c101.2.2.2.2.1, c101.2.2.2.2.2.1, c101.2.2.2.2.2.2.1, c101.2.2.2.2.2.2.2.1, c101.2.2.2.2.2.2.2.2.1, c101.2.2.2.2.2.2.2.2.2.1, c101.2.2.2.2.2.2.2.2.2.2.1, .i .u64 a18, c101.2.2.2.2.2.2.2.2.2.2.2.2.1]) : Rows)) : Nat) == w98_2) <|
 k0 false false (List.take w98_1 (List.drop 0 (w98_4 : Rows))) false false (List.take w98_3 (List.drop 0 ((List.set (w98_5 : Rows) (0 + w69_2.toNat) [c101.1, c101.2.1, c101.2.2.1, c101.2.2.2.1, c101.2.2.2.2.1, c101.2.2.2.2.2.1, c101.2.2.2.2.2.2.1, c101.2.2.2.2.2.2.2.1, c101.2.2.2.2.2.2.2.2.1, c101.2.2.2.2.2.2.2.2.2.1, c101.2.2.2.2.2.2.2.2.2.2.1, .i .u64 a18, c101.2.2.2.2.2.2.2.2.2.2.2.2.1]) : Rows))) 0 0 0
 else bif ((a16 : Int) == 3) then
 chk (((List.length (w98_5 : Rows)) : Nat) == w98_2) <|
 rowN [.a, .a, .a, .a, .a, .a, .a, .a, .a, .a, .a, .a, .a] w98_5 (0 + w69_2.toNat) fun c102 =>
 chk (((List.length (w98_4 : Rows)) : Nat) == w98_0) <|
 chk (((List.length ((List.set (w98_5 : Rows) (0 + w69_2.toNat) [c102.1, c102.2.1, c102.2.2.1, c102.2.2.2.1, c102.2.2.2.2.1, c102.2.2.2.2.2.1, c102.2.2.2.2.2.2.1, c102.2.2.2.2.2.2.2.1, c102.2.2.2.2.2.2.2.2.1, c102.2.2.2.2.2.2.2.2.2.1, c102.2.2.2.2.2.2.2.2.2.2.1, c102.2.2.2.2.2.2.2.2.2.2.2.1, .i .u64 a18]) : Rows)) : Nat) == w98_2) <|
 k0 false false (List.take w98_1 (List.drop 0 (w98_4 : Rows))) false false (List.take w98_3 (List.drop 0 ((List.set (w98_5 : Rows) (0 + w69_2.toNat) [c102.1, c102.2.1, c102.2.2.1, c102.2.2.2.1, c102.2.2.2.2.1, c102.2.2.2.2.2.1, c102.2.2.2.2.2.2.1, c102.2.2.2.2.2.2.2.1, c102.2.2.2.2.2.2.2.2.1, c102.2.2.2.2.2.2.2.2.2.1, c102.2.2.2.2.2.2.2.2.2.2.1, c102.2.2.2.2.2.2.2.2.2.2.2.1, .i .u64 a18]) : Rows))) 0 0 0
 else none)
 else k0 a3 a4 a5 a6 a7 a8 6 0 0))
 else k0 a3 a4 a5 a6 a7 a8 1 0 0)
noncomputable def Qv_g (n : Nat) : Qv_G := ⟨Q07 n, Qt n, Q0h n, Q8 n, Qj n, Qr n, Qu n⟩
noncomputable def Qv (n : Nat) : Qv_T := fun _ρ a0 a1 a2 a3 a4 a5 a6 a7 a8 a9 a10 a11 a12 a13 a14 a15 a16 a17 a18 k0 => Qv_s (Qv_g n) n a0 a1 a2 a3 a4 a5 a6 a7 a8 a9 a10 a11 a12 a13 a14 a15 a16 a17 a18 k0
noncomputable def Qv_e (n : Nat) : EK := Qv_E (Qv n)
def Qv_S (G : Qv_G) : CK := tabS [(27, Q07_E G.Q07), (16, Qt_E G.Qt), (33, Q0h_E G.Q0h), (25, Q8_E G.Q8), (34, Qj_E G.Qj), (28, Qr_E G.Qr), (29, Qu_E G.Qu)]
theorem Qv_Sok (n : Nat) : CK.OK (Qv_S (Qv_g n)) (L tab) := tabS_ok _ (List.forall_mem_cons.2 ⟨(Q07_ok n), List.forall_mem_cons.2 ⟨(Qt_ok n), List.forall_mem_cons.2 ⟨(Q0h_ok n), List.forall_mem_cons.2 ⟨(Q8_ok n), List.forall_mem_cons.2 ⟨(Qj_ok n), List.forall_mem_cons.2 ⟨(Qr_ok n), List.forall_mem_cons.2 ⟨(Qu_ok n), (fun _ h => nomatch h)⟩⟩⟩⟩⟩⟩⟩)
def Qv_hs : HintC := hintL [(91, [.i .i64, .i .i64, .i .i64, .i .i64, .i .i64, .i .i64, .i .i64, .b, .i .u64, .i .u64, .i .u64, .i .u64, .i .u64])]
noncomputable def Qv_lp (_G : Qv_G) (_n : Nat) : LK := tabL []
theorem Qv_k (G : Qv_G) {ρ : Type} (n : Nat) (a0 a1 a2 : Int) (a3 a4 : Bool) (a5 : Rows) (a6 a7 : Bool) (a8 : Rows) (a9 a10 : Int) (a11 a12 : Bool) (a13 : Rows) (a14 a15 : Bool) (a16 a17 a18 : Int) (K : Res → Option ρ) : runC (Qv_S G) Qv_hs (Qv_lp G n) m15 [.agg [.i .i64 a0, .i .i64 a1, .i .i64 a2, .lst a3 a4 5 a5, .lst a6 a7 13 a8], .i .i64 a9, .agg [.i .i64 a10, .lst a11 a12 1 a13, .lst a14 a15 0 [], .i .i64 a16, .i .i64 a17, .i .u64 a18]] K = Qv_s G n a0 a1 a2 a3 a4 a5 a6 a7 a8 a9 a10 a11 a12 a13 a14 a15 a16 a17 a18 (fun w0 w1 w2 w3 w4 w5 w6 w7 w8 => K ⟨.tup [.agg [.i .i64 a0, .i .i64 a1, .i .i64 a2, .lst w0 w1 5 w2, .lst w3 w4 13 w5], .agg [.i .i64 w6, .i .u64 w7, .i .i64 w8]], [], []⟩) := by kernel_rfl
theorem Qv_ok (n : Nat) : EK.OK (Qv_e n) 15 (L tab) := EK.shp (fun _ _ _ => rfl) fun ρ K y c e => EK.run (Qv_Sok n) (by kernel_rfl) (MF.LKOK.of (LK.of (l := []) (by kernel_rfl) ((fun _ h => nomatch h)))) (Qv_k (Qv_g n) n _ _ _ _ _ _ _ _ _ _ _ _ _ _ _ _ _ _ _ K) (by kernel_rfl) e
abbrev Q0g_T : Type 1 := (ρ : Type) → (Bool → Option ρ) → Option ρ
def Q0g_E (G : Q0g_T) : EK := fun ρ args K => decL [] args fun _c => G ρ (fun w0 => K ⟨.b w0, [], []⟩)
structure Q0g_G where
 mk ::
 Q0l : Q0l_T
 reevelaw20_way : reevelaw20_way_T
 Qv : Qv_T
noncomputable def Q0g_s (G : Q0g_G) {ρ : Type} (_n : Nat)  (k0 : (Bool → Option ρ)) : Option ρ :=
 G.Q0l ρ (fun w0_0 w0_1 w0_2 w0_3 w0_4 w0_5 w0_6 w0_7 w0_8 =>
 G.reevelaw20_way ρ false false ([[.i .i64 3]]) (bs (stayR ⟨.agg [.lst false false 1 ([[.i .i64 3]])], [], []⟩) <|
 G.Qv ρ w0_0 w0_1 w0_2 w0_3 w0_4 w0_5 w0_6 w0_7 w0_8 0 11 false false ([[.i .i64 3]]) true true 2 0 77 (fun w2_0 w2_1 w2_2 w2_3 w2_4 w2_5 w2_6 w2_7 w2_8 =>
 G.reevelaw20_way ρ false false ([[.i .i64 4]]) (bs (stayR ⟨.agg [.lst false false 1 ([[.i .i64 4]])], [], []⟩) <|
 G.Qv ρ w0_0 w0_1 w0_2 w2_0 w2_1 w2_2 w2_3 w2_4 w2_5 0 12 false false ([[.i .i64 4]]) true true 2 0 0 (fun _w4_0 _w4_1 _w4_2 _w4_3 _w4_4 _w4_5 w4_6 w4_7 w4_8 =>
 bif (((w2_6 : Int) == 0) && (((w2_7 : Int) == 0) && (((w2_8 : Int) == 0) && true))) then
 bif (((w4_6 : Int) == 0) && (((w4_7 : Int) == 77) && (((w4_8 : Int) == 0) && true))) then
 k0 true
 else k0 false
 else k0 false)))))
noncomputable def Q0g_g (n : Nat) : Q0g_G := ⟨Q0l n, reevelaw20_way n, Qv n⟩
noncomputable def Q0g (n : Nat) : Q0g_T := fun _ρ k0 => Q0g_s (Q0g_g n) n k0
noncomputable def Q0g_e (n : Nat) : EK := Q0g_E (Q0g n)
def Q0g_S (G : Q0g_G) : CK := tabS [(32, Q0l_E G.Q0l), (13, reevelaw20_way_E G.reevelaw20_way), (15, Qv_E G.Qv)]
theorem Q0g_Sok (n : Nat) : CK.OK (Q0g_S (Q0g_g n)) (L tab) := tabS_ok _ (List.forall_mem_cons.2 ⟨(Q0l_ok n), List.forall_mem_cons.2 ⟨(reevelaw20_way_ok n), List.forall_mem_cons.2 ⟨(Qv_ok n), (fun _ h => nomatch h)⟩⟩⟩)
def Q0g_hs : HintC := hintL []
noncomputable def Q0g_lp (_G : Q0g_G) (_n : Nat) : LK := tabL []
theorem Q0g_k (G : Q0g_G) {ρ : Type} (n : Nat)  (K : Res → Option ρ) : runC (Q0g_S G) Q0g_hs (Q0g_lp G n) m12 [] K = Q0g_s G n  (fun w0 => K ⟨.b w0, [], []⟩) := by kernel_rfl
theorem Q0g_ok (n : Nat) : EK.OK (Q0g_e n) 12 (L tab) := EK.shp (fun _ _ _ => rfl) fun ρ K y c e => EK.run (Q0g_Sok n) (by kernel_rfl) (MF.LKOK.of (LK.of (l := []) (by kernel_rfl) ((fun _ h => nomatch h)))) (Q0g_k (Q0g_g n) n  K) (by kernel_rfl) e
abbrev reevelaw20_heavy_T : Type 1 := (ρ : Type) → Int → Int → Int → Bool → Bool → Rows → Bool → Bool → Rows → Int → Bool → Bool → Rows → Bool → Bool → Int → Int → Int → (Bool → Option ρ) → Option ρ
def reevelaw20_heavy_E (G : reevelaw20_heavy_T) : EK := fun ρ args K => decL [.agg [.i .i64 none, .i .i64 none, .i .i64 none, .lst none none 5 none, .lst none none 13 none], .agg [.i .i64 none, .lst none none 1 none, .lst none none 0 (some []), .i .i64 none, .i .i64 none, .i .u64 none]] args fun c => G ρ c.1.1 c.1.2.1 c.1.2.2.1 c.1.2.2.2.1.1 c.1.2.2.2.1.2.1 c.1.2.2.2.1.2.2 c.1.2.2.2.2.1.1 c.1.2.2.2.2.1.2.1 c.1.2.2.2.2.1.2.2 c.2.1.1 c.2.1.2.1.1 c.2.1.2.1.2.1 c.2.1.2.1.2.2 c.2.1.2.2.1.1 c.2.1.2.2.1.2.1 c.2.1.2.2.2.1 c.2.1.2.2.2.2.1 c.2.1.2.2.2.2.2.1 (fun w0 => K ⟨.b w0, [], []⟩)
structure reevelaw20_heavy_G where
 mk ::
noncomputable def reevelaw20_heavy_s (_G : reevelaw20_heavy_G) {ρ : Type} (_n : Nat) (_a0 _a1 _a2 : Int) (_a3 _a4 : Bool) (a5 : Rows) (_a6 _a7 : Bool) (a8 : Rows) (_a9 : Int) (_a10 _a11 : Bool) (a12 : Rows) (_a13 _a14 : Bool) (_a15 _a16 _a17 : Int) (k0 : (Bool → Option ρ)) : Option ρ :=
 bif decide (((((List.length (a5 : Rows)) : Nat) : Int) : Int) > 100) then
 k0 true
 else bif decide (((((List.length (a8 : Rows)) : Nat) : Int) : Int) > 50) then
 k0 true
 else bif decide (((((List.length (a12 : Rows)) : Nat) : Int) : Int) > 10) then
 k0 true
 else k0 false
noncomputable def reevelaw20_heavy_g (_n : Nat) : reevelaw20_heavy_G := ⟨⟩
noncomputable def reevelaw20_heavy (n : Nat) : reevelaw20_heavy_T := fun _ρ a0 a1 a2 a3 a4 a5 a6 a7 a8 a9 a10 a11 a12 a13 a14 a15 a16 a17 k0 => reevelaw20_heavy_s (reevelaw20_heavy_g n) n a0 a1 a2 a3 a4 a5 a6 a7 a8 a9 a10 a11 a12 a13 a14 a15 a16 a17 k0
noncomputable def reevelaw20_heavy_e (n : Nat) : EK := reevelaw20_heavy_E (reevelaw20_heavy n)
def reevelaw20_heavy_S (_G : reevelaw20_heavy_G) : CK := tabS []
theorem reevelaw20_heavy_Sok (n : Nat) : CK.OK (reevelaw20_heavy_S (reevelaw20_heavy_g n)) (L tab) := tabS_ok _ ((fun _ h => nomatch h))
def reevelaw20_heavy_hs : HintC := hintL []
noncomputable def reevelaw20_heavy_lp (_G : reevelaw20_heavy_G) (_n : Nat) : LK := tabL []
theorem reevelaw20_heavy_k (G : reevelaw20_heavy_G) {ρ : Type} (n : Nat) (a0 a1 a2 : Int) (a3 a4 : Bool) (a5 : Rows) (a6 a7 : Bool) (a8 : Rows) (a9 : Int) (a10 a11 : Bool) (a12 : Rows) (a13 a14 : Bool) (a15 a16 a17 : Int) (K : Res → Option ρ) : runC (reevelaw20_heavy_S G) reevelaw20_heavy_hs (reevelaw20_heavy_lp G n) m14 [.agg [.i .i64 a0, .i .i64 a1, .i .i64 a2, .lst a3 a4 5 a5, .lst a6 a7 13 a8], .agg [.i .i64 a9, .lst a10 a11 1 a12, .lst a13 a14 0 [], .i .i64 a15, .i .i64 a16, .i .u64 a17]] K = reevelaw20_heavy_s G n a0 a1 a2 a3 a4 a5 a6 a7 a8 a9 a10 a11 a12 a13 a14 a15 a16 a17 (fun w0 => K ⟨.b w0, [], []⟩) := by kernel_rfl
theorem reevelaw20_heavy_ok (n : Nat) : EK.OK (reevelaw20_heavy_e n) 14 (L tab) := EK.shp (fun _ _ _ => rfl) fun ρ K y c e => EK.run (reevelaw20_heavy_Sok n) (by kernel_rfl) (MF.LKOK.of (LK.of (l := []) (by kernel_rfl) ((fun _ h => nomatch h)))) (reevelaw20_heavy_k (reevelaw20_heavy_g n) n _ _ _ _ _ _ _ _ _ _ _ _ _ _ _ _ _ _ K) (by kernel_rfl) e
abbrev slices_Equal_Slot_T : Type 1 := (ρ : Type) → Bool → Bool → Rows → Bool → Bool → Rows → (Bool → Option ρ) → Option ρ
def slices_Equal_Slot_E (G : slices_Equal_Slot_T) : EK := fun ρ args K => decL [.lst none none 5 none, .lst none none 5 none] args fun c => G ρ c.1.1 c.1.2.1 c.1.2.2 c.2.1.1 c.2.1.2.1 c.2.1.2.2 (fun w0 => K ⟨.b w0, [], []⟩)
structure slices_Equal_Slot_G where
 mk ::
abbrev slices_Equal_Slot_l4_V : Type := Int
noncomputable def slices_Equal_Slot_l4_s (_G : slices_Equal_Slot_G) {ρ : Type} (_n : Nat) (_p0 _p1 : Bool) (p2 : Rows) (_p3 _p4 : Bool) (p5 : Rows) (p6 : Int) (k0 : (Option ρ)) (k1 : (Option ρ)) (rec' : slices_Equal_Slot_l4_V → Option ρ) : slices_Equal_Slot_l4_V → Option ρ
 | v =>
 bif decide ((v : Int) < p6) then
 rowT [.i .i64, .i .i64, .i .i64, .i .i64, .i .i64] p2 v fun c0 =>
 rowT [.i .i64, .i .i64, .i .i64, .i .i64, .i .i64] p5 v fun c1 =>
 bif (!(((c0.1 : Int) == c1.1) && (((c0.2.1 : Int) == c1.2.1) && (((c0.2.2.1 : Int) == c1.2.2.1) && (((c0.2.2.2.1 : Int) == c1.2.2.2.1) && (((c0.2.2.2.2.1 : Int) == c1.2.2.2.2.1) && true)))))) then
 k0
 else rec' ((IntKind.wrap .i64 (v + 1)))
 else k1
noncomputable def slices_Equal_Slot_l4 (G : slices_Equal_Slot_G) {ρ : Type} (n : Nat) (p0 p1 : Bool) (p2 : Rows) (p3 p4 : Bool) (p5 : Rows) (p6 : Int) (k0 : (Option ρ)) (k1 : (Option ρ)) (v : slices_Equal_Slot_l4_V) : Option ρ := fuelN (slices_Equal_Slot_l4_s G n p0 p1 p2 p3 p4 p5 p6 k0 k1) n v
def slices_Equal_Slot_l4_enc (p0 p1 : Bool) (p2 : Rows) (p3 p4 : Bool) (p5 : Rows) (p6 : Int) : slices_Equal_Slot_l4_V → St
 | v => ⟨[(0, .lst p0 p1 5 p2), (1, .lst p3 p4 5 p5), (12, .i .i64 p6), (13, .i .i64 v)], []⟩
noncomputable def slices_Equal_Slot_s (G : slices_Equal_Slot_G) {ρ : Type} (n : Nat) (a0 a1 : Bool) (a2 : Rows) (a3 a4 : Bool) (a5 : Rows) (k0 : (Bool → Option ρ)) : Option ρ :=
 bif (((((List.length (a2 : Rows)) : Nat) : Int) : Int) != (((List.length (a5 : Rows)) : Nat) : Int)) then
 k0 false
 else slices_Equal_Slot_l4 G n a0 a1 a2 a3 a4 a5 (((List.length (a2 : Rows)) : Nat) : Int) (k0 false) (k0 true) (0)
noncomputable def slices_Equal_Slot_g (_n : Nat) : slices_Equal_Slot_G := ⟨⟩
noncomputable def slices_Equal_Slot (n : Nat) : slices_Equal_Slot_T := fun _ρ a0 a1 a2 a3 a4 a5 k0 => slices_Equal_Slot_s (slices_Equal_Slot_g n) n a0 a1 a2 a3 a4 a5 k0
noncomputable def slices_Equal_Slot_e (n : Nat) : EK := slices_Equal_Slot_E (slices_Equal_Slot n)
def slices_Equal_Slot_S (_G : slices_Equal_Slot_G) : CK := tabS []
theorem slices_Equal_Slot_Sok (n : Nat) : CK.OK (slices_Equal_Slot_S (slices_Equal_Slot_g n)) (L tab) := tabS_ok _ ((fun _ h => nomatch h))
def slices_Equal_Slot_hs : HintC := hintL [(18, [.i .i64, .i .i64, .i .i64, .i .i64, .i .i64]), (22, [.i .i64, .i .i64, .i .i64, .i .i64, .i .i64])]
def slices_Equal_Slot_c4 : Nat × List Nat × List Nat × MC := loopAt 4 m30
noncomputable def slices_Equal_Slot_l4_d (G : slices_Equal_Slot_G) (n : Nat) : Go.Rv.LE := fun _ρ h K => decSt [(0, .lst none none 5 none), (1, .lst none none 5 none), (12, .i .i64 none), (13, .i .i64 none)] [] h fun a _b => slices_Equal_Slot_l4 G n a.1.1 a.1.2.1 a.1.2.2 a.2.1.1 a.2.1.2.1 a.2.1.2.2 a.2.2.1 (K .ret ⟨[(4, .b false)], []⟩) (K (.exit 0) ⟨[(4, .u)], []⟩) (a.2.2.2.1)
noncomputable def slices_Equal_Slot_d4 (G : slices_Equal_Slot_G) (n : Nat) : Go.Rv.LE := slices_Equal_Slot_l4_d G n
noncomputable def slices_Equal_Slot_lp (G : slices_Equal_Slot_G) (n : Nat) : LK := tabL [(4, slices_Equal_Slot_d4 G n)]
theorem slices_Equal_Slot_l4_k (G : slices_Equal_Slot_G) {ρ : Type} (n : Nat) (p0 p1 : Bool) (p2 : Rows) (p3 p4 : Bool) (p5 : Rows) (p6 : Int) (K : Ex → St → Option ρ) (N : St → Option ρ) : ∀ v, roundC (slices_Equal_Slot_S G) slices_Equal_Slot_hs (slices_Equal_Slot_lp G n) slices_Equal_Slot_c4 0 N K (slices_Equal_Slot_l4_enc p0 p1 p2 p3 p4 p5 p6 v) = slices_Equal_Slot_l4_s G n p0 p1 p2 p3 p4 p5 p6 (K .ret ⟨[(4, .b false)], []⟩) (K (.exit 0) ⟨[(4, .u)], []⟩) (fun v => N (slices_Equal_Slot_l4_enc p0 p1 p2 p3 p4 p5 p6 v)) v
 | v => by kernel_rfl
theorem slices_Equal_Slot_l4_dok (n : Nat) : LE.OK (slices_Equal_Slot_l4_d (slices_Equal_Slot_g n) n) (L tab) slices_Equal_Slot_c4 := LE.shp (fun _ _ _ => rfl) fun ρ K y a b e => LE.rounds (slices_Equal_Slot_Sok n) (LK.of (l := []) (by kernel_rfl) ((fun _ h => nomatch h))) (slices_Equal_Slot_l4_k (slices_Equal_Slot_g n) n _ _ _ _ _ _ _ K) (by kernel_rfl) (by kernel_rfl) e
theorem slices_Equal_Slot_d4_ok (n : Nat) : LE.OK (slices_Equal_Slot_d4 (slices_Equal_Slot_g n) n) (L tab) slices_Equal_Slot_c4 := slices_Equal_Slot_l4_dok n
theorem slices_Equal_Slot_k (G : slices_Equal_Slot_G) {ρ : Type} (n : Nat) (a0 a1 : Bool) (a2 : Rows) (a3 a4 : Bool) (a5 : Rows) (K : Res → Option ρ) : runC (slices_Equal_Slot_S G) slices_Equal_Slot_hs (slices_Equal_Slot_lp G n) m30 [.lst a0 a1 5 a2, .lst a3 a4 5 a5] K = slices_Equal_Slot_s G n a0 a1 a2 a3 a4 a5 (fun w0 => K ⟨.b w0, [], []⟩) := by kernel_rfl
theorem slices_Equal_Slot_ok (n : Nat) : EK.OK (slices_Equal_Slot_e n) 30 (L tab) := EK.shp (fun _ _ _ => rfl) fun ρ K y c e => EK.run (slices_Equal_Slot_Sok n) (by kernel_rfl) (MF.LKOK.of (LK.of (l := [slices_Equal_Slot_c4]) (by kernel_rfl) (List.forall_mem_cons.2 ⟨LE.at (e := slices_Equal_Slot_d4 (slices_Equal_Slot_g n) n) (by kernel_rfl) (slices_Equal_Slot_d4_ok n), (fun _ h => nomatch h)⟩))) (slices_Equal_Slot_k (slices_Equal_Slot_g n) n _ _ _ _ _ _ K) (by kernel_rfl) e
abbrev slices_Equal_Thing_T : Type 1 := (ρ : Type) → Bool → Bool → Rows → Bool → Bool → Rows → (Bool → Option ρ) → Option ρ
def slices_Equal_Thing_E (G : slices_Equal_Thing_T) : EK := fun ρ args K => decL [.lst none none 13 none, .lst none none 13 none] args fun c => G ρ c.1.1 c.1.2.1 c.1.2.2 c.2.1.1 c.2.1.2.1 c.2.1.2.2 (fun w0 => K ⟨.b w0, [], []⟩)
structure slices_Equal_Thing_G where
 mk ::
abbrev slices_Equal_Thing_l4_V : Type := Int
noncomputable def slices_Equal_Thing_l4_s (_G : slices_Equal_Thing_G) {ρ : Type} (_n : Nat) (_p0 _p1 : Bool) (p2 : Rows) (_p3 _p4 : Bool) (p5 : Rows) (p6 : Int) (k0 : (Option ρ)) (k1 : (Option ρ)) (rec' : slices_Equal_Thing_l4_V → Option ρ) : slices_Equal_Thing_l4_V → Option ρ
 | v =>
 bif decide ((v : Int) < p6) then
 rowT [.i .i64, .i .i64, .i .i64, .i .i64, .i .i64, .i .i64, .i .i64, .b, .i .u64, .i .u64, .i .u64, .i .u64, .i .u64] p2 v fun c0 =>
 rowT [.i .i64, .i .i64, .i .i64, .i .i64, .i .i64, .i .i64, .i .i64, .b, .i .u64, .i .u64, .i .u64, .i .u64, .i .u64] p5 v fun c1 =>
 bif (!(((c0.1 : Int) == c1.1) && (((c0.2.1 : Int) == c1.2.1) && (((c0.2.2.1 : Int) == c1.2.2.1) && (((c0.2.2.2.1 : Int) == c1.2.2.2.1) && (((c0.2.2.2.2.1 : Int) == c1.2.2.2.2.1) && (((c0.2.2.2.2.2.1 : Int) == c1.2.2.2.2.2.1) && (((c0.2.2.2.2.2.2.1 : Int) == c1.2.2.2.2.2.2.1) && (((c0.2.2.2.2.2.2.2.1 : Bool) == c1.2.2.2.2.2.2.2.1) && (((c0.2.2.2.2.2.2.2.2.1 : Int) == c1.2.2.2.2.2.2.2.2.1) && (((c0.2.2.2.2.2.2.2.2.2.1 : Int) == c1.2.2.2.2.2.2.2.2.2.1) && (((c0.2.2.2.2.2.2.2.2.2.2.1 : Int) == c1.2.2.2.2.2.2.2.2.2.2.1) && (((c0.2.2.2.2.2.2.2.2.2.2.2.1 : Int) == c1.2.2.2.2.2.2.2.2.2.2.2.1) && (((c0.2.2.2.2.2.2.2.2.2.2.2.2.1 : Int) == c1.2.2.2.2.2.2.2.2.2.2.2.2.1) && true)))))))))))))) then
 k0
 else rec' ((IntKind.wrap .i64 (v + 1)))
 else k1
noncomputable def slices_Equal_Thing_l4 (G : slices_Equal_Thing_G) {ρ : Type} (n : Nat) (p0 p1 : Bool) (p2 : Rows) (p3 p4 : Bool) (p5 : Rows) (p6 : Int) (k0 : (Option ρ)) (k1 : (Option ρ)) (v : slices_Equal_Thing_l4_V) : Option ρ := fuelN (slices_Equal_Thing_l4_s G n p0 p1 p2 p3 p4 p5 p6 k0 k1) n v
def slices_Equal_Thing_l4_enc (p0 p1 : Bool) (p2 : Rows) (p3 p4 : Bool) (p5 : Rows) (p6 : Int) : slices_Equal_Thing_l4_V → St
 | v => ⟨[(0, .lst p0 p1 13 p2), (1, .lst p3 p4 13 p5), (12, .i .i64 p6), (13, .i .i64 v)], []⟩
noncomputable def slices_Equal_Thing_s (G : slices_Equal_Thing_G) {ρ : Type} (n : Nat) (a0 a1 : Bool) (a2 : Rows) (a3 a4 : Bool) (a5 : Rows) (k0 : (Bool → Option ρ)) : Option ρ :=
 bif (((((List.length (a2 : Rows)) : Nat) : Int) : Int) != (((List.length (a5 : Rows)) : Nat) : Int)) then
 k0 false
 else slices_Equal_Thing_l4 G n a0 a1 a2 a3 a4 a5 (((List.length (a2 : Rows)) : Nat) : Int) (k0 false) (k0 true) (0)
noncomputable def slices_Equal_Thing_g (_n : Nat) : slices_Equal_Thing_G := ⟨⟩
noncomputable def slices_Equal_Thing (n : Nat) : slices_Equal_Thing_T := fun _ρ a0 a1 a2 a3 a4 a5 k0 => slices_Equal_Thing_s (slices_Equal_Thing_g n) n a0 a1 a2 a3 a4 a5 k0
noncomputable def slices_Equal_Thing_e (n : Nat) : EK := slices_Equal_Thing_E (slices_Equal_Thing n)
def slices_Equal_Thing_S (_G : slices_Equal_Thing_G) : CK := tabS []
theorem slices_Equal_Thing_Sok (n : Nat) : CK.OK (slices_Equal_Thing_S (slices_Equal_Thing_g n)) (L tab) := tabS_ok _ ((fun _ h => nomatch h))
def slices_Equal_Thing_hs : HintC := hintL [(18, [.i .i64, .i .i64, .i .i64, .i .i64, .i .i64, .i .i64, .i .i64, .b, .i .u64, .i .u64, .i .u64, .i .u64, .i .u64]), (22, [.i .i64, .i .i64, .i .i64, .i .i64, .i .i64, .i .i64, .i .i64, .b, .i .u64, .i .u64, .i .u64, .i .u64, .i .u64])]
def slices_Equal_Thing_c4 : Nat × List Nat × List Nat × MC := loopAt 4 m31
noncomputable def slices_Equal_Thing_l4_d (G : slices_Equal_Thing_G) (n : Nat) : Go.Rv.LE := fun _ρ h K => decSt [(0, .lst none none 13 none), (1, .lst none none 13 none), (12, .i .i64 none), (13, .i .i64 none)] [] h fun a _b => slices_Equal_Thing_l4 G n a.1.1 a.1.2.1 a.1.2.2 a.2.1.1 a.2.1.2.1 a.2.1.2.2 a.2.2.1 (K .ret ⟨[(4, .b false)], []⟩) (K (.exit 0) ⟨[(4, .u)], []⟩) (a.2.2.2.1)
noncomputable def slices_Equal_Thing_d4 (G : slices_Equal_Thing_G) (n : Nat) : Go.Rv.LE := slices_Equal_Thing_l4_d G n
noncomputable def slices_Equal_Thing_lp (G : slices_Equal_Thing_G) (n : Nat) : LK := tabL [(4, slices_Equal_Thing_d4 G n)]
theorem slices_Equal_Thing_l4_k (G : slices_Equal_Thing_G) {ρ : Type} (n : Nat) (p0 p1 : Bool) (p2 : Rows) (p3 p4 : Bool) (p5 : Rows) (p6 : Int) (K : Ex → St → Option ρ) (N : St → Option ρ) : ∀ v, roundC (slices_Equal_Thing_S G) slices_Equal_Thing_hs (slices_Equal_Thing_lp G n) slices_Equal_Thing_c4 0 N K (slices_Equal_Thing_l4_enc p0 p1 p2 p3 p4 p5 p6 v) = slices_Equal_Thing_l4_s G n p0 p1 p2 p3 p4 p5 p6 (K .ret ⟨[(4, .b false)], []⟩) (K (.exit 0) ⟨[(4, .u)], []⟩) (fun v => N (slices_Equal_Thing_l4_enc p0 p1 p2 p3 p4 p5 p6 v)) v
 | v => by kernel_rfl
theorem slices_Equal_Thing_l4_dok (n : Nat) : LE.OK (slices_Equal_Thing_l4_d (slices_Equal_Thing_g n) n) (L tab) slices_Equal_Thing_c4 := LE.shp (fun _ _ _ => rfl) fun ρ K y a b e => LE.rounds (slices_Equal_Thing_Sok n) (LK.of (l := []) (by kernel_rfl) ((fun _ h => nomatch h))) (slices_Equal_Thing_l4_k (slices_Equal_Thing_g n) n _ _ _ _ _ _ _ K) (by kernel_rfl) (by kernel_rfl) e
theorem slices_Equal_Thing_d4_ok (n : Nat) : LE.OK (slices_Equal_Thing_d4 (slices_Equal_Thing_g n) n) (L tab) slices_Equal_Thing_c4 := slices_Equal_Thing_l4_dok n
theorem slices_Equal_Thing_k (G : slices_Equal_Thing_G) {ρ : Type} (n : Nat) (a0 a1 : Bool) (a2 : Rows) (a3 a4 : Bool) (a5 : Rows) (K : Res → Option ρ) : runC (slices_Equal_Thing_S G) slices_Equal_Thing_hs (slices_Equal_Thing_lp G n) m31 [.lst a0 a1 13 a2, .lst a3 a4 13 a5] K = slices_Equal_Thing_s G n a0 a1 a2 a3 a4 a5 (fun w0 => K ⟨.b w0, [], []⟩) := by kernel_rfl
theorem slices_Equal_Thing_ok (n : Nat) : EK.OK (slices_Equal_Thing_e n) 31 (L tab) := EK.shp (fun _ _ _ => rfl) fun ρ K y c e => EK.run (slices_Equal_Thing_Sok n) (by kernel_rfl) (MF.LKOK.of (LK.of (l := [slices_Equal_Thing_c4]) (by kernel_rfl) (List.forall_mem_cons.2 ⟨LE.at (e := slices_Equal_Thing_d4 (slices_Equal_Thing_g n) n) (by kernel_rfl) (slices_Equal_Thing_d4_ok n), (fun _ h => nomatch h)⟩))) (slices_Equal_Thing_k (slices_Equal_Thing_g n) n _ _ _ _ _ _ K) (by kernel_rfl) e
abbrev Q0c_T : Type 1 := (ρ : Type) → Int → Int → Int → Bool → Bool → Rows → Bool → Bool → Rows → Int → Int → Int → Bool → Bool → Rows → Bool → Bool → Rows → (Bool → Option ρ) → Option ρ
def Q0c_E (G : Q0c_T) : EK := fun ρ args K => decL [.agg [.i .i64 none, .i .i64 none, .i .i64 none, .lst none none 5 none, .lst none none 13 none], .agg [.i .i64 none, .i .i64 none, .i .i64 none, .lst none none 5 none, .lst none none 13 none]] args fun c => G ρ c.1.1 c.1.2.1 c.1.2.2.1 c.1.2.2.2.1.1 c.1.2.2.2.1.2.1 c.1.2.2.2.1.2.2 c.1.2.2.2.2.1.1 c.1.2.2.2.2.1.2.1 c.1.2.2.2.2.1.2.2 c.2.1.1 c.2.1.2.1 c.2.1.2.2.1 c.2.1.2.2.2.1.1 c.2.1.2.2.2.1.2.1 c.2.1.2.2.2.1.2.2 c.2.1.2.2.2.2.1.1 c.2.1.2.2.2.2.1.2.1 c.2.1.2.2.2.2.1.2.2 (fun w0 => K ⟨.b w0, [], []⟩)
structure Q0c_G where
 mk ::
 slices_Equal_Slot : slices_Equal_Slot_T
 slices_Equal_Thing : slices_Equal_Thing_T
noncomputable def Q0c_s (G : Q0c_G) {ρ : Type} (_n : Nat) (a0 a1 a2 : Int) (a3 a4 : Bool) (a5 : Rows) (a6 a7 : Bool) (a8 : Rows) (a9 a10 a11 : Int) (a12 a13 : Bool) (a14 : Rows) (a15 a16 : Bool) (a17 : Rows) (k0 : (Bool → Option ρ)) : Option ρ :=
 bif (((a0 : Int) == a9) && (((a1 : Int) == a10) && (((a2 : Int) == a11) && true))) then
 G.slices_Equal_Slot ρ a3 a4 a5 a12 a13 a14 (fun w0_0 =>
 bif w0_0 then
 G.slices_Equal_Thing ρ a6 a7 a8 a15 a16 a17 (fun w1_0 =>
 bif w1_0 then
 k0 true
 else k0 false)
 else k0 false)
 else k0 false
noncomputable def Q0c_g (n : Nat) : Q0c_G := ⟨slices_Equal_Slot n, slices_Equal_Thing n⟩
noncomputable def Q0c (n : Nat) : Q0c_T := fun _ρ a0 a1 a2 a3 a4 a5 a6 a7 a8 a9 a10 a11 a12 a13 a14 a15 a16 a17 k0 => Q0c_s (Q0c_g n) n a0 a1 a2 a3 a4 a5 a6 a7 a8 a9 a10 a11 a12 a13 a14 a15 a16 a17 k0
noncomputable def Q0c_e (n : Nat) : EK := Q0c_E (Q0c n)
def Q0c_S (G : Q0c_G) : CK := tabS [(30, slices_Equal_Slot_E G.slices_Equal_Slot), (31, slices_Equal_Thing_E G.slices_Equal_Thing)]
theorem Q0c_Sok (n : Nat) : CK.OK (Q0c_S (Q0c_g n)) (L tab) := tabS_ok _ (List.forall_mem_cons.2 ⟨(slices_Equal_Slot_ok n), List.forall_mem_cons.2 ⟨(slices_Equal_Thing_ok n), (fun _ h => nomatch h)⟩⟩)
def Q0c_hs : HintC := hintL []
noncomputable def Q0c_lp (_G : Q0c_G) (_n : Nat) : LK := tabL []
theorem Q0c_k (G : Q0c_G) {ρ : Type} (n : Nat) (a0 a1 a2 : Int) (a3 a4 : Bool) (a5 : Rows) (a6 a7 : Bool) (a8 : Rows) (a9 a10 a11 : Int) (a12 a13 : Bool) (a14 : Rows) (a15 a16 : Bool) (a17 : Rows) (K : Res → Option ρ) : runC (Q0c_S G) Q0c_hs (Q0c_lp G n) m11 [.agg [.i .i64 a0, .i .i64 a1, .i .i64 a2, .lst a3 a4 5 a5, .lst a6 a7 13 a8], .agg [.i .i64 a9, .i .i64 a10, .i .i64 a11, .lst a12 a13 5 a14, .lst a15 a16 13 a17]] K = Q0c_s G n a0 a1 a2 a3 a4 a5 a6 a7 a8 a9 a10 a11 a12 a13 a14 a15 a16 a17 (fun w0 => K ⟨.b w0, [], []⟩) := by kernel_rfl
theorem Q0c_ok (n : Nat) : EK.OK (Q0c_e n) 11 (L tab) := EK.shp (fun _ _ _ => rfl) fun ρ K y c e => EK.run (Q0c_Sok n) (by kernel_rfl) (MF.LKOK.of (LK.of (l := []) (by kernel_rfl) ((fun _ h => nomatch h)))) (Q0c_k (Q0c_g n) n _ _ _ _ _ _ _ _ _ _ _ _ _ _ _ _ _ _ K) (by kernel_rfl) e
end Go.Rv
namespace Go.Rv
abbrev Qk_T : Type 1 := (ρ : Type) → Int → Int → Int → Bool → Bool → Rows → Bool → Bool → Rows → Int → Bool → Bool → Rows → Int → Int → (Bool → Option ρ) → Option ρ
def Qk_E (G : Qk_T) : EK := fun ρ args K => decL [.agg [.i .i64 none, .i .i64 none, .i .i64 none, .lst none none 5 none, .lst none none 13 none], .i .i64 none, .lst none none 1 none, .i .i64 none, .i .u64 none] args fun c => G ρ c.1.1 c.1.2.1 c.1.2.2.1 c.1.2.2.2.1.1 c.1.2.2.2.1.2.1 c.1.2.2.2.1.2.2 c.1.2.2.2.2.1.1 c.1.2.2.2.2.1.2.1 c.1.2.2.2.2.1.2.2 c.2.1 c.2.2.1.1 c.2.2.1.2.1 c.2.2.1.2.2 c.2.2.2.1 c.2.2.2.2.1 (fun w0 => K ⟨.b w0, [], []⟩)
structure Qk_G where
 mk ::
 Q0g : Q0g_T
 reevelaw20_way : reevelaw20_way_T
 reevelaw20_heavy : reevelaw20_heavy_T
 Qf : Qf_T
 Qv : Qv_T
 Q0c : Q0c_T
 Qt : Qt_T
abbrev Qk_l13_V : Type := Int
noncomputable def Qk_l13_s (G : Qk_G) {ρ : Type} (_n : Nat) (p0 : Int) (p1 p2 : Bool) (p3 : Rows) (p4 p5 : Int) (_p6 _p7 _p8 : Int) (_p9 _p10 : Bool) (_p11 : Rows) (_p12 _p13 : Bool) (p14 : Rows) (_p15 _p16 : Bool) (_p17 : Rows) (_p18 _p19 : Int) (p20 p21 p22 : Int) (p23 p24 : Bool) (p25 : Rows) (p26 p27 : Bool) (p28 : Rows) (_p29 _p30 : Int) (_p31 _p32 : Int) (p33 _p34 _p35 : Int) (k0 : (Option ρ)) (k1 : (Option ρ)) (rec' : Qk_l13_V → Option ρ) : Qk_l13_V → Option ρ
 | v =>
 bif decide ((v : Int) < 4) then
 rowT [.i .i64, .i .i64, .i .i64, .i .i64, .i .i64, .i .i64, .i .i64, .b, .i .u64, .i .u64, .i .u64, .i .u64, .i .u64] p14 p33 fun c0 =>
 bif ((v : Int) == 0) then
 bif ((v : Int) == p4) then
 G.reevelaw20_way ρ p1 p2 p3 (G.Qv ρ p20 p21 p22 p23 p24 p25 p26 p27 p28 p0 12 p1 p2 p3 true true v 0 0 (fun _w2_0 _w2_1 _w2_2 _w2_3 _w2_4 _w2_5 w2_6 w2_7 _w2_8 =>
 rowT [.i .i64, .i .i64, .i .i64, .i .i64, .i .i64, .i .i64, .i .i64, .b, .i .u64, .i .u64, .i .u64, .i .u64, .i .u64] p28 p33 fun c3 =>
 bif ((v : Int) == 0) then
 bif ((c3.2.2.2.2.2.2.2.2.2.1 : Int) != p5) then
 k0
 else bif ((w2_6 : Int) == 0) then
 bif ((w2_7 : Int) != p5) then
 k0
 else bif ((w2_6 : Int) != 0) then
 bif ((w2_6 : Int) != 6) then
 k0
 else rec' ((IntKind.wrap .i64 (v + 1)))
 else rec' ((IntKind.wrap .i64 (v + 1)))
 else bif ((w2_6 : Int) != 0) then
 bif ((w2_6 : Int) != 6) then
 k0
 else rec' ((IntKind.wrap .i64 (v + 1)))
 else rec' ((IntKind.wrap .i64 (v + 1)))
 else bif ((v : Int) == 1) then
 bif ((c3.2.2.2.2.2.2.2.2.2.2.1 : Int) != p5) then
 k0
 else bif ((w2_6 : Int) == 0) then
 bif ((w2_7 : Int) != p5) then
 k0
 else bif ((w2_6 : Int) != 0) then
 bif ((w2_6 : Int) != 6) then
 k0
 else rec' ((IntKind.wrap .i64 (v + 1)))
 else rec' ((IntKind.wrap .i64 (v + 1)))
 else bif ((w2_6 : Int) != 0) then
 bif ((w2_6 : Int) != 6) then
 k0
 else rec' ((IntKind.wrap .i64 (v + 1)))
 else rec' ((IntKind.wrap .i64 (v + 1)))
 else bif ((v : Int) == 2) then
 bif ((c3.2.2.2.2.2.2.2.2.2.2.2.1 : Int) != p5) then
 k0
 else bif ((w2_6 : Int) == 0) then
 bif ((w2_7 : Int) != p5) then
 k0
 else bif ((w2_6 : Int) != 0) then
 bif ((w2_6 : Int) != 6) then
 k0
 else rec' ((IntKind.wrap .i64 (v + 1)))
 else rec' ((IntKind.wrap .i64 (v + 1)))
 else bif ((w2_6 : Int) != 0) then
 bif ((w2_6 : Int) != 6) then
 k0
 else rec' ((IntKind.wrap .i64 (v + 1)))
 else rec' ((IntKind.wrap .i64 (v + 1)))
 else bif ((v : Int) == 3) then
 bif ((c3.2.2.2.2.2.2.2.2.2.2.2.2.1 : Int) != p5) then
 k0
 else bif ((w2_6 : Int) == 0) then
 bif ((w2_7 : Int) != p5) then
 k0
 else bif ((w2_6 : Int) != 0) then
 bif ((w2_6 : Int) != 6) then
 k0
 else rec' ((IntKind.wrap .i64 (v + 1)))
 else rec' ((IntKind.wrap .i64 (v + 1)))
 else bif ((w2_6 : Int) != 0) then
 bif ((w2_6 : Int) != 6) then
 k0
 else rec' ((IntKind.wrap .i64 (v + 1)))
 else rec' ((IntKind.wrap .i64 (v + 1)))
 else none))
 else G.reevelaw20_way ρ p1 p2 p3 (G.Qv ρ p20 p21 p22 p23 p24 p25 p26 p27 p28 p0 12 p1 p2 p3 true true v 0 0 (fun _w5_0 _w5_1 _w5_2 _w5_3 _w5_4 _w5_5 w5_6 w5_7 _w5_8 =>
 rowT [.i .i64, .i .i64, .i .i64, .i .i64, .i .i64, .i .i64, .i .i64, .b, .i .u64, .i .u64, .i .u64, .i .u64, .i .u64] p28 p33 fun c6 =>
 bif ((v : Int) == 0) then
 bif ((c6.2.2.2.2.2.2.2.2.2.1 : Int) != c0.2.2.2.2.2.2.2.2.2.1) then
 k0
 else bif ((w5_6 : Int) == 0) then
 bif ((w5_7 : Int) != c0.2.2.2.2.2.2.2.2.2.1) then
 k0
 else bif ((w5_6 : Int) != 0) then
 bif ((w5_6 : Int) != 6) then
 k0
 else rec' ((IntKind.wrap .i64 (v + 1)))
 else rec' ((IntKind.wrap .i64 (v + 1)))
 else bif ((w5_6 : Int) != 0) then
 bif ((w5_6 : Int) != 6) then
 k0
 else rec' ((IntKind.wrap .i64 (v + 1)))
 else rec' ((IntKind.wrap .i64 (v + 1)))
 else bif ((v : Int) == 1) then
 bif ((c6.2.2.2.2.2.2.2.2.2.2.1 : Int) != c0.2.2.2.2.2.2.2.2.2.1) then
 k0
 else bif ((w5_6 : Int) == 0) then
 bif ((w5_7 : Int) != c0.2.2.2.2.2.2.2.2.2.1) then
 k0
 else bif ((w5_6 : Int) != 0) then
 bif ((w5_6 : Int) != 6) then
 k0
 else rec' ((IntKind.wrap .i64 (v + 1)))
 else rec' ((IntKind.wrap .i64 (v + 1)))
 else bif ((w5_6 : Int) != 0) then
 bif ((w5_6 : Int) != 6) then
 k0
 else rec' ((IntKind.wrap .i64 (v + 1)))
 else rec' ((IntKind.wrap .i64 (v + 1)))
 else bif ((v : Int) == 2) then
 bif ((c6.2.2.2.2.2.2.2.2.2.2.2.1 : Int) != c0.2.2.2.2.2.2.2.2.2.1) then
 k0
 else bif ((w5_6 : Int) == 0) then
 bif ((w5_7 : Int) != c0.2.2.2.2.2.2.2.2.2.1) then
 k0
 else bif ((w5_6 : Int) != 0) then
 bif ((w5_6 : Int) != 6) then
 k0
 else rec' ((IntKind.wrap .i64 (v + 1)))
 else rec' ((IntKind.wrap .i64 (v + 1)))
 else bif ((w5_6 : Int) != 0) then
 bif ((w5_6 : Int) != 6) then
 k0
 else rec' ((IntKind.wrap .i64 (v + 1)))
 else rec' ((IntKind.wrap .i64 (v + 1)))
 else bif ((v : Int) == 3) then
 bif ((c6.2.2.2.2.2.2.2.2.2.2.2.2.1 : Int) != c0.2.2.2.2.2.2.2.2.2.1) then
 k0
 else bif ((w5_6 : Int) == 0) then
 bif ((w5_7 : Int) != c0.2.2.2.2.2.2.2.2.2.1) then
 k0
 else bif ((w5_6 : Int) != 0) then
 bif ((w5_6 : Int) != 6) then
 k0
 else rec' ((IntKind.wrap .i64 (v + 1)))
 else rec' ((IntKind.wrap .i64 (v + 1)))
 else bif ((w5_6 : Int) != 0) then
 bif ((w5_6 : Int) != 6) then
 k0
 else rec' ((IntKind.wrap .i64 (v + 1)))
 else rec' ((IntKind.wrap .i64 (v + 1)))
 else none))
 else bif ((v : Int) == 1) then
 bif ((v : Int) == p4) then
 G.reevelaw20_way ρ p1 p2 p3 (G.Qv ρ p20 p21 p22 p23 p24 p25 p26 p27 p28 p0 12 p1 p2 p3 true true v 0 0 (fun _w8_0 _w8_1 _w8_2 _w8_3 _w8_4 _w8_5 w8_6 w8_7 _w8_8 =>
 rowT [.i .i64, .i .i64, .i .i64, .i .i64, .i .i64, .i .i64, .i .i64, .b, .i .u64, .i .u64, .i .u64, .i .u64, .i .u64] p28 p33 fun c9 =>
 bif ((v : Int) == 0) then
 bif ((c9.2.2.2.2.2.2.2.2.2.1 : Int) != p5) then
 k0
 else bif ((w8_6 : Int) == 0) then
 bif ((w8_7 : Int) != p5) then
 k0
 else bif ((w8_6 : Int) != 0) then
 bif ((w8_6 : Int) != 6) then
 k0
 else rec' ((IntKind.wrap .i64 (v + 1)))
 else rec' ((IntKind.wrap .i64 (v + 1)))
 else bif ((w8_6 : Int) != 0) then
 bif ((w8_6 : Int) != 6) then
 k0
 else rec' ((IntKind.wrap .i64 (v + 1)))
 else rec' ((IntKind.wrap .i64 (v + 1)))
 else bif ((v : Int) == 1) then
 bif ((c9.2.2.2.2.2.2.2.2.2.2.1 : Int) != p5) then
 k0
 else bif ((w8_6 : Int) == 0) then
 bif ((w8_7 : Int) != p5) then
 k0
 else bif ((w8_6 : Int) != 0) then
 bif ((w8_6 : Int) != 6) then
 k0
 else rec' ((IntKind.wrap .i64 (v + 1)))
 else rec' ((IntKind.wrap .i64 (v + 1)))
 else bif ((w8_6 : Int) != 0) then
 bif ((w8_6 : Int) != 6) then
 k0
 else rec' ((IntKind.wrap .i64 (v + 1)))
 else rec' ((IntKind.wrap .i64 (v + 1)))
 else bif ((v : Int) == 2) then
 bif ((c9.2.2.2.2.2.2.2.2.2.2.2.1 : Int) != p5) then
 k0
 else bif ((w8_6 : Int) == 0) then
 bif ((w8_7 : Int) != p5) then
 k0
 else bif ((w8_6 : Int) != 0) then
 bif ((w8_6 : Int) != 6) then
 k0
 else rec' ((IntKind.wrap .i64 (v + 1)))
 else rec' ((IntKind.wrap .i64 (v + 1)))
 else bif ((w8_6 : Int) != 0) then
 bif ((w8_6 : Int) != 6) then
 k0
 else rec' ((IntKind.wrap .i64 (v + 1)))
 else rec' ((IntKind.wrap .i64 (v + 1)))
 else bif ((v : Int) == 3) then
 bif ((c9.2.2.2.2.2.2.2.2.2.2.2.2.1 : Int) != p5) then
 k0
 else bif ((w8_6 : Int) == 0) then
 bif ((w8_7 : Int) != p5) then
 k0
 else bif ((w8_6 : Int) != 0) then
 bif ((w8_6 : Int) != 6) then
 k0
 else rec' ((IntKind.wrap .i64 (v + 1)))
 else rec' ((IntKind.wrap .i64 (v + 1)))
 else bif ((w8_6 : Int) != 0) then
 bif ((w8_6 : Int) != 6) then
 k0
 else rec' ((IntKind.wrap .i64 (v + 1)))
 else rec' ((IntKind.wrap .i64 (v + 1)))
 else none))
 else G.reevelaw20_way ρ p1 p2 p3 (G.Qv ρ p20 p21 p22 p23 p24 p25 p26 p27 p28 p0 12 p1 p2 p3 true true v 0 0 (fun _w11_0 _w11_1 _w11_2 _w11_3 _w11_4 _w11_5 w11_6 w11_7 _w11_8 =>
 rowT [.i .i64, .i .i64, .i .i64, .i .i64, .i .i64, .i .i64, .i .i64, .b, .i .u64, .i .u64, .i .u64, .i .u64, .i .u64] p28 p33 fun c12 =>
 bif ((v : Int) == 0) then
 bif ((c12.2.2.2.2.2.2.2.2.2.1 : Int) != c0.2.2.2.2.2.2.2.2.2.2.1) then
 k0
 else bif ((w11_6 : Int) == 0) then
 bif ((w11_7 : Int) != c0.2.2.2.2.2.2.2.2.2.2.1) then
 k0
 else bif ((w11_6 : Int) != 0) then
 bif ((w11_6 : Int) != 6) then
 k0
 else rec' ((IntKind.wrap .i64 (v + 1)))
 else rec' ((IntKind.wrap .i64 (v + 1)))
 else bif ((w11_6 : Int) != 0) then
 bif ((w11_6 : Int) != 6) then
 k0
 else rec' ((IntKind.wrap .i64 (v + 1)))
 else rec' ((IntKind.wrap .i64 (v + 1)))
 else bif ((v : Int) == 1) then
 bif ((c12.2.2.2.2.2.2.2.2.2.2.1 : Int) != c0.2.2.2.2.2.2.2.2.2.2.1) then
 k0
 else bif ((w11_6 : Int) == 0) then
 bif ((w11_7 : Int) != c0.2.2.2.2.2.2.2.2.2.2.1) then
 k0
 else bif ((w11_6 : Int) != 0) then
 bif ((w11_6 : Int) != 6) then
 k0
 else rec' ((IntKind.wrap .i64 (v + 1)))
 else rec' ((IntKind.wrap .i64 (v + 1)))
 else bif ((w11_6 : Int) != 0) then
 bif ((w11_6 : Int) != 6) then
 k0
 else rec' ((IntKind.wrap .i64 (v + 1)))
 else rec' ((IntKind.wrap .i64 (v + 1)))
 else bif ((v : Int) == 2) then
 bif ((c12.2.2.2.2.2.2.2.2.2.2.2.1 : Int) != c0.2.2.2.2.2.2.2.2.2.2.1) then
 k0
 else bif ((w11_6 : Int) == 0) then
 bif ((w11_7 : Int) != c0.2.2.2.2.2.2.2.2.2.2.1) then
 k0
 else bif ((w11_6 : Int) != 0) then
 bif ((w11_6 : Int) != 6) then
 k0
 else rec' ((IntKind.wrap .i64 (v + 1)))
 else rec' ((IntKind.wrap .i64 (v + 1)))
 else bif ((w11_6 : Int) != 0) then
 bif ((w11_6 : Int) != 6) then
 k0
 else rec' ((IntKind.wrap .i64 (v + 1)))
 else rec' ((IntKind.wrap .i64 (v + 1)))
 else bif ((v : Int) == 3) then
 bif ((c12.2.2.2.2.2.2.2.2.2.2.2.2.1 : Int) != c0.2.2.2.2.2.2.2.2.2.2.1) then
 k0
 else bif ((w11_6 : Int) == 0) then
 bif ((w11_7 : Int) != c0.2.2.2.2.2.2.2.2.2.2.1) then
 k0
 else bif ((w11_6 : Int) != 0) then
 bif ((w11_6 : Int) != 6) then
 k0
 else rec' ((IntKind.wrap .i64 (v + 1)))
 else rec' ((IntKind.wrap .i64 (v + 1)))
 else bif ((w11_6 : Int) != 0) then
 bif ((w11_6 : Int) != 6) then
 k0
 else rec' ((IntKind.wrap .i64 (v + 1)))
 else rec' ((IntKind.wrap .i64 (v + 1)))
 else none))
 else bif ((v : Int) == 2) then
 bif ((v : Int) == p4) then
 G.reevelaw20_way ρ p1 p2 p3 (G.Qv ρ p20 p21 p22 p23 p24 p25 p26 p27 p28 p0 12 p1 p2 p3 true true v 0 0 (fun _w14_0 _w14_1 _w14_2 _w14_3 _w14_4 _w14_5 w14_6 w14_7 _w14_8 =>
 rowT [.i .i64, .i .i64, .i .i64, .i .i64, .i .i64, .i .i64, .i .i64, .b, .i .u64, .i .u64, .i .u64, .i .u64, .i .u64] p28 p33 fun c15 =>
 bif ((v : Int) == 0) then
 bif ((c15.2.2.2.2.2.2.2.2.2.1 : Int) != p5) then
 k0
 else bif ((w14_6 : Int) == 0) then
 bif ((w14_7 : Int) != p5) then
 k0
 else bif ((w14_6 : Int) != 0) then
 bif ((w14_6 : Int) != 6) then
 k0
 else rec' ((IntKind.wrap .i64 (v + 1)))
 else rec' ((IntKind.wrap .i64 (v + 1)))
 else bif ((w14_6 : Int) != 0) then
 bif ((w14_6 : Int) != 6) then
 k0
 else rec' ((IntKind.wrap .i64 (v + 1)))
 else rec' ((IntKind.wrap .i64 (v + 1)))
 else bif ((v : Int) == 1) then
 bif ((c15.2.2.2.2.2.2.2.2.2.2.1 : Int) != p5) then
 k0
 else bif ((w14_6 : Int) == 0) then
 bif ((w14_7 : Int) != p5) then
 k0
 else bif ((w14_6 : Int) != 0) then
 bif ((w14_6 : Int) != 6) then
 k0
 else rec' ((IntKind.wrap .i64 (v + 1)))
 else rec' ((IntKind.wrap .i64 (v + 1)))
 else bif ((w14_6 : Int) != 0) then
 bif ((w14_6 : Int) != 6) then
 k0
 else rec' ((IntKind.wrap .i64 (v + 1)))
 else rec' ((IntKind.wrap .i64 (v + 1)))
 else bif ((v : Int) == 2) then
 bif ((c15.2.2.2.2.2.2.2.2.2.2.2.1 : Int) != p5) then
 k0
 else bif ((w14_6 : Int) == 0) then
 bif ((w14_7 : Int) != p5) then
 k0
 else bif ((w14_6 : Int) != 0) then
 bif ((w14_6 : Int) != 6) then
 k0
 else rec' ((IntKind.wrap .i64 (v + 1)))
 else rec' ((IntKind.wrap .i64 (v + 1)))
 else bif ((w14_6 : Int) != 0) then
 bif ((w14_6 : Int) != 6) then
 k0
 else rec' ((IntKind.wrap .i64 (v + 1)))
 else rec' ((IntKind.wrap .i64 (v + 1)))
 else bif ((v : Int) == 3) then
 bif ((c15.2.2.2.2.2.2.2.2.2.2.2.2.1 : Int) != p5) then
 k0
 else bif ((w14_6 : Int) == 0) then
 bif ((w14_7 : Int) != p5) then
 k0
 else bif ((w14_6 : Int) != 0) then
 bif ((w14_6 : Int) != 6) then
 k0
 else rec' ((IntKind.wrap .i64 (v + 1)))
 else rec' ((IntKind.wrap .i64 (v + 1)))
 else bif ((w14_6 : Int) != 0) then
 bif ((w14_6 : Int) != 6) then
 k0
 else rec' ((IntKind.wrap .i64 (v + 1)))
 else rec' ((IntKind.wrap .i64 (v + 1)))
 else none))
 else G.reevelaw20_way ρ p1 p2 p3 (G.Qv ρ p20 p21 p22 p23 p24 p25 p26 p27 p28 p0 12 p1 p2 p3 true true v 0 0 (fun _w17_0 _w17_1 _w17_2 _w17_3 _w17_4 _w17_5 w17_6 w17_7 _w17_8 =>
 rowT [.i .i64, .i .i64, .i .i64, .i .i64, .i .i64, .i .i64, .i .i64, .b, .i .u64, .i .u64, .i .u64, .i .u64, .i .u64] p28 p33 fun c18 =>
 bif ((v : Int) == 0) then
 bif ((c18.2.2.2.2.2.2.2.2.2.1 : Int) != c0.2.2.2.2.2.2.2.2.2.2.2.1) then
 k0
 else bif ((w17_6 : Int) == 0) then
 bif ((w17_7 : Int) != c0.2.2.2.2.2.2.2.2.2.2.2.1) then
 k0
 else bif ((w17_6 : Int) != 0) then
 bif ((w17_6 : Int) != 6) then
 k0
 else rec' ((IntKind.wrap .i64 (v + 1)))
 else rec' ((IntKind.wrap .i64 (v + 1)))
 else bif ((w17_6 : Int) != 0) then
 bif ((w17_6 : Int) != 6) then
 k0
 else rec' ((IntKind.wrap .i64 (v + 1)))
 else rec' ((IntKind.wrap .i64 (v + 1)))
 else bif ((v : Int) == 1) then
 bif ((c18.2.2.2.2.2.2.2.2.2.2.1 : Int) != c0.2.2.2.2.2.2.2.2.2.2.2.1) then
 k0
 else bif ((w17_6 : Int) == 0) then
 bif ((w17_7 : Int) != c0.2.2.2.2.2.2.2.2.2.2.2.1) then
 k0
 else bif ((w17_6 : Int) != 0) then
 bif ((w17_6 : Int) != 6) then
 k0
 else rec' ((IntKind.wrap .i64 (v + 1)))
 else rec' ((IntKind.wrap .i64 (v + 1)))
 else bif ((w17_6 : Int) != 0) then
 bif ((w17_6 : Int) != 6) then
 k0
 else rec' ((IntKind.wrap .i64 (v + 1)))
 else rec' ((IntKind.wrap .i64 (v + 1)))
 else bif ((v : Int) == 2) then
 bif ((c18.2.2.2.2.2.2.2.2.2.2.2.1 : Int) != c0.2.2.2.2.2.2.2.2.2.2.2.1) then
 k0
 else bif ((w17_6 : Int) == 0) then
 bif ((w17_7 : Int) != c0.2.2.2.2.2.2.2.2.2.2.2.1) then
 k0
 else bif ((w17_6 : Int) != 0) then
 bif ((w17_6 : Int) != 6) then
 k0
 else rec' ((IntKind.wrap .i64 (v + 1)))
 else rec' ((IntKind.wrap .i64 (v + 1)))
 else bif ((w17_6 : Int) != 0) then
 bif ((w17_6 : Int) != 6) then
 k0
 else rec' ((IntKind.wrap .i64 (v + 1)))
 else rec' ((IntKind.wrap .i64 (v + 1)))
 else bif ((v : Int) == 3) then
 bif ((c18.2.2.2.2.2.2.2.2.2.2.2.2.1 : Int) != c0.2.2.2.2.2.2.2.2.2.2.2.1) then
 k0
 else bif ((w17_6 : Int) == 0) then
 bif ((w17_7 : Int) != c0.2.2.2.2.2.2.2.2.2.2.2.1) then
 k0
 else bif ((w17_6 : Int) != 0) then
 bif ((w17_6 : Int) != 6) then
 k0
 else rec' ((IntKind.wrap .i64 (v + 1)))
 else rec' ((IntKind.wrap .i64 (v + 1)))
 else bif ((w17_6 : Int) != 0) then
 bif ((w17_6 : Int) != 6) then
 k0
 else rec' ((IntKind.wrap .i64 (v + 1)))
 else rec' ((IntKind.wrap .i64 (v + 1)))
 else none))
 else bif ((v : Int) == 3) then
 bif ((v : Int) == p4) then
 G.reevelaw20_way ρ p1 p2 p3 (G.Qv ρ p20 p21 p22 p23 p24 p25 p26 p27 p28 p0 12 p1 p2 p3 true true v 0 0 (fun _w20_0 _w20_1 _w20_2 _w20_3 _w20_4 _w20_5 w20_6 w20_7 _w20_8 =>
 rowT [.i .i64, .i .i64, .i .i64, .i .i64, .i .i64, .i .i64, .i .i64, .b, .i .u64, .i .u64, .i .u64, .i .u64, .i .u64] p28 p33 fun c21 =>
 bif ((v : Int) == 0) then
 bif ((c21.2.2.2.2.2.2.2.2.2.1 : Int) != p5) then
 k0
 else bif ((w20_6 : Int) == 0) then
 bif ((w20_7 : Int) != p5) then
 k0
 else bif ((w20_6 : Int) != 0) then
 bif ((w20_6 : Int) != 6) then
 k0
 else rec' ((IntKind.wrap .i64 (v + 1)))
 else rec' ((IntKind.wrap .i64 (v + 1)))
 else bif ((w20_6 : Int) != 0) then
 bif ((w20_6 : Int) != 6) then
 k0
 else rec' ((IntKind.wrap .i64 (v + 1)))
 else rec' ((IntKind.wrap .i64 (v + 1)))
 else bif ((v : Int) == 1) then
 bif ((c21.2.2.2.2.2.2.2.2.2.2.1 : Int) != p5) then
 k0
 else bif ((w20_6 : Int) == 0) then
 bif ((w20_7 : Int) != p5) then
 k0
 else bif ((w20_6 : Int) != 0) then
 bif ((w20_6 : Int) != 6) then
 k0
 else rec' ((IntKind.wrap .i64 (v + 1)))
 else rec' ((IntKind.wrap .i64 (v + 1)))
 else bif ((w20_6 : Int) != 0) then
 bif ((w20_6 : Int) != 6) then
 k0
 else rec' ((IntKind.wrap .i64 (v + 1)))
 else rec' ((IntKind.wrap .i64 (v + 1)))
 else bif ((v : Int) == 2) then
 bif ((c21.2.2.2.2.2.2.2.2.2.2.2.1 : Int) != p5) then
 k0
 else bif ((w20_6 : Int) == 0) then
 bif ((w20_7 : Int) != p5) then
 k0
 else bif ((w20_6 : Int) != 0) then
 bif ((w20_6 : Int) != 6) then
 k0
 else rec' ((IntKind.wrap .i64 (v + 1)))
 else rec' ((IntKind.wrap .i64 (v + 1)))
 else bif ((w20_6 : Int) != 0) then
 bif ((w20_6 : Int) != 6) then
 k0
 else rec' ((IntKind.wrap .i64 (v + 1)))
 else rec' ((IntKind.wrap .i64 (v + 1)))
 else bif ((v : Int) == 3) then
 bif ((c21.2.2.2.2.2.2.2.2.2.2.2.2.1 : Int) != p5) then
 k0
 else bif ((w20_6 : Int) == 0) then
 bif ((w20_7 : Int) != p5) then
 k0
 else bif ((w20_6 : Int) != 0) then
 bif ((w20_6 : Int) != 6) then
 k0
 else rec' ((IntKind.wrap .i64 (v + 1)))
 else rec' ((IntKind.wrap .i64 (v + 1)))
 else bif ((w20_6 : Int) != 0) then
 bif ((w20_6 : Int) != 6) then
 k0
 else rec' ((IntKind.wrap .i64 (v + 1)))
 else rec' ((IntKind.wrap .i64 (v + 1)))
 else none))
 else G.reevelaw20_way ρ p1 p2 p3 (G.Qv ρ p20 p21 p22 p23 p24 p25 p26 p27 p28 p0 12 p1 p2 p3 true true v 0 0 (fun _w23_0 _w23_1 _w23_2 _w23_3 _w23_4 _w23_5 w23_6 w23_7 _w23_8 =>
 rowT [.i .i64, .i .i64, .i .i64, .i .i64, .i .i64, .i .i64, .i .i64, .b, .i .u64, .i .u64, .i .u64, .i .u64, .i .u64] p28 p33 fun c24 =>
 bif ((v : Int) == 0) then
 bif ((c24.2.2.2.2.2.2.2.2.2.1 : Int) != c0.2.2.2.2.2.2.2.2.2.2.2.2.1) then
 k0
 else bif ((w23_6 : Int) == 0) then
 bif ((w23_7 : Int) != c0.2.2.2.2.2.2.2.2.2.2.2.2.1) then
 k0
 else bif ((w23_6 : Int) != 0) then
 bif ((w23_6 : Int) != 6) then
 k0
 else rec' ((IntKind.wrap .i64 (v + 1)))
 else rec' ((IntKind.wrap .i64 (v + 1)))
 else bif ((w23_6 : Int) != 0) then
 bif ((w23_6 : Int) != 6) then
 k0
 else rec' ((IntKind.wrap .i64 (v + 1)))
 else rec' ((IntKind.wrap .i64 (v + 1)))
 else bif ((v : Int) == 1) then
 bif ((c24.2.2.2.2.2.2.2.2.2.2.1 : Int) != c0.2.2.2.2.2.2.2.2.2.2.2.2.1) then
 k0
 else bif ((w23_6 : Int) == 0) then
 bif ((w23_7 : Int) != c0.2.2.2.2.2.2.2.2.2.2.2.2.1) then
 k0
 else bif ((w23_6 : Int) != 0) then
 bif ((w23_6 : Int) != 6) then
 k0
 else rec' ((IntKind.wrap .i64 (v + 1)))
 else rec' ((IntKind.wrap .i64 (v + 1)))
 else bif ((w23_6 : Int) != 0) then
 bif ((w23_6 : Int) != 6) then
 k0
 else rec' ((IntKind.wrap .i64 (v + 1)))
 else rec' ((IntKind.wrap .i64 (v + 1)))
 else bif ((v : Int) == 2) then
 bif ((c24.2.2.2.2.2.2.2.2.2.2.2.1 : Int) != c0.2.2.2.2.2.2.2.2.2.2.2.2.1) then
 k0
 else bif ((w23_6 : Int) == 0) then
 bif ((w23_7 : Int) != c0.2.2.2.2.2.2.2.2.2.2.2.2.1) then
 k0
 else bif ((w23_6 : Int) != 0) then
 bif ((w23_6 : Int) != 6) then
 k0
 else rec' ((IntKind.wrap .i64 (v + 1)))
 else rec' ((IntKind.wrap .i64 (v + 1)))
 else bif ((w23_6 : Int) != 0) then
 bif ((w23_6 : Int) != 6) then
 k0
 else rec' ((IntKind.wrap .i64 (v + 1)))
 else rec' ((IntKind.wrap .i64 (v + 1)))
 else bif ((v : Int) == 3) then
 bif ((c24.2.2.2.2.2.2.2.2.2.2.2.2.1 : Int) != c0.2.2.2.2.2.2.2.2.2.2.2.2.1) then
 k0
 else bif ((w23_6 : Int) == 0) then
 bif ((w23_7 : Int) != c0.2.2.2.2.2.2.2.2.2.2.2.2.1) then
 k0
 else bif ((w23_6 : Int) != 0) then
 bif ((w23_6 : Int) != 6) then
 k0
 else rec' ((IntKind.wrap .i64 (v + 1)))
 else rec' ((IntKind.wrap .i64 (v + 1)))
 else bif ((w23_6 : Int) != 0) then
 bif ((w23_6 : Int) != 6) then
 k0
 else rec' ((IntKind.wrap .i64 (v + 1)))
 else rec' ((IntKind.wrap .i64 (v + 1)))
 else none))
 else none
 else k1
noncomputable def Qk_l13 (G : Qk_G) {ρ : Type} (n : Nat) (p0 : Int) (p1 p2 : Bool) (p3 : Rows) (p4 p5 : Int) (p6 p7 p8 : Int) (p9 p10 : Bool) (p11 : Rows) (p12 p13 : Bool) (p14 : Rows) (p15 p16 : Bool) (p17 : Rows) (p18 p19 : Int) (p20 p21 p22 : Int) (p23 p24 : Bool) (p25 : Rows) (p26 p27 : Bool) (p28 : Rows) (p29 p30 : Int) (p31 p32 : Int) (p33 p34 p35 : Int) (k0 : (Option ρ)) (k1 : (Option ρ)) (v : Qk_l13_V) : Option ρ := fuelN (Qk_l13_s G n p0 p1 p2 p3 p4 p5 p6 p7 p8 p9 p10 p11 p12 p13 p14 p15 p16 p17 p18 p19 p20 p21 p22 p23 p24 p25 p26 p27 p28 p29 p30 p31 p32 p33 p34 p35 k0 k1) n v
def Qk_l13_enc (p0 : Int) (p1 p2 : Bool) (p3 : Rows) (p4 p5 : Int) (p6 p7 p8 : Int) (p9 p10 : Bool) (p11 : Rows) (p12 p13 : Bool) (p14 : Rows) (p15 p16 : Bool) (p17 : Rows) (p18 p19 : Int) (p20 p21 p22 : Int) (p23 p24 : Bool) (p25 : Rows) (p26 p27 : Bool) (p28 : Rows) (p29 p30 : Int) (p31 p32 : Int) (p33 p34 p35 : Int) : Qk_l13_V → St
 | v => ⟨[(1, .i .i64 p0), (2, .lst p1 p2 1 p3), (3, .i .i64 p4), (4, .i .u64 p5), (5, .ptr 0 1 5 0 0), (12, .ptr 2 1 5 0 0), (15, .ptr 4 1 4 0 0), (17, .i .i64 v)], [.row 5 true false [[.i .i64 p6, .i .i64 p7, .i .i64 p8, .lst p9 p10 5 p11, .lst p12 p13 13 p14]], .row 6 true false [[.i .i64 11, .lst p15 p16 1 p17, .lst true true 0 [], .i .i64 p18, .i .i64 0, .i .u64 p19]], .row 5 true false [[.i .i64 p20, .i .i64 p21, .i .i64 p22, .lst p23 p24 5 p25, .lst p26 p27 13 p28]], .row 3 true false [[.i .i64 p29, .i .u64 p30, .i .i64 p31]], .row 4 true false [[.i .i64 p32, .i .i64 p33, .i .i64 p34, .i .i64 p35]]]⟩
noncomputable def Qk_s (G : Qk_G) {ρ : Type} (n : Nat) (a0 a1 a2 : Int) (a3 a4 : Bool) (a5 : Rows) (a6 a7 : Bool) (a8 : Rows) (a9 : Int) (a10 a11 : Bool) (a12 : Rows) (a13 a14 : Int) (k0 : (Bool → Option ρ)) : Option ρ :=
 G.Q0g ρ (fun w0_0 =>
 bif w0_0 then
 G.reevelaw20_way ρ a10 a11 a12 (G.reevelaw20_heavy ρ a0 a1 a2 a3 a4 a5 a6 a7 a8 11 a10 a11 a12 true true a13 0 a14 (fun w2_0 =>
 bif w2_0 then
 k0 true
 else G.Qf ρ a0 a1 a2 a3 a4 a5 a6 a7 a8 (fun w3_0 =>
 bif w3_0 then
 G.Qv ρ a0 a1 a2 a3 a4 a5 a6 a7 a8 a9 11 a10 a11 a12 true true a13 0 a14 (fun w4_0 w4_1 w4_2 w4_3 w4_4 w4_5 w4_6 w4_7 w4_8 =>
 bif ((w4_6 : Int) != 0) then
 G.Q0c ρ a0 a1 a2 w4_0 w4_1 w4_2 w4_3 w4_4 w4_5 a0 a1 a2 a3 a4 a5 a6 a7 a8 (fun w5_0 =>
 bif w5_0 then
 k0 true
 else k0 false)
 else G.Qt ρ a0 a1 a2 a3 a4 a5 a6 a7 a8 a9 a10 a11 a12 (fun w6_0 w6_1 w6_2 w6_3 w6_4 w6_5 =>
 bif ((w6_5 : Int) != 0) then
 k0 false
 else bif decide ((w6_2 : Int) < 0) then
 k0 false
 else bif decide ((w6_2 : Int) ≥ (((List.length (w4_5 : Rows)) : Nat) : Int)) then
 k0 false
 else bif decide ((w6_0 : Int) < 0) then
 k0 false
 else Qk_l13 G n a9 a10 a11 a12 a13 a14 a0 a1 a2 a3 a4 a5 a6 a7 a8 a10 a11 a12 a13 a14 a0 a1 a2 w4_0 w4_1 w4_2 w4_3 w4_4 w4_5 w4_6 w4_7 w4_8 w6_1 w6_2 w6_3 w6_4 (k0 false) (k0 true) (0)))
 else k0 true)))
 else k0 false)
noncomputable def Qk_g (n : Nat) : Qk_G := ⟨Q0g n, reevelaw20_way n, reevelaw20_heavy n, Qf n, Qv n, Q0c n, Qt n⟩
noncomputable def Qk (n : Nat) : Qk_T := fun _ρ a0 a1 a2 a3 a4 a5 a6 a7 a8 a9 a10 a11 a12 a13 a14 k0 => Qk_s (Qk_g n) n a0 a1 a2 a3 a4 a5 a6 a7 a8 a9 a10 a11 a12 a13 a14 k0
noncomputable def Qk_e (n : Nat) : EK := Qk_E (Qk n)
def Qk_S (G : Qk_G) : CK := tabS [(12, Q0g_E G.Q0g), (13, reevelaw20_way_E G.reevelaw20_way), (14, reevelaw20_heavy_E G.reevelaw20_heavy), (9, Qf_E G.Qf), (15, Qv_E G.Qv), (11, Q0c_E G.Q0c), (16, Qt_E G.Qt)]
theorem Qk_Sok (n : Nat) : CK.OK (Qk_S (Qk_g n)) (L tab) := tabS_ok _ (List.forall_mem_cons.2 ⟨(Q0g_ok n), List.forall_mem_cons.2 ⟨(reevelaw20_way_ok n), List.forall_mem_cons.2 ⟨(reevelaw20_heavy_ok n), List.forall_mem_cons.2 ⟨(Qf_ok n), List.forall_mem_cons.2 ⟨(Qv_ok n), List.forall_mem_cons.2 ⟨(Q0c_ok n), List.forall_mem_cons.2 ⟨(Qt_ok n), (fun _ h => nomatch h)⟩⟩⟩⟩⟩⟩⟩)
def Qk_hs : HintC := hintL [(86, [.i .i64, .i .i64, .i .i64, .i .i64, .i .i64, .i .i64, .i .i64, .b, .i .u64, .i .u64, .i .u64, .i .u64, .i .u64]), (109, [.i .i64, .i .i64, .i .i64, .i .i64, .i .i64, .i .i64, .i .i64, .b, .i .u64, .i .u64, .i .u64, .i .u64, .i .u64])]
def Qk_c13 : Nat × List Nat × List Nat × MC := loopAt 13 m4
noncomputable def Qk_l13_d (G : Qk_G) (n : Nat) : Go.Rv.LE := fun _ρ h K => decSt [(1, .i .i64 none), (2, .lst none none 1 none), (3, .i .i64 none), (4, .i .u64 none), (5, .ptr 0 5 0 (some 1) (some 0)), (12, .ptr 2 5 0 (some 1) (some 0)), (15, .ptr 4 4 0 (some 1) (some 0)), (17, .i .i64 none)] [.row 5 true false (some [[.i .i64 none, .i .i64 none, .i .i64 none, .lst none none 5 none, .lst none none 13 none]]), .row 6 true false (some [[.i .i64 (some 11), .lst none none 1 none, .lst (some true) (some true) 0 (some []), .i .i64 none, .i .i64 (some 0), .i .u64 none]]), .row 5 true false (some [[.i .i64 none, .i .i64 none, .i .i64 none, .lst none none 5 none, .lst none none 13 none]]), .row 3 true false (some [[.i .i64 none, .i .u64 none, .i .i64 none]]), .row 4 true false (some [[.i .i64 none, .i .i64 none, .i .i64 none, .i .i64 none]])] h fun a b => Qk_l13 G n a.1 a.2.1.1 a.2.1.2.1 a.2.1.2.2 a.2.2.1 a.2.2.2.1 b.1.1.1 b.1.1.2.1 b.1.1.2.2.1 b.1.1.2.2.2.1.1 b.1.1.2.2.2.1.2.1 b.1.1.2.2.2.1.2.2 b.1.1.2.2.2.2.1.1 b.1.1.2.2.2.2.1.2.1 b.1.1.2.2.2.2.1.2.2 b.2.1.1.2.1.1 b.2.1.1.2.1.2.1 b.2.1.1.2.1.2.2 b.2.1.1.2.2.2.1 b.2.1.1.2.2.2.2.2.1 b.2.2.1.1.1 b.2.2.1.1.2.1 b.2.2.1.1.2.2.1 b.2.2.1.1.2.2.2.1.1 b.2.2.1.1.2.2.2.1.2.1 b.2.2.1.1.2.2.2.1.2.2 b.2.2.1.1.2.2.2.2.1.1 b.2.2.1.1.2.2.2.2.1.2.1 b.2.2.1.1.2.2.2.2.1.2.2 b.2.2.2.1.1.1 b.2.2.2.1.1.2.1 b.2.2.2.1.1.2.2.1 b.2.2.2.2.1.1.1 b.2.2.2.2.1.1.2.1 b.2.2.2.2.1.1.2.2.1 b.2.2.2.2.1.1.2.2.2.1 (K .ret ⟨[(10, .b false)], [.row 5 true false [[.i .i64 b.1.1.1, .i .i64 b.1.1.2.1, .i .i64 b.1.1.2.2.1, .lst b.1.1.2.2.2.1.1 b.1.1.2.2.2.1.2.1 5 b.1.1.2.2.2.1.2.2, .lst b.1.1.2.2.2.2.1.1 b.1.1.2.2.2.2.1.2.1 13 b.1.1.2.2.2.2.1.2.2]], .row 6 true false [[.i .i64 11, .lst b.2.1.1.2.1.1 b.2.1.1.2.1.2.1 1 b.2.1.1.2.1.2.2, .lst true true 0 [], .i .i64 b.2.1.1.2.2.2.1, .i .i64 0, .i .u64 b.2.1.1.2.2.2.2.2.1]], .row 5 true false [[.i .i64 b.2.2.1.1.1, .i .i64 b.2.2.1.1.2.1, .i .i64 b.2.2.1.1.2.2.1, .lst b.2.2.1.1.2.2.2.1.1 b.2.2.1.1.2.2.2.1.2.1 5 b.2.2.1.1.2.2.2.1.2.2, .lst b.2.2.1.1.2.2.2.2.1.1 b.2.2.1.1.2.2.2.2.1.2.1 13 b.2.2.1.1.2.2.2.2.1.2.2]], .row 3 true false [[.i .i64 b.2.2.2.1.1.1, .i .u64 b.2.2.2.1.1.2.1, .i .i64 b.2.2.2.1.1.2.2.1]], .row 4 true false [[.i .i64 b.2.2.2.2.1.1.1, .i .i64 b.2.2.2.2.1.1.2.1, .i .i64 b.2.2.2.2.1.1.2.2.1, .i .i64 b.2.2.2.2.1.1.2.2.2.1]]]⟩) (K (.exit 0) ⟨[(10, .u)], [.row 5 true false [[.i .i64 b.1.1.1, .i .i64 b.1.1.2.1, .i .i64 b.1.1.2.2.1, .lst b.1.1.2.2.2.1.1 b.1.1.2.2.2.1.2.1 5 b.1.1.2.2.2.1.2.2, .lst b.1.1.2.2.2.2.1.1 b.1.1.2.2.2.2.1.2.1 13 b.1.1.2.2.2.2.1.2.2]], .row 6 true false [[.i .i64 11, .lst b.2.1.1.2.1.1 b.2.1.1.2.1.2.1 1 b.2.1.1.2.1.2.2, .lst true true 0 [], .i .i64 b.2.1.1.2.2.2.1, .i .i64 0, .i .u64 b.2.1.1.2.2.2.2.2.1]], .row 5 true false [[.i .i64 b.2.2.1.1.1, .i .i64 b.2.2.1.1.2.1, .i .i64 b.2.2.1.1.2.2.1, .lst b.2.2.1.1.2.2.2.1.1 b.2.2.1.1.2.2.2.1.2.1 5 b.2.2.1.1.2.2.2.1.2.2, .lst b.2.2.1.1.2.2.2.2.1.1 b.2.2.1.1.2.2.2.2.1.2.1 13 b.2.2.1.1.2.2.2.2.1.2.2]], .row 3 true false [[.i .i64 b.2.2.2.1.1.1, .i .u64 b.2.2.2.1.1.2.1, .i .i64 b.2.2.2.1.1.2.2.1]], .row 4 true false [[.i .i64 b.2.2.2.2.1.1.1, .i .i64 b.2.2.2.2.1.1.2.1, .i .i64 b.2.2.2.2.1.1.2.2.1, .i .i64 b.2.2.2.2.1.1.2.2.2.1]]]⟩) (a.2.2.2.2.2.2.2.1)
noncomputable def Qk_d13 (G : Qk_G) (n : Nat) : Go.Rv.LE := Qk_l13_d G n
noncomputable def Qk_lp (G : Qk_G) (n : Nat) : LK := tabL [(13, Qk_d13 G n)]
theorem Qk_l13_k (G : Qk_G) {ρ : Type} (n : Nat) (p0 : Int) (p1 p2 : Bool) (p3 : Rows) (p4 p5 : Int) (p6 p7 p8 : Int) (p9 p10 : Bool) (p11 : Rows) (p12 p13 : Bool) (p14 : Rows) (p15 p16 : Bool) (p17 : Rows) (p18 p19 : Int) (p20 p21 p22 : Int) (p23 p24 : Bool) (p25 : Rows) (p26 p27 : Bool) (p28 : Rows) (p29 p30 : Int) (p31 p32 : Int) (p33 p34 p35 : Int) (K : Ex → St → Option ρ) (N : St → Option ρ) : ∀ v, roundC (Qk_S G) Qk_hs (Qk_lp G n) Qk_c13 5 N K (Qk_l13_enc p0 p1 p2 p3 p4 p5 p6 p7 p8 p9 p10 p11 p12 p13 p14 p15 p16 p17 p18 p19 p20 p21 p22 p23 p24 p25 p26 p27 p28 p29 p30 p31 p32 p33 p34 p35 v) = Qk_l13_s G n p0 p1 p2 p3 p4 p5 p6 p7 p8 p9 p10 p11 p12 p13 p14 p15 p16 p17 p18 p19 p20 p21 p22 p23 p24 p25 p26 p27 p28 p29 p30 p31 p32 p33 p34 p35 (K .ret ⟨[(10, .b false)], [.row 5 true false [[.i .i64 p6, .i .i64 p7, .i .i64 p8, .lst p9 p10 5 p11, .lst p12 p13 13 p14]], .row 6 true false [[.i .i64 11, .lst p15 p16 1 p17, .lst true true 0 [], .i .i64 p18, .i .i64 0, .i .u64 p19]], .row 5 true false [[.i .i64 p20, .i .i64 p21, .i .i64 p22, .lst p23 p24 5 p25, .lst p26 p27 13 p28]], .row 3 true false [[.i .i64 p29, .i .u64 p30, .i .i64 p31]], .row 4 true false [[.i .i64 p32, .i .i64 p33, .i .i64 p34, .i .i64 p35]]]⟩) (K (.exit 0) ⟨[(10, .u)], [.row 5 true false [[.i .i64 p6, .i .i64 p7, .i .i64 p8, .lst p9 p10 5 p11, .lst p12 p13 13 p14]], .row 6 true false [[.i .i64 11, .lst p15 p16 1 p17, .lst true true 0 [], .i .i64 p18, .i .i64 0, .i .u64 p19]], .row 5 true false [[.i .i64 p20, .i .i64 p21, .i .i64 p22, .lst p23 p24 5 p25, .lst p26 p27 13 p28]], .row 3 true false [[.i .i64 p29, .i .u64 p30, .i .i64 p31]], .row 4 true false [[.i .i64 p32, .i .i64 p33, .i .i64 p34, .i .i64 p35]]]⟩) (fun v => N (Qk_l13_enc p0 p1 p2 p3 p4 p5 p6 p7 p8 p9 p10 p11 p12 p13 p14 p15 p16 p17 p18 p19 p20 p21 p22 p23 p24 p25 p26 p27 p28 p29 p30 p31 p32 p33 p34 p35 v)) v
 | v => by kernel_rfl
theorem Qk_l13_dok (n : Nat) : LE.OK (Qk_l13_d (Qk_g n) n) (L tab) Qk_c13 := LE.shp (fun _ _ _ => rfl) fun ρ K y a b e => LE.rounds (Qk_Sok n) (LK.of (l := []) (by kernel_rfl) ((fun _ h => nomatch h))) (Qk_l13_k (Qk_g n) n _ _ _ _ _ _ _ _ _ _ _ _ _ _ _ _ _ _ _ _ _ _ _ _ _ _ _ _ _ _ _ _ _ _ _ _ K) (by kernel_rfl) (by kernel_rfl) e
theorem Qk_d13_ok (n : Nat) : LE.OK (Qk_d13 (Qk_g n) n) (L tab) Qk_c13 := Qk_l13_dok n
theorem Qk_k (G : Qk_G) {ρ : Type} (n : Nat) (a0 a1 a2 : Int) (a3 a4 : Bool) (a5 : Rows) (a6 a7 : Bool) (a8 : Rows) (a9 : Int) (a10 a11 : Bool) (a12 : Rows) (a13 a14 : Int) (K : Res → Option ρ) : runC (Qk_S G) Qk_hs (Qk_lp G n) m4 [.agg [.i .i64 a0, .i .i64 a1, .i .i64 a2, .lst a3 a4 5 a5, .lst a6 a7 13 a8], .i .i64 a9, .lst a10 a11 1 a12, .i .i64 a13, .i .u64 a14] K = Qk_s G n a0 a1 a2 a3 a4 a5 a6 a7 a8 a9 a10 a11 a12 a13 a14 (fun w0 => K ⟨.b w0, [], []⟩) := by kernel_rfl
theorem Qk_ok (n : Nat) : EK.OK (Qk_e n) 4 (L tab) := EK.shp (fun _ _ _ => rfl) fun ρ K y c e => EK.run (Qk_Sok n) (by kernel_rfl) (MF.LKOK.of (LK.of (l := [Qk_c13]) (by kernel_rfl) (List.forall_mem_cons.2 ⟨LE.at (e := Qk_d13 (Qk_g n) n) (by kernel_rfl) (Qk_d13_ok n), (fun _ h => nomatch h)⟩))) (Qk_k (Qk_g n) n _ _ _ _ _ _ _ _ _ _ _ _ _ _ _ K) (by kernel_rfl) e
end Go.Rv
