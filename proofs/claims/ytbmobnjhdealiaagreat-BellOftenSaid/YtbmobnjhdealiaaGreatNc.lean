/- functions as programs of ours, and their ties, part 4 -/
import Derived.Test.YtbmobnjhdealiaaGreatNb
import Derived.KernelRfl
namespace Go.Rv
abbrev Q0_T : Type 1 := (ρ : Type) → Int → Int → Int → Bool → Bool → Rows → Bool → Bool → Rows → Int → Int → (Nat → Nat → Rows → Option ρ) → (Nat → Nat → Nat → Nat → Rows → Rows → Option ρ) → Option ρ
def Q0_E (G : Q0_T) : EK := fun ρ args K => decL [.agg [.i .i64 none, .i .i64 none, .i .i64 none, .lst none none 5 none, .lst none none 13 none], .i .i64 none, .i .i64 none] args fun c => G ρ c.1.1 c.1.2.1 c.1.2.2.1 c.1.2.2.2.1.1 c.1.2.2.2.1.2.1 c.1.2.2.2.1.2.2 c.1.2.2.2.2.1.1 c.1.2.2.2.2.1.2.1 c.1.2.2.2.2.1.2.2 c.2.1 c.2.2.1 (fun w0 w1 w2 => K ⟨.agg [.i .i64 c.1.1, .i .i64 c.1.2.1, .i .i64 c.1.2.2.1, .sl 0 w0 5 0 w1, .lst true true 0 []], [.row 5 true false w2], []⟩) (fun w0 w1 w2 w3 w4 w5 => K ⟨.agg [.i .i64 c.1.1, .i .i64 c.1.2.1, .i .i64 c.1.2.2.1, .sl 0 w0 5 0 w1, .sl 1 w2 13 0 w3], [.row 5 true false w4, .row 13 true false w5], []⟩)
structure Q0_G where
 mk ::
 Qa : Qa_T
 Q3 : Q3_T
 Qo : Qo_T
abbrev Q0_l5_0_V : Type := Unit
noncomputable def Q0_l5_0_s (_G : Q0_G) {ρ : Type} (_n : Nat) (_p0 _p1 : Int) (_p2 _p3 _p4 : Int) (_p5 _p6 : Nat) (_p7 : Rows) (k0 : (Option ρ)) (_rec' : Q0_l5_0_V → Option ρ) : Q0_l5_0_V → Option ρ
 | _v =>
 k0
noncomputable def Q0_l5_0 (G : Q0_G) {ρ : Type} (n : Nat) (p0 p1 : Int) (p2 p3 p4 : Int) (p5 p6 : Nat) (p7 : Rows) (k0 : (Option ρ)) (v : Q0_l5_0_V) : Option ρ := fuelN (Q0_l5_0_s G n p0 p1 p2 p3 p4 p5 p6 p7 k0) n v
def Q0_l5_0_enc (p0 p1 : Int) (p2 p3 p4 : Int) (p5 p6 : Nat) (p7 : Rows) : Q0_l5_0_V → St
 | _v => ⟨[(1, .i .i64 p0), (2, .i .i64 p1), (3, .ptr 0 1 5 0 0), (6, .ptr 1 1 5 0 0), (40, .lst true true 0 []), (41, .i .i64 0), (42, .i .i64 0)], [.row 5 false false [[.i .i64 p2, .i .i64 p3, .i .i64 p4, .sl 3 p5 5 0 p6, .lst true true 0 []]], .row 5 true false [[.i .i64 0, .i .i64 0, .i .i64 0, .lst true true 0 [], .lst true true 0 []]], .row 1 true false [[.lst true true 0 []]], .row 5 true false p7]⟩
abbrev Q0_l10_0_V : Type := Unit
noncomputable def Q0_l10_0_s (_G : Q0_G) {ρ : Type} (_n : Nat) (_p0 _p1 : Int) (_p2 _p3 _p4 : Int) (_p5 _p6 : Nat) (_p7 : Rows) (k0 : (Option ρ)) (_rec' : Q0_l10_0_V → Option ρ) : Q0_l10_0_V → Option ρ
 | _v =>
 k0
noncomputable def Q0_l10_0 (G : Q0_G) {ρ : Type} (n : Nat) (p0 p1 : Int) (p2 p3 p4 : Int) (p5 p6 : Nat) (p7 : Rows) (k0 : (Option ρ)) (v : Q0_l10_0_V) : Option ρ := fuelN (Q0_l10_0_s G n p0 p1 p2 p3 p4 p5 p6 p7 k0) n v
def Q0_l10_0_enc (p0 p1 : Int) (p2 p3 p4 : Int) (p5 p6 : Nat) (p7 : Rows) : Q0_l10_0_V → St
 | _v => ⟨[(1, .i .i64 p0), (2, .i .i64 p1), (3, .ptr 0 1 5 0 0), (6, .ptr 1 1 5 0 0), (57, .i .i64 0), (58, .i .i64 0)], [.row 5 false false [[.i .i64 p2, .i .i64 p3, .i .i64 p4, .sl 3 p5 5 0 p6, .lst true true 0 []]], .row 5 true false [[.i .i64 0, .i .i64 0, .i .i64 0, .lst true true 0 [], .lst true true 0 []]], .row 1 true false [[.lst true true 0 []]], .row 5 true false p7]⟩
abbrev Q0_l5_1_V : Type := Unit
noncomputable def Q0_l5_1_s (_G : Q0_G) {ρ : Type} (_n : Nat) (_p0 _p1 : Int) (_p2 _p3 _p4 : Int) (_p5 _p6 : Nat) (_p7 _p8 : Nat) (_p9 _p10 : Rows) (k0 : (Option ρ)) (_rec' : Q0_l5_1_V → Option ρ) : Q0_l5_1_V → Option ρ
 | _v =>
 k0
noncomputable def Q0_l5_1 (G : Q0_G) {ρ : Type} (n : Nat) (p0 p1 : Int) (p2 p3 p4 : Int) (p5 p6 : Nat) (p7 p8 : Nat) (p9 p10 : Rows) (k0 : (Option ρ)) (v : Q0_l5_1_V) : Option ρ := fuelN (Q0_l5_1_s G n p0 p1 p2 p3 p4 p5 p6 p7 p8 p9 p10 k0) n v
def Q0_l5_1_enc (p0 p1 : Int) (p2 p3 p4 : Int) (p5 p6 : Nat) (p7 p8 : Nat) (p9 p10 : Rows) : Q0_l5_1_V → St
 | _v => ⟨[(1, .i .i64 p0), (2, .i .i64 p1), (3, .ptr 0 1 5 0 0), (6, .ptr 1 1 5 0 0), (40, .lst true true 0 []), (41, .i .i64 0), (42, .i .i64 0)], [.row 5 false false [[.i .i64 p2, .i .i64 p3, .i .i64 p4, .sl 3 p5 5 0 p6, .sl 4 p7 13 0 p8]], .row 5 true false [[.i .i64 0, .i .i64 0, .i .i64 0, .lst true true 0 [], .lst true true 0 []]], .row 1 true false [[.lst true true 0 []]], .row 5 true false p9, .row 13 true false p10]⟩
abbrev Q0_l10_1_V : Type := Int × Rows
noncomputable def Q0_l10_1_s (_G : Q0_G) {ρ : Type} (_n : Nat) (p0 p1 : Int) (p2 _p3 : Int) (_p4 _p5 : Int) (_p6 _p7 : Nat) (p8 p9 : Nat) (_p10 : Rows) (k0 : (Rows → Option ρ)) (rec' : Q0_l10_1_V → Option ρ) : Q0_l10_1_V → Option ρ
 | v =>
 bif decide ((v.1 : Int) < p2) then
 chk (decide ((0 : Int) ≤ v.1)) <|
 chk (decide ((v.1 : Int) < ((p9 : Nat) : Int))) <|
 chk (((List.length (v.2 : Rows)) : Nat) == p8) <|
 rowN [.i .i64, .i .i64, .i .i64, .i .i64, .i .i64, .i .i64, .i .i64, .b, .i .u64, .i .u64, .i .u64, .i .u64, .i .u64] v.2 (0 + v.1.toNat) fun c0 =>
 bif ((c0.2.2.2.2.2.1 : Int) == (IntKind.wrap .i64 (p0 + 1))) then
 chk (decide ((0 : Int) ≤ v.1)) <|
 chk (decide ((v.1 : Int) < ((p9 : Nat) : Int))) <|
 chk (((List.length (v.2 : Rows)) : Nat) == p8) <|
 rowN [.a, .a, .a, .a, .a, .a, .a, .a, .a, .a, .a, .a, .a] v.2 (0 + v.1.toNat) fun c1 =>
 rec' ((IntKind.wrap .i64 (v.1 + 1)), (List.set (v.2 : Rows) (0 + v.1.toNat) [c1.1, c1.2.1, c1.2.2.1, c1.2.2.2.1, c1.2.2.2.2.1, .i .i64 (IntKind.wrap .i64 (p1 + 1)), c1.2.2.2.2.2.2.1, c1.2.2.2.2.2.2.2.1, c1.2.2.2.2.2.2.2.2.1, c1.2.2.2.2.2.2.2.2.2.1, c1.2.2.2.2.2.2.2.2.2.2.1, c1.2.2.2.2.2.2.2.2.2.2.2.1, c1.2.2.2.2.2.2.2.2.2.2.2.2.1]))
 else rec' ((IntKind.wrap .i64 (v.1 + 1)), v.2)
 else k0 v.2
noncomputable def Q0_l10_1 (G : Q0_G) {ρ : Type} (n : Nat) (p0 p1 : Int) (p2 p3 : Int) (p4 p5 : Int) (p6 p7 : Nat) (p8 p9 : Nat) (p10 : Rows) (k0 : (Rows → Option ρ)) (v : Q0_l10_1_V) : Option ρ := fuelN (Q0_l10_1_s G n p0 p1 p2 p3 p4 p5 p6 p7 p8 p9 p10 k0) n v
def Q0_l10_1_enc (p0 p1 : Int) (p2 p3 : Int) (p4 p5 : Int) (p6 p7 : Nat) (p8 p9 : Nat) (p10 : Rows) : Q0_l10_1_V → St
 | v => ⟨[(1, .i .i64 p0), (2, .i .i64 p1), (3, .ptr 0 1 5 0 0), (6, .ptr 1 1 5 0 0), (57, .i .i64 p2), (58, .i .i64 v.1)], [.row 5 false false [[.i .i64 p3, .i .i64 p4, .i .i64 p5, .sl 3 p6 5 0 p7, .sl 4 p8 13 0 p9]], .row 5 true false [[.i .i64 0, .i .i64 0, .i .i64 0, .lst true true 0 [], .lst true true 0 []]], .row 1 true false [[.lst true true 0 []]], .row 5 true false p10, .row 13 true false v.2]⟩
abbrev Q0_l5_2_V : Type := Int × Rows
noncomputable def Q0_l5_2_s (_G : Q0_G) {ρ : Type} (_n : Nat) (_p0 _p1 : Int) (p2 p3 : Nat) (p4 _p5 : Int) (_p6 _p7 : Int) (p8 p9 : Nat) (p10 : Rows) (_p11 _p12 : Nat) (k0 : (Rows → Option ρ)) (rec' : Q0_l5_2_V → Option ρ) : Q0_l5_2_V → Option ρ
 | v =>
 bif decide ((v.1 : Int) < p4) then
 chk (decide ((0 : Int) ≤ v.1)) <|
 chk (decide ((v.1 : Int) < ((p3 : Nat) : Int))) <|
 chk (((List.length (p10 : Rows)) : Nat) == p2) <|
 rowN [.i .i64] p10 (0 + v.1.toNat) fun c0 =>
 chk (decide ((0 : Int) ≤ v.1)) <|
 chk (decide ((v.1 : Int) < ((p9 : Nat) : Int))) <|
 chk (((List.length (v.2 : Rows)) : Nat) == p8) <|
 rowN [.a, .a, .a, .a, .a] v.2 (0 + v.1.toNat) fun c1 =>
 rec' ((IntKind.wrap .i64 (v.1 + 1)), (List.set (v.2 : Rows) (0 + v.1.toNat) [c1.1, c1.2.1, c1.2.2.1, c1.2.2.2.1, .i .i64 (if (-1) > c0.1 then (-1) else c0.1)]))
 else k0 v.2
noncomputable def Q0_l5_2 (G : Q0_G) {ρ : Type} (n : Nat) (p0 p1 : Int) (p2 p3 : Nat) (p4 p5 : Int) (p6 p7 : Int) (p8 p9 : Nat) (p10 : Rows) (p11 p12 : Nat) (k0 : (Rows → Option ρ)) (v : Q0_l5_2_V) : Option ρ := fuelN (Q0_l5_2_s G n p0 p1 p2 p3 p4 p5 p6 p7 p8 p9 p10 p11 p12 k0) n v
def Q0_l5_2_enc (p0 p1 : Int) (p2 p3 : Nat) (p4 p5 : Int) (p6 p7 : Int) (p8 p9 : Nat) (p10 : Rows) (p11 p12 : Nat) : Q0_l5_2_V → St
 | v => ⟨[(1, .i .i64 p0), (2, .i .i64 p1), (3, .ptr 0 1 5 0 0), (6, .ptr 1 1 5 0 0), (40, .sl 2 p2 1 0 p3), (41, .i .i64 p4), (42, .i .i64 v.1)], [.row 5 false false [[.i .i64 p5, .i .i64 p6, .i .i64 p7, .sl 4 p8 5 0 p9, .lst true true 0 []]], .row 5 true false [[.i .i64 0, .i .i64 0, .i .i64 0, .lst true true 0 [], .lst true true 0 []]], .row 1 true false p10, .row 1 false false [[.sl 2 p11 1 0 p12]], .row 5 true false v.2]⟩
abbrev Q0_l10_2_V : Type := Unit
noncomputable def Q0_l10_2_s (_G : Q0_G) {ρ : Type} (_n : Nat) (_p0 _p1 : Int) (_p2 _p3 _p4 : Int) (_p5 _p6 : Nat) (_p7 : Rows) (_p8 _p9 : Nat) (_p10 : Rows) (k0 : (Option ρ)) (_rec' : Q0_l10_2_V → Option ρ) : Q0_l10_2_V → Option ρ
 | _v =>
 k0
noncomputable def Q0_l10_2 (G : Q0_G) {ρ : Type} (n : Nat) (p0 p1 : Int) (p2 p3 p4 : Int) (p5 p6 : Nat) (p7 : Rows) (p8 p9 : Nat) (p10 : Rows) (k0 : (Option ρ)) (v : Q0_l10_2_V) : Option ρ := fuelN (Q0_l10_2_s G n p0 p1 p2 p3 p4 p5 p6 p7 p8 p9 p10 k0) n v
def Q0_l10_2_enc (p0 p1 : Int) (p2 p3 p4 : Int) (p5 p6 : Nat) (p7 : Rows) (p8 p9 : Nat) (p10 : Rows) : Q0_l10_2_V → St
 | _v => ⟨[(1, .i .i64 p0), (2, .i .i64 p1), (3, .ptr 0 1 5 0 0), (6, .ptr 1 1 5 0 0), (57, .i .i64 0), (58, .i .i64 0)], [.row 5 false false [[.i .i64 p2, .i .i64 p3, .i .i64 p4, .sl 4 p5 5 0 p6, .lst true true 0 []]], .row 5 true false [[.i .i64 0, .i .i64 0, .i .i64 0, .lst true true 0 [], .lst true true 0 []]], .row 1 true false p7, .row 1 false false [[.sl 2 p8 1 0 p9]], .row 5 true false p10]⟩
abbrev Q0_l5_3_V : Type := Int × Rows
noncomputable def Q0_l5_3_s (_G : Q0_G) {ρ : Type} (_n : Nat) (_p0 _p1 : Int) (p2 p3 : Nat) (p4 _p5 : Int) (_p6 _p7 : Int) (p8 p9 : Nat) (_p10 _p11 : Nat) (p12 : Rows) (_p13 _p14 : Nat) (_p16 : Rows) (k0 : (Rows → Option ρ)) (rec' : Q0_l5_3_V → Option ρ) : Q0_l5_3_V → Option ρ
 | v =>
 bif decide ((v.1 : Int) < p4) then
 chk (decide ((0 : Int) ≤ v.1)) <|
 chk (decide ((v.1 : Int) < ((p3 : Nat) : Int))) <|
 chk (((List.length (p12 : Rows)) : Nat) == p2) <|
 rowN [.i .i64] p12 (0 + v.1.toNat) fun c0 =>
 chk (decide ((0 : Int) ≤ v.1)) <|
 chk (decide ((v.1 : Int) < ((p9 : Nat) : Int))) <|
 chk (((List.length (v.2 : Rows)) : Nat) == p8) <|
 rowN [.a, .a, .a, .a, .a] v.2 (0 + v.1.toNat) fun c1 =>
 rec' ((IntKind.wrap .i64 (v.1 + 1)), (List.set (v.2 : Rows) (0 + v.1.toNat) [c1.1, c1.2.1, c1.2.2.1, c1.2.2.2.1, .i .i64 (if (-1) > c0.1 then (-1) else c0.1)]))
 else k0 v.2
noncomputable def Q0_l5_3 (G : Q0_G) {ρ : Type} (n : Nat) (p0 p1 : Int) (p2 p3 : Nat) (p4 p5 : Int) (p6 p7 : Int) (p8 p9 : Nat) (p10 p11 : Nat) (p12 : Rows) (p13 p14 : Nat) (p16 : Rows) (k0 : (Rows → Option ρ)) (v : Q0_l5_3_V) : Option ρ := fuelN (Q0_l5_3_s G n p0 p1 p2 p3 p4 p5 p6 p7 p8 p9 p10 p11 p12 p13 p14 p16 k0) n v
def Q0_l5_3_enc (p0 p1 : Int) (p2 p3 : Nat) (p4 p5 : Int) (p6 p7 : Int) (p8 p9 : Nat) (p10 p11 : Nat) (p12 : Rows) (p13 p14 : Nat) (p16 : Rows) : Q0_l5_3_V → St
 | v => ⟨[(1, .i .i64 p0), (2, .i .i64 p1), (3, .ptr 0 1 5 0 0), (6, .ptr 1 1 5 0 0), (40, .sl 2 p2 1 0 p3), (41, .i .i64 p4), (42, .i .i64 v.1)], [.row 5 false false [[.i .i64 p5, .i .i64 p6, .i .i64 p7, .sl 4 p8 5 0 p9, .sl 5 p10 13 0 p11]], .row 5 true false [[.i .i64 0, .i .i64 0, .i .i64 0, .lst true true 0 [], .lst true true 0 []]], .row 1 true false p12, .row 1 false false [[.sl 2 p13 1 0 p14]], .row 5 true false v.2, .row 13 true false p16]⟩
abbrev Q0_l10_3_V : Type := Int × Rows
noncomputable def Q0_l10_3_s (_G : Q0_G) {ρ : Type} (_n : Nat) (p0 p1 : Int) (p2 _p3 : Int) (_p4 _p5 : Int) (_p6 _p7 : Nat) (p8 p9 : Nat) (_p10 : Rows) (_p11 _p12 : Nat) (_p13 : Rows) (k0 : (Rows → Option ρ)) (rec' : Q0_l10_3_V → Option ρ) : Q0_l10_3_V → Option ρ
 | v =>
 bif decide ((v.1 : Int) < p2) then
 chk (decide ((0 : Int) ≤ v.1)) <|
 chk (decide ((v.1 : Int) < ((p9 : Nat) : Int))) <|
 chk (((List.length (v.2 : Rows)) : Nat) == p8) <|
 rowN [.i .i64, .i .i64, .i .i64, .i .i64, .i .i64, .i .i64, .i .i64, .b, .i .u64, .i .u64, .i .u64, .i .u64, .i .u64] v.2 (0 + v.1.toNat) fun c0 =>
 bif ((c0.2.2.2.2.2.1 : Int) == (IntKind.wrap .i64 (p0 + 1))) then
 chk (decide ((0 : Int) ≤ v.1)) <|
 chk (decide ((v.1 : Int) < ((p9 : Nat) : Int))) <|
 chk (((List.length (v.2 : Rows)) : Nat) == p8) <|
 rowN [.a, .a, .a, .a, .a, .a, .a, .a, .a, .a, .a, .a, .a] v.2 (0 + v.1.toNat) fun c1 =>
 rec' ((IntKind.wrap .i64 (v.1 + 1)), (List.set (v.2 : Rows) (0 + v.1.toNat) [c1.1, c1.2.1, c1.2.2.1, c1.2.2.2.1, c1.2.2.2.2.1, .i .i64 (IntKind.wrap .i64 (p1 + 1)), c1.2.2.2.2.2.2.1, c1.2.2.2.2.2.2.2.1, c1.2.2.2.2.2.2.2.2.1, c1.2.2.2.2.2.2.2.2.2.1, c1.2.2.2.2.2.2.2.2.2.2.1, c1.2.2.2.2.2.2.2.2.2.2.2.1, c1.2.2.2.2.2.2.2.2.2.2.2.2.1]))
 else rec' ((IntKind.wrap .i64 (v.1 + 1)), v.2)
 else k0 v.2
noncomputable def Q0_l10_3 (G : Q0_G) {ρ : Type} (n : Nat) (p0 p1 : Int) (p2 p3 : Int) (p4 p5 : Int) (p6 p7 : Nat) (p8 p9 : Nat) (p10 : Rows) (p11 p12 : Nat) (p13 : Rows) (k0 : (Rows → Option ρ)) (v : Q0_l10_3_V) : Option ρ := fuelN (Q0_l10_3_s G n p0 p1 p2 p3 p4 p5 p6 p7 p8 p9 p10 p11 p12 p13 k0) n v
def Q0_l10_3_enc (p0 p1 : Int) (p2 p3 : Int) (p4 p5 : Int) (p6 p7 : Nat) (p8 p9 : Nat) (p10 : Rows) (p11 p12 : Nat) (p13 : Rows) : Q0_l10_3_V → St
 | v => ⟨[(1, .i .i64 p0), (2, .i .i64 p1), (3, .ptr 0 1 5 0 0), (6, .ptr 1 1 5 0 0), (57, .i .i64 p2), (58, .i .i64 v.1)], [.row 5 false false [[.i .i64 p3, .i .i64 p4, .i .i64 p5, .sl 4 p6 5 0 p7, .sl 5 p8 13 0 p9]], .row 5 true false [[.i .i64 0, .i .i64 0, .i .i64 0, .lst true true 0 [], .lst true true 0 []]], .row 1 true false p10, .row 1 false false [[.sl 2 p11 1 0 p12]], .row 5 true false p13, .row 13 true false v.2]⟩
noncomputable def Q0_s (G : Q0_G) {ρ : Type} (n : Nat) (a0 a1 a2 : Int) (a3 a4 : Bool) (a5 : Rows) (a6 a7 : Bool) (a8 : Rows) (a9 a10 : Int) (k0 : (Nat → Nat → Rows → Option ρ)) (k1 : (Nat → Nat → Nat → Nat → Rows → Rows → Option ρ)) : Option ρ :=
 G.Qa ρ a0 a1 a2 a3 a4 a5 a6 a7 a8 (fun w0_0 w0_1 w0_2 =>
 G.Q3 ρ w0_0 w0_1 w0_2 a9 a10 (G.Qo ρ a0 a1 a2 a3 a4 a5 a6 a7 a8 (none) (fun _w3_0 _w3_1 _w3_2 =>
 none) (fun w4_0 w4_1 w4_2 =>
 chk (decide ((0 : Int) ≤ a9)) <|
 chk (decide ((a9 : Int) < ((w4_1 : Nat) : Int))) <|
 chk (((List.length (w4_2 : Rows)) : Nat) == w4_0) <|
 rowN [.i .i64, .i .i64, .i .i64, .i .i64, .i .i64] w4_2 (0 + a9.toNat) fun c5 =>
 chk (decide ((0 : Int) ≤ a10)) <|
 chk (decide ((a10 : Int) < ((w4_1 : Nat) : Int))) <|
 chk (((List.length (w4_2 : Rows)) : Nat) == w4_0) <|
 rowN [.a, .a, .a, .a, .a] w4_2 (0 + a10.toNat) fun c6 =>
 chk (decide ((0 : Int) ≤ a9)) <|
 chk (decide ((a9 : Int) < ((w4_1 : Nat) : Int))) <|
 chk (((List.length ((List.set (w4_2 : Rows) (0 + a10.toNat) [.i .i64 c5.1, .i .i64 c5.2.1, .i .i64 c5.2.2.1, .i .i64 c5.2.2.2.1, c6.2.2.2.2.1]) : Rows)) : Nat) == w4_0) <|
 rowN [.a, .a, .a, .a, .a] (List.set (w4_2 : Rows) (0 + a10.toNat) [.i .i64 c5.1, .i .i64 c5.2.1, .i .i64 c5.2.2.1, .i .i64 c5.2.2.2.1, c6.2.2.2.2.1]) (0 + a9.toNat) fun c7 =>
 Q0_l5_0 G n a9 a10 a0 a1 a2 w4_0 w4_1 (List.set ((List.set (w4_2 : Rows) (0 + a10.toNat) [.i .i64 c5.1, .i .i64 c5.2.1, .i .i64 c5.2.2.1, .i .i64 c5.2.2.2.1, c6.2.2.2.2.1]) : Rows) (0 + a9.toNat) [.i .i64 0, .i .i64 0, .i .i64 0, .i .i64 0, c7.2.2.2.2.1]) (Q0_l10_0 G n a9 a10 a0 a1 a2 w4_0 w4_1 (List.set ((List.set (w4_2 : Rows) (0 + a10.toNat) [.i .i64 c5.1, .i .i64 c5.2.1, .i .i64 c5.2.2.1, .i .i64 c5.2.2.2.1, c6.2.2.2.2.1]) : Rows) (0 + a9.toNat) [.i .i64 0, .i .i64 0, .i .i64 0, .i .i64 0, c7.2.2.2.2.1]) (k0 w4_0 w4_1 (List.set ((List.set (w4_2 : Rows) (0 + a10.toNat) [.i .i64 c5.1, .i .i64 c5.2.1, .i .i64 c5.2.2.1, .i .i64 c5.2.2.2.1, c6.2.2.2.2.1]) : Rows) (0 + a9.toNat) [.i .i64 0, .i .i64 0, .i .i64 0, .i .i64 0, c7.2.2.2.2.1])) ()) ()) (fun w10_0 w10_1 w10_2 w10_3 w10_4 w10_5 =>
 chk (decide ((0 : Int) ≤ a9)) <|
 chk (decide ((a9 : Int) < ((w10_1 : Nat) : Int))) <|
 chk (((List.length (w10_4 : Rows)) : Nat) == w10_0) <|
 rowN [.i .i64, .i .i64, .i .i64, .i .i64, .i .i64] w10_4 (0 + a9.toNat) fun c11 =>
 chk (decide ((0 : Int) ≤ a10)) <|
 chk (decide ((a10 : Int) < ((w10_1 : Nat) : Int))) <|
 chk (((List.length (w10_4 : Rows)) : Nat) == w10_0) <|
 rowN [.a, .a, .a, .a, .a] w10_4 (0 + a10.toNat) fun c12 =>
 chk (decide ((0 : Int) ≤ a9)) <|
 chk (decide ((a9 : Int) < ((w10_1 : Nat) : Int))) <|
 chk (((List.length ((List.set (w10_4 : Rows) (0 + a10.toNat) [.i .i64 c11.1, .i .i64 c11.2.1, .i .i64 c11.2.2.1, .i .i64 c11.2.2.2.1, c12.2.2.2.2.1]) : Rows)) : Nat) == w10_0) <|
 rowN [.a, .a, .a, .a, .a] (List.set (w10_4 : Rows) (0 + a10.toNat) [.i .i64 c11.1, .i .i64 c11.2.1, .i .i64 c11.2.2.1, .i .i64 c11.2.2.2.1, c12.2.2.2.2.1]) (0 + a9.toNat) fun c13 =>
 Q0_l5_1 G n a9 a10 a0 a1 a2 w10_0 w10_1 w10_2 w10_3 (List.set ((List.set (w10_4 : Rows) (0 + a10.toNat) [.i .i64 c11.1, .i .i64 c11.2.1, .i .i64 c11.2.2.1, .i .i64 c11.2.2.2.1, c12.2.2.2.2.1]) : Rows) (0 + a9.toNat) [.i .i64 0, .i .i64 0, .i .i64 0, .i .i64 0, c13.2.2.2.2.1]) w10_5 (Q0_l10_1 G n a9 a10 ((w10_3 : Nat) : Int) a0 a1 a2 w10_0 w10_1 w10_2 w10_3 (List.set ((List.set (w10_4 : Rows) (0 + a10.toNat) [.i .i64 c11.1, .i .i64 c11.2.1, .i .i64 c11.2.2.1, .i .i64 c11.2.2.2.1, c12.2.2.2.2.1]) : Rows) (0 + a9.toNat) [.i .i64 0, .i .i64 0, .i .i64 0, .i .i64 0, c13.2.2.2.2.1]) (fun w15_0 =>
 k1 w10_0 w10_1 w10_2 w10_3 (List.set ((List.set (w10_4 : Rows) (0 + a10.toNat) [.i .i64 c11.1, .i .i64 c11.2.1, .i .i64 c11.2.2.1, .i .i64 c11.2.2.2.1, c12.2.2.2.2.1]) : Rows) (0 + a9.toNat) [.i .i64 0, .i .i64 0, .i .i64 0, .i .i64 0, c13.2.2.2.2.1]) w15_0) (0, w10_5)) ())) (fun w16_0 w16_1 w16_2 =>
 G.Qo ρ a0 a1 a2 a3 a4 a5 a6 a7 a8 (none) (fun _w18_0 _w18_1 _w18_2 =>
 none) (fun w19_0 w19_1 w19_2 =>
 chk (decide ((0 : Int) ≤ a9)) <|
 chk (decide ((a9 : Int) < ((w19_1 : Nat) : Int))) <|
 chk (((List.length (w19_2 : Rows)) : Nat) == w19_0) <|
 rowN [.i .i64, .i .i64, .i .i64, .i .i64, .i .i64] w19_2 (0 + a9.toNat) fun c20 =>
 chk (decide ((0 : Int) ≤ a10)) <|
 chk (decide ((a10 : Int) < ((w19_1 : Nat) : Int))) <|
 chk (((List.length (w19_2 : Rows)) : Nat) == w19_0) <|
 rowN [.a, .a, .a, .a, .a] w19_2 (0 + a10.toNat) fun c21 =>
 chk (decide ((0 : Int) ≤ a9)) <|
 chk (decide ((a9 : Int) < ((w19_1 : Nat) : Int))) <|
 chk (((List.length ((List.set (w19_2 : Rows) (0 + a10.toNat) [.i .i64 c20.1, .i .i64 c20.2.1, .i .i64 c20.2.2.1, .i .i64 c20.2.2.2.1, c21.2.2.2.2.1]) : Rows)) : Nat) == w19_0) <|
 rowN [.a, .a, .a, .a, .a] (List.set (w19_2 : Rows) (0 + a10.toNat) [.i .i64 c20.1, .i .i64 c20.2.1, .i .i64 c20.2.2.1, .i .i64 c20.2.2.2.1, c21.2.2.2.2.1]) (0 + a9.toNat) fun c22 =>
 Q0_l5_2 G n a9 a10 w16_0 w16_1 ((w16_1 : Nat) : Int) a0 a1 a2 w19_0 w19_1 w16_2 w16_0 w16_1 (fun w23_0 =>
 Q0_l10_2 G n a9 a10 a0 a1 a2 w19_0 w19_1 w16_2 w16_0 w16_1 w23_0 (k0 w19_0 w19_1 w23_0) ()) (0, (List.set ((List.set (w19_2 : Rows) (0 + a10.toNat) [.i .i64 c20.1, .i .i64 c20.2.1, .i .i64 c20.2.2.1, .i .i64 c20.2.2.2.1, c21.2.2.2.2.1]) : Rows) (0 + a9.toNat) [.i .i64 0, .i .i64 0, .i .i64 0, .i .i64 0, c22.2.2.2.2.1]))) (fun w25_0 w25_1 w25_2 w25_3 w25_4 w25_5 =>
 chk (decide ((0 : Int) ≤ a9)) <|
 chk (decide ((a9 : Int) < ((w25_1 : Nat) : Int))) <|
 chk (((List.length (w25_4 : Rows)) : Nat) == w25_0) <|
 rowN [.i .i64, .i .i64, .i .i64, .i .i64, .i .i64] w25_4 (0 + a9.toNat) fun c26 =>
 chk (decide ((0 : Int) ≤ a10)) <|
 chk (decide ((a10 : Int) < ((w25_1 : Nat) : Int))) <|
 chk (((List.length (w25_4 : Rows)) : Nat) == w25_0) <|
 rowN [.a, .a, .a, .a, .a] w25_4 (0 + a10.toNat) fun c27 =>
 chk (decide ((0 : Int) ≤ a9)) <|
 chk (decide ((a9 : Int) < ((w25_1 : Nat) : Int))) <|
 chk (((List.length ((List.set (w25_4 : Rows) (0 + a10.toNat) [.i .i64 c26.1, .i .i64 c26.2.1, .i .i64 c26.2.2.1, .i .i64 c26.2.2.2.1, c27.2.2.2.2.1]) : Rows)) : Nat) == w25_0) <|
 rowN [.a, .a, .a, .a, .a] (List.set (w25_4 : Rows) (0 + a10.toNat) [.i .i64 c26.1, .i .i64 c26.2.1, .i .i64 c26.2.2.1, .i .i64 c26.2.2.2.1, c27.2.2.2.2.1]) (0 + a9.toNat) fun c28 =>
 Q0_l5_3 G n a9 a10 w16_0 w16_1 ((w16_1 : Nat) : Int) a0 a1 a2 w25_0 w25_1 w25_2 w25_3 w16_2 w16_0 w16_1 w25_5 (fun w29_0 =>
 Q0_l10_3 G n a9 a10 ((w25_3 : Nat) : Int) a0 a1 a2 w25_0 w25_1 w25_2 w25_3 w16_2 w16_0 w16_1 w29_0 (fun w30_0 =>
 k1 w25_0 w25_1 w25_2 w25_3 w29_0 w30_0) (0, w25_5)) (0, (List.set ((List.set (w25_4 : Rows) (0 + a10.toNat) [.i .i64 c26.1, .i .i64 c26.2.1, .i .i64 c26.2.2.1, .i .i64 c26.2.2.2.1, c27.2.2.2.2.1]) : Rows) (0 + a9.toNat) [.i .i64 0, .i .i64 0, .i .i64 0, .i .i64 0, c28.2.2.2.2.1])))))
noncomputable def Q0_g (n : Nat) : Q0_G := ⟨Qa n, Q3 n, Qo n⟩
noncomputable def Q0 (n : Nat) : Q0_T := fun _ρ a0 a1 a2 a3 a4 a5 a6 a7 a8 a9 a10 k0 k1 => Q0_s (Q0_g n) n a0 a1 a2 a3 a4 a5 a6 a7 a8 a9 a10 k0 k1
noncomputable def Q0_e (n : Nat) : EK := Q0_E (Q0 n)
def Q0_S (G : Q0_G) : CK := tabS [(25, Qa_E G.Qa), (114, Q3_E G.Q3), (29, Qo_E G.Qo)]
theorem Q0_Sok (n : Nat) : CK.OK (Q0_S (Q0_g n)) (L tab) := tabS_ok _ (List.forall_mem_cons.2 ⟨(Qa_ok n), List.forall_mem_cons.2 ⟨(Q3_ok n), List.forall_mem_cons.2 ⟨(Qo_ok n), (fun _ h => nomatch h)⟩⟩⟩)
def Q0_hs : HintC := hintL [(33, [.i .i64, .i .i64, .i .i64, .i .i64, .i .i64]), (66, [.i .i64, .i .i64, .i .i64, .i .i64, .i .i64, .i .i64, .i .i64, .b, .i .u64, .i .u64, .i .u64, .i .u64, .i .u64]), (46, [.i .i64])]
def Q0_c5 : Nat × List Nat × List Nat × MC := loopAt 5 m98
noncomputable def Q0_l5_3_d (G : Q0_G) (n : Nat) : Go.Rv.LE := fun _ρ h K => decSt [(1, .i .i64 none), (2, .i .i64 none), (3, .ptr 0 5 0 (some 1) (some 0)), (6, .ptr 1 5 0 (some 1) (some 0)), (40, .sl 2 1 none (some 0) none), (41, .i .i64 none), (42, .i .i64 none)] [.row 5 false false (some [[.i .i64 none, .i .i64 none, .i .i64 none, .sl 4 5 none (some 0) none, .sl 5 13 none (some 0) none]]), .row 5 true false (some [[.i .i64 (some 0), .i .i64 (some 0), .i .i64 (some 0), .lst (some true) (some true) 0 (some []), .lst (some true) (some true) 0 (some [])]]), .row 1 true false none, .row 1 false false (some [[.sl 2 1 none (some 0) none]]), .row 5 true false none, .row 13 true false none] h fun a b => Q0_l5_3 G n a.1 a.2.1 a.2.2.2.2.1.1 a.2.2.2.2.1.2.2 a.2.2.2.2.2.1 b.1.1.1 b.1.1.2.1 b.1.1.2.2.1 b.1.1.2.2.2.1.1 b.1.1.2.2.2.1.2.2 b.1.1.2.2.2.2.1.1 b.1.1.2.2.2.2.1.2.2 b.2.2.1 b.2.2.2.1.1.1.1 b.2.2.2.1.1.1.2.2 b.2.2.2.2.2.1 (fun w0 => K (.exit 0) ⟨[(1, .i .i64 a.1), (2, .i .i64 a.2.1), (3, .ptr 0 1 5 0 0), (6, .ptr 1 1 5 0 0)], [.row 5 false false [[.i .i64 b.1.1.1, .i .i64 b.1.1.2.1, .i .i64 b.1.1.2.2.1, .sl 4 b.1.1.2.2.2.1.1 5 0 b.1.1.2.2.2.1.2.2, .sl 5 b.1.1.2.2.2.2.1.1 13 0 b.1.1.2.2.2.2.1.2.2]], .row 5 true false [[.i .i64 0, .i .i64 0, .i .i64 0, .lst true true 0 [], .lst true true 0 []]], .row 1 true false b.2.2.1, .row 1 false false [[.sl 2 b.2.2.2.1.1.1.1 1 0 b.2.2.2.1.1.1.2.2]], .row 5 true false w0, .row 13 true false b.2.2.2.2.2.1]⟩) (a.2.2.2.2.2.2.1, b.2.2.2.2.1)
noncomputable def Q0_l5_2_d (G : Q0_G) (n : Nat) : Go.Rv.LE := fun _ρ h K => decSt [(1, .i .i64 none), (2, .i .i64 none), (3, .ptr 0 5 0 (some 1) (some 0)), (6, .ptr 1 5 0 (some 1) (some 0)), (40, .sl 2 1 none (some 0) none), (41, .i .i64 none), (42, .i .i64 none)] [.row 5 false false (some [[.i .i64 none, .i .i64 none, .i .i64 none, .sl 4 5 none (some 0) none, .lst (some true) (some true) 0 (some [])]]), .row 5 true false (some [[.i .i64 (some 0), .i .i64 (some 0), .i .i64 (some 0), .lst (some true) (some true) 0 (some []), .lst (some true) (some true) 0 (some [])]]), .row 1 true false none, .row 1 false false (some [[.sl 2 1 none (some 0) none]]), .row 5 true false none] h fun a b => Q0_l5_2 G n a.1 a.2.1 a.2.2.2.2.1.1 a.2.2.2.2.1.2.2 a.2.2.2.2.2.1 b.1.1.1 b.1.1.2.1 b.1.1.2.2.1 b.1.1.2.2.2.1.1 b.1.1.2.2.2.1.2.2 b.2.2.1 b.2.2.2.1.1.1.1 b.2.2.2.1.1.1.2.2 (fun w0 => K (.exit 0) ⟨[(1, .i .i64 a.1), (2, .i .i64 a.2.1), (3, .ptr 0 1 5 0 0), (6, .ptr 1 1 5 0 0)], [.row 5 false false [[.i .i64 b.1.1.1, .i .i64 b.1.1.2.1, .i .i64 b.1.1.2.2.1, .sl 4 b.1.1.2.2.2.1.1 5 0 b.1.1.2.2.2.1.2.2, .lst true true 0 []]], .row 5 true false [[.i .i64 0, .i .i64 0, .i .i64 0, .lst true true 0 [], .lst true true 0 []]], .row 1 true false b.2.2.1, .row 1 false false [[.sl 2 b.2.2.2.1.1.1.1 1 0 b.2.2.2.1.1.1.2.2]], .row 5 true false w0]⟩) (a.2.2.2.2.2.2.1, b.2.2.2.2.1)
noncomputable def Q0_l5_1_d (G : Q0_G) (n : Nat) : Go.Rv.LE := fun _ρ h K => decSt [(1, .i .i64 none), (2, .i .i64 none), (3, .ptr 0 5 0 (some 1) (some 0)), (6, .ptr 1 5 0 (some 1) (some 0)), (40, .lst (some true) (some true) 0 (some [])), (41, .i .i64 (some 0)), (42, .i .i64 (some 0))] [.row 5 false false (some [[.i .i64 none, .i .i64 none, .i .i64 none, .sl 3 5 none (some 0) none, .sl 4 13 none (some 0) none]]), .row 5 true false (some [[.i .i64 (some 0), .i .i64 (some 0), .i .i64 (some 0), .lst (some true) (some true) 0 (some []), .lst (some true) (some true) 0 (some [])]]), .row 1 true false (some [[.lst (some true) (some true) 0 (some [])]]), .row 5 true false none, .row 13 true false none] h fun a b => Q0_l5_1 G n a.1 a.2.1 b.1.1.1 b.1.1.2.1 b.1.1.2.2.1 b.1.1.2.2.2.1.1 b.1.1.2.2.2.1.2.2 b.1.1.2.2.2.2.1.1 b.1.1.2.2.2.2.1.2.2 b.2.2.2.1 b.2.2.2.2.1 (K (.exit 0) ⟨[(1, .i .i64 a.1), (2, .i .i64 a.2.1), (3, .ptr 0 1 5 0 0), (6, .ptr 1 1 5 0 0)], [.row 5 false false [[.i .i64 b.1.1.1, .i .i64 b.1.1.2.1, .i .i64 b.1.1.2.2.1, .sl 3 b.1.1.2.2.2.1.1 5 0 b.1.1.2.2.2.1.2.2, .sl 4 b.1.1.2.2.2.2.1.1 13 0 b.1.1.2.2.2.2.1.2.2]], .row 5 true false [[.i .i64 0, .i .i64 0, .i .i64 0, .lst true true 0 [], .lst true true 0 []]], .row 1 true false [[.lst true true 0 []]], .row 5 true false b.2.2.2.1, .row 13 true false b.2.2.2.2.1]⟩) ()
noncomputable def Q0_l5_0_d (G : Q0_G) (n : Nat) : Go.Rv.LE := fun _ρ h K => decSt [(1, .i .i64 none), (2, .i .i64 none), (3, .ptr 0 5 0 (some 1) (some 0)), (6, .ptr 1 5 0 (some 1) (some 0)), (40, .lst (some true) (some true) 0 (some [])), (41, .i .i64 (some 0)), (42, .i .i64 (some 0))] [.row 5 false false (some [[.i .i64 none, .i .i64 none, .i .i64 none, .sl 3 5 none (some 0) none, .lst (some true) (some true) 0 (some [])]]), .row 5 true false (some [[.i .i64 (some 0), .i .i64 (some 0), .i .i64 (some 0), .lst (some true) (some true) 0 (some []), .lst (some true) (some true) 0 (some [])]]), .row 1 true false (some [[.lst (some true) (some true) 0 (some [])]]), .row 5 true false none] h fun a b => Q0_l5_0 G n a.1 a.2.1 b.1.1.1 b.1.1.2.1 b.1.1.2.2.1 b.1.1.2.2.2.1.1 b.1.1.2.2.2.1.2.2 b.2.2.2.1 (K (.exit 0) ⟨[(1, .i .i64 a.1), (2, .i .i64 a.2.1), (3, .ptr 0 1 5 0 0), (6, .ptr 1 1 5 0 0)], [.row 5 false false [[.i .i64 b.1.1.1, .i .i64 b.1.1.2.1, .i .i64 b.1.1.2.2.1, .sl 3 b.1.1.2.2.2.1.1 5 0 b.1.1.2.2.2.1.2.2, .lst true true 0 []]], .row 5 true false [[.i .i64 0, .i .i64 0, .i .i64 0, .lst true true 0 [], .lst true true 0 []]], .row 1 true false [[.lst true true 0 []]], .row 5 true false b.2.2.2.1]⟩) ()
noncomputable def Q0_d5 (G : Q0_G) (n : Nat) : Go.Rv.LE := altL [(1, .i .i64 none), (2, .i .i64 none), (3, .ptr 0 5 0 (some 1) (some 0)), (6, .ptr 1 5 0 (some 1) (some 0)), (40, .sl 2 1 none (some 0) none), (41, .i .i64 none), (42, .i .i64 none)] [.row 5 false false (some [[.i .i64 none, .i .i64 none, .i .i64 none, .sl 4 5 none (some 0) none, .sl 5 13 none (some 0) none]]), .row 5 true false (some [[.i .i64 (some 0), .i .i64 (some 0), .i .i64 (some 0), .lst (some true) (some true) 0 (some []), .lst (some true) (some true) 0 (some [])]]), .row 1 true false none, .row 1 false false (some [[.sl 2 1 none (some 0) none]]), .row 5 true false none, .row 13 true false none] (Q0_l5_3_d G n) (altL [(1, .i .i64 none), (2, .i .i64 none), (3, .ptr 0 5 0 (some 1) (some 0)), (6, .ptr 1 5 0 (some 1) (some 0)), (40, .sl 2 1 none (some 0) none), (41, .i .i64 none), (42, .i .i64 none)] [.row 5 false false (some [[.i .i64 none, .i .i64 none, .i .i64 none, .sl 4 5 none (some 0) none, .lst (some true) (some true) 0 (some [])]]), .row 5 true false (some [[.i .i64 (some 0), .i .i64 (some 0), .i .i64 (some 0), .lst (some true) (some true) 0 (some []), .lst (some true) (some true) 0 (some [])]]), .row 1 true false none, .row 1 false false (some [[.sl 2 1 none (some 0) none]]), .row 5 true false none] (Q0_l5_2_d G n) (altL [(1, .i .i64 none), (2, .i .i64 none), (3, .ptr 0 5 0 (some 1) (some 0)), (6, .ptr 1 5 0 (some 1) (some 0)), (40, .lst (some true) (some true) 0 (some [])), (41, .i .i64 (some 0)), (42, .i .i64 (some 0))] [.row 5 false false (some [[.i .i64 none, .i .i64 none, .i .i64 none, .sl 3 5 none (some 0) none, .sl 4 13 none (some 0) none]]), .row 5 true false (some [[.i .i64 (some 0), .i .i64 (some 0), .i .i64 (some 0), .lst (some true) (some true) 0 (some []), .lst (some true) (some true) 0 (some [])]]), .row 1 true false (some [[.lst (some true) (some true) 0 (some [])]]), .row 5 true false none, .row 13 true false none] (Q0_l5_1_d G n) (Q0_l5_0_d G n)))
def Q0_c10 : Nat × List Nat × List Nat × MC := loopAt 10 m98
noncomputable def Q0_l10_3_d (G : Q0_G) (n : Nat) : Go.Rv.LE := fun _ρ h K => decSt [(1, .i .i64 none), (2, .i .i64 none), (3, .ptr 0 5 0 (some 1) (some 0)), (6, .ptr 1 5 0 (some 1) (some 0)), (57, .i .i64 none), (58, .i .i64 none)] [.row 5 false false (some [[.i .i64 none, .i .i64 none, .i .i64 none, .sl 4 5 none (some 0) none, .sl 5 13 none (some 0) none]]), .row 5 true false (some [[.i .i64 (some 0), .i .i64 (some 0), .i .i64 (some 0), .lst (some true) (some true) 0 (some []), .lst (some true) (some true) 0 (some [])]]), .row 1 true false none, .row 1 false false (some [[.sl 2 1 none (some 0) none]]), .row 5 true false none, .row 13 true false none] h fun a b => Q0_l10_3 G n a.1 a.2.1 a.2.2.2.2.1 b.1.1.1 b.1.1.2.1 b.1.1.2.2.1 b.1.1.2.2.2.1.1 b.1.1.2.2.2.1.2.2 b.1.1.2.2.2.2.1.1 b.1.1.2.2.2.2.1.2.2 b.2.2.1 b.2.2.2.1.1.1.1 b.2.2.2.1.1.1.2.2 b.2.2.2.2.1 (fun w0 => K (.exit 2) ⟨[(3, .ptr 0 1 5 0 0), (6, .ptr 1 1 5 0 0)], [.row 5 false false [[.i .i64 b.1.1.1, .i .i64 b.1.1.2.1, .i .i64 b.1.1.2.2.1, .sl 4 b.1.1.2.2.2.1.1 5 0 b.1.1.2.2.2.1.2.2, .sl 5 b.1.1.2.2.2.2.1.1 13 0 b.1.1.2.2.2.2.1.2.2]], .row 5 true false [[.i .i64 0, .i .i64 0, .i .i64 0, .lst true true 0 [], .lst true true 0 []]], .row 1 true false b.2.2.1, .row 1 false false [[.sl 2 b.2.2.2.1.1.1.1 1 0 b.2.2.2.1.1.1.2.2]], .row 5 true false b.2.2.2.2.1, .row 13 true false w0]⟩) (a.2.2.2.2.2.1, b.2.2.2.2.2.1)
noncomputable def Q0_l10_1_d (G : Q0_G) (n : Nat) : Go.Rv.LE := fun _ρ h K => decSt [(1, .i .i64 none), (2, .i .i64 none), (3, .ptr 0 5 0 (some 1) (some 0)), (6, .ptr 1 5 0 (some 1) (some 0)), (57, .i .i64 none), (58, .i .i64 none)] [.row 5 false false (some [[.i .i64 none, .i .i64 none, .i .i64 none, .sl 3 5 none (some 0) none, .sl 4 13 none (some 0) none]]), .row 5 true false (some [[.i .i64 (some 0), .i .i64 (some 0), .i .i64 (some 0), .lst (some true) (some true) 0 (some []), .lst (some true) (some true) 0 (some [])]]), .row 1 true false (some [[.lst (some true) (some true) 0 (some [])]]), .row 5 true false none, .row 13 true false none] h fun a b => Q0_l10_1 G n a.1 a.2.1 a.2.2.2.2.1 b.1.1.1 b.1.1.2.1 b.1.1.2.2.1 b.1.1.2.2.2.1.1 b.1.1.2.2.2.1.2.2 b.1.1.2.2.2.2.1.1 b.1.1.2.2.2.2.1.2.2 b.2.2.2.1 (fun w0 => K (.exit 2) ⟨[(3, .ptr 0 1 5 0 0), (6, .ptr 1 1 5 0 0)], [.row 5 false false [[.i .i64 b.1.1.1, .i .i64 b.1.1.2.1, .i .i64 b.1.1.2.2.1, .sl 3 b.1.1.2.2.2.1.1 5 0 b.1.1.2.2.2.1.2.2, .sl 4 b.1.1.2.2.2.2.1.1 13 0 b.1.1.2.2.2.2.1.2.2]], .row 5 true false [[.i .i64 0, .i .i64 0, .i .i64 0, .lst true true 0 [], .lst true true 0 []]], .row 1 true false [[.lst true true 0 []]], .row 5 true false b.2.2.2.1, .row 13 true false w0]⟩) (a.2.2.2.2.2.1, b.2.2.2.2.1)
noncomputable def Q0_l10_2_d (G : Q0_G) (n : Nat) : Go.Rv.LE := fun _ρ h K => decSt [(1, .i .i64 none), (2, .i .i64 none), (3, .ptr 0 5 0 (some 1) (some 0)), (6, .ptr 1 5 0 (some 1) (some 0)), (57, .i .i64 (some 0)), (58, .i .i64 (some 0))] [.row 5 false false (some [[.i .i64 none, .i .i64 none, .i .i64 none, .sl 4 5 none (some 0) none, .lst (some true) (some true) 0 (some [])]]), .row 5 true false (some [[.i .i64 (some 0), .i .i64 (some 0), .i .i64 (some 0), .lst (some true) (some true) 0 (some []), .lst (some true) (some true) 0 (some [])]]), .row 1 true false none, .row 1 false false (some [[.sl 2 1 none (some 0) none]]), .row 5 true false none] h fun a b => Q0_l10_2 G n a.1 a.2.1 b.1.1.1 b.1.1.2.1 b.1.1.2.2.1 b.1.1.2.2.2.1.1 b.1.1.2.2.2.1.2.2 b.2.2.1 b.2.2.2.1.1.1.1 b.2.2.2.1.1.1.2.2 b.2.2.2.2.1 (K (.exit 2) ⟨[(3, .ptr 0 1 5 0 0), (6, .ptr 1 1 5 0 0)], [.row 5 false false [[.i .i64 b.1.1.1, .i .i64 b.1.1.2.1, .i .i64 b.1.1.2.2.1, .sl 4 b.1.1.2.2.2.1.1 5 0 b.1.1.2.2.2.1.2.2, .lst true true 0 []]], .row 5 true false [[.i .i64 0, .i .i64 0, .i .i64 0, .lst true true 0 [], .lst true true 0 []]], .row 1 true false b.2.2.1, .row 1 false false [[.sl 2 b.2.2.2.1.1.1.1 1 0 b.2.2.2.1.1.1.2.2]], .row 5 true false b.2.2.2.2.1]⟩) ()
noncomputable def Q0_l10_0_d (G : Q0_G) (n : Nat) : Go.Rv.LE := fun _ρ h K => decSt [(1, .i .i64 none), (2, .i .i64 none), (3, .ptr 0 5 0 (some 1) (some 0)), (6, .ptr 1 5 0 (some 1) (some 0)), (57, .i .i64 (some 0)), (58, .i .i64 (some 0))] [.row 5 false false (some [[.i .i64 none, .i .i64 none, .i .i64 none, .sl 3 5 none (some 0) none, .lst (some true) (some true) 0 (some [])]]), .row 5 true false (some [[.i .i64 (some 0), .i .i64 (some 0), .i .i64 (some 0), .lst (some true) (some true) 0 (some []), .lst (some true) (some true) 0 (some [])]]), .row 1 true false (some [[.lst (some true) (some true) 0 (some [])]]), .row 5 true false none] h fun a b => Q0_l10_0 G n a.1 a.2.1 b.1.1.1 b.1.1.2.1 b.1.1.2.2.1 b.1.1.2.2.2.1.1 b.1.1.2.2.2.1.2.2 b.2.2.2.1 (K (.exit 2) ⟨[(3, .ptr 0 1 5 0 0), (6, .ptr 1 1 5 0 0)], [.row 5 false false [[.i .i64 b.1.1.1, .i .i64 b.1.1.2.1, .i .i64 b.1.1.2.2.1, .sl 3 b.1.1.2.2.2.1.1 5 0 b.1.1.2.2.2.1.2.2, .lst true true 0 []]], .row 5 true false [[.i .i64 0, .i .i64 0, .i .i64 0, .lst true true 0 [], .lst true true 0 []]], .row 1 true false [[.lst true true 0 []]], .row 5 true false b.2.2.2.1]⟩) ()
noncomputable def Q0_d10 (G : Q0_G) (n : Nat) : Go.Rv.LE := altL [(1, .i .i64 none), (2, .i .i64 none), (3, .ptr 0 5 0 (some 1) (some 0)), (6, .ptr 1 5 0 (some 1) (some 0)), (57, .i .i64 none), (58, .i .i64 none)] [.row 5 false false (some [[.i .i64 none, .i .i64 none, .i .i64 none, .sl 4 5 none (some 0) none, .sl 5 13 none (some 0) none]]), .row 5 true false (some [[.i .i64 (some 0), .i .i64 (some 0), .i .i64 (some 0), .lst (some true) (some true) 0 (some []), .lst (some true) (some true) 0 (some [])]]), .row 1 true false none, .row 1 false false (some [[.sl 2 1 none (some 0) none]]), .row 5 true false none, .row 13 true false none] (Q0_l10_3_d G n) (altL [(1, .i .i64 none), (2, .i .i64 none), (3, .ptr 0 5 0 (some 1) (some 0)), (6, .ptr 1 5 0 (some 1) (some 0)), (57, .i .i64 none), (58, .i .i64 none)] [.row 5 false false (some [[.i .i64 none, .i .i64 none, .i .i64 none, .sl 3 5 none (some 0) none, .sl 4 13 none (some 0) none]]), .row 5 true false (some [[.i .i64 (some 0), .i .i64 (some 0), .i .i64 (some 0), .lst (some true) (some true) 0 (some []), .lst (some true) (some true) 0 (some [])]]), .row 1 true false (some [[.lst (some true) (some true) 0 (some [])]]), .row 5 true false none, .row 13 true false none] (Q0_l10_1_d G n) (altL [(1, .i .i64 none), (2, .i .i64 none), (3, .ptr 0 5 0 (some 1) (some 0)), (6, .ptr 1 5 0 (some 1) (some 0)), (57, .i .i64 (some 0)), (58, .i .i64 (some 0))] [.row 5 false false (some [[.i .i64 none, .i .i64 none, .i .i64 none, .sl 4 5 none (some 0) none, .lst (some true) (some true) 0 (some [])]]), .row 5 true false (some [[.i .i64 (some 0), .i .i64 (some 0), .i .i64 (some 0), .lst (some true) (some true) 0 (some []), .lst (some true) (some true) 0 (some [])]]), .row 1 true false none, .row 1 false false (some [[.sl 2 1 none (some 0) none]]), .row 5 true false none] (Q0_l10_2_d G n) (Q0_l10_0_d G n)))
noncomputable def Q0_lp (G : Q0_G) (n : Nat) : LK := tabL [(5, Q0_d5 G n), (10, Q0_d10 G n)]
theorem Q0_l5_3_k (G : Q0_G) {ρ : Type} (n : Nat) (p0 p1 : Int) (p2 p3 : Nat) (p4 p5 : Int) (p6 p7 : Int) (p8 p9 : Nat) (p10 p11 : Nat) (p12 : Rows) (p13 p14 : Nat) (p16 : Rows) (K : Ex → St → Option ρ) (N : St → Option ρ) : ∀ v, roundC (Q0_S G) Q0_hs (Q0_lp G n) Q0_c5 6 N K (Q0_l5_3_enc p0 p1 p2 p3 p4 p5 p6 p7 p8 p9 p10 p11 p12 p13 p14 p16 v) = Q0_l5_3_s G n p0 p1 p2 p3 p4 p5 p6 p7 p8 p9 p10 p11 p12 p13 p14 p16 (fun w0 => K (.exit 0) ⟨[(1, .i .i64 p0), (2, .i .i64 p1), (3, .ptr 0 1 5 0 0), (6, .ptr 1 1 5 0 0)], [.row 5 false false [[.i .i64 p5, .i .i64 p6, .i .i64 p7, .sl 4 p8 5 0 p9, .sl 5 p10 13 0 p11]], .row 5 true false [[.i .i64 0, .i .i64 0, .i .i64 0, .lst true true 0 [], .lst true true 0 []]], .row 1 true false p12, .row 1 false false [[.sl 2 p13 1 0 p14]], .row 5 true false w0, .row 13 true false p16]⟩) (fun v => N (Q0_l5_3_enc p0 p1 p2 p3 p4 p5 p6 p7 p8 p9 p10 p11 p12 p13 p14 p16 v)) v
 | v => by kernel_rfl
theorem Q0_l5_3_dok (n : Nat) : LE.OK (Q0_l5_3_d (Q0_g n) n) (L tab) Q0_c5 := LE.shp (fun _ _ _ => rfl) fun ρ K y a b e => LE.rounds (Q0_Sok n) (LK.of (l := []) (by kernel_rfl) ((fun _ h => nomatch h))) (Q0_l5_3_k (Q0_g n) n _ _ _ _ _ _ _ _ _ _ _ _ _ _ _ _ K) (by kernel_rfl) (by kernel_rfl) e
theorem Q0_l5_2_k (G : Q0_G) {ρ : Type} (n : Nat) (p0 p1 : Int) (p2 p3 : Nat) (p4 p5 : Int) (p6 p7 : Int) (p8 p9 : Nat) (p10 : Rows) (p11 p12 : Nat) (K : Ex → St → Option ρ) (N : St → Option ρ) : ∀ v, roundC (Q0_S G) Q0_hs (Q0_lp G n) Q0_c5 5 N K (Q0_l5_2_enc p0 p1 p2 p3 p4 p5 p6 p7 p8 p9 p10 p11 p12 v) = Q0_l5_2_s G n p0 p1 p2 p3 p4 p5 p6 p7 p8 p9 p10 p11 p12 (fun w0 => K (.exit 0) ⟨[(1, .i .i64 p0), (2, .i .i64 p1), (3, .ptr 0 1 5 0 0), (6, .ptr 1 1 5 0 0)], [.row 5 false false [[.i .i64 p5, .i .i64 p6, .i .i64 p7, .sl 4 p8 5 0 p9, .lst true true 0 []]], .row 5 true false [[.i .i64 0, .i .i64 0, .i .i64 0, .lst true true 0 [], .lst true true 0 []]], .row 1 true false p10, .row 1 false false [[.sl 2 p11 1 0 p12]], .row 5 true false w0]⟩) (fun v => N (Q0_l5_2_enc p0 p1 p2 p3 p4 p5 p6 p7 p8 p9 p10 p11 p12 v)) v
 | v => by kernel_rfl
theorem Q0_l5_2_dok (n : Nat) : LE.OK (Q0_l5_2_d (Q0_g n) n) (L tab) Q0_c5 := LE.shp (fun _ _ _ => rfl) fun ρ K y a b e => LE.rounds (Q0_Sok n) (LK.of (l := []) (by kernel_rfl) ((fun _ h => nomatch h))) (Q0_l5_2_k (Q0_g n) n _ _ _ _ _ _ _ _ _ _ _ _ _ K) (by kernel_rfl) (by kernel_rfl) e
theorem Q0_l5_1_k (G : Q0_G) {ρ : Type} (n : Nat) (p0 p1 : Int) (p2 p3 p4 : Int) (p5 p6 : Nat) (p7 p8 : Nat) (p9 p10 : Rows) (K : Ex → St → Option ρ) (N : St → Option ρ) : ∀ v, roundC (Q0_S G) Q0_hs (Q0_lp G n) Q0_c5 5 N K (Q0_l5_1_enc p0 p1 p2 p3 p4 p5 p6 p7 p8 p9 p10 v) = Q0_l5_1_s G n p0 p1 p2 p3 p4 p5 p6 p7 p8 p9 p10 (K (.exit 0) ⟨[(1, .i .i64 p0), (2, .i .i64 p1), (3, .ptr 0 1 5 0 0), (6, .ptr 1 1 5 0 0)], [.row 5 false false [[.i .i64 p2, .i .i64 p3, .i .i64 p4, .sl 3 p5 5 0 p6, .sl 4 p7 13 0 p8]], .row 5 true false [[.i .i64 0, .i .i64 0, .i .i64 0, .lst true true 0 [], .lst true true 0 []]], .row 1 true false [[.lst true true 0 []]], .row 5 true false p9, .row 13 true false p10]⟩) (fun v => N (Q0_l5_1_enc p0 p1 p2 p3 p4 p5 p6 p7 p8 p9 p10 v)) v
 | v => by kernel_rfl
theorem Q0_l5_1_dok (n : Nat) : LE.OK (Q0_l5_1_d (Q0_g n) n) (L tab) Q0_c5 := LE.shp (fun _ _ _ => rfl) fun ρ K y a b e => LE.rounds (Q0_Sok n) (LK.of (l := []) (by kernel_rfl) ((fun _ h => nomatch h))) (Q0_l5_1_k (Q0_g n) n _ _ _ _ _ _ _ _ _ _ _ K) (by kernel_rfl) (by kernel_rfl) e
theorem Q0_l5_0_k (G : Q0_G) {ρ : Type} (n : Nat) (p0 p1 : Int) (p2 p3 p4 : Int) (p5 p6 : Nat) (p7 : Rows) (K : Ex → St → Option ρ) (N : St → Option ρ) : ∀ v, roundC (Q0_S G) Q0_hs (Q0_lp G n) Q0_c5 4 N K (Q0_l5_0_enc p0 p1 p2 p3 p4 p5 p6 p7 v) = Q0_l5_0_s G n p0 p1 p2 p3 p4 p5 p6 p7 (K (.exit 0) ⟨[(1, .i .i64 p0), (2, .i .i64 p1), (3, .ptr 0 1 5 0 0), (6, .ptr 1 1 5 0 0)], [.row 5 false false [[.i .i64 p2, .i .i64 p3, .i .i64 p4, .sl 3 p5 5 0 p6, .lst true true 0 []]], .row 5 true false [[.i .i64 0, .i .i64 0, .i .i64 0, .lst true true 0 [], .lst true true 0 []]], .row 1 true false [[.lst true true 0 []]], .row 5 true false p7]⟩) (fun v => N (Q0_l5_0_enc p0 p1 p2 p3 p4 p5 p6 p7 v)) v
 | v => by kernel_rfl
theorem Q0_l5_0_dok (n : Nat) : LE.OK (Q0_l5_0_d (Q0_g n) n) (L tab) Q0_c5 := LE.shp (fun _ _ _ => rfl) fun ρ K y a b e => LE.rounds (Q0_Sok n) (LK.of (l := []) (by kernel_rfl) ((fun _ h => nomatch h))) (Q0_l5_0_k (Q0_g n) n _ _ _ _ _ _ _ _ K) (by kernel_rfl) (by kernel_rfl) e
theorem Q0_d5_ok (n : Nat) : LE.OK (Q0_d5 (Q0_g n) n) (L tab) Q0_c5 := altL_ok (Q0_l5_3_dok n) (altL_ok (Q0_l5_2_dok n) (altL_ok (Q0_l5_1_dok n) (Q0_l5_0_dok n)))
theorem Q0_l10_3_k (G : Q0_G) {ρ : Type} (n : Nat) (p0 p1 : Int) (p2 p3 : Int) (p4 p5 : Int) (p6 p7 : Nat) (p8 p9 : Nat) (p10 : Rows) (p11 p12 : Nat) (p13 : Rows) (K : Ex → St → Option ρ) (N : St → Option ρ) : ∀ v, roundC (Q0_S G) Q0_hs (Q0_lp G n) Q0_c10 6 N K (Q0_l10_3_enc p0 p1 p2 p3 p4 p5 p6 p7 p8 p9 p10 p11 p12 p13 v) = Q0_l10_3_s G n p0 p1 p2 p3 p4 p5 p6 p7 p8 p9 p10 p11 p12 p13 (fun w0 => K (.exit 2) ⟨[(3, .ptr 0 1 5 0 0), (6, .ptr 1 1 5 0 0)], [.row 5 false false [[.i .i64 p3, .i .i64 p4, .i .i64 p5, .sl 4 p6 5 0 p7, .sl 5 p8 13 0 p9]], .row 5 true false [[.i .i64 0, .i .i64 0, .i .i64 0, .lst true true 0 [], .lst true true 0 []]], .row 1 true false p10, .row 1 false false [[.sl 2 p11 1 0 p12]], .row 5 true false p13, .row 13 true false w0]⟩) (fun v => N (Q0_l10_3_enc p0 p1 p2 p3 p4 p5 p6 p7 p8 p9 p10 p11 p12 p13 v)) v
 | v => by kernel_rfl
theorem Q0_l10_3_dok (n : Nat) : LE.OK (Q0_l10_3_d (Q0_g n) n) (L tab) Q0_c10 := LE.shp (fun _ _ _ => rfl) fun ρ K y a b e => LE.rounds (Q0_Sok n) (LK.of (l := []) (by kernel_rfl) ((fun _ h => nomatch h))) (Q0_l10_3_k (Q0_g n) n _ _ _ _ _ _ _ _ _ _ _ _ _ _ K) (by kernel_rfl) (by kernel_rfl) e
theorem Q0_l10_1_k (G : Q0_G) {ρ : Type} (n : Nat) (p0 p1 : Int) (p2 p3 : Int) (p4 p5 : Int) (p6 p7 : Nat) (p8 p9 : Nat) (p10 : Rows) (K : Ex → St → Option ρ) (N : St → Option ρ) : ∀ v, roundC (Q0_S G) Q0_hs (Q0_lp G n) Q0_c10 5 N K (Q0_l10_1_enc p0 p1 p2 p3 p4 p5 p6 p7 p8 p9 p10 v) = Q0_l10_1_s G n p0 p1 p2 p3 p4 p5 p6 p7 p8 p9 p10 (fun w0 => K (.exit 2) ⟨[(3, .ptr 0 1 5 0 0), (6, .ptr 1 1 5 0 0)], [.row 5 false false [[.i .i64 p3, .i .i64 p4, .i .i64 p5, .sl 3 p6 5 0 p7, .sl 4 p8 13 0 p9]], .row 5 true false [[.i .i64 0, .i .i64 0, .i .i64 0, .lst true true 0 [], .lst true true 0 []]], .row 1 true false [[.lst true true 0 []]], .row 5 true false p10, .row 13 true false w0]⟩) (fun v => N (Q0_l10_1_enc p0 p1 p2 p3 p4 p5 p6 p7 p8 p9 p10 v)) v
 | v => by kernel_rfl
theorem Q0_l10_1_dok (n : Nat) : LE.OK (Q0_l10_1_d (Q0_g n) n) (L tab) Q0_c10 := LE.shp (fun _ _ _ => rfl) fun ρ K y a b e => LE.rounds (Q0_Sok n) (LK.of (l := []) (by kernel_rfl) ((fun _ h => nomatch h))) (Q0_l10_1_k (Q0_g n) n _ _ _ _ _ _ _ _ _ _ _ K) (by kernel_rfl) (by kernel_rfl) e
theorem Q0_l10_2_k (G : Q0_G) {ρ : Type} (n : Nat) (p0 p1 : Int) (p2 p3 p4 : Int) (p5 p6 : Nat) (p7 : Rows) (p8 p9 : Nat) (p10 : Rows) (K : Ex → St → Option ρ) (N : St → Option ρ) : ∀ v, roundC (Q0_S G) Q0_hs (Q0_lp G n) Q0_c10 5 N K (Q0_l10_2_enc p0 p1 p2 p3 p4 p5 p6 p7 p8 p9 p10 v) = Q0_l10_2_s G n p0 p1 p2 p3 p4 p5 p6 p7 p8 p9 p10 (K (.exit 2) ⟨[(3, .ptr 0 1 5 0 0), (6, .ptr 1 1 5 0 0)], [.row 5 false false [[.i .i64 p2, .i .i64 p3, .i .i64 p4, .sl 4 p5 5 0 p6, .lst true true 0 []]], .row 5 true false [[.i .i64 0, .i .i64 0, .i .i64 0, .lst true true 0 [], .lst true true 0 []]], .row 1 true false p7, .row 1 false false [[.sl 2 p8 1 0 p9]], .row 5 true false p10]⟩) (fun v => N (Q0_l10_2_enc p0 p1 p2 p3 p4 p5 p6 p7 p8 p9 p10 v)) v
 | v => by kernel_rfl
theorem Q0_l10_2_dok (n : Nat) : LE.OK (Q0_l10_2_d (Q0_g n) n) (L tab) Q0_c10 := LE.shp (fun _ _ _ => rfl) fun ρ K y a b e => LE.rounds (Q0_Sok n) (LK.of (l := []) (by kernel_rfl) ((fun _ h => nomatch h))) (Q0_l10_2_k (Q0_g n) n _ _ _ _ _ _ _ _ _ _ _ K) (by kernel_rfl) (by kernel_rfl) e
theorem Q0_l10_0_k (G : Q0_G) {ρ : Type} (n : Nat) (p0 p1 : Int) (p2 p3 p4 : Int) (p5 p6 : Nat) (p7 : Rows) (K : Ex → St → Option ρ) (N : St → Option ρ) : ∀ v, roundC (Q0_S G) Q0_hs (Q0_lp G n) Q0_c10 4 N K (Q0_l10_0_enc p0 p1 p2 p3 p4 p5 p6 p7 v) = Q0_l10_0_s G n p0 p1 p2 p3 p4 p5 p6 p7 (K (.exit 2) ⟨[(3, .ptr 0 1 5 0 0), (6, .ptr 1 1 5 0 0)], [.row 5 false false [[.i .i64 p2, .i .i64 p3, .i .i64 p4, .sl 3 p5 5 0 p6, .lst true true 0 []]], .row 5 true false [[.i .i64 0, .i .i64 0, .i .i64 0, .lst true true 0 [], .lst true true 0 []]], .row 1 true false [[.lst true true 0 []]], .row 5 true false p7]⟩) (fun v => N (Q0_l10_0_enc p0 p1 p2 p3 p4 p5 p6 p7 v)) v
 | v => by kernel_rfl
theorem Q0_l10_0_dok (n : Nat) : LE.OK (Q0_l10_0_d (Q0_g n) n) (L tab) Q0_c10 := LE.shp (fun _ _ _ => rfl) fun ρ K y a b e => LE.rounds (Q0_Sok n) (LK.of (l := []) (by kernel_rfl) ((fun _ h => nomatch h))) (Q0_l10_0_k (Q0_g n) n _ _ _ _ _ _ _ _ K) (by kernel_rfl) (by kernel_rfl) e
theorem Q0_d10_ok (n : Nat) : LE.OK (Q0_d10 (Q0_g n) n) (L tab) Q0_c10 := altL_ok (Q0_l10_3_dok n) (altL_ok (Q0_l10_1_dok n) (altL_ok (Q0_l10_2_dok n) (Q0_l10_0_dok n)))
theorem Q0_k (G : Q0_G) {ρ : Type} (n : Nat) (a0 a1 a2 : Int) (a3 a4 : Bool) (a5 : Rows) (a6 a7 : Bool) (a8 : Rows) (a9 a10 : Int) (K : Res → Option ρ) : runC (Q0_S G) Q0_hs (Q0_lp G n) m98 [.agg [.i .i64 a0, .i .i64 a1, .i .i64 a2, .lst a3 a4 5 a5, .lst a6 a7 13 a8], .i .i64 a9, .i .i64 a10] K = Q0_s G n a0 a1 a2 a3 a4 a5 a6 a7 a8 a9 a10 (fun w0 w1 w2 => K ⟨.agg [.i .i64 a0, .i .i64 a1, .i .i64 a2, .sl 0 w0 5 0 w1, .lst true true 0 []], [.row 5 true false w2], []⟩) (fun w0 w1 w2 w3 w4 w5 => K ⟨.agg [.i .i64 a0, .i .i64 a1, .i .i64 a2, .sl 0 w0 5 0 w1, .sl 1 w2 13 0 w3], [.row 5 true false w4, .row 13 true false w5], []⟩) := by kernel_rfl
theorem Q0_ok (n : Nat) : EK.OK (Q0_e n) 98 (L tab) := EK.shp (fun _ _ _ => rfl) fun ρ K y c e => EK.run (Q0_Sok n) (by kernel_rfl) (MF.LKOK.of (LK.of (l := [Q0_c5, Q0_c10]) (by kernel_rfl) (List.forall_mem_cons.2 ⟨LE.at (e := Q0_d5 (Q0_g n) n) (by kernel_rfl) (Q0_d5_ok n), List.forall_mem_cons.2 ⟨LE.at (e := Q0_d10 (Q0_g n) n) (by kernel_rfl) (Q0_d10_ok n), (fun _ h => nomatch h)⟩⟩))) (Q0_k (Q0_g n) n _ _ _ _ _ _ _ _ _ _ _ K) (by kernel_rfl) e
abbrev Q0q_T : Type 1 := (ρ : Type) → Int → Int → Int → Bool → Bool → Rows → Bool → Bool → Rows → Int → Int → Bool → Bool → Rows → Bool → Bool → Rows → Int → Int → Int → (Bool → Bool → Rows → Bool → Bool → Rows → Int → Option ρ) → (Nat → Nat → Rows → Option ρ) → (Nat → Nat → Nat → Nat → Rows → Rows → Option ρ) → Option ρ
def Q0q_E (G : Q0q_T) : EK := fun ρ args K => decL [.agg [.i .i64 none, .i .i64 none, .i .i64 none, .lst none none 5 none, .lst none none 13 none], .i .i64 none, .agg [.i .i64 none, .lst none none 1 none, .lst none none 1 none, .i .i64 none, .i .i64 none, .i .u64 none]] args fun c => G ρ c.1.1 c.1.2.1 c.1.2.2.1 c.1.2.2.2.1.1 c.1.2.2.2.1.2.1 c.1.2.2.2.1.2.2 c.1.2.2.2.2.1.1 c.1.2.2.2.2.1.2.1 c.1.2.2.2.2.1.2.2 c.2.1 c.2.2.1.1 c.2.2.1.2.1.1 c.2.2.1.2.1.2.1 c.2.2.1.2.1.2.2 c.2.2.1.2.2.1.1 c.2.2.1.2.2.1.2.1 c.2.2.1.2.2.1.2.2 c.2.2.1.2.2.2.1 c.2.2.1.2.2.2.2.1 c.2.2.1.2.2.2.2.2.1 (fun w0 w1 w2 w3 w4 w5 w6 => K ⟨.tup [.agg [.i .i64 c.1.1, .i .i64 c.1.2.1, .i .i64 c.1.2.2.1, .lst w0 w1 5 w2, .lst w3 w4 13 w5], .i .i64 w6], [], []⟩) (fun w0 w1 w2 => K ⟨.tup [.agg [.i .i64 c.1.1, .i .i64 c.1.2.1, .i .i64 c.1.2.2.1, .sl 0 w0 5 0 w1, .lst true true 0 []], .i .i64 0], [.row 5 true false w2], []⟩) (fun w0 w1 w2 w3 w4 w5 => K ⟨.tup [.agg [.i .i64 c.1.1, .i .i64 c.1.2.1, .i .i64 c.1.2.2.1, .sl 0 w0 5 0 w1, .sl 1 w2 13 0 w3], .i .i64 0], [.row 5 true false w4, .row 13 true false w5], []⟩)
structure Q0q_G where
 mk ::
 Qf : Qf_T
 Qr : Qr_T
 Q0e : Q0e_T
 Q0a : Q0a_T
 Qu : Qu_T
 Q03 : Q03_T
 Qw : Qw_T
 Q0 : Q0_T
noncomputable def Q0q_s (G : Q0q_G) {ρ : Type} (_n : Nat) (a0 a1 a2 : Int) (a3 a4 : Bool) (a5 : Rows) (a6 a7 : Bool) (a8 : Rows) (a9 a10 : Int) (a11 a12 : Bool) (a13 : Rows) (a14 a15 : Bool) (a16 : Rows) (a17 a18 a19 : Int) (k0 : (Bool → Bool → Rows → Bool → Bool → Rows → Int → Option ρ)) (k1 : (Nat → Nat → Rows → Option ρ)) (k2 : (Nat → Nat → Nat → Nat → Rows → Rows → Option ρ)) : Option ρ :=
 G.Qf ρ a10 a11 a12 a13 a14 a15 a16 a17 a18 a19 (fun w0_0 =>
 bif w0_0 then
 bif ((a10 : Int) != 2) then
 bif ((a10 : Int) != 3) then
 bif ((a10 : Int) != 4) then
 k0 a3 a4 a5 a6 a7 a8 1
 else G.Qr ρ a0 a1 a2 a3 a4 a5 a6 a7 a8 a9 a11 a12 a13 (fun w1_0 w1_1 w1_2 w1_3 w1_4 w1_5 =>
 bif ((w1_5 : Int) != 0) then
 k0 a3 a4 a5 a6 a7 a8 w1_5
 else bif ((a10 : Int) != 4) then
 G.Q0e ρ w1_1 w1_2 w1_3 w1_4 a17 (fun w2_0 w2_1 w2_2 w2_3 =>
 bif ((a10 : Int) == 3) then
 G.Q0a ρ w2_0 w2_1 w2_2 w2_3 a18 (fun w3_0 w3_1 w3_2 w3_3 w3_4 =>
 bif ((w3_4 : Int) != 0) then
 k0 a3 a4 a5 a6 a7 a8 w3_4
 else G.Qu ρ a0 a1 a2 a3 a4 a5 a6 a7 a8 a9 a14 a15 a16 (fun w4_0 w4_1 =>
 bif ((w4_1 : Int) != 0) then
 k0 a3 a4 a5 a6 a7 a8 w4_1
 else bif ((a10 : Int) != 4) then
 G.Q03 ρ a0 a1 a2 a3 a4 a5 a6 a7 a8 w1_0 w4_0 w3_0 w3_1 w3_2 w3_3 (fun w5_0 w5_1 w5_2 w5_3 w5_4 w5_5 w5_6 =>
 k0 w5_0 w5_1 w5_2 w5_3 w5_4 w5_5 w5_6)
 else G.Qw ρ a0 a1 a2 a3 a4 a5 a6 a7 a8 w3_0 w3_1 w3_2 w3_3 w4_0 (fun w6_0 =>
 bif w6_0 then
 k0 a3 a4 a5 a6 a7 a8 1
 else G.Q0 ρ a0 a1 a2 a3 a4 a5 a6 a7 a8 w1_0 w4_0 (fun w7_0 w7_1 w7_2 =>
 k1 w7_0 w7_1 w7_2) (fun w8_0 w8_1 w8_2 w8_3 w8_4 w8_5 =>
 k2 w8_0 w8_1 w8_2 w8_3 w8_4 w8_5))))
 else G.Qu ρ a0 a1 a2 a3 a4 a5 a6 a7 a8 a9 a14 a15 a16 (fun w9_0 w9_1 =>
 bif ((w9_1 : Int) != 0) then
 k0 a3 a4 a5 a6 a7 a8 w9_1
 else bif ((a10 : Int) != 4) then
 G.Q03 ρ a0 a1 a2 a3 a4 a5 a6 a7 a8 w1_0 w9_0 w2_0 w2_1 w2_2 w2_3 (fun w10_0 w10_1 w10_2 w10_3 w10_4 w10_5 w10_6 =>
 k0 w10_0 w10_1 w10_2 w10_3 w10_4 w10_5 w10_6)
 else G.Qw ρ a0 a1 a2 a3 a4 a5 a6 a7 a8 w2_0 w2_1 w2_2 w2_3 w9_0 (fun w11_0 =>
 bif w11_0 then
 k0 a3 a4 a5 a6 a7 a8 1
 else G.Q0 ρ a0 a1 a2 a3 a4 a5 a6 a7 a8 w1_0 w9_0 (fun w12_0 w12_1 w12_2 =>
 k1 w12_0 w12_1 w12_2) (fun w13_0 w13_1 w13_2 w13_3 w13_4 w13_5 =>
 k2 w13_0 w13_1 w13_2 w13_3 w13_4 w13_5))))
 else bif ((a10 : Int) == 3) then
 G.Q0a ρ w1_1 w1_2 w1_3 w1_4 a18 (fun w14_0 w14_1 w14_2 w14_3 w14_4 =>
 bif ((w14_4 : Int) != 0) then
 k0 a3 a4 a5 a6 a7 a8 w14_4
 else G.Qu ρ a0 a1 a2 a3 a4 a5 a6 a7 a8 a9 a14 a15 a16 (fun w15_0 w15_1 =>
 bif ((w15_1 : Int) != 0) then
 k0 a3 a4 a5 a6 a7 a8 w15_1
 else bif ((a10 : Int) != 4) then
 G.Q03 ρ a0 a1 a2 a3 a4 a5 a6 a7 a8 w1_0 w15_0 w14_0 w14_1 w14_2 w14_3 (fun w16_0 w16_1 w16_2 w16_3 w16_4 w16_5 w16_6 =>
 k0 w16_0 w16_1 w16_2 w16_3 w16_4 w16_5 w16_6)
 else G.Qw ρ a0 a1 a2 a3 a4 a5 a6 a7 a8 w14_0 w14_1 w14_2 w14_3 w15_0 (fun w17_0 =>
 bif w17_0 then
 k0 a3 a4 a5 a6 a7 a8 1
 else G.Q0 ρ a0 a1 a2 a3 a4 a5 a6 a7 a8 w1_0 w15_0 (fun w18_0 w18_1 w18_2 =>
 k1 w18_0 w18_1 w18_2) (fun w19_0 w19_1 w19_2 w19_3 w19_4 w19_5 =>
 k2 w19_0 w19_1 w19_2 w19_3 w19_4 w19_5))))
 else G.Qu ρ a0 a1 a2 a3 a4 a5 a6 a7 a8 a9 a14 a15 a16 (fun w20_0 w20_1 =>
 bif ((w20_1 : Int) != 0) then
 k0 a3 a4 a5 a6 a7 a8 w20_1
 else bif ((a10 : Int) != 4) then
 G.Q03 ρ a0 a1 a2 a3 a4 a5 a6 a7 a8 w1_0 w20_0 w1_1 w1_2 w1_3 w1_4 (fun w21_0 w21_1 w21_2 w21_3 w21_4 w21_5 w21_6 =>
 k0 w21_0 w21_1 w21_2 w21_3 w21_4 w21_5 w21_6)
 else G.Qw ρ a0 a1 a2 a3 a4 a5 a6 a7 a8 w1_1 w1_2 w1_3 w1_4 w20_0 (fun w22_0 =>
 bif w22_0 then
 k0 a3 a4 a5 a6 a7 a8 1
 else G.Q0 ρ a0 a1 a2 a3 a4 a5 a6 a7 a8 w1_0 w20_0 (fun w23_0 w23_1 w23_2 =>
 k1 w23_0 w23_1 w23_2) (fun w24_0 w24_1 w24_2 w24_3 w24_4 w24_5 =>
 k2 w24_0 w24_1 w24_2 w24_3 w24_4 w24_5))))
 else G.Qr ρ a0 a1 a2 a3 a4 a5 a6 a7 a8 a9 a11 a12 a13 (fun w25_0 w25_1 w25_2 w25_3 w25_4 w25_5 =>
 bif ((w25_5 : Int) != 0) then
 k0 a3 a4 a5 a6 a7 a8 w25_5
 else bif ((a10 : Int) != 4) then
 G.Q0e ρ w25_1 w25_2 w25_3 w25_4 a17 (fun w26_0 w26_1 w26_2 w26_3 =>
 bif ((a10 : Int) == 3) then
 G.Q0a ρ w26_0 w26_1 w26_2 w26_3 a18 (fun w27_0 w27_1 w27_2 w27_3 w27_4 =>
 bif ((w27_4 : Int) != 0) then
 k0 a3 a4 a5 a6 a7 a8 w27_4
 else G.Qu ρ a0 a1 a2 a3 a4 a5 a6 a7 a8 a9 a14 a15 a16 (fun w28_0 w28_1 =>
 bif ((w28_1 : Int) != 0) then
 k0 a3 a4 a5 a6 a7 a8 w28_1
 else bif ((a10 : Int) != 4) then
 G.Q03 ρ a0 a1 a2 a3 a4 a5 a6 a7 a8 w25_0 w28_0 w27_0 w27_1 w27_2 w27_3 (fun w29_0 w29_1 w29_2 w29_3 w29_4 w29_5 w29_6 =>
 k0 w29_0 w29_1 w29_2 w29_3 w29_4 w29_5 w29_6)
 else G.Qw ρ a0 a1 a2 a3 a4 a5 a6 a7 a8 w27_0 w27_1 w27_2 w27_3 w28_0 (fun w30_0 =>
 bif w30_0 then
 k0 a3 a4 a5 a6 a7 a8 1
 else G.Q0 ρ a0 a1 a2 a3 a4 a5 a6 a7 a8 w25_0 w28_0 (fun w31_0 w31_1 w31_2 =>
 k1 w31_0 w31_1 w31_2) (fun w32_0 w32_1 w32_2 w32_3 w32_4 w32_5 =>
 k2 w32_0 w32_1 w32_2 w32_3 w32_4 w32_5))))
 else G.Qu ρ a0 a1 a2 a3 a4 a5 a6 a7 a8 a9 a14 a15 a16 (fun w33_0 w33_1 =>
 bif ((w33_1 : Int) != 0) then
 k0 a3 a4 a5 a6 a7 a8 w33_1
 else bif ((a10 : Int) != 4) then
 G.Q03 ρ a0 a1 a2 a3 a4 a5 a6 a7 a8 w25_0 w33_0 w26_0 w26_1 w26_2 w26_3 (fun w34_0 w34_1 w34_2 w34_3 w34_4 w34_5 w34_6 =>
 k0 w34_0 w34_1 w34_2 w34_3 w34_4 w34_5 w34_6)
 else G.Qw ρ a0 a1 a2 a3 a4 a5 a6 a7 a8 w26_0 w26_1 w26_2 w26_3 w33_0 (fun w35_0 =>
 bif w35_0 then
 k0 a3 a4 a5 a6 a7 a8 1
 else G.Q0 ρ a0 a1 a2 a3 a4 a5 a6 a7 a8 w25_0 w33_0 (fun w36_0 w36_1 w36_2 =>
 k1 w36_0 w36_1 w36_2) (fun w37_0 w37_1 w37_2 w37_3 w37_4 w37_5 =>
 k2 w37_0 w37_1 w37_2 w37_3 w37_4 w37_5))))
 else bif ((a10 : Int) == 3) then
 G.Q0a ρ w25_1 w25_2 w25_3 w25_4 a18 (fun w38_0 w38_1 w38_2 w38_3 w38_4 =>
 bif ((w38_4 : Int) != 0) then
 k0 a3 a4 a5 a6 a7 a8 w38_4
 else G.Qu ρ a0 a1 a2 a3 a4 a5 a6 a7 a8 a9 a14 a15 a16 (fun w39_0 w39_1 =>
 bif ((w39_1 : Int) != 0) then
 k0 a3 a4 a5 a6 a7 a8 w39_1
 else bif ((a10 : Int) != 4) then
 G.Q03 ρ a0 a1 a2 a3 a4 a5 a6 a7 a8 w25_0 w39_0 w38_0 w38_1 w38_2 w38_3 (fun w40_0 w40_1 w40_2 w40_3 w40_4 w40_5 w40_6 =>
 k0 w40_0 w40_1 w40_2 w40_3 w40_4 w40_5 w40_6)
 else G.Qw ρ a0 a1 a2 a3 a4 a5 a6 a7 a8 w38_0 w38_1 w38_2 w38_3 w39_0 (fun w41_0 =>
 bif w41_0 then
 k0 a3 a4 a5 a6 a7 a8 1
 else G.Q0 ρ a0 a1 a2 a3 a4 a5 a6 a7 a8 w25_0 w39_0 (fun w42_0 w42_1 w42_2 =>
 k1 w42_0 w42_1 w42_2) (fun w43_0 w43_1 w43_2 w43_3 w43_4 w43_5 =>
 k2 w43_0 w43_1 w43_2 w43_3 w43_4 w43_5))))
 else G.Qu ρ a0 a1 a2 a3 a4 a5 a6 a7 a8 a9 a14 a15 a16 (fun w44_0 w44_1 =>
 bif ((w44_1 : Int) != 0) then
 k0 a3 a4 a5 a6 a7 a8 w44_1
 else bif ((a10 : Int) != 4) then
 G.Q03 ρ a0 a1 a2 a3 a4 a5 a6 a7 a8 w25_0 w44_0 w25_1 w25_2 w25_3 w25_4 (fun w45_0 w45_1 w45_2 w45_3 w45_4 w45_5 w45_6 =>
 k0 w45_0 w45_1 w45_2 w45_3 w45_4 w45_5 w45_6)
 else G.Qw ρ a0 a1 a2 a3 a4 a5 a6 a7 a8 w25_1 w25_2 w25_3 w25_4 w44_0 (fun w46_0 =>
 bif w46_0 then
 k0 a3 a4 a5 a6 a7 a8 1
 else G.Q0 ρ a0 a1 a2 a3 a4 a5 a6 a7 a8 w25_0 w44_0 (fun w47_0 w47_1 w47_2 =>
 k1 w47_0 w47_1 w47_2) (fun w48_0 w48_1 w48_2 w48_3 w48_4 w48_5 =>
 k2 w48_0 w48_1 w48_2 w48_3 w48_4 w48_5))))
 else G.Qr ρ a0 a1 a2 a3 a4 a5 a6 a7 a8 a9 a11 a12 a13 (fun w49_0 w49_1 w49_2 w49_3 w49_4 w49_5 =>
 bif ((w49_5 : Int) != 0) then
 k0 a3 a4 a5 a6 a7 a8 w49_5
 else bif ((a10 : Int) != 4) then
 G.Q0e ρ w49_1 w49_2 w49_3 w49_4 a17 (fun w50_0 w50_1 w50_2 w50_3 =>
 bif ((a10 : Int) == 3) then
 G.Q0a ρ w50_0 w50_1 w50_2 w50_3 a18 (fun w51_0 w51_1 w51_2 w51_3 w51_4 =>
 bif ((w51_4 : Int) != 0) then
 k0 a3 a4 a5 a6 a7 a8 w51_4
 else G.Qu ρ a0 a1 a2 a3 a4 a5 a6 a7 a8 a9 a14 a15 a16 (fun w52_0 w52_1 =>
 bif ((w52_1 : Int) != 0) then
 k0 a3 a4 a5 a6 a7 a8 w52_1
 else bif ((a10 : Int) != 4) then
 G.Q03 ρ a0 a1 a2 a3 a4 a5 a6 a7 a8 w49_0 w52_0 w51_0 w51_1 w51_2 w51_3 (fun w53_0 w53_1 w53_2 w53_3 w53_4 w53_5 w53_6 =>
 k0 w53_0 w53_1 w53_2 w53_3 w53_4 w53_5 w53_6)
 else G.Qw ρ a0 a1 a2 a3 a4 a5 a6 a7 a8 w51_0 w51_1 w51_2 w51_3 w52_0 (fun w54_0 =>
 bif w54_0 then
 k0 a3 a4 a5 a6 a7 a8 1
 else G.Q0 ρ a0 a1 a2 a3 a4 a5 a6 a7 a8 w49_0 w52_0 (fun w55_0 w55_1 w55_2 =>
 k1 w55_0 w55_1 w55_2) (fun w56_0 w56_1 w56_2 w56_3 w56_4 w56_5 =>
 k2 w56_0 w56_1 w56_2 w56_3 w56_4 w56_5))))
 else G.Qu ρ a0 a1 a2 a3 a4 a5 a6 a7 a8 a9 a14 a15 a16 (fun w57_0 w57_1 =>
 bif ((w57_1 : Int) != 0) then
 k0 a3 a4 a5 a6 a7 a8 w57_1
 else bif ((a10 : Int) != 4) then
 G.Q03 ρ a0 a1 a2 a3 a4 a5 a6 a7 a8 w49_0 w57_0 w50_0 w50_1 w50_2 w50_3 (fun w58_0 w58_1 w58_2 w58_3 w58_4 w58_5 w58_6 =>
 k0 w58_0 w58_1 w58_2 w58_3 w58_4 w58_5 w58_6)
 else G.Qw ρ a0 a1 a2 a3 a4 a5 a6 a7 a8 w50_0 w50_1 w50_2 w50_3 w57_0 (fun w59_0 =>
 bif w59_0 then
 k0 a3 a4 a5 a6 a7 a8 1
 else G.Q0 ρ a0 a1 a2 a3 a4 a5 a6 a7 a8 w49_0 w57_0 (fun w60_0 w60_1 w60_2 =>
 k1 w60_0 w60_1 w60_2) (fun w61_0 w61_1 w61_2 w61_3 w61_4 w61_5 =>
 k2 w61_0 w61_1 w61_2 w61_3 w61_4 w61_5))))
 else bif ((a10 : Int) == 3) then
 G.Q0a ρ w49_1 w49_2 w49_3 w49_4 a18 (fun w62_0 w62_1 w62_2 w62_3 w62_4 =>
 bif ((w62_4 : Int) != 0) then
 k0 a3 a4 a5 a6 a7 a8 w62_4
 else G.Qu ρ a0 a1 a2 a3 a4 a5 a6 a7 a8 a9 a14 a15 a16 (fun w63_0 w63_1 =>
 bif ((w63_1 : Int) != 0) then
 k0 a3 a4 a5 a6 a7 a8 w63_1
 else bif ((a10 : Int) != 4) then
 G.Q03 ρ a0 a1 a2 a3 a4 a5 a6 a7 a8 w49_0 w63_0 w62_0 w62_1 w62_2 w62_3 (fun w64_0 w64_1 w64_2 w64_3 w64_4 w64_5 w64_6 =>
 k0 w64_0 w64_1 w64_2 w64_3 w64_4 w64_5 w64_6)
 else G.Qw ρ a0 a1 a2 a3 a4 a5 a6 a7 a8 w62_0 w62_1 w62_2 w62_3 w63_0 (fun w65_0 =>
 bif w65_0 then
 k0 a3 a4 a5 a6 a7 a8 1
 else G.Q0 ρ a0 a1 a2 a3 a4 a5 a6 a7 a8 w49_0 w63_0 (fun w66_0 w66_1 w66_2 =>
 k1 w66_0 w66_1 w66_2) (fun w67_0 w67_1 w67_2 w67_3 w67_4 w67_5 =>
 k2 w67_0 w67_1 w67_2 w67_3 w67_4 w67_5))))
 else G.Qu ρ a0 a1 a2 a3 a4 a5 a6 a7 a8 a9 a14 a15 a16 (fun w68_0 w68_1 =>
 bif ((w68_1 : Int) != 0) then
 k0 a3 a4 a5 a6 a7 a8 w68_1
 else bif ((a10 : Int) != 4) then
 G.Q03 ρ a0 a1 a2 a3 a4 a5 a6 a7 a8 w49_0 w68_0 w49_1 w49_2 w49_3 w49_4 (fun w69_0 w69_1 w69_2 w69_3 w69_4 w69_5 w69_6 =>
 k0 w69_0 w69_1 w69_2 w69_3 w69_4 w69_5 w69_6)
 else G.Qw ρ a0 a1 a2 a3 a4 a5 a6 a7 a8 w49_1 w49_2 w49_3 w49_4 w68_0 (fun w70_0 =>
 bif w70_0 then
 k0 a3 a4 a5 a6 a7 a8 1
 else G.Q0 ρ a0 a1 a2 a3 a4 a5 a6 a7 a8 w49_0 w68_0 (fun w71_0 w71_1 w71_2 =>
 k1 w71_0 w71_1 w71_2) (fun w72_0 w72_1 w72_2 w72_3 w72_4 w72_5 =>
 k2 w72_0 w72_1 w72_2 w72_3 w72_4 w72_5))))
 else k0 a3 a4 a5 a6 a7 a8 1)
noncomputable def Q0q_g (n : Nat) : Q0q_G := ⟨Qf n, Qr n, Q0e n, Q0a n, Qu n, Q03 n, Qw n, Q0 n⟩
noncomputable def Q0q (n : Nat) : Q0q_T := fun _ρ a0 a1 a2 a3 a4 a5 a6 a7 a8 a9 a10 a11 a12 a13 a14 a15 a16 a17 a18 a19 k0 k1 k2 => Q0q_s (Q0q_g n) n a0 a1 a2 a3 a4 a5 a6 a7 a8 a9 a10 a11 a12 a13 a14 a15 a16 a17 a18 a19 k0 k1 k2
noncomputable def Q0q_e (n : Nat) : EK := Q0q_E (Q0q n)
def Q0q_S (G : Q0q_G) : CK := tabS [(27, Qf_E G.Qf), (16, Qr_E G.Qr), (94, Q0e_E G.Q0e), (95, Q0a_E G.Q0a), (88, Qu_E G.Qu), (96, Q03_E G.Q03), (97, Qw_E G.Qw), (98, Q0_E G.Q0)]
theorem Q0q_Sok (n : Nat) : CK.OK (Q0q_S (Q0q_g n)) (L tab) := tabS_ok _ (List.forall_mem_cons.2 ⟨(Qf_ok n), List.forall_mem_cons.2 ⟨(Qr_ok n), List.forall_mem_cons.2 ⟨(Q0e_ok n), List.forall_mem_cons.2 ⟨(Q0a_ok n), List.forall_mem_cons.2 ⟨(Qu_ok n), List.forall_mem_cons.2 ⟨(Q03_ok n), List.forall_mem_cons.2 ⟨(Qw_ok n), List.forall_mem_cons.2 ⟨(Q0_ok n), (fun _ h => nomatch h)⟩⟩⟩⟩⟩⟩⟩⟩)
def Q0q_hs : HintC := hintL []
noncomputable def Q0q_lp (_G : Q0q_G) (_n : Nat) : LK := tabL []
theorem Q0q_k (G : Q0q_G) {ρ : Type} (n : Nat) (a0 a1 a2 : Int) (a3 a4 : Bool) (a5 : Rows) (a6 a7 : Bool) (a8 : Rows) (a9 a10 : Int) (a11 a12 : Bool) (a13 : Rows) (a14 a15 : Bool) (a16 : Rows) (a17 a18 a19 : Int) (K : Res → Option ρ) : runC (Q0q_S G) Q0q_hs (Q0q_lp G n) m76 [.agg [.i .i64 a0, .i .i64 a1, .i .i64 a2, .lst a3 a4 5 a5, .lst a6 a7 13 a8], .i .i64 a9, .agg [.i .i64 a10, .lst a11 a12 1 a13, .lst a14 a15 1 a16, .i .i64 a17, .i .i64 a18, .i .u64 a19]] K = Q0q_s G n a0 a1 a2 a3 a4 a5 a6 a7 a8 a9 a10 a11 a12 a13 a14 a15 a16 a17 a18 a19 (fun w0 w1 w2 w3 w4 w5 w6 => K ⟨.tup [.agg [.i .i64 a0, .i .i64 a1, .i .i64 a2, .lst w0 w1 5 w2, .lst w3 w4 13 w5], .i .i64 w6], [], []⟩) (fun w0 w1 w2 => K ⟨.tup [.agg [.i .i64 a0, .i .i64 a1, .i .i64 a2, .sl 0 w0 5 0 w1, .lst true true 0 []], .i .i64 0], [.row 5 true false w2], []⟩) (fun w0 w1 w2 w3 w4 w5 => K ⟨.tup [.agg [.i .i64 a0, .i .i64 a1, .i .i64 a2, .sl 0 w0 5 0 w1, .sl 1 w2 13 0 w3], .i .i64 0], [.row 5 true false w4, .row 13 true false w5], []⟩) := by kernel_rfl
theorem Q0q_ok (n : Nat) : EK.OK (Q0q_e n) 76 (L tab) := EK.shp (fun _ _ _ => rfl) fun ρ K y c e => EK.run (Q0q_Sok n) (by kernel_rfl) (MF.LKOK.of (LK.of (l := []) (by kernel_rfl) ((fun _ h => nomatch h)))) (Q0q_k (Q0q_g n) n _ _ _ _ _ _ _ _ _ _ _ _ _ _ _ _ _ _ _ _ K) (by kernel_rfl) e
abbrev Q0d_T : Type 1 := (ρ : Type) → Int → Int → Int → Bool → Bool → Rows → Bool → Bool → Rows → Int → Int → Bool → Bool → Rows → Bool → Bool → Rows → Int → Int → Int → (Bool → Bool → Rows → Bool → Bool → Rows → Int → Option ρ) → Option ρ
def Q0d_E (G : Q0d_T) : EK := fun ρ args K => decL [.agg [.i .i64 none, .i .i64 none, .i .i64 none, .lst none none 5 none, .lst none none 13 none], .i .i64 none, .agg [.i .i64 none, .lst none none 1 none, .lst none none 1 none, .i .i64 none, .i .i64 none, .i .u64 none]] args fun c => G ρ c.1.1 c.1.2.1 c.1.2.2.1 c.1.2.2.2.1.1 c.1.2.2.2.1.2.1 c.1.2.2.2.1.2.2 c.1.2.2.2.2.1.1 c.1.2.2.2.2.1.2.1 c.1.2.2.2.2.1.2.2 c.2.1 c.2.2.1.1 c.2.2.1.2.1.1 c.2.2.1.2.1.2.1 c.2.2.1.2.1.2.2 c.2.2.1.2.2.1.1 c.2.2.1.2.2.1.2.1 c.2.2.1.2.2.1.2.2 c.2.2.1.2.2.2.1 c.2.2.1.2.2.2.2.1 c.2.2.1.2.2.2.2.2.1 (fun w0 w1 w2 w3 w4 w5 w6 => K ⟨.tup [.agg [.i .i64 c.1.1, .i .i64 c.1.2.1, .i .i64 c.1.2.2.1, .lst w0 w1 5 w2, .lst w3 w4 13 w5], .agg [.i .i64 w6, .i .u64 0, .i .i64 0]], [], []⟩)
structure Q0d_G where
 mk ::
 Q0q : Q0q_T
noncomputable def Q0d_s (G : Q0d_G) {ρ : Type} (_n : Nat) (a0 a1 a2 : Int) (a3 a4 : Bool) (a5 : Rows) (a6 a7 : Bool) (a8 : Rows) (a9 a10 : Int) (a11 a12 : Bool) (a13 : Rows) (a14 a15 : Bool) (a16 : Rows) (a17 a18 a19 : Int) (k0 : (Bool → Bool → Rows → Bool → Bool → Rows → Int → Option ρ)) : Option ρ :=
 G.Q0q ρ a0 a1 a2 a3 a4 a5 a6 a7 a8 a9 a10 a11 a12 a13 a14 a15 a16 a17 a18 a19 (fun w0_0 w0_1 w0_2 w0_3 w0_4 w0_5 w0_6 =>
 bif ((w0_6 : Int) != 0) then
 k0 a3 a4 a5 a6 a7 a8 w0_6
 else k0 w0_0 w0_1 w0_2 w0_3 w0_4 w0_5 0) (fun w1_0 w1_1 w1_2 =>
 chk (((List.length (w1_2 : Rows)) : Nat) == w1_0) <|
 k0 false false (List.take w1_1 (List.drop 0 (w1_2 : Rows))) true true [] 0) (fun w2_0 w2_1 w2_2 w2_3 w2_4 w2_5 =>
 chk (((List.length (w2_4 : Rows)) : Nat) == w2_0) <|
 chk (((List.length (w2_5 : Rows)) : Nat) == w2_2) <|
 k0 false false (List.take w2_1 (List.drop 0 (w2_4 : Rows))) false false (List.take w2_3 (List.drop 0 (w2_5 : Rows))) 0)
noncomputable def Q0d_g (n : Nat) : Q0d_G := ⟨Q0q n⟩
noncomputable def Q0d (n : Nat) : Q0d_T := fun _ρ a0 a1 a2 a3 a4 a5 a6 a7 a8 a9 a10 a11 a12 a13 a14 a15 a16 a17 a18 a19 k0 => Q0d_s (Q0d_g n) n a0 a1 a2 a3 a4 a5 a6 a7 a8 a9 a10 a11 a12 a13 a14 a15 a16 a17 a18 a19 k0
noncomputable def Q0d_e (n : Nat) : EK := Q0d_E (Q0d n)
def Q0d_S (G : Q0d_G) : CK := tabS [(76, Q0q_E G.Q0q)]
theorem Q0d_Sok (n : Nat) : CK.OK (Q0d_S (Q0d_g n)) (L tab) := tabS_ok _ (List.forall_mem_cons.2 ⟨(Q0q_ok n), (fun _ h => nomatch h)⟩)
def Q0d_hs : HintC := hintL []
noncomputable def Q0d_lp (_G : Q0d_G) (_n : Nat) : LK := tabL []
theorem Q0d_k (G : Q0d_G) {ρ : Type} (n : Nat) (a0 a1 a2 : Int) (a3 a4 : Bool) (a5 : Rows) (a6 a7 : Bool) (a8 : Rows) (a9 a10 : Int) (a11 a12 : Bool) (a13 : Rows) (a14 a15 : Bool) (a16 : Rows) (a17 a18 a19 : Int) (K : Res → Option ρ) : runC (Q0d_S G) Q0d_hs (Q0d_lp G n) m43 [.agg [.i .i64 a0, .i .i64 a1, .i .i64 a2, .lst a3 a4 5 a5, .lst a6 a7 13 a8], .i .i64 a9, .agg [.i .i64 a10, .lst a11 a12 1 a13, .lst a14 a15 1 a16, .i .i64 a17, .i .i64 a18, .i .u64 a19]] K = Q0d_s G n a0 a1 a2 a3 a4 a5 a6 a7 a8 a9 a10 a11 a12 a13 a14 a15 a16 a17 a18 a19 (fun w0 w1 w2 w3 w4 w5 w6 => K ⟨.tup [.agg [.i .i64 a0, .i .i64 a1, .i .i64 a2, .lst w0 w1 5 w2, .lst w3 w4 13 w5], .agg [.i .i64 w6, .i .u64 0, .i .i64 0]], [], []⟩) := by kernel_rfl
theorem Q0d_ok (n : Nat) : EK.OK (Q0d_e n) 43 (L tab) := EK.shp (fun _ _ _ => rfl) fun ρ K y c e => EK.run (Q0d_Sok n) (by kernel_rfl) (MF.LKOK.of (LK.of (l := []) (by kernel_rfl) ((fun _ h => nomatch h)))) (Q0d_k (Q0d_g n) n _ _ _ _ _ _ _ _ _ _ _ _ _ _ _ _ _ _ _ _ K) (by kernel_rfl) e
abbrev Q0f_T : Type 1 := (ρ : Type) → (Int → Int → Int → Bool → Bool → Rows → Bool → Bool → Rows → Option ρ) → Option ρ
def Q0f_E (G : Q0f_T) : EK := fun ρ args K => decL [] args fun _c => G ρ (fun w0 w1 w2 w3 w4 w5 w6 w7 w8 => K ⟨.agg [.i .i64 w0, .i .i64 w1, .i .i64 w2, .lst w3 w4 5 w5, .lst w6 w7 13 w8], [], []⟩)
structure Q0f_G where
 mk ::
 Q0i : Q0i_T
 reevelaw19_way : reevelaw19_way_T
 Q0r : Q0r_T
 Q0d : Q0d_T
noncomputable def Q0f_s (G : Q0f_G) {ρ : Type} (_n : Nat)  (k0 : (Int → Int → Int → Bool → Bool → Rows → Bool → Bool → Rows → Option ρ)) : Option ρ :=
 G.Q0i ρ (fun w0_0 w0_1 w0_2 w0_3 w0_4 w0_5 w0_6 w0_7 w0_8 =>
 G.reevelaw19_way ρ false false ([[.i .i64 0]]) (bs (stayR ⟨.agg [.lst false false 1 ([[.i .i64 0]])], [], []⟩) <|
 G.reevelaw19_way ρ false false ([[.i .i64 3]]) (bs (stayR ⟨.agg [.lst false false 1 ([[.i .i64 3]])], [], []⟩) <|
 G.Q0r ρ w0_0 w0_1 w0_2 w0_3 w0_4 w0_5 w0_6 w0_7 w0_8 0 1 false false ([[.i .i64 0]]) false false ([[.i .i64 3]]) 4 0 0 (fun w3_0 w3_1 w3_2 w3_3 w3_4 w3_5 _w3_6 _w3_7 =>
 G.reevelaw19_way ρ false false ([[.i .i64 3]]) (bs (stayR ⟨.agg [.lst false false 1 ([[.i .i64 3]])], [], []⟩) <|
 G.reevelaw19_way ρ false false ([[.i .i64 4]]) (bs (stayR ⟨.agg [.lst false false 1 ([[.i .i64 4]])], [], []⟩) <|
 G.Q0d ρ w0_0 w0_1 w0_2 w3_0 w3_1 w3_2 w3_3 w3_4 w3_5 0 3 false false ([[.i .i64 3]]) false false ([[.i .i64 4]]) 7 67 0 (fun w6_0 w6_1 w6_2 w6_3 w6_4 w6_5 _w6_6 =>
 G.reevelaw19_way ρ false false ([[.i .i64 3]]) (bs (stayR ⟨.agg [.lst false false 1 ([[.i .i64 3]])], [], []⟩) <|
 G.reevelaw19_way ρ false false ([[.i .i64 5]]) (bs (stayR ⟨.agg [.lst false false 1 ([[.i .i64 5]])], [], []⟩) <|
 G.Q0d ρ w0_0 w0_1 w0_2 w6_0 w6_1 w6_2 w6_3 w6_4 w6_5 0 2 false false ([[.i .i64 3]]) false false ([[.i .i64 5]]) 1 0 0 (fun w9_0 w9_1 w9_2 w9_3 w9_4 w9_5 _w9_6 =>
 G.reevelaw19_way ρ false false ([[.i .i64 3]]) (bs (stayR ⟨.agg [.lst false false 1 ([[.i .i64 3]])], [], []⟩) <|
 G.reevelaw19_way ρ false false ([[.i .i64 6]]) (bs (stayR ⟨.agg [.lst false false 1 ([[.i .i64 6]])], [], []⟩) <|
 G.Q0d ρ w0_0 w0_1 w0_2 w9_0 w9_1 w9_2 w9_3 w9_4 w9_5 0 2 false false ([[.i .i64 3]]) false false ([[.i .i64 6]]) 2 0 0 (fun w12_0 w12_1 w12_2 w12_3 w12_4 w12_5 _w12_6 =>
 k0 w0_0 w0_1 w0_2 w12_0 w12_1 w12_2 w12_3 w12_4 w12_5)))))))))))))
noncomputable def Q0f_g (n : Nat) : Q0f_G := ⟨Q0i n, reevelaw19_way n, Q0r n, Q0d n⟩
noncomputable def Q0f (n : Nat) : Q0f_T := fun _ρ k0 => Q0f_s (Q0f_g n) n k0
noncomputable def Q0f_e (n : Nat) : EK := Q0f_E (Q0f n)
def Q0f_S (G : Q0f_G) : CK := tabS [(42, Q0i_E G.Q0i), (7, reevelaw19_way_E G.reevelaw19_way), (41, Q0r_E G.Q0r), (43, Q0d_E G.Q0d)]
theorem Q0f_Sok (n : Nat) : CK.OK (Q0f_S (Q0f_g n)) (L tab) := tabS_ok _ (List.forall_mem_cons.2 ⟨(Q0i_ok n), List.forall_mem_cons.2 ⟨(reevelaw19_way_ok n), List.forall_mem_cons.2 ⟨(Q0r_ok n), List.forall_mem_cons.2 ⟨(Q0d_ok n), (fun _ h => nomatch h)⟩⟩⟩⟩)
def Q0f_hs : HintC := hintL []
noncomputable def Q0f_lp (_G : Q0f_G) (_n : Nat) : LK := tabL []
theorem Q0f_k (G : Q0f_G) {ρ : Type} (n : Nat)  (K : Res → Option ρ) : runC (Q0f_S G) Q0f_hs (Q0f_lp G n) m18 [] K = Q0f_s G n  (fun w0 w1 w2 w3 w4 w5 w6 w7 w8 => K ⟨.agg [.i .i64 w0, .i .i64 w1, .i .i64 w2, .lst w3 w4 5 w5, .lst w6 w7 13 w8], [], []⟩) := by kernel_rfl
theorem Q0f_ok (n : Nat) : EK.OK (Q0f_e n) 18 (L tab) := EK.shp (fun _ _ _ => rfl) fun ρ K y c e => EK.run (Q0f_Sok n) (by kernel_rfl) (MF.LKOK.of (LK.of (l := []) (by kernel_rfl) ((fun _ h => nomatch h)))) (Q0f_k (Q0f_g n) n  K) (by kernel_rfl) e
abbrev Q5_i1_T : Type 1 := (ρ : Type) → Bool → Bool → (Option ρ) → Option ρ
def Q5_i1_E (G : Q5_i1_T) : EK := fun ρ args K => decL [.agg [.lst none none 0 (some [])]] args fun c => G ρ c.1.1.1 c.1.1.2.1 (K ⟨.b false, [], []⟩)
structure Q5_i1_G where
 mk ::
noncomputable def Q5_i1_s (_G : Q5_i1_G) {ρ : Type} (_n : Nat) (_a0 _a1 : Bool) (k0 : (Option ρ)) : Option ρ :=
 k0
noncomputable def Q5_i1_g (_n : Nat) : Q5_i1_G := ⟨⟩
noncomputable def Q5_i1 (n : Nat) : Q5_i1_T := fun _ρ a0 a1 k0 => Q5_i1_s (Q5_i1_g n) n a0 a1 k0
noncomputable def Q5_i1_e (n : Nat) : EK := Q5_i1_E (Q5_i1 n)
def Q5_i1_S (_G : Q5_i1_G) : CK := tabS []
theorem Q5_i1_Sok (n : Nat) : CK.OK (Q5_i1_S (Q5_i1_g n)) (L tab) := tabS_ok _ ((fun _ h => nomatch h))
def Q5_i1_hs : HintC := hintL []
noncomputable def Q5_i1_lp (_G : Q5_i1_G) (_n : Nat) : LK := tabL []
theorem Q5_i1_k (G : Q5_i1_G) {ρ : Type} (n : Nat) (a0 a1 : Bool) (K : Res → Option ρ) : runC (Q5_i1_S G) Q5_i1_hs (Q5_i1_lp G n) m54 [.agg [.lst a0 a1 0 []]] K = Q5_i1_s G n a0 a1 (K ⟨.b false, [], []⟩) := by kernel_rfl
theorem Q5_i1_ok (n : Nat) : EK.OK (Q5_i1_e n) 54 (L tab) := EK.shp (fun _ _ _ => rfl) fun ρ K y c e => EK.run (Q5_i1_Sok n) (by kernel_rfl) (MF.LKOK.of (LK.of (l := []) (by kernel_rfl) ((fun _ h => nomatch h)))) (Q5_i1_k (Q5_i1_g n) n _ _ K) (by kernel_rfl) e
abbrev Q0g_T : Type 1 := (ρ : Type) → Int → Bool → Bool → Rows → Bool → Bool → Int → Int → Int → (Bool → Option ρ) → Option ρ
def Q0g_E (G : Q0g_T) : EK := fun ρ args K => decL [.agg [.i .i64 none, .lst none none 1 none, .lst none none 0 (some []), .i .i64 none, .i .i64 none, .i .u64 none]] args fun c => G ρ c.1.1 c.1.2.1.1 c.1.2.1.2.1 c.1.2.1.2.2 c.1.2.2.1.1 c.1.2.2.1.2.1 c.1.2.2.2.1 c.1.2.2.2.2.1 c.1.2.2.2.2.2.1 (fun w0 => K ⟨.b w0, [], []⟩)
structure Q0g_G where
 mk ::
 call_in : call_in_T
 right_Good : right_Good_T
noncomputable def Q0g_s (G : Q0g_G) {ρ : Type} (_n : Nat) (a0 : Int) (_a1 _a2 : Bool) (_a3 : Rows) (_a4 _a5 : Bool) (a6 a7 _a8 : Int) (k0 : (Bool → Option ρ)) : Option ρ :=
 bif ((a0 : Int) == 1) then
 G.call_in ρ a6 1 5 (fun w0_0 =>
 bif w0_0 then
 G.call_in ρ a7 0 4096 (fun w1_0 =>
 bif w1_0 then
 k0 true
 else k0 false)
 else k0 false)
 else bif ((a0 : Int) == 2) then
 G.right_Good ρ a6 (fun w2_0 =>
 bif w2_0 then
 bif ((a7 : Int) == 0) then
 k0 true
 else k0 false
 else k0 false)
 else bif ((a0 : Int) == 3) then
 G.right_Good ρ a6 (fun w3_0 =>
 bif w3_0 then
 G.call_in ρ a7 1 65535 (fun w4_0 =>
 bif w4_0 then
 k0 true
 else k0 false)
 else k0 false)
 else bif ((a0 : Int) == 11) then
 G.call_in ρ a6 0 3 (fun w5_0 =>
 bif w5_0 then
 bif ((a7 : Int) == 0) then
 k0 true
 else k0 false
 else k0 false)
 else bif ((a0 : Int) == 12) then
 G.call_in ρ a6 0 3 (fun w6_0 =>
 bif w6_0 then
 bif ((a7 : Int) == 0) then
 k0 true
 else k0 false
 else k0 false)
 else bif ((a6 : Int) == 0) then
 bif ((a7 : Int) == 0) then
 k0 true
 else k0 false
 else k0 false
noncomputable def Q0g_g (n : Nat) : Q0g_G := ⟨call_in n, right_Good n⟩
noncomputable def Q0g (n : Nat) : Q0g_T := fun _ρ a0 a1 a2 a3 a4 a5 a6 a7 a8 k0 => Q0g_s (Q0g_g n) n a0 a1 a2 a3 a4 a5 a6 a7 a8 k0
noncomputable def Q0g_e (n : Nat) : EK := Q0g_E (Q0g n)
def Q0g_S (G : Q0g_G) : CK := tabS [(86, call_in_E G.call_in), (70, right_Good_E G.right_Good)]
theorem Q0g_Sok (n : Nat) : CK.OK (Q0g_S (Q0g_g n)) (L tab) := tabS_ok _ (List.forall_mem_cons.2 ⟨(call_in_ok n), List.forall_mem_cons.2 ⟨(right_Good_ok n), (fun _ h => nomatch h)⟩⟩)
def Q0g_hs : HintC := hintL []
noncomputable def Q0g_lp (_G : Q0g_G) (_n : Nat) : LK := tabL []
theorem Q0g_k (G : Q0g_G) {ρ : Type} (n : Nat) (a0 : Int) (a1 a2 : Bool) (a3 : Rows) (a4 a5 : Bool) (a6 a7 a8 : Int) (K : Res → Option ρ) : runC (Q0g_S G) Q0g_hs (Q0g_lp G n) m56 [.agg [.i .i64 a0, .lst a1 a2 1 a3, .lst a4 a5 0 [], .i .i64 a6, .i .i64 a7, .i .u64 a8]] K = Q0g_s G n a0 a1 a2 a3 a4 a5 a6 a7 a8 (fun w0 => K ⟨.b w0, [], []⟩) := by kernel_rfl
theorem Q0g_ok (n : Nat) : EK.OK (Q0g_e n) 56 (L tab) := EK.shp (fun _ _ _ => rfl) fun ρ K y c e => EK.run (Q0g_Sok n) (by kernel_rfl) (MF.LKOK.of (LK.of (l := []) (by kernel_rfl) ((fun _ h => nomatch h)))) (Q0g_k (Q0g_g n) n _ _ _ _ _ _ _ _ _ K) (by kernel_rfl) e
abbrev Q08_T : Type 1 := (ρ : Type) → Int → Bool → Bool → Rows → Bool → Bool → Int → Int → Int → (Bool → Option ρ) → Option ρ
def Q08_E (G : Q08_T) : EK := fun ρ args K => decL [.agg [.i .i64 none, .lst none none 1 none, .lst none none 0 (some []), .i .i64 none, .i .i64 none, .i .u64 none]] args fun c => G ρ c.1.1 c.1.2.1.1 c.1.2.1.2.1 c.1.2.1.2.2 c.1.2.2.1.1 c.1.2.2.1.2.1 c.1.2.2.2.1 c.1.2.2.2.2.1 c.1.2.2.2.2.2.1 (fun w0 => K ⟨.b w0, [], []⟩)
structure Q08_G where
 mk ::
 Q04 : Q04_T
 strings_Contains : strings_Contains_T
 Q5_i1 : Q5_i1_T
 Q5 : Q5_T
 Q0g : Q0g_T
noncomputable def Q08_s (G : Q08_G) {ρ : Type} (_n : Nat) (a0 : Int) (a1 a2 : Bool) (a3 : Rows) (a4 a5 : Bool) (a6 a7 a8 : Int) (k0 : (Bool → Option ρ)) : Option ρ :=
 G.Q04 ρ a0 (fun _w0_0 w0_1 =>
 G.strings_Contains ρ w0_1 [66] (fun w1_0 =>
 bif w1_0 then
 G.Q5_i1 ρ a4 a5 (bif ((w0_1 : Bys) != []) then
 G.Q5 ρ a1 a2 a3 (fun w3_0 =>
 bif w3_0 then
 k0 false
 else k0 false)
 else k0 false)
 else bif ((w0_1 : Bys) != []) then
 G.Q5 ρ a1 a2 a3 (fun w4_0 =>
 bif w4_0 then
 G.Q0g ρ a0 a1 a2 a3 a4 a5 a6 a7 a8 (fun w5_0 =>
 bif w5_0 then
 bif ((a8 : Int) == 0) then
 k0 true
 else G.strings_Contains ρ w0_1 [87] (fun w6_0 =>
 bif w6_0 then
 k0 true
 else k0 false)
 else k0 false)
 else k0 false)
 else k0 false))
noncomputable def Q08_g (n : Nat) : Q08_G := ⟨Q04 n, strings_Contains n, Q5_i1 n, Q5 n, Q0g n⟩
noncomputable def Q08 (n : Nat) : Q08_T := fun _ρ a0 a1 a2 a3 a4 a5 a6 a7 a8 k0 => Q08_s (Q08_g n) n a0 a1 a2 a3 a4 a5 a6 a7 a8 k0
noncomputable def Q08_e (n : Nat) : EK := Q08_E (Q08 n)
def Q08_S (G : Q08_G) : CK := tabS [(52, Q04_E G.Q04), (53, strings_Contains_E G.strings_Contains), (54, altE [.agg [.lst none none 0 (some [])]] (Q5_i1_E G.Q5_i1) (Q5_E G.Q5)), (56, Q0g_E G.Q0g)]
theorem Q08_Sok (n : Nat) : CK.OK (Q08_S (Q08_g n)) (L tab) := tabS_ok _ (List.forall_mem_cons.2 ⟨(Q04_ok n), List.forall_mem_cons.2 ⟨(strings_Contains_ok n), List.forall_mem_cons.2 ⟨altE_ok (Q5_i1_ok n) ((Q5_ok n)), List.forall_mem_cons.2 ⟨(Q0g_ok n), (fun _ h => nomatch h)⟩⟩⟩⟩)
def Q08_hs : HintC := hintL []
noncomputable def Q08_lp (_G : Q08_G) (_n : Nat) : LK := tabL []
theorem Q08_k (G : Q08_G) {ρ : Type} (n : Nat) (a0 : Int) (a1 a2 : Bool) (a3 : Rows) (a4 a5 : Bool) (a6 a7 a8 : Int) (K : Res → Option ρ) : runC (Q08_S G) Q08_hs (Q08_lp G n) m27 [.agg [.i .i64 a0, .lst a1 a2 1 a3, .lst a4 a5 0 [], .i .i64 a6, .i .i64 a7, .i .u64 a8]] K = Q08_s G n a0 a1 a2 a3 a4 a5 a6 a7 a8 (fun w0 => K ⟨.b w0, [], []⟩) := by kernel_rfl
theorem Q08_ok (n : Nat) : EK.OK (Q08_e n) 27 (L tab) := EK.shp (fun _ _ _ => rfl) fun ρ K y c e => EK.run (Q08_Sok n) (by kernel_rfl) (MF.LKOK.of (LK.of (l := []) (by kernel_rfl) ((fun _ h => nomatch h)))) (Q08_k (Q08_g n) n _ _ _ _ _ _ _ _ _ K) (by kernel_rfl) e
end Go.Rv
namespace Go.Rv
abbrev Qt_T : Type 1 := (ρ : Type) → Int → Int → Int → Bool → Bool → Rows → Bool → Bool → Rows → Int → Int → Bool → Bool → Rows → Bool → Bool → Int → Int → Int → (Bool → Bool → Rows → Bool → Bool → Rows → Int → Int → Option ρ) → Option ρ
def Qt_E (G : Qt_T) : EK := fun ρ args K => decL [.agg [.i .i64 none, .i .i64 none, .i .i64 none, .lst none none 5 none, .lst none none 13 none], .i .i64 none, .agg [.i .i64 none, .lst none none 1 none, .lst none none 0 (some []), .i .i64 none, .i .i64 none, .i .u64 none]] args fun c => G ρ c.1.1 c.1.2.1 c.1.2.2.1 c.1.2.2.2.1.1 c.1.2.2.2.1.2.1 c.1.2.2.2.1.2.2 c.1.2.2.2.2.1.1 c.1.2.2.2.2.1.2.1 c.1.2.2.2.2.1.2.2 c.2.1 c.2.2.1.1 c.2.2.1.2.1.1 c.2.2.1.2.1.2.1 c.2.2.1.2.1.2.2 c.2.2.1.2.2.1.1 c.2.2.1.2.2.1.2.1 c.2.2.1.2.2.2.1 c.2.2.1.2.2.2.2.1 c.2.2.1.2.2.2.2.2.1 (fun w0 w1 w2 w3 w4 w5 w6 w7 => K ⟨.tup [.agg [.i .i64 c.1.1, .i .i64 c.1.2.1, .i .i64 c.1.2.2.1, .lst w0 w1 5 w2, .lst w3 w4 13 w5], .agg [.i .i64 w6, .i .u64 w7, .i .i64 0]], [], []⟩)
structure Qt_G where
 mk ::
 Q08 : Q08_T
 Qr : Qr_T
 Qp : Qp_T
 Qo : Qo_T
noncomputable def Qt_s (G : Qt_G) {ρ : Type} (_n : Nat) (a0 a1 a2 : Int) (a3 a4 : Bool) (a5 : Rows) (a6 a7 : Bool) (a8 : Rows) (a9 a10 : Int) (a11 a12 : Bool) (a13 : Rows) (a14 a15 : Bool) (a16 a17 a18 : Int) (k0 : (Bool → Bool → Rows → Bool → Bool → Rows → Int → Int → Option ρ)) : Option ρ :=
 G.Q08 ρ a10 a11 a12 a13 a14 a15 a16 a17 a18 (fun w0_0 =>
 bif w0_0 then
 bif ((a10 : Int) != 9) then
 bif ((a10 : Int) != 10) then
 k0 a3 a4 a5 a6 a7 a8 1 0
 else G.Qr ρ a0 a1 a2 a3 a4 a5 a6 a7 a8 a9 a11 a12 a13 (fun _w1_0 w1_1 w1_2 w1_3 w1_4 w1_5 =>
 bif ((a10 : Int) == 10) then
 bif ((w1_5 : Int) != 0) then
 k0 a3 a4 a5 a6 a7 a8 w1_5 0
 else bif ((w1_1 : Int) != 4) then
 k0 a3 a4 a5 a6 a7 a8 7 0
 else G.Qp ρ 1 w1_3 (fun w2_0 =>
 bif w2_0 then
 rowT [.i .i64, .i .i64, .i .i64, .i .i64, .i .i64, .i .i64, .i .i64, .b, .i .u64, .i .u64, .i .u64, .i .u64, .i .u64] a8 w1_2 fun c3 =>
 bif ((a10 : Int) == 10) then
 bif ((c3.2.2.2.2.2.2.2.2.1 : Int) == 0) then
 k0 a3 a4 a5 a6 a7 a8 14 0
 else G.Qo ρ a0 a1 a2 a3 a4 a5 a6 a7 a8 (bif ((a10 : Int) == 10) then
 none
 else chk (decide (0 ≤ (((w1_4 : Int).tmod 64) : Int))) <|
 none) (fun w5_0 w5_1 w5_2 =>
 bif ((a10 : Int) == 10) then
 chk (decide ((0 : Int) ≤ w1_2)) <|
 chk (decide ((w1_2 : Int) < ((w5_1 : Nat) : Int))) <|
 chk (((List.length (w5_2 : Rows)) : Nat) == w5_0) <|
 rowN [.a, .a, .a, .a, .a, .a, .a, .a, .a, .a, .a, .a, .a] w5_2 (0 + w1_2.toNat) fun c6 =>
 chk (((List.length ((List.set (w5_2 : Rows) (0 + w1_2.toNat) [c6.1, c6.2.1, c6.2.2.1, c6.2.2.2.1, c6.2.2.2.2.1, c6.2.2.2.2.2.1, c6.2.2.2.2.2.2.1, c6.2.2.2.2.2.2.2.1, .i .u64 0, c6.2.2.2.2.2.2.2.2.2.1, c6.2.2.2.2.2.2.2.2.2.2.1, c6.2.2.2.2.2.2.2.2.2.2.2.1, c6.2.2.2.2.2.2.2.2.2.2.2.2.1]) : Rows)) : Nat) == w5_0) <|
 k0 true true [] false false (List.take w5_1 (List.drop 0 ((List.set (w5_2 : Rows) (0 + w1_2.toNat) [c6.1, c6.2.1, c6.2.2.1, c6.2.2.2.1, c6.2.2.2.2.1, c6.2.2.2.2.2.1, c6.2.2.2.2.2.2.1, c6.2.2.2.2.2.2.2.1, .i .u64 0, c6.2.2.2.2.2.2.2.2.2.1, c6.2.2.2.2.2.2.2.2.2.2.1, c6.2.2.2.2.2.2.2.2.2.2.2.1, c6.2.2.2.2.2.2.2.2.2.2.2.2.1]) : Rows))) 0 c3.2.2.2.2.2.2.2.2.1
 else chk (decide (0 ≤ (((w1_4 : Int).tmod 64) : Int))) <|
 chk (decide ((0 : Int) ≤ w1_2)) <|
 chk (decide ((w1_2 : Int) < ((w5_1 : Nat) : Int))) <|
 chk (((List.length (w5_2 : Rows)) : Nat) == w5_0) <|
 rowN [.a, .a, .a, .a, .a, .a, .a, .a, .a, .a, .a, .a, .a] w5_2 (0 + w1_2.toNat) fun c7 =>
 chk (((List.length ((List.set (w5_2 : Rows) (0 + w1_2.toNat) [c7.1, c7.2.1, c7.2.2.1, c7.2.2.2.1, c7.2.2.2.2.1, c7.2.2.2.2.2.1, c7.2.2.2.2.2.2.1, c7.2.2.2.2.2.2.2.1, .i .u64 (IntKind.wrap .u64 (BitVec.ofInt (IntKind.bits .u64) c3.2.2.2.2.2.2.2.2.1 ||| BitVec.ofInt (IntKind.bits .u64) (IntKind.wrap .u64 ((1 : Int) * 2 ^ (min ((w1_4 : Int).tmod 64).toNat (IntKind.bits .u64))))).toNat), c7.2.2.2.2.2.2.2.2.2.1, c7.2.2.2.2.2.2.2.2.2.2.1, c7.2.2.2.2.2.2.2.2.2.2.2.1, c7.2.2.2.2.2.2.2.2.2.2.2.2.1]) : Rows)) : Nat) == w5_0) <|
 k0 true true [] false false (List.take w5_1 (List.drop 0 ((List.set (w5_2 : Rows) (0 + w1_2.toNat) [c7.1, c7.2.1, c7.2.2.1, c7.2.2.2.1, c7.2.2.2.2.1, c7.2.2.2.2.2.1, c7.2.2.2.2.2.2.1, c7.2.2.2.2.2.2.2.1, .i .u64 (IntKind.wrap .u64 (BitVec.ofInt (IntKind.bits .u64) c3.2.2.2.2.2.2.2.2.1 ||| BitVec.ofInt (IntKind.bits .u64) (IntKind.wrap .u64 ((1 : Int) * 2 ^ (min ((w1_4 : Int).tmod 64).toNat (IntKind.bits .u64))))).toNat), c7.2.2.2.2.2.2.2.2.2.1, c7.2.2.2.2.2.2.2.2.2.2.1, c7.2.2.2.2.2.2.2.2.2.2.2.1, c7.2.2.2.2.2.2.2.2.2.2.2.2.1]) : Rows))) 0 0) (fun _w8_0 _w8_1 _w8_2 =>
 bif ((a10 : Int) == 10) then
 none
 else chk (decide (0 ≤ (((w1_4 : Int).tmod 64) : Int))) <|
 none) (fun w9_0 w9_1 w9_2 w9_3 w9_4 w9_5 =>
 bif ((a10 : Int) == 10) then
 chk (decide ((0 : Int) ≤ w1_2)) <|
 chk (decide ((w1_2 : Int) < ((w9_3 : Nat) : Int))) <|
 chk (((List.length (w9_5 : Rows)) : Nat) == w9_2) <|
 rowN [.a, .a, .a, .a, .a, .a, .a, .a, .a, .a, .a, .a, .a] w9_5 (0 + w1_2.toNat) fun c10 =>
 chk (((List.length (w9_4 : Rows)) : Nat) == w9_0) <|
 chk (((List.length ((List.set (w9_5 : Rows) (0 + w1_2.toNat) [c10.1, c10.2.1, c10.2.2.1, c10.2.2.2.1, c10.2.2.2.2.1, c10.2.2.2.2.2.1, c10.2.2.2.2.2.2.1, c10.2.2.2.2.2.2.2.1, .i .u64 0, c10.2.2.2.2.2.2.2.2.2.1, c10.2.2.2.2.2.2.2.2.2.2.1, c10.2.2.2.2.2.2.2.2.2.2.2.1, c10.2.2.2.2.2.2.2.2.2.2.2.2.1]) : Rows)) : Nat) == w9_2) <|
 k0 false false (List.take w9_1 (List.drop 0 (w9_4 : Rows))) false false (List.take w9_3 (List.drop 0 ((List.set (w9_5 : Rows) (0 + w1_2.toNat) [c10.1, c10.2.1, c10.2.2.1, c10.2.2.2.1, c10.2.2.2.2.1, c10.2.2.2.2.2.1, c10.2.2.2.2.2.2.1, c10.2.2.2.2.2.2.2.1, .i .u64 0, c10.2.2.2.2.2.2.2.2.2.1, c10.2.2.2.2.2.2.2.2.2.2.1, c10.2.2.2.2.2.2.2.2.2.2.2.1, c10.2.2.2.2.2.2.2.2.2.2.2.2.1]) : Rows))) 0 c3.2.2.2.2.2.2.2.2.1
 else chk (decide (0 ≤ (((w1_4 : Int).tmod 64) : Int))) <|
 chk (decide ((0 : Int) ≤ w1_2)) <|
 chk (decide ((w1_2 : Int) < ((w9_3 : Nat) : Int))) <|
 chk (((List.length (w9_5 : Rows)) : Nat) == w9_2) <|
 rowN [.a, .a, .a, .a, .a, .a, .a, .a, .a, .a, .a, .a, .a] w9_5 (0 + w1_2.toNat) fun c11 =>
 chk (((List.length (w9_4 : Rows)) : Nat) == w9_0) <|
 chk (((List.length ((List.set (w9_5 : Rows) (0 + w1_2.toNat) [c11.1, c11.2.1, c11.2.2.1, c11.2.2.2.1, c11.2.2.2.2.1, c11.2.2.2.2.2.1, c11.2.2.2.2.2.2.1, c11.2.2.2.2.2.2.2.1, .i .u64 (IntKind.wrap .u64 (BitVec.ofInt (IntKind.bits .u64) c3.2.2.2.2.2.2.2.2.1 ||| BitVec.ofInt (IntKind.bits .u64) (IntKind.wrap .u64 ((1 : Int) * 2 ^ (min ((w1_4 : Int).tmod 64).toNat (IntKind.bits .u64))))).toNat), c11.2.2.2.2.2.2.2.2.2.1, c11.2.2.2.2.2.2.2.2.2.2.1, c11.2.2.2.2.2.2.2.2.2.2.2.1, c11.2.2.2.2.2.2.2.2.2.2.2.2.1]) : Rows)) : Nat) == w9_2) <|
 k0 false false (List.take w9_1 (List.drop 0 (w9_4 : Rows))) false false (List.take w9_3 (List.drop 0 ((List.set (w9_5 : Rows) (0 + w1_2.toNat) [c11.1, c11.2.1, c11.2.2.1, c11.2.2.2.1, c11.2.2.2.2.1, c11.2.2.2.2.2.1, c11.2.2.2.2.2.2.1, c11.2.2.2.2.2.2.2.1, .i .u64 (IntKind.wrap .u64 (BitVec.ofInt (IntKind.bits .u64) c3.2.2.2.2.2.2.2.2.1 ||| BitVec.ofInt (IntKind.bits .u64) (IntKind.wrap .u64 ((1 : Int) * 2 ^ (min ((w1_4 : Int).tmod 64).toNat (IntKind.bits .u64))))).toNat), c11.2.2.2.2.2.2.2.2.2.1, c11.2.2.2.2.2.2.2.2.2.2.1, c11.2.2.2.2.2.2.2.2.2.2.2.1, c11.2.2.2.2.2.2.2.2.2.2.2.2.1]) : Rows))) 0 0)
 else G.Qo ρ a0 a1 a2 a3 a4 a5 a6 a7 a8 (bif ((a10 : Int) == 10) then
 none
 else chk (decide (0 ≤ (((w1_4 : Int).tmod 64) : Int))) <|
 none) (fun w13_0 w13_1 w13_2 =>
 bif ((a10 : Int) == 10) then
 chk (decide ((0 : Int) ≤ w1_2)) <|
 chk (decide ((w1_2 : Int) < ((w13_1 : Nat) : Int))) <|
 chk (((List.length (w13_2 : Rows)) : Nat) == w13_0) <|
 rowN [.a, .a, .a, .a, .a, .a, .a, .a, .a, .a, .a, .a, .a] w13_2 (0 + w1_2.toNat) fun c14 =>
 chk (((List.length ((List.set (w13_2 : Rows) (0 + w1_2.toNat) [c14.1, c14.2.1, c14.2.2.1, c14.2.2.2.1, c14.2.2.2.2.1, c14.2.2.2.2.2.1, c14.2.2.2.2.2.2.1, c14.2.2.2.2.2.2.2.1, .i .u64 0, c14.2.2.2.2.2.2.2.2.2.1, c14.2.2.2.2.2.2.2.2.2.2.1, c14.2.2.2.2.2.2.2.2.2.2.2.1, c14.2.2.2.2.2.2.2.2.2.2.2.2.1]) : Rows)) : Nat) == w13_0) <|
 k0 true true [] false false (List.take w13_1 (List.drop 0 ((List.set (w13_2 : Rows) (0 + w1_2.toNat) [c14.1, c14.2.1, c14.2.2.1, c14.2.2.2.1, c14.2.2.2.2.1, c14.2.2.2.2.2.1, c14.2.2.2.2.2.2.1, c14.2.2.2.2.2.2.2.1, .i .u64 0, c14.2.2.2.2.2.2.2.2.2.1, c14.2.2.2.2.2.2.2.2.2.2.1, c14.2.2.2.2.2.2.2.2.2.2.2.1, c14.2.2.2.2.2.2.2.2.2.2.2.2.1]) : Rows))) 0 c3.2.2.2.2.2.2.2.2.1
 else chk (decide (0 ≤ (((w1_4 : Int).tmod 64) : Int))) <|
 chk (decide ((0 : Int) ≤ w1_2)) <|
 chk (decide ((w1_2 : Int) < ((w13_1 : Nat) : Int))) <|
 chk (((List.length (w13_2 : Rows)) : Nat) == w13_0) <|
 rowN [.a, .a, .a, .a, .a, .a, .a, .a, .a, .a, .a, .a, .a] w13_2 (0 + w1_2.toNat) fun c15 =>
 chk (((List.length ((List.set (w13_2 : Rows) (0 + w1_2.toNat) [c15.1, c15.2.1, c15.2.2.1, c15.2.2.2.1, c15.2.2.2.2.1, c15.2.2.2.2.2.1, c15.2.2.2.2.2.2.1, c15.2.2.2.2.2.2.2.1, .i .u64 (IntKind.wrap .u64 (BitVec.ofInt (IntKind.bits .u64) c3.2.2.2.2.2.2.2.2.1 ||| BitVec.ofInt (IntKind.bits .u64) (IntKind.wrap .u64 ((1 : Int) * 2 ^ (min ((w1_4 : Int).tmod 64).toNat (IntKind.bits .u64))))).toNat), c15.2.2.2.2.2.2.2.2.2.1, c15.2.2.2.2.2.2.2.2.2.2.1, c15.2.2.2.2.2.2.2.2.2.2.2.1, c15.2.2.2.2.2.2.2.2.2.2.2.2.1]) : Rows)) : Nat) == w13_0) <|
 k0 true true [] false false (List.take w13_1 (List.drop 0 ((List.set (w13_2 : Rows) (0 + w1_2.toNat) [c15.1, c15.2.1, c15.2.2.1, c15.2.2.2.1, c15.2.2.2.2.1, c15.2.2.2.2.2.1, c15.2.2.2.2.2.2.1, c15.2.2.2.2.2.2.2.1, .i .u64 (IntKind.wrap .u64 (BitVec.ofInt (IntKind.bits .u64) c3.2.2.2.2.2.2.2.2.1 ||| BitVec.ofInt (IntKind.bits .u64) (IntKind.wrap .u64 ((1 : Int) * 2 ^ (min ((w1_4 : Int).tmod 64).toNat (IntKind.bits .u64))))).toNat), c15.2.2.2.2.2.2.2.2.2.1, c15.2.2.2.2.2.2.2.2.2.2.1, c15.2.2.2.2.2.2.2.2.2.2.2.1, c15.2.2.2.2.2.2.2.2.2.2.2.2.1]) : Rows))) 0 0) (fun _w16_0 _w16_1 _w16_2 =>
 bif ((a10 : Int) == 10) then
 none
 else chk (decide (0 ≤ (((w1_4 : Int).tmod 64) : Int))) <|
 none) (fun w17_0 w17_1 w17_2 w17_3 w17_4 w17_5 =>
 bif ((a10 : Int) == 10) then
 chk (decide ((0 : Int) ≤ w1_2)) <|
 chk (decide ((w1_2 : Int) < ((w17_3 : Nat) : Int))) <|
 chk (((List.length (w17_5 : Rows)) : Nat) == w17_2) <|
 rowN [.a, .a, .a, .a, .a, .a, .a, .a, .a, .a, .a, .a, .a] w17_5 (0 + w1_2.toNat) fun c18 =>
 chk (((List.length (w17_4 : Rows)) : Nat) == w17_0) <|
 chk (((List.length ((List.set (w17_5 : Rows) (0 + w1_2.toNat) [c18.1, c18.2.1, c18.2.2.1, c18.2.2.2.1, c18.2.2.2.2.1, c18.2.2.2.2.2.1, c18.2.2.2.2.2.2.1, c18.2.2.2.2.2.2.2.1, .i .u64 0, c18.2.2.2.2.2.2.2.2.2.1, c18.2.2.2.2.2.2.2.2.2.2.1, c18.2.2.2.2.2.2.2.2.2.2.2.1, c18.2.2.2.2.2.2.2.2.2.2.2.2.1]) : Rows)) : Nat) == w17_2) <|
 k0 false false (List.take w17_1 (List.drop 0 (w17_4 : Rows))) false false (List.take w17_3 (List.drop 0 ((List.set (w17_5 : Rows) (0 + w1_2.toNat) [c18.1, c18.2.1, c18.2.2.1, c18.2.2.2.1, c18.2.2.2.2.1, c18.2.2.2.2.2.1, c18.2.2.2.2.2.2.1, c18.2.2.2.2.2.2.2.1, .i .u64 0, c18.2.2.2.2.2.2.2.2.2.1, c18.2.2.2.2.2.2.2.2.2.2.1, c18.2.2.2.2.2.2.2.2.2.2.2.1, c18.2.2.2.2.2.2.2.2.2.2.2.2.1]) : Rows))) 0 c3.2.2.2.2.2.2.2.2.1
 else chk (decide (0 ≤ (((w1_4 : Int).tmod 64) : Int))) <|
 chk (decide ((0 : Int) ≤ w1_2)) <|
 chk (decide ((w1_2 : Int) < ((w17_3 : Nat) : Int))) <|
 chk (((List.length (w17_5 : Rows)) : Nat) == w17_2) <|
 rowN [.a, .a, .a, .a, .a, .a, .a, .a, .a, .a, .a, .a, .a] w17_5 (0 + w1_2.toNat) fun c19 =>
 chk (((List.length (w17_4 : Rows)) : Nat) == w17_0) <|
 chk (((List.length ((List.set (w17_5 : Rows) (0 + w1_2.toNat) [c19.1, c19.2.1, c19.2.2.1, c19.2.2.2.1, c19.2.2.2.2.1, c19.2.2.2.2.2.1, c19.2.2.2.2.2.2.1, c19.2.2.2.2.2.2.2.1, .i .u64 (IntKind.wrap .u64 (BitVec.ofInt (IntKind.bits .u64) c3.2.2.2.2.2.2.2.2.1 ||| BitVec.ofInt (IntKind.bits .u64) (IntKind.wrap .u64 ((1 : Int) * 2 ^ (min ((w1_4 : Int).tmod 64).toNat (IntKind.bits .u64))))).toNat), c19.2.2.2.2.2.2.2.2.2.1, c19.2.2.2.2.2.2.2.2.2.2.1, c19.2.2.2.2.2.2.2.2.2.2.2.1, c19.2.2.2.2.2.2.2.2.2.2.2.2.1]) : Rows)) : Nat) == w17_2) <|
 k0 false false (List.take w17_1 (List.drop 0 (w17_4 : Rows))) false false (List.take w17_3 (List.drop 0 ((List.set (w17_5 : Rows) (0 + w1_2.toNat) [c19.1, c19.2.1, c19.2.2.1, c19.2.2.2.1, c19.2.2.2.2.1, c19.2.2.2.2.2.1, c19.2.2.2.2.2.2.1, c19.2.2.2.2.2.2.2.1, .i .u64 (IntKind.wrap .u64 (BitVec.ofInt (IntKind.bits .u64) c3.2.2.2.2.2.2.2.2.1 ||| BitVec.ofInt (IntKind.bits .u64) (IntKind.wrap .u64 ((1 : Int) * 2 ^ (min ((w1_4 : Int).tmod 64).toNat (IntKind.bits .u64))))).toNat), c19.2.2.2.2.2.2.2.2.2.1, c19.2.2.2.2.2.2.2.2.2.2.1, c19.2.2.2.2.2.2.2.2.2.2.2.1, c19.2.2.2.2.2.2.2.2.2.2.2.2.1]) : Rows))) 0 0)
 else k0 a3 a4 a5 a6 a7 a8 6 0)
 else bif ((w1_5 : Int) != 0) then
 k0 a3 a4 a5 a6 a7 a8 w1_5 0
 else bif ((w1_1 : Int) != 4) then
 k0 a3 a4 a5 a6 a7 a8 7 0
 else G.Qp ρ 2 w1_3 (fun w20_0 =>
 bif w20_0 then
 rowT [.i .i64, .i .i64, .i .i64, .i .i64, .i .i64, .i .i64, .i .i64, .b, .i .u64, .i .u64, .i .u64, .i .u64, .i .u64] a8 w1_2 fun c21 =>
 bif ((a10 : Int) == 10) then
 bif ((c21.2.2.2.2.2.2.2.2.1 : Int) == 0) then
 k0 a3 a4 a5 a6 a7 a8 14 0
 else G.Qo ρ a0 a1 a2 a3 a4 a5 a6 a7 a8 (bif ((a10 : Int) == 10) then
 none
 else chk (decide (0 ≤ (((w1_4 : Int).tmod 64) : Int))) <|
 none) (fun w23_0 w23_1 w23_2 =>
 bif ((a10 : Int) == 10) then
 chk (decide ((0 : Int) ≤ w1_2)) <|
 chk (decide ((w1_2 : Int) < ((w23_1 : Nat) : Int))) <|
 chk (((List.length (w23_2 : Rows)) : Nat) == w23_0) <|
 rowN [.a, .a, .a, .a, .a, .a, .a, .a, .a, .a, .a, .a, .a] w23_2 (0 + w1_2.toNat) fun c24 =>
 chk (((List.length ((List.set (w23_2 : Rows) (0 + w1_2.toNat) [c24.1, c24.2.1, c24.2.2.1, c24.2.2.2.1, c24.2.2.2.2.1, c24.2.2.2.2.2.1, c24.2.2.2.2.2.2.1, c24.2.2.2.2.2.2.2.1, .i .u64 0, c24.2.2.2.2.2.2.2.2.2.1, c24.2.2.2.2.2.2.2.2.2.2.1, c24.2.2.2.2.2.2.2.2.2.2.2.1, c24.2.2.2.2.2.2.2.2.2.2.2.2.1]) : Rows)) : Nat) == w23_0) <|
 k0 true true [] false false (List.take w23_1 (List.drop 0 ((List.set (w23_2 : Rows) (0 + w1_2.toNat) [c24.1, c24.2.1, c24.2.2.1, c24.2.2.2.1, c24.2.2.2.2.1, c24.2.2.2.2.2.1, c24.2.2.2.2.2.2.1, c24.2.2.2.2.2.2.2.1, .i .u64 0, c24.2.2.2.2.2.2.2.2.2.1, c24.2.2.2.2.2.2.2.2.2.2.1, c24.2.2.2.2.2.2.2.2.2.2.2.1, c24.2.2.2.2.2.2.2.2.2.2.2.2.1]) : Rows))) 0 c21.2.2.2.2.2.2.2.2.1
 else chk (decide (0 ≤ (((w1_4 : Int).tmod 64) : Int))) <|
 chk (decide ((0 : Int) ≤ w1_2)) <|
 chk (decide ((w1_2 : Int) < ((w23_1 : Nat) : Int))) <|
 chk (((List.length (w23_2 : Rows)) : Nat) == w23_0) <|
 rowN [.a, .a, .a, .a, .a, .a, .a, .a, .a, .a, .a, .a, .a] w23_2 (0 + w1_2.toNat) fun c25 =>
 chk (((List.length ((List.set (w23_2 : Rows) (0 + w1_2.toNat) [c25.1, c25.2.1, c25.2.2.1, c25.2.2.2.1, c25.2.2.2.2.1, c25.2.2.2.2.2.1, c25.2.2.2.2.2.2.1, c25.2.2.2.2.2.2.2.1, .i .u64 (IntKind.wrap .u64 (BitVec.ofInt (IntKind.bits .u64) c21.2.2.2.2.2.2.2.2.1 ||| BitVec.ofInt (IntKind.bits .u64) (IntKind.wrap .u64 ((1 : Int) * 2 ^ (min ((w1_4 : Int).tmod 64).toNat (IntKind.bits .u64))))).toNat), c25.2.2.2.2.2.2.2.2.2.1, c25.2.2.2.2.2.2.2.2.2.2.1, c25.2.2.2.2.2.2.2.2.2.2.2.1, c25.2.2.2.2.2.2.2.2.2.2.2.2.1]) : Rows)) : Nat) == w23_0) <|
 k0 true true [] false false (List.take w23_1 (List.drop 0 ((List.set (w23_2 : Rows) (0 + w1_2.toNat) [c25.1, c25.2.1, c25.2.2.1, c25.2.2.2.1, c25.2.2.2.2.1, c25.2.2.2.2.2.1, c25.2.2.2.2.2.2.1, c25.2.2.2.2.2.2.2.1, .i .u64 (IntKind.wrap .u64 (BitVec.ofInt (IntKind.bits .u64) c21.2.2.2.2.2.2.2.2.1 ||| BitVec.ofInt (IntKind.bits .u64) (IntKind.wrap .u64 ((1 : Int) * 2 ^ (min ((w1_4 : Int).tmod 64).toNat (IntKind.bits .u64))))).toNat), c25.2.2.2.2.2.2.2.2.2.1, c25.2.2.2.2.2.2.2.2.2.2.1, c25.2.2.2.2.2.2.2.2.2.2.2.1, c25.2.2.2.2.2.2.2.2.2.2.2.2.1]) : Rows))) 0 0) (fun _w26_0 _w26_1 _w26_2 =>
 bif ((a10 : Int) == 10) then
 none
 else chk (decide (0 ≤ (((w1_4 : Int).tmod 64) : Int))) <|
 none) (fun w27_0 w27_1 w27_2 w27_3 w27_4 w27_5 =>
 bif ((a10 : Int) == 10) then
 chk (decide ((0 : Int) ≤ w1_2)) <|
 chk (decide ((w1_2 : Int) < ((w27_3 : Nat) : Int))) <|
 chk (((List.length (w27_5 : Rows)) : Nat) == w27_2) <|
 rowN [.a, .a, .a, .a, .a, .a, .a, .a, .a, .a, .a, .a, .a] w27_5 (0 + w1_2.toNat) fun c28 =>
 chk (((List.length (w27_4 : Rows)) : Nat) == w27_0) <|
 chk (((List.length ((List.set (w27_5 : Rows) (0 + w1_2.toNat) [c28.1, c28.2.1, c28.2.2.1, c28.2.2.2.1, c28.2.2.2.2.1, c28.2.2.2.2.2.1, c28.2.2.2.2.2.2.1, c28.2.2.2.2.2.2.2.1, .i .u64 0, c28.2.2.2.2.2.2.2.2.2.1, c28.2.2.2.2.2.2.2.2.2.2.1, c28.2.2.2.2.2.2.2.2.2.2.2.1, c28.2.2.2.2.2.2.2.2.2.2.2.2.1]) : Rows)) : Nat) == w27_2) <|
 k0 false false (List.take w27_1 (List.drop 0 (w27_4 : Rows))) false false (List.take w27_3 (List.drop 0 ((List.set (w27_5 : Rows) (0 + w1_2.toNat) [c28.1, c28.2.1, c28.2.2.1, c28.2.2.2.1, c28.2.2.2.2.1, c28.2.2.2.2.2.1, c28.2.2.2.2.2.2.1, c28.2.2.2.2.2.2.2.1, .i .u64 0, c28.2.2.2.2.2.2.2.2.2.1, c28.2.2.2.2.2.2.2.2.2.2.1, c28.2.2.2.2.2.2.2.2.2.2.2.1, c28.2.2.2.2.2.2.2.2.2.2.2.2.1]) : Rows))) 0 c21.2.2.2.2.2.2.2.2.1
 else chk (decide (0 ≤ (((w1_4 : Int).tmod 64) : Int))) <|
 chk (decide ((0 : Int) ≤ w1_2)) <|
 chk (decide ((w1_2 : Int) < ((w27_3 : Nat) : Int))) <|
 chk (((List.length (w27_5 : Rows)) : Nat) == w27_2) <|
 rowN [.a, .a, .a, .a, .a, .a, .a, .a, .a, .a, .a, .a, .a] w27_5 (0 + w1_2.toNat) fun c29 =>
 chk (((List.length (w27_4 : Rows)) : Nat) == w27_0) <|
 chk (((List.length ((List.set (w27_5 : Rows) (0 + w1_2.toNat) [c29.1, c29.2.1, c29.2.2.1, c29.2.2.2.1, c29.2.2.2.2.1, c29.2.2.2.2.2.1, c29.2.2.2.2.2.2.1, c29.2.2.2.2.2.2.2.1, .i .u64 (IntKind.wrap .u64 (BitVec.ofInt (IntKind.bits .u64) c21.2.2.2.2.2.2.2.2.1 ||| BitVec.ofInt (IntKind.bits .u64) (IntKind.wrap .u64 ((1 : Int) * 2 ^ (min ((w1_4 : Int).tmod 64).toNat (IntKind.bits .u64))))).toNat), c29.2.2.2.2.2.2.2.2.2.1, c29.2.2.2.2.2.2.2.2.2.2.1, c29.2.2.2.2.2.2.2.2.2.2.2.1, c29.2.2.2.2.2.2.2.2.2.2.2.2.1]) : Rows)) : Nat) == w27_2) <|
 k0 false false (List.take w27_1 (List.drop 0 (w27_4 : Rows))) false false (List.take w27_3 (List.drop 0 ((List.set (w27_5 : Rows) (0 + w1_2.toNat) [c29.1, c29.2.1, c29.2.2.1, c29.2.2.2.1, c29.2.2.2.2.1, c29.2.2.2.2.2.1, c29.2.2.2.2.2.2.1, c29.2.2.2.2.2.2.2.1, .i .u64 (IntKind.wrap .u64 (BitVec.ofInt (IntKind.bits .u64) c21.2.2.2.2.2.2.2.2.1 ||| BitVec.ofInt (IntKind.bits .u64) (IntKind.wrap .u64 ((1 : Int) * 2 ^ (min ((w1_4 : Int).tmod 64).toNat (IntKind.bits .u64))))).toNat), c29.2.2.2.2.2.2.2.2.2.1, c29.2.2.2.2.2.2.2.2.2.2.1, c29.2.2.2.2.2.2.2.2.2.2.2.1, c29.2.2.2.2.2.2.2.2.2.2.2.2.1]) : Rows))) 0 0)
 else G.Qo ρ a0 a1 a2 a3 a4 a5 a6 a7 a8 (bif ((a10 : Int) == 10) then
 none
 else chk (decide (0 ≤ (((w1_4 : Int).tmod 64) : Int))) <|
 none) (fun w31_0 w31_1 w31_2 =>
 bif ((a10 : Int) == 10) then
 chk (decide ((0 : Int) ≤ w1_2)) <|
 chk (decide ((w1_2 : Int) < ((w31_1 : Nat) : Int))) <|
 chk (((List.length (w31_2 : Rows)) : Nat) == w31_0) <|
 rowN [.a, .a, .a, .a, .a, .a, .a, .a, .a, .a, .a, .a, .a] w31_2 (0 + w1_2.toNat) fun c32 =>
 chk (((List.length ((List.set (w31_2 : Rows) (0 + w1_2.toNat) [c32.1, c32.2.1, c32.2.2.1, c32.2.2.2.1, c32.2.2.2.2.1, c32.2.2.2.2.2.1, c32.2.2.2.2.2.2.1, c32.2.2.2.2.2.2.2.1, .i .u64 0, c32.2.2.2.2.2.2.2.2.2.1, c32.2.2.2.2.2.2.2.2.2.2.1, c32.2.2.2.2.2.2.2.2.2.2.2.1, c32.2.2.2.2.2.2.2.2.2.2.2.2.1]) : Rows)) : Nat) == w31_0) <|
 k0 true true [] false false (List.take w31_1 (List.drop 0 ((List.set (w31_2 : Rows) (0 + w1_2.toNat) [c32.1, c32.2.1, c32.2.2.1, c32.2.2.2.1, c32.2.2.2.2.1, c32.2.2.2.2.2.1, c32.2.2.2.2.2.2.1, c32.2.2.2.2.2.2.2.1, .i .u64 0, c32.2.2.2.2.2.2.2.2.2.1, c32.2.2.2.2.2.2.2.2.2.2.1, c32.2.2.2.2.2.2.2.2.2.2.2.1, c32.2.2.2.2.2.2.2.2.2.2.2.2.1]) : Rows))) 0 c21.2.2.2.2.2.2.2.2.1
 else chk (decide (0 ≤ (((w1_4 : Int).tmod 64) : Int))) <|
 chk (decide ((0 : Int) ≤ w1_2)) <|
 chk (decide ((w1_2 : Int) < ((w31_1 : Nat) : Int))) <|
 chk (((List.length (w31_2 : Rows)) : Nat) == w31_0) <|
 rowN [.a, .a, .a, .a, .a, .a, .a, .a, .a, .a, .a, .a, .a] w31_2 (0 + w1_2.toNat) fun c33 =>
 chk (((List.length ((List.set (w31_2 : Rows) (0 + w1_2.toNat) [c33.1, c33.2.1, c33.2.2.1, c33.2.2.2.1, c33.2.2.2.2.1, c33.2.2.2.2.2.1, c33.2.2.2.2.2.2.1, c33.2.2.2.2.2.2.2.1, .i .u64 (IntKind.wrap .u64 (BitVec.ofInt (IntKind.bits .u64) c21.2.2.2.2.2.2.2.2.1 ||| BitVec.ofInt (IntKind.bits .u64) (IntKind.wrap .u64 ((1 : Int) * 2 ^ (min ((w1_4 : Int).tmod 64).toNat (IntKind.bits .u64))))).toNat), c33.2.2.2.2.2.2.2.2.2.1, c33.2.2.2.2.2.2.2.2.2.2.1, c33.2.2.2.2.2.2.2.2.2.2.2.1, c33.2.2.2.2.2.2.2.2.2.2.2.2.1]) : Rows)) : Nat) == w31_0) <|
 k0 true true [] false false (List.take w31_1 (List.drop 0 ((List.set (w31_2 : Rows) (0 + w1_2.toNat) [c33.1, c33.2.1, c33.2.2.1, c33.2.2.2.1, c33.2.2.2.2.1, c33.2.2.2.2.2.1, c33.2.2.2.2.2.2.1, c33.2.2.2.2.2.2.2.1, .i .u64 (IntKind.wrap .u64 (BitVec.ofInt (IntKind.bits .u64) c21.2.2.2.2.2.2.2.2.1 ||| BitVec.ofInt (IntKind.bits .u64) (IntKind.wrap .u64 ((1 : Int) * 2 ^ (min ((w1_4 : Int).tmod 64).toNat (IntKind.bits .u64))))).toNat), c33.2.2.2.2.2.2.2.2.2.1, c33.2.2.2.2.2.2.2.2.2.2.1, c33.2.2.2.2.2.2.2.2.2.2.2.1, c33.2.2.2.2.2.2.2.2.2.2.2.2.1]) : Rows))) 0 0) (fun _w34_0 _w34_1 _w34_2 =>
 bif ((a10 : Int) == 10) then
 none
 else chk (decide (0 ≤ (((w1_4 : Int).tmod 64) : Int))) <|
 none) (fun w35_0 w35_1 w35_2 w35_3 w35_4 w35_5 =>
 bif ((a10 : Int) == 10) then
 chk (decide ((0 : Int) ≤ w1_2)) <|
 chk (decide ((w1_2 : Int) < ((w35_3 : Nat) : Int))) <|
 chk (((List.length (w35_5 : Rows)) : Nat) == w35_2) <|
 rowN [.a, .a, .a, .a, .a, .a, .a, .a, .a, .a, .a, .a, .a] w35_5 (0 + w1_2.toNat) fun c36 =>
 chk (((List.length (w35_4 : Rows)) : Nat) == w35_0) <|
 chk (((List.length ((List.set (w35_5 : Rows) (0 + w1_2.toNat) [c36.1, c36.2.1, c36.2.2.1, c36.2.2.2.1, c36.2.2.2.2.1, c36.2.2.2.2.2.1, c36.2.2.2.2.2.2.1, c36.2.2.2.2.2.2.2.1, .i .u64 0, c36.2.2.2.2.2.2.2.2.2.1, c36.2.2.2.2.2.2.2.2.2.2.1, c36.2.2.2.2.2.2.2.2.2.2.2.1, c36.2.2.2.2.2.2.2.2.2.2.2.2.1]) : Rows)) : Nat) == w35_2) <|
 k0 false false (List.take w35_1 (List.drop 0 (w35_4 : Rows))) false false (List.take w35_3 (List.drop 0 ((List.set (w35_5 : Rows) (0 + w1_2.toNat) [c36.1, c36.2.1, c36.2.2.1, c36.2.2.2.1, c36.2.2.2.2.1, c36.2.2.2.2.2.1, c36.2.2.2.2.2.2.1, c36.2.2.2.2.2.2.2.1, .i .u64 0, c36.2.2.2.2.2.2.2.2.2.1, c36.2.2.2.2.2.2.2.2.2.2.1, c36.2.2.2.2.2.2.2.2.2.2.2.1, c36.2.2.2.2.2.2.2.2.2.2.2.2.1]) : Rows))) 0 c21.2.2.2.2.2.2.2.2.1
 else chk (decide (0 ≤ (((w1_4 : Int).tmod 64) : Int))) <|
 chk (decide ((0 : Int) ≤ w1_2)) <|
 chk (decide ((w1_2 : Int) < ((w35_3 : Nat) : Int))) <|
 chk (((List.length (w35_5 : Rows)) : Nat) == w35_2) <|
 rowN [.a, .a, .a, .a, .a, .a, .a, .a, .a, .a, .a, .a, .a] w35_5 (0 + w1_2.toNat) fun c37 =>
 chk (((List.length (w35_4 : Rows)) : Nat) == w35_0) <|
 chk (((List.length ((List.set (w35_5 : Rows) (0 + w1_2.toNat) [c37.1, c37.2.1, c37.2.2.1, c37.2.2.2.1, c37.2.2.2.2.1, c37.2.2.2.2.2.1, c37.2.2.2.2.2.2.1, c37.2.2.2.2.2.2.2.1, .i .u64 (IntKind.wrap .u64 (BitVec.ofInt (IntKind.bits .u64) c21.2.2.2.2.2.2.2.2.1 ||| BitVec.ofInt (IntKind.bits .u64) (IntKind.wrap .u64 ((1 : Int) * 2 ^ (min ((w1_4 : Int).tmod 64).toNat (IntKind.bits .u64))))).toNat), c37.2.2.2.2.2.2.2.2.2.1, c37.2.2.2.2.2.2.2.2.2.2.1, c37.2.2.2.2.2.2.2.2.2.2.2.1, c37.2.2.2.2.2.2.2.2.2.2.2.2.1]) : Rows)) : Nat) == w35_2) <|
 k0 false false (List.take w35_1 (List.drop 0 (w35_4 : Rows))) false false (List.take w35_3 (List.drop 0 ((List.set (w35_5 : Rows) (0 + w1_2.toNat) [c37.1, c37.2.1, c37.2.2.1, c37.2.2.2.1, c37.2.2.2.2.1, c37.2.2.2.2.2.1, c37.2.2.2.2.2.2.1, c37.2.2.2.2.2.2.2.1, .i .u64 (IntKind.wrap .u64 (BitVec.ofInt (IntKind.bits .u64) c21.2.2.2.2.2.2.2.2.1 ||| BitVec.ofInt (IntKind.bits .u64) (IntKind.wrap .u64 ((1 : Int) * 2 ^ (min ((w1_4 : Int).tmod 64).toNat (IntKind.bits .u64))))).toNat), c37.2.2.2.2.2.2.2.2.2.1, c37.2.2.2.2.2.2.2.2.2.2.1, c37.2.2.2.2.2.2.2.2.2.2.2.1, c37.2.2.2.2.2.2.2.2.2.2.2.2.1]) : Rows))) 0 0)
 else k0 a3 a4 a5 a6 a7 a8 6 0))
 else G.Qr ρ a0 a1 a2 a3 a4 a5 a6 a7 a8 a9 a11 a12 a13 (fun _w38_0 w38_1 w38_2 w38_3 w38_4 w38_5 =>
 bif ((a10 : Int) == 10) then
 bif ((w38_5 : Int) != 0) then
 k0 a3 a4 a5 a6 a7 a8 w38_5 0
 else bif ((w38_1 : Int) != 4) then
 k0 a3 a4 a5 a6 a7 a8 7 0
 else G.Qp ρ 1 w38_3 (fun w39_0 =>
 bif w39_0 then
 rowT [.i .i64, .i .i64, .i .i64, .i .i64, .i .i64, .i .i64, .i .i64, .b, .i .u64, .i .u64, .i .u64, .i .u64, .i .u64] a8 w38_2 fun c40 =>
 bif ((a10 : Int) == 10) then
 bif ((c40.2.2.2.2.2.2.2.2.1 : Int) == 0) then
 k0 a3 a4 a5 a6 a7 a8 14 0
 else G.Qo ρ a0 a1 a2 a3 a4 a5 a6 a7 a8 (bif ((a10 : Int) == 10) then
 none
 else chk (decide (0 ≤ (((w38_4 : Int).tmod 64) : Int))) <|
 none) (fun w42_0 w42_1 w42_2 =>
 bif ((a10 : Int) == 10) then
 chk (decide ((0 : Int) ≤ w38_2)) <|
 chk (decide ((w38_2 : Int) < ((w42_1 : Nat) : Int))) <|
 chk (((List.length (w42_2 : Rows)) : Nat) == w42_0) <|
 rowN [.a, .a, .a, .a, .a, .a, .a, .a, .a, .a, .a, .a, .a] w42_2 (0 + w38_2.toNat) fun c43 =>
 chk (((List.length ((List.set (w42_2 : Rows) (0 + w38_2.toNat) [c43.1, c43.2.1, c43.2.2.1, c43.2.2.2.1, c43.2.2.2.2.1, c43.2.2.2.2.2.1, c43.2.2.2.2.2.2.1, c43.2.2.2.2.2.2.2.1, .i .u64 0, c43.2.2.2.2.2.2.2.2.2.1, c43.2.2.2.2.2.2.2.2.2.2.1, c43.2.2.2.2.2.2.2.2.2.2.2.1, c43.2.2.2.2.2.2.2.2.2.2.2.2.1]) : Rows)) : Nat) == w42_0) <|
 k0 true true [] false false (List.take w42_1 (List.drop 0 ((List.set (w42_2 : Rows) (0 + w38_2.toNat) [c43.1, c43.2.1, c43.2.2.1, c43.2.2.2.1, c43.2.2.2.2.1, c43.2.2.2.2.2.1, c43.2.2.2.2.2.2.1, c43.2.2.2.2.2.2.2.1, .i .u64 0, c43.2.2.2.2.2.2.2.2.2.1, c43.2.2.2.2.2.2.2.2.2.2.1, c43.2.2.2.2.2.2.2.2.2.2.2.1, c43.2.2.2.2.2.2.2.2.2.2.2.2.1]) : Rows))) 0 c40.2.2.2.2.2.2.2.2.1
 else chk (decide (0 ≤ (((w38_4 : Int).tmod 64) : Int))) <|
 chk (decide ((0 : Int) ≤ w38_2)) <|
 chk (decide ((w38_2 : Int) < ((w42_1 : Nat) : Int))) <|
 chk (((List.length (w42_2 : Rows)) : Nat) == w42_0) <|
 rowN [.a, .a, .a, .a, .a, .a, .a, .a, .a, .a, .a, .a, .a] w42_2 (0 + w38_2.toNat) fun c44 =>
 chk (((List.length ((List.set (w42_2 : Rows) (0 + w38_2.toNat) [c44.1, c44.2.1, c44.2.2.1, c44.2.2.2.1, c44.2.2.2.2.1, c44.2.2.2.2.2.1, c44.2.2.2.2.2.2.1, c44.2.2.2.2.2.2.2.1, .i .u64 (IntKind.wrap .u64 (BitVec.ofInt (IntKind.bits .u64) c40.2.2.2.2.2.2.2.2.1 ||| BitVec.ofInt (IntKind.bits .u64) (IntKind.wrap .u64 ((1 : Int) * 2 ^ (min ((w38_4 : Int).tmod 64).toNat (IntKind.bits .u64))))).toNat), c44.2.2.2.2.2.2.2.2.2.1, c44.2.2.2.2.2.2.2.2.2.2.1, c44.2.2.2.2.2.2.2.2.2.2.2.1, c44.2.2.2.2.2.2.2.2.2.2.2.2.1]) : Rows)) : Nat) == w42_0) <|
 k0 true true [] false false (List.take w42_1 (List.drop 0 ((List.set (w42_2 : Rows) (0 + w38_2.toNat) [c44.1, c44.2.1, c44.2.2.1, c44.2.2.2.1, c44.2.2.2.2.1, c44.2.2.2.2.2.1, c44.2.2.2.2.2.2.1, c44.2.2.2.2.2.2.2.1, .i .u64 (IntKind.wrap .u64 (BitVec.ofInt (IntKind.bits .u64) c40.2.2.2.2.2.2.2.2.1 ||| BitVec.ofInt (IntKind.bits .u64) (IntKind.wrap .u64 ((1 : Int) * 2 ^ (min ((w38_4 : Int).tmod 64).toNat (IntKind.bits .u64))))).toNat), c44.2.2.2.2.2.2.2.2.2.1, c44.2.2.2.2.2.2.2.2.2.2.1, c44.2.2.2.2.2.2.2.2.2.2.2.1, c44.2.2.2.2.2.2.2.2.2.2.2.2.1]) : Rows))) 0 0) (fun _w45_0 _w45_1 _w45_2 =>
 bif ((a10 : Int) == 10) then
 none
 else chk (decide (0 ≤ (((w38_4 : Int).tmod 64) : Int))) <|
 none) (fun w46_0 w46_1 w46_2 w46_3 w46_4 w46_5 =>
 bif ((a10 : Int) == 10) then
 chk (decide ((0 : Int) ≤ w38_2)) <|
 chk (decide ((w38_2 : Int) < ((w46_3 : Nat) : Int))) <|
 chk (((List.length (w46_5 : Rows)) : Nat) == w46_2) <|
 rowN [.a, .a, .a, .a, .a, .a, .a, .a, .a, .a, .a, .a, .a] w46_5 (0 + w38_2.toNat) fun c47 =>
 chk (((List.length (w46_4 : Rows)) : Nat) == w46_0) <|
 chk (((List.length ((List.set (w46_5 : Rows) (0 + w38_2.toNat) [c47.1, c47.2.1, c47.2.2.1, c47.2.2.2.1, c47.2.2.2.2.1, c47.2.2.2.2.2.1, c47.2.2.2.2.2.2.1, c47.2.2.2.2.2.2.2.1, .i .u64 0, c47.2.2.2.2.2.2.2.2.2.1, c47.2.2.2.2.2.2.2.2.2.2.1, c47.2.2.2.2.2.2.2.2.2.2.2.1, c47.2.2.2.2.2.2.2.2.2.2.2.2.1]) : Rows)) : Nat) == w46_2) <|
 k0 false false (List.take w46_1 (List.drop 0 (w46_4 : Rows))) false false (List.take w46_3 (List.drop 0 ((List.set (w46_5 : Rows) (0 + w38_2.toNat) [c47.1, c47.2.1, c47.2.2.1, c47.2.2.2.1, c47.2.2.2.2.1, c47.2.2.2.2.2.1, c47.2.2.2.2.2.2.1, c47.2.2.2.2.2.2.2.1, .i .u64 0, c47.2.2.2.2.2.2.2.2.2.1, c47.2.2.2.2.2.2.2.2.2.2.1, c47.2.2.2.2.2.2.2.2.2.2.2.1, c47.2.2.2.2.2.2.2.2.2.2.2.2.1]) : Rows))) 0 c40.2.2.2.2.2.2.2.2.1
 else chk (decide (0 ≤ (((w38_4 : Int).tmod 64) : Int))) <|
 chk (decide ((0 : Int) ≤ w38_2)) <|
 chk (decide ((w38_2 : Int) < ((w46_3 : Nat) : Int))) <|
 chk (((List.length (w46_5 : Rows)) : Nat) == w46_2) <|
 rowN [.a, .a, .a, .a, .a, .a, .a, .a, .a, .a, .a, .a, .a] w46_5 (0 + w38_2.toNat) fun c48 =>
 chk (((List.length (w46_4 : Rows)) : Nat) == w46_0) <|
 chk (((List.length ((List.set (w46_5 : Rows) (0 + w38_2.toNat) [c48.1, c48.2.1, c48.2.2.1, c48.2.2.2.1, c48.2.2.2.2.1, c48.2.2.2.2.2.1, c48.2.2.2.2.2.2.1, c48.2.2.2.2.2.2.2.1, .i .u64 (IntKind.wrap .u64 (BitVec.ofInt (IntKind.bits .u64) c40.2.2.2.2.2.2.2.2.1 ||| BitVec.ofInt (IntKind.bits .u64) (IntKind.wrap .u64 ((1 : Int) * 2 ^ (min ((w38_4 : Int).tmod 64).toNat (IntKind.bits .u64))))).toNat), c48.2.2.2.2.2.2.2.2.2.1, c48.2.2.2.2.2.2.2.2.2.2.1, c48.2.2.2.2.2.2.2.2.2.2.2.1, c48.2.2.2.2.2.2.2.2.2.2.2.2.1]) : Rows)) : Nat) == w46_2) <|
 k0 false false (List.take w46_1 (List.drop 0 (w46_4 : Rows))) false false (List.take w46_3 (List.drop 0 ((List.set (w46_5 : Rows) (0 + w38_2.toNat) [c48.1, c48.2.1, c48.2.2.1, c48.2.2.2.1, c48.2.2.2.2.1, c48.2.2.2.2.2.1, c48.2.2.2.2.2.2.1, c48.2.2.2.2.2.2.2.1, .i .u64 (IntKind.wrap .u64 (BitVec.ofInt (IntKind.bits .u64) c40.2.2.2.2.2.2.2.2.1 ||| BitVec.ofInt (IntKind.bits .u64) (IntKind.wrap .u64 ((1 : Int) * 2 ^ (min ((w38_4 : Int).tmod 64).toNat (IntKind.bits .u64))))).toNat), c48.2.2.2.2.2.2.2.2.2.1, c48.2.2.2.2.2.2.2.2.2.2.1, c48.2.2.2.2.2.2.2.2.2.2.2.1, c48.2.2.2.2.2.2.2.2.2.2.2.2.1]) : Rows))) 0 0)
 else G.Qo ρ a0 a1 a2 a3 a4 a5 a6 a7 a8 (bif ((a10 : Int) == 10) then
 none
 else chk (decide (0 ≤ (((w38_4 : Int).tmod 64) : Int))) <|
 none) (fun w50_0 w50_1 w50_2 =>
 bif ((a10 : Int) == 10) then
 chk (decide ((0 : Int) ≤ w38_2)) <|
 chk (decide ((w38_2 : Int) < ((w50_1 : Nat) : Int))) <|
 chk (((List.length (w50_2 : Rows)) : Nat) == w50_0) <|
 rowN [.a, .a, .a, .a, .a, .a, .a, .a, .a, .a, .a, .a, .a] w50_2 (0 + w38_2.toNat) fun c51 =>
 chk (((List.length ((List.set (w50_2 : Rows) (0 + w38_2.toNat) [c51.1, c51.2.1, c51.2.2.1, c51.2.2.2.1, c51.2.2.2.2.1, c51.2.2.2.2.2.1, c51.2.2.2.2.2.2.1, c51.2.2.2.2.2.2.2.1, .i .u64 0, c51.2.2.2.2.2.2.2.2.2.1, c51.2.2.2.2.2.2.2.2.2.2.1, c51.2.2.2.2.2.2.2.2.2.2.2.1, c51.2.2.2.2.2.2.2.2.2.2.2.2.1]) : Rows)) : Nat) == w50_0) <|
 k0 true true [] false false (List.take w50_1 (List.drop 0 ((List.set (w50_2 : Rows) (0 + w38_2.toNat) [c51.1, c51.2.1, c51.2.2.1, c51.2.2.2.1, c51.2.2.2.2.1, c51.2.2.2.2.2.1, c51.2.2.2.2.2.2.1, c51.2.2.2.2.2.2.2.1, .i .u64 0, c51.2.2.2.2.2.2.2.2.2.1, c51.2.2.2.2.2.2.2.2.2.2.1, c51.2.2.2.2.2.2.2.2.2.2.2.1, c51.2.2.2.2.2.2.2.2.2.2.2.2.1]) : Rows))) 0 c40.2.2.2.2.2.2.2.2.1
 else chk (decide (0 ≤ (((w38_4 : Int).tmod 64) : Int))) <|
 chk (decide ((0 : Int) ≤ w38_2)) <|
 chk (decide ((w38_2 : Int) < ((w50_1 : Nat) : Int))) <|
 chk (((List.length (w50_2 : Rows)) : Nat) == w50_0) <|
 rowN [.a, .a, .a, .a, .a, .a, .a, .a, .a, .a, .a, .a, .a] w50_2 (0 + w38_2.toNat) fun c52 =>
 chk (((List.length ((List.set (w50_2 : Rows) (0 + w38_2.toNat) [c52.1, c52.2.1, c52.2.2.1, c52.2.2.2.1, c52.2.2.2.2.1, c52.2.2.2.2.2.1, c52.2.2.2.2.2.2.1, c52.2.2.2.2.2.2.2.1, .i .u64 (IntKind.wrap .u64 (BitVec.ofInt (IntKind.bits .u64) c40.2.2.2.2.2.2.2.2.1 ||| BitVec.ofInt (IntKind.bits .u64) (IntKind.wrap .u64 ((1 : Int) * 2 ^ (min ((w38_4 : Int).tmod 64).toNat (IntKind.bits .u64))))).toNat), c52.2.2.2.2.2.2.2.2.2.1, c52.2.2.2.2.2.2.2.2.2.2.1, c52.2.2.2.2.2.2.2.2.2.2.2.1, c52.2.2.2.2.2.2.2.2.2.2.2.2.1]) : Rows)) : Nat) == w50_0) <|
 k0 true true [] false false (List.take w50_1 (List.drop 0 ((List.set (w50_2 : Rows) (0 + w38_2.toNat) [c52.1, c52.2.1, c52.2.2.1, c52.2.2.2.1, c52.2.2.2.2.1, c52.2.2.2.2.2.1, c52.2.2.2.2.2.2.1, c52.2.2.2.2.2.2.2.1, .i .u64 (IntKind.wrap .u64 (BitVec.ofInt (IntKind.bits .u64) c40.2.2.2.2.2.2.2.2.1 ||| BitVec.ofInt (IntKind.bits .u64) (IntKind.wrap .u64 ((1 : Int) * 2 ^ (min ((w38_4 : Int).tmod 64).toNat (IntKind.bits .u64))))).toNat), c52.2.2.2.2.2.2.2.2.2.1, c52.2.2.2.2.2.2.2.2.2.2.1, c52.2.2.2.2.2.2.2.2.2.2.2.1, c52.2.2.2.2.2.2.2.2.2.2.2.2.1]) : Rows))) 0 0) (fun _w53_0 _w53_1 _w53_2 =>
 bif ((a10 : Int) == 10) then
 none
 else chk (decide (0 ≤ (((w38_4 : Int).tmod 64) : Int))) <|
 none) (fun w54_0 w54_1 w54_2 w54_3 w54_4 w54_5 =>
 bif ((a10 : Int) == 10) then
 chk (decide ((0 : Int) ≤ w38_2)) <|
 chk (decide ((w38_2 : Int) < ((w54_3 : Nat) : Int))) <|
 chk (((List.length (w54_5 : Rows)) : Nat) == w54_2) <|
 rowN [.a, .a, .a, .a, .a, .a, .a, .a, .a, .a, .a, .a, .a] w54_5 (0 + w38_2.toNat) fun c55 =>
 chk (((List.length (w54_4 : Rows)) : Nat) == w54_0) <|
 chk (((List.length ((List.set (w54_5 : Rows) (0 + w38_2.toNat) [c55.1, c55.2.1, c55.2.2.1, c55.2.2.2.1, c55.2.2.2.2.1, c55.2.2.2.2.2.1, c55.2.2.2.2.2.2.1, c55.2.2.2.2.2.2.2.1, .i .u64 0, c55.2.2.2.2.2.2.2.2.2.1, c55.2.2.2.2.2.2.2.2.2.2.1, c55.2.2.2.2.2.2.2.2.2.2.2.1, c55.2.2.2.2.2.2.2.2.2.2.2.2.1]) : Rows)) : Nat) == w54_2) <|
 k0 false false (List.take w54_1 (List.drop 0 (w54_4 : Rows))) false false (List.take w54_3 (List.drop 0 ((List.set (w54_5 : Rows) (0 + w38_2.toNat) [c55.1, c55.2.1, c55.2.2.1, c55.2.2.2.1, c55.2.2.2.2.1, c55.2.2.2.2.2.1, c55.2.2.2.2.2.2.1, c55.2.2.2.2.2.2.2.1, .i .u64 0, c55.2.2.2.2.2.2.2.2.2.1, c55.2.2.2.2.2.2.2.2.2.2.1, c55.2.2.2.2.2.2.2.2.2.2.2.1, c55.2.2.2.2.2.2.2.2.2.2.2.2.1]) : Rows))) 0 c40.2.2.2.2.2.2.2.2.1
 else chk (decide (0 ≤ (((w38_4 : Int).tmod 64) : Int))) <|
 chk (decide ((0 : Int) ≤ w38_2)) <|
 chk (decide ((w38_2 : Int) < ((w54_3 : Nat) : Int))) <|
 chk (((List.length (w54_5 : Rows)) : Nat) == w54_2) <|
 rowN [.a, .a, .a, .a, .a, .a, .a, .a, .a, .a, .a, .a, .a] w54_5 (0 + w38_2.toNat) fun c56 =>
 chk (((List.length (w54_4 : Rows)) : Nat) == w54_0) <|
 chk (((List.length ((List.set (w54_5 : Rows) (0 + w38_2.toNat) [c56.1, c56.2.1, c56.2.2.1, c56.2.2.2.1, c56.2.2.2.2.1, c56.2.2.2.2.2.1, c56.2.2.2.2.2.2.1, c56.2.2.2.2.2.2.2.1, .i .u64 (IntKind.wrap .u64 (BitVec.ofInt (IntKind.bits .u64) c40.2.2.2.2.2.2.2.2.1 ||| BitVec.ofInt (IntKind.bits .u64) (IntKind.wrap .u64 ((1 : Int) * 2 ^ (min ((w38_4 : Int).tmod 64).toNat (IntKind.bits .u64))))).toNat), c56.2.2.2.2.2.2.2.2.2.1, c56.2.2.2.2.2.2.2.2.2.2.1, c56.2.2.2.2.2.2.2.2.2.2.2.1, c56.2.2.2.2.2.2.2.2.2.2.2.2.1]) : Rows)) : Nat) == w54_2) <|
 k0 false false (List.take w54_1 (List.drop 0 (w54_4 : Rows))) false false (List.take w54_3 (List.drop 0 ((List.set (w54_5 : Rows) (0 + w38_2.toNat) [c56.1, c56.2.1, c56.2.2.1, c56.2.2.2.1, c56.2.2.2.2.1, c56.2.2.2.2.2.1, c56.2.2.2.2.2.2.1, c56.2.2.2.2.2.2.2.1, .i .u64 (IntKind.wrap .u64 (BitVec.ofInt (IntKind.bits .u64) c40.2.2.2.2.2.2.2.2.1 ||| BitVec.ofInt (IntKind.bits .u64) (IntKind.wrap .u64 ((1 : Int) * 2 ^ (min ((w38_4 : Int).tmod 64).toNat (IntKind.bits .u64))))).toNat), c56.2.2.2.2.2.2.2.2.2.1, c56.2.2.2.2.2.2.2.2.2.2.1, c56.2.2.2.2.2.2.2.2.2.2.2.1, c56.2.2.2.2.2.2.2.2.2.2.2.2.1]) : Rows))) 0 0)
 else k0 a3 a4 a5 a6 a7 a8 6 0)
 else bif ((w38_5 : Int) != 0) then
 k0 a3 a4 a5 a6 a7 a8 w38_5 0
 else bif ((w38_1 : Int) != 4) then
 k0 a3 a4 a5 a6 a7 a8 7 0
 else G.Qp ρ 2 w38_3 (fun w57_0 =>
 bif w57_0 then
 rowT [.i .i64, .i .i64, .i .i64, .i .i64, .i .i64, .i .i64, .i .i64, .b, .i .u64, .i .u64, .i .u64, .i .u64, .i .u64] a8 w38_2 fun c58 =>
 bif ((a10 : Int) == 10) then
 bif ((c58.2.2.2.2.2.2.2.2.1 : Int) == 0) then
 k0 a3 a4 a5 a6 a7 a8 14 0
 else G.Qo ρ a0 a1 a2 a3 a4 a5 a6 a7 a8 (bif ((a10 : Int) == 10) then
 none
 else chk (decide (0 ≤ (((w38_4 : Int).tmod 64) : Int))) <|
 none) (fun w60_0 w60_1 w60_2 =>
 bif ((a10 : Int) == 10) then
 chk (decide ((0 : Int) ≤ w38_2)) <|
 chk (decide ((w38_2 : Int) < ((w60_1 : Nat) : Int))) <|
 chk (((List.length (w60_2 : Rows)) : Nat) == w60_0) <|
 rowN [.a, .a, .a, .a, .a, .a, .a, .a, .a, .a, .a, .a, .a] w60_2 (0 + w38_2.toNat) fun c61 =>
 chk (((List.length ((List.set (w60_2 : Rows) (0 + w38_2.toNat) [c61.1, c61.2.1, c61.2.2.1, c61.2.2.2.1, c61.2.2.2.2.1, c61.2.2.2.2.2.1, c61.2.2.2.2.2.2.1, c61.2.2.2.2.2.2.2.1, .i .u64 0, c61.2.2.2.2.2.2.2.2.2.1, c61.2.2.2.2.2.2.2.2.2.2.1, c61.2.2.2.2.2.2.2.2.2.2.2.1, c61.2.2.2.2.2.2.2.2.2.2.2.2.1]) : Rows)) : Nat) == w60_0) <|
 k0 true true [] false false (List.take w60_1 (List.drop 0 ((List.set (w60_2 : Rows) (0 + w38_2.toNat) [c61.1, c61.2.1, c61.2.2.1, c61.2.2.2.1, c61.2.2.2.2.1, c61.2.2.2.2.2.1, c61.2.2.2.2.2.2.1, c61.2.2.2.2.2.2.2.1, .i .u64 0, c61.2.2.2.2.2.2.2.2.2.1, c61.2.2.2.2.2.2.2.2.2.2.1, c61.2.2.2.2.2.2.2.2.2.2.2.1, c61.2.2.2.2.2.2.2.2.2.2.2.2.1]) : Rows))) 0 c58.2.2.2.2.2.2.2.2.1
 else chk (decide (0 ≤ (((w38_4 : Int).tmod 64) : Int))) <|
 chk (decide ((0 : Int) ≤ w38_2)) <|
 chk (decide ((w38_2 : Int) < ((w60_1 : Nat) : Int))) <|
 chk (((List.length (w60_2 : Rows)) : Nat) == w60_0) <|
 rowN [.a, .a, .a, .a, .a, .a, .a, .a, .a, .a, .a, .a, .a] w60_2 (0 + w38_2.toNat) fun c62 =>
 chk (((List.length ((List.set (w60_2 : Rows) (0 + w38_2.toNat) [c62.1, c62.2.1, c62.2.2.1, c62.2.2.2.1, c62.2.2.2.2.1, c62.2.2.2.2.2.1, c62.2.2.2.2.2.2.1, c62.2.2.2.2.2.2.2.1, .i .u64 (IntKind.wrap .u64 (BitVec.ofInt (IntKind.bits .u64) c58.2.2.2.2.2.2.2.2.1 ||| BitVec.ofInt (IntKind.bits .u64) (IntKind.wrap .u64 ((1 : Int) * 2 ^ (min ((w38_4 : Int).tmod 64).toNat (IntKind.bits .u64))))).toNat), c62.2.2.2.2.2.2.2.2.2.1, c62.2.2.2.2.2.2.2.2.2.2.1, c62.2.2.2.2.2.2.2.2.2.2.2.1, c62.2.2.2.2.2.2.2.2.2.2.2.2.1]) : Rows)) : Nat) == w60_0) <|
 k0 true true [] false false (List.take w60_1 (List.drop 0 ((List.set (w60_2 : Rows) (0 + w38_2.toNat) [c62.1, c62.2.1, c62.2.2.1, c62.2.2.2.1, c62.2.2.2.2.1, c62.2.2.2.2.2.1, c62.2.2.2.2.2.2.1, c62.2.2.2.2.2.2.2.1, .i .u64 (IntKind.wrap .u64 (BitVec.ofInt (IntKind.bits .u64) c58.2.2.2.2.2.2.2.2.1 ||| BitVec.ofInt (IntKind.bits .u64) (IntKind.wrap .u64 ((1 : Int) * 2 ^ (min ((w38_4 : Int).tmod 64).toNat (IntKind.bits .u64))))).toNat), c62.2.2.2.2.2.2.2.2.2.1, c62.2.2.2.2.2.2.2.2.2.2.1, c62.2.2.2.2.2.2.2.2.2.2.2.1, c62.2.2.2.2.2.2.2.2.2.2.2.2.1]) : Rows))) 0 0) (fun _w63_0 _w63_1 _w63_2 =>
 bif ((a10 : Int) == 10) then
 none
 else chk (decide (0 ≤ (((w38_4 : Int).tmod 64) : Int))) <|
 none) (fun w64_0 w64_1 w64_2 w64_3 w64_4 w64_5 =>
 bif ((a10 : Int) == 10) then
 chk (decide ((0 : Int) ≤ w38_2)) <|
 chk (decide ((w38_2 : Int) < ((w64_3 : Nat) : Int))) <|
 chk (((List.length (w64_5 : Rows)) : Nat) == w64_2) <|
 rowN [.a, .a, .a, .a, .a, .a, .a, .a, .a, .a, .a, .a, .a] w64_5 (0 + w38_2.toNat) fun c65 =>
 chk (((List.length (w64_4 : Rows)) : Nat) == w64_0) <|
 chk (((List.length ((List.set (w64_5 : Rows) (0 + w38_2.toNat) [c65.1, c65.2.1, c65.2.2.1, c65.2.2.2.1, c65.2.2.2.2.1, c65.2.2.2.2.2.1, c65.2.2.2.2.2.2.1, c65.2.2.2.2.2.2.2.1, .i .u64 0, c65.2.2.2.2.2.2.2.2.2.1, c65.2.2.2.2.2.2.2.2.2.2.1, c65.2.2.2.2.2.2.2.2.2.2.2.1, c65.2.2.2.2.2.2.2.2.2.2.2.2.1]) : Rows)) : Nat) == w64_2) <|
 k0 false false (List.take w64_1 (List.drop 0 (w64_4 : Rows))) false false (List.take w64_3 (List.drop 0 ((List.set (w64_5 : Rows) (0 + w38_2.toNat) [c65.1, c65.2.1, c65.2.2.1, c65.2.2.2.1, c65.2.2.2.2.1, c65.2.2.2.2.2.1, c65.2.2.2.2.2.2.1, c65.2.2.2.2.2.2.2.1, .i .u64 0, c65.2.2.2.2.2.2.2.2.2.1, c65.2.2.2.2.2.2.2.2.2.2.1, c65.2.2.2.2.2.2.2.2.2.2.2.1, c65.2.2.2.2.2.2.2.2.2.2.2.2.1]) : Rows))) 0 c58.2.2.2.2.2.2.2.2.1
 else chk (decide (0 ≤ (((w38_4 : Int).tmod 64) : Int))) <|
 chk (decide ((0 : Int) ≤ w38_2)) <|
 chk (decide ((w38_2 : Int) < ((w64_3 : Nat) : Int))) <|
 chk (((List.length (w64_5 : Rows)) : Nat) == w64_2) <|
 rowN [.a, .a, .a, .a, .a, .a, .a, .a, .a, .a, .a, .a, .a] w64_5 (0 + w38_2.toNat) fun c66 =>
 chk (((List.length (w64_4 : Rows)) : Nat) == w64_0) <|
 chk (((List.length ((List.set (w64_5 : Rows) (0 + w38_2.toNat) [c66.1, c66.2.1, c66.2.2.1, c66.2.2.2.1, c66.2.2.2.2.1, c66.2.2.2.2.2.1, c66.2.2.2.2.2.2.1, c66.2.2.2.2.2.2.2.1, .i .u64 (IntKind.wrap .u64 (BitVec.ofInt (IntKind.bits .u64) c58.2.2.2.2.2.2.2.2.1 ||| BitVec.ofInt (IntKind.bits .u64) (IntKind.wrap .u64 ((1 : Int) * 2 ^ (min ((w38_4 : Int).tmod 64).toNat (IntKind.bits .u64))))).toNat), c66.2.2.2.2.2.2.2.2.2.1, c66.2.2.2.2.2.2.2.2.2.2.1, c66.2.2.2.2.2.2.2.2.2.2.2.1, c66.2.2.2.2.2.2.2.2.2.2.2.2.1]) : Rows)) : Nat) == w64_2) <|
 k0 false false (List.take w64_1 (List.drop 0 (w64_4 : Rows))) false false (List.take w64_3 (List.drop 0 ((List.set (w64_5 : Rows) (0 + w38_2.toNat) [c66.1, c66.2.1, c66.2.2.1, c66.2.2.2.1, c66.2.2.2.2.1, c66.2.2.2.2.2.1, c66.2.2.2.2.2.2.1, c66.2.2.2.2.2.2.2.1, .i .u64 (IntKind.wrap .u64 (BitVec.ofInt (IntKind.bits .u64) c58.2.2.2.2.2.2.2.2.1 ||| BitVec.ofInt (IntKind.bits .u64) (IntKind.wrap .u64 ((1 : Int) * 2 ^ (min ((w38_4 : Int).tmod 64).toNat (IntKind.bits .u64))))).toNat), c66.2.2.2.2.2.2.2.2.2.1, c66.2.2.2.2.2.2.2.2.2.2.1, c66.2.2.2.2.2.2.2.2.2.2.2.1, c66.2.2.2.2.2.2.2.2.2.2.2.2.1]) : Rows))) 0 0)
 else G.Qo ρ a0 a1 a2 a3 a4 a5 a6 a7 a8 (bif ((a10 : Int) == 10) then
 none
 else chk (decide (0 ≤ (((w38_4 : Int).tmod 64) : Int))) <|
 none) (fun w68_0 w68_1 w68_2 =>
 bif ((a10 : Int) == 10) then
 chk (decide ((0 : Int) ≤ w38_2)) <|
 chk (decide ((w38_2 : Int) < ((w68_1 : Nat) : Int))) <|
 chk (((List.length (w68_2 : Rows)) : Nat) == w68_0) <|
 rowN [.a, .a, .a, .a, .a, .a, .a, .a, .a, .a, .a, .a, .a] w68_2 (0 + w38_2.toNat) fun c69 =>
 chk (((List.length ((List.set (w68_2 : Rows) (0 + w38_2.toNat) [c69.1, c69.2.1, c69.2.2.1, c69.2.2.2.1, c69.2.2.2.2.1, c69.2.2.2.2.2.1, c69.2.2.2.2.2.2.1, c69.2.2.2.2.2.2.2.1, .i .u64 0, c69.2.2.2.2.2.2.2.2.2.1, c69.2.2.2.2.2.2.2.2.2.2.1, c69.2.2.2.2.2.2.2.2.2.2.2.1, c69.2.2.2.2.2.2.2.2.2.2.2.2.1]) : Rows)) : Nat) == w68_0) <|
 k0 true true [] false false (List.take w68_1 (List.drop 0 ((List.set (w68_2 : Rows) (0 + w38_2.toNat) [c69.1, c69.2.1, c69.2.2.1, c69.2.2.2.1, c69.2.2.2.2.1, c69.2.2.2.2.2.1, c69.2.2.2.2.2.2.1, c69.2.2.2.2.2.2.2.1, .i .u64 0, c69.2.2.2.2.2.2.2.2.2.1, c69.2.2.2.2.2.2.2.2.2.2.1, c69.2.2.2.2.2.2.2.2.2.2.2.1, c69.2.2.2.2.2.2.2.2.2.2.2.2.1]) : Rows))) 0 c58.2.2.2.2.2.2.2.2.1
 else chk (decide (0 ≤ (((w38_4 : Int).tmod 64) : Int))) <|
 chk (decide ((0 : Int) ≤ w38_2)) <|
 chk (decide ((w38_2 : Int) < ((w68_1 : Nat) : Int))) <|
 chk (((List.length (w68_2 : Rows)) : Nat) == w68_0) <|
 rowN [.a, .a, .a, .a, .a, .a, .a, .a, .a, .a, .a, .a, .a] w68_2 (0 + w38_2.toNat) fun c70 =>
 chk (((List.length ((List.set (w68_2 : Rows) (0 + w38_2.toNat) [c70.1, c70.2.1, c70.2.2.1, c70.2.2.2.1, c70.2.2.2.2.1, c70.2.2.2.2.2.1, c70.2.2.2.2.2.2.1, c70.2.2.2.2.2.2.2.1, .i .u64 (IntKind.wrap .u64 (BitVec.ofInt (IntKind.bits .u64) c58.2.2.2.2.2.2.2.2.1 ||| BitVec.ofInt (IntKind.bits .u64) (IntKind.wrap .u64 ((1 : Int) * 2 ^ (min ((w38_4 : Int).tmod 64).toNat (IntKind.bits .u64))))).toNat), c70.2.2.2.2.2.2.2.2.2.1, c70.2.2.2.2.2.2.2.2.2.2.1, c70.2.2.2.2.2.2.2.2.2.2.2.1, c70.2.2.2.2.2.2.2.2.2.2.2.2.1]) : Rows)) : Nat) == w68_0) <|
 k0 true true [] false false (List.take w68_1 (List.drop 0 ((List.set (w68_2 : Rows) (0 + w38_2.toNat) [c70.1, c70.2.1, c70.2.2.1, c70.2.2.2.1, c70.2.2.2.2.1, c70.2.2.2.2.2.1, c70.2.2.2.2.2.2.1, c70.2.2.2.2.2.2.2.1, .i .u64 (IntKind.wrap .u64 (BitVec.ofInt (IntKind.bits .u64) c58.2.2.2.2.2.2.2.2.1 ||| BitVec.ofInt (IntKind.bits .u64) (IntKind.wrap .u64 ((1 : Int) * 2 ^ (min ((w38_4 : Int).tmod 64).toNat (IntKind.bits .u64))))).toNat), c70.2.2.2.2.2.2.2.2.2.1, c70.2.2.2.2.2.2.2.2.2.2.1, c70.2.2.2.2.2.2.2.2.2.2.2.1, c70.2.2.2.2.2.2.2.2.2.2.2.2.1]) : Rows))) 0 0) (fun _w71_0 _w71_1 _w71_2 =>
 bif ((a10 : Int) == 10) then
 none
 else chk (decide (0 ≤ (((w38_4 : Int).tmod 64) : Int))) <|
 none) (fun w72_0 w72_1 w72_2 w72_3 w72_4 w72_5 =>
 bif ((a10 : Int) == 10) then
 chk (decide ((0 : Int) ≤ w38_2)) <|
 chk (decide ((w38_2 : Int) < ((w72_3 : Nat) : Int))) <|
 chk (((List.length (w72_5 : Rows)) : Nat) == w72_2) <|
 rowN [.a, .a, .a, .a, .a, .a, .a, .a, .a, .a, .a, .a, .a] w72_5 (0 + w38_2.toNat) fun c73 =>
 chk (((List.length (w72_4 : Rows)) : Nat) == w72_0) <|
 chk (((List.length ((List.set (w72_5 : Rows) (0 + w38_2.toNat) [c73.1, c73.2.1, c73.2.2.1, c73.2.2.2.1, c73.2.2.2.2.1, c73.2.2.2.2.2.1, c73.2.2.2.2.2.2.1, c73.2.2.2.2.2.2.2.1, .i .u64 0, c73.2.2.2.2.2.2.2.2.2.1, c73.2.2.2.2.2.2.2.2.2.2.1, c73.2.2.2.2.2.2.2.2.2.2.2.1, c73.2.2.2.2.2.2.2.2.2.2.2.2.1]) : Rows)) : Nat) == w72_2) <|
 k0 false false (List.take w72_1 (List.drop 0 (w72_4 : Rows))) false false (List.take w72_3 (List.drop 0 ((List.set (w72_5 : Rows) (0 + w38_2.toNat) [c73.1, c73.2.1, c73.2.2.1, c73.2.2.2.1, c73.2.2.2.2.1, c73.2.2.2.2.2.1, c73.2.2.2.2.2.2.1, c73.2.2.2.2.2.2.2.1, .i .u64 0, c73.2.2.2.2.2.2.2.2.2.1, c73.2.2.2.2.2.2.2.2.2.2.1, c73.2.2.2.2.2.2.2.2.2.2.2.1, c73.2.2.2.2.2.2.2.2.2.2.2.2.1]) : Rows))) 0 c58.2.2.2.2.2.2.2.2.1
 else chk (decide (0 ≤ (((w38_4 : Int).tmod 64) : Int))) <|
 chk (decide ((0 : Int) ≤ w38_2)) <|
 chk (decide ((w38_2 : Int) < ((w72_3 : Nat) : Int))) <|
 chk (((List.length (w72_5 : Rows)) : Nat) == w72_2) <|
 rowN [.a, .a, .a, .a, .a, .a, .a, .a, .a, .a, .a, .a, .a] w72_5 (0 + w38_2.toNat) fun c74 =>
 chk (((List.length (w72_4 : Rows)) : Nat) == w72_0) <|
 chk (((List.length ((List.set (w72_5 : Rows) (0 + w38_2.toNat) [c74.1, c74.2.1, c74.2.2.1, c74.2.2.2.1, c74.2.2.2.2.1, c74.2.2.2.2.2.1, c74.2.2.2.2.2.2.1, c74.2.2.2.2.2.2.2.1, .i .u64 (IntKind.wrap .u64 (BitVec.ofInt (IntKind.bits .u64) c58.2.2.2.2.2.2.2.2.1 ||| BitVec.ofInt (IntKind.bits .u64) (IntKind.wrap .u64 ((1 : Int) * 2 ^ (min ((w38_4 : Int).tmod 64).toNat (IntKind.bits .u64))))).toNat), c74.2.2.2.2.2.2.2.2.2.1, c74.2.2.2.2.2.2.2.2.2.2.1, c74.2.2.2.2.2.2.2.2.2.2.2.1, c74.2.2.2.2.2.2.2.2.2.2.2.2.1]) : Rows)) : Nat) == w72_2) <|
 k0 false false (List.take w72_1 (List.drop 0 (w72_4 : Rows))) false false (List.take w72_3 (List.drop 0 ((List.set (w72_5 : Rows) (0 + w38_2.toNat) [c74.1, c74.2.1, c74.2.2.1, c74.2.2.2.1, c74.2.2.2.2.1, c74.2.2.2.2.2.1, c74.2.2.2.2.2.2.1, c74.2.2.2.2.2.2.2.1, .i .u64 (IntKind.wrap .u64 (BitVec.ofInt (IntKind.bits .u64) c58.2.2.2.2.2.2.2.2.1 ||| BitVec.ofInt (IntKind.bits .u64) (IntKind.wrap .u64 ((1 : Int) * 2 ^ (min ((w38_4 : Int).tmod 64).toNat (IntKind.bits .u64))))).toNat), c74.2.2.2.2.2.2.2.2.2.1, c74.2.2.2.2.2.2.2.2.2.2.1, c74.2.2.2.2.2.2.2.2.2.2.2.1, c74.2.2.2.2.2.2.2.2.2.2.2.2.1]) : Rows))) 0 0)
 else k0 a3 a4 a5 a6 a7 a8 6 0))
 else k0 a3 a4 a5 a6 a7 a8 1 0)
noncomputable def Qt_g (n : Nat) : Qt_G := ⟨Q08 n, Qr n, Qp n, Qo n⟩
noncomputable def Qt (n : Nat) : Qt_T := fun _ρ a0 a1 a2 a3 a4 a5 a6 a7 a8 a9 a10 a11 a12 a13 a14 a15 a16 a17 a18 k0 => Qt_s (Qt_g n) n a0 a1 a2 a3 a4 a5 a6 a7 a8 a9 a10 a11 a12 a13 a14 a15 a16 a17 a18 k0
noncomputable def Qt_e (n : Nat) : EK := Qt_E (Qt n)
def Qt_S (G : Qt_G) : CK := tabS [(27, Q08_E G.Q08), (16, Qr_E G.Qr), (28, Qp_E G.Qp), (29, Qo_E G.Qo)]
theorem Qt_Sok (n : Nat) : CK.OK (Qt_S (Qt_g n)) (L tab) := tabS_ok _ (List.forall_mem_cons.2 ⟨(Q08_ok n), List.forall_mem_cons.2 ⟨(Qr_ok n), List.forall_mem_cons.2 ⟨(Qp_ok n), List.forall_mem_cons.2 ⟨(Qo_ok n), (fun _ h => nomatch h)⟩⟩⟩⟩)
def Qt_hs : HintC := hintL [(64, [.i .i64, .i .i64, .i .i64, .i .i64, .i .i64, .i .i64, .i .i64, .b, .i .u64, .i .u64, .i .u64, .i .u64, .i .u64])]
noncomputable def Qt_lp (_G : Qt_G) (_n : Nat) : LK := tabL []
theorem Qt_k (G : Qt_G) {ρ : Type} (n : Nat) (a0 a1 a2 : Int) (a3 a4 : Bool) (a5 : Rows) (a6 a7 : Bool) (a8 : Rows) (a9 a10 : Int) (a11 a12 : Bool) (a13 : Rows) (a14 a15 : Bool) (a16 a17 a18 : Int) (K : Res → Option ρ) : runC (Qt_S G) Qt_hs (Qt_lp G n) m10 [.agg [.i .i64 a0, .i .i64 a1, .i .i64 a2, .lst a3 a4 5 a5, .lst a6 a7 13 a8], .i .i64 a9, .agg [.i .i64 a10, .lst a11 a12 1 a13, .lst a14 a15 0 [], .i .i64 a16, .i .i64 a17, .i .u64 a18]] K = Qt_s G n a0 a1 a2 a3 a4 a5 a6 a7 a8 a9 a10 a11 a12 a13 a14 a15 a16 a17 a18 (fun w0 w1 w2 w3 w4 w5 w6 w7 => K ⟨.tup [.agg [.i .i64 a0, .i .i64 a1, .i .i64 a2, .lst w0 w1 5 w2, .lst w3 w4 13 w5], .agg [.i .i64 w6, .i .u64 w7, .i .i64 0]], [], []⟩) := by kernel_rfl
theorem Qt_ok (n : Nat) : EK.OK (Qt_e n) 10 (L tab) := EK.shp (fun _ _ _ => rfl) fun ρ K y c e => EK.run (Qt_Sok n) (by kernel_rfl) (MF.LKOK.of (LK.of (l := []) (by kernel_rfl) ((fun _ h => nomatch h)))) (Qt_k (Qt_g n) n _ _ _ _ _ _ _ _ _ _ _ _ _ _ _ _ _ _ _ K) (by kernel_rfl) e
abbrev slices_Equal_Slot_T : Type 1 := (ρ : Type) → Bool → Bool → Rows → Bool → Bool → Rows → (Bool → Option ρ) → Option ρ
def slices_Equal_Slot_E (G : slices_Equal_Slot_T) : EK := fun ρ args K => decL [.lst none none 5 none, .lst none none 5 none] args fun c => G ρ c.1.1 c.1.2.1 c.1.2.2 c.2.1.1 c.2.1.2.1 c.2.1.2.2 (fun w0 => K ⟨.b w0, [], []⟩)
structure slices_Equal_Slot_G where
 mk ::
abbrev slices_Equal_Slot_l4_V : Type := Int
noncomputable def slices_Equal_Slot_l4_s (_G : slices_Equal_Slot_G) {ρ : Type} (_n : Nat) (_p0 _p1 : Bool) (p2 : Rows) (_p3 _p4 : Bool) (p5 : Rows) (p6 : Int) (k0 : (Option ρ)) (k1 : (Option ρ)) (rec' : slices_Equal_Slot_l4_V → Option ρ) : slices_Equal_Slot_l4_V → Option ρ
 | v =>
 bif decide ((v : Int) < p6) then
 rowT [.i .i64, .i .i64, .i .i64, .i .i64, .i .i64] p2 v fun c0 =>
 rowT [.i .i64, .i .i64, .i .i64, .i .i64, .i .i64] p5 v fun c1 =>
 bif (!(((c0.1 : Int) == c1.1) && (((c0.2.1 : Int) == c1.2.1) && (((c0.2.2.1 : Int) == c1.2.2.1) && (((c0.2.2.2.1 : Int) == c1.2.2.2.1) && (((c0.2.2.2.2.1 : Int) == c1.2.2.2.2.1) && true)))))) then
 k0
 else rec' ((IntKind.wrap .i64 (v + 1)))
 else k1
noncomputable def slices_Equal_Slot_l4 (G : slices_Equal_Slot_G) {ρ : Type} (n : Nat) (p0 p1 : Bool) (p2 : Rows) (p3 p4 : Bool) (p5 : Rows) (p6 : Int) (k0 : (Option ρ)) (k1 : (Option ρ)) (v : slices_Equal_Slot_l4_V) : Option ρ := fuelN (slices_Equal_Slot_l4_s G n p0 p1 p2 p3 p4 p5 p6 k0 k1) n v
def slices_Equal_Slot_l4_enc (p0 p1 : Bool) (p2 : Rows) (p3 p4 : Bool) (p5 : Rows) (p6 : Int) : slices_Equal_Slot_l4_V → St
 | v => ⟨[(0, .lst p0 p1 5 p2), (1, .lst p3 p4 5 p5), (12, .i .i64 p6), (13, .i .i64 v)], []⟩
noncomputable def slices_Equal_Slot_s (G : slices_Equal_Slot_G) {ρ : Type} (n : Nat) (a0 a1 : Bool) (a2 : Rows) (a3 a4 : Bool) (a5 : Rows) (k0 : (Bool → Option ρ)) : Option ρ :=
 bif (((((List.length (a2 : Rows)) : Nat) : Int) : Int) != (((List.length (a5 : Rows)) : Nat) : Int)) then
 k0 false
 else slices_Equal_Slot_l4 G n a0 a1 a2 a3 a4 a5 (((List.length (a2 : Rows)) : Nat) : Int) (k0 false) (k0 true) (0)
noncomputable def slices_Equal_Slot_g (_n : Nat) : slices_Equal_Slot_G := ⟨⟩
noncomputable def slices_Equal_Slot (n : Nat) : slices_Equal_Slot_T := fun _ρ a0 a1 a2 a3 a4 a5 k0 => slices_Equal_Slot_s (slices_Equal_Slot_g n) n a0 a1 a2 a3 a4 a5 k0
noncomputable def slices_Equal_Slot_e (n : Nat) : EK := slices_Equal_Slot_E (slices_Equal_Slot n)
def slices_Equal_Slot_S (_G : slices_Equal_Slot_G) : CK := tabS []
theorem slices_Equal_Slot_Sok (n : Nat) : CK.OK (slices_Equal_Slot_S (slices_Equal_Slot_g n)) (L tab) := tabS_ok _ ((fun _ h => nomatch h))
def slices_Equal_Slot_hs : HintC := hintL [(18, [.i .i64, .i .i64, .i .i64, .i .i64, .i .i64]), (22, [.i .i64, .i .i64, .i .i64, .i .i64, .i .i64])]
def slices_Equal_Slot_c4 : Nat × List Nat × List Nat × MC := loopAt 4 m30
noncomputable def slices_Equal_Slot_l4_d (G : slices_Equal_Slot_G) (n : Nat) : Go.Rv.LE := fun _ρ h K => decSt [(0, .lst none none 5 none), (1, .lst none none 5 none), (12, .i .i64 none), (13, .i .i64 none)] [] h fun a _b => slices_Equal_Slot_l4 G n a.1.1 a.1.2.1 a.1.2.2 a.2.1.1 a.2.1.2.1 a.2.1.2.2 a.2.2.1 (K .ret ⟨[(4, .b false)], []⟩) (K (.exit 0) ⟨[(4, .u)], []⟩) (a.2.2.2.1)
noncomputable def slices_Equal_Slot_d4 (G : slices_Equal_Slot_G) (n : Nat) : Go.Rv.LE := slices_Equal_Slot_l4_d G n
noncomputable def slices_Equal_Slot_lp (G : slices_Equal_Slot_G) (n : Nat) : LK := tabL [(4, slices_Equal_Slot_d4 G n)]
theorem slices_Equal_Slot_l4_k (G : slices_Equal_Slot_G) {ρ : Type} (n : Nat) (p0 p1 : Bool) (p2 : Rows) (p3 p4 : Bool) (p5 : Rows) (p6 : Int) (K : Ex → St → Option ρ) (N : St → Option ρ) : ∀ v, roundC (slices_Equal_Slot_S G) slices_Equal_Slot_hs (slices_Equal_Slot_lp G n) slices_Equal_Slot_c4 0 N K (slices_Equal_Slot_l4_enc p0 p1 p2 p3 p4 p5 p6 v) = slices_Equal_Slot_l4_s G n p0 p1 p2 p3 p4 p5 p6 (K .ret ⟨[(4, .b false)], []⟩) (K (.exit 0) ⟨[(4, .u)], []⟩) (fun v => N (slices_Equal_Slot_l4_enc p0 p1 p2 p3 p4 p5 p6 v)) v
 | v => by kernel_rfl
theorem slices_Equal_Slot_l4_dok (n : Nat) : LE.OK (slices_Equal_Slot_l4_d (slices_Equal_Slot_g n) n) (L tab) slices_Equal_Slot_c4 := LE.shp (fun _ _ _ => rfl) fun ρ K y a b e => LE.rounds (slices_Equal_Slot_Sok n) (LK.of (l := []) (by kernel_rfl) ((fun _ h => nomatch h))) (slices_Equal_Slot_l4_k (slices_Equal_Slot_g n) n _ _ _ _ _ _ _ K) (by kernel_rfl) (by kernel_rfl) e
theorem slices_Equal_Slot_d4_ok (n : Nat) : LE.OK (slices_Equal_Slot_d4 (slices_Equal_Slot_g n) n) (L tab) slices_Equal_Slot_c4 := slices_Equal_Slot_l4_dok n
theorem slices_Equal_Slot_k (G : slices_Equal_Slot_G) {ρ : Type} (n : Nat) (a0 a1 : Bool) (a2 : Rows) (a3 a4 : Bool) (a5 : Rows) (K : Res → Option ρ) : runC (slices_Equal_Slot_S G) slices_Equal_Slot_hs (slices_Equal_Slot_lp G n) m30 [.lst a0 a1 5 a2, .lst a3 a4 5 a5] K = slices_Equal_Slot_s G n a0 a1 a2 a3 a4 a5 (fun w0 => K ⟨.b w0, [], []⟩) := by kernel_rfl
theorem slices_Equal_Slot_ok (n : Nat) : EK.OK (slices_Equal_Slot_e n) 30 (L tab) := EK.shp (fun _ _ _ => rfl) fun ρ K y c e => EK.run (slices_Equal_Slot_Sok n) (by kernel_rfl) (MF.LKOK.of (LK.of (l := [slices_Equal_Slot_c4]) (by kernel_rfl) (List.forall_mem_cons.2 ⟨LE.at (e := slices_Equal_Slot_d4 (slices_Equal_Slot_g n) n) (by kernel_rfl) (slices_Equal_Slot_d4_ok n), (fun _ h => nomatch h)⟩))) (slices_Equal_Slot_k (slices_Equal_Slot_g n) n _ _ _ _ _ _ K) (by kernel_rfl) e
abbrev slices_Equal_Thing_T : Type 1 := (ρ : Type) → Bool → Bool → Rows → Bool → Bool → Rows → (Bool → Option ρ) → Option ρ
def slices_Equal_Thing_E (G : slices_Equal_Thing_T) : EK := fun ρ args K => decL [.lst none none 13 none, .lst none none 13 none] args fun c => G ρ c.1.1 c.1.2.1 c.1.2.2 c.2.1.1 c.2.1.2.1 c.2.1.2.2 (fun w0 => K ⟨.b w0, [], []⟩)
structure slices_Equal_Thing_G where
 mk ::
abbrev slices_Equal_Thing_l4_V : Type := Int
noncomputable def slices_Equal_Thing_l4_s (_G : slices_Equal_Thing_G) {ρ : Type} (_n : Nat) (_p0 _p1 : Bool) (p2 : Rows) (_p3 _p4 : Bool) (p5 : Rows) (p6 : Int) (k0 : (Option ρ)) (k1 : (Option ρ)) (rec' : slices_Equal_Thing_l4_V → Option ρ) : slices_Equal_Thing_l4_V → Option ρ
 | v =>
 bif decide ((v : Int) < p6) then
 rowT [.i .i64, .i .i64, .i .i64, .i .i64, .i .i64, .i .i64, .i .i64, .b, .i .u64, .i .u64, .i .u64, .i .u64, .i .u64] p2 v fun c0 =>
 rowT [.i .i64, .i .i64, .i .i64, .i .i64, .i .i64, .i .i64, .i .i64, .b, .i .u64, .i .u64, .i .u64, .i .u64, .i .u64] p5 v fun c1 =>
 bif (!(((c0.1 : Int) == c1.1) && (((c0.2.1 : Int) == c1.2.1) && (((c0.2.2.1 : Int) == c1.2.2.1) && (((c0.2.2.2.1 : Int) == c1.2.2.2.1) && (((c0.2.2.2.2.1 : Int) == c1.2.2.2.2.1) && (((c0.2.2.2.2.2.1 : Int) == c1.2.2.2.2.2.1) && (((c0.2.2.2.2.2.2.1 : Int) == c1.2.2.2.2.2.2.1) && (((c0.2.2.2.2.2.2.2.1 : Bool) == c1.2.2.2.2.2.2.2.1) && (((c0.2.2.2.2.2.2.2.2.1 : Int) == c1.2.2.2.2.2.2.2.2.1) && (((c0.2.2.2.2.2.2.2.2.2.1 : Int) == c1.2.2.2.2.2.2.2.2.2.1) && (((c0.2.2.2.2.2.2.2.2.2.2.1 : Int) == c1.2.2.2.2.2.2.2.2.2.2.1) && (((c0.2.2.2.2.2.2.2.2.2.2.2.1 : Int) == c1.2.2.2.2.2.2.2.2.2.2.2.1) && (((c0.2.2.2.2.2.2.2.2.2.2.2.2.1 : Int) == c1.2.2.2.2.2.2.2.2.2.2.2.2.1) && true)))))))))))))) then
 k0
 else rec' ((IntKind.wrap .i64 (v + 1)))
 else k1
noncomputable def slices_Equal_Thing_l4 (G : slices_Equal_Thing_G) {ρ : Type} (n : Nat) (p0 p1 : Bool) (p2 : Rows) (p3 p4 : Bool) (p5 : Rows) (p6 : Int) (k0 : (Option ρ)) (k1 : (Option ρ)) (v : slices_Equal_Thing_l4_V) : Option ρ := fuelN (slices_Equal_Thing_l4_s G n p0 p1 p2 p3 p4 p5 p6 k0 k1) n v
def slices_Equal_Thing_l4_enc (p0 p1 : Bool) (p2 : Rows) (p3 p4 : Bool) (p5 : Rows) (p6 : Int) : slices_Equal_Thing_l4_V → St
 | v => ⟨[(0, .lst p0 p1 13 p2), (1, .lst p3 p4 13 p5), (12, .i .i64 p6), (13, .i .i64 v)], []⟩
noncomputable def slices_Equal_Thing_s (G : slices_Equal_Thing_G) {ρ : Type} (n : Nat) (a0 a1 : Bool) (a2 : Rows) (a3 a4 : Bool) (a5 : Rows) (k0 : (Bool → Option ρ)) : Option ρ :=
 bif (((((List.length (a2 : Rows)) : Nat) : Int) : Int) != (((List.length (a5 : Rows)) : Nat) : Int)) then
 k0 false
 else slices_Equal_Thing_l4 G n a0 a1 a2 a3 a4 a5 (((List.length (a2 : Rows)) : Nat) : Int) (k0 false) (k0 true) (0)
noncomputable def slices_Equal_Thing_g (_n : Nat) : slices_Equal_Thing_G := ⟨⟩
noncomputable def slices_Equal_Thing (n : Nat) : slices_Equal_Thing_T := fun _ρ a0 a1 a2 a3 a4 a5 k0 => slices_Equal_Thing_s (slices_Equal_Thing_g n) n a0 a1 a2 a3 a4 a5 k0
noncomputable def slices_Equal_Thing_e (n : Nat) : EK := slices_Equal_Thing_E (slices_Equal_Thing n)
def slices_Equal_Thing_S (_G : slices_Equal_Thing_G) : CK := tabS []
theorem slices_Equal_Thing_Sok (n : Nat) : CK.OK (slices_Equal_Thing_S (slices_Equal_Thing_g n)) (L tab) := tabS_ok _ ((fun _ h => nomatch h))
def slices_Equal_Thing_hs : HintC := hintL [(18, [.i .i64, .i .i64, .i .i64, .i .i64, .i .i64, .i .i64, .i .i64, .b, .i .u64, .i .u64, .i .u64, .i .u64, .i .u64]), (22, [.i .i64, .i .i64, .i .i64, .i .i64, .i .i64, .i .i64, .i .i64, .b, .i .u64, .i .u64, .i .u64, .i .u64, .i .u64])]
def slices_Equal_Thing_c4 : Nat × List Nat × List Nat × MC := loopAt 4 m31
noncomputable def slices_Equal_Thing_l4_d (G : slices_Equal_Thing_G) (n : Nat) : Go.Rv.LE := fun _ρ h K => decSt [(0, .lst none none 13 none), (1, .lst none none 13 none), (12, .i .i64 none), (13, .i .i64 none)] [] h fun a _b => slices_Equal_Thing_l4 G n a.1.1 a.1.2.1 a.1.2.2 a.2.1.1 a.2.1.2.1 a.2.1.2.2 a.2.2.1 (K .ret ⟨[(4, .b false)], []⟩) (K (.exit 0) ⟨[(4, .u)], []⟩) (a.2.2.2.1)
noncomputable def slices_Equal_Thing_d4 (G : slices_Equal_Thing_G) (n : Nat) : Go.Rv.LE := slices_Equal_Thing_l4_d G n
noncomputable def slices_Equal_Thing_lp (G : slices_Equal_Thing_G) (n : Nat) : LK := tabL [(4, slices_Equal_Thing_d4 G n)]
theorem slices_Equal_Thing_l4_k (G : slices_Equal_Thing_G) {ρ : Type} (n : Nat) (p0 p1 : Bool) (p2 : Rows) (p3 p4 : Bool) (p5 : Rows) (p6 : Int) (K : Ex → St → Option ρ) (N : St → Option ρ) : ∀ v, roundC (slices_Equal_Thing_S G) slices_Equal_Thing_hs (slices_Equal_Thing_lp G n) slices_Equal_Thing_c4 0 N K (slices_Equal_Thing_l4_enc p0 p1 p2 p3 p4 p5 p6 v) = slices_Equal_Thing_l4_s G n p0 p1 p2 p3 p4 p5 p6 (K .ret ⟨[(4, .b false)], []⟩) (K (.exit 0) ⟨[(4, .u)], []⟩) (fun v => N (slices_Equal_Thing_l4_enc p0 p1 p2 p3 p4 p5 p6 v)) v
 | v => by kernel_rfl
theorem slices_Equal_Thing_l4_dok (n : Nat) : LE.OK (slices_Equal_Thing_l4_d (slices_Equal_Thing_g n) n) (L tab) slices_Equal_Thing_c4 := LE.shp (fun _ _ _ => rfl) fun ρ K y a b e => LE.rounds (slices_Equal_Thing_Sok n) (LK.of (l := []) (by kernel_rfl) ((fun _ h => nomatch h))) (slices_Equal_Thing_l4_k (slices_Equal_Thing_g n) n _ _ _ _ _ _ _ K) (by kernel_rfl) (by kernel_rfl) e
theorem slices_Equal_Thing_d4_ok (n : Nat) : LE.OK (slices_Equal_Thing_d4 (slices_Equal_Thing_g n) n) (L tab) slices_Equal_Thing_c4 := slices_Equal_Thing_l4_dok n
theorem slices_Equal_Thing_k (G : slices_Equal_Thing_G) {ρ : Type} (n : Nat) (a0 a1 : Bool) (a2 : Rows) (a3 a4 : Bool) (a5 : Rows) (K : Res → Option ρ) : runC (slices_Equal_Thing_S G) slices_Equal_Thing_hs (slices_Equal_Thing_lp G n) m31 [.lst a0 a1 13 a2, .lst a3 a4 13 a5] K = slices_Equal_Thing_s G n a0 a1 a2 a3 a4 a5 (fun w0 => K ⟨.b w0, [], []⟩) := by kernel_rfl
theorem slices_Equal_Thing_ok (n : Nat) : EK.OK (slices_Equal_Thing_e n) 31 (L tab) := EK.shp (fun _ _ _ => rfl) fun ρ K y c e => EK.run (slices_Equal_Thing_Sok n) (by kernel_rfl) (MF.LKOK.of (LK.of (l := [slices_Equal_Thing_c4]) (by kernel_rfl) (List.forall_mem_cons.2 ⟨LE.at (e := slices_Equal_Thing_d4 (slices_Equal_Thing_g n) n) (by kernel_rfl) (slices_Equal_Thing_d4_ok n), (fun _ h => nomatch h)⟩))) (slices_Equal_Thing_k (slices_Equal_Thing_g n) n _ _ _ _ _ _ K) (by kernel_rfl) e
abbrev Q00_T : Type 1 := (ρ : Type) → Int → Int → Int → Bool → Bool → Rows → Bool → Bool → Rows → Int → Int → Int → Bool → Bool → Rows → Bool → Bool → Rows → (Bool → Option ρ) → Option ρ
def Q00_E (G : Q00_T) : EK := fun ρ args K => decL [.agg [.i .i64 none, .i .i64 none, .i .i64 none, .lst none none 5 none, .lst none none 13 none], .agg [.i .i64 none, .i .i64 none, .i .i64 none, .lst none none 5 none, .lst none none 13 none]] args fun c => G ρ c.1.1 c.1.2.1 c.1.2.2.1 c.1.2.2.2.1.1 c.1.2.2.2.1.2.1 c.1.2.2.2.1.2.2 c.1.2.2.2.2.1.1 c.1.2.2.2.2.1.2.1 c.1.2.2.2.2.1.2.2 c.2.1.1 c.2.1.2.1 c.2.1.2.2.1 c.2.1.2.2.2.1.1 c.2.1.2.2.2.1.2.1 c.2.1.2.2.2.1.2.2 c.2.1.2.2.2.2.1.1 c.2.1.2.2.2.2.1.2.1 c.2.1.2.2.2.2.1.2.2 (fun w0 => K ⟨.b w0, [], []⟩)
structure Q00_G where
 mk ::
 slices_Equal_Slot : slices_Equal_Slot_T
 slices_Equal_Thing : slices_Equal_Thing_T
noncomputable def Q00_s (G : Q00_G) {ρ : Type} (_n : Nat) (a0 a1 a2 : Int) (a3 a4 : Bool) (a5 : Rows) (a6 a7 : Bool) (a8 : Rows) (a9 a10 a11 : Int) (a12 a13 : Bool) (a14 : Rows) (a15 a16 : Bool) (a17 : Rows) (k0 : (Bool → Option ρ)) : Option ρ :=
 bif (((a0 : Int) == a9) && (((a1 : Int) == a10) && (((a2 : Int) == a11) && true))) then
 G.slices_Equal_Slot ρ a3 a4 a5 a12 a13 a14 (fun w0_0 =>
 bif w0_0 then
 G.slices_Equal_Thing ρ a6 a7 a8 a15 a16 a17 (fun w1_0 =>
 bif w1_0 then
 k0 true
 else k0 false)
 else k0 false)
 else k0 false
noncomputable def Q00_g (n : Nat) : Q00_G := ⟨slices_Equal_Slot n, slices_Equal_Thing n⟩
noncomputable def Q00 (n : Nat) : Q00_T := fun _ρ a0 a1 a2 a3 a4 a5 a6 a7 a8 a9 a10 a11 a12 a13 a14 a15 a16 a17 k0 => Q00_s (Q00_g n) n a0 a1 a2 a3 a4 a5 a6 a7 a8 a9 a10 a11 a12 a13 a14 a15 a16 a17 k0
noncomputable def Q00_e (n : Nat) : EK := Q00_E (Q00 n)
def Q00_S (G : Q00_G) : CK := tabS [(30, slices_Equal_Slot_E G.slices_Equal_Slot), (31, slices_Equal_Thing_E G.slices_Equal_Thing)]
theorem Q00_Sok (n : Nat) : CK.OK (Q00_S (Q00_g n)) (L tab) := tabS_ok _ (List.forall_mem_cons.2 ⟨(slices_Equal_Slot_ok n), List.forall_mem_cons.2 ⟨(slices_Equal_Thing_ok n), (fun _ h => nomatch h)⟩⟩)
def Q00_hs : HintC := hintL []
noncomputable def Q00_lp (_G : Q00_G) (_n : Nat) : LK := tabL []
theorem Q00_k (G : Q00_G) {ρ : Type} (n : Nat) (a0 a1 a2 : Int) (a3 a4 : Bool) (a5 : Rows) (a6 a7 : Bool) (a8 : Rows) (a9 a10 a11 : Int) (a12 a13 : Bool) (a14 : Rows) (a15 a16 : Bool) (a17 : Rows) (K : Res → Option ρ) : runC (Q00_S G) Q00_hs (Q00_lp G n) m11 [.agg [.i .i64 a0, .i .i64 a1, .i .i64 a2, .lst a3 a4 5 a5, .lst a6 a7 13 a8], .agg [.i .i64 a9, .i .i64 a10, .i .i64 a11, .lst a12 a13 5 a14, .lst a15 a16 13 a17]] K = Q00_s G n a0 a1 a2 a3 a4 a5 a6 a7 a8 a9 a10 a11 a12 a13 a14 a15 a16 a17 (fun w0 => K ⟨.b w0, [], []⟩) := by kernel_rfl
theorem Q00_ok (n : Nat) : EK.OK (Q00_e n) 11 (L tab) := EK.shp (fun _ _ _ => rfl) fun ρ K y c e => EK.run (Q00_Sok n) (by kernel_rfl) (MF.LKOK.of (LK.of (l := []) (by kernel_rfl) ((fun _ h => nomatch h)))) (Q00_k (Q00_g n) n _ _ _ _ _ _ _ _ _ _ _ _ _ _ _ _ _ _ K) (by kernel_rfl) e
abbrev Q0c_T : Type 1 := (ρ : Type) → (Bool → Option ρ) → Option ρ
def Q0c_E (G : Q0c_T) : EK := fun ρ args K => decL [] args fun _c => G ρ (fun w0 => K ⟨.b w0, [], []⟩)
structure Q0c_G where
 mk ::
 Q0f : Q0f_T
 reevelaw19_way : reevelaw19_way_T
 Qt : Qt_T
 Q00 : Q00_T
 Qd : Qd_T
noncomputable def Q0c_s (G : Q0c_G) {ρ : Type} (_n : Nat)  (k0 : (Bool → Option ρ)) : Option ρ :=
 G.Q0f ρ (fun w0_0 w0_1 w0_2 w0_3 w0_4 w0_5 w0_6 w0_7 w0_8 =>
 G.reevelaw19_way ρ false false ([[.i .i64 4]]) (bs (stayR ⟨.agg [.lst false false 1 ([[.i .i64 4]])], [], []⟩) <|
 G.Qt ρ w0_0 w0_1 w0_2 w0_3 w0_4 w0_5 w0_6 w0_7 w0_8 0 9 false false ([[.i .i64 4]]) true true 0 0 0 (fun w2_0 w2_1 w2_2 w2_3 w2_4 w2_5 w2_6 w2_7 =>
 G.reevelaw19_way ρ false false ([[.i .i64 3]]) (bs (stayR ⟨.agg [.lst false false 1 ([[.i .i64 3]])], [], []⟩) <|
 G.Qt ρ w0_0 w0_1 w0_2 w2_0 w2_1 w2_2 w2_3 w2_4 w2_5 0 10 false false ([[.i .i64 3]]) true true 0 0 0 (fun w4_0 w4_1 w4_2 w4_3 w4_4 w4_5 w4_6 w4_7 =>
 bif (((w2_6 : Int) == 0) && (((w2_7 : Int) == 0) && true)) then
 bif (((w4_6 : Int) == 0) && (((w4_7 : Int) == 8) && true)) then
 G.Q0f ρ (fun w5_0 w5_1 w5_2 w5_3 w5_4 w5_5 w5_6 w5_7 w5_8 =>
 G.Q00 ρ w0_0 w0_1 w0_2 w4_0 w4_1 w4_2 w4_3 w4_4 w4_5 w5_0 w5_1 w5_2 w5_3 w5_4 w5_5 w5_6 w5_7 w5_8 (fun w6_0 =>
 bif w6_0 then
 G.Qd ρ w0_0 w0_1 w0_2 w2_0 w2_1 w2_2 w2_3 w2_4 w2_5 (fun w7_0 =>
 bif w7_0 then
 k0 true
 else k0 false)
 else k0 false))
 else k0 false
 else k0 false)))))
noncomputable def Q0c_g (n : Nat) : Q0c_G := ⟨Q0f n, reevelaw19_way n, Qt n, Q00 n, Qd n⟩
noncomputable def Q0c (n : Nat) : Q0c_T := fun _ρ k0 => Q0c_s (Q0c_g n) n k0
noncomputable def Q0c_e (n : Nat) : EK := Q0c_E (Q0c n)
def Q0c_S (G : Q0c_G) : CK := tabS [(18, Q0f_E G.Q0f), (7, reevelaw19_way_E G.reevelaw19_way), (10, Qt_E G.Qt), (11, Q00_E G.Q00), (9, Qd_E G.Qd)]
theorem Q0c_Sok (n : Nat) : CK.OK (Q0c_S (Q0c_g n)) (L tab) := tabS_ok _ (List.forall_mem_cons.2 ⟨(Q0f_ok n), List.forall_mem_cons.2 ⟨(reevelaw19_way_ok n), List.forall_mem_cons.2 ⟨(Qt_ok n), List.forall_mem_cons.2 ⟨(Q00_ok n), List.forall_mem_cons.2 ⟨(Qd_ok n), (fun _ h => nomatch h)⟩⟩⟩⟩⟩)
def Q0c_hs : HintC := hintL []
noncomputable def Q0c_lp (_G : Q0c_G) (_n : Nat) : LK := tabL []
theorem Q0c_k (G : Q0c_G) {ρ : Type} (n : Nat)  (K : Res → Option ρ) : runC (Q0c_S G) Q0c_hs (Q0c_lp G n) m6 [] K = Q0c_s G n  (fun w0 => K ⟨.b w0, [], []⟩) := by kernel_rfl
theorem Q0c_ok (n : Nat) : EK.OK (Q0c_e n) 6 (L tab) := EK.shp (fun _ _ _ => rfl) fun ρ K y c e => EK.run (Q0c_Sok n) (by kernel_rfl) (MF.LKOK.of (LK.of (l := []) (by kernel_rfl) ((fun _ h => nomatch h)))) (Q0c_k (Q0c_g n) n  K) (by kernel_rfl) e
abbrev reevelaw19_heavy_T : Type 1 := (ρ : Type) → Int → Int → Int → Bool → Bool → Rows → Bool → Bool → Rows → Int → Bool → Bool → Rows → Bool → Bool → Int → Int → Int → (Bool → Option ρ) → Option ρ
def reevelaw19_heavy_E (G : reevelaw19_heavy_T) : EK := fun ρ args K => decL [.agg [.i .i64 none, .i .i64 none, .i .i64 none, .lst none none 5 none, .lst none none 13 none], .agg [.i .i64 none, .lst none none 1 none, .lst none none 0 (some []), .i .i64 none, .i .i64 none, .i .u64 none]] args fun c => G ρ c.1.1 c.1.2.1 c.1.2.2.1 c.1.2.2.2.1.1 c.1.2.2.2.1.2.1 c.1.2.2.2.1.2.2 c.1.2.2.2.2.1.1 c.1.2.2.2.2.1.2.1 c.1.2.2.2.2.1.2.2 c.2.1.1 c.2.1.2.1.1 c.2.1.2.1.2.1 c.2.1.2.1.2.2 c.2.1.2.2.1.1 c.2.1.2.2.1.2.1 c.2.1.2.2.2.1 c.2.1.2.2.2.2.1 c.2.1.2.2.2.2.2.1 (fun w0 => K ⟨.b w0, [], []⟩)
structure reevelaw19_heavy_G where
 mk ::
noncomputable def reevelaw19_heavy_s (_G : reevelaw19_heavy_G) {ρ : Type} (_n : Nat) (_a0 _a1 _a2 : Int) (_a3 _a4 : Bool) (a5 : Rows) (_a6 _a7 : Bool) (a8 : Rows) (_a9 : Int) (_a10 _a11 : Bool) (a12 : Rows) (_a13 _a14 : Bool) (_a15 _a16 _a17 : Int) (k0 : (Bool → Option ρ)) : Option ρ :=
 bif decide (((((List.length (a5 : Rows)) : Nat) : Int) : Int) > 100) then
 k0 true
 else bif decide (((((List.length (a8 : Rows)) : Nat) : Int) : Int) > 50) then
 k0 true
 else bif decide (((((List.length (a12 : Rows)) : Nat) : Int) : Int) > 10) then
 k0 true
 else k0 false
noncomputable def reevelaw19_heavy_g (_n : Nat) : reevelaw19_heavy_G := ⟨⟩
noncomputable def reevelaw19_heavy (n : Nat) : reevelaw19_heavy_T := fun _ρ a0 a1 a2 a3 a4 a5 a6 a7 a8 a9 a10 a11 a12 a13 a14 a15 a16 a17 k0 => reevelaw19_heavy_s (reevelaw19_heavy_g n) n a0 a1 a2 a3 a4 a5 a6 a7 a8 a9 a10 a11 a12 a13 a14 a15 a16 a17 k0
noncomputable def reevelaw19_heavy_e (n : Nat) : EK := reevelaw19_heavy_E (reevelaw19_heavy n)
def reevelaw19_heavy_S (_G : reevelaw19_heavy_G) : CK := tabS []
theorem reevelaw19_heavy_Sok (n : Nat) : CK.OK (reevelaw19_heavy_S (reevelaw19_heavy_g n)) (L tab) := tabS_ok _ ((fun _ h => nomatch h))
def reevelaw19_heavy_hs : HintC := hintL []
noncomputable def reevelaw19_heavy_lp (_G : reevelaw19_heavy_G) (_n : Nat) : LK := tabL []
theorem reevelaw19_heavy_k (G : reevelaw19_heavy_G) {ρ : Type} (n : Nat) (a0 a1 a2 : Int) (a3 a4 : Bool) (a5 : Rows) (a6 a7 : Bool) (a8 : Rows) (a9 : Int) (a10 a11 : Bool) (a12 : Rows) (a13 a14 : Bool) (a15 a16 a17 : Int) (K : Res → Option ρ) : runC (reevelaw19_heavy_S G) reevelaw19_heavy_hs (reevelaw19_heavy_lp G n) m8 [.agg [.i .i64 a0, .i .i64 a1, .i .i64 a2, .lst a3 a4 5 a5, .lst a6 a7 13 a8], .agg [.i .i64 a9, .lst a10 a11 1 a12, .lst a13 a14 0 [], .i .i64 a15, .i .i64 a16, .i .u64 a17]] K = reevelaw19_heavy_s G n a0 a1 a2 a3 a4 a5 a6 a7 a8 a9 a10 a11 a12 a13 a14 a15 a16 a17 (fun w0 => K ⟨.b w0, [], []⟩) := by kernel_rfl
theorem reevelaw19_heavy_ok (n : Nat) : EK.OK (reevelaw19_heavy_e n) 8 (L tab) := EK.shp (fun _ _ _ => rfl) fun ρ K y c e => EK.run (reevelaw19_heavy_Sok n) (by kernel_rfl) (MF.LKOK.of (LK.of (l := []) (by kernel_rfl) ((fun _ h => nomatch h)))) (reevelaw19_heavy_k (reevelaw19_heavy_g n) n _ _ _ _ _ _ _ _ _ _ _ _ _ _ _ _ _ _ K) (by kernel_rfl) e
abbrev Qj_T : Type 1 := (ρ : Type) → Int → Int → Int → Bool → Bool → Rows → Bool → Bool → Rows → Int → Bool → Bool → Rows → Int → (Bool → Option ρ) → Option ρ
def Qj_E (G : Qj_T) : EK := fun ρ args K => decL [.agg [.i .i64 none, .i .i64 none, .i .i64 none, .lst none none 5 none, .lst none none 13 none], .i .i64 none, .lst none none 1 none, .i .i64 none] args fun c => G ρ c.1.1 c.1.2.1 c.1.2.2.1 c.1.2.2.2.1.1 c.1.2.2.2.1.2.1 c.1.2.2.2.1.2.2 c.1.2.2.2.2.1.1 c.1.2.2.2.2.1.2.1 c.1.2.2.2.2.1.2.2 c.2.1 c.2.2.1.1 c.2.2.1.2.1 c.2.2.1.2.2 c.2.2.2.1 (fun w0 => K ⟨.b w0, [], []⟩)
structure Qj_G where
 mk ::
 Q0c : Q0c_T
 reevelaw19_way : reevelaw19_way_T
 reevelaw19_heavy : reevelaw19_heavy_T
 Qd : Qd_T
 Qt : Qt_T
 Q00 : Q00_T
abbrev Qj_l11_V : Type := Int × Int × Int × Bool × Bool × Rows × Bool × Bool × Rows
noncomputable def Qj_l11_s (G : Qj_G) {ρ : Type} (_n : Nat) (p0 : Int) (_p1 _p2 : Bool) (_p3 : Rows) (p4 _p5 : Int) (_p6 _p7 : Int) (_p8 _p9 : Bool) (_p10 : Rows) (_p11 _p12 : Bool) (_p13 : Rows) (p14 p15 : Bool) (p16 : Rows) (_p17 _p18 _p19 : Int) (_p20 _p21 : Bool) (_p22 : Rows) (_p23 _p24 : Bool) (_p25 : Rows) (p28 p29 p30 : Int) (k0 : (Int → Int → Bool → Bool → Rows → Bool → Bool → Rows → Option ρ)) (k1 : (Int → Int → Bool → Bool → Rows → Bool → Bool → Rows → Option ρ)) (rec' : Qj_l11_V → Option ρ) : Qj_l11_V → Option ρ
 | v =>
 bif decide ((v.1 : Int) < p4) then
 G.Qt ρ p28 p29 p30 v.2.2.2.1 v.2.2.2.2.1 v.2.2.2.2.2.1 v.2.2.2.2.2.2.1 v.2.2.2.2.2.2.2.1 v.2.2.2.2.2.2.2.2 p0 9 p14 p15 p16 true true 0 0 0 (fun w0_0 w0_1 w0_2 w0_3 w0_4 w0_5 w0_6 w0_7 =>
 bif (!(((w0_6 : Int) == 0) && (((w0_7 : Int) == 0) && true))) then
 k0 w0_6 w0_7 w0_0 w0_1 w0_2 w0_3 w0_4 w0_5
 else rec' ((IntKind.wrap .i64 (v.1 + 1)), w0_6, w0_7, w0_0, w0_1, w0_2, w0_3, w0_4, w0_5))
 else k1 v.2.1 v.2.2.1 v.2.2.2.1 v.2.2.2.2.1 v.2.2.2.2.2.1 v.2.2.2.2.2.2.1 v.2.2.2.2.2.2.2.1 v.2.2.2.2.2.2.2.2
noncomputable def Qj_l11 (G : Qj_G) {ρ : Type} (n : Nat) (p0 : Int) (p1 p2 : Bool) (p3 : Rows) (p4 p5 : Int) (p6 p7 : Int) (p8 p9 : Bool) (p10 : Rows) (p11 p12 : Bool) (p13 : Rows) (p14 p15 : Bool) (p16 : Rows) (p17 p18 p19 : Int) (p20 p21 : Bool) (p22 : Rows) (p23 p24 : Bool) (p25 : Rows) (p28 p29 p30 : Int) (k0 : (Int → Int → Bool → Bool → Rows → Bool → Bool → Rows → Option ρ)) (k1 : (Int → Int → Bool → Bool → Rows → Bool → Bool → Rows → Option ρ)) (v : Qj_l11_V) : Option ρ := fuelN (Qj_l11_s G n p0 p1 p2 p3 p4 p5 p6 p7 p8 p9 p10 p11 p12 p13 p14 p15 p16 p17 p18 p19 p20 p21 p22 p23 p24 p25 p28 p29 p30 k0 k1) n v
def Qj_l11_enc (p0 : Int) (p1 p2 : Bool) (p3 : Rows) (p4 p5 : Int) (p6 p7 : Int) (p8 p9 : Bool) (p10 : Rows) (p11 p12 : Bool) (p13 : Rows) (p14 p15 : Bool) (p16 : Rows) (p17 p18 p19 : Int) (p20 p21 : Bool) (p22 : Rows) (p23 p24 : Bool) (p25 : Rows) (p28 p29 p30 : Int) : Qj_l11_V → St
 | v => ⟨[(1, .i .i64 p0), (2, .lst p1 p2 1 p3), (3, .i .i64 p4), (9, .ptr 1 1 6 0 0), (10, .ptr 2 1 5 0 0), (11, .ptr 3 1 3 0 0), (12, .ptr 4 1 5 0 0), (13, .i .i64 v.1)], [.row 5 true false [[.i .i64 p5, .i .i64 p6, .i .i64 p7, .lst p8 p9 5 p10, .lst p11 p12 13 p13]], .row 6 true false [[.i .i64 9, .lst p14 p15 1 p16, .lst true true 0 [], .i .i64 0, .i .i64 0, .i .u64 0]], .row 5 true false [[.i .i64 p17, .i .i64 p18, .i .i64 p19, .lst p20 p21 5 p22, .lst p23 p24 13 p25]], .row 3 true false [[.i .i64 v.2.1, .i .u64 v.2.2.1, .i .i64 0]], .row 5 true false [[.i .i64 p28, .i .i64 p29, .i .i64 p30, .lst v.2.2.2.1 v.2.2.2.2.1 5 v.2.2.2.2.2.1, .lst v.2.2.2.2.2.2.1 v.2.2.2.2.2.2.2.1 13 v.2.2.2.2.2.2.2.2]]]⟩
noncomputable def Qj_s (G : Qj_G) {ρ : Type} (n : Nat) (a0 a1 a2 : Int) (a3 a4 : Bool) (a5 : Rows) (a6 a7 : Bool) (a8 : Rows) (a9 : Int) (a10 a11 : Bool) (a12 : Rows) (a13 : Int) (k0 : (Bool → Option ρ)) : Option ρ :=
 G.Q0c ρ (fun w0_0 =>
 bif w0_0 then
 G.reevelaw19_way ρ a10 a11 a12 (G.reevelaw19_heavy ρ a0 a1 a2 a3 a4 a5 a6 a7 a8 9 a10 a11 a12 true true 0 0 0 (fun w2_0 =>
 bif w2_0 then
 k0 true
 else G.Qd ρ a0 a1 a2 a3 a4 a5 a6 a7 a8 (fun w3_0 =>
 bif w3_0 then
 bif decide ((a13 : Int) < 1) then
 k0 true
 else bif decide ((a13 : Int) > 5) then
 k0 true
 else G.Qt ρ a0 a1 a2 a3 a4 a5 a6 a7 a8 a9 9 a10 a11 a12 true true 0 0 0 (fun w4_0 w4_1 w4_2 w4_3 w4_4 w4_5 w4_6 w4_7 =>
 bif ((w4_6 : Int) != 0) then
 G.Q00 ρ a0 a1 a2 w4_0 w4_1 w4_2 w4_3 w4_4 w4_5 a0 a1 a2 a3 a4 a5 a6 a7 a8 (fun w5_0 =>
 bif w5_0 then
 k0 true
 else k0 false)
 else Qj_l11 G n a9 a10 a11 a12 a13 a0 a1 a2 a3 a4 a5 a6 a7 a8 a10 a11 a12 a0 a1 a2 w4_0 w4_1 w4_2 w4_3 w4_4 w4_5 a0 a1 a2 (fun _w6_0 _w6_1 _w6_2 _w6_3 _w6_4 _w6_5 _w6_6 _w6_7 =>
 k0 false) (fun _w7_0 _w7_1 w7_2 w7_3 w7_4 w7_5 w7_6 w7_7 =>
 G.reevelaw19_way ρ a10 a11 a12 (G.Qt ρ a0 a1 a2 w7_2 w7_3 w7_4 w7_5 w7_6 w7_7 a9 10 a10 a11 a12 true true 0 0 0 (fun w9_0 w9_1 w9_2 w9_3 w9_4 w9_5 w9_6 w9_7 =>
 G.Q00 ρ a0 a1 a2 w4_0 w4_1 w4_2 w4_3 w4_4 w4_5 a0 a1 a2 w7_2 w7_3 w7_4 w7_5 w7_6 w7_7 (fun w10_0 =>
 bif w10_0 then
 bif ((w9_6 : Int) != 0) then
 bif ((w9_6 : Int) == 6) then
 k0 true
 else k0 false
 else G.reevelaw19_way ρ a10 a11 a12 (G.Qt ρ a0 a1 a2 w9_0 w9_1 w9_2 w9_3 w9_4 w9_5 a9 10 a10 a11 a12 true true 0 0 0 (fun _w12_0 _w12_1 _w12_2 _w12_3 _w12_4 _w12_5 w12_6 _w12_7 =>
 bif ((w9_7 : Int) != 0) then
 bif ((w12_6 : Int) == 14) then
 k0 true
 else k0 false
 else k0 false))
 else k0 false)))) (0, w4_6, w4_7, w4_0, w4_1, w4_2, w4_3, w4_4, w4_5))
 else k0 true)))
 else k0 false)
noncomputable def Qj_g (n : Nat) : Qj_G := ⟨Q0c n, reevelaw19_way n, reevelaw19_heavy n, Qd n, Qt n, Q00 n⟩
noncomputable def Qj (n : Nat) : Qj_T := fun _ρ a0 a1 a2 a3 a4 a5 a6 a7 a8 a9 a10 a11 a12 a13 k0 => Qj_s (Qj_g n) n a0 a1 a2 a3 a4 a5 a6 a7 a8 a9 a10 a11 a12 a13 k0
noncomputable def Qj_e (n : Nat) : EK := Qj_E (Qj n)
def Qj_S (G : Qj_G) : CK := tabS [(6, Q0c_E G.Q0c), (7, reevelaw19_way_E G.reevelaw19_way), (8, reevelaw19_heavy_E G.reevelaw19_heavy), (9, Qd_E G.Qd), (10, Qt_E G.Qt), (11, Q00_E G.Q00)]
theorem Qj_Sok (n : Nat) : CK.OK (Qj_S (Qj_g n)) (L tab) := tabS_ok _ (List.forall_mem_cons.2 ⟨(Q0c_ok n), List.forall_mem_cons.2 ⟨(reevelaw19_way_ok n), List.forall_mem_cons.2 ⟨(reevelaw19_heavy_ok n), List.forall_mem_cons.2 ⟨(Qd_ok n), List.forall_mem_cons.2 ⟨(Qt_ok n), List.forall_mem_cons.2 ⟨(Q00_ok n), (fun _ h => nomatch h)⟩⟩⟩⟩⟩⟩)
def Qj_hs : HintC := hintL []
def Qj_c11 : Nat × List Nat × List Nat × MC := loopAt 11 m3
noncomputable def Qj_l11_d (G : Qj_G) (n : Nat) : Go.Rv.LE := fun _ρ h K => decSt [(1, .i .i64 none), (2, .lst none none 1 none), (3, .i .i64 none), (9, .ptr 1 6 0 (some 1) (some 0)), (10, .ptr 2 5 0 (some 1) (some 0)), (11, .ptr 3 3 0 (some 1) (some 0)), (12, .ptr 4 5 0 (some 1) (some 0)), (13, .i .i64 none)] [.row 5 true false (some [[.i .i64 none, .i .i64 none, .i .i64 none, .lst none none 5 none, .lst none none 13 none]]), .row 6 true false (some [[.i .i64 (some 9), .lst none none 1 none, .lst (some true) (some true) 0 (some []), .i .i64 (some 0), .i .i64 (some 0), .i .u64 (some 0)]]), .row 5 true false (some [[.i .i64 none, .i .i64 none, .i .i64 none, .lst none none 5 none, .lst none none 13 none]]), .row 3 true false (some [[.i .i64 none, .i .u64 none, .i .i64 (some 0)]]), .row 5 true false (some [[.i .i64 none, .i .i64 none, .i .i64 none, .lst none none 5 none, .lst none none 13 none]])] h fun a b => Qj_l11 G n a.1 a.2.1.1 a.2.1.2.1 a.2.1.2.2 a.2.2.1 b.1.1.1 b.1.1.2.1 b.1.1.2.2.1 b.1.1.2.2.2.1.1 b.1.1.2.2.2.1.2.1 b.1.1.2.2.2.1.2.2 b.1.1.2.2.2.2.1.1 b.1.1.2.2.2.2.1.2.1 b.1.1.2.2.2.2.1.2.2 b.2.1.1.2.1.1 b.2.1.1.2.1.2.1 b.2.1.1.2.1.2.2 b.2.2.1.1.1 b.2.2.1.1.2.1 b.2.2.1.1.2.2.1 b.2.2.1.1.2.2.2.1.1 b.2.2.1.1.2.2.2.1.2.1 b.2.2.1.1.2.2.2.1.2.2 b.2.2.1.1.2.2.2.2.1.1 b.2.2.1.1.2.2.2.2.1.2.1 b.2.2.1.1.2.2.2.2.1.2.2 b.2.2.2.2.1.1.1 b.2.2.2.2.1.1.2.1 b.2.2.2.2.1.1.2.2.1 (fun w0 w1 w2 w3 w4 w5 w6 w7 => K .ret ⟨[(1, .i .i64 a.1), (2, .lst a.2.1.1 a.2.1.2.1 1 a.2.1.2.2), (8, .b false), (10, .ptr 2 1 5 0 0), (12, .ptr 4 1 5 0 0)], [.row 5 true false [[.i .i64 b.1.1.1, .i .i64 b.1.1.2.1, .i .i64 b.1.1.2.2.1, .lst b.1.1.2.2.2.1.1 b.1.1.2.2.2.1.2.1 5 b.1.1.2.2.2.1.2.2, .lst b.1.1.2.2.2.2.1.1 b.1.1.2.2.2.2.1.2.1 13 b.1.1.2.2.2.2.1.2.2]], .row 6 true false [[.i .i64 9, .lst b.2.1.1.2.1.1 b.2.1.1.2.1.2.1 1 b.2.1.1.2.1.2.2, .lst true true 0 [], .i .i64 0, .i .i64 0, .i .u64 0]], .row 5 true false [[.i .i64 b.2.2.1.1.1, .i .i64 b.2.2.1.1.2.1, .i .i64 b.2.2.1.1.2.2.1, .lst b.2.2.1.1.2.2.2.1.1 b.2.2.1.1.2.2.2.1.2.1 5 b.2.2.1.1.2.2.2.1.2.2, .lst b.2.2.1.1.2.2.2.2.1.1 b.2.2.1.1.2.2.2.2.1.2.1 13 b.2.2.1.1.2.2.2.2.1.2.2]], .row 3 true false [[.i .i64 w0, .i .u64 w1, .i .i64 0]], .row 5 true false [[.i .i64 b.2.2.2.2.1.1.1, .i .i64 b.2.2.2.2.1.1.2.1, .i .i64 b.2.2.2.2.1.1.2.2.1, .lst w2 w3 5 w4, .lst w5 w6 13 w7]]]⟩) (fun w0 w1 w2 w3 w4 w5 w6 w7 => K (.exit 0) ⟨[(1, .i .i64 a.1), (2, .lst a.2.1.1 a.2.1.2.1 1 a.2.1.2.2), (8, .u), (10, .ptr 2 1 5 0 0), (12, .ptr 4 1 5 0 0)], [.row 5 true false [[.i .i64 b.1.1.1, .i .i64 b.1.1.2.1, .i .i64 b.1.1.2.2.1, .lst b.1.1.2.2.2.1.1 b.1.1.2.2.2.1.2.1 5 b.1.1.2.2.2.1.2.2, .lst b.1.1.2.2.2.2.1.1 b.1.1.2.2.2.2.1.2.1 13 b.1.1.2.2.2.2.1.2.2]], .row 6 true false [[.i .i64 9, .lst b.2.1.1.2.1.1 b.2.1.1.2.1.2.1 1 b.2.1.1.2.1.2.2, .lst true true 0 [], .i .i64 0, .i .i64 0, .i .u64 0]], .row 5 true false [[.i .i64 b.2.2.1.1.1, .i .i64 b.2.2.1.1.2.1, .i .i64 b.2.2.1.1.2.2.1, .lst b.2.2.1.1.2.2.2.1.1 b.2.2.1.1.2.2.2.1.2.1 5 b.2.2.1.1.2.2.2.1.2.2, .lst b.2.2.1.1.2.2.2.2.1.1 b.2.2.1.1.2.2.2.2.1.2.1 13 b.2.2.1.1.2.2.2.2.1.2.2]], .row 3 true false [[.i .i64 w0, .i .u64 w1, .i .i64 0]], .row 5 true false [[.i .i64 b.2.2.2.2.1.1.1, .i .i64 b.2.2.2.2.1.1.2.1, .i .i64 b.2.2.2.2.1.1.2.2.1, .lst w2 w3 5 w4, .lst w5 w6 13 w7]]]⟩) (a.2.2.2.2.2.2.2.1, b.2.2.2.1.1.1, b.2.2.2.1.1.2.1, b.2.2.2.2.1.1.2.2.2.1.1, b.2.2.2.2.1.1.2.2.2.1.2.1, b.2.2.2.2.1.1.2.2.2.1.2.2, b.2.2.2.2.1.1.2.2.2.2.1.1, b.2.2.2.2.1.1.2.2.2.2.1.2.1, b.2.2.2.2.1.1.2.2.2.2.1.2.2)
noncomputable def Qj_d11 (G : Qj_G) (n : Nat) : Go.Rv.LE := Qj_l11_d G n
noncomputable def Qj_lp (G : Qj_G) (n : Nat) : LK := tabL [(11, Qj_d11 G n)]
theorem Qj_l11_k (G : Qj_G) {ρ : Type} (n : Nat) (p0 : Int) (p1 p2 : Bool) (p3 : Rows) (p4 p5 : Int) (p6 p7 : Int) (p8 p9 : Bool) (p10 : Rows) (p11 p12 : Bool) (p13 : Rows) (p14 p15 : Bool) (p16 : Rows) (p17 p18 p19 : Int) (p20 p21 : Bool) (p22 : Rows) (p23 p24 : Bool) (p25 : Rows) (p28 p29 p30 : Int) (K : Ex → St → Option ρ) (N : St → Option ρ) : ∀ v, roundC (Qj_S G) Qj_hs (Qj_lp G n) Qj_c11 5 N K (Qj_l11_enc p0 p1 p2 p3 p4 p5 p6 p7 p8 p9 p10 p11 p12 p13 p14 p15 p16 p17 p18 p19 p20 p21 p22 p23 p24 p25 p28 p29 p30 v) = Qj_l11_s G n p0 p1 p2 p3 p4 p5 p6 p7 p8 p9 p10 p11 p12 p13 p14 p15 p16 p17 p18 p19 p20 p21 p22 p23 p24 p25 p28 p29 p30 (fun w0 w1 w2 w3 w4 w5 w6 w7 => K .ret ⟨[(1, .i .i64 p0), (2, .lst p1 p2 1 p3), (8, .b false), (10, .ptr 2 1 5 0 0), (12, .ptr 4 1 5 0 0)], [.row 5 true false [[.i .i64 p5, .i .i64 p6, .i .i64 p7, .lst p8 p9 5 p10, .lst p11 p12 13 p13]], .row 6 true false [[.i .i64 9, .lst p14 p15 1 p16, .lst true true 0 [], .i .i64 0, .i .i64 0, .i .u64 0]], .row 5 true false [[.i .i64 p17, .i .i64 p18, .i .i64 p19, .lst p20 p21 5 p22, .lst p23 p24 13 p25]], .row 3 true false [[.i .i64 w0, .i .u64 w1, .i .i64 0]], .row 5 true false [[.i .i64 p28, .i .i64 p29, .i .i64 p30, .lst w2 w3 5 w4, .lst w5 w6 13 w7]]]⟩) (fun w0 w1 w2 w3 w4 w5 w6 w7 => K (.exit 0) ⟨[(1, .i .i64 p0), (2, .lst p1 p2 1 p3), (8, .u), (10, .ptr 2 1 5 0 0), (12, .ptr 4 1 5 0 0)], [.row 5 true false [[.i .i64 p5, .i .i64 p6, .i .i64 p7, .lst p8 p9 5 p10, .lst p11 p12 13 p13]], .row 6 true false [[.i .i64 9, .lst p14 p15 1 p16, .lst true true 0 [], .i .i64 0, .i .i64 0, .i .u64 0]], .row 5 true false [[.i .i64 p17, .i .i64 p18, .i .i64 p19, .lst p20 p21 5 p22, .lst p23 p24 13 p25]], .row 3 true false [[.i .i64 w0, .i .u64 w1, .i .i64 0]], .row 5 true false [[.i .i64 p28, .i .i64 p29, .i .i64 p30, .lst w2 w3 5 w4, .lst w5 w6 13 w7]]]⟩) (fun v => N (Qj_l11_enc p0 p1 p2 p3 p4 p5 p6 p7 p8 p9 p10 p11 p12 p13 p14 p15 p16 p17 p18 p19 p20 p21 p22 p23 p24 p25 p28 p29 p30 v)) v
 | v => by kernel_rfl
theorem Qj_l11_dok (n : Nat) : LE.OK (Qj_l11_d (Qj_g n) n) (L tab) Qj_c11 := LE.shp (fun _ _ _ => rfl) fun ρ K y a b e => LE.rounds (Qj_Sok n) (LK.of (l := []) (by kernel_rfl) ((fun _ h => nomatch h))) (Qj_l11_k (Qj_g n) n _ _ _ _ _ _ _ _ _ _ _ _ _ _ _ _ _ _ _ _ _ _ _ _ _ _ _ _ _ K) (by kernel_rfl) (by kernel_rfl) e
theorem Qj_d11_ok (n : Nat) : LE.OK (Qj_d11 (Qj_g n) n) (L tab) Qj_c11 := Qj_l11_dok n
theorem Qj_k (G : Qj_G) {ρ : Type} (n : Nat) (a0 a1 a2 : Int) (a3 a4 : Bool) (a5 : Rows) (a6 a7 : Bool) (a8 : Rows) (a9 : Int) (a10 a11 : Bool) (a12 : Rows) (a13 : Int) (K : Res → Option ρ) : runC (Qj_S G) Qj_hs (Qj_lp G n) m3 [.agg [.i .i64 a0, .i .i64 a1, .i .i64 a2, .lst a3 a4 5 a5, .lst a6 a7 13 a8], .i .i64 a9, .lst a10 a11 1 a12, .i .i64 a13] K = Qj_s G n a0 a1 a2 a3 a4 a5 a6 a7 a8 a9 a10 a11 a12 a13 (fun w0 => K ⟨.b w0, [], []⟩) := by kernel_rfl
theorem Qj_ok (n : Nat) : EK.OK (Qj_e n) 3 (L tab) := EK.shp (fun _ _ _ => rfl) fun ρ K y c e => EK.run (Qj_Sok n) (by kernel_rfl) (MF.LKOK.of (LK.of (l := [Qj_c11]) (by kernel_rfl) (List.forall_mem_cons.2 ⟨LE.at (e := Qj_d11 (Qj_g n) n) (by kernel_rfl) (Qj_d11_ok n), (fun _ h => nomatch h)⟩))) (Qj_k (Qj_g n) n _ _ _ _ _ _ _ _ _ _ _ _ _ _ K) (by kernel_rfl) e
end Go.Rv
