/- functions as programs of ours, and their ties, part 4 -/
import Derived.Test.YtomdbiaoaemkmaaGreatNb
import Derived.KernelRfl
namespace Go.Rv
/-! reeve/give.moved -/
abbrev give_moved_T : Type 1 := (ρ : Type) → Int → Int → Int → Bool → Bool → Rows → Bool → Bool → Rows → Int → Int → (Nat → Nat → Rows → Option ρ) → (Nat → Nat → Nat → Nat → Rows → Rows → Option ρ) → Option ρ
def give_moved_E (G : give_moved_T) : EK := fun ρ args K => decL [.agg [.i .i64 none, .i .i64 none, .i .i64 none, .lst none none 5 none, .lst none none 13 none], .i .i64 none, .i .i64 none] args fun c => G ρ c.1.1 c.1.2.1 c.1.2.2.1 c.1.2.2.2.1.1 c.1.2.2.2.1.2.1 c.1.2.2.2.1.2.2 c.1.2.2.2.2.1.1 c.1.2.2.2.2.1.2.1 c.1.2.2.2.2.1.2.2 c.2.1 c.2.2.1 (fun w0 w1 w2 => K ⟨.agg [.i .i64 c.1.1, .i .i64 c.1.2.1, .i .i64 c.1.2.2.1, .sl 0 w0 5 0 w1, .lst true true 0 []], [.row 5 true false w2], []⟩) (fun w0 w1 w2 w3 w4 w5 => K ⟨.agg [.i .i64 c.1.1, .i .i64 c.1.2.1, .i .i64 c.1.2.2.1, .sl 0 w0 5 0 w1, .sl 1 w2 13 0 w3], [.row 5 true false w4, .row 13 true false w5], []⟩)
structure give_moved_G where
  mk ::
  state_Forest : state_Forest_T
  forest_Move : forest_Move_T
  state_Clone : state_Clone_T
abbrev give_moved_l5_0_V : Type := Unit
noncomputable def give_moved_l5_0_s (_G : give_moved_G) {ρ : Type} (_n : Nat) (_p0 : Int) (_p1 : Int) (_p2 : Int) (_p3 : Int) (_p4 : Int) (_p5 : Nat) (_p6 : Nat) (_p7 : Rows) (k0 : (Option ρ)) (_rec' : give_moved_l5_0_V → Option ρ) : give_moved_l5_0_V → Option ρ
  | _v =>
  k0
noncomputable def give_moved_l5_0 (G : give_moved_G) {ρ : Type} (n : Nat) (p0 : Int) (p1 : Int) (p2 : Int) (p3 : Int) (p4 : Int) (p5 : Nat) (p6 : Nat) (p7 : Rows) (k0 : (Option ρ)) (v : give_moved_l5_0_V) : Option ρ := fuelN (give_moved_l5_0_s G n p0 p1 p2 p3 p4 p5 p6 p7 k0) n v
def give_moved_l5_0_enc (p0 : Int) (p1 : Int) (p2 : Int) (p3 : Int) (p4 : Int) (p5 : Nat) (p6 : Nat) (p7 : Rows) : give_moved_l5_0_V → St
  | _v => ⟨[(1, .i .i64 p0), (2, .i .i64 p1), (3, .ptr 0 1 5 0 0), (6, .ptr 1 1 5 0 0), (40, .lst true true 0 []), (41, .i .i64 0), (42, .i .i64 0)], [.row 5 false false [[.i .i64 p2, .i .i64 p3, .i .i64 p4, .sl 3 p5 5 0 p6, .lst true true 0 []]], .row 5 true false [[.i .i64 0, .i .i64 0, .i .i64 0, .lst true true 0 [], .lst true true 0 []]], .row 1 true false [[.lst true true 0 []]], .row 5 true false p7]⟩
abbrev give_moved_l10_0_V : Type := Unit
noncomputable def give_moved_l10_0_s (_G : give_moved_G) {ρ : Type} (_n : Nat) (_p0 : Int) (_p1 : Int) (_p2 : Int) (_p3 : Int) (_p4 : Int) (_p5 : Nat) (_p6 : Nat) (_p7 : Rows) (k0 : (Option ρ)) (_rec' : give_moved_l10_0_V → Option ρ) : give_moved_l10_0_V → Option ρ
  | _v =>
  k0
noncomputable def give_moved_l10_0 (G : give_moved_G) {ρ : Type} (n : Nat) (p0 : Int) (p1 : Int) (p2 : Int) (p3 : Int) (p4 : Int) (p5 : Nat) (p6 : Nat) (p7 : Rows) (k0 : (Option ρ)) (v : give_moved_l10_0_V) : Option ρ := fuelN (give_moved_l10_0_s G n p0 p1 p2 p3 p4 p5 p6 p7 k0) n v
def give_moved_l10_0_enc (p0 : Int) (p1 : Int) (p2 : Int) (p3 : Int) (p4 : Int) (p5 : Nat) (p6 : Nat) (p7 : Rows) : give_moved_l10_0_V → St
  | _v => ⟨[(1, .i .i64 p0), (2, .i .i64 p1), (3, .ptr 0 1 5 0 0), (6, .ptr 1 1 5 0 0), (57, .i .i64 0), (58, .i .i64 0)], [.row 5 false false [[.i .i64 p2, .i .i64 p3, .i .i64 p4, .sl 3 p5 5 0 p6, .lst true true 0 []]], .row 5 true false [[.i .i64 0, .i .i64 0, .i .i64 0, .lst true true 0 [], .lst true true 0 []]], .row 1 true false [[.lst true true 0 []]], .row 5 true false p7]⟩
abbrev give_moved_l5_1_V : Type := Unit
noncomputable def give_moved_l5_1_s (_G : give_moved_G) {ρ : Type} (_n : Nat) (_p0 : Int) (_p1 : Int) (_p2 : Int) (_p3 : Int) (_p4 : Int) (_p5 : Nat) (_p6 : Nat) (_p7 : Nat) (_p8 : Nat) (_p9 : Rows) (_p10 : Rows) (k0 : (Option ρ)) (_rec' : give_moved_l5_1_V → Option ρ) : give_moved_l5_1_V → Option ρ
  | _v =>
  k0
noncomputable def give_moved_l5_1 (G : give_moved_G) {ρ : Type} (n : Nat) (p0 : Int) (p1 : Int) (p2 : Int) (p3 : Int) (p4 : Int) (p5 : Nat) (p6 : Nat) (p7 : Nat) (p8 : Nat) (p9 : Rows) (p10 : Rows) (k0 : (Option ρ)) (v : give_moved_l5_1_V) : Option ρ := fuelN (give_moved_l5_1_s G n p0 p1 p2 p3 p4 p5 p6 p7 p8 p9 p10 k0) n v
def give_moved_l5_1_enc (p0 : Int) (p1 : Int) (p2 : Int) (p3 : Int) (p4 : Int) (p5 : Nat) (p6 : Nat) (p7 : Nat) (p8 : Nat) (p9 : Rows) (p10 : Rows) : give_moved_l5_1_V → St
  | _v => ⟨[(1, .i .i64 p0), (2, .i .i64 p1), (3, .ptr 0 1 5 0 0), (6, .ptr 1 1 5 0 0), (40, .lst true true 0 []), (41, .i .i64 0), (42, .i .i64 0)], [.row 5 false false [[.i .i64 p2, .i .i64 p3, .i .i64 p4, .sl 3 p5 5 0 p6, .sl 4 p7 13 0 p8]], .row 5 true false [[.i .i64 0, .i .i64 0, .i .i64 0, .lst true true 0 [], .lst true true 0 []]], .row 1 true false [[.lst true true 0 []]], .row 5 true false p9, .row 13 true false p10]⟩
abbrev give_moved_l10_1_V : Type := Int × Rows
noncomputable def give_moved_l10_1_s (_G : give_moved_G) {ρ : Type} (_n : Nat) (p0 : Int) (p1 : Int) (p2 : Int) (_p3 : Int) (_p4 : Int) (_p5 : Int) (_p6 : Nat) (_p7 : Nat) (p8 : Nat) (p9 : Nat) (_p10 : Rows) (k0 : (Rows → Option ρ)) (rec' : give_moved_l10_1_V → Option ρ) : give_moved_l10_1_V → Option ρ
  | v =>
  bif decide ((v.1 : Int) < p2) then
    chk (decide ((0 : Int) ≤ v.1)) <|
    chk (decide ((v.1 : Int) < ((p9 : Nat) : Int))) <|
    chk (((List.length (v.2 : Rows)) : Nat) == p8) <|
    rowN [.i .i64, .i .i64, .i .i64, .i .i64, .i .i64, .i .i64, .i .i64, .b, .i .u64, .i .u64, .i .u64, .i .u64, .i .u64] v.2 (0 + v.1.toNat) fun c0 =>
    bif ((c0.2.2.2.2.2.1 : Int) == (IntKind.wrap .i64 (p0 + 1))) then
      chk (decide ((0 : Int) ≤ v.1)) <|
      chk (decide ((v.1 : Int) < ((p9 : Nat) : Int))) <|
      chk (((List.length (v.2 : Rows)) : Nat) == p8) <|
      rowN [.a, .a, .a, .a, .a, .a, .a, .a, .a, .a, .a, .a, .a] v.2 (0 + v.1.toNat) fun c1 =>
      rec' ((IntKind.wrap .i64 (v.1 + 1)), (List.set (v.2 : Rows) (0 + v.1.toNat) [c1.1, c1.2.1, c1.2.2.1, c1.2.2.2.1, c1.2.2.2.2.1, .i .i64 (IntKind.wrap .i64 (p1 + 1)), c1.2.2.2.2.2.2.1, c1.2.2.2.2.2.2.2.1, c1.2.2.2.2.2.2.2.2.1, c1.2.2.2.2.2.2.2.2.2.1, c1.2.2.2.2.2.2.2.2.2.2.1, c1.2.2.2.2.2.2.2.2.2.2.2.1, c1.2.2.2.2.2.2.2.2.2.2.2.2.1]))
    else rec' ((IntKind.wrap .i64 (v.1 + 1)), v.2)
  else k0 v.2
noncomputable def give_moved_l10_1 (G : give_moved_G) {ρ : Type} (n : Nat) (p0 : Int) (p1 : Int) (p2 : Int) (p3 : Int) (p4 : Int) (p5 : Int) (p6 : Nat) (p7 : Nat) (p8 : Nat) (p9 : Nat) (p10 : Rows) (k0 : (Rows → Option ρ)) (v : give_moved_l10_1_V) : Option ρ := fuelN (give_moved_l10_1_s G n p0 p1 p2 p3 p4 p5 p6 p7 p8 p9 p10 k0) n v
def give_moved_l10_1_enc (p0 : Int) (p1 : Int) (p2 : Int) (p3 : Int) (p4 : Int) (p5 : Int) (p6 : Nat) (p7 : Nat) (p8 : Nat) (p9 : Nat) (p10 : Rows) : give_moved_l10_1_V → St
  | v => ⟨[(1, .i .i64 p0), (2, .i .i64 p1), (3, .ptr 0 1 5 0 0), (6, .ptr 1 1 5 0 0), (57, .i .i64 p2), (58, .i .i64 v.1)], [.row 5 false false [[.i .i64 p3, .i .i64 p4, .i .i64 p5, .sl 3 p6 5 0 p7, .sl 4 p8 13 0 p9]], .row 5 true false [[.i .i64 0, .i .i64 0, .i .i64 0, .lst true true 0 [], .lst true true 0 []]], .row 1 true false [[.lst true true 0 []]], .row 5 true false p10, .row 13 true false v.2]⟩
abbrev give_moved_l5_2_V : Type := Int × Rows
noncomputable def give_moved_l5_2_s (_G : give_moved_G) {ρ : Type} (_n : Nat) (_p0 : Int) (_p1 : Int) (p2 : Nat) (p3 : Nat) (p4 : Int) (_p5 : Int) (_p6 : Int) (_p7 : Int) (p8 : Nat) (p9 : Nat) (p10 : Rows) (_p11 : Nat) (_p12 : Nat) (k0 : (Rows → Option ρ)) (rec' : give_moved_l5_2_V → Option ρ) : give_moved_l5_2_V → Option ρ
  | v =>
  bif decide ((v.1 : Int) < p4) then
    chk (decide ((0 : Int) ≤ v.1)) <|
    chk (decide ((v.1 : Int) < ((p3 : Nat) : Int))) <|
    chk (((List.length (p10 : Rows)) : Nat) == p2) <|
    rowN [.i .i64] p10 (0 + v.1.toNat) fun c0 =>
    chk (decide ((0 : Int) ≤ v.1)) <|
    chk (decide ((v.1 : Int) < ((p9 : Nat) : Int))) <|
    chk (((List.length (v.2 : Rows)) : Nat) == p8) <|
    rowN [.a, .a, .a, .a, .a] v.2 (0 + v.1.toNat) fun c1 =>
    rec' ((IntKind.wrap .i64 (v.1 + 1)), (List.set (v.2 : Rows) (0 + v.1.toNat) [c1.1, c1.2.1, c1.2.2.1, c1.2.2.2.1, .i .i64 (if (-1) > c0.1 then (-1) else c0.1)]))
  else k0 v.2
noncomputable def give_moved_l5_2 (G : give_moved_G) {ρ : Type} (n : Nat) (p0 : Int) (p1 : Int) (p2 : Nat) (p3 : Nat) (p4 : Int) (p5 : Int) (p6 : Int) (p7 : Int) (p8 : Nat) (p9 : Nat) (p10 : Rows) (p11 : Nat) (p12 : Nat) (k0 : (Rows → Option ρ)) (v : give_moved_l5_2_V) : Option ρ := fuelN (give_moved_l5_2_s G n p0 p1 p2 p3 p4 p5 p6 p7 p8 p9 p10 p11 p12 k0) n v
def give_moved_l5_2_enc (p0 : Int) (p1 : Int) (p2 : Nat) (p3 : Nat) (p4 : Int) (p5 : Int) (p6 : Int) (p7 : Int) (p8 : Nat) (p9 : Nat) (p10 : Rows) (p11 : Nat) (p12 : Nat) : give_moved_l5_2_V → St
  | v => ⟨[(1, .i .i64 p0), (2, .i .i64 p1), (3, .ptr 0 1 5 0 0), (6, .ptr 1 1 5 0 0), (40, .sl 2 p2 1 0 p3), (41, .i .i64 p4), (42, .i .i64 v.1)], [.row 5 false false [[.i .i64 p5, .i .i64 p6, .i .i64 p7, .sl 4 p8 5 0 p9, .lst true true 0 []]], .row 5 true false [[.i .i64 0, .i .i64 0, .i .i64 0, .lst true true 0 [], .lst true true 0 []]], .row 1 true false p10, .row 1 false false [[.sl 2 p11 1 0 p12]], .row 5 true false v.2]⟩
abbrev give_moved_l10_2_V : Type := Unit
noncomputable def give_moved_l10_2_s (_G : give_moved_G) {ρ : Type} (_n : Nat) (_p0 : Int) (_p1 : Int) (_p2 : Int) (_p3 : Int) (_p4 : Int) (_p5 : Nat) (_p6 : Nat) (_p7 : Rows) (_p8 : Nat) (_p9 : Nat) (_p10 : Rows) (k0 : (Option ρ)) (_rec' : give_moved_l10_2_V → Option ρ) : give_moved_l10_2_V → Option ρ
  | _v =>
  k0
noncomputable def give_moved_l10_2 (G : give_moved_G) {ρ : Type} (n : Nat) (p0 : Int) (p1 : Int) (p2 : Int) (p3 : Int) (p4 : Int) (p5 : Nat) (p6 : Nat) (p7 : Rows) (p8 : Nat) (p9 : Nat) (p10 : Rows) (k0 : (Option ρ)) (v : give_moved_l10_2_V) : Option ρ := fuelN (give_moved_l10_2_s G n p0 p1 p2 p3 p4 p5 p6 p7 p8 p9 p10 k0) n v
def give_moved_l10_2_enc (p0 : Int) (p1 : Int) (p2 : Int) (p3 : Int) (p4 : Int) (p5 : Nat) (p6 : Nat) (p7 : Rows) (p8 : Nat) (p9 : Nat) (p10 : Rows) : give_moved_l10_2_V → St
  | _v => ⟨[(1, .i .i64 p0), (2, .i .i64 p1), (3, .ptr 0 1 5 0 0), (6, .ptr 1 1 5 0 0), (57, .i .i64 0), (58, .i .i64 0)], [.row 5 false false [[.i .i64 p2, .i .i64 p3, .i .i64 p4, .sl 4 p5 5 0 p6, .lst true true 0 []]], .row 5 true false [[.i .i64 0, .i .i64 0, .i .i64 0, .lst true true 0 [], .lst true true 0 []]], .row 1 true false p7, .row 1 false false [[.sl 2 p8 1 0 p9]], .row 5 true false p10]⟩
abbrev give_moved_l5_3_V : Type := Int × Rows
noncomputable def give_moved_l5_3_s (_G : give_moved_G) {ρ : Type} (_n : Nat) (_p0 : Int) (_p1 : Int) (p2 : Nat) (p3 : Nat) (p4 : Int) (_p5 : Int) (_p6 : Int) (_p7 : Int) (p8 : Nat) (p9 : Nat) (_p10 : Nat) (_p11 : Nat) (p12 : Rows) (_p13 : Nat) (_p14 : Nat) (_p16 : Rows) (k0 : (Rows → Option ρ)) (rec' : give_moved_l5_3_V → Option ρ) : give_moved_l5_3_V → Option ρ
  | v =>
  bif decide ((v.1 : Int) < p4) then
    chk (decide ((0 : Int) ≤ v.1)) <|
    chk (decide ((v.1 : Int) < ((p3 : Nat) : Int))) <|
    chk (((List.length (p12 : Rows)) : Nat) == p2) <|
    rowN [.i .i64] p12 (0 + v.1.toNat) fun c0 =>
    chk (decide ((0 : Int) ≤ v.1)) <|
    chk (decide ((v.1 : Int) < ((p9 : Nat) : Int))) <|
    chk (((List.length (v.2 : Rows)) : Nat) == p8) <|
    rowN [.a, .a, .a, .a, .a] v.2 (0 + v.1.toNat) fun c1 =>
    rec' ((IntKind.wrap .i64 (v.1 + 1)), (List.set (v.2 : Rows) (0 + v.1.toNat) [c1.1, c1.2.1, c1.2.2.1, c1.2.2.2.1, .i .i64 (if (-1) > c0.1 then (-1) else c0.1)]))
  else k0 v.2
noncomputable def give_moved_l5_3 (G : give_moved_G) {ρ : Type} (n : Nat) (p0 : Int) (p1 : Int) (p2 : Nat) (p3 : Nat) (p4 : Int) (p5 : Int) (p6 : Int) (p7 : Int) (p8 : Nat) (p9 : Nat) (p10 : Nat) (p11 : Nat) (p12 : Rows) (p13 : Nat) (p14 : Nat) (p16 : Rows) (k0 : (Rows → Option ρ)) (v : give_moved_l5_3_V) : Option ρ := fuelN (give_moved_l5_3_s G n p0 p1 p2 p3 p4 p5 p6 p7 p8 p9 p10 p11 p12 p13 p14 p16 k0) n v
def give_moved_l5_3_enc (p0 : Int) (p1 : Int) (p2 : Nat) (p3 : Nat) (p4 : Int) (p5 : Int) (p6 : Int) (p7 : Int) (p8 : Nat) (p9 : Nat) (p10 : Nat) (p11 : Nat) (p12 : Rows) (p13 : Nat) (p14 : Nat) (p16 : Rows) : give_moved_l5_3_V → St
  | v => ⟨[(1, .i .i64 p0), (2, .i .i64 p1), (3, .ptr 0 1 5 0 0), (6, .ptr 1 1 5 0 0), (40, .sl 2 p2 1 0 p3), (41, .i .i64 p4), (42, .i .i64 v.1)], [.row 5 false false [[.i .i64 p5, .i .i64 p6, .i .i64 p7, .sl 4 p8 5 0 p9, .sl 5 p10 13 0 p11]], .row 5 true false [[.i .i64 0, .i .i64 0, .i .i64 0, .lst true true 0 [], .lst true true 0 []]], .row 1 true false p12, .row 1 false false [[.sl 2 p13 1 0 p14]], .row 5 true false v.2, .row 13 true false p16]⟩
abbrev give_moved_l10_3_V : Type := Int × Rows
noncomputable def give_moved_l10_3_s (_G : give_moved_G) {ρ : Type} (_n : Nat) (p0 : Int) (p1 : Int) (p2 : Int) (_p3 : Int) (_p4 : Int) (_p5 : Int) (_p6 : Nat) (_p7 : Nat) (p8 : Nat) (p9 : Nat) (_p10 : Rows) (_p11 : Nat) (_p12 : Nat) (_p13 : Rows) (k0 : (Rows → Option ρ)) (rec' : give_moved_l10_3_V → Option ρ) : give_moved_l10_3_V → Option ρ
  | v =>
  bif decide ((v.1 : Int) < p2) then
    chk (decide ((0 : Int) ≤ v.1)) <|
    chk (decide ((v.1 : Int) < ((p9 : Nat) : Int))) <|
    chk (((List.length (v.2 : Rows)) : Nat) == p8) <|
    rowN [.i .i64, .i .i64, .i .i64, .i .i64, .i .i64, .i .i64, .i .i64, .b, .i .u64, .i .u64, .i .u64, .i .u64, .i .u64] v.2 (0 + v.1.toNat) fun c0 =>
    bif ((c0.2.2.2.2.2.1 : Int) == (IntKind.wrap .i64 (p0 + 1))) then
      chk (decide ((0 : Int) ≤ v.1)) <|
      chk (decide ((v.1 : Int) < ((p9 : Nat) : Int))) <|
      chk (((List.length (v.2 : Rows)) : Nat) == p8) <|
      rowN [.a, .a, .a, .a, .a, .a, .a, .a, .a, .a, .a, .a, .a] v.2 (0 + v.1.toNat) fun c1 =>
      rec' ((IntKind.wrap .i64 (v.1 + 1)), (List.set (v.2 : Rows) (0 + v.1.toNat) [c1.1, c1.2.1, c1.2.2.1, c1.2.2.2.1, c1.2.2.2.2.1, .i .i64 (IntKind.wrap .i64 (p1 + 1)), c1.2.2.2.2.2.2.1, c1.2.2.2.2.2.2.2.1, c1.2.2.2.2.2.2.2.2.1, c1.2.2.2.2.2.2.2.2.2.1, c1.2.2.2.2.2.2.2.2.2.2.1, c1.2.2.2.2.2.2.2.2.2.2.2.1, c1.2.2.2.2.2.2.2.2.2.2.2.2.1]))
    else rec' ((IntKind.wrap .i64 (v.1 + 1)), v.2)
  else k0 v.2
noncomputable def give_moved_l10_3 (G : give_moved_G) {ρ : Type} (n : Nat) (p0 : Int) (p1 : Int) (p2 : Int) (p3 : Int) (p4 : Int) (p5 : Int) (p6 : Nat) (p7 : Nat) (p8 : Nat) (p9 : Nat) (p10 : Rows) (p11 : Nat) (p12 : Nat) (p13 : Rows) (k0 : (Rows → Option ρ)) (v : give_moved_l10_3_V) : Option ρ := fuelN (give_moved_l10_3_s G n p0 p1 p2 p3 p4 p5 p6 p7 p8 p9 p10 p11 p12 p13 k0) n v
def give_moved_l10_3_enc (p0 : Int) (p1 : Int) (p2 : Int) (p3 : Int) (p4 : Int) (p5 : Int) (p6 : Nat) (p7 : Nat) (p8 : Nat) (p9 : Nat) (p10 : Rows) (p11 : Nat) (p12 : Nat) (p13 : Rows) : give_moved_l10_3_V → St
  | v => ⟨[(1, .i .i64 p0), (2, .i .i64 p1), (3, .ptr 0 1 5 0 0), (6, .ptr 1 1 5 0 0), (57, .i .i64 p2), (58, .i .i64 v.1)], [.row 5 false false [[.i .i64 p3, .i .i64 p4, .i .i64 p5, .sl 4 p6 5 0 p7, .sl 5 p8 13 0 p9]], .row 5 true false [[.i .i64 0, .i .i64 0, .i .i64 0, .lst true true 0 [], .lst true true 0 []]], .row 1 true false p10, .row 1 false false [[.sl 2 p11 1 0 p12]], .row 5 true false p13, .row 13 true false v.2]⟩
noncomputable def give_moved_s (G : give_moved_G) {ρ : Type} (n : Nat) (a0 : Int) (a1 : Int) (a2 : Int) (a3 : Bool) (a4 : Bool) (a5 : Rows) (a6 : Bool) (a7 : Bool) (a8 : Rows) (a9 : Int) (a10 : Int) (k0 : (Nat → Nat → Rows → Option ρ)) (k1 : (Nat → Nat → Nat → Nat → Rows → Rows → Option ρ)) : Option ρ :=
  G.state_Forest ρ a0 a1 a2 a3 a4 a5 a6 a7 a8 (fun w0_0 w0_1 w0_2 =>
    G.forest_Move ρ w0_0 w0_1 w0_2 a9 a10 (G.state_Clone ρ a0 a1 a2 a3 a4 a5 a6 a7 a8 (none) (fun _w3_0 _w3_1 _w3_2 =>
        none) (fun w4_0 w4_1 w4_2 =>
        chk (decide ((0 : Int) ≤ a9)) <|
        chk (decide ((a9 : Int) < ((w4_1 : Nat) : Int))) <|
        chk (((List.length (w4_2 : Rows)) : Nat) == w4_0) <|
        rowN [.i .i64, .i .i64, .i .i64, .i .i64, .i .i64] w4_2 (0 + a9.toNat) fun c5 =>
        chk (decide ((0 : Int) ≤ a10)) <|
        chk (decide ((a10 : Int) < ((w4_1 : Nat) : Int))) <|
        chk (((List.length (w4_2 : Rows)) : Nat) == w4_0) <|
        rowN [.a, .a, .a, .a, .a] w4_2 (0 + a10.toNat) fun c6 =>
        chk (decide ((0 : Int) ≤ a9)) <|
        chk (decide ((a9 : Int) < ((w4_1 : Nat) : Int))) <|
        chk (((List.length ((List.set (w4_2 : Rows) (0 + a10.toNat) [.i .i64 c5.1, .i .i64 c5.2.1, .i .i64 c5.2.2.1, .i .i64 c5.2.2.2.1, c6.2.2.2.2.1]) : Rows)) : Nat) == w4_0) <|
        rowN [.a, .a, .a, .a, .a] (List.set (w4_2 : Rows) (0 + a10.toNat) [.i .i64 c5.1, .i .i64 c5.2.1, .i .i64 c5.2.2.1, .i .i64 c5.2.2.2.1, c6.2.2.2.2.1]) (0 + a9.toNat) fun c7 =>
        give_moved_l5_0 G n a9 a10 a0 a1 a2 w4_0 w4_1 (List.set ((List.set (w4_2 : Rows) (0 + a10.toNat) [.i .i64 c5.1, .i .i64 c5.2.1, .i .i64 c5.2.2.1, .i .i64 c5.2.2.2.1, c6.2.2.2.2.1]) : Rows) (0 + a9.toNat) [.i .i64 0, .i .i64 0, .i .i64 0, .i .i64 0, c7.2.2.2.2.1]) (give_moved_l10_0 G n a9 a10 a0 a1 a2 w4_0 w4_1 (List.set ((List.set (w4_2 : Rows) (0 + a10.toNat) [.i .i64 c5.1, .i .i64 c5.2.1, .i .i64 c5.2.2.1, .i .i64 c5.2.2.2.1, c6.2.2.2.2.1]) : Rows) (0 + a9.toNat) [.i .i64 0, .i .i64 0, .i .i64 0, .i .i64 0, c7.2.2.2.2.1]) (k0 w4_0 w4_1 (List.set ((List.set (w4_2 : Rows) (0 + a10.toNat) [.i .i64 c5.1, .i .i64 c5.2.1, .i .i64 c5.2.2.1, .i .i64 c5.2.2.2.1, c6.2.2.2.2.1]) : Rows) (0 + a9.toNat) [.i .i64 0, .i .i64 0, .i .i64 0, .i .i64 0, c7.2.2.2.2.1])) ()) ()) (fun w10_0 w10_1 w10_2 w10_3 w10_4 w10_5 =>
        chk (decide ((0 : Int) ≤ a9)) <|
        chk (decide ((a9 : Int) < ((w10_1 : Nat) : Int))) <|
        chk (((List.length (w10_4 : Rows)) : Nat) == w10_0) <|
        rowN [.i .i64, .i .i64, .i .i64, .i .i64, .i .i64] w10_4 (0 + a9.toNat) fun c11 =>
        chk (decide ((0 : Int) ≤ a10)) <|
        chk (decide ((a10 : Int) < ((w10_1 : Nat) : Int))) <|
        chk (((List.length (w10_4 : Rows)) : Nat) == w10_0) <|
        rowN [.a, .a, .a, .a, .a] w10_4 (0 + a10.toNat) fun c12 =>
        chk (decide ((0 : Int) ≤ a9)) <|
        chk (decide ((a9 : Int) < ((w10_1 : Nat) : Int))) <|
        chk (((List.length ((List.set (w10_4 : Rows) (0 + a10.toNat) [.i .i64 c11.1, .i .i64 c11.2.1, .i .i64 c11.2.2.1, .i .i64 c11.2.2.2.1, c12.2.2.2.2.1]) : Rows)) : Nat) == w10_0) <|
        rowN [.a, .a, .a, .a, .a] (List.set (w10_4 : Rows) (0 + a10.toNat) [.i .i64 c11.1, .i .i64 c11.2.1, .i .i64 c11.2.2.1, .i .i64 c11.2.2.2.1, c12.2.2.2.2.1]) (0 + a9.toNat) fun c13 =>
        give_moved_l5_1 G n a9 a10 a0 a1 a2 w10_0 w10_1 w10_2 w10_3 (List.set ((List.set (w10_4 : Rows) (0 + a10.toNat) [.i .i64 c11.1, .i .i64 c11.2.1, .i .i64 c11.2.2.1, .i .i64 c11.2.2.2.1, c12.2.2.2.2.1]) : Rows) (0 + a9.toNat) [.i .i64 0, .i .i64 0, .i .i64 0, .i .i64 0, c13.2.2.2.2.1]) w10_5 (give_moved_l10_1 G n a9 a10 ((w10_3 : Nat) : Int) a0 a1 a2 w10_0 w10_1 w10_2 w10_3 (List.set ((List.set (w10_4 : Rows) (0 + a10.toNat) [.i .i64 c11.1, .i .i64 c11.2.1, .i .i64 c11.2.2.1, .i .i64 c11.2.2.2.1, c12.2.2.2.2.1]) : Rows) (0 + a9.toNat) [.i .i64 0, .i .i64 0, .i .i64 0, .i .i64 0, c13.2.2.2.2.1]) (fun w15_0 =>
            k1 w10_0 w10_1 w10_2 w10_3 (List.set ((List.set (w10_4 : Rows) (0 + a10.toNat) [.i .i64 c11.1, .i .i64 c11.2.1, .i .i64 c11.2.2.1, .i .i64 c11.2.2.2.1, c12.2.2.2.2.1]) : Rows) (0 + a9.toNat) [.i .i64 0, .i .i64 0, .i .i64 0, .i .i64 0, c13.2.2.2.2.1]) w15_0) (0, w10_5)) ())) (fun w16_0 w16_1 w16_2 =>
      G.state_Clone ρ a0 a1 a2 a3 a4 a5 a6 a7 a8 (none) (fun _w18_0 _w18_1 _w18_2 =>
        none) (fun w19_0 w19_1 w19_2 =>
        chk (decide ((0 : Int) ≤ a9)) <|
        chk (decide ((a9 : Int) < ((w19_1 : Nat) : Int))) <|
        chk (((List.length (w19_2 : Rows)) : Nat) == w19_0) <|
        rowN [.i .i64, .i .i64, .i .i64, .i .i64, .i .i64] w19_2 (0 + a9.toNat) fun c20 =>
        chk (decide ((0 : Int) ≤ a10)) <|
        chk (decide ((a10 : Int) < ((w19_1 : Nat) : Int))) <|
        chk (((List.length (w19_2 : Rows)) : Nat) == w19_0) <|
        rowN [.a, .a, .a, .a, .a] w19_2 (0 + a10.toNat) fun c21 =>
        chk (decide ((0 : Int) ≤ a9)) <|
        chk (decide ((a9 : Int) < ((w19_1 : Nat) : Int))) <|
        chk (((List.length ((List.set (w19_2 : Rows) (0 + a10.toNat) [.i .i64 c20.1, .i .i64 c20.2.1, .i .i64 c20.2.2.1, .i .i64 c20.2.2.2.1, c21.2.2.2.2.1]) : Rows)) : Nat) == w19_0) <|
        rowN [.a, .a, .a, .a, .a] (List.set (w19_2 : Rows) (0 + a10.toNat) [.i .i64 c20.1, .i .i64 c20.2.1, .i .i64 c20.2.2.1, .i .i64 c20.2.2.2.1, c21.2.2.2.2.1]) (0 + a9.toNat) fun c22 =>
        give_moved_l5_2 G n a9 a10 w16_0 w16_1 ((w16_1 : Nat) : Int) a0 a1 a2 w19_0 w19_1 w16_2 w16_0 w16_1 (fun w23_0 =>
          give_moved_l10_2 G n a9 a10 a0 a1 a2 w19_0 w19_1 w16_2 w16_0 w16_1 w23_0 (k0 w19_0 w19_1 w23_0) ()) (0, (List.set ((List.set (w19_2 : Rows) (0 + a10.toNat) [.i .i64 c20.1, .i .i64 c20.2.1, .i .i64 c20.2.2.1, .i .i64 c20.2.2.2.1, c21.2.2.2.2.1]) : Rows) (0 + a9.toNat) [.i .i64 0, .i .i64 0, .i .i64 0, .i .i64 0, c22.2.2.2.2.1]))) (fun w25_0 w25_1 w25_2 w25_3 w25_4 w25_5 =>
        chk (decide ((0 : Int) ≤ a9)) <|
        chk (decide ((a9 : Int) < ((w25_1 : Nat) : Int))) <|
        chk (((List.length (w25_4 : Rows)) : Nat) == w25_0) <|
        rowN [.i .i64, .i .i64, .i .i64, .i .i64, .i .i64] w25_4 (0 + a9.toNat) fun c26 =>
        chk (decide ((0 : Int) ≤ a10)) <|
        chk (decide ((a10 : Int) < ((w25_1 : Nat) : Int))) <|
        chk (((List.length (w25_4 : Rows)) : Nat) == w25_0) <|
        rowN [.a, .a, .a, .a, .a] w25_4 (0 + a10.toNat) fun c27 =>
        chk (decide ((0 : Int) ≤ a9)) <|
        chk (decide ((a9 : Int) < ((w25_1 : Nat) : Int))) <|
        chk (((List.length ((List.set (w25_4 : Rows) (0 + a10.toNat) [.i .i64 c26.1, .i .i64 c26.2.1, .i .i64 c26.2.2.1, .i .i64 c26.2.2.2.1, c27.2.2.2.2.1]) : Rows)) : Nat) == w25_0) <|
        rowN [.a, .a, .a, .a, .a] (List.set (w25_4 : Rows) (0 + a10.toNat) [.i .i64 c26.1, .i .i64 c26.2.1, .i .i64 c26.2.2.1, .i .i64 c26.2.2.2.1, c27.2.2.2.2.1]) (0 + a9.toNat) fun c28 =>
        give_moved_l5_3 G n a9 a10 w16_0 w16_1 ((w16_1 : Nat) : Int) a0 a1 a2 w25_0 w25_1 w25_2 w25_3 w16_2 w16_0 w16_1 w25_5 (fun w29_0 =>
          give_moved_l10_3 G n a9 a10 ((w25_3 : Nat) : Int) a0 a1 a2 w25_0 w25_1 w25_2 w25_3 w16_2 w16_0 w16_1 w29_0 (fun w30_0 =>
            k1 w25_0 w25_1 w25_2 w25_3 w29_0 w30_0) (0, w25_5)) (0, (List.set ((List.set (w25_4 : Rows) (0 + a10.toNat) [.i .i64 c26.1, .i .i64 c26.2.1, .i .i64 c26.2.2.1, .i .i64 c26.2.2.2.1, c27.2.2.2.2.1]) : Rows) (0 + a9.toNat) [.i .i64 0, .i .i64 0, .i .i64 0, .i .i64 0, c28.2.2.2.2.1])))))
noncomputable def give_moved_g (n : Nat) : give_moved_G := ⟨state_Forest n, forest_Move n, state_Clone n⟩
noncomputable def give_moved (n : Nat) : give_moved_T := fun _ρ a0 a1 a2 a3 a4 a5 a6 a7 a8 a9 a10 k0 k1 => give_moved_s (give_moved_g n) n a0 a1 a2 a3 a4 a5 a6 a7 a8 a9 a10 k0 k1
noncomputable def give_moved_e (n : Nat) : EK := give_moved_E (give_moved n)
def give_moved_S (G : give_moved_G) : CK := tabS [(31, state_Forest_E G.state_Forest), (99, forest_Move_E G.forest_Move), (23, state_Clone_E G.state_Clone)]
theorem give_moved_Sok (n : Nat) : CK.OK (give_moved_S (give_moved_g n)) (L tab) := tabS_ok _ (List.forall_mem_cons.2 ⟨(state_Forest_ok n), List.forall_mem_cons.2 ⟨(forest_Move_ok n), List.forall_mem_cons.2 ⟨(state_Clone_ok n), (fun _ h => nomatch h)⟩⟩⟩)
def give_moved_hs : HintC := hintL [(33, [.i .i64, .i .i64, .i .i64, .i .i64, .i .i64]), (66, [.i .i64, .i .i64, .i .i64, .i .i64, .i .i64, .i .i64, .i .i64, .b, .i .u64, .i .u64, .i .u64, .i .u64, .i .u64]), (46, [.i .i64])]
def give_moved_c5 : Nat × List Nat × List Nat × MC := loopAt 5 m77
noncomputable def give_moved_l5_3_d (G : give_moved_G) (n : Nat) : Go.Rv.LE := fun _ρ h K => decSt [(1, .i .i64 none), (2, .i .i64 none), (3, .ptr 0 5 0 (some 1) (some 0)), (6, .ptr 1 5 0 (some 1) (some 0)), (40, .sl 2 1 none (some 0) none), (41, .i .i64 none), (42, .i .i64 none)] [.row 5 false false (some [[.i .i64 none, .i .i64 none, .i .i64 none, .sl 4 5 none (some 0) none, .sl 5 13 none (some 0) none]]), .row 5 true false (some [[.i .i64 (some 0), .i .i64 (some 0), .i .i64 (some 0), .lst (some true) (some true) 0 (some []), .lst (some true) (some true) 0 (some [])]]), .row 1 true false none, .row 1 false false (some [[.sl 2 1 none (some 0) none]]), .row 5 true false none, .row 13 true false none] h fun a b => give_moved_l5_3 G n a.1 a.2.1 a.2.2.2.2.1.1 a.2.2.2.2.1.2.2 a.2.2.2.2.2.1 b.1.1.1 b.1.1.2.1 b.1.1.2.2.1 b.1.1.2.2.2.1.1 b.1.1.2.2.2.1.2.2 b.1.1.2.2.2.2.1.1 b.1.1.2.2.2.2.1.2.2 b.2.2.1 b.2.2.2.1.1.1.1 b.2.2.2.1.1.1.2.2 b.2.2.2.2.2.1 (fun w0 => K (.exit 0) ⟨[(1, .i .i64 a.1), (2, .i .i64 a.2.1), (3, .ptr 0 1 5 0 0), (6, .ptr 1 1 5 0 0)], [.row 5 false false [[.i .i64 b.1.1.1, .i .i64 b.1.1.2.1, .i .i64 b.1.1.2.2.1, .sl 4 b.1.1.2.2.2.1.1 5 0 b.1.1.2.2.2.1.2.2, .sl 5 b.1.1.2.2.2.2.1.1 13 0 b.1.1.2.2.2.2.1.2.2]], .row 5 true false [[.i .i64 0, .i .i64 0, .i .i64 0, .lst true true 0 [], .lst true true 0 []]], .row 1 true false b.2.2.1, .row 1 false false [[.sl 2 b.2.2.2.1.1.1.1 1 0 b.2.2.2.1.1.1.2.2]], .row 5 true false w0, .row 13 true false b.2.2.2.2.2.1]⟩) (a.2.2.2.2.2.2.1, b.2.2.2.2.1)
noncomputable def give_moved_l5_2_d (G : give_moved_G) (n : Nat) : Go.Rv.LE := fun _ρ h K => decSt [(1, .i .i64 none), (2, .i .i64 none), (3, .ptr 0 5 0 (some 1) (some 0)), (6, .ptr 1 5 0 (some 1) (some 0)), (40, .sl 2 1 none (some 0) none), (41, .i .i64 none), (42, .i .i64 none)] [.row 5 false false (some [[.i .i64 none, .i .i64 none, .i .i64 none, .sl 4 5 none (some 0) none, .lst (some true) (some true) 0 (some [])]]), .row 5 true false (some [[.i .i64 (some 0), .i .i64 (some 0), .i .i64 (some 0), .lst (some true) (some true) 0 (some []), .lst (some true) (some true) 0 (some [])]]), .row 1 true false none, .row 1 false false (some [[.sl 2 1 none (some 0) none]]), .row 5 true false none] h fun a b => give_moved_l5_2 G n a.1 a.2.1 a.2.2.2.2.1.1 a.2.2.2.2.1.2.2 a.2.2.2.2.2.1 b.1.1.1 b.1.1.2.1 b.1.1.2.2.1 b.1.1.2.2.2.1.1 b.1.1.2.2.2.1.2.2 b.2.2.1 b.2.2.2.1.1.1.1 b.2.2.2.1.1.1.2.2 (fun w0 => K (.exit 0) ⟨[(1, .i .i64 a.1), (2, .i .i64 a.2.1), (3, .ptr 0 1 5 0 0), (6, .ptr 1 1 5 0 0)], [.row 5 false false [[.i .i64 b.1.1.1, .i .i64 b.1.1.2.1, .i .i64 b.1.1.2.2.1, .sl 4 b.1.1.2.2.2.1.1 5 0 b.1.1.2.2.2.1.2.2, .lst true true 0 []]], .row 5 true false [[.i .i64 0, .i .i64 0, .i .i64 0, .lst true true 0 [], .lst true true 0 []]], .row 1 true false b.2.2.1, .row 1 false false [[.sl 2 b.2.2.2.1.1.1.1 1 0 b.2.2.2.1.1.1.2.2]], .row 5 true false w0]⟩) (a.2.2.2.2.2.2.1, b.2.2.2.2.1)
noncomputable def give_moved_l5_1_d (G : give_moved_G) (n : Nat) : Go.Rv.LE := fun _ρ h K => decSt [(1, .i .i64 none), (2, .i .i64 none), (3, .ptr 0 5 0 (some 1) (some 0)), (6, .ptr 1 5 0 (some 1) (some 0)), (40, .lst (some true) (some true) 0 (some [])), (41, .i .i64 (some 0)), (42, .i .i64 (some 0))] [.row 5 false false (some [[.i .i64 none, .i .i64 none, .i .i64 none, .sl 3 5 none (some 0) none, .sl 4 13 none (some 0) none]]), .row 5 true false (some [[.i .i64 (some 0), .i .i64 (some 0), .i .i64 (some 0), .lst (some true) (some true) 0 (some []), .lst (some true) (some true) 0 (some [])]]), .row 1 true false (some [[.lst (some true) (some true) 0 (some [])]]), .row 5 true false none, .row 13 true false none] h fun a b => give_moved_l5_1 G n a.1 a.2.1 b.1.1.1 b.1.1.2.1 b.1.1.2.2.1 b.1.1.2.2.2.1.1 b.1.1.2.2.2.1.2.2 b.1.1.2.2.2.2.1.1 b.1.1.2.2.2.2.1.2.2 b.2.2.2.1 b.2.2.2.2.1 (K (.exit 0) ⟨[(1, .i .i64 a.1), (2, .i .i64 a.2.1), (3, .ptr 0 1 5 0 0), (6, .ptr 1 1 5 0 0)], [.row 5 false false [[.i .i64 b.1.1.1, .i .i64 b.1.1.2.1, .i .i64 b.1.1.2.2.1, .sl 3 b.1.1.2.2.2.1.1 5 0 b.1.1.2.2.2.1.2.2, .sl 4 b.1.1.2.2.2.2.1.1 13 0 b.1.1.2.2.2.2.1.2.2]], .row 5 true false [[.i .i64 0, .i .i64 0, .i .i64 0, .lst true true 0 [], .lst true true 0 []]], .row 1 true false [[.lst true true 0 []]], .row 5 true false b.2.2.2.1, .row 13 true false b.2.2.2.2.1]⟩) ()
noncomputable def give_moved_l5_0_d (G : give_moved_G) (n : Nat) : Go.Rv.LE := fun _ρ h K => decSt [(1, .i .i64 none), (2, .i .i64 none), (3, .ptr 0 5 0 (some 1) (some 0)), (6, .ptr 1 5 0 (some 1) (some 0)), (40, .lst (some true) (some true) 0 (some [])), (41, .i .i64 (some 0)), (42, .i .i64 (some 0))] [.row 5 false false (some [[.i .i64 none, .i .i64 none, .i .i64 none, .sl 3 5 none (some 0) none, .lst (some true) (some true) 0 (some [])]]), .row 5 true false (some [[.i .i64 (some 0), .i .i64 (some 0), .i .i64 (some 0), .lst (some true) (some true) 0 (some []), .lst (some true) (some true) 0 (some [])]]), .row 1 true false (some [[.lst (some true) (some true) 0 (some [])]]), .row 5 true false none] h fun a b => give_moved_l5_0 G n a.1 a.2.1 b.1.1.1 b.1.1.2.1 b.1.1.2.2.1 b.1.1.2.2.2.1.1 b.1.1.2.2.2.1.2.2 b.2.2.2.1 (K (.exit 0) ⟨[(1, .i .i64 a.1), (2, .i .i64 a.2.1), (3, .ptr 0 1 5 0 0), (6, .ptr 1 1 5 0 0)], [.row 5 false false [[.i .i64 b.1.1.1, .i .i64 b.1.1.2.1, .i .i64 b.1.1.2.2.1, .sl 3 b.1.1.2.2.2.1.1 5 0 b.1.1.2.2.2.1.2.2, .lst true true 0 []]], .row 5 true false [[.i .i64 0, .i .i64 0, .i .i64 0, .lst true true 0 [], .lst true true 0 []]], .row 1 true false [[.lst true true 0 []]], .row 5 true false b.2.2.2.1]⟩) ()
noncomputable def give_moved_d5 (G : give_moved_G) (n : Nat) : Go.Rv.LE := altL [(1, .i .i64 none), (2, .i .i64 none), (3, .ptr 0 5 0 (some 1) (some 0)), (6, .ptr 1 5 0 (some 1) (some 0)), (40, .sl 2 1 none (some 0) none), (41, .i .i64 none), (42, .i .i64 none)] [.row 5 false false (some [[.i .i64 none, .i .i64 none, .i .i64 none, .sl 4 5 none (some 0) none, .sl 5 13 none (some 0) none]]), .row 5 true false (some [[.i .i64 (some 0), .i .i64 (some 0), .i .i64 (some 0), .lst (some true) (some true) 0 (some []), .lst (some true) (some true) 0 (some [])]]), .row 1 true false none, .row 1 false false (some [[.sl 2 1 none (some 0) none]]), .row 5 true false none, .row 13 true false none] (give_moved_l5_3_d G n) (altL [(1, .i .i64 none), (2, .i .i64 none), (3, .ptr 0 5 0 (some 1) (some 0)), (6, .ptr 1 5 0 (some 1) (some 0)), (40, .sl 2 1 none (some 0) none), (41, .i .i64 none), (42, .i .i64 none)] [.row 5 false false (some [[.i .i64 none, .i .i64 none, .i .i64 none, .sl 4 5 none (some 0) none, .lst (some true) (some true) 0 (some [])]]), .row 5 true false (some [[.i .i64 (some 0), .i .i64 (some 0), .i .i64 (some 0), .lst (some true) (some true) 0 (some []), .lst (some true) (some true) 0 (some [])]]), .row 1 true false none, .row 1 false false (some [[.sl 2 1 none (some 0) none]]), .row 5 true false none] (give_moved_l5_2_d G n) (altL [(1, .i .i64 none), (2, .i .i64 none), (3, .ptr 0 5 0 (some 1) (some 0)), (6, .ptr 1 5 0 (some 1) (some 0)), (40, .lst (some true) (some true) 0 (some [])), (41, .i .i64 (some 0)), (42, .i .i64 (some 0))] [.row 5 false false (some [[.i .i64 none, .i .i64 none, .i .i64 none, .sl 3 5 none (some 0) none, .sl 4 13 none (some 0) none]]), .row 5 true false (some [[.i .i64 (some 0), .i .i64 (some 0), .i .i64 (some 0), .lst (some true) (some true) 0 (some []), .lst (some true) (some true) 0 (some [])]]), .row 1 true false (some [[.lst (some true) (some true) 0 (some [])]]), .row 5 true false none, .row 13 true false none] (give_moved_l5_1_d G n) (give_moved_l5_0_d G n)))
def give_moved_c10 : Nat × List Nat × List Nat × MC := loopAt 10 m77
noncomputable def give_moved_l10_3_d (G : give_moved_G) (n : Nat) : Go.Rv.LE := fun _ρ h K => decSt [(1, .i .i64 none), (2, .i .i64 none), (3, .ptr 0 5 0 (some 1) (some 0)), (6, .ptr 1 5 0 (some 1) (some 0)), (57, .i .i64 none), (58, .i .i64 none)] [.row 5 false false (some [[.i .i64 none, .i .i64 none, .i .i64 none, .sl 4 5 none (some 0) none, .sl 5 13 none (some 0) none]]), .row 5 true false (some [[.i .i64 (some 0), .i .i64 (some 0), .i .i64 (some 0), .lst (some true) (some true) 0 (some []), .lst (some true) (some true) 0 (some [])]]), .row 1 true false none, .row 1 false false (some [[.sl 2 1 none (some 0) none]]), .row 5 true false none, .row 13 true false none] h fun a b => give_moved_l10_3 G n a.1 a.2.1 a.2.2.2.2.1 b.1.1.1 b.1.1.2.1 b.1.1.2.2.1 b.1.1.2.2.2.1.1 b.1.1.2.2.2.1.2.2 b.1.1.2.2.2.2.1.1 b.1.1.2.2.2.2.1.2.2 b.2.2.1 b.2.2.2.1.1.1.1 b.2.2.2.1.1.1.2.2 b.2.2.2.2.1 (fun w0 => K (.exit 2) ⟨[(3, .ptr 0 1 5 0 0), (6, .ptr 1 1 5 0 0)], [.row 5 false false [[.i .i64 b.1.1.1, .i .i64 b.1.1.2.1, .i .i64 b.1.1.2.2.1, .sl 4 b.1.1.2.2.2.1.1 5 0 b.1.1.2.2.2.1.2.2, .sl 5 b.1.1.2.2.2.2.1.1 13 0 b.1.1.2.2.2.2.1.2.2]], .row 5 true false [[.i .i64 0, .i .i64 0, .i .i64 0, .lst true true 0 [], .lst true true 0 []]], .row 1 true false b.2.2.1, .row 1 false false [[.sl 2 b.2.2.2.1.1.1.1 1 0 b.2.2.2.1.1.1.2.2]], .row 5 true false b.2.2.2.2.1, .row 13 true false w0]⟩) (a.2.2.2.2.2.1, b.2.2.2.2.2.1)
noncomputable def give_moved_l10_1_d (G : give_moved_G) (n : Nat) : Go.Rv.LE := fun _ρ h K => decSt [(1, .i .i64 none), (2, .i .i64 none), (3, .ptr 0 5 0 (some 1) (some 0)), (6, .ptr 1 5 0 (some 1) (some 0)), (57, .i .i64 none), (58, .i .i64 none)] [.row 5 false false (some [[.i .i64 none, .i .i64 none, .i .i64 none, .sl 3 5 none (some 0) none, .sl 4 13 none (some 0) none]]), .row 5 true false (some [[.i .i64 (some 0), .i .i64 (some 0), .i .i64 (some 0), .lst (some true) (some true) 0 (some []), .lst (some true) (some true) 0 (some [])]]), .row 1 true false (some [[.lst (some true) (some true) 0 (some [])]]), .row 5 true false none, .row 13 true false none] h fun a b => give_moved_l10_1 G n a.1 a.2.1 a.2.2.2.2.1 b.1.1.1 b.1.1.2.1 b.1.1.2.2.1 b.1.1.2.2.2.1.1 b.1.1.2.2.2.1.2.2 b.1.1.2.2.2.2.1.1 b.1.1.2.2.2.2.1.2.2 b.2.2.2.1 (fun w0 => K (.exit 2) ⟨[(3, .ptr 0 1 5 0 0), (6, .ptr 1 1 5 0 0)], [.row 5 false false [[.i .i64 b.1.1.1, .i .i64 b.1.1.2.1, .i .i64 b.1.1.2.2.1, .sl 3 b.1.1.2.2.2.1.1 5 0 b.1.1.2.2.2.1.2.2, .sl 4 b.1.1.2.2.2.2.1.1 13 0 b.1.1.2.2.2.2.1.2.2]], .row 5 true false [[.i .i64 0, .i .i64 0, .i .i64 0, .lst true true 0 [], .lst true true 0 []]], .row 1 true false [[.lst true true 0 []]], .row 5 true false b.2.2.2.1, .row 13 true false w0]⟩) (a.2.2.2.2.2.1, b.2.2.2.2.1)
noncomputable def give_moved_l10_2_d (G : give_moved_G) (n : Nat) : Go.Rv.LE := fun _ρ h K => decSt [(1, .i .i64 none), (2, .i .i64 none), (3, .ptr 0 5 0 (some 1) (some 0)), (6, .ptr 1 5 0 (some 1) (some 0)), (57, .i .i64 (some 0)), (58, .i .i64 (some 0))] [.row 5 false false (some [[.i .i64 none, .i .i64 none, .i .i64 none, .sl 4 5 none (some 0) none, .lst (some true) (some true) 0 (some [])]]), .row 5 true false (some [[.i .i64 (some 0), .i .i64 (some 0), .i .i64 (some 0), .lst (some true) (some true) 0 (some []), .lst (some true) (some true) 0 (some [])]]), .row 1 true false none, .row 1 false false (some [[.sl 2 1 none (some 0) none]]), .row 5 true false none] h fun a b => give_moved_l10_2 G n a.1 a.2.1 b.1.1.1 b.1.1.2.1 b.1.1.2.2.1 b.1.1.2.2.2.1.1 b.1.1.2.2.2.1.2.2 b.2.2.1 b.2.2.2.1.1.1.1 b.2.2.2.1.1.1.2.2 b.2.2.2.2.1 (K (.exit 2) ⟨[(3, .ptr 0 1 5 0 0), (6, .ptr 1 1 5 0 0)], [.row 5 false false [[.i .i64 b.1.1.1, .i .i64 b.1.1.2.1, .i .i64 b.1.1.2.2.1, .sl 4 b.1.1.2.2.2.1.1 5 0 b.1.1.2.2.2.1.2.2, .lst true true 0 []]], .row 5 true false [[.i .i64 0, .i .i64 0, .i .i64 0, .lst true true 0 [], .lst true true 0 []]], .row 1 true false b.2.2.1, .row 1 false false [[.sl 2 b.2.2.2.1.1.1.1 1 0 b.2.2.2.1.1.1.2.2]], .row 5 true false b.2.2.2.2.1]⟩) ()
noncomputable def give_moved_l10_0_d (G : give_moved_G) (n : Nat) : Go.Rv.LE := fun _ρ h K => decSt [(1, .i .i64 none), (2, .i .i64 none), (3, .ptr 0 5 0 (some 1) (some 0)), (6, .ptr 1 5 0 (some 1) (some 0)), (57, .i .i64 (some 0)), (58, .i .i64 (some 0))] [.row 5 false false (some [[.i .i64 none, .i .i64 none, .i .i64 none, .sl 3 5 none (some 0) none, .lst (some true) (some true) 0 (some [])]]), .row 5 true false (some [[.i .i64 (some 0), .i .i64 (some 0), .i .i64 (some 0), .lst (some true) (some true) 0 (some []), .lst (some true) (some true) 0 (some [])]]), .row 1 true false (some [[.lst (some true) (some true) 0 (some [])]]), .row 5 true false none] h fun a b => give_moved_l10_0 G n a.1 a.2.1 b.1.1.1 b.1.1.2.1 b.1.1.2.2.1 b.1.1.2.2.2.1.1 b.1.1.2.2.2.1.2.2 b.2.2.2.1 (K (.exit 2) ⟨[(3, .ptr 0 1 5 0 0), (6, .ptr 1 1 5 0 0)], [.row 5 false false [[.i .i64 b.1.1.1, .i .i64 b.1.1.2.1, .i .i64 b.1.1.2.2.1, .sl 3 b.1.1.2.2.2.1.1 5 0 b.1.1.2.2.2.1.2.2, .lst true true 0 []]], .row 5 true false [[.i .i64 0, .i .i64 0, .i .i64 0, .lst true true 0 [], .lst true true 0 []]], .row 1 true false [[.lst true true 0 []]], .row 5 true false b.2.2.2.1]⟩) ()
noncomputable def give_moved_d10 (G : give_moved_G) (n : Nat) : Go.Rv.LE := altL [(1, .i .i64 none), (2, .i .i64 none), (3, .ptr 0 5 0 (some 1) (some 0)), (6, .ptr 1 5 0 (some 1) (some 0)), (57, .i .i64 none), (58, .i .i64 none)] [.row 5 false false (some [[.i .i64 none, .i .i64 none, .i .i64 none, .sl 4 5 none (some 0) none, .sl 5 13 none (some 0) none]]), .row 5 true false (some [[.i .i64 (some 0), .i .i64 (some 0), .i .i64 (some 0), .lst (some true) (some true) 0 (some []), .lst (some true) (some true) 0 (some [])]]), .row 1 true false none, .row 1 false false (some [[.sl 2 1 none (some 0) none]]), .row 5 true false none, .row 13 true false none] (give_moved_l10_3_d G n) (altL [(1, .i .i64 none), (2, .i .i64 none), (3, .ptr 0 5 0 (some 1) (some 0)), (6, .ptr 1 5 0 (some 1) (some 0)), (57, .i .i64 none), (58, .i .i64 none)] [.row 5 false false (some [[.i .i64 none, .i .i64 none, .i .i64 none, .sl 3 5 none (some 0) none, .sl 4 13 none (some 0) none]]), .row 5 true false (some [[.i .i64 (some 0), .i .i64 (some 0), .i .i64 (some 0), .lst (some true) (some true) 0 (some []), .lst (some true) (some true) 0 (some [])]]), .row 1 true false (some [[.lst (some true) (some true) 0 (some [])]]), .row 5 true false none, .row 13 true false none] (give_moved_l10_1_d G n) (altL [(1, .i .i64 none), (2, .i .i64 none), (3, .ptr 0 5 0 (some 1) (some 0)), (6, .ptr 1 5 0 (some 1) (some 0)), (57, .i .i64 (some 0)), (58, .i .i64 (some 0))] [.row 5 false false (some [[.i .i64 none, .i .i64 none, .i .i64 none, .sl 4 5 none (some 0) none, .lst (some true) (some true) 0 (some [])]]), .row 5 true false (some [[.i .i64 (some 0), .i .i64 (some 0), .i .i64 (some 0), .lst (some true) (some true) 0 (some []), .lst (some true) (some true) 0 (some [])]]), .row 1 true false none, .row 1 false false (some [[.sl 2 1 none (some 0) none]]), .row 5 true false none] (give_moved_l10_2_d G n) (give_moved_l10_0_d G n)))
noncomputable def give_moved_lp (G : give_moved_G) (n : Nat) : LK := tabL [(5, give_moved_d5 G n), (10, give_moved_d10 G n)]
theorem give_moved_l5_3_k (G : give_moved_G) {ρ : Type} (n : Nat) (p0 : Int) (p1 : Int) (p2 : Nat) (p3 : Nat) (p4 : Int) (p5 : Int) (p6 : Int) (p7 : Int) (p8 : Nat) (p9 : Nat) (p10 : Nat) (p11 : Nat) (p12 : Rows) (p13 : Nat) (p14 : Nat) (p16 : Rows) (K : Ex → St → Option ρ) (N : St → Option ρ) : ∀ v, roundC (give_moved_S G) give_moved_hs (give_moved_lp G n) give_moved_c5 6 N K (give_moved_l5_3_enc p0 p1 p2 p3 p4 p5 p6 p7 p8 p9 p10 p11 p12 p13 p14 p16 v) = give_moved_l5_3_s G n p0 p1 p2 p3 p4 p5 p6 p7 p8 p9 p10 p11 p12 p13 p14 p16 (fun w0 => K (.exit 0) ⟨[(1, .i .i64 p0), (2, .i .i64 p1), (3, .ptr 0 1 5 0 0), (6, .ptr 1 1 5 0 0)], [.row 5 false false [[.i .i64 p5, .i .i64 p6, .i .i64 p7, .sl 4 p8 5 0 p9, .sl 5 p10 13 0 p11]], .row 5 true false [[.i .i64 0, .i .i64 0, .i .i64 0, .lst true true 0 [], .lst true true 0 []]], .row 1 true false p12, .row 1 false false [[.sl 2 p13 1 0 p14]], .row 5 true false w0, .row 13 true false p16]⟩) (fun v => N (give_moved_l5_3_enc p0 p1 p2 p3 p4 p5 p6 p7 p8 p9 p10 p11 p12 p13 p14 p16 v)) v
  | v => by kernel_rfl
theorem give_moved_l5_3_dok (n : Nat) : LE.OK (give_moved_l5_3_d (give_moved_g n) n) (L tab) give_moved_c5 := LE.shp (fun _ _ _ => rfl) fun ρ K y a b e => LE.rounds (give_moved_Sok n) (LK.of (l := []) (by kernel_rfl) ((fun _ h => nomatch h))) (give_moved_l5_3_k (give_moved_g n) n _ _ _ _ _ _ _ _ _ _ _ _ _ _ _ _ K) (by kernel_rfl) (by kernel_rfl) e
theorem give_moved_l5_2_k (G : give_moved_G) {ρ : Type} (n : Nat) (p0 : Int) (p1 : Int) (p2 : Nat) (p3 : Nat) (p4 : Int) (p5 : Int) (p6 : Int) (p7 : Int) (p8 : Nat) (p9 : Nat) (p10 : Rows) (p11 : Nat) (p12 : Nat) (K : Ex → St → Option ρ) (N : St → Option ρ) : ∀ v, roundC (give_moved_S G) give_moved_hs (give_moved_lp G n) give_moved_c5 5 N K (give_moved_l5_2_enc p0 p1 p2 p3 p4 p5 p6 p7 p8 p9 p10 p11 p12 v) = give_moved_l5_2_s G n p0 p1 p2 p3 p4 p5 p6 p7 p8 p9 p10 p11 p12 (fun w0 => K (.exit 0) ⟨[(1, .i .i64 p0), (2, .i .i64 p1), (3, .ptr 0 1 5 0 0), (6, .ptr 1 1 5 0 0)], [.row 5 false false [[.i .i64 p5, .i .i64 p6, .i .i64 p7, .sl 4 p8 5 0 p9, .lst true true 0 []]], .row 5 true false [[.i .i64 0, .i .i64 0, .i .i64 0, .lst true true 0 [], .lst true true 0 []]], .row 1 true false p10, .row 1 false false [[.sl 2 p11 1 0 p12]], .row 5 true false w0]⟩) (fun v => N (give_moved_l5_2_enc p0 p1 p2 p3 p4 p5 p6 p7 p8 p9 p10 p11 p12 v)) v
  | v => by kernel_rfl
theorem give_moved_l5_2_dok (n : Nat) : LE.OK (give_moved_l5_2_d (give_moved_g n) n) (L tab) give_moved_c5 := LE.shp (fun _ _ _ => rfl) fun ρ K y a b e => LE.rounds (give_moved_Sok n) (LK.of (l := []) (by kernel_rfl) ((fun _ h => nomatch h))) (give_moved_l5_2_k (give_moved_g n) n _ _ _ _ _ _ _ _ _ _ _ _ _ K) (by kernel_rfl) (by kernel_rfl) e
theorem give_moved_l5_1_k (G : give_moved_G) {ρ : Type} (n : Nat) (p0 : Int) (p1 : Int) (p2 : Int) (p3 : Int) (p4 : Int) (p5 : Nat) (p6 : Nat) (p7 : Nat) (p8 : Nat) (p9 : Rows) (p10 : Rows) (K : Ex → St → Option ρ) (N : St → Option ρ) : ∀ v, roundC (give_moved_S G) give_moved_hs (give_moved_lp G n) give_moved_c5 5 N K (give_moved_l5_1_enc p0 p1 p2 p3 p4 p5 p6 p7 p8 p9 p10 v) = give_moved_l5_1_s G n p0 p1 p2 p3 p4 p5 p6 p7 p8 p9 p10 (K (.exit 0) ⟨[(1, .i .i64 p0), (2, .i .i64 p1), (3, .ptr 0 1 5 0 0), (6, .ptr 1 1 5 0 0)], [.row 5 false false [[.i .i64 p2, .i .i64 p3, .i .i64 p4, .sl 3 p5 5 0 p6, .sl 4 p7 13 0 p8]], .row 5 true false [[.i .i64 0, .i .i64 0, .i .i64 0, .lst true true 0 [], .lst true true 0 []]], .row 1 true false [[.lst true true 0 []]], .row 5 true false p9, .row 13 true false p10]⟩) (fun v => N (give_moved_l5_1_enc p0 p1 p2 p3 p4 p5 p6 p7 p8 p9 p10 v)) v
  | v => by kernel_rfl
theorem give_moved_l5_1_dok (n : Nat) : LE.OK (give_moved_l5_1_d (give_moved_g n) n) (L tab) give_moved_c5 := LE.shp (fun _ _ _ => rfl) fun ρ K y a b e => LE.rounds (give_moved_Sok n) (LK.of (l := []) (by kernel_rfl) ((fun _ h => nomatch h))) (give_moved_l5_1_k (give_moved_g n) n _ _ _ _ _ _ _ _ _ _ _ K) (by kernel_rfl) (by kernel_rfl) e
theorem give_moved_l5_0_k (G : give_moved_G) {ρ : Type} (n : Nat) (p0 : Int) (p1 : Int) (p2 : Int) (p3 : Int) (p4 : Int) (p5 : Nat) (p6 : Nat) (p7 : Rows) (K : Ex → St → Option ρ) (N : St → Option ρ) : ∀ v, roundC (give_moved_S G) give_moved_hs (give_moved_lp G n) give_moved_c5 4 N K (give_moved_l5_0_enc p0 p1 p2 p3 p4 p5 p6 p7 v) = give_moved_l5_0_s G n p0 p1 p2 p3 p4 p5 p6 p7 (K (.exit 0) ⟨[(1, .i .i64 p0), (2, .i .i64 p1), (3, .ptr 0 1 5 0 0), (6, .ptr 1 1 5 0 0)], [.row 5 false false [[.i .i64 p2, .i .i64 p3, .i .i64 p4, .sl 3 p5 5 0 p6, .lst true true 0 []]], .row 5 true false [[.i .i64 0, .i .i64 0, .i .i64 0, .lst true true 0 [], .lst true true 0 []]], .row 1 true false [[.lst true true 0 []]], .row 5 true false p7]⟩) (fun v => N (give_moved_l5_0_enc p0 p1 p2 p3 p4 p5 p6 p7 v)) v
  | v => by kernel_rfl
theorem give_moved_l5_0_dok (n : Nat) : LE.OK (give_moved_l5_0_d (give_moved_g n) n) (L tab) give_moved_c5 := LE.shp (fun _ _ _ => rfl) fun ρ K y a b e => LE.rounds (give_moved_Sok n) (LK.of (l := []) (by kernel_rfl) ((fun _ h => nomatch h))) (give_moved_l5_0_k (give_moved_g n) n _ _ _ _ _ _ _ _ K) (by kernel_rfl) (by kernel_rfl) e
theorem give_moved_d5_ok (n : Nat) : LE.OK (give_moved_d5 (give_moved_g n) n) (L tab) give_moved_c5 := altL_ok (give_moved_l5_3_dok n) (altL_ok (give_moved_l5_2_dok n) (altL_ok (give_moved_l5_1_dok n) (give_moved_l5_0_dok n)))
theorem give_moved_l10_3_k (G : give_moved_G) {ρ : Type} (n : Nat) (p0 : Int) (p1 : Int) (p2 : Int) (p3 : Int) (p4 : Int) (p5 : Int) (p6 : Nat) (p7 : Nat) (p8 : Nat) (p9 : Nat) (p10 : Rows) (p11 : Nat) (p12 : Nat) (p13 : Rows) (K : Ex → St → Option ρ) (N : St → Option ρ) : ∀ v, roundC (give_moved_S G) give_moved_hs (give_moved_lp G n) give_moved_c10 6 N K (give_moved_l10_3_enc p0 p1 p2 p3 p4 p5 p6 p7 p8 p9 p10 p11 p12 p13 v) = give_moved_l10_3_s G n p0 p1 p2 p3 p4 p5 p6 p7 p8 p9 p10 p11 p12 p13 (fun w0 => K (.exit 2) ⟨[(3, .ptr 0 1 5 0 0), (6, .ptr 1 1 5 0 0)], [.row 5 false false [[.i .i64 p3, .i .i64 p4, .i .i64 p5, .sl 4 p6 5 0 p7, .sl 5 p8 13 0 p9]], .row 5 true false [[.i .i64 0, .i .i64 0, .i .i64 0, .lst true true 0 [], .lst true true 0 []]], .row 1 true false p10, .row 1 false false [[.sl 2 p11 1 0 p12]], .row 5 true false p13, .row 13 true false w0]⟩) (fun v => N (give_moved_l10_3_enc p0 p1 p2 p3 p4 p5 p6 p7 p8 p9 p10 p11 p12 p13 v)) v
  | v => by kernel_rfl
theorem give_moved_l10_3_dok (n : Nat) : LE.OK (give_moved_l10_3_d (give_moved_g n) n) (L tab) give_moved_c10 := LE.shp (fun _ _ _ => rfl) fun ρ K y a b e => LE.rounds (give_moved_Sok n) (LK.of (l := []) (by kernel_rfl) ((fun _ h => nomatch h))) (give_moved_l10_3_k (give_moved_g n) n _ _ _ _ _ _ _ _ _ _ _ _ _ _ K) (by kernel_rfl) (by kernel_rfl) e
theorem give_moved_l10_1_k (G : give_moved_G) {ρ : Type} (n : Nat) (p0 : Int) (p1 : Int) (p2 : Int) (p3 : Int) (p4 : Int) (p5 : Int) (p6 : Nat) (p7 : Nat) (p8 : Nat) (p9 : Nat) (p10 : Rows) (K : Ex → St → Option ρ) (N : St → Option ρ) : ∀ v, roundC (give_moved_S G) give_moved_hs (give_moved_lp G n) give_moved_c10 5 N K (give_moved_l10_1_enc p0 p1 p2 p3 p4 p5 p6 p7 p8 p9 p10 v) = give_moved_l10_1_s G n p0 p1 p2 p3 p4 p5 p6 p7 p8 p9 p10 (fun w0 => K (.exit 2) ⟨[(3, .ptr 0 1 5 0 0), (6, .ptr 1 1 5 0 0)], [.row 5 false false [[.i .i64 p3, .i .i64 p4, .i .i64 p5, .sl 3 p6 5 0 p7, .sl 4 p8 13 0 p9]], .row 5 true false [[.i .i64 0, .i .i64 0, .i .i64 0, .lst true true 0 [], .lst true true 0 []]], .row 1 true false [[.lst true true 0 []]], .row 5 true false p10, .row 13 true false w0]⟩) (fun v => N (give_moved_l10_1_enc p0 p1 p2 p3 p4 p5 p6 p7 p8 p9 p10 v)) v
  | v => by kernel_rfl
theorem give_moved_l10_1_dok (n : Nat) : LE.OK (give_moved_l10_1_d (give_moved_g n) n) (L tab) give_moved_c10 := LE.shp (fun _ _ _ => rfl) fun ρ K y a b e => LE.rounds (give_moved_Sok n) (LK.of (l := []) (by kernel_rfl) ((fun _ h => nomatch h))) (give_moved_l10_1_k (give_moved_g n) n _ _ _ _ _ _ _ _ _ _ _ K) (by kernel_rfl) (by kernel_rfl) e
theorem give_moved_l10_2_k (G : give_moved_G) {ρ : Type} (n : Nat) (p0 : Int) (p1 : Int) (p2 : Int) (p3 : Int) (p4 : Int) (p5 : Nat) (p6 : Nat) (p7 : Rows) (p8 : Nat) (p9 : Nat) (p10 : Rows) (K : Ex → St → Option ρ) (N : St → Option ρ) : ∀ v, roundC (give_moved_S G) give_moved_hs (give_moved_lp G n) give_moved_c10 5 N K (give_moved_l10_2_enc p0 p1 p2 p3 p4 p5 p6 p7 p8 p9 p10 v) = give_moved_l10_2_s G n p0 p1 p2 p3 p4 p5 p6 p7 p8 p9 p10 (K (.exit 2) ⟨[(3, .ptr 0 1 5 0 0), (6, .ptr 1 1 5 0 0)], [.row 5 false false [[.i .i64 p2, .i .i64 p3, .i .i64 p4, .sl 4 p5 5 0 p6, .lst true true 0 []]], .row 5 true false [[.i .i64 0, .i .i64 0, .i .i64 0, .lst true true 0 [], .lst true true 0 []]], .row 1 true false p7, .row 1 false false [[.sl 2 p8 1 0 p9]], .row 5 true false p10]⟩) (fun v => N (give_moved_l10_2_enc p0 p1 p2 p3 p4 p5 p6 p7 p8 p9 p10 v)) v
  | v => by kernel_rfl
theorem give_moved_l10_2_dok (n : Nat) : LE.OK (give_moved_l10_2_d (give_moved_g n) n) (L tab) give_moved_c10 := LE.shp (fun _ _ _ => rfl) fun ρ K y a b e => LE.rounds (give_moved_Sok n) (LK.of (l := []) (by kernel_rfl) ((fun _ h => nomatch h))) (give_moved_l10_2_k (give_moved_g n) n _ _ _ _ _ _ _ _ _ _ _ K) (by kernel_rfl) (by kernel_rfl) e
theorem give_moved_l10_0_k (G : give_moved_G) {ρ : Type} (n : Nat) (p0 : Int) (p1 : Int) (p2 : Int) (p3 : Int) (p4 : Int) (p5 : Nat) (p6 : Nat) (p7 : Rows) (K : Ex → St → Option ρ) (N : St → Option ρ) : ∀ v, roundC (give_moved_S G) give_moved_hs (give_moved_lp G n) give_moved_c10 4 N K (give_moved_l10_0_enc p0 p1 p2 p3 p4 p5 p6 p7 v) = give_moved_l10_0_s G n p0 p1 p2 p3 p4 p5 p6 p7 (K (.exit 2) ⟨[(3, .ptr 0 1 5 0 0), (6, .ptr 1 1 5 0 0)], [.row 5 false false [[.i .i64 p2, .i .i64 p3, .i .i64 p4, .sl 3 p5 5 0 p6, .lst true true 0 []]], .row 5 true false [[.i .i64 0, .i .i64 0, .i .i64 0, .lst true true 0 [], .lst true true 0 []]], .row 1 true false [[.lst true true 0 []]], .row 5 true false p7]⟩) (fun v => N (give_moved_l10_0_enc p0 p1 p2 p3 p4 p5 p6 p7 v)) v
  | v => by kernel_rfl
theorem give_moved_l10_0_dok (n : Nat) : LE.OK (give_moved_l10_0_d (give_moved_g n) n) (L tab) give_moved_c10 := LE.shp (fun _ _ _ => rfl) fun ρ K y a b e => LE.rounds (give_moved_Sok n) (LK.of (l := []) (by kernel_rfl) ((fun _ h => nomatch h))) (give_moved_l10_0_k (give_moved_g n) n _ _ _ _ _ _ _ _ K) (by kernel_rfl) (by kernel_rfl) e
theorem give_moved_d10_ok (n : Nat) : LE.OK (give_moved_d10 (give_moved_g n) n) (L tab) give_moved_c10 := altL_ok (give_moved_l10_3_dok n) (altL_ok (give_moved_l10_1_dok n) (altL_ok (give_moved_l10_2_dok n) (give_moved_l10_0_dok n)))
theorem give_moved_k (G : give_moved_G) {ρ : Type} (n : Nat) (a0 : Int) (a1 : Int) (a2 : Int) (a3 : Bool) (a4 : Bool) (a5 : Rows) (a6 : Bool) (a7 : Bool) (a8 : Rows) (a9 : Int) (a10 : Int) (K : Res → Option ρ) : runC (give_moved_S G) give_moved_hs (give_moved_lp G n) m77 [.agg [.i .i64 a0, .i .i64 a1, .i .i64 a2, .lst a3 a4 5 a5, .lst a6 a7 13 a8], .i .i64 a9, .i .i64 a10] K = give_moved_s G n a0 a1 a2 a3 a4 a5 a6 a7 a8 a9 a10 (fun w0 w1 w2 => K ⟨.agg [.i .i64 a0, .i .i64 a1, .i .i64 a2, .sl 0 w0 5 0 w1, .lst true true 0 []], [.row 5 true false w2], []⟩) (fun w0 w1 w2 w3 w4 w5 => K ⟨.agg [.i .i64 a0, .i .i64 a1, .i .i64 a2, .sl 0 w0 5 0 w1, .sl 1 w2 13 0 w3], [.row 5 true false w4, .row 13 true false w5], []⟩) := by kernel_rfl
theorem give_moved_ok (n : Nat) : EK.OK (give_moved_e n) 77 (L tab) := EK.shp (fun _ _ _ => rfl) fun ρ K y c e => EK.run (give_moved_Sok n) (by kernel_rfl) (MF.LKOK.of (LK.of (l := [give_moved_c5, give_moved_c10]) (by kernel_rfl) (List.forall_mem_cons.2 ⟨LE.at (e := give_moved_d5 (give_moved_g n) n) (by kernel_rfl) (give_moved_d5_ok n), List.forall_mem_cons.2 ⟨LE.at (e := give_moved_d10 (give_moved_g n) n) (by kernel_rfl) (give_moved_d10_ok n), (fun _ h => nomatch h)⟩⟩))) (give_moved_k (give_moved_g n) n _ _ _ _ _ _ _ _ _ _ _ K) (by kernel_rfl) e

/-! reeve/give.done -/
abbrev give_done_T : Type 1 := (ρ : Type) → Int → Int → Int → Bool → Bool → Rows → Bool → Bool → Rows → Int → Int → Bool → Bool → Rows → Bool → Bool → Rows → Int → Int → Int → (Bool → Bool → Rows → Bool → Bool → Rows → Int → Option ρ) → (Nat → Nat → Rows → Option ρ) → (Nat → Nat → Nat → Nat → Rows → Rows → Option ρ) → Option ρ
def give_done_E (G : give_done_T) : EK := fun ρ args K => decL [.agg [.i .i64 none, .i .i64 none, .i .i64 none, .lst none none 5 none, .lst none none 13 none], .i .i64 none, .agg [.i .i64 none, .lst none none 1 none, .lst none none 1 none, .i .i64 none, .i .i64 none, .i .u64 none]] args fun c => G ρ c.1.1 c.1.2.1 c.1.2.2.1 c.1.2.2.2.1.1 c.1.2.2.2.1.2.1 c.1.2.2.2.1.2.2 c.1.2.2.2.2.1.1 c.1.2.2.2.2.1.2.1 c.1.2.2.2.2.1.2.2 c.2.1 c.2.2.1.1 c.2.2.1.2.1.1 c.2.2.1.2.1.2.1 c.2.2.1.2.1.2.2 c.2.2.1.2.2.1.1 c.2.2.1.2.2.1.2.1 c.2.2.1.2.2.1.2.2 c.2.2.1.2.2.2.1 c.2.2.1.2.2.2.2.1 c.2.2.1.2.2.2.2.2.1 (fun w0 w1 w2 w3 w4 w5 w6 => K ⟨.tup [.agg [.i .i64 c.1.1, .i .i64 c.1.2.1, .i .i64 c.1.2.2.1, .lst w0 w1 5 w2, .lst w3 w4 13 w5], .i .i64 w6], [], []⟩) (fun w0 w1 w2 => K ⟨.tup [.agg [.i .i64 c.1.1, .i .i64 c.1.2.1, .i .i64 c.1.2.2.1, .sl 0 w0 5 0 w1, .lst true true 0 []], .i .i64 0], [.row 5 true false w2], []⟩) (fun w0 w1 w2 w3 w4 w5 => K ⟨.tup [.agg [.i .i64 c.1.1, .i .i64 c.1.2.1, .i .i64 c.1.2.2.1, .sl 0 w0 5 0 w1, .sl 1 w2 13 0 w3], .i .i64 0], [.row 5 true false w4, .row 13 true false w5], []⟩)
structure give_done_G where
  mk ::
  call_Good : call_Good_T
  find_Cap : find_Cap_T
  cap_Cut : cap_Cut_T
  cap_Stamp : cap_Stamp_T
  find_Empty : find_Empty_T
  give_Put : give_Put_T
  give_ring : give_ring_T
  give_moved : give_moved_T
noncomputable def give_done_s (G : give_done_G) {ρ : Type} (_n : Nat) (a0 : Int) (a1 : Int) (a2 : Int) (a3 : Bool) (a4 : Bool) (a5 : Rows) (a6 : Bool) (a7 : Bool) (a8 : Rows) (a9 : Int) (a10 : Int) (a11 : Bool) (a12 : Bool) (a13 : Rows) (a14 : Bool) (a15 : Bool) (a16 : Rows) (a17 : Int) (a18 : Int) (a19 : Int) (k0 : (Bool → Bool → Rows → Bool → Bool → Rows → Int → Option ρ)) (k1 : (Nat → Nat → Rows → Option ρ)) (k2 : (Nat → Nat → Nat → Nat → Rows → Rows → Option ρ)) : Option ρ :=
  G.call_Good ρ a10 a11 a12 a13 a14 a15 a16 a17 a18 a19 (fun w0_0 =>
    bif w0_0 then
      bif ((a10 : Int) != 2) then
        bif ((a10 : Int) != 3) then
          bif ((a10 : Int) != 4) then
            k0 a3 a4 a5 a6 a7 a8 1
          else G.find_Cap ρ a0 a1 a2 a3 a4 a5 a6 a7 a8 a9 a11 a12 a13 (fun w1_0 w1_1 w1_2 w1_3 w1_4 w1_5 =>
            bif ((w1_5 : Int) != 0) then
              k0 a3 a4 a5 a6 a7 a8 w1_5
            else bif ((a10 : Int) != 4) then
              G.cap_Cut ρ w1_1 w1_2 w1_3 w1_4 a17 (fun w2_0 w2_1 w2_2 w2_3 =>
                bif ((a10 : Int) == 3) then
                  G.cap_Stamp ρ w2_0 w2_1 w2_2 w2_3 a18 (fun w3_0 w3_1 w3_2 w3_3 w3_4 =>
                    bif ((w3_4 : Int) != 0) then
                      k0 a3 a4 a5 a6 a7 a8 w3_4
                    else G.find_Empty ρ a0 a1 a2 a3 a4 a5 a6 a7 a8 a9 a14 a15 a16 (fun w4_0 w4_1 =>
                      bif ((w4_1 : Int) != 0) then
                        k0 a3 a4 a5 a6 a7 a8 w4_1
                      else bif ((a10 : Int) != 4) then
                        G.give_Put ρ a0 a1 a2 a3 a4 a5 a6 a7 a8 w1_0 w4_0 w3_0 w3_1 w3_2 w3_3 (fun w5_0 w5_1 w5_2 w5_3 w5_4 w5_5 w5_6 =>
                          k0 w5_0 w5_1 w5_2 w5_3 w5_4 w5_5 w5_6)
                      else G.give_ring ρ a0 a1 a2 a3 a4 a5 a6 a7 a8 w3_0 w3_1 w3_2 w3_3 w4_0 (fun w6_0 =>
                        bif w6_0 then
                          k0 a3 a4 a5 a6 a7 a8 1
                        else G.give_moved ρ a0 a1 a2 a3 a4 a5 a6 a7 a8 w1_0 w4_0 (fun w7_0 w7_1 w7_2 =>
                          k1 w7_0 w7_1 w7_2) (fun w8_0 w8_1 w8_2 w8_3 w8_4 w8_5 =>
                          k2 w8_0 w8_1 w8_2 w8_3 w8_4 w8_5))))
                else G.find_Empty ρ a0 a1 a2 a3 a4 a5 a6 a7 a8 a9 a14 a15 a16 (fun w9_0 w9_1 =>
                  bif ((w9_1 : Int) != 0) then
                    k0 a3 a4 a5 a6 a7 a8 w9_1
                  else bif ((a10 : Int) != 4) then
                    G.give_Put ρ a0 a1 a2 a3 a4 a5 a6 a7 a8 w1_0 w9_0 w2_0 w2_1 w2_2 w2_3 (fun w10_0 w10_1 w10_2 w10_3 w10_4 w10_5 w10_6 =>
                      k0 w10_0 w10_1 w10_2 w10_3 w10_4 w10_5 w10_6)
                  else G.give_ring ρ a0 a1 a2 a3 a4 a5 a6 a7 a8 w2_0 w2_1 w2_2 w2_3 w9_0 (fun w11_0 =>
                    bif w11_0 then
                      k0 a3 a4 a5 a6 a7 a8 1
                    else G.give_moved ρ a0 a1 a2 a3 a4 a5 a6 a7 a8 w1_0 w9_0 (fun w12_0 w12_1 w12_2 =>
                      k1 w12_0 w12_1 w12_2) (fun w13_0 w13_1 w13_2 w13_3 w13_4 w13_5 =>
                      k2 w13_0 w13_1 w13_2 w13_3 w13_4 w13_5))))
            else bif ((a10 : Int) == 3) then
              G.cap_Stamp ρ w1_1 w1_2 w1_3 w1_4 a18 (fun w14_0 w14_1 w14_2 w14_3 w14_4 =>
                bif ((w14_4 : Int) != 0) then
                  k0 a3 a4 a5 a6 a7 a8 w14_4
                else G.find_Empty ρ a0 a1 a2 a3 a4 a5 a6 a7 a8 a9 a14 a15 a16 (fun w15_0 w15_1 =>
                  bif ((w15_1 : Int) != 0) then
                    k0 a3 a4 a5 a6 a7 a8 w15_1
                  else bif ((a10 : Int) != 4) then
                    G.give_Put ρ a0 a1 a2 a3 a4 a5 a6 a7 a8 w1_0 w15_0 w14_0 w14_1 w14_2 w14_3 (fun w16_0 w16_1 w16_2 w16_3 w16_4 w16_5 w16_6 =>
                      k0 w16_0 w16_1 w16_2 w16_3 w16_4 w16_5 w16_6)
                  else G.give_ring ρ a0 a1 a2 a3 a4 a5 a6 a7 a8 w14_0 w14_1 w14_2 w14_3 w15_0 (fun w17_0 =>
                    bif w17_0 then
                      k0 a3 a4 a5 a6 a7 a8 1
                    else G.give_moved ρ a0 a1 a2 a3 a4 a5 a6 a7 a8 w1_0 w15_0 (fun w18_0 w18_1 w18_2 =>
                      k1 w18_0 w18_1 w18_2) (fun w19_0 w19_1 w19_2 w19_3 w19_4 w19_5 =>
                      k2 w19_0 w19_1 w19_2 w19_3 w19_4 w19_5))))
            else G.find_Empty ρ a0 a1 a2 a3 a4 a5 a6 a7 a8 a9 a14 a15 a16 (fun w20_0 w20_1 =>
              bif ((w20_1 : Int) != 0) then
                k0 a3 a4 a5 a6 a7 a8 w20_1
              else bif ((a10 : Int) != 4) then
                G.give_Put ρ a0 a1 a2 a3 a4 a5 a6 a7 a8 w1_0 w20_0 w1_1 w1_2 w1_3 w1_4 (fun w21_0 w21_1 w21_2 w21_3 w21_4 w21_5 w21_6 =>
                  k0 w21_0 w21_1 w21_2 w21_3 w21_4 w21_5 w21_6)
              else G.give_ring ρ a0 a1 a2 a3 a4 a5 a6 a7 a8 w1_1 w1_2 w1_3 w1_4 w20_0 (fun w22_0 =>
                bif w22_0 then
                  k0 a3 a4 a5 a6 a7 a8 1
                else G.give_moved ρ a0 a1 a2 a3 a4 a5 a6 a7 a8 w1_0 w20_0 (fun w23_0 w23_1 w23_2 =>
                  k1 w23_0 w23_1 w23_2) (fun w24_0 w24_1 w24_2 w24_3 w24_4 w24_5 =>
                  k2 w24_0 w24_1 w24_2 w24_3 w24_4 w24_5))))
        else G.find_Cap ρ a0 a1 a2 a3 a4 a5 a6 a7 a8 a9 a11 a12 a13 (fun w25_0 w25_1 w25_2 w25_3 w25_4 w25_5 =>
          bif ((w25_5 : Int) != 0) then
            k0 a3 a4 a5 a6 a7 a8 w25_5
          else bif ((a10 : Int) != 4) then
            G.cap_Cut ρ w25_1 w25_2 w25_3 w25_4 a17 (fun w26_0 w26_1 w26_2 w26_3 =>
              bif ((a10 : Int) == 3) then
                G.cap_Stamp ρ w26_0 w26_1 w26_2 w26_3 a18 (fun w27_0 w27_1 w27_2 w27_3 w27_4 =>
                  bif ((w27_4 : Int) != 0) then
                    k0 a3 a4 a5 a6 a7 a8 w27_4
                  else G.find_Empty ρ a0 a1 a2 a3 a4 a5 a6 a7 a8 a9 a14 a15 a16 (fun w28_0 w28_1 =>
                    bif ((w28_1 : Int) != 0) then
                      k0 a3 a4 a5 a6 a7 a8 w28_1
                    else bif ((a10 : Int) != 4) then
                      G.give_Put ρ a0 a1 a2 a3 a4 a5 a6 a7 a8 w25_0 w28_0 w27_0 w27_1 w27_2 w27_3 (fun w29_0 w29_1 w29_2 w29_3 w29_4 w29_5 w29_6 =>
                        k0 w29_0 w29_1 w29_2 w29_3 w29_4 w29_5 w29_6)
                    else G.give_ring ρ a0 a1 a2 a3 a4 a5 a6 a7 a8 w27_0 w27_1 w27_2 w27_3 w28_0 (fun w30_0 =>
                      bif w30_0 then
                        k0 a3 a4 a5 a6 a7 a8 1
                      else G.give_moved ρ a0 a1 a2 a3 a4 a5 a6 a7 a8 w25_0 w28_0 (fun w31_0 w31_1 w31_2 =>
                        k1 w31_0 w31_1 w31_2) (fun w32_0 w32_1 w32_2 w32_3 w32_4 w32_5 =>
                        k2 w32_0 w32_1 w32_2 w32_3 w32_4 w32_5))))
              else G.find_Empty ρ a0 a1 a2 a3 a4 a5 a6 a7 a8 a9 a14 a15 a16 (fun w33_0 w33_1 =>
                bif ((w33_1 : Int) != 0) then
                  k0 a3 a4 a5 a6 a7 a8 w33_1
                else bif ((a10 : Int) != 4) then
                  G.give_Put ρ a0 a1 a2 a3 a4 a5 a6 a7 a8 w25_0 w33_0 w26_0 w26_1 w26_2 w26_3 (fun w34_0 w34_1 w34_2 w34_3 w34_4 w34_5 w34_6 =>
                    k0 w34_0 w34_1 w34_2 w34_3 w34_4 w34_5 w34_6)
                else G.give_ring ρ a0 a1 a2 a3 a4 a5 a6 a7 a8 w26_0 w26_1 w26_2 w26_3 w33_0 (fun w35_0 =>
                  bif w35_0 then
                    k0 a3 a4 a5 a6 a7 a8 1
                  else G.give_moved ρ a0 a1 a2 a3 a4 a5 a6 a7 a8 w25_0 w33_0 (fun w36_0 w36_1 w36_2 =>
                    k1 w36_0 w36_1 w36_2) (fun w37_0 w37_1 w37_2 w37_3 w37_4 w37_5 =>
                    k2 w37_0 w37_1 w37_2 w37_3 w37_4 w37_5))))
          else bif ((a10 : Int) == 3) then
            G.cap_Stamp ρ w25_1 w25_2 w25_3 w25_4 a18 (fun w38_0 w38_1 w38_2 w38_3 w38_4 =>
              bif ((w38_4 : Int) != 0) then
                k0 a3 a4 a5 a6 a7 a8 w38_4
              else G.find_Empty ρ a0 a1 a2 a3 a4 a5 a6 a7 a8 a9 a14 a15 a16 (fun w39_0 w39_1 =>
                bif ((w39_1 : Int) != 0) then
                  k0 a3 a4 a5 a6 a7 a8 w39_1
                else bif ((a10 : Int) != 4) then
                  G.give_Put ρ a0 a1 a2 a3 a4 a5 a6 a7 a8 w25_0 w39_0 w38_0 w38_1 w38_2 w38_3 (fun w40_0 w40_1 w40_2 w40_3 w40_4 w40_5 w40_6 =>
                    k0 w40_0 w40_1 w40_2 w40_3 w40_4 w40_5 w40_6)
                else G.give_ring ρ a0 a1 a2 a3 a4 a5 a6 a7 a8 w38_0 w38_1 w38_2 w38_3 w39_0 (fun w41_0 =>
                  bif w41_0 then
                    k0 a3 a4 a5 a6 a7 a8 1
                  else G.give_moved ρ a0 a1 a2 a3 a4 a5 a6 a7 a8 w25_0 w39_0 (fun w42_0 w42_1 w42_2 =>
                    k1 w42_0 w42_1 w42_2) (fun w43_0 w43_1 w43_2 w43_3 w43_4 w43_5 =>
                    k2 w43_0 w43_1 w43_2 w43_3 w43_4 w43_5))))
          else G.find_Empty ρ a0 a1 a2 a3 a4 a5 a6 a7 a8 a9 a14 a15 a16 (fun w44_0 w44_1 =>
            bif ((w44_1 : Int) != 0) then
              k0 a3 a4 a5 a6 a7 a8 w44_1
            else bif ((a10 : Int) != 4) then
              G.give_Put ρ a0 a1 a2 a3 a4 a5 a6 a7 a8 w25_0 w44_0 w25_1 w25_2 w25_3 w25_4 (fun w45_0 w45_1 w45_2 w45_3 w45_4 w45_5 w45_6 =>
                k0 w45_0 w45_1 w45_2 w45_3 w45_4 w45_5 w45_6)
            else G.give_ring ρ a0 a1 a2 a3 a4 a5 a6 a7 a8 w25_1 w25_2 w25_3 w25_4 w44_0 (fun w46_0 =>
              bif w46_0 then
                k0 a3 a4 a5 a6 a7 a8 1
              else G.give_moved ρ a0 a1 a2 a3 a4 a5 a6 a7 a8 w25_0 w44_0 (fun w47_0 w47_1 w47_2 =>
                k1 w47_0 w47_1 w47_2) (fun w48_0 w48_1 w48_2 w48_3 w48_4 w48_5 =>
                k2 w48_0 w48_1 w48_2 w48_3 w48_4 w48_5))))
      else G.find_Cap ρ a0 a1 a2 a3 a4 a5 a6 a7 a8 a9 a11 a12 a13 (fun w49_0 w49_1 w49_2 w49_3 w49_4 w49_5 =>
        bif ((w49_5 : Int) != 0) then
          k0 a3 a4 a5 a6 a7 a8 w49_5
        else bif ((a10 : Int) != 4) then
          G.cap_Cut ρ w49_1 w49_2 w49_3 w49_4 a17 (fun w50_0 w50_1 w50_2 w50_3 =>
            bif ((a10 : Int) == 3) then
              G.cap_Stamp ρ w50_0 w50_1 w50_2 w50_3 a18 (fun w51_0 w51_1 w51_2 w51_3 w51_4 =>
                bif ((w51_4 : Int) != 0) then
                  k0 a3 a4 a5 a6 a7 a8 w51_4
                else G.find_Empty ρ a0 a1 a2 a3 a4 a5 a6 a7 a8 a9 a14 a15 a16 (fun w52_0 w52_1 =>
                  bif ((w52_1 : Int) != 0) then
                    k0 a3 a4 a5 a6 a7 a8 w52_1
                  else bif ((a10 : Int) != 4) then
                    G.give_Put ρ a0 a1 a2 a3 a4 a5 a6 a7 a8 w49_0 w52_0 w51_0 w51_1 w51_2 w51_3 (fun w53_0 w53_1 w53_2 w53_3 w53_4 w53_5 w53_6 =>
                      k0 w53_0 w53_1 w53_2 w53_3 w53_4 w53_5 w53_6)
                  else G.give_ring ρ a0 a1 a2 a3 a4 a5 a6 a7 a8 w51_0 w51_1 w51_2 w51_3 w52_0 (fun w54_0 =>
                    bif w54_0 then
                      k0 a3 a4 a5 a6 a7 a8 1
                    else G.give_moved ρ a0 a1 a2 a3 a4 a5 a6 a7 a8 w49_0 w52_0 (fun w55_0 w55_1 w55_2 =>
                      k1 w55_0 w55_1 w55_2) (fun w56_0 w56_1 w56_2 w56_3 w56_4 w56_5 =>
                      k2 w56_0 w56_1 w56_2 w56_3 w56_4 w56_5))))
            else G.find_Empty ρ a0 a1 a2 a3 a4 a5 a6 a7 a8 a9 a14 a15 a16 (fun w57_0 w57_1 =>
              bif ((w57_1 : Int) != 0) then
                k0 a3 a4 a5 a6 a7 a8 w57_1
              else bif ((a10 : Int) != 4) then
                G.give_Put ρ a0 a1 a2 a3 a4 a5 a6 a7 a8 w49_0 w57_0 w50_0 w50_1 w50_2 w50_3 (fun w58_0 w58_1 w58_2 w58_3 w58_4 w58_5 w58_6 =>
                  k0 w58_0 w58_1 w58_2 w58_3 w58_4 w58_5 w58_6)
              else G.give_ring ρ a0 a1 a2 a3 a4 a5 a6 a7 a8 w50_0 w50_1 w50_2 w50_3 w57_0 (fun w59_0 =>
                bif w59_0 then
                  k0 a3 a4 a5 a6 a7 a8 1
                else G.give_moved ρ a0 a1 a2 a3 a4 a5 a6 a7 a8 w49_0 w57_0 (fun w60_0 w60_1 w60_2 =>
                  k1 w60_0 w60_1 w60_2) (fun w61_0 w61_1 w61_2 w61_3 w61_4 w61_5 =>
                  k2 w61_0 w61_1 w61_2 w61_3 w61_4 w61_5))))
        else bif ((a10 : Int) == 3) then
          G.cap_Stamp ρ w49_1 w49_2 w49_3 w49_4 a18 (fun w62_0 w62_1 w62_2 w62_3 w62_4 =>
            bif ((w62_4 : Int) != 0) then
              k0 a3 a4 a5 a6 a7 a8 w62_4
            else G.find_Empty ρ a0 a1 a2 a3 a4 a5 a6 a7 a8 a9 a14 a15 a16 (fun w63_0 w63_1 =>
              bif ((w63_1 : Int) != 0) then
                k0 a3 a4 a5 a6 a7 a8 w63_1
              else bif ((a10 : Int) != 4) then
                G.give_Put ρ a0 a1 a2 a3 a4 a5 a6 a7 a8 w49_0 w63_0 w62_0 w62_1 w62_2 w62_3 (fun w64_0 w64_1 w64_2 w64_3 w64_4 w64_5 w64_6 =>
                  k0 w64_0 w64_1 w64_2 w64_3 w64_4 w64_5 w64_6)
              else G.give_ring ρ a0 a1 a2 a3 a4 a5 a6 a7 a8 w62_0 w62_1 w62_2 w62_3 w63_0 (fun w65_0 =>
                bif w65_0 then
                  k0 a3 a4 a5 a6 a7 a8 1
                else G.give_moved ρ a0 a1 a2 a3 a4 a5 a6 a7 a8 w49_0 w63_0 (fun w66_0 w66_1 w66_2 =>
                  k1 w66_0 w66_1 w66_2) (fun w67_0 w67_1 w67_2 w67_3 w67_4 w67_5 =>
                  k2 w67_0 w67_1 w67_2 w67_3 w67_4 w67_5))))
        else G.find_Empty ρ a0 a1 a2 a3 a4 a5 a6 a7 a8 a9 a14 a15 a16 (fun w68_0 w68_1 =>
          bif ((w68_1 : Int) != 0) then
            k0 a3 a4 a5 a6 a7 a8 w68_1
          else bif ((a10 : Int) != 4) then
            G.give_Put ρ a0 a1 a2 a3 a4 a5 a6 a7 a8 w49_0 w68_0 w49_1 w49_2 w49_3 w49_4 (fun w69_0 w69_1 w69_2 w69_3 w69_4 w69_5 w69_6 =>
              k0 w69_0 w69_1 w69_2 w69_3 w69_4 w69_5 w69_6)
          else G.give_ring ρ a0 a1 a2 a3 a4 a5 a6 a7 a8 w49_1 w49_2 w49_3 w49_4 w68_0 (fun w70_0 =>
            bif w70_0 then
              k0 a3 a4 a5 a6 a7 a8 1
            else G.give_moved ρ a0 a1 a2 a3 a4 a5 a6 a7 a8 w49_0 w68_0 (fun w71_0 w71_1 w71_2 =>
              k1 w71_0 w71_1 w71_2) (fun w72_0 w72_1 w72_2 w72_3 w72_4 w72_5 =>
              k2 w72_0 w72_1 w72_2 w72_3 w72_4 w72_5))))
    else k0 a3 a4 a5 a6 a7 a8 1)
noncomputable def give_done_g (n : Nat) : give_done_G := ⟨call_Good n, find_Cap n, cap_Cut n, cap_Stamp n, find_Empty n, give_Put n, give_ring n, give_moved n⟩
noncomputable def give_done (n : Nat) : give_done_T := fun _ρ a0 a1 a2 a3 a4 a5 a6 a7 a8 a9 a10 a11 a12 a13 a14 a15 a16 a17 a18 a19 k0 k1 k2 => give_done_s (give_done_g n) n a0 a1 a2 a3 a4 a5 a6 a7 a8 a9 a10 a11 a12 a13 a14 a15 a16 a17 a18 a19 k0 k1 k2
noncomputable def give_done_e (n : Nat) : EK := give_done_E (give_done n)
def give_done_S (G : give_done_G) : CK := tabS [(20, call_Good_E G.call_Good), (21, find_Cap_E G.find_Cap), (73, cap_Cut_E G.cap_Cut), (74, cap_Stamp_E G.cap_Stamp), (67, find_Empty_E G.find_Empty), (75, give_Put_E G.give_Put), (76, give_ring_E G.give_ring), (77, give_moved_E G.give_moved)]
theorem give_done_Sok (n : Nat) : CK.OK (give_done_S (give_done_g n)) (L tab) := tabS_ok _ (List.forall_mem_cons.2 ⟨(call_Good_ok n), List.forall_mem_cons.2 ⟨(find_Cap_ok n), List.forall_mem_cons.2 ⟨(cap_Cut_ok n), List.forall_mem_cons.2 ⟨(cap_Stamp_ok n), List.forall_mem_cons.2 ⟨(find_Empty_ok n), List.forall_mem_cons.2 ⟨(give_Put_ok n), List.forall_mem_cons.2 ⟨(give_ring_ok n), List.forall_mem_cons.2 ⟨(give_moved_ok n), (fun _ h => nomatch h)⟩⟩⟩⟩⟩⟩⟩⟩)
def give_done_hs : HintC := hintL []
noncomputable def give_done_lp (_G : give_done_G) (_n : Nat) : LK := tabL []
theorem give_done_k (G : give_done_G) {ρ : Type} (n : Nat) (a0 : Int) (a1 : Int) (a2 : Int) (a3 : Bool) (a4 : Bool) (a5 : Rows) (a6 : Bool) (a7 : Bool) (a8 : Rows) (a9 : Int) (a10 : Int) (a11 : Bool) (a12 : Bool) (a13 : Rows) (a14 : Bool) (a15 : Bool) (a16 : Rows) (a17 : Int) (a18 : Int) (a19 : Int) (K : Res → Option ρ) : runC (give_done_S G) give_done_hs (give_done_lp G n) m46 [.agg [.i .i64 a0, .i .i64 a1, .i .i64 a2, .lst a3 a4 5 a5, .lst a6 a7 13 a8], .i .i64 a9, .agg [.i .i64 a10, .lst a11 a12 1 a13, .lst a14 a15 1 a16, .i .i64 a17, .i .i64 a18, .i .u64 a19]] K = give_done_s G n a0 a1 a2 a3 a4 a5 a6 a7 a8 a9 a10 a11 a12 a13 a14 a15 a16 a17 a18 a19 (fun w0 w1 w2 w3 w4 w5 w6 => K ⟨.tup [.agg [.i .i64 a0, .i .i64 a1, .i .i64 a2, .lst w0 w1 5 w2, .lst w3 w4 13 w5], .i .i64 w6], [], []⟩) (fun w0 w1 w2 => K ⟨.tup [.agg [.i .i64 a0, .i .i64 a1, .i .i64 a2, .sl 0 w0 5 0 w1, .lst true true 0 []], .i .i64 0], [.row 5 true false w2], []⟩) (fun w0 w1 w2 w3 w4 w5 => K ⟨.tup [.agg [.i .i64 a0, .i .i64 a1, .i .i64 a2, .sl 0 w0 5 0 w1, .sl 1 w2 13 0 w3], .i .i64 0], [.row 5 true false w4, .row 13 true false w5], []⟩) := by kernel_rfl
theorem give_done_ok (n : Nat) : EK.OK (give_done_e n) 46 (L tab) := EK.shp (fun _ _ _ => rfl) fun ρ K y c e => EK.run (give_done_Sok n) (by kernel_rfl) (MF.LKOK.of (LK.of (l := []) (by kernel_rfl) ((fun _ h => nomatch h)))) (give_done_k (give_done_g n) n _ _ _ _ _ _ _ _ _ _ _ _ _ _ _ _ _ _ _ _ K) (by kernel_rfl) e

/-! reeve/give.Do -/
abbrev give_Do_T : Type 1 := (ρ : Type) → Int → Int → Int → Bool → Bool → Rows → Bool → Bool → Rows → Int → Int → Bool → Bool → Rows → Bool → Bool → Rows → Int → Int → Int → (Bool → Bool → Rows → Bool → Bool → Rows → Int → Option ρ) → Option ρ
def give_Do_E (G : give_Do_T) : EK := fun ρ args K => decL [.agg [.i .i64 none, .i .i64 none, .i .i64 none, .lst none none 5 none, .lst none none 13 none], .i .i64 none, .agg [.i .i64 none, .lst none none 1 none, .lst none none 1 none, .i .i64 none, .i .i64 none, .i .u64 none]] args fun c => G ρ c.1.1 c.1.2.1 c.1.2.2.1 c.1.2.2.2.1.1 c.1.2.2.2.1.2.1 c.1.2.2.2.1.2.2 c.1.2.2.2.2.1.1 c.1.2.2.2.2.1.2.1 c.1.2.2.2.2.1.2.2 c.2.1 c.2.2.1.1 c.2.2.1.2.1.1 c.2.2.1.2.1.2.1 c.2.2.1.2.1.2.2 c.2.2.1.2.2.1.1 c.2.2.1.2.2.1.2.1 c.2.2.1.2.2.1.2.2 c.2.2.1.2.2.2.1 c.2.2.1.2.2.2.2.1 c.2.2.1.2.2.2.2.2.1 (fun w0 w1 w2 w3 w4 w5 w6 => K ⟨.tup [.agg [.i .i64 c.1.1, .i .i64 c.1.2.1, .i .i64 c.1.2.2.1, .lst w0 w1 5 w2, .lst w3 w4 13 w5], .agg [.i .i64 w6, .i .u64 0, .i .i64 0]], [], []⟩)
structure give_Do_G where
  mk ::
  give_done : give_done_T
noncomputable def give_Do_s (G : give_Do_G) {ρ : Type} (_n : Nat) (a0 : Int) (a1 : Int) (a2 : Int) (a3 : Bool) (a4 : Bool) (a5 : Rows) (a6 : Bool) (a7 : Bool) (a8 : Rows) (a9 : Int) (a10 : Int) (a11 : Bool) (a12 : Bool) (a13 : Rows) (a14 : Bool) (a15 : Bool) (a16 : Rows) (a17 : Int) (a18 : Int) (a19 : Int) (k0 : (Bool → Bool → Rows → Bool → Bool → Rows → Int → Option ρ)) : Option ρ :=
  G.give_done ρ a0 a1 a2 a3 a4 a5 a6 a7 a8 a9 a10 a11 a12 a13 a14 a15 a16 a17 a18 a19 (fun w0_0 w0_1 w0_2 w0_3 w0_4 w0_5 w0_6 =>
    bif ((w0_6 : Int) != 0) then
      k0 a3 a4 a5 a6 a7 a8 w0_6
    else k0 w0_0 w0_1 w0_2 w0_3 w0_4 w0_5 0) (fun w1_0 w1_1 w1_2 =>
    chk (((List.length (w1_2 : Rows)) : Nat) == w1_0) <|
    k0 false false (List.take w1_1 (List.drop 0 (w1_2 : Rows))) true true [] 0) (fun w2_0 w2_1 w2_2 w2_3 w2_4 w2_5 =>
    chk (((List.length (w2_4 : Rows)) : Nat) == w2_0) <|
    chk (((List.length (w2_5 : Rows)) : Nat) == w2_2) <|
    k0 false false (List.take w2_1 (List.drop 0 (w2_4 : Rows))) false false (List.take w2_3 (List.drop 0 (w2_5 : Rows))) 0)
noncomputable def give_Do_g (n : Nat) : give_Do_G := ⟨give_done n⟩
noncomputable def give_Do (n : Nat) : give_Do_T := fun _ρ a0 a1 a2 a3 a4 a5 a6 a7 a8 a9 a10 a11 a12 a13 a14 a15 a16 a17 a18 a19 k0 => give_Do_s (give_Do_g n) n a0 a1 a2 a3 a4 a5 a6 a7 a8 a9 a10 a11 a12 a13 a14 a15 a16 a17 a18 a19 k0
noncomputable def give_Do_e (n : Nat) : EK := give_Do_E (give_Do n)
def give_Do_S (G : give_Do_G) : CK := tabS [(46, give_done_E G.give_done)]
theorem give_Do_Sok (n : Nat) : CK.OK (give_Do_S (give_Do_g n)) (L tab) := tabS_ok _ (List.forall_mem_cons.2 ⟨(give_done_ok n), (fun _ h => nomatch h)⟩)
def give_Do_hs : HintC := hintL []
noncomputable def give_Do_lp (_G : give_Do_G) (_n : Nat) : LK := tabL []
theorem give_Do_k (G : give_Do_G) {ρ : Type} (n : Nat) (a0 : Int) (a1 : Int) (a2 : Int) (a3 : Bool) (a4 : Bool) (a5 : Rows) (a6 : Bool) (a7 : Bool) (a8 : Rows) (a9 : Int) (a10 : Int) (a11 : Bool) (a12 : Bool) (a13 : Rows) (a14 : Bool) (a15 : Bool) (a16 : Rows) (a17 : Int) (a18 : Int) (a19 : Int) (K : Res → Option ρ) : runC (give_Do_S G) give_Do_hs (give_Do_lp G n) m19 [.agg [.i .i64 a0, .i .i64 a1, .i .i64 a2, .lst a3 a4 5 a5, .lst a6 a7 13 a8], .i .i64 a9, .agg [.i .i64 a10, .lst a11 a12 1 a13, .lst a14 a15 1 a16, .i .i64 a17, .i .i64 a18, .i .u64 a19]] K = give_Do_s G n a0 a1 a2 a3 a4 a5 a6 a7 a8 a9 a10 a11 a12 a13 a14 a15 a16 a17 a18 a19 (fun w0 w1 w2 w3 w4 w5 w6 => K ⟨.tup [.agg [.i .i64 a0, .i .i64 a1, .i .i64 a2, .lst w0 w1 5 w2, .lst w3 w4 13 w5], .agg [.i .i64 w6, .i .u64 0, .i .i64 0]], [], []⟩) := by kernel_rfl
theorem give_Do_ok (n : Nat) : EK.OK (give_Do_e n) 19 (L tab) := EK.shp (fun _ _ _ => rfl) fun ρ K y c e => EK.run (give_Do_Sok n) (by kernel_rfl) (MF.LKOK.of (LK.of (l := []) (by kernel_rfl) ((fun _ h => nomatch h)))) (give_Do_k (give_Do_g n) n _ _ _ _ _ _ _ _ _ _ _ _ _ _ _ _ _ _ _ _ K) (by kernel_rfl) e

/-! reeve/reevelaw20.paged -/
abbrev reevelaw20_paged_T : Type 1 := (ρ : Type) → (Int → Int → Int → Bool → Bool → Rows → Bool → Bool → Rows → Option ρ) → Option ρ
def reevelaw20_paged_E (G : reevelaw20_paged_T) : EK := fun ρ args K => decL [] args fun _c => G ρ (fun w0 w1 w2 w3 w4 w5 w6 w7 w8 => K ⟨.agg [.i .i64 w0, .i .i64 w1, .i .i64 w2, .lst w3 w4 5 w5, .lst w6 w7 13 w8], [], []⟩)
structure reevelaw20_paged_G where
  mk ::
  reevelaw20_first : reevelaw20_first_T
  reevelaw20_way : reevelaw20_way_T
  carve_Do : carve_Do_T
  give_Do : give_Do_T
noncomputable def reevelaw20_paged_s (G : reevelaw20_paged_G) {ρ : Type} (_n : Nat)  (k0 : (Int → Int → Int → Bool → Bool → Rows → Bool → Bool → Rows → Option ρ)) : Option ρ :=
  G.reevelaw20_first ρ (fun w0_0 w0_1 w0_2 w0_3 w0_4 w0_5 w0_6 w0_7 w0_8 =>
    G.reevelaw20_way ρ false false ([[.i .i64 0]]) (bs (stayR ⟨.agg [.lst false false 1 ([[.i .i64 0]])], [], []⟩) <|
      G.reevelaw20_way ρ false false ([[.i .i64 3]]) (bs (stayR ⟨.agg [.lst false false 1 ([[.i .i64 3]])], [], []⟩) <|
        G.carve_Do ρ w0_0 w0_1 w0_2 w0_3 w0_4 w0_5 w0_6 w0_7 w0_8 0 1 false false ([[.i .i64 0]]) false false ([[.i .i64 3]]) 5 0 0 (fun w3_0 w3_1 w3_2 w3_3 w3_4 w3_5 _w3_6 _w3_7 =>
          G.reevelaw20_way ρ false false ([[.i .i64 3]]) (bs (stayR ⟨.agg [.lst false false 1 ([[.i .i64 3]])], [], []⟩) <|
            G.reevelaw20_way ρ false false ([[.i .i64 4]]) (bs (stayR ⟨.agg [.lst false false 1 ([[.i .i64 4]])], [], []⟩) <|
              G.give_Do ρ w0_0 w0_1 w0_2 w3_0 w3_1 w3_2 w3_3 w3_4 w3_5 0 2 false false ([[.i .i64 3]]) false false ([[.i .i64 4]]) 1 0 0 (fun w6_0 w6_1 w6_2 w6_3 w6_4 w6_5 _w6_6 =>
                G.reevelaw20_way ρ false false ([[.i .i64 3]]) (bs (stayR ⟨.agg [.lst false false 1 ([[.i .i64 3]])], [], []⟩) <|
                  G.reevelaw20_way ρ false false ([[.i .i64 5]]) (bs (stayR ⟨.agg [.lst false false 1 ([[.i .i64 5]])], [], []⟩) <|
                    G.give_Do ρ w0_0 w0_1 w0_2 w6_0 w6_1 w6_2 w6_3 w6_4 w6_5 0 2 false false ([[.i .i64 3]]) false false ([[.i .i64 5]]) 2 0 0 (fun w9_0 w9_1 w9_2 w9_3 w9_4 w9_5 _w9_6 =>
                      k0 w0_0 w0_1 w0_2 w9_0 w9_1 w9_2 w9_3 w9_4 w9_5))))))))))
noncomputable def reevelaw20_paged_g (n : Nat) : reevelaw20_paged_G := ⟨reevelaw20_first n, reevelaw20_way n, carve_Do n, give_Do n⟩
noncomputable def reevelaw20_paged (n : Nat) : reevelaw20_paged_T := fun _ρ k0 => reevelaw20_paged_s (reevelaw20_paged_g n) n k0
noncomputable def reevelaw20_paged_e (n : Nat) : EK := reevelaw20_paged_E (reevelaw20_paged n)
def reevelaw20_paged_S (G : reevelaw20_paged_G) : CK := tabS [(29, reevelaw20_first_E G.reevelaw20_first), (13, reevelaw20_way_E G.reevelaw20_way), (17, carve_Do_E G.carve_Do), (19, give_Do_E G.give_Do)]
theorem reevelaw20_paged_Sok (n : Nat) : CK.OK (reevelaw20_paged_S (reevelaw20_paged_g n)) (L tab) := tabS_ok _ (List.forall_mem_cons.2 ⟨(reevelaw20_first_ok n), List.forall_mem_cons.2 ⟨(reevelaw20_way_ok n), List.forall_mem_cons.2 ⟨(carve_Do_ok n), List.forall_mem_cons.2 ⟨(give_Do_ok n), (fun _ h => nomatch h)⟩⟩⟩⟩)
def reevelaw20_paged_hs : HintC := hintL []
noncomputable def reevelaw20_paged_lp (_G : reevelaw20_paged_G) (_n : Nat) : LK := tabL []
theorem reevelaw20_paged_k (G : reevelaw20_paged_G) {ρ : Type} (n : Nat)  (K : Res → Option ρ) : runC (reevelaw20_paged_S G) reevelaw20_paged_hs (reevelaw20_paged_lp G n) m11 [] K = reevelaw20_paged_s G n  (fun w0 w1 w2 w3 w4 w5 w6 w7 w8 => K ⟨.agg [.i .i64 w0, .i .i64 w1, .i .i64 w2, .lst w3 w4 5 w5, .lst w6 w7 13 w8], [], []⟩) := by kernel_rfl
theorem reevelaw20_paged_ok (n : Nat) : EK.OK (reevelaw20_paged_e n) 11 (L tab) := EK.shp (fun _ _ _ => rfl) fun ρ K y c e => EK.run (reevelaw20_paged_Sok n) (by kernel_rfl) (MF.LKOK.of (LK.of (l := []) (by kernel_rfl) ((fun _ h => nomatch h)))) (reevelaw20_paged_k (reevelaw20_paged_g n) n  K) (by kernel_rfl) e

/-! reeve/path.Good -/
abbrev path_Good_i1_T : Type 1 := (ρ : Type) → Bool → Bool → (Option ρ) → Option ρ
def path_Good_i1_E (G : path_Good_i1_T) : EK := fun ρ args K => decL [.agg [.lst none none 0 (some [])]] args fun c => G ρ c.1.1.1 c.1.1.2.1 (K ⟨.b false, [], []⟩)
structure path_Good_i1_G where
  mk ::
noncomputable def path_Good_i1_s (_G : path_Good_i1_G) {ρ : Type} (_n : Nat) (_a0 : Bool) (_a1 : Bool) (k0 : (Option ρ)) : Option ρ :=
  k0
noncomputable def path_Good_i1_g (_n : Nat) : path_Good_i1_G := ⟨⟩
noncomputable def path_Good_i1 (n : Nat) : path_Good_i1_T := fun _ρ a0 a1 k0 => path_Good_i1_s (path_Good_i1_g n) n a0 a1 k0
noncomputable def path_Good_i1_e (n : Nat) : EK := path_Good_i1_E (path_Good_i1 n)
def path_Good_i1_S (_G : path_Good_i1_G) : CK := tabS []
theorem path_Good_i1_Sok (n : Nat) : CK.OK (path_Good_i1_S (path_Good_i1_g n)) (L tab) := tabS_ok _ ((fun _ h => nomatch h))
def path_Good_i1_hs : HintC := hintL []
noncomputable def path_Good_i1_lp (_G : path_Good_i1_G) (_n : Nat) : LK := tabL []
theorem path_Good_i1_k (G : path_Good_i1_G) {ρ : Type} (n : Nat) (a0 : Bool) (a1 : Bool) (K : Res → Option ρ) : runC (path_Good_i1_S G) path_Good_i1_hs (path_Good_i1_lp G n) m49 [.agg [.lst a0 a1 0 []]] K = path_Good_i1_s G n a0 a1 (K ⟨.b false, [], []⟩) := by kernel_rfl
theorem path_Good_i1_ok (n : Nat) : EK.OK (path_Good_i1_e n) 49 (L tab) := EK.shp (fun _ _ _ => rfl) fun ρ K y c e => EK.run (path_Good_i1_Sok n) (by kernel_rfl) (MF.LKOK.of (LK.of (l := []) (by kernel_rfl) ((fun _ h => nomatch h)))) (path_Good_i1_k (path_Good_i1_g n) n _ _ K) (by kernel_rfl) e

/-! reeve/call.numbers -/
abbrev call_numbers_i1_T : Type 1 := (ρ : Type) → Int → Bool → Bool → Rows → Bool → Bool → Int → Int → Int → (Bool → Option ρ) → Option ρ
def call_numbers_i1_E (G : call_numbers_i1_T) : EK := fun ρ args K => decL [.agg [.i .i64 none, .lst none none 1 none, .lst none none 0 (some []), .i .i64 none, .i .i64 none, .i .u64 none]] args fun c => G ρ c.1.1 c.1.2.1.1 c.1.2.1.2.1 c.1.2.1.2.2 c.1.2.2.1.1 c.1.2.2.1.2.1 c.1.2.2.2.1 c.1.2.2.2.2.1 c.1.2.2.2.2.2.1 (fun w0 => K ⟨.b w0, [], []⟩)
structure call_numbers_i1_G where
  mk ::
  call_in : call_in_T
  right_Good : right_Good_T
noncomputable def call_numbers_i1_s (G : call_numbers_i1_G) {ρ : Type} (_n : Nat) (a0 : Int) (_a1 : Bool) (_a2 : Bool) (_a3 : Rows) (_a4 : Bool) (_a5 : Bool) (a6 : Int) (a7 : Int) (_a8 : Int) (k0 : (Bool → Option ρ)) : Option ρ :=
  bif ((a0 : Int) == 1) then
    G.call_in ρ a6 1 5 (fun w0_0 =>
      bif w0_0 then
        G.call_in ρ a7 0 4096 (fun w1_0 =>
          bif w1_0 then
            k0 true
          else k0 false)
      else k0 false)
  else bif ((a0 : Int) == 2) then
    G.right_Good ρ a6 (fun w2_0 =>
      bif w2_0 then
        bif ((a7 : Int) == 0) then
          k0 true
        else k0 false
      else k0 false)
  else bif ((a0 : Int) == 3) then
    G.right_Good ρ a6 (fun w3_0 =>
      bif w3_0 then
        G.call_in ρ a7 1 65535 (fun w4_0 =>
          bif w4_0 then
            k0 true
          else k0 false)
      else k0 false)
  else bif ((a0 : Int) == 11) then
    G.call_in ρ a6 0 3 (fun w5_0 =>
      bif w5_0 then
        bif ((a7 : Int) == 0) then
          k0 true
        else k0 false
      else k0 false)
  else bif ((a0 : Int) == 12) then
    G.call_in ρ a6 0 3 (fun w6_0 =>
      bif w6_0 then
        bif ((a7 : Int) == 0) then
          k0 true
        else k0 false
      else k0 false)
  else bif ((a6 : Int) == 0) then
    bif ((a7 : Int) == 0) then
      k0 true
    else k0 false
  else k0 false
noncomputable def call_numbers_i1_g (n : Nat) : call_numbers_i1_G := ⟨call_in n, right_Good n⟩
noncomputable def call_numbers_i1 (n : Nat) : call_numbers_i1_T := fun _ρ a0 a1 a2 a3 a4 a5 a6 a7 a8 k0 => call_numbers_i1_s (call_numbers_i1_g n) n a0 a1 a2 a3 a4 a5 a6 a7 a8 k0
noncomputable def call_numbers_i1_e (n : Nat) : EK := call_numbers_i1_E (call_numbers_i1 n)
def call_numbers_i1_S (G : call_numbers_i1_G) : CK := tabS [(83, call_in_E G.call_in), (26, right_Good_E G.right_Good)]
theorem call_numbers_i1_Sok (n : Nat) : CK.OK (call_numbers_i1_S (call_numbers_i1_g n)) (L tab) := tabS_ok _ (List.forall_mem_cons.2 ⟨(call_in_ok n), List.forall_mem_cons.2 ⟨(right_Good_ok n), (fun _ h => nomatch h)⟩⟩)
def call_numbers_i1_hs : HintC := hintL []
noncomputable def call_numbers_i1_lp (_G : call_numbers_i1_G) (_n : Nat) : LK := tabL []
theorem call_numbers_i1_k (G : call_numbers_i1_G) {ρ : Type} (n : Nat) (a0 : Int) (a1 : Bool) (a2 : Bool) (a3 : Rows) (a4 : Bool) (a5 : Bool) (a6 : Int) (a7 : Int) (a8 : Int) (K : Res → Option ρ) : runC (call_numbers_i1_S G) call_numbers_i1_hs (call_numbers_i1_lp G n) m51 [.agg [.i .i64 a0, .lst a1 a2 1 a3, .lst a4 a5 0 [], .i .i64 a6, .i .i64 a7, .i .u64 a8]] K = call_numbers_i1_s G n a0 a1 a2 a3 a4 a5 a6 a7 a8 (fun w0 => K ⟨.b w0, [], []⟩) := by kernel_rfl
theorem call_numbers_i1_ok (n : Nat) : EK.OK (call_numbers_i1_e n) 51 (L tab) := EK.shp (fun _ _ _ => rfl) fun ρ K y c e => EK.run (call_numbers_i1_Sok n) (by kernel_rfl) (MF.LKOK.of (LK.of (l := []) (by kernel_rfl) ((fun _ h => nomatch h)))) (call_numbers_i1_k (call_numbers_i1_g n) n _ _ _ _ _ _ _ _ _ K) (by kernel_rfl) e

/-! reeve/call.Good -/
abbrev call_Good_i1_T : Type 1 := (ρ : Type) → Int → Bool → Bool → Rows → Bool → Bool → Int → Int → Int → (Bool → Option ρ) → Option ρ
def call_Good_i1_E (G : call_Good_i1_T) : EK := fun ρ args K => decL [.agg [.i .i64 none, .lst none none 1 none, .lst none none 0 (some []), .i .i64 none, .i .i64 none, .i .u64 none]] args fun c => G ρ c.1.1 c.1.2.1.1 c.1.2.1.2.1 c.1.2.1.2.2 c.1.2.2.1.1 c.1.2.2.1.2.1 c.1.2.2.2.1 c.1.2.2.2.2.1 c.1.2.2.2.2.2.1 (fun w0 => K ⟨.b w0, [], []⟩)
structure call_Good_i1_G where
  mk ::
  call_fields : call_fields_T
  strings_Contains : strings_Contains_T
  path_Good_i1 : path_Good_i1_T
  path_Good : path_Good_T
  call_numbers_i1 : call_numbers_i1_T
noncomputable def call_Good_i1_s (G : call_Good_i1_G) {ρ : Type} (_n : Nat) (a0 : Int) (a1 : Bool) (a2 : Bool) (a3 : Rows) (a4 : Bool) (a5 : Bool) (a6 : Int) (a7 : Int) (a8 : Int) (k0 : (Bool → Option ρ)) : Option ρ :=
  G.call_fields ρ a0 (fun _w0_0 w0_1 =>
    G.strings_Contains ρ w0_1 [66] (fun w1_0 =>
      bif w1_0 then
        G.path_Good_i1 ρ a4 a5 (bif ((w0_1 : Bys) != []) then
            G.path_Good ρ a1 a2 a3 (fun w3_0 =>
              bif w3_0 then
                k0 false
              else k0 false)
          else k0 false)
      else bif ((w0_1 : Bys) != []) then
        G.path_Good ρ a1 a2 a3 (fun w4_0 =>
          bif w4_0 then
            G.call_numbers_i1 ρ a0 a1 a2 a3 a4 a5 a6 a7 a8 (fun w5_0 =>
              bif w5_0 then
                bif ((a8 : Int) == 0) then
                  k0 true
                else G.strings_Contains ρ w0_1 [87] (fun w6_0 =>
                  bif w6_0 then
                    k0 true
                  else k0 false)
              else k0 false)
          else k0 false)
      else k0 false))
noncomputable def call_Good_i1_g (n : Nat) : call_Good_i1_G := ⟨call_fields n, strings_Contains n, path_Good_i1 n, path_Good n, call_numbers_i1 n⟩
noncomputable def call_Good_i1 (n : Nat) : call_Good_i1_T := fun _ρ a0 a1 a2 a3 a4 a5 a6 a7 a8 k0 => call_Good_i1_s (call_Good_i1_g n) n a0 a1 a2 a3 a4 a5 a6 a7 a8 k0
noncomputable def call_Good_i1_e (n : Nat) : EK := call_Good_i1_E (call_Good_i1 n)
def call_Good_i1_S (G : call_Good_i1_G) : CK := tabS [(47, call_fields_E G.call_fields), (48, strings_Contains_E G.strings_Contains), (49, altE [.agg [.lst none none 0 (some [])]] (path_Good_i1_E G.path_Good_i1) (path_Good_E G.path_Good)), (51, call_numbers_i1_E G.call_numbers_i1)]
theorem call_Good_i1_Sok (n : Nat) : CK.OK (call_Good_i1_S (call_Good_i1_g n)) (L tab) := tabS_ok _ (List.forall_mem_cons.2 ⟨(call_fields_ok n), List.forall_mem_cons.2 ⟨(strings_Contains_ok n), List.forall_mem_cons.2 ⟨altE_ok (path_Good_i1_ok n) ((path_Good_ok n)), List.forall_mem_cons.2 ⟨(call_numbers_i1_ok n), (fun _ h => nomatch h)⟩⟩⟩⟩)
def call_Good_i1_hs : HintC := hintL []
noncomputable def call_Good_i1_lp (_G : call_Good_i1_G) (_n : Nat) : LK := tabL []
theorem call_Good_i1_k (G : call_Good_i1_G) {ρ : Type} (n : Nat) (a0 : Int) (a1 : Bool) (a2 : Bool) (a3 : Rows) (a4 : Bool) (a5 : Bool) (a6 : Int) (a7 : Int) (a8 : Int) (K : Res → Option ρ) : runC (call_Good_i1_S G) call_Good_i1_hs (call_Good_i1_lp G n) m20 [.agg [.i .i64 a0, .lst a1 a2 1 a3, .lst a4 a5 0 [], .i .i64 a6, .i .i64 a7, .i .u64 a8]] K = call_Good_i1_s G n a0 a1 a2 a3 a4 a5 a6 a7 a8 (fun w0 => K ⟨.b w0, [], []⟩) := by kernel_rfl
theorem call_Good_i1_ok (n : Nat) : EK.OK (call_Good_i1_e n) 20 (L tab) := EK.shp (fun _ _ _ => rfl) fun ρ K y c e => EK.run (call_Good_i1_Sok n) (by kernel_rfl) (MF.LKOK.of (LK.of (l := []) (by kernel_rfl) ((fun _ h => nomatch h)))) (call_Good_i1_k (call_Good_i1_g n) n _ _ _ _ _ _ _ _ _ K) (by kernel_rfl) e

/-! reeve/cap.fields -/
abbrev cap_fields_T : Type 1 := (ρ : Type) → (Option ρ) → Option ρ
def cap_fields_E (G : cap_fields_T) : EK := fun ρ args K => decL [] args fun _c => G ρ (K ⟨.sl 0 4 2 0 4, [.row 2 true false [[.i .i64 0, .i .i64 8], [.i .i64 8, .i .i64 8], [.i .i64 16, .i .i64 16], [.i .i64 32, .i .i64 16]]], []⟩)
structure cap_fields_G where
  mk ::
noncomputable def cap_fields_s (_G : cap_fields_G) {ρ : Type} (_n : Nat)  (k0 : (Option ρ)) : Option ρ :=
  k0
noncomputable def cap_fields_g (_n : Nat) : cap_fields_G := ⟨⟩
noncomputable def cap_fields (n : Nat) : cap_fields_T := fun _ρ k0 => cap_fields_s (cap_fields_g n) n k0
noncomputable def cap_fields_e (n : Nat) : EK := cap_fields_E (cap_fields n)
def cap_fields_S (_G : cap_fields_G) : CK := tabS []
theorem cap_fields_Sok (n : Nat) : CK.OK (cap_fields_S (cap_fields_g n)) (L tab) := tabS_ok _ ((fun _ h => nomatch h))
def cap_fields_hs : HintC := hintL []
noncomputable def cap_fields_lp (_G : cap_fields_G) (_n : Nat) : LK := tabL []
theorem cap_fields_k (G : cap_fields_G) {ρ : Type} (n : Nat)  (K : Res → Option ρ) : runC (cap_fields_S G) cap_fields_hs (cap_fields_lp G n) m33 [] K = cap_fields_s G n  (K ⟨.sl 0 4 2 0 4, [.row 2 true false [[.i .i64 0, .i .i64 8], [.i .i64 8, .i .i64 8], [.i .i64 16, .i .i64 16], [.i .i64 32, .i .i64 16]]], []⟩) := by kernel_rfl
theorem cap_fields_ok (n : Nat) : EK.OK (cap_fields_e n) 33 (L tab) := EK.shp (fun _ _ _ => rfl) fun ρ K y c e => EK.run (cap_fields_Sok n) (by kernel_rfl) (MF.LKOK.of (LK.of (l := []) (by kernel_rfl) ((fun _ h => nomatch h)))) (cap_fields_k (cap_fields_g n) n  K) (by kernel_rfl) e

/-! (reeve/tag.Field).mask -/
abbrev tag_Field_mask_T : Type 1 := (ρ : Type) → Int → Int → (Int → Option ρ) → Option ρ
def tag_Field_mask_E (G : tag_Field_mask_T) : EK := fun ρ args K => decL [.agg [.i .i64 none, .i .i64 none]] args fun c => G ρ c.1.1 c.1.2.1 (fun w0 => K ⟨.i .u64 w0, [], []⟩)
structure tag_Field_mask_G where
  mk ::
noncomputable def tag_Field_mask_s (_G : tag_Field_mask_G) {ρ : Type} (_n : Nat) (a0 : Int) (a1 : Int) (k0 : (Int → Option ρ)) : Option ρ :=
  chk (decide (0 ≤ (a1 : Int))) <|
  chk (decide (0 ≤ (a0 : Int))) <|
  k0 (IntKind.wrap .u64 (((IntKind.wrap .u64 ((IntKind.wrap .u64 ((1 : Int) * 2 ^ (min a1.toNat (IntKind.bits .u64)))) - 1)) : Int) * 2 ^ (min a0.toNat (IntKind.bits .u64))))
noncomputable def tag_Field_mask_g (_n : Nat) : tag_Field_mask_G := ⟨⟩
noncomputable def tag_Field_mask (n : Nat) : tag_Field_mask_T := fun _ρ a0 a1 k0 => tag_Field_mask_s (tag_Field_mask_g n) n a0 a1 k0
noncomputable def tag_Field_mask_e (n : Nat) : EK := tag_Field_mask_E (tag_Field_mask n)
def tag_Field_mask_S (_G : tag_Field_mask_G) : CK := tabS []
theorem tag_Field_mask_Sok (n : Nat) : CK.OK (tag_Field_mask_S (tag_Field_mask_g n)) (L tab) := tabS_ok _ ((fun _ h => nomatch h))
def tag_Field_mask_hs : HintC := hintL []
noncomputable def tag_Field_mask_lp (_G : tag_Field_mask_G) (_n : Nat) : LK := tabL []
theorem tag_Field_mask_k (G : tag_Field_mask_G) {ρ : Type} (n : Nat) (a0 : Int) (a1 : Int) (K : Res → Option ρ) : runC (tag_Field_mask_S G) tag_Field_mask_hs (tag_Field_mask_lp G n) m58 [.agg [.i .i64 a0, .i .i64 a1]] K = tag_Field_mask_s G n a0 a1 (fun w0 => K ⟨.i .u64 w0, [], []⟩) := by kernel_rfl
theorem tag_Field_mask_ok (n : Nat) : EK.OK (tag_Field_mask_e n) 58 (L tab) := EK.shp (fun _ _ _ => rfl) fun ρ K y c e => EK.run (tag_Field_mask_Sok n) (by kernel_rfl) (MF.LKOK.of (LK.of (l := []) (by kernel_rfl) ((fun _ h => nomatch h)))) (tag_Field_mask_k (tag_Field_mask_g n) n _ _ K) (by kernel_rfl) e

/-! reeve/tag.all -/
abbrev tag_all_T : Type 1 := (ρ : Type) → Bool → Bool → Rows → (Int → Bool → Option ρ) → Option ρ
def tag_all_E (G : tag_all_T) : EK := fun ρ args K => decL [.lst none none 2 none] args fun c => G ρ c.1.1 c.1.2.1 c.1.2.2 (fun w0 w1 => K ⟨.tup [.i .u64 w0, .b w1], [], []⟩)
structure tag_all_G where
  mk ::
  tag_Field_mask : tag_Field_mask_T
abbrev tag_all_l3_V : Type := Int × Int
noncomputable def tag_all_l3_s (G : tag_all_G) {ρ : Type} (_n : Nat) (_p0 : Bool) (_p1 : Bool) (p2 : Rows) (p3 : Int) (k0 : (Int → Option ρ)) (k1 : (Int → Option ρ)) (rec' : tag_all_l3_V → Option ρ) : tag_all_l3_V → Option ρ
  | v =>
  bif decide ((v.2 : Int) < p3) then
    rowT [.i .i64, .i .i64] p2 v.2 fun c0 =>
    bif decide ((c0.1 : Int) < 0) then
      k0 v.1
    else bif decide ((c0.1 : Int) ≥ 64) then
      k0 v.1
    else bif decide ((c0.2.1 : Int) < 1) then
      k0 v.1
    else bif decide ((c0.2.1 : Int) > (IntKind.wrap .i64 (64 - c0.1))) then
      k0 v.1
    else G.tag_Field_mask ρ c0.1 c0.2.1 (fun w1_0 =>
      bif (((IntKind.wrap .u64 (BitVec.ofInt (IntKind.bits .u64) v.1 &&& BitVec.ofInt (IntKind.bits .u64) w1_0).toNat) : Int) != 0) then
        k0 v.1
      else G.tag_Field_mask ρ c0.1 c0.2.1 (fun w2_0 =>
        rec' ((IntKind.wrap .u64 (BitVec.ofInt (IntKind.bits .u64) v.1 ||| BitVec.ofInt (IntKind.bits .u64) w2_0).toNat), (IntKind.wrap .i64 (v.2 + 1)))))
  else k1 v.1
noncomputable def tag_all_l3 (G : tag_all_G) {ρ : Type} (n : Nat) (p0 : Bool) (p1 : Bool) (p2 : Rows) (p3 : Int) (k0 : (Int → Option ρ)) (k1 : (Int → Option ρ)) (v : tag_all_l3_V) : Option ρ := fuelN (tag_all_l3_s G n p0 p1 p2 p3 k0 k1) n v
def tag_all_l3_enc (p0 : Bool) (p1 : Bool) (p2 : Rows) (p3 : Int) : tag_all_l3_V → St
  | v => ⟨[(4, .i .u64 v.1), (7, .lst p0 p1 2 p2), (8, .i .i64 p3), (9, .i .i64 v.2)], []⟩
noncomputable def tag_all_s (G : tag_all_G) {ρ : Type} (n : Nat) (a0 : Bool) (a1 : Bool) (a2 : Rows) (k0 : (Int → Bool → Option ρ)) : Option ρ :=
  tag_all_l3 G n a0 a1 a2 (((List.length (a2 : Rows)) : Nat) : Int) (fun _w0_0 =>
    k0 0 false) (fun w1_0 =>
    k0 w1_0 true) (0, 0)
noncomputable def tag_all_g (n : Nat) : tag_all_G := ⟨tag_Field_mask n⟩
noncomputable def tag_all (n : Nat) : tag_all_T := fun _ρ a0 a1 a2 k0 => tag_all_s (tag_all_g n) n a0 a1 a2 k0
noncomputable def tag_all_e (n : Nat) : EK := tag_all_E (tag_all n)
def tag_all_S (G : tag_all_G) : CK := tabS [(58, tag_Field_mask_E G.tag_Field_mask)]
theorem tag_all_Sok (n : Nat) : CK.OK (tag_all_S (tag_all_g n)) (L tab) := tabS_ok _ (List.forall_mem_cons.2 ⟨(tag_Field_mask_ok n), (fun _ h => nomatch h)⟩)
def tag_all_hs : HintC := hintL [(11, [.i .i64, .i .i64])]
def tag_all_c3 : Nat × List Nat × List Nat × MC := loopAt 3 m88
noncomputable def tag_all_l3_d (G : tag_all_G) (n : Nat) : Go.Rv.LE := fun _ρ h K => decSt [(4, .i .u64 none), (7, .lst none none 2 none), (8, .i .i64 none), (9, .i .i64 none)] [] h fun a _b => tag_all_l3 G n a.2.1.1 a.2.1.2.1 a.2.1.2.2 a.2.2.1 (fun w0 => K .ret ⟨[(2, .i .u64 0), (3, .b false), (4, .i .u64 w0)], []⟩) (fun w0 => K (.exit 0) ⟨[(2, .u), (3, .u), (4, .i .u64 w0)], []⟩) (a.1, a.2.2.2.1)
noncomputable def tag_all_d3 (G : tag_all_G) (n : Nat) : Go.Rv.LE := tag_all_l3_d G n
noncomputable def tag_all_lp (G : tag_all_G) (n : Nat) : LK := tabL [(3, tag_all_d3 G n)]
theorem tag_all_l3_k (G : tag_all_G) {ρ : Type} (n : Nat) (p0 : Bool) (p1 : Bool) (p2 : Rows) (p3 : Int) (K : Ex → St → Option ρ) (N : St → Option ρ) : ∀ v, roundC (tag_all_S G) tag_all_hs (tag_all_lp G n) tag_all_c3 0 N K (tag_all_l3_enc p0 p1 p2 p3 v) = tag_all_l3_s G n p0 p1 p2 p3 (fun w0 => K .ret ⟨[(2, .i .u64 0), (3, .b false), (4, .i .u64 w0)], []⟩) (fun w0 => K (.exit 0) ⟨[(2, .u), (3, .u), (4, .i .u64 w0)], []⟩) (fun v => N (tag_all_l3_enc p0 p1 p2 p3 v)) v
  | v => by kernel_rfl
theorem tag_all_l3_dok (n : Nat) : LE.OK (tag_all_l3_d (tag_all_g n) n) (L tab) tag_all_c3 := LE.shp (fun _ _ _ => rfl) fun ρ K y a b e => LE.rounds (tag_all_Sok n) (LK.of (l := []) (by kernel_rfl) ((fun _ h => nomatch h))) (tag_all_l3_k (tag_all_g n) n _ _ _ _ K) (by kernel_rfl) (by kernel_rfl) e
theorem tag_all_d3_ok (n : Nat) : LE.OK (tag_all_d3 (tag_all_g n) n) (L tab) tag_all_c3 := tag_all_l3_dok n
theorem tag_all_k (G : tag_all_G) {ρ : Type} (n : Nat) (a0 : Bool) (a1 : Bool) (a2 : Rows) (K : Res → Option ρ) : runC (tag_all_S G) tag_all_hs (tag_all_lp G n) m88 [.lst a0 a1 2 a2] K = tag_all_s G n a0 a1 a2 (fun w0 w1 => K ⟨.tup [.i .u64 w0, .b w1], [], []⟩) := by kernel_rfl
theorem tag_all_ok (n : Nat) : EK.OK (tag_all_e n) 88 (L tab) := EK.shp (fun _ _ _ => rfl) fun ρ K y c e => EK.run (tag_all_Sok n) (by kernel_rfl) (MF.LKOK.of (LK.of (l := [tag_all_c3]) (by kernel_rfl) (List.forall_mem_cons.2 ⟨LE.at (e := tag_all_d3 (tag_all_g n) n) (by kernel_rfl) (tag_all_d3_ok n), (fun _ h => nomatch h)⟩))) (tag_all_k (tag_all_g n) n _ _ _ K) (by kernel_rfl) e

/-! reeve/tag.Good -/
abbrev tag_Good_T : Type 1 := (ρ : Type) → Bool → Bool → Rows → (Bool → Option ρ) → Option ρ
def tag_Good_E (G : tag_Good_T) : EK := fun ρ args K => decL [.lst none none 2 none] args fun c => G ρ c.1.1 c.1.2.1 c.1.2.2 (fun w0 => K ⟨.b w0, [], []⟩)
structure tag_Good_G where
  mk ::
  tag_all : tag_all_T
noncomputable def tag_Good_s (G : tag_Good_G) {ρ : Type} (_n : Nat) (a0 : Bool) (a1 : Bool) (a2 : Rows) (k0 : (Bool → Option ρ)) : Option ρ :=
  G.tag_all ρ a0 a1 a2 (fun _w0_0 w0_1 =>
    bif w0_1 then
      k0 true
    else k0 false)
noncomputable def tag_Good_g (n : Nat) : tag_Good_G := ⟨tag_all n⟩
noncomputable def tag_Good (n : Nat) : tag_Good_T := fun _ρ a0 a1 a2 k0 => tag_Good_s (tag_Good_g n) n a0 a1 a2 k0
noncomputable def tag_Good_e (n : Nat) : EK := tag_Good_E (tag_Good n)
def tag_Good_S (G : tag_Good_G) : CK := tabS [(88, tag_all_E G.tag_all)]
theorem tag_Good_Sok (n : Nat) : CK.OK (tag_Good_S (tag_Good_g n)) (L tab) := tabS_ok _ (List.forall_mem_cons.2 ⟨(tag_all_ok n), (fun _ h => nomatch h)⟩)
def tag_Good_hs : HintC := hintL []
noncomputable def tag_Good_lp (_G : tag_Good_G) (_n : Nat) : LK := tabL []
theorem tag_Good_k (G : tag_Good_G) {ρ : Type} (n : Nat) (a0 : Bool) (a1 : Bool) (a2 : Rows) (K : Res → Option ρ) : runC (tag_Good_S G) tag_Good_hs (tag_Good_lp G n) m57 [.lst a0 a1 2 a2] K = tag_Good_s G n a0 a1 a2 (fun w0 => K ⟨.b w0, [], []⟩) := by kernel_rfl
theorem tag_Good_ok (n : Nat) : EK.OK (tag_Good_e n) 57 (L tab) := EK.shp (fun _ _ _ => rfl) fun ρ K y c e => EK.run (tag_Good_Sok n) (by kernel_rfl) (MF.LKOK.of (LK.of (l := []) (by kernel_rfl) ((fun _ h => nomatch h)))) (tag_Good_k (tag_Good_g n) n _ _ _ K) (by kernel_rfl) e

end Go.Rv
/- functions as programs of ours, and their ties, part 5 -/
namespace Go.Rv
/-! reeve/tag.Put -/
abbrev tag_Put_T : Type 1 := (ρ : Type) → Bool → Bool → Rows → Bool → Bool → Rows → (Int → Bool → Option ρ) → Option ρ
def tag_Put_E (G : tag_Put_T) : EK := fun ρ args K => decL [.lst none none 2 none, .lst none none 1 none] args fun c => G ρ c.1.1 c.1.2.1 c.1.2.2 c.2.1.1 c.2.1.2.1 c.2.1.2.2 (fun w0 w1 => K ⟨.tup [.i .u64 w0, .b w1], [], []⟩)
structure tag_Put_G where
  mk ::
  tag_Good : tag_Good_T
  tag_Field_mask : tag_Field_mask_T
abbrev tag_Put_l5_V : Type := Int × Int
noncomputable def tag_Put_l5_s (G : tag_Put_G) {ρ : Type} (_n : Nat) (_p0 : Bool) (_p1 : Bool) (p2 : Rows) (_p3 : Bool) (_p4 : Bool) (p5 : Rows) (p6 : Int) (k0 : (Int → Option ρ)) (k1 : (Int → Option ρ)) (rec' : tag_Put_l5_V → Option ρ) : tag_Put_l5_V → Option ρ
  | v =>
  bif decide ((v.2 : Int) < p6) then
    rowT [.i .i64, .i .i64] p5 v.2 fun c0 =>
    rowT [.i .u64] p2 v.2 fun c1 =>
    G.tag_Field_mask ρ c0.1 c0.2.1 (fun w2_0 =>
      chk (decide (0 ≤ (c0.1 : Int))) <|
      bif decide ((c1.1 : Int) > ((w2_0 : Int).fdiv (2 ^ (min c0.1.toNat (IntKind.bits .u64))))) then
        k0 v.1
      else rowT [.i .u64] p2 v.2 fun c3 =>
      chk (decide (0 ≤ (c0.1 : Int))) <|
      rec' ((IntKind.wrap .u64 (BitVec.ofInt (IntKind.bits .u64) v.1 ||| BitVec.ofInt (IntKind.bits .u64) (IntKind.wrap .u64 ((c3.1 : Int) * 2 ^ (min c0.1.toNat (IntKind.bits .u64))))).toNat), (IntKind.wrap .i64 (v.2 + 1))))
  else k1 v.1
noncomputable def tag_Put_l5 (G : tag_Put_G) {ρ : Type} (n : Nat) (p0 : Bool) (p1 : Bool) (p2 : Rows) (p3 : Bool) (p4 : Bool) (p5 : Rows) (p6 : Int) (k0 : (Int → Option ρ)) (k1 : (Int → Option ρ)) (v : tag_Put_l5_V) : Option ρ := fuelN (tag_Put_l5_s G n p0 p1 p2 p3 p4 p5 p6 k0 k1) n v
def tag_Put_l5_enc (p0 : Bool) (p1 : Bool) (p2 : Rows) (p3 : Bool) (p4 : Bool) (p5 : Rows) (p6 : Int) : tag_Put_l5_V → St
  | v => ⟨[(1, .lst p0 p1 1 p2), (6, .i .u64 v.1), (19, .lst p3 p4 2 p5), (20, .i .i64 p6), (21, .i .i64 v.2)], []⟩
noncomputable def tag_Put_s (G : tag_Put_G) {ρ : Type} (n : Nat) (a0 : Bool) (a1 : Bool) (a2 : Rows) (a3 : Bool) (a4 : Bool) (a5 : Rows) (k0 : (Int → Bool → Option ρ)) : Option ρ :=
  G.tag_Good ρ a0 a1 a2 (fun w0_0 =>
    bif w0_0 then
      bif (((((List.length (a2 : Rows)) : Nat) : Int) : Int) != (((List.length (a5 : Rows)) : Nat) : Int)) then
        k0 0 false
      else tag_Put_l5 G n a3 a4 a5 a0 a1 a2 (((List.length (a2 : Rows)) : Nat) : Int) (fun _w1_0 =>
        k0 0 false) (fun w2_0 =>
        k0 w2_0 true) (0, 0)
    else k0 0 false)
noncomputable def tag_Put_g (n : Nat) : tag_Put_G := ⟨tag_Good n, tag_Field_mask n⟩
noncomputable def tag_Put (n : Nat) : tag_Put_T := fun _ρ a0 a1 a2 a3 a4 a5 k0 => tag_Put_s (tag_Put_g n) n a0 a1 a2 a3 a4 a5 k0
noncomputable def tag_Put_e (n : Nat) : EK := tag_Put_E (tag_Put n)
def tag_Put_S (G : tag_Put_G) : CK := tabS [(57, tag_Good_E G.tag_Good), (58, tag_Field_mask_E G.tag_Field_mask)]
theorem tag_Put_Sok (n : Nat) : CK.OK (tag_Put_S (tag_Put_g n)) (L tab) := tabS_ok _ (List.forall_mem_cons.2 ⟨(tag_Good_ok n), List.forall_mem_cons.2 ⟨(tag_Field_mask_ok n), (fun _ h => nomatch h)⟩⟩)
def tag_Put_hs : HintC := hintL [(24, [.i .i64, .i .i64]), (28, [.i .u64]), (39, [.i .u64])]
def tag_Put_c5 : Nat × List Nat × List Nat × MC := loopAt 5 m32
noncomputable def tag_Put_l5_d (G : tag_Put_G) (n : Nat) : Go.Rv.LE := fun _ρ h K => decSt [(1, .lst none none 1 none), (6, .i .u64 none), (19, .lst none none 2 none), (20, .i .i64 none), (21, .i .i64 none)] [] h fun a _b => tag_Put_l5 G n a.1.1 a.1.2.1 a.1.2.2 a.2.2.1.1 a.2.2.1.2.1 a.2.2.1.2.2 a.2.2.2.1 (fun w0 => K .ret ⟨[(4, .i .u64 0), (5, .b false), (6, .i .u64 w0)], []⟩) (fun w0 => K (.exit 0) ⟨[(4, .u), (5, .u), (6, .i .u64 w0)], []⟩) (a.2.1, a.2.2.2.2.1)
noncomputable def tag_Put_d5 (G : tag_Put_G) (n : Nat) : Go.Rv.LE := tag_Put_l5_d G n
noncomputable def tag_Put_lp (G : tag_Put_G) (n : Nat) : LK := tabL [(5, tag_Put_d5 G n)]
theorem tag_Put_l5_k (G : tag_Put_G) {ρ : Type} (n : Nat) (p0 : Bool) (p1 : Bool) (p2 : Rows) (p3 : Bool) (p4 : Bool) (p5 : Rows) (p6 : Int) (K : Ex → St → Option ρ) (N : St → Option ρ) : ∀ v, roundC (tag_Put_S G) tag_Put_hs (tag_Put_lp G n) tag_Put_c5 0 N K (tag_Put_l5_enc p0 p1 p2 p3 p4 p5 p6 v) = tag_Put_l5_s G n p0 p1 p2 p3 p4 p5 p6 (fun w0 => K .ret ⟨[(4, .i .u64 0), (5, .b false), (6, .i .u64 w0)], []⟩) (fun w0 => K (.exit 0) ⟨[(4, .u), (5, .u), (6, .i .u64 w0)], []⟩) (fun v => N (tag_Put_l5_enc p0 p1 p2 p3 p4 p5 p6 v)) v
  | v => by kernel_rfl
theorem tag_Put_l5_dok (n : Nat) : LE.OK (tag_Put_l5_d (tag_Put_g n) n) (L tab) tag_Put_c5 := LE.shp (fun _ _ _ => rfl) fun ρ K y a b e => LE.rounds (tag_Put_Sok n) (LK.of (l := []) (by kernel_rfl) ((fun _ h => nomatch h))) (tag_Put_l5_k (tag_Put_g n) n _ _ _ _ _ _ _ K) (by kernel_rfl) (by kernel_rfl) e
theorem tag_Put_d5_ok (n : Nat) : LE.OK (tag_Put_d5 (tag_Put_g n) n) (L tab) tag_Put_c5 := tag_Put_l5_dok n
theorem tag_Put_k (G : tag_Put_G) {ρ : Type} (n : Nat) (a0 : Bool) (a1 : Bool) (a2 : Rows) (a3 : Bool) (a4 : Bool) (a5 : Rows) (K : Res → Option ρ) : runC (tag_Put_S G) tag_Put_hs (tag_Put_lp G n) m32 [.lst a0 a1 2 a2, .lst a3 a4 1 a5] K = tag_Put_s G n a0 a1 a2 a3 a4 a5 (fun w0 w1 => K ⟨.tup [.i .u64 w0, .b w1], [], []⟩) := by kernel_rfl
theorem tag_Put_ok (n : Nat) : EK.OK (tag_Put_e n) 32 (L tab) := EK.shp (fun _ _ _ => rfl) fun ρ K y c e => EK.run (tag_Put_Sok n) (by kernel_rfl) (MF.LKOK.of (LK.of (l := [tag_Put_c5]) (by kernel_rfl) (List.forall_mem_cons.2 ⟨LE.at (e := tag_Put_d5 (tag_Put_g n) n) (by kernel_rfl) (tag_Put_d5_ok n), (fun _ h => nomatch h)⟩))) (tag_Put_k (tag_Put_g n) n _ _ _ _ _ _ K) (by kernel_rfl) e

/-! reeve/cap.Word -/
abbrev cap_Word_T : Type 1 := (ρ : Type) → Int → Int → Int → Int → (Int → Bool → Option ρ) → Option ρ
def cap_Word_E (G : cap_Word_T) : EK := fun ρ args K => decL [.agg [.i .i64 none, .i .i64 none, .i .i64 none, .i .i64 none]] args fun c => G ρ c.1.1 c.1.2.1 c.1.2.2.1 c.1.2.2.2.1 (fun w0 w1 => K ⟨.tup [.i .u64 w0, .b w1], [], []⟩)
structure cap_Word_G where
  mk ::
  cap_Good : cap_Good_T
  cap_fields : cap_fields_T
  tag_Put : tag_Put_T
noncomputable def cap_Word_s (G : cap_Word_G) {ρ : Type} (_n : Nat) (a0 : Int) (a1 : Int) (a2 : Int) (a3 : Int) (k0 : (Int → Bool → Option ρ)) : Option ρ :=
  G.cap_Good ρ a0 a1 a2 a3 (fun w0_0 =>
    bif w0_0 then
      G.cap_fields ρ (G.tag_Put ρ false false ([[.i .i64 0, .i .i64 8], [.i .i64 8, .i .i64 8], [.i .i64 16, .i .i64 16], [.i .i64 32, .i .i64 16]]) false false ([[.i .u64 (IntKind.wrap .u64 (a0))], [.i .u64 (IntKind.wrap .u64 (a2))], [.i .u64 (IntKind.wrap .u64 (a3))], [.i .u64 (IntKind.wrap .u64 (a1))]]) (fun w2_0 w2_1 =>
          bif w2_1 then
            k0 w2_0 true
          else k0 w2_0 false))
    else k0 0 false)
noncomputable def cap_Word_g (n : Nat) : cap_Word_G := ⟨cap_Good n, cap_fields n, tag_Put n⟩
noncomputable def cap_Word (n : Nat) : cap_Word_T := fun _ρ a0 a1 a2 a3 k0 => cap_Word_s (cap_Word_g n) n a0 a1 a2 a3 k0
noncomputable def cap_Word_e (n : Nat) : EK := cap_Word_E (cap_Word n)
def cap_Word_S (G : cap_Word_G) : CK := tabS [(9, cap_Good_E G.cap_Good), (33, cap_fields_E G.cap_fields), (32, tag_Put_E G.tag_Put)]
theorem cap_Word_Sok (n : Nat) : CK.OK (cap_Word_S (cap_Word_g n)) (L tab) := tabS_ok _ (List.forall_mem_cons.2 ⟨(cap_Good_ok n), List.forall_mem_cons.2 ⟨(cap_fields_ok n), List.forall_mem_cons.2 ⟨(tag_Put_ok n), (fun _ h => nomatch h)⟩⟩⟩)
def cap_Word_hs : HintC := hintL []
noncomputable def cap_Word_lp (_G : cap_Word_G) (_n : Nat) : LK := tabL []
theorem cap_Word_k (G : cap_Word_G) {ρ : Type} (n : Nat) (a0 : Int) (a1 : Int) (a2 : Int) (a3 : Int) (K : Res → Option ρ) : runC (cap_Word_S G) cap_Word_hs (cap_Word_lp G n) m14 [.agg [.i .i64 a0, .i .i64 a1, .i .i64 a2, .i .i64 a3]] K = cap_Word_s G n a0 a1 a2 a3 (fun w0 w1 => K ⟨.tup [.i .u64 w0, .b w1], [], []⟩) := by kernel_rfl
theorem cap_Word_ok (n : Nat) : EK.OK (cap_Word_e n) 14 (L tab) := EK.shp (fun _ _ _ => rfl) fun ρ K y c e => EK.run (cap_Word_Sok n) (by kernel_rfl) (MF.LKOK.of (LK.of (l := []) (by kernel_rfl) ((fun _ h => nomatch h)))) (cap_Word_k (cap_Word_g n) n _ _ _ _ K) (by kernel_rfl) e

/-! reeve/forest.Depth -/
abbrev forest_Depth_T : Type 1 := (ρ : Type) → Bool → Bool → Rows → Int → (Int → Option ρ) → Option ρ
def forest_Depth_E (G : forest_Depth_T) : EK := fun ρ args K => decL [.agg [.lst none none 1 none], .i .i64 none] args fun c => G ρ c.1.1.1 c.1.1.2.1 c.1.1.2.2 c.2.1 (fun w0 => K ⟨.i .i64 w0, [], []⟩)
structure forest_Depth_G where
  mk ::
  forest_may : forest_may_T
abbrev forest_Depth_l5_V : Type := Int × Int
noncomputable def forest_Depth_l5_s (_G : forest_Depth_G) {ρ : Type} (_n : Nat) (_p1 : Bool) (_p2 : Bool) (p3 : Rows) (k0 : (Int → Option ρ)) (rec' : forest_Depth_l5_V → Option ρ) : forest_Depth_l5_V → Option ρ
  | v =>
  bif ((v.2 : Int) != (-1)) then
    rowT [.i .i64] p3 v.2 fun c0 =>
    rec' ((IntKind.wrap .i64 (v.1 + 1)), c0.1)
  else k0 v.1
noncomputable def forest_Depth_l5 (G : forest_Depth_G) {ρ : Type} (n : Nat) (p1 : Bool) (p2 : Bool) (p3 : Rows) (k0 : (Int → Option ρ)) (v : forest_Depth_l5_V) : Option ρ := fuelN (forest_Depth_l5_s G n p1 p2 p3 k0) n v
def forest_Depth_l5_enc (p1 : Bool) (p2 : Bool) (p3 : Rows) : forest_Depth_l5_V → St
  | v => ⟨[(2, .ptr 0 1 1 0 0), (5, .i .i64 v.1), (6, .i .i64 v.2)], [.row 1 true false [[.lst p1 p2 1 p3]]]⟩
noncomputable def forest_Depth_s (G : forest_Depth_G) {ρ : Type} (n : Nat) (a0 : Bool) (a1 : Bool) (a2 : Rows) (a3 : Int) (k0 : (Int → Option ρ)) : Option ρ :=
  G.forest_may ρ a0 a1 a2 a3 (fun w0_0 =>
    bif w0_0 then
      rowT [.i .i64] a2 a3 fun c1 =>
      forest_Depth_l5 G n a0 a1 a2 (fun w2_0 =>
        k0 w2_0) (0, c1.1)
    else k0 (-1))
noncomputable def forest_Depth_g (n : Nat) : forest_Depth_G := ⟨forest_may n⟩
noncomputable def forest_Depth (n : Nat) : forest_Depth_T := fun _ρ a0 a1 a2 a3 k0 => forest_Depth_s (forest_Depth_g n) n a0 a1 a2 a3 k0
noncomputable def forest_Depth_e (n : Nat) : EK := forest_Depth_E (forest_Depth n)
def forest_Depth_S (G : forest_Depth_G) : CK := tabS [(56, forest_may_E G.forest_may)]
theorem forest_Depth_Sok (n : Nat) : CK.OK (forest_Depth_S (forest_Depth_g n)) (L tab) := tabS_ok _ (List.forall_mem_cons.2 ⟨(forest_may_ok n), (fun _ h => nomatch h)⟩)
def forest_Depth_hs : HintC := hintL [(14, [.i .i64]), (21, [.i .i64])]
def forest_Depth_c5 : Nat × List Nat × List Nat × MC := loopAt 5 m30
noncomputable def forest_Depth_l5_d (G : forest_Depth_G) (n : Nat) : Go.Rv.LE := fun _ρ h K => decSt [(2, .ptr 0 1 0 (some 1) (some 0)), (5, .i .i64 none), (6, .i .i64 none)] [.row 1 true false (some [[.lst none none 1 none]])] h fun a b => forest_Depth_l5 G n b.1.1.1.1 b.1.1.1.2.1 b.1.1.1.2.2 (fun w0 => K (.exit 0) ⟨[(5, .i .i64 w0)], [.row 1 true false [[.lst b.1.1.1.1 b.1.1.1.2.1 1 b.1.1.1.2.2]]]⟩) (a.2.1, a.2.2.1)
noncomputable def forest_Depth_d5 (G : forest_Depth_G) (n : Nat) : Go.Rv.LE := forest_Depth_l5_d G n
noncomputable def forest_Depth_lp (G : forest_Depth_G) (n : Nat) : LK := tabL [(5, forest_Depth_d5 G n)]
theorem forest_Depth_l5_k (G : forest_Depth_G) {ρ : Type} (n : Nat) (p1 : Bool) (p2 : Bool) (p3 : Rows) (K : Ex → St → Option ρ) (N : St → Option ρ) : ∀ v, roundC (forest_Depth_S G) forest_Depth_hs (forest_Depth_lp G n) forest_Depth_c5 1 N K (forest_Depth_l5_enc p1 p2 p3 v) = forest_Depth_l5_s G n p1 p2 p3 (fun w0 => K (.exit 0) ⟨[(5, .i .i64 w0)], [.row 1 true false [[.lst p1 p2 1 p3]]]⟩) (fun v => N (forest_Depth_l5_enc p1 p2 p3 v)) v
  | v => by kernel_rfl
theorem forest_Depth_l5_dok (n : Nat) : LE.OK (forest_Depth_l5_d (forest_Depth_g n) n) (L tab) forest_Depth_c5 := LE.shp (fun _ _ _ => rfl) fun ρ K y a b e => LE.rounds (forest_Depth_Sok n) (LK.of (l := []) (by kernel_rfl) ((fun _ h => nomatch h))) (forest_Depth_l5_k (forest_Depth_g n) n _ _ _ K) (by kernel_rfl) (by kernel_rfl) e
theorem forest_Depth_d5_ok (n : Nat) : LE.OK (forest_Depth_d5 (forest_Depth_g n) n) (L tab) forest_Depth_c5 := forest_Depth_l5_dok n
theorem forest_Depth_k (G : forest_Depth_G) {ρ : Type} (n : Nat) (a0 : Bool) (a1 : Bool) (a2 : Rows) (a3 : Int) (K : Res → Option ρ) : runC (forest_Depth_S G) forest_Depth_hs (forest_Depth_lp G n) m30 [.agg [.lst a0 a1 1 a2], .i .i64 a3] K = forest_Depth_s G n a0 a1 a2 a3 (fun w0 => K ⟨.i .i64 w0, [], []⟩) := by kernel_rfl
theorem forest_Depth_ok (n : Nat) : EK.OK (forest_Depth_e n) 30 (L tab) := EK.shp (fun _ _ _ => rfl) fun ρ K y c e => EK.run (forest_Depth_Sok n) (by kernel_rfl) (MF.LKOK.of (LK.of (l := [forest_Depth_c5]) (by kernel_rfl) (List.forall_mem_cons.2 ⟨LE.at (e := forest_Depth_d5 (forest_Depth_g n) n) (by kernel_rfl) (forest_Depth_d5_ok n), (fun _ h => nomatch h)⟩))) (forest_Depth_k (forest_Depth_g n) n _ _ _ _ K) (by kernel_rfl) e

/-! reeve/leaf.Do -/
abbrev leaf_Do_T : Type 1 := (ρ : Type) → Int → Int → Int → Bool → Bool → Rows → Bool → Bool → Rows → Int → Int → Bool → Bool → Rows → Bool → Bool → Int → Int → Int → (Bool → Bool → Rows → Bool → Bool → Rows → Int → Int → Int → Option ρ) → Option ρ
def leaf_Do_E (G : leaf_Do_T) : EK := fun ρ args K => decL [.agg [.i .i64 none, .i .i64 none, .i .i64 none, .lst none none 5 none, .lst none none 13 none], .i .i64 none, .agg [.i .i64 none, .lst none none 1 none, .lst none none 0 (some []), .i .i64 none, .i .i64 none, .i .u64 none]] args fun c => G ρ c.1.1 c.1.2.1 c.1.2.2.1 c.1.2.2.2.1.1 c.1.2.2.2.1.2.1 c.1.2.2.2.1.2.2 c.1.2.2.2.2.1.1 c.1.2.2.2.2.1.2.1 c.1.2.2.2.2.1.2.2 c.2.1 c.2.2.1.1 c.2.2.1.2.1.1 c.2.2.1.2.1.2.1 c.2.2.1.2.1.2.2 c.2.2.1.2.2.1.1 c.2.2.1.2.2.1.2.1 c.2.2.1.2.2.2.1 c.2.2.1.2.2.2.2.1 c.2.2.1.2.2.2.2.2.1 (fun w0 w1 w2 w3 w4 w5 w6 w7 w8 => K ⟨.tup [.agg [.i .i64 c.1.1, .i .i64 c.1.2.1, .i .i64 c.1.2.2.1, .lst w0 w1 5 w2, .lst w3 w4 13 w5], .agg [.i .i64 w6, .i .u64 w7, .i .i64 w8]], [], []⟩)
structure leaf_Do_G where
  mk ::
  call_Good_i1 : call_Good_i1_T
  find_Cap : find_Cap_T
  cap_Word : cap_Word_T
  state_Forest : state_Forest_T
  forest_Depth : forest_Depth_T
  right_Within : right_Within_T
  state_Clone : state_Clone_T
noncomputable def leaf_Do_s (G : leaf_Do_G) {ρ : Type} (_n : Nat) (a0 : Int) (a1 : Int) (a2 : Int) (a3 : Bool) (a4 : Bool) (a5 : Rows) (a6 : Bool) (a7 : Bool) (a8 : Rows) (a9 : Int) (a10 : Int) (a11 : Bool) (a12 : Bool) (a13 : Rows) (a14 : Bool) (a15 : Bool) (a16 : Int) (a17 : Int) (a18 : Int) (k0 : (Bool → Bool → Rows → Bool → Bool → Rows → Int → Int → Int → Option ρ)) : Option ρ :=
  G.call_Good_i1 ρ a10 a11 a12 a13 a14 a15 a16 a17 a18 (fun w0_0 =>
    bif w0_0 then
      bif ((a10 : Int) != 11) then
        bif ((a10 : Int) != 12) then
          bif ((a10 : Int) != 13) then
            k0 a3 a4 a5 a6 a7 a8 1 0 0
          else G.find_Cap ρ a0 a1 a2 a3 a4 a5 a6 a7 a8 a9 a11 a12 a13 (fun w1_0 w1_1 w1_2 w1_3 w1_4 w1_5 =>
            bif ((w1_5 : Int) != 0) then
              k0 a3 a4 a5 a6 a7 a8 w1_5 0 0
            else bif ((a10 : Int) == 13) then
              G.cap_Word ρ w1_1 w1_2 w1_3 w1_4 (fun w2_0 w2_1 =>
                bif w2_1 then
                  G.state_Forest ρ a0 a1 a2 a3 a4 a5 a6 a7 a8 (fun w3_0 w3_1 w3_2 =>
                    G.forest_Depth ρ w3_0 w3_1 w3_2 w1_0 (fun w4_0 =>
                      k0 a3 a4 a5 a6 a7 a8 0 w2_0 w4_0))
                else G.state_Forest ρ a0 a1 a2 a3 a4 a5 a6 a7 a8 (fun w5_0 w5_1 w5_2 =>
                  G.forest_Depth ρ w5_0 w5_1 w5_2 w1_0 (fun w6_0 =>
                    k0 a3 a4 a5 a6 a7 a8 0 w2_0 w6_0)))
            else bif ((a10 : Int) == 12) then
              bif ((w1_1 : Int) != 5) then
                k0 a3 a4 a5 a6 a7 a8 7 0 0
              else G.right_Within ρ 1 w1_3 (fun w7_0 =>
                bif w7_0 then
                  bif ((a10 : Int) == 12) then
                    rowT [.i .i64, .i .i64, .i .i64, .i .i64, .i .i64, .i .i64, .i .i64, .b, .i .u64, .i .u64, .i .u64, .i .u64, .i .u64] a8 w1_2 fun c8 =>
                    bif ((a16 : Int) == 0) then
                      k0 a3 a4 a5 a6 a7 a8 0 c8.2.2.2.2.2.2.2.2.2.1 0
                    else bif ((a16 : Int) == 1) then
                      k0 a3 a4 a5 a6 a7 a8 0 c8.2.2.2.2.2.2.2.2.2.2.1 0
                    else bif ((a16 : Int) == 2) then
                      k0 a3 a4 a5 a6 a7 a8 0 c8.2.2.2.2.2.2.2.2.2.2.2.1 0
                    else bif ((a16 : Int) == 3) then
                      k0 a3 a4 a5 a6 a7 a8 0 c8.2.2.2.2.2.2.2.2.2.2.2.2.1 0
                    else none
                  else G.state_Clone ρ a0 a1 a2 a3 a4 a5 a6 a7 a8 (none) (fun w10_0 w10_1 w10_2 =>
                    chk (decide ((0 : Int) ≤ w1_2)) <|
                    chk (decide ((w1_2 : Int) < ((w10_1 : Nat) : Int))) <|
                    bif ((a16 : Int) == 0) then
                      chk (((List.length (w10_2 : Rows)) : Nat) == w10_0) <|
                      rowN [.a, .a, .a, .a, .a, .a, .a, .a, .a, .a, .a, .a, .a] w10_2 (0 + w1_2.toNat) fun c11 =>
                      chk (((List.length ((List.set (w10_2 : Rows) (0 + w1_2.toNat) [c11.1, c11.2.1, c11.2.2.1, c11.2.2.2.1, c11.2.2.2.2.1, c11.2.2.2.2.2.1, c11.2.2.2.2.2.2.1, c11.2.2.2.2.2.2.2.1, c11.2.2.2.2.2.2.2.2.1, .i .u64 a18, c11.2.2.2.2.2.2.2.2.2.2.1, c11.2.2.2.2.2.2.2.2.2.2.2.1, c11.2.2.2.2.2.2.2.2.2.2.2.2.1]) : Rows)) : Nat) == w10_0) <|
                      k0 true true [] false false (List.take w10_1 (List.drop 0 ((List.set (w10_2 : Rows) (0 + w1_2.toNat) [c11.1, c11.2.1, c11.2.2.1, c11.2.2.2.1, c11.2.2.2.2.1, c11.2.2.2.2.2.1, c11.2.2.2.2.2.2.1, c11.2.2.2.2.2.2.2.1, c11.2.2.2.2.2.2.2.2.1, .i .u64 a18, c11.2.2.2.2.2.2.2.2.2.2.1, c11.2.2.2.2.2.2.2.2.2.2.2.1, c11.2.2.2.2.2.2.2.2.2.2.2.2.1]) : Rows))) 0 0 0
                    else bif ((a16 : Int) == 1) then
                      chk (((List.length (w10_2 : Rows)) : Nat) == w10_0) <|
                      rowN [.a, .a, .a, .a, .a, .a, .a, .a, .a, .a, .a, .a, .a] w10_2 (0 + w1_2.toNat) fun c12 =>
                      chk (((List.length ((List.set (w10_2 : Rows) (0 + w1_2.toNat) [c12.1, c12.2.1, c12.2.2.1, c12.2.2.2.1, c12.2.2.2.2.1, c12.2.2.2.2.2.1, c12.2.2.2.2.2.2.1, c12.2.2.2.2.2.2.2.1, c12.2.2.2.2.2.2.2.2.1, c12.2.2.2.2.2.2.2.2.2.1, .i .u64 a18, c12.2.2.2.2.2.2.2.2.2.2.2.1, c12.2.2.2.2.2.2.2.2.2.2.2.2.1]) : Rows)) : Nat) == w10_0) <|
                      k0 true true [] false false (List.take w10_1 (List.drop 0 ((List.set (w10_2 : Rows) (0 + w1_2.toNat) [c12.1, c12.2.1, c12.2.2.1, c12.2.2.2.1, c12.2.2.2.2.1, c12.2.2.2.2.2.1, c12.2.2.2.2.2.2.1, c12.2.2.2.2.2.2.2.1, c12.2.2.2.2.2.2.2.2.1, c12.2.2.2.2.2.2.2.2.2.1, .i .u64 a18, c12.2.2.2.2.2.2.2.2.2.2.2.1, c12.2.2.2.2.2.2.2.2.2.2.2.2.1]) : Rows))) 0 0 0
                    else bif ((a16 : Int) == 2) then
                      chk (((List.length (w10_2 : Rows)) : Nat) == w10_0) <|
                      rowN [.a, .a, .a, .a, .a, .a, .a, .a, .a, .a, .a, .a, .a] w10_2 (0 + w1_2.toNat) fun c13 =>
                      chk (((List.length ((List.set (w10_2 : Rows) (0 + w1_2.toNat) [c13.1, c13.2.1, c13.2.2.1, c13.2.2.2.1, c13.2.2.2.2.1, c13.2.2.2.2.2.1, c13.2.2.2.2.2.2.1, c13.2.2.2.2.2.2.2.1, c13.2.2.2.2.2.2.2.2.1, c13.2.2.2.2.2.2.2.2.2.1, c13.2.2.2.2.2.2.2.2.2.2.1, .i .u64 a18, c13.2.2.2.2.2.2.2.2.2.2.2.2.1]) : Rows)) : Nat) == w10_0) <|
                      k0 true true [] false false (List.take w10_1 (List.drop 0 ((List.set (w10_2 : Rows) (0 + w1_2.toNat) [c13.1, c13.2.1, c13.2.2.1, c13.2.2.2.1, c13.2.2.2.2.1, c13.2.2.2.2.2.1, c13.2.2.2.2.2.2.1, c13.2.2.2.2.2.2.2.1, c13.2.2.2.2.2.2.2.2.1, c13.2.2.2.2.2.2.2.2.2.1, c13.2.2.2.2.2.2.2.2.2.2.1, .i .u64 a18, c13.2.2.2.2.2.2.2.2.2.2.2.2.1]) : Rows))) 0 0 0
                    else bif ((a16 : Int) == 3) then
                      chk (((List.length (w10_2 : Rows)) : Nat) == w10_0) <|
                      rowN [.a, .a, .a, .a, .a, .a, .a, .a, .a, .a, .a, .a, .a] w10_2 (0 + w1_2.toNat) fun c14 =>
                      chk (((List.length ((List.set (w10_2 : Rows) (0 + w1_2.toNat) [c14.1, c14.2.1, c14.2.2.1, c14.2.2.2.1, c14.2.2.2.2.1, c14.2.2.2.2.2.1, c14.2.2.2.2.2.2.1, c14.2.2.2.2.2.2.2.1, c14.2.2.2.2.2.2.2.2.1, c14.2.2.2.2.2.2.2.2.2.1, c14.2.2.2.2.2.2.2.2.2.2.1, c14.2.2.2.2.2.2.2.2.2.2.2.1, .i .u64 a18]) : Rows)) : Nat) == w10_0) <|
                      k0 true true [] false false (List.take w10_1 (List.drop 0 ((List.set (w10_2 : Rows) (0 + w1_2.toNat) [c14.1, c14.2.1, c14.2.2.1, c14.2.2.2.1, c14.2.2.2.2.1, c14.2.2.2.2.2.1, c14.2.2.2.2.2.2.1, c14.2.2.2.2.2.2.2.1, c14.2.2.2.2.2.2.2.2.1, c14.2.2.2.2.2.2.2.2.2.1, c14.2.2.2.2.2.2.2.2.2.2.1, c14.2.2.2.2.2.2.2.2.2.2.2.1, .i .u64 a18]) : Rows))) 0 0 0
                    else none) (fun _w15_0 _w15_1 _w15_2 =>
                    none) (fun w16_0 w16_1 w16_2 w16_3 w16_4 w16_5 =>
                    chk (decide ((0 : Int) ≤ w1_2)) <|
                    chk (decide ((w1_2 : Int) < ((w16_3 : Nat) : Int))) <|
                    bif ((a16 : Int) == 0) then
                      chk (((List.length (w16_5 : Rows)) : Nat) == w16_2) <|
                      rowN [.a, .a, .a, .a, .a, .a, .a, .a, .a, .a, .a, .a, .a] w16_5 (0 + w1_2.toNat) fun c17 =>
                      chk (((List.length (w16_4 : Rows)) : Nat) == w16_0) <|
                      chk (((List.length ((List.set (w16_5 : Rows) (0 + w1_2.toNat) [c17.1, c17.2.1, c17.2.2.1, c17.2.2.2.1, c17.2.2.2.2.1, c17.2.2.2.2.2.1, c17.2.2.2.2.2.2.1, c17.2.2.2.2.2.2.2.1, c17.2.2.2.2.2.2.2.2.1, .i .u64 a18, c17.2.2.2.2.2.2.2.2.2.2.1, c17.2.2.2.2.2.2.2.2.2.2.2.1, c17.2.2.2.2.2.2.2.2.2.2.2.2.1]) : Rows)) : Nat) == w16_2) <|
                      k0 false false (List.take w16_1 (List.drop 0 (w16_4 : Rows))) false false (List.take w16_3 (List.drop 0 ((List.set (w16_5 : Rows) (0 + w1_2.toNat) [c17.1, c17.2.1, c17.2.2.1, c17.2.2.2.1, c17.2.2.2.2.1, c17.2.2.2.2.2.1, c17.2.2.2.2.2.2.1, c17.2.2.2.2.2.2.2.1, c17.2.2.2.2.2.2.2.2.1, .i .u64 a18, c17.2.2.2.2.2.2.2.2.2.2.1, c17.2.2.2.2.2.2.2.2.2.2.2.1, c17.2.2.2.2.2.2.2.2.2.2.2.2.1]) : Rows))) 0 0 0
                    else bif ((a16 : Int) == 1) then
                      chk (((List.length (w16_5 : Rows)) : Nat) == w16_2) <|
                      rowN [.a, .a, .a, .a, .a, .a, .a, .a, .a, .a, .a, .a, .a] w16_5 (0 + w1_2.toNat) fun c18 =>
                      chk (((List.length (w16_4 : Rows)) : Nat) == w16_0) <|
                      chk (((List.length ((List.set (w16_5 : Rows) (0 + w1_2.toNat) [c18.1, c18.2.1, c18.2.2.1, c18.2.2.2.1, c18.2.2.2.2.1, c18.2.2.2.2.2.1, c18.2.2.2.2.2.2.1, c18.2.2.2.2.2.2.2.1, c18.2.2.2.2.2.2.2.2.1, c18.2.2.2.2.2.2.2.2.2.1, .i .u64 a18, c18.2.2.2.2.2.2.2.2.2.2.2.1, c18.2.2.2.2.2.2.2.2.2.2.2.2.1]) : Rows)) : Nat) == w16_2) <|
                      k0 false false (List.take w16_1 (List.drop 0 (w16_4 : Rows))) false false (List.take w16_3 (List.drop 0 ((List.set (w16_5 : Rows) (0 + w1_2.toNat) [c18.1, c18.2.1, c18.2.2.1, c18.2.2.2.1, c18.2.2.2.2.1, c18.2.2.2.2.2.1, c18.2.2.2.2.2.2.1, c18.2.2.2.2.2.2.2.1, c18.2.2.2.2.2.2.2.2.1, c18.2.2.2.2.2.2.2.2.2.1, .i .u64 a18, c18.2.2.2.2.2.2.2.2.2.2.2.1, c18.2.2.2.2.2.2.2.2.2.2.2.2.1]) : Rows))) 0 0 0
                    else bif ((a16 : Int) == 2) then
                      chk (((List.length (w16_5 : Rows)) : Nat) == w16_2) <|
                      rowN [.a, .a, .a, .a, .a, .a, .a, .a, .a, .a, .a, .a, .a] w16_5 (0 + w1_2.toNat) fun c19 =>
                      chk (((List.length (w16_4 : Rows)) : Nat) == w16_0) <|
                      chk (((List.length ((List.set (w16_5 : Rows) (0 + w1_2.toNat) [c19.1, c19.2.1, c19.2.2.1, c19.2.2.2.1, c19.2.2.2.2.1, c19.2.2.2.2.2.1, c19.2.2.2.2.2.2.1, c19.2.2.2.2.2.2.2.1, c19.2.2.2.2.2.2.2.2.1, c19.2.2.2.2.2.2.2.2.2.1, c19.2.2.2.2.2.2.2.2.2.2.1, .i .u64 a18, c19.2.2.2.2.2.2.2.2.2.2.2.2.1]) : Rows)) : Nat) == w16_2) <|
                      k0 false false (List.take w16_1 (List.drop 0 (w16_4 : Rows))) false false (List.take w16_3 (List.drop 0 ((List.set (w16_5 : Rows) (0 + w1_2.toNat) [c19.1, c19.2.1, c19.2.2.1, c19.2.2.2.1, c19.2.2.2.2.1, c19.2.2.2.2.2.1, c19.2.2.2.2.2.2.1, c19.2.2.2.2.2.2.2.1, c19.2.2.2.2.2.2.2.2.1, c19.2.2.2.2.2.2.2.2.2.1, c19.2.2.2.2.2.2.2.2.2.2.1, .i .u64 a18, c19.2.2.2.2.2.2.2.2.2.2.2.2.1]) : Rows))) 0 0 0
                    else bif ((a16 : Int) == 3) then
                      chk (((List.length (w16_5 : Rows)) : Nat) == w16_2) <|
                      rowN [.a, .a, .a, .a, .a, .a, .a, .a, .a, .a, .a, .a, .a] w16_5 (0 + w1_2.toNat) fun c20 =>
                      chk (((List.length (w16_4 : Rows)) : Nat) == w16_0) <|
                      chk (((List.length ((List.set (w16_5 : Rows) (0 + w1_2.toNat) [c20.1, c20.2.1, c20.2.2.1, c20.2.2.2.1, c20.2.2.2.2.1, c20.2.2.2.2.2.1, c20.2.2.2.2.2.2.1, c20.2.2.2.2.2.2.2.1, c20.2.2.2.2.2.2.2.2.1, c20.2.2.2.2.2.2.2.2.2.1, c20.2.2.2.2.2.2.2.2.2.2.1, c20.2.2.2.2.2.2.2.2.2.2.2.1, .i .u64 a18]) : Rows)) : Nat) == w16_2) <|
                      k0 false false (List.take w16_1 (List.drop 0 (w16_4 : Rows))) false false (List.take w16_3 (List.drop 0 ((List.set (w16_5 : Rows) (0 + w1_2.toNat) [c20.1, c20.2.1, c20.2.2.1, c20.2.2.2.1, c20.2.2.2.2.1, c20.2.2.2.2.2.1, c20.2.2.2.2.2.2.1, c20.2.2.2.2.2.2.2.1, c20.2.2.2.2.2.2.2.2.1, c20.2.2.2.2.2.2.2.2.2.1, c20.2.2.2.2.2.2.2.2.2.2.1, c20.2.2.2.2.2.2.2.2.2.2.2.1, .i .u64 a18]) : Rows))) 0 0 0
                    else none)
                else k0 a3 a4 a5 a6 a7 a8 6 0 0)
            else bif ((w1_1 : Int) != 5) then
              k0 a3 a4 a5 a6 a7 a8 7 0 0
            else G.right_Within ρ 2 w1_3 (fun w21_0 =>
              bif w21_0 then
                bif ((a10 : Int) == 12) then
                  rowT [.i .i64, .i .i64, .i .i64, .i .i64, .i .i64, .i .i64, .i .i64, .b, .i .u64, .i .u64, .i .u64, .i .u64, .i .u64] a8 w1_2 fun c22 =>
                  bif ((a16 : Int) == 0) then
                    k0 a3 a4 a5 a6 a7 a8 0 c22.2.2.2.2.2.2.2.2.2.1 0
                  else bif ((a16 : Int) == 1) then
                    k0 a3 a4 a5 a6 a7 a8 0 c22.2.2.2.2.2.2.2.2.2.2.1 0
                  else bif ((a16 : Int) == 2) then
                    k0 a3 a4 a5 a6 a7 a8 0 c22.2.2.2.2.2.2.2.2.2.2.2.1 0
                  else bif ((a16 : Int) == 3) then
                    k0 a3 a4 a5 a6 a7 a8 0 c22.2.2.2.2.2.2.2.2.2.2.2.2.1 0
                  else none
                else G.state_Clone ρ a0 a1 a2 a3 a4 a5 a6 a7 a8 (none) (fun w24_0 w24_1 w24_2 =>
                  chk (decide ((0 : Int) ≤ w1_2)) <|
                  chk (decide ((w1_2 : Int) < ((w24_1 : Nat) : Int))) <|
                  bif ((a16 : Int) == 0) then
                    chk (((List.length (w24_2 : Rows)) : Nat) == w24_0) <|
                    rowN [.a, .a, .a, .a, .a, .a, .a, .a, .a, .a, .a, .a, .a] w24_2 (0 + w1_2.toNat) fun c25 =>
                    chk (((List.length ((List.set (w24_2 : Rows) (0 + w1_2.toNat) [c25.1, c25.2.1, c25.2.2.1, c25.2.2.2.1, c25.2.2.2.2.1, c25.2.2.2.2.2.1, c25.2.2.2.2.2.2.1, c25.2.2.2.2.2.2.2.1, c25.2.2.2.2.2.2.2.2.1, .i .u64 a18, c25.2.2.2.2.2.2.2.2.2.2.1, c25.2.2.2.2.2.2.2.2.2.2.2.1, c25.2.2.2.2.2.2.2.2.2.2.2.2.1]) : Rows)) : Nat) == w24_0) <|
                    k0 true true [] false false (List.take w24_1 (List.drop 0 ((List.set (w24_2 : Rows) (0 + w1_2.toNat) [c25.1, c25.2.1, c25.2.2.1, c25.2.2.2.1, c25.2.2.2.2.1, c25.2.2.2.2.2.1, c25.2.2.2.2.2.2.1, c25.2.2.2.2.2.2.2.1, c25.2.2.2.2.2.2.2.2.1, .i .u64 a18, c25.2.2.2.2.2.2.2.2.2.2.1, c25.2.2.2.2.2.2.2.2.2.2.2.1, c25.2.2.2.2.2.2.2.2.2.2.2.2.1]) : Rows))) 0 0 0
                  else bif ((a16 : Int) == 1) then
                    chk (((List.length (w24_2 : Rows)) : Nat) == w24_0) <|
                    rowN [.a, .a, .a, .a, .a, .a, .a, .a, .a, .a, .a, .a, .a] w24_2 (0 + w1_2.toNat) fun c26 =>
                    chk (((List.length ((List.set (w24_2 : Rows) (0 + w1_2.toNat) [c26.1, c26.2.1, c26.2.2.1, c26.2.2.2.1, c26.2.2.2.2.1, c26.2.2.2.2.2.1, c26.2.2.2.2.2.2.1, c26.2.2.2.2.2.2.2.1, c26.2.2.2.2.2.2.2.2.1, c26.2.2.2.2.2.2.2.2.2.1, .i .u64 a18, c26.2.2.2.2.2.2.2.2.2.2.2.1, c26.2.2.2.2.2.2.2.2.2.2.2.2.1]) : Rows)) : Nat) == w24_0) <|
                    k0 true true [] false false (List.take w24_1 (List.drop 0 ((List.set (w24_2 : Rows) (0 + w1_2.toNat) [c26.1, c26.2.1, c26.2.2.1, c26.2.2.2.1, c26.2.2.2.2.1, c26.2.2.2.2.2.1, c26.2.2.2.2.2.2.1, c26.2.2.2.2.2.2.2.1, c26.2.2.2.2.2.2.2.2.1, c26.2.2.2.2.2.2.2.2.2.1, .i .u64 a18, c26.2.2.2.2.2.2.2.2.2.2.2.1, c26.2.2.2.2.2.2.2.2.2.2.2.2.1]) : Rows))) 0 0 0
                  else bif ((a16 : Int) == 2) then
                    chk (((List.length (w24_2 : Rows)) : Nat) == w24_0) <|
                    rowN [.a, .a, .a, .a, .a, .a, .a, .a, .a, .a, .a, .a, .a] w24_2 (0 + w1_2.toNat) fun c27 =>
                    chk (((List.length ((List.set (w24_2 : Rows) (0 + w1_2.toNat) [c27.1, c27.2.1, c27.2.2.1, c27.2.2.2.1, c27.2.2.2.2.1, c27.2.2.2.2.2.1, c27.2.2.2.2.2.2.1, c27.2.2.2.2.2.2.2.1, c27.2.2.2.2.2.2.2.2.1, c27.2.2.2.2.2.2.2.2.2.1, c27.2.2.2.2.2.2.2.2.2.2.1, .i .u64 a18, c27.2.2.2.2.2.2.2.2.2.2.2.2.1]) : Rows)) : Nat) == w24_0) <|
                    k0 true true [] false false (List.take w24_1 (List.drop 0 ((List.set (w24_2 : Rows) (0 + w1_2.toNat) [c27.1, c27.2.1, c27.2.2.1, c27.2.2.2.1, c27.2.2.2.2.1, c27.2.2.2.2.2.1, c27.2.2.2.2.2.2.1, c27.2.2.2.2.2.2.2.1, c27.2.2.2.2.2.2.2.2.1, c27.2.2.2.2.2.2.2.2.2.1, c27.2.2.2.2.2.2.2.2.2.2.1, .i .u64 a18, c27.2.2.2.2.2.2.2.2.2.2.2.2.1]) : Rows))) 0 0 0
                  else bif ((a16 : Int) == 3) then
                    chk (((List.length (w24_2 : Rows)) : Nat) == w24_0) <|
                    rowN [.a, .a, .a, .a, .a, .a, .a, .a, .a, .a, .a, .a, .a] w24_2 (0 + w1_2.toNat) fun c28 =>
                    chk (((List.length ((List.set (w24_2 : Rows) (0 + w1_2.toNat) [c28.1, c28.2.1, c28.2.2.1, c28.2.2.2.1, c28.2.2.2.2.1, c28.2.2.2.2.2.1, c28.2.2.2.2.2.2.1, c28.2.2.2.2.2.2.2.1, c28.2.2.2.2.2.2.2.2.1, c28.2.2.2.2.2.2.2.2.2.1, c28.2.2.2.2.2.2.2.2.2.2.1, c28.2.2.2.2.2.2.2.2.2.2.2.1, .i .u64 a18]) : Rows)) : Nat) == w24_0) <|
                    k0 true true [] false false (List.take w24_1 (List.drop 0 ((List.set (w24_2 : Rows) (0 + w1_2.toNat) [c28.1, c28.2.1, c28.2.2.1, c28.2.2.2.1, c28.2.2.2.2.1, c28.2.2.2.2.2.1, c28.2.2.2.2.2.2.1, c28.2.2.2.2.2.2.2.1, c28.2.2.2.2.2.2.2.2.1, c28.2.2.2.2.2.2.2.2.2.1, c28.2.2.2.2.2.2.2.2.2.2.1, c28.2.2.2.2.2.2.2.2.2.2.2.1, .i .u64 a18]) : Rows))) 0 0 0
                  else none) (fun _w29_0 _w29_1 _w29_2 =>
                  none) (fun w30_0 w30_1 w30_2 w30_3 w30_4 w30_5 =>
                  chk (decide ((0 : Int) ≤ w1_2)) <|
                  chk (decide ((w1_2 : Int) < ((w30_3 : Nat) : Int))) <|
                  bif ((a16 : Int) == 0) then
                    chk (((List.length (w30_5 : Rows)) : Nat) == w30_2) <|
                    rowN [.a, .a, .a, .a, .a, .a, .a, .a, .a, .a, .a, .a, .a] w30_5 (0 + w1_2.toNat) fun c31 =>
                    chk (((List.length (w30_4 : Rows)) : Nat) == w30_0) <|
                    chk (((List.length ((List.set (w30_5 : Rows) (0 + w1_2.toNat) [c31.1, c31.2.1, c31.2.2.1, c31.2.2.2.1, c31.2.2.2.2.1, c31.2.2.2.2.2.1, c31.2.2.2.2.2.2.1, c31.2.2.2.2.2.2.2.1, c31.2.2.2.2.2.2.2.2.1, .i .u64 a18, c31.2.2.2.2.2.2.2.2.2.2.1, c31.2.2.2.2.2.2.2.2.2.2.2.1, c31.2.2.2.2.2.2.2.2.2.2.2.2.1]) : Rows)) : Nat) == w30_2) <|
                    k0 false false (List.take w30_1 (List.drop 0 (w30_4 : Rows))) false false (List.take w30_3 (List.drop 0 ((List.set (w30_5 : Rows) (0 + w1_2.toNat) [c31.1, c31.2.1, c31.2.2.1, c31.2.2.2.1, c31.2.2.2.2.1, c31.2.2.2.2.2.1, c31.2.2.2.2.2.2.1, c31.2.2.2.2.2.2.2.1, c31.2.2.2.2.2.2.2.2.1, .i .u64 a18, c31.2.2.2.2.2.2.2.2.2.2.1, c31.2.2.2.2.2.2.2.2.2.2.2.1, c31.2.2.2.2.2.2.2.2.2.2.2.2.1]) : Rows))) 0 0 0
                  else bif ((a16 : Int) == 1) then
                    chk (((List.length (w30_5 : Rows)) : Nat) == w30_2) <|
                    rowN [.a, .a, .a, .a, .a, .a, .a, .a, .a, .a, .a, .a, .a] w30_5 (0 + w1_2.toNat) fun c32 =>
                    chk (((List.length (w30_4 : Rows)) : Nat) == w30_0) <|
                    chk (((List.length ((List.set (w30_5 : Rows) (0 + w1_2.toNat) [c32.1, c32.2.1, c32.2.2.1, c32.2.2.2.1, c32.2.2.2.2.1, c32.2.2.2.2.2.1, c32.2.2.2.2.2.2.1, c32.2.2.2.2.2.2.2.1, c32.2.2.2.2.2.2.2.2.1, c32.2.2.2.2.2.2.2.2.2.1, .i .u64 a18, c32.2.2.2.2.2.2.2.2.2.2.2.1, c32.2.2.2.2.2.2.2.2.2.2.2.2.1]) : Rows)) : Nat) == w30_2) <|
                    k0 false false (List.take w30_1 (List.drop 0 (w30_4 : Rows))) false false (List.take w30_3 (List.drop 0 ((List.set (w30_5 : Rows) (0 + w1_2.toNat) [c32.1, c32.2.1, c32.2.2.1, c32.2.2.2.1, c32.2.2.2.2.1, c32.2.2.2.2.2.1, c32.2.2.2.2.2.2.1, c32.2.2.2.2.2.2.2.1, c32.2.2.2.2.2.2.2.2.1, c32.2.2.2.2.2.2.2.2.2.1, .i .u64 a18, c32.2.2.2.2.2.2.2.2.2.2.2.1, c32.2.2.2.2.2.2.2.2.2.2.2.2.1]) : Rows))) 0 0 0
                  else bif ((a16 : Int) == 2) then
                    chk (((List.length (w30_5 : Rows)) : Nat) == w30_2) <|
                    rowN [.a, .a, .a, .a, .a, .a, .a, .a, .a, .a, .a, .a, .a] w30_5 (0 + w1_2.toNat) fun c33 =>
                    chk (((List.length (w30_4 : Rows)) : Nat) == w30_0) <|
                    chk (((List.length ((List.set (w30_5 : Rows) (0 + w1_2.toNat) [c33.1, c33.2.1, c33.2.2.1, c33.2.2.2.1, c33.2.2.2.2.1, c33.2.2.2.2.2.1, c33.2.2.2.2.2.2.1, c33.2.2.2.2.2.2.2.1, c33.2.2.2.2.2.2.2.2.1, c33.2.2.2.2.2.2.2.2.2.1, c33.2.2.2.2.2.2.2.2.2.2.1, .i .u64 a18, c33.2.2.2.2.2.2.2.2.2.2.2.2.1]) : Rows)) : Nat) == w30_2) <|
                    k0 false false (List.take w30_1 (List.drop 0 (w30_4 : Rows))) false false (List.take w30_3 (List.drop 0 ((List.set (w30_5 : Rows) (0 + w1_2.toNat) [c33.1, c33.2.1, c33.2.2.1, c33.2.2.2.1, c33.2.2.2.2.1, c33.2.2.2.2.2.1, c33.2.2.2.2.2.2.1, c33.2.2.2.2.2.2.2.1, c33.2.2.2.2.2.2.2.2.1, c33.2.2.2.2.2.2.2.2.2.1, c33.2.2.2.2.2.2.2.2.2.2.1, .i .u64 a18, c33.2.2.2.2.2.2.2.2.2.2.2.2.1]) : Rows))) 0 0 0
                  else bif ((a16 : Int) == 3) then
                    chk (((List.length (w30_5 : Rows)) : Nat) == w30_2) <|
                    rowN [.a, .a, .a, .a, .a, .a, .a, .a, .a, .a, .a, .a, .a] w30_5 (0 + w1_2.toNat) fun c34 =>
                    chk (((List.length (w30_4 : Rows)) : Nat) == w30_0) <|
                    chk (((List.length ((List.set (w30_5 : Rows) (0 + w1_2.toNat) [c34.1, c34.2.1, c34.2.2.1, c34.2.2.2.1, c34.2.2.2.2.1, c34.2.2.2.2.2.1, c34.2.2.2.2.2.2.1, c34.2.2.2.2.2.2.2.1, c34.2.2.2.2.2.2.2.2.1, c34.2.2.2.2.2.2.2.2.2.1, c34.2.2.2.2.2.2.2.2.2.2.1, c34.2.2.2.2.2.2.2.2.2.2.2.1, .i .u64 a18]) : Rows)) : Nat) == w30_2) <|
                    k0 false false (List.take w30_1 (List.drop 0 (w30_4 : Rows))) false false (List.take w30_3 (List.drop 0 ((List.set (w30_5 : Rows) (0 + w1_2.toNat) [c34.1, c34.2.1, c34.2.2.1, c34.2.2.2.1, c34.2.2.2.2.1, c34.2.2.2.2.2.1, c34.2.2.2.2.2.2.1, c34.2.2.2.2.2.2.2.1, c34.2.2.2.2.2.2.2.2.1, c34.2.2.2.2.2.2.2.2.2.1, c34.2.2.2.2.2.2.2.2.2.2.1, c34.2.2.2.2.2.2.2.2.2.2.2.1, .i .u64 a18]) : Rows))) 0 0 0
                  else none)
              else k0 a3 a4 a5 a6 a7 a8 6 0 0))
        else G.find_Cap ρ a0 a1 a2 a3 a4 a5 a6 a7 a8 a9 a11 a12 a13 (fun w35_0 w35_1 w35_2 w35_3 w35_4 w35_5 =>
          bif ((w35_5 : Int) != 0) then
            k0 a3 a4 a5 a6 a7 a8 w35_5 0 0
          else bif ((a10 : Int) == 13) then
            G.cap_Word ρ w35_1 w35_2 w35_3 w35_4 (fun w36_0 w36_1 =>
              bif w36_1 then
                G.state_Forest ρ a0 a1 a2 a3 a4 a5 a6 a7 a8 (fun w37_0 w37_1 w37_2 =>
                  G.forest_Depth ρ w37_0 w37_1 w37_2 w35_0 (fun w38_0 =>
                    k0 a3 a4 a5 a6 a7 a8 0 w36_0 w38_0))
              else G.state_Forest ρ a0 a1 a2 a3 a4 a5 a6 a7 a8 (fun w39_0 w39_1 w39_2 =>
                G.forest_Depth ρ w39_0 w39_1 w39_2 w35_0 (fun w40_0 =>
                  k0 a3 a4 a5 a6 a7 a8 0 w36_0 w40_0)))
          else bif ((a10 : Int) == 12) then
            bif ((w35_1 : Int) != 5) then
              k0 a3 a4 a5 a6 a7 a8 7 0 0
            else G.right_Within ρ 1 w35_3 (fun w41_0 =>
              bif w41_0 then
                bif ((a10 : Int) == 12) then
                  rowT [.i .i64, .i .i64, .i .i64, .i .i64, .i .i64, .i .i64, .i .i64, .b, .i .u64, .i .u64, .i .u64, .i .u64, .i .u64] a8 w35_2 fun c42 =>
                  bif ((a16 : Int) == 0) then
                    k0 a3 a4 a5 a6 a7 a8 0 c42.2.2.2.2.2.2.2.2.2.1 0
                  else bif ((a16 : Int) == 1) then
                    k0 a3 a4 a5 a6 a7 a8 0 c42.2.2.2.2.2.2.2.2.2.2.1 0
                  else bif ((a16 : Int) == 2) then
                    k0 a3 a4 a5 a6 a7 a8 0 c42.2.2.2.2.2.2.2.2.2.2.2.1 0
                  else bif ((a16 : Int) == 3) then
                    k0 a3 a4 a5 a6 a7 a8 0 c42.2.2.2.2.2.2.2.2.2.2.2.2.1 0
                  else none
                else G.state_Clone ρ a0 a1 a2 a3 a4 a5 a6 a7 a8 (none) (fun w44_0 w44_1 w44_2 =>
                  chk (decide ((0 : Int) ≤ w35_2)) <|
                  chk (decide ((w35_2 : Int) < ((w44_1 : Nat) : Int))) <|
                  bif ((a16 : Int) == 0) then
                    chk (((List.length (w44_2 : Rows)) : Nat) == w44_0) <|
                    rowN [.a, .a, .a, .a, .a, .a, .a, .a, .a, .a, .a, .a, .a] w44_2 (0 + w35_2.toNat) fun c45 =>
                    chk (((List.length ((List.set (w44_2 : Rows) (0 + w35_2.toNat) [c45.1, c45.2.1, c45.2.2.1, c45.2.2.2.1, c45.2.2.2.2.1, c45.2.2.2.2.2.1, c45.2.2.2.2.2.2.1, c45.2.2.2.2.2.2.2.1, c45.2.2.2.2.2.2.2.2.1, .i .u64 a18, c45.2.2.2.2.2.2.2.2.2.2.1, c45.2.2.2.2.2.2.2.2.2.2.2.1, c45.2.2.2.2.2.2.2.2.2.2.2.2.1]) : Rows)) : Nat) == w44_0) <|
                    k0 true true [] false false (List.take w44_1 (List.drop 0 ((List.set (w44_2 : Rows) (0 + w35_2.toNat) [c45.1, c45.2.1, c45.2.2.1, c45.2.2.2.1, c45.2.2.2.2.1, c45.2.2.2.2.2.1, c45.2.2.2.2.2.2.1, c45.2.2.2.2.2.2.2.1, c45.2.2.2.2.2.2.2.2.1, .i .u64 a18, c45.2.2.2.2.2.2.2.2.2.2.1, c45.2.2.2.2.2.2.2.2.2.2.2.1, c45.2.2.2.2.2.2.2.2.2.2.2.2.1]) : Rows))) 0 0 0
                  else bif ((a16 : Int) == 1) then
                    chk (((List.length (w44_2 : Rows)) : Nat) == w44_0) <|
                    rowN [.a, .a, .a, .a, .a, .a, .a, .a, .a, .a, .a, .a, .a] w44_2 (0 + w35_2.toNat) fun c46 =>
                    chk (((List.length ((List.set (w44_2 : Rows) (0 + w35_2.toNat) [c46.1, c46.2.1, c46.2.2.1, c46.2.2.2.1, c46.2.2.2.2.1, c46.2.2.2.2.2.1, c46.2.2.2.2.2.2.1, c46.2.2.2.2.2.2.2.1, c46.2.2.2.2.2.2.2.2.1, c46.2.2.2.2.2.2.2.2.2.1, .i .u64 a18, c46.2.2.2.2.2.2.2.2.2.2.2.1, c46.2.2.2.2.2.2.2.2.2.2.2.2.1]) : Rows)) : Nat) == w44_0) <|
                    k0 true true [] false false (List.take w44_1 (List.drop 0 ((List.set (w44_2 : Rows) (0 + w35_2.toNat) [c46.1, c46.2.1, c46.2.2.1, c46.2.2.2.1, c46.2.2.2.2.1, c46.2.2.2.2.2.1, c46.2.2.2.2.2.2.1, c46.2.2.2.2.2.2.2.1, c46.2.2.2.2.2.2.2.2.1, c46.2.2.2.2.2.2.2.2.2.1, .i .u64 a18, c46.2.2.2.2.2.2.2.2.2.2.2.1, c46.2.2.2.2.2.2.2.2.2.2.2.2.1]) : Rows))) 0 0 0
                  else bif ((a16 : Int) == 2) then
                    chk (((List.length (w44_2 : Rows)) : Nat) == w44_0) <|
                    rowN [.a, .a, .a, .a, .a, .a, .a, .a, .a, .a, .a, .a, .a] w44_2 (0 + w35_2.toNat) fun c47 =>
                    chk (((List.length ((List.set (w44_2 : Rows) (0 + w35_2.toNat) [c47.1, c47.2.1, c47.2.2.1, c47.2.2.2.1, c47.2.2.2.2.1, c47.2.2.2.2.2.1, c47.2.2.2.2.2.2.1, c47.2.2.2.2.2.2.2.1, c47.2.2.2.2.2.2.2.2.1, c47.2.2.2.2.2.2.2.2.2.1, c47.2.2.2.2.2.2.2.2.2.2.1, .i .u64 a18, c47.2.2.2.2.2.2.2.2.2.2.2.2.1]) : Rows)) : Nat) == w44_0) <|
                    k0 true true [] false false (List.take w44_1 (List.drop 0 ((List.set (w44_2 : Rows) (0 + w35_2.toNat) [c47.1, c47.2.1, c47.2.2.1, c47.2.2.2.1, c47.2.2.2.2.1, c47.2.2.2.2.2.1, c47.2.2.2.2.2.2.1, c47.2.2.2.2.2.2.2.1, c47.2.2.2.2.2.2.2.2.1, c47.2.2.2.2.2.2.2.2.2.1, c47.2.2.2.2.2.2.2.2.2.2.1, .i .u64 a18, c47.2.2.2.2.2.2.2.2.2.2.2.2.1]) : Rows))) 0 0 0
                  else bif ((a16 : Int) == 3) then
                    chk (((List.length (w44_2 : Rows)) : Nat) == w44_0) <|
                    rowN [.a, .a, .a, .a, .a, .a, .a, .a, .a, .a, .a, .a, .a] w44_2 (0 + w35_2.toNat) fun c48 =>
                    chk (((List.length ((List.set (w44_2 : Rows) (0 + w35_2.toNat) [c48.1, c48.2.1, c48.2.2.1, c48.2.2.2.1, c48.2.2.2.2.1, c48.2.2.2.2.2.1, c48.2.2.2.2.2.2.1, c48.2.2.2.2.2.2.2.1, c48.2.2.2.2.2.2.2.2.1, c48.2.2.2.2.2.2.2.2.2.1, c48.2.2.2.2.2.2.2.2.2.2.1, c48.2.2.2.2.2.2.2.2.2.2.2.1, .i .u64 a18]) : Rows)) : Nat) == w44_0) <|
                    k0 true true [] false false (List.take w44_1 (List.drop 0 ((List.set (w44_2 : Rows) (0 + w35_2.toNat) [c48.1, c48.2.1, c48.2.2.1, c48.2.2.2.1, c48.2.2.2.2.1, c48.2.2.2.2.2.1, c48.2.2.2.2.2.2.1, c48.2.2.2.2.2.2.2.1, c48.2.2.2.2.2.2.2.2.1, c48.2.2.2.2.2.2.2.2.2.1, c48.2.2.2.2.2.2.2.2.2.2.1, c48.2.2.2.2.2.2.2.2.2.2.2.1, .i .u64 a18]) : Rows))) 0 0 0
                  else none) (fun _w49_0 _w49_1 _w49_2 =>
                  none) (fun w50_0 w50_1 w50_2 w50_3 w50_4 w50_5 =>
                  chk (decide ((0 : Int) ≤ w35_2)) <|
                  chk (decide ((w35_2 : Int) < ((w50_3 : Nat) : Int))) <|
                  bif ((a16 : Int) == 0) then
                    chk (((List.length (w50_5 : Rows)) : Nat) == w50_2) <|
                    rowN [.a, .a, .a, .a, .a, .a, .a, .a, .a, .a, .a, .a, .a] w50_5 (0 + w35_2.toNat) fun c51 =>
                    chk (((List.length (w50_4 : Rows)) : Nat) == w50_0) <|
                    chk (((List.length ((List.set (w50_5 : Rows) (0 + w35_2.toNat) [c51.1, c51.2.1, c51.2.2.1, c51.2.2.2.1, c51.2.2.2.2.1, c51.2.2.2.2.2.1, c51.2.2.2.2.2.2.1, c51.2.2.2.2.2.2.2.1, c51.2.2.2.2.2.2.2.2.1, .i .u64 a18, c51.2.2.2.2.2.2.2.2.2.2.1, c51.2.2.2.2.2.2.2.2.2.2.2.1, c51.2.2.2.2.2.2.2.2.2.2.2.2.1]) : Rows)) : Nat) == w50_2) <|
                    k0 false false (List.take w50_1 (List.drop 0 (w50_4 : Rows))) false false (List.take w50_3 (List.drop 0 ((List.set (w50_5 : Rows) (0 + w35_2.toNat) [c51.1, c51.2.1, c51.2.2.1, c51.2.2.2.1, c51.2.2.2.2.1, c51.2.2.2.2.2.1, c51.2.2.2.2.2.2.1, c51.2.2.2.2.2.2.2.1, c51.2.2.2.2.2.2.2.2.1, .i .u64 a18, c51.2.2.2.2.2.2.2.2.2.2.1, c51.2.2.2.2.2.2.2.2.2.2.2.1, c51.2.2.2.2.2.2.2.2.2.2.2.2.1]) : Rows))) 0 0 0
                  else bif ((a16 : Int) == 1) then
                    chk (((List.length (w50_5 : Rows)) : Nat) == w50_2) <|
                    rowN [.a, .a, .a, .a, .a, .a, .a, .a, .a, .a, .a, .a, .a] w50_5 (0 + w35_2.toNat) fun c52 =>
                    chk (((List.length (w50_4 : Rows)) : Nat) == w50_0) <|
                    chk (((List.length ((List.set (w50_5 : Rows) (0 + w35_2.toNat) [c52.1, c52.2.1, c52.2.2.1, c52.2.2.2.1, c52.2.2.2.2.1, c52.2.2.2.2.2.1, c52.2.2.2.2.2.2.1, c52.2.2.2.2.2.2.2.1, c52.2.2.2.2.2.2.2.2.1, c52.2.2.2.2.2.2.2.2.2.1, .i .u64 a18, c52.2.2.2.2.2.2.2.2.2.2.2.1, c52.2.2.2.2.2.2.2.2.2.2.2.2.1]) : Rows)) : Nat) == w50_2) <|
                    k0 false false (List.take w50_1 (List.drop 0 (w50_4 : Rows))) false false (List.take w50_3 (List.drop 0 ((List.set (w50_5 : Rows) (0 + w35_2.toNat) [c52.1, c52.2.1, c52.2.2.1, c52.2.2.2.1, c52.2.2.2.2.1, c52.2.2.2.2.2.1, c52.2.2.2.2.2.2.1, c52.2.2.2.2.2.2.2.1, c52.2.2.2.2.2.2.2.2.1, c52.2.2.2.2.2.2.2.2.2.1, .i .u64 a18, c52.2.2.2.2.2.2.2.2.2.2.2.1, c52.2.2.2.2.2.2.2.2.2.2.2.2.1]) : Rows))) 0 0 0
                  else bif ((a16 : Int) == 2) then
                    chk (((List.length (w50_5 : Rows)) : Nat) == w50_2) <|
                    rowN [.a, .a, .a, .a, .a, .a, .a, .a, .a, .a, .a, .a, .a] w50_5 (0 + w35_2.toNat) fun c53 =>
                    chk (((List.length (w50_4 : Rows)) : Nat) == w50_0) <|
                    chk (((List.length ((List.set (w50_5 : Rows) (0 + w35_2.toNat) [c53.1, c53.2.1, c53.2.2.1, c53.2.2.2.1, c53.2.2.2.2.1, c53.2.2.2.2.2.1, c53.2.2.2.2.2.2.1, c53.2.2.2.2.2.2.2.1, c53.2.2.2.2.2.2.2.2.1, c53.2.2.2.2.2.2.2.2.2.1, c53.2.2.2.2.2.2.2.2.2.2.1, .i .u64 a18, c53.2.2.2.2.2.2.2.2.2.2.2.2.1]) : Rows)) : Nat) == w50_2) <|
                    k0 false false (List.take w50_1 (List.drop 0 (w50_4 : Rows))) false false (List.take w50_3 (List.drop 0 ((List.set (w50_5 : Rows) (0 + w35_2.toNat) [c53.1, c53.2.1, c53.2.2.1, c53.2.2.2.1, c53.2.2.2.2.1, c53.2.2.2.2.2.1, c53.2.2.2.2.2.2.1, c53.2.2.2.2.2.2.2.1, c53.2.2.2.2.2.2.2.2.1, c53.2.2.2.2.2.2.2.2.2.1, c53.2.2.2.2.2.2.2.2.2.2.1, .i .u64 a18, c53.2.2.2.2.2.2.2.2.2.2.2.2.1]) : Rows))) 0 0 0
                  else bif ((a16 : Int) == 3) then
                    chk (((List.length (w50_5 : Rows)) : Nat) == w50_2) <|
                    rowN [.a, .a, .a, .a, .a, .a, .a, .a, .a, .a, .a, .a, .a] w50_5 (0 + w35_2.toNat) fun c54 =>
                    chk (((List.length (w50_4 : Rows)) : Nat) == w50_0) <|
                    chk (((List.length ((List.set (w50_5 : Rows) (0 + w35_2.toNat) [c54.1, c54.2.1, c54.2.2.1, c54.2.2.2.1, c54.2.2.2.2.1, c54.2.2.2.2.2.1, c54.2.2.2.2.2.2.1, c54.2.2.2.2.2.2.2.1, c54.2.2.2.2.2.2.2.2.1, c54.2.2.2.2.2.2.2.2.2.1, c54.2.2.2.2.2.2.2.2.2.2.1, c54.2.2.2.2.2.2.2.2.2.2.2.1, .i .u64 a18]) : Rows)) : Nat) == w50_2) <|
                    k0 false false (List.take w50_1 (List.drop 0 (w50_4 : Rows))) false false (List.take w50_3 (List.drop 0 ((List.set (w50_5 : Rows) (0 + w35_2.toNat) [c54.1, c54.2.1, c54.2.2.1, c54.2.2.2.1, c54.2.2.2.2.1, c54.2.2.2.2.2.1, c54.2.2.2.2.2.2.1, c54.2.2.2.2.2.2.2.1, c54.2.2.2.2.2.2.2.2.1, c54.2.2.2.2.2.2.2.2.2.1, c54.2.2.2.2.2.2.2.2.2.2.1, c54.2.2.2.2.2.2.2.2.2.2.2.1, .i .u64 a18]) : Rows))) 0 0 0
                  else none)
              else k0 a3 a4 a5 a6 a7 a8 6 0 0)
          else bif ((w35_1 : Int) != 5) then
            k0 a3 a4 a5 a6 a7 a8 7 0 0
          else G.right_Within ρ 2 w35_3 (fun w55_0 =>
            bif w55_0 then
              bif ((a10 : Int) == 12) then
                rowT [.i .i64, .i .i64, .i .i64, .i .i64, .i .i64, .i .i64, .i .i64, .b, .i .u64, .i .u64, .i .u64, .i .u64, .i .u64] a8 w35_2 fun c56 =>
                bif ((a16 : Int) == 0) then
                  k0 a3 a4 a5 a6 a7 a8 0 c56.2.2.2.2.2.2.2.2.2.1 0
                else bif ((a16 : Int) == 1) then
                  k0 a3 a4 a5 a6 a7 a8 0 c56.2.2.2.2.2.2.2.2.2.2.1 0
                else bif ((a16 : Int) == 2) then
                  k0 a3 a4 a5 a6 a7 a8 0 c56.2.2.2.2.2.2.2.2.2.2.2.1 0
                else bif ((a16 : Int) == 3) then
                  k0 a3 a4 a5 a6 a7 a8 0 c56.2.2.2.2.2.2.2.2.2.2.2.2.1 0
                else none
              else G.state_Clone ρ a0 a1 a2 a3 a4 a5 a6 a7 a8 (none) (fun w58_0 w58_1 w58_2 =>
                chk (decide ((0 : Int) ≤ w35_2)) <|
                chk (decide ((w35_2 : Int) < ((w58_1 : Nat) : Int))) <|
                bif ((a16 : Int) == 0) then
                  chk (((List.length (w58_2 : Rows)) : Nat) == w58_0) <|
                  rowN [.a, .a, .a, .a, .a, .a, .a, .a, .a, .a, .a, .a, .a] w58_2 (0 + w35_2.toNat) fun c59 =>
                  chk (((List.length ((List.set (w58_2 : Rows) (0 + w35_2.toNat) [c59.1, c59.2.1, c59.2.2.1, c59.2.2.2.1, c59.2.2.2.2.1, c59.2.2.2.2.2.1, c59.2.2.2.2.2.2.1, c59.2.2.2.2.2.2.2.1, c59.2.2.2.2.2.2.2.2.1, .i .u64 a18, c59.2.2.2.2.2.2.2.2.2.2.1, c59.2.2.2.2.2.2.2.2.2.2.2.1, c59.2.2.2.2.2.2.2.2.2.2.2.2.1]) : Rows)) : Nat) == w58_0) <|
                  k0 true true [] false false (List.take w58_1 (List.drop 0 ((List.set (w58_2 : Rows) (0 + w35_2.toNat) [c59.1, c59.2.1, c59.2.2.1, c59.2.2.2.1, c59.2.2.2.2.1, c59.2.2.2.2.2.1, c59.2.2.2.2.2.2.1, c59.2.2.2.2.2.2.2.1, c59.2.2.2.2.2.2.2.2.1, .i .u64 a18, c59.2.2.2.2.2.2.2.2.2.2.1, c59.2.2.2.2.2.2.2.2.2.2.2.1, c59.2.2.2.2.2.2.2.2.2.2.2.2.1]) : Rows))) 0 0 0
                else bif ((a16 : Int) == 1) then
                  chk (((List.length (w58_2 : Rows)) : Nat) == w58_0) <|
                  rowN [.a, .a, .a, .a, .a, .a, .a, .a, .a, .a, .a, .a, .a] w58_2 (0 + w35_2.toNat) fun c60 =>
                  chk (((List.length ((List.set (w58_2 : Rows) (0 + w35_2.toNat) [c60.1, c60.2.1, c60.2.2.1, c60.2.2.2.1, c60.2.2.2.2.1, c60.2.2.2.2.2.1, c60.2.2.2.2.2.2.1, c60.2.2.2.2.2.2.2.1, c60.2.2.2.2.2.2.2.2.1, c60.2.2.2.2.2.2.2.2.2.1, .i .u64 a18, c60.2.2.2.2.2.2.2.2.2.2.2.1, c60.2.2.2.2.2.2.2.2.2.2.2.2.1]) : Rows)) : Nat) == w58_0) <|
                  k0 true true [] false false (List.take w58_1 (List.drop 0 ((List.set (w58_2 : Rows) (0 + w35_2.toNat) [c60.1, c60.2.1, c60.2.2.1, c60.2.2.2.1, c60.2.2.2.2.1, c60.2.2.2.2.2.1, c60.2.2.2.2.2.2.1, c60.2.2.2.2.2.2.2.1, c60.2.2.2.2.2.2.2.2.1, c60.2.2.2.2.2.2.2.2.2.1, .i .u64 a18, c60.2.2.2.2.2.2.2.2.2.2.2.1, c60.2.2.2.2.2.2.2.2.2.2.2.2.1]) : Rows))) 0 0 0
                else bif ((a16 : Int) == 2) then
                  chk (((List.length (w58_2 : Rows)) : Nat) == w58_0) <|
                  rowN [.a, .a, .a, .a, .a, .a, .a, .a, .a, .a, .a, .a, .a] w58_2 (0 + w35_2.toNat) fun c61 =>
                  chk (((List.length ((List.set (w58_2 : Rows) (0 + w35_2.toNat) [c61.1, c61.2.1, c61.2.2.1, c61.2.2.2.1, c61.2.2.2.2.1, c61.2.2.2.2.2.1, c61.2.2.2.2.2.2.1, c61.2.2.2.2.2.2.2.1, c61.2.2.2.2.2.2.2.2.1, c61.2.2.2.2.2.2.2.2.2.1, c61.2.2.2.2.2.2.2.2.2.2.1, .i .u64 a18, c61.2.2.2.2.2.2.2.2.2.2.2.2.1]) : Rows)) : Nat) == w58_0) <|
                  k0 true true [] false false (List.take w58_1 (List.drop 0 ((List.set (w58_2 : Rows) (0 + w35_2.toNat) [c61.1, c61.2.1, c61.2.2.1, c61.2.2.2.1, c61.2.2.2.2.1, c61.2.2.2.2.2.1, c61.2.2.2.2.2.2.1, c61.2.2.2.2.2.2.2.1, c61.2.2.2.2.2.2.2.2.1, c61.2.2.2.2.2.2.2.2.2.1, c61.2.2.2.2.2.2.2.2.2.2.1, .i .u64 a18, c61.2.2.2.2.2.2.2.2.2.2.2.2.1]) : Rows))) 0 0 0
                else bif ((a16 : Int) == 3) then
                  chk (((List.length (w58_2 : Rows)) : Nat) == w58_0) <|
                  rowN [.a, .a, .a, .a, .a, .a, .a, .a, .a, .a, .a, .a, .a] w58_2 (0 + w35_2.toNat) fun c62 =>
                  chk (((List.length ((List.set (w58_2 : Rows) (0 + w35_2.toNat) [c62.1, c62.2.1, c62.2.2.1, c62.2.2.2.1, c62.2.2.2.2.1, c62.2.2.2.2.2.1, c62.2.2.2.2.2.2.1, c62.2.2.2.2.2.2.2.1, c62.2.2.2.2.2.2.2.2.1, c62.2.2.2.2.2.2.2.2.2.1, c62.2.2.2.2.2.2.2.2.2.2.1, c62.2.2.2.2.2.2.2.2.2.2.2.1, .i .u64 a18]) : Rows)) : Nat) == w58_0) <|
                  k0 true true [] false false (List.take w58_1 (List.drop 0 ((List.set (w58_2 : Rows) (0 + w35_2.toNat) [c62.1, c62.2.1, c62.2.2.1, c62.2.2.2.1, c62.2.2.2.2.1, c62.2.2.2.2.2.1, c62.2.2.2.2.2.2.1, c62.2.2.2.2.2.2.2.1, c62.2.2.2.2.2.2.2.2.1, c62.2.2.2.2.2.2.2.2.2.1, c62.2.2.2.2.2.2.2.2.2.2.1, c62.2.2.2.2.2.2.2.2.2.2.2.1, .i .u64 a18]) : Rows))) 0 0 0
                else none) (fun _w63_0 _w63_1 _w63_2 =>
                none) (fun w64_0 w64_1 w64_2 w64_3 w64_4 w64_5 =>
                chk (decide ((0 : Int) ≤ w35_2)) <|
                chk (decide ((w35_2 : Int) < ((w64_3 : Nat) : Int))) <|
                bif ((a16 : Int) == 0) then
                  chk (((List.length (w64_5 : Rows)) : Nat) == w64_2) <|
                  rowN [.a, .a, .a, .a, .a, .a, .a, .a, .a, .a, .a, .a, .a] w64_5 (0 + w35_2.toNat) fun c65 =>
                  chk (((List.length (w64_4 : Rows)) : Nat) == w64_0) <|
                  chk (((List.length ((List.set (w64_5 : Rows) (0 + w35_2.toNat) [c65.1, c65.2.1, c65.2.2.1, c65.2.2.2.1, c65.2.2.2.2.1, c65.2.2.2.2.2.1, c65.2.2.2.2.2.2.1, c65.2.2.2.2.2.2.2.1, c65.2.2.2.2.2.2.2.2.1, .i .u64 a18, c65.2.2.2.2.2.2.2.2.2.2.1, c65.2.2.2.2.2.2.2.2.2.2.2.1, c65.2.2.2.2.2.2.2.2.2.2.2.2.1]) : Rows)) : Nat) == w64_2) <|
                  k0 false false (List.take w64_1 (List.drop 0 (w64_4 : Rows))) false false (List.take w64_3 (List.drop 0 ((List.set (w64_5 : Rows) (0 + w35_2.toNat) [c65.1, c65.2.1, c65.2.2.1, c65.2.2.2.1, c65.2.2.2.2.1, c65.2.2.2.2.2.1, c65.2.2.2.2.2.2.1, c65.2.2.2.2.2.2.2.1, c65.2.2.2.2.2.2.2.2.1, .i .u64 a18, c65.2.2.2.2.2.2.2.2.2.2.1, c65.2.2.2.2.2.2.2.2.2.2.2.1, c65.2.2.2.2.2.2.2.2.2.2.2.2.1]) : Rows))) 0 0 0
                else bif ((a16 : Int) == 1) then
                  chk (((List.length (w64_5 : Rows)) : Nat) == w64_2) <|
                  rowN [.a, .a, .a, .a, .a, .a, .a, .a, .a, .a, .a, .a, .a] w64_5 (0 + w35_2.toNat) fun c66 =>
                  chk (((List.length (w64_4 : Rows)) : Nat) == w64_0) <|
                  chk (((List.length ((List.set (w64_5 : Rows) (0 + w35_2.toNat) [c66.1, c66.2.1, c66.2.2.1, c66.2.2.2.1, c66.2.2.2.2.1, c66.2.2.2.2.2.1, c66.2.2.2.2.2.2.1, c66.2.2.2.2.2.2.2.1, c66.2.2.2.2.2.2.2.2.1, c66.2.2.2.2.2.2.2.2.2.1, .i .u64 a18, c66.2.2.2.2.2.2.2.2.2.2.2.1, c66.2.2.2.2.2.2.2.2.2.2.2.2.1]) : Rows)) : Nat) == w64_2) <|
                  k0 false false (List.take w64_1 (List.drop 0 (w64_4 : Rows))) false false (List.take w64_3 (List.drop 0 ((List.set (w64_5 : Rows) (0 + w35_2.toNat) [c66.1, c66.2.1, c66.2.2.1, c66.2.2.2.1, c66.2.2.2.2.1, c66.2.2.2.2.2.1, c66.2.2.2.2.2.2.1, c66.2.2.2.2.2.2.2.1, c66.2.2.2.2.2.2.2.2.1, c66.2.2.2.2.2.2.2.2.2.1, .i .u64 a18, c66.2.2.2.2.2.2.2.2.2.2.2.1, c66.2.2.2.2.2.2.2.2.2.2.2.2.1]) : Rows))) 0 0 0
                else bif ((a16 : Int) == 2) then
                  chk (((List.length (w64_5 : Rows)) : Nat) == w64_2) <|
                  rowN [.a, .a, .a, .a, .a, .a, .a, .a, .a, .a, .a, .a, .a] w64_5 (0 + w35_2.toNat) fun c67 =>
                  chk (((List.length (w64_4 : Rows)) : Nat) == w64_0) <|
                  chk (((List.length ((List.set (w64_5 : Rows) (0 + w35_2.toNat) [c67.1, c67.2.1, c67.2.2.1, c67.2.2.2.1, c67.2.2.2.2.1, c67.2.2.2.2.2.1, c67.2.2.2.2.2.2.1, c67.2.2.2.2.2.2.2.1, c67.2.2.2.2.2.2.2.2.1, c67.2.2.2.2.2.2.2.2.2.1, c67.2.2.2.2.2.2.2.2.2.2.1, .i .u64 a18, c67.2.2.2.2.2.2.2.2.2.2.2.2.1]) : Rows)) : Nat) == w64_2) <|
                  k0 false false (List.take w64_1 (List.drop 0 (w64_4 : Rows))) false false (List.take w64_3 (List.drop 0 ((List.set (w64_5 : Rows) (0 + w35_2.toNat) [c67.1, c67.2.1, c67.2.2.1, c67.2.2.2.1, c67.2.2.2.2.1, c67.2.2.2.2.2.1, c67.2.2.2.2.2.2.1, c67.2.2.2.2.2.2.2.1, c67.2.2.2.2.2.2.2.2.1, c67.2.2.2.2.2.2.2.2.2.1, c67.2.2.2.2.2.2.2.2.2.2.1, .i .u64 a18, c67.2.2.2.2.2.2.2.2.2.2.2.2.1]) : Rows))) 0 0 0
                else bif ((a16 : Int) == 3) then
                  chk (((List.length (w64_5 : Rows)) : Nat) == w64_2) <|
                  rowN [.a, .a, .a, .a, .a, .a, .a, .a, .a, .a, .a, .a, .a] w64_5 (0 + w35_2.toNat) fun c68 =>
                  chk (((List.length (w64_4 : Rows)) : Nat) == w64_0) <|
                  chk (((List.length ((List.set (w64_5 : Rows) (0 + w35_2.toNat) [c68.1, c68.2.1, c68.2.2.1, c68.2.2.2.1, c68.2.2.2.2.1, c68.2.2.2.2.2.1, c68.2.2.2.2.2.2.1, c68.2.2.2.2.2.2.2.1, c68.2.2.2.2.2.2.2.2.1, c68.2.2.2.2.2.2.2.2.2.1, c68.2.2.2.2.2.2.2.2.2.2.1, c68.2.2.2.2.2.2.2.2.2.2.2.1, .i .u64 a18]) : Rows)) : Nat) == w64_2) <|
                  k0 false false (List.take w64_1 (List.drop 0 (w64_4 : Rows))) false false (List.take w64_3 (List.drop 0 ((List.set (w64_5 : Rows) (0 + w35_2.toNat) [c68.1, c68.2.1, c68.2.2.1, c68.2.2.2.1, c68.2.2.2.2.1, c68.2.2.2.2.2.1, c68.2.2.2.2.2.2.1, c68.2.2.2.2.2.2.2.1, c68.2.2.2.2.2.2.2.2.1, c68.2.2.2.2.2.2.2.2.2.1, c68.2.2.2.2.2.2.2.2.2.2.1, c68.2.2.2.2.2.2.2.2.2.2.2.1, .i .u64 a18]) : Rows))) 0 0 0
                else none)
            else k0 a3 a4 a5 a6 a7 a8 6 0 0))
      else G.find_Cap ρ a0 a1 a2 a3 a4 a5 a6 a7 a8 a9 a11 a12 a13 (fun w69_0 w69_1 w69_2 w69_3 w69_4 w69_5 =>
        bif ((w69_5 : Int) != 0) then
          k0 a3 a4 a5 a6 a7 a8 w69_5 0 0
        else bif ((a10 : Int) == 13) then
          G.cap_Word ρ w69_1 w69_2 w69_3 w69_4 (fun w70_0 w70_1 =>
            bif w70_1 then
              G.state_Forest ρ a0 a1 a2 a3 a4 a5 a6 a7 a8 (fun w71_0 w71_1 w71_2 =>
                G.forest_Depth ρ w71_0 w71_1 w71_2 w69_0 (fun w72_0 =>
                  k0 a3 a4 a5 a6 a7 a8 0 w70_0 w72_0))
            else G.state_Forest ρ a0 a1 a2 a3 a4 a5 a6 a7 a8 (fun w73_0 w73_1 w73_2 =>
              G.forest_Depth ρ w73_0 w73_1 w73_2 w69_0 (fun w74_0 =>
                k0 a3 a4 a5 a6 a7 a8 0 w70_0 w74_0)))
        else bif ((a10 : Int) == 12) then
          bif ((w69_1 : Int) != 5) then
            k0 a3 a4 a5 a6 a7 a8 7 0 0
          else G.right_Within ρ 1 w69_3 (fun w75_0 =>
            bif w75_0 then
              bif ((a10 : Int) == 12) then
                rowT [.i .i64, .i .i64, .i .i64, .i .i64, .i .i64, .i .i64, .i .i64, .b, .i .u64, .i .u64, .i .u64, .i .u64, .i .u64] a8 w69_2 fun c76 =>
                bif ((a16 : Int) == 0) then
                  k0 a3 a4 a5 a6 a7 a8 0 c76.2.2.2.2.2.2.2.2.2.1 0
                else bif ((a16 : Int) == 1) then
                  k0 a3 a4 a5 a6 a7 a8 0 c76.2.2.2.2.2.2.2.2.2.2.1 0
                else bif ((a16 : Int) == 2) then
                  k0 a3 a4 a5 a6 a7 a8 0 c76.2.2.2.2.2.2.2.2.2.2.2.1 0
                else bif ((a16 : Int) == 3) then
                  k0 a3 a4 a5 a6 a7 a8 0 c76.2.2.2.2.2.2.2.2.2.2.2.2.1 0
                else none
              else G.state_Clone ρ a0 a1 a2 a3 a4 a5 a6 a7 a8 (none) (fun w78_0 w78_1 w78_2 =>
                chk (decide ((0 : Int) ≤ w69_2)) <|
                chk (decide ((w69_2 : Int) < ((w78_1 : Nat) : Int))) <|
                bif ((a16 : Int) == 0) then
                  chk (((List.length (w78_2 : Rows)) : Nat) == w78_0) <|
                  rowN [.a, .a, .a, .a, .a, .a, .a, .a, .a, .a, .a, .a, .a] w78_2 (0 + w69_2.toNat) fun c79 =>
                  chk (((List.length ((List.set (w78_2 : Rows) (0 + w69_2.toNat) [c79.1, c79.2.1, c79.2.2.1, c79.2.2.2.1, c79.2.2.2.2.1, c79.2.2.2.2.2.1, c79.2.2.2.2.2.2.1, c79.2.2.2.2.2.2.2.1, c79.2.2.2.2.2.2.2.2.1, .i .u64 a18, c79.2.2.2.2.2.2.2.2.2.2.1, c79.2.2.2.2.2.2.2.2.2.2.2.1, c79.2.2.2.2.2.2.2.2.2.2.2.2.1]) : Rows)) : Nat) == w78_0) <|
                  k0 true true [] false false (List.take w78_1 (List.drop 0 ((List.set (w78_2 : Rows) (0 + w69_2.toNat) [c79.1, c79.2.1, c79.2.2.1, c79.2.2.2.1, c79.2.2.2.2.1, c79.2.2.2.2.2.1, c79.2.2.2.2.2.2.1, c79.2.2.2.2.2.2.2.1, c79.2.2.2.2.2.2.2.2.1, .i .u64 a18, c79.2.2.2.2.2.2.2.2.2.2.1, c79.2.2.2.2.2.2.2.2.2.2.2.1, c79.2.2.2.2.2.2.2.2.2.2.2.2.1]) : Rows))) 0 0 0
                else bif ((a16 : Int) == 1) then
                  chk (((List.length (w78_2 : Rows)) : Nat) == w78_0) <|
                  rowN [.a, .a, .a, .a, .a, .a, .a, .a, .a, .a, .a, .a, .a] w78_2 (0 + w69_2.toNat) fun c80 =>
                  chk (((List.length ((List.set (w78_2 : Rows) (0 + w69_2.toNat) [c80.1, c80.2.1, c80.2.2.1, c80.2.2.2.1, c80.2.2.2.2.1, c80.2.2.2.2.2.1, c80.2.2.2.2.2.2.1, c80.2.2.2.2.2.2.2.1, c80.2.2.2.2.2.2.2.2.1, c80.2.2.2.2.2.2.2.2.2.1, .i .u64 a18, c80.2.2.2.2.2.2.2.2.2.2.2.1, c80.2.2.2.2.2.2.2.2.2.2.2.2.1]) : Rows)) : Nat) == w78_0) <|
                  k0 true true [] false false (List.take w78_1 (List.drop 0 ((List.set (w78_2 : Rows) (0 + w69_2.toNat) [c80.1, c80.2.1, c80.2.2.1, c80.2.2.2.1, c80.2.2.2.2.1, c80.2.2.2.2.2.1, c80.2.2.2.2.2.2.1, c80.2.2.2.2.2.2.2.1, c80.2.2.2.2.2.2.2.2.1, c80.2.2.2.2.2.2.2.2.2.1, .i .u64 a18, c80.2.2.2.2.2.2.2.2.2.2.2.1, c80.2.2.2.2.2.2.2.2.2.2.2.2.1]) : Rows))) 0 0 0
                else bif ((a16 : Int) == 2) then
                  chk (((List.length (w78_2 : Rows)) : Nat) == w78_0) <|
                  rowN [.a, .a, .a, .a, .a, .a, .a, .a, .a, .a, .a, .a, .a] w78_2 (0 + w69_2.toNat) fun c81 =>
                  chk (((List.length ((List.set (w78_2 : Rows) (0 + w69_2.toNat) [c81.1, c81.2.1, c81.2.2.1, c81.2.2.2.1, c81.2.2.2.2.1, c81.2.2.2.2.2.1, c81.2.2.2.2.2.2.1, c81.2.2.2.2.2.2.2.1, c81.2.2.2.2.2.2.2.2.1, c81.2.2.2.2.2.2.2.2.2.1, c81.2.2.2.2.2.2.2.2.2.2.1, .i .u64 a18, c81.2.2.2.2.2.2.2.2.2.2.2.2.1]) : Rows)) : Nat) == w78_0) <|
                  k0 true true [] false false (List.take w78_1 (List.drop 0 ((List.set (w78_2 : Rows) (0 + w69_2.toNat) [c81.1, c81.2.1, c81.2.2.1, c81.2.2.2.1, c81.2.2.2.2.1, c81.2.2.2.2.2.1, c81.2.2.2.2.2.2.1, c81.2.2.2.2.2.2.2.1, c81.2.2.2.2.2.2.2.2.1, c81.2.2.2.2.2.2.2.2.2.1, c81.2.2.2.2.2.2.2.2.2.2.1, .i .u64 a18, c81.2.2.2.2.2.2.2.2.2.2.2.2.1]) : Rows))) 0 0 0
                else bif ((a16 : Int) == 3) then
                  chk (((List.length (w78_2 : Rows)) : Nat) == w78_0) <|
                  rowN [.a, .a, .a, .a, .a, .a, .a, .a, .a, .a, .a, .a, .a] w78_2 (0 + w69_2.toNat) fun c82 =>
                  chk (((List.length ((List.set (w78_2 : Rows) (0 + w69_2.toNat) [c82.1, c82.2.1, c82.2.2.1, c82.2.2.2.1, c82.2.2.2.2.1, c82.2.2.2.2.2.1, c82.2.2.2.2.2.2.1, c82.2.2.2.2.2.2.2.1, c82.2.2.2.2.2.2.2.2.1, c82.2.2.2.2.2.2.2.2.2.1, c82.2.2.2.2.2.2.2.2.2.2.1, c82.2.2.2.2.2.2.2.2.2.2.2.1, .i .u64 a18]) : Rows)) : Nat) == w78_0) <|
                  k0 true true [] false false (List.take w78_1 (List.drop 0 ((List.set (w78_2 : Rows) (0 + w69_2.toNat) [c82.1, c82.2.1, c82.2.2.1, c82.2.2.2.1, c82.2.2.2.2.1, c82.2.2.2.2.2.1, c82.2.2.2.2.2.2.1, c82.2.2.2.2.2.2.2.1, c82.2.2.2.2.2.2.2.2.1, c82.2.2.2.2.2.2.2.2.2.1, c82.2.2.2.2.2.2.2.2.2.2.1, c82.2.2.2.2.2.2.2.2.2.2.2.1, .i .u64 a18]) : Rows))) 0 0 0
                else none) (fun _w83_0 _w83_1 _w83_2 =>
                none) (fun w84_0 w84_1 w84_2 w84_3 w84_4 w84_5 =>
                chk (decide ((0 : Int) ≤ w69_2)) <|
                chk (decide ((w69_2 : Int) < ((w84_3 : Nat) : Int))) <|
                bif ((a16 : Int) == 0) then
                  chk (((List.length (w84_5 : Rows)) : Nat) == w84_2) <|
                  rowN [.a, .a, .a, .a, .a, .a, .a, .a, .a, .a, .a, .a, .a] w84_5 (0 + w69_2.toNat) fun c85 =>
                  chk (((List.length (w84_4 : Rows)) : Nat) == w84_0) <|
                  chk (((List.length ((List.set (w84_5 : Rows) (0 + w69_2.toNat) [c85.1, c85.2.1, c85.2.2.1, c85.2.2.2.1, c85.2.2.2.2.1, c85.2.2.2.2.2.1, c85.2.2.2.2.2.2.1, c85.2.2.2.2.2.2.2.1, c85.2.2.2.2.2.2.2.2.1, .i .u64 a18, c85.2.2.2.2.2.2.2.2.2.2.1, c85.2.2.2.2.2.2.2.2.2.2.2.1, c85.2.2.2.2.2.2.2.2.2.2.2.2.1]) : Rows)) : Nat) == w84_2) <|
                  k0 false false (List.take w84_1 (List.drop 0 (w84_4 : Rows))) false false (List.take w84_3 (List.drop 0 ((List.set (w84_5 : Rows) (0 + w69_2.toNat) [c85.1, c85.2.1, c85.2.2.1, c85.2.2.2.1, c85.2.2.2.2.1, c85.2.2.2.2.2.1, c85.2.2.2.2.2.2.1, c85.2.2.2.2.2.2.2.1, c85.2.2.2.2.2.2.2.2.1, .i .u64 a18, c85.2.2.2.2.2.2.2.2.2.2.1, c85.2.2.2.2.2.2.2.2.2.2.2.1, c85.2.2.2.2.2.2.2.2.2.2.2.2.1]) : Rows))) 0 0 0
                else bif ((a16 : Int) == 1) then
                  chk (((List.length (w84_5 : Rows)) : Nat) == w84_2) <|
                  rowN [.a, .a, .a, .a, .a, .a, .a, .a, .a, .a, .a, .a, .a] w84_5 (0 + w69_2.toNat) fun c86 =>
                  chk (((List.length (w84_4 : Rows)) : Nat) == w84_0) <|
                  chk (((List.length ((List.set (w84_5 : Rows) (0 + w69_2.toNat) [c86.1, c86.2.1, c86.2.2.1, c86.2.2.2.1, c86.2.2.2.2.1, c86.2.2.2.2.2.1, c86.2.2.2.2.2.2.1, c86.2.2.2.2.2.2.2.1, c86.2.2.2.2.2.2.2.2.1, c86.2.2.2.2.2.2.2.2.2.1, .i .u64 a18, c86.2.2.2.2.2.2.2.2.2.2.2.1, c86.2.2.2.2.2.2.2.2.2.2.2.2.1]) : Rows)) : Nat) == w84_2) <|
                  k0 false false (List.take w84_1 (List.drop 0 (w84_4 : Rows))) false false (List.take w84_3 (List.drop 0 ((List.set (w84_5 : Rows) (0 + w69_2.toNat) [c86.1, c86.2.1, c86.2.2.1, c86.2.2.2.1, c86.2.2.2.2.1, c86.2.2.2.2.2.1, c86.2.2.2.2.2.2.1, c86.2.2.2.2.2.2.2.1, c86.2.2.2.2.2.2.2.2.1, c86.2.2.2.2.2.2.2.2.2.1, .i .u64 a18, c86.2.2.2.2.2.2.2.2.2.2.2.1, c86.2.2.2.2.2.2.2.2.2.2.2.2.1]) : Rows))) 0 0 0
                else bif ((a16 : Int) == 2) then
                  chk (((List.length (w84_5 : Rows)) : Nat) == w84_2) <|
                  rowN [.a, .a, .a, .a, .a, .a, .a, .a, .a, .a, .a, .a, .a] w84_5 (0 + w69_2.toNat) fun c87 =>
                  chk (((List.length (w84_4 : Rows)) : Nat) == w84_0) <|
                  chk (((List.length ((List.set (w84_5 : Rows) (0 + w69_2.toNat) [c87.1, c87.2.1, c87.2.2.1, c87.2.2.2.1, c87.2.2.2.2.1, c87.2.2.2.2.2.1, c87.2.2.2.2.2.2.1, c87.2.2.2.2.2.2.2.1, c87.2.2.2.2.2.2.2.2.1, c87.2.2.2.2.2.2.2.2.2.1, c87.2.2.2.2.2.2.2.2.2.2.1, .i .u64 a18, c87.2.2.2.2.2.2.2.2.2.2.2.2.1]) : Rows)) : Nat) == w84_2) <|
                  k0 false false (List.take w84_1 (List.drop 0 (w84_4 : Rows))) false false (List.take w84_3 (List.drop 0 ((List.set (w84_5 : Rows) (0 + w69_2.toNat) [c87.1, c87.2.1, c87.2.2.1, c87.2.2.2.1, c87.2.2.2.2.1, c87.2.2.2.2.2.1, c87.2.2.2.2.2.2.1, c87.2.2.2.2.2.2.2.1, c87.2.2.2.2.2.2.2.2.1, c87.2.2.2.2.2.2.2.2.2.1, c87.2.2.2.2.2.2.2.2.2.2.1, .i .u64 a18, c87.2.2.2.2.2.2.2.2.2.2.2.2.1]) : Rows))) 0 0 0
                else bif ((a16 : Int) == 3) then
                  chk (((List.length (w84_5 : Rows)) : Nat) == w84_2) <|
                  rowN [.a, .a, .a, .a, .a, .a, .a, .a, .a, .a, .a, .a, .a] w84_5 (0 + w69_2.toNat) fun c88 =>
                  chk (((List.length (w84_4 : Rows)) : Nat) == w84_0) <|
                  chk (((List.length ((List.set (w84_5 : Rows) (0 + w69_2.toNat) [c88.1, c88.2.1, c88.2.2.1, c88.2.2.2.1, c88.2.2.2.2.1, c88.2.2.2.2.2.1, c88.2.2.2.2.2.2.1, c88.2.2.2.2.2.2.2.1, c88.2.2.2.2.2.2.2.2.1, c88.2.2.2.2.2.2.2.2.2.1, c88.2.2.2.2.2.2.2.2.2.2.1, c88.2.2.2.2.2.2.2.2.2.2.2.1, .i .u64 a18]) : Rows)) : Nat) == w84_2) <|
                  k0 false false (List.take w84_1 (List.drop 0 (w84_4 : Rows))) false false (List.take w84_3 (List.drop 0 ((List.set (w84_5 : Rows) (0 + w69_2.toNat) [c88.1, c88.2.1, c88.2.2.1, c88.2.2.2.1, c88.2.2.2.2.1, c88.2.2.2.2.2.1, c88.2.2.2.2.2.2.1, c88.2.2.2.2.2.2.2.1, c88.2.2.2.2.2.2.2.2.1, c88.2.2.2.2.2.2.2.2.2.1, c88.2.2.2.2.2.2.2.2.2.2.1, c88.2.2.2.2.2.2.2.2.2.2.2.1, .i .u64 a18]) : Rows))) 0 0 0
                else none)
            else k0 a3 a4 a5 a6 a7 a8 6 0 0)
        else bif ((w69_1 : Int) != 5) then
          k0 a3 a4 a5 a6 a7 a8 7 0 0
        else G.right_Within ρ 2 w69_3 (fun w89_0 =>
          bif w89_0 then
            bif ((a10 : Int) == 12) then
              rowT [.i .i64, .i .i64, .i .i64, .i .i64, .i .i64, .i .i64, .i .i64, .b, .i .u64, .i .u64, .i .u64, .i .u64, .i .u64] a8 w69_2 fun c90 =>
              bif ((a16 : Int) == 0) then
                k0 a3 a4 a5 a6 a7 a8 0 c90.2.2.2.2.2.2.2.2.2.1 0
              else bif ((a16 : Int) == 1) then
                k0 a3 a4 a5 a6 a7 a8 0 c90.2.2.2.2.2.2.2.2.2.2.1 0
              else bif ((a16 : Int) == 2) then
                k0 a3 a4 a5 a6 a7 a8 0 c90.2.2.2.2.2.2.2.2.2.2.2.1 0
              else bif ((a16 : Int) == 3) then
                k0 a3 a4 a5 a6 a7 a8 0 c90.2.2.2.2.2.2.2.2.2.2.2.2.1 0
              else none
            else G.state_Clone ρ a0 a1 a2 a3 a4 a5 a6 a7 a8 (none) (fun w92_0 w92_1 w92_2 =>
              chk (decide ((0 : Int) ≤ w69_2)) <|
              chk (decide ((w69_2 : Int) < ((w92_1 : Nat) : Int))) <|
              bif ((a16 : Int) == 0) then
                chk (((List.length (w92_2 : Rows)) : Nat) == w92_0) <|
                rowN [.a, .a, .a, .a, .a, .a, .a, .a, .a, .a, .a, .a, .a] w92_2 (0 + w69_2.toNat) fun c93 =>
                chk (((List.length ((List.set (w92_2 : Rows) (0 + w69_2.toNat) [c93.1, c93.2.1, c93.2.2.1, c93.2.2.2.1, c93.2.2.2.2.1, c93.2.2.2.2.2.1, c93.2.2.2.2.2.2.1, c93.2.2.2.2.2.2.2.1, c93.2.2.2.2.2.2.2.2.1, .i .u64 a18, c93.2.2.2.2.2.2.2.2.2.2.1, c93.2.2.2.2.2.2.2.2.2.2.2.1, c93.2.2.2.2.2.2.2.2.2.2.2.2.1]) : Rows)) : Nat) == w92_0) <|
                k0 true true [] false false (List.take w92_1 (List.drop 0 ((List.set (w92_2 : Rows) (0 + w69_2.toNat) [c93.1, c93.2.1, c93.2.2.1, c93.2.2.2.1, c93.2.2.2.2.1, c93.2.2.2.2.2.1, c93.2.2.2.2.2.2.1, c93.2.2.2.2.2.2.2.1, c93.2.2.2.2.2.2.2.2.1, .i .u64 a18, c93.2.2.2.2.2.2.2.2.2.2.1, c93.2.2.2.2.2.2.2.2.2.2.2.1, c93.2.2.2.2.2.2.2.2.2.2.2.2.1]) : Rows))) 0 0 0
              else bif ((a16 : Int) == 1) then
                chk (((List.length (w92_2 : Rows)) : Nat) == w92_0) <|
                rowN [.a, .a, .a, .a, .a, .a, .a, .a, .a, .a, .a, .a, .a] w92_2 (0 + w69_2.toNat) fun c94 =>
                chk (((List.length ((List.set (w92_2 : Rows) (0 + w69_2.toNat) [c94.1, c94.2.1, c94.2.2.1, c94.2.2.2.1, c94.2.2.2.2.1, c94.2.2.2.2.2.1, c94.2.2.2.2.2.2.1, c94.2.2.2.2.2.2.2.1, c94.2.2.2.2.2.2.2.2.1, c94.2.2.2.2.2.2.2.2.2.1, .i .u64 a18, c94.2.2.2.2.2.2.2.2.2.2.2.1, c94.2.2.2.2.2.2.2.2.2.2.2.2.1]) : Rows)) : Nat) == w92_0) <|
                k0 true true [] false false (List.take w92_1 (List.drop 0 ((List.set (w92_2 : Rows) (0 + w69_2.toNat) [c94.1, c94.2.1, c94.2.2.1, c94.2.2.2.1, c94.2.2.2.2.1, c94.2.2.2.2.2.1, c94.2.2.2.2.2.2.1, c94.2.2.2.2.2.2.2.1, c94.2.2.2.2.2.2.2.2.1, c94.2.2.2.2.2.2.2.2.2.1, .i .u64 a18, c94.2.2.2.2.2.2.2.2.2.2.2.1, c94.2.2.2.2.2.2.2.2.2.2.2.2.1]) : Rows))) 0 0 0
              else bif ((a16 : Int) == 2) then
                chk (((List.length (w92_2 : Rows)) : Nat) == w92_0) <|
                rowN [.a, .a, .a, .a, .a, .a, .a, .a, .a, .a, .a, .a, .a] w92_2 (0 + w69_2.toNat) fun c95 =>
                chk (((List.length ((List.set (w92_2 : Rows) (0 + w69_2.toNat) [c95.1, c95.2.1, c95.2.2.1, c95.2.2.2.1, c95.2.2.2.2.1, c95.2.2.2.2.2.1, c95.2.2.2.2.2.2.1, c95.2.2.2.2.2.2.2.1, c95.2.2.2.2.2.2.2.2.1, c95.2.2.2.2.2.2.2.2.2.1, c95.2.2.2.2.2.2.2.2.2.2.1, .i .u64 a18, c95.2.2.2.2.2.2.2.2.2.2.2.2.1]) : Rows)) : Nat) == w92_0) <|
                k0 true true [] false false (List.take w92_1 (List.drop 0 ((List.set (w92_2 : Rows) (0 + w69_2.toNat) [c95.1, c95.2.1, c95.2.2.1, c95.2.2.2.1, c95.2.2.2.2.1, c95.2.2.2.2.2.1, c95.2.2.2.2.2.2.1, c95.2.2.2.2.2.2.2.1, c95.2.2.2.2.2.2.2.2.1, c95.2.2.2.2.2.2.2.2.2.1, c95.2.2.2.2.2.2.2.2.2.2.1, .i .u64 a18, c95.2.2.2.2.2.2.2.2.2.2.2.2.1]) : Rows))) 0 0 0
              else bif ((a16 : Int) == 3) then
                chk (((List.length (w92_2 : Rows)) : Nat) == w92_0) <|
                rowN [.a, .a, .a, .a, .a, .a, .a, .a, .a, .a, .a, .a, .a] w92_2 (0 + w69_2.toNat) fun c96 =>
                chk (((List.length ((List.set (w92_2 : Rows) (0 + w69_2.toNat) [c96.1, c96.2.1, c96.2.2.1, c96.2.2.2.1, c96.2.2.2.2.1, c96.2.2.2.2.2.1, c96.2.2.2.2.2.2.1, c96.2.2.2.2.2.2.2.1, c96.2.2.2.2.2.2.2.2.1, c96.2.2.2.2.2.2.2.2.2.1, c96.2.2.2.2.2.2.2.2.2.2.1, c96.2.2.2.2.2.2.2.2.2.2.2.1, .i .u64 a18]) : Rows)) : Nat) == w92_0) <|
                k0 true true [] false false (List.take w92_1 (List.drop 0 ((List.set (w92_2 : Rows) (0 + w69_2.toNat) [c96.1, c96.2.1, c96.2.2.1, c96.2.2.2.1, c96.2.2.2.2.1, c96.2.2.2.2.2.1, c96.2.2.2.2.2.2.1, c96.2.2.2.2.2.2.2.1, c96.2.2.2.2.2.2.2.2.1, c96.2.2.2.2.2.2.2.2.2.1, c96.2.2.2.2.2.2.2.2.2.2.1, c96.2.2.2.2.2.2.2.2.2.2.2.1, .i .u64 a18]) : Rows))) 0 0 0
              else none) (fun _w97_0 _w97_1 _w97_2 =>
              none) (fun w98_0 w98_1 w98_2 w98_3 w98_4 w98_5 =>
              chk (decide ((0 : Int) ≤ w69_2)) <|
              chk (decide ((w69_2 : Int) < ((w98_3 : Nat) : Int))) <|
              bif ((a16 : Int) == 0) then
                chk (((List.length (w98_5 : Rows)) : Nat) == w98_2) <|
                rowN [.a, .a, .a, .a, .a, .a, .a, .a, .a, .a, .a, .a, .a] w98_5 (0 + w69_2.toNat) fun c99 =>
                chk (((List.length (w98_4 : Rows)) : Nat) == w98_0) <|
                chk (((List.length ((List.set (w98_5 : Rows) (0 + w69_2.toNat) [c99.1, c99.2.1, c99.2.2.1, c99.2.2.2.1, c99.2.2.2.2.1, c99.2.2.2.2.2.1, c99.2.2.2.2.2.2.1, c99.2.2.2.2.2.2.2.1, c99.2.2.2.2.2.2.2.2.1, .i .u64 a18, c99.2.2.2.2.2.2.2.2.2.2.1, c99.2.2.2.2.2.2.2.2.2.2.2.1, c99.2.2.2.2.2.2.2.2.2.2.2.2.1]) : Rows)) : Nat) == w98_2) <|
                k0 false false (List.take w98_1 (List.drop 0 (w98_4 : Rows))) false false (List.take w98_3 (List.drop 0 ((List.set (w98_5 : Rows) (0 + w69_2.toNat) [c99.1, c99.2.1, c99.2.2.1, c99.2.2.2.1, c99.2.2.2.2.1, c99.2.2.2.2.2.1, c99.2.2.2.2.2.2.1, c99.2.2.2.2.2.2.2.1, c99.2.2.2.2.2.2.2.2.1, .i .u64 a18, c99.2.2.2.2.2.2.2.2.2.2.1, c99.2.2.2.2.2.2.2.2.2.2.2.1, c99.2.2.2.2.2.2.2.2.2.2.2.2.1]) : Rows))) 0 0 0
              else bif ((a16 : Int) == 1) then
                chk (((List.length (w98_5 : Rows)) : Nat) == w98_2) <|
                rowN [.a, .a, .a, .a, .a, .a, .a, .a, .a, .a, .a, .a, .a] w98_5 (0 + w69_2.toNat) fun c100 =>
                chk (((List.length (w98_4 : Rows)) : Nat) == w98_0) <|
                chk (((List.length ((List.set (w98_5 : Rows) (0 + w69_2.toNat) [c100.1, c100.2.1, c100.2.2.1, c100.2.2.2.1, c100.2.2.2.2.1, c100.2.2.2.2.2.1, c100.2.2.2.2.2.2.1, c100.2.2.2.2.2.2.2.1, c100.2.2.2.2.2.2.2.2.1, c100.2.2.2.2.2.2.2.2.2.1, .i .u64 a18, c100.2.2.2.2.2.2.2.2.2.2.2.1, c100.2.2.2.2.2.2.2.2.2.2.2.2.1]) : Rows)) : Nat) == w98_2) <|
                k0 false false (List.take w98_1 (List.drop 0 (w98_4 : Rows))) false false (List.take w98_3 (List.drop 0 ((List.set (w98_5 : Rows) (0 + w69_2.toNat) [c100.1, c100.2.1, c100.2.2.1, c100.2.2.2.1, c100.2.2.2.2.1, c100.2.2.2.2.2.1, c100.2.2.2.2.2.2.1, c100.2.2.2.2.2.2.2.1, c100.2.2.2.2.2.2.2.2.1, c100.2.2.2.2.2.2.2.2.2.1, .i .u64 a18, c100.2.2.2.2.2.2.2.2.2.2.2.1, c100.2.2.2.2.2.2.2.2.2.2.2.2.1]) : Rows))) 0 0 0
              else bif ((a16 : Int) == 2) then
                chk (((List.length (w98_5 : Rows)) : Nat) == w98_2) <|
                rowN [.a, .a, .a, .a, .a, .a, .a, .a, .a, .a, .a, .a, .a] w98_5 (0 + w69_2.toNat) fun c101 =>
                chk (((List.length (w98_4 : Rows)) : Nat) == w98_0) <|
                chk (((List.length ((List.set (w98_5 : Rows) (0 + w69_2.toNat) [c101.1, c101.2.1, c101.2.2.1, c101.2.2.2.1, c101.2.2.2.2.1, c101.2.2.2.2.2.1, c101.2.2.2.2.2.2.1, c101.2.2.2.2.2.2.2.1, c101.2.2.2.2.2.2.2.2.1, c101.2.2.2.2.2.2.2.2.2.1, c101.2.2.2.2.2.2.2.2.2.2.1, .i .u64 a18, c101.2.2.2.2.2.2.2.2.2.2.2.2.1]) : Rows)) : Nat) == w98_2) <|
                k0 false false (List.take w98_1 (List.drop 0 (w98_4 : Rows))) false false (List.take w98_3 (List.drop 0 ((List.set (w98_5 : Rows) (0 + w69_2.toNat) [c101.1, c101.2.1, c101.2.2.1, c101.2.2.2.1, c101.2.2.2.2.1, c101.2.2.2.2.2.1, c101.2.2.2.2.2.2.1, c101.2.2.2.2.2.2.2.1, c101.2.2.2.2.2.2.2.2.1, c101.2.2.2.2.2.2.2.2.2.1, c101.2.2.2.2.2.2.2.2.2.2.1, .i .u64 a18, c101.2.2.2.2.2.2.2.2.2.2.2.2.1]) : Rows))) 0 0 0
              else bif ((a16 : Int) == 3) then
                chk (((List.length (w98_5 : Rows)) : Nat) == w98_2) <|
                rowN [.a, .a, .a, .a, .a, .a, .a, .a, .a, .a, .a, .a, .a] w98_5 (0 + w69_2.toNat) fun c102 =>
                chk (((List.length (w98_4 : Rows)) : Nat) == w98_0) <|
                chk (((List.length ((List.set (w98_5 : Rows) (0 + w69_2.toNat) [c102.1, c102.2.1, c102.2.2.1, c102.2.2.2.1, c102.2.2.2.2.1, c102.2.2.2.2.2.1, c102.2.2.2.2.2.2.1, c102.2.2.2.2.2.2.2.1, c102.2.2.2.2.2.2.2.2.1, c102.2.2.2.2.2.2.2.2.2.1, c102.2.2.2.2.2.2.2.2.2.2.1, c102.2.2.2.2.2.2.2.2.2.2.2.1, .i .u64 a18]) : Rows)) : Nat) == w98_2) <|
                k0 false false (List.take w98_1 (List.drop 0 (w98_4 : Rows))) false false (List.take w98_3 (List.drop 0 ((List.set (w98_5 : Rows) (0 + w69_2.toNat) [c102.1, c102.2.1, c102.2.2.1, c102.2.2.2.1, c102.2.2.2.2.1, c102.2.2.2.2.2.1, c102.2.2.2.2.2.2.1, c102.2.2.2.2.2.2.2.1, c102.2.2.2.2.2.2.2.2.1, c102.2.2.2.2.2.2.2.2.2.1, c102.2.2.2.2.2.2.2.2.2.2.1, c102.2.2.2.2.2.2.2.2.2.2.2.1, .i .u64 a18]) : Rows))) 0 0 0
              else none)
          else k0 a3 a4 a5 a6 a7 a8 6 0 0))
    else k0 a3 a4 a5 a6 a7 a8 1 0 0)
noncomputable def leaf_Do_g (n : Nat) : leaf_Do_G := ⟨call_Good_i1 n, find_Cap n, cap_Word n, state_Forest n, forest_Depth n, right_Within n, state_Clone n⟩
noncomputable def leaf_Do (n : Nat) : leaf_Do_T := fun _ρ a0 a1 a2 a3 a4 a5 a6 a7 a8 a9 a10 a11 a12 a13 a14 a15 a16 a17 a18 k0 => leaf_Do_s (leaf_Do_g n) n a0 a1 a2 a3 a4 a5 a6 a7 a8 a9 a10 a11 a12 a13 a14 a15 a16 a17 a18 k0
noncomputable def leaf_Do_e (n : Nat) : EK := leaf_Do_E (leaf_Do n)
def leaf_Do_S (G : leaf_Do_G) : CK := tabS [(20, call_Good_i1_E G.call_Good_i1), (21, find_Cap_E G.find_Cap), (14, cap_Word_E G.cap_Word), (31, state_Forest_E G.state_Forest), (30, forest_Depth_E G.forest_Depth), (22, right_Within_E G.right_Within), (23, state_Clone_E G.state_Clone)]
theorem leaf_Do_Sok (n : Nat) : CK.OK (leaf_Do_S (leaf_Do_g n)) (L tab) := tabS_ok _ (List.forall_mem_cons.2 ⟨(call_Good_i1_ok n), List.forall_mem_cons.2 ⟨(find_Cap_ok n), List.forall_mem_cons.2 ⟨(cap_Word_ok n), List.forall_mem_cons.2 ⟨(state_Forest_ok n), List.forall_mem_cons.2 ⟨(forest_Depth_ok n), List.forall_mem_cons.2 ⟨(right_Within_ok n), List.forall_mem_cons.2 ⟨(state_Clone_ok n), (fun _ h => nomatch h)⟩⟩⟩⟩⟩⟩⟩)
def leaf_Do_hs : HintC := hintL [(91, [.i .i64, .i .i64, .i .i64, .i .i64, .i .i64, .i .i64, .i .i64, .b, .i .u64, .i .u64, .i .u64, .i .u64, .i .u64])]
noncomputable def leaf_Do_lp (_G : leaf_Do_G) (_n : Nat) : LK := tabL []
theorem leaf_Do_k (G : leaf_Do_G) {ρ : Type} (n : Nat) (a0 : Int) (a1 : Int) (a2 : Int) (a3 : Bool) (a4 : Bool) (a5 : Rows) (a6 : Bool) (a7 : Bool) (a8 : Rows) (a9 : Int) (a10 : Int) (a11 : Bool) (a12 : Bool) (a13 : Rows) (a14 : Bool) (a15 : Bool) (a16 : Int) (a17 : Int) (a18 : Int) (K : Res → Option ρ) : runC (leaf_Do_S G) leaf_Do_hs (leaf_Do_lp G n) m12 [.agg [.i .i64 a0, .i .i64 a1, .i .i64 a2, .lst a3 a4 5 a5, .lst a6 a7 13 a8], .i .i64 a9, .agg [.i .i64 a10, .lst a11 a12 1 a13, .lst a14 a15 0 [], .i .i64 a16, .i .i64 a17, .i .u64 a18]] K = leaf_Do_s G n a0 a1 a2 a3 a4 a5 a6 a7 a8 a9 a10 a11 a12 a13 a14 a15 a16 a17 a18 (fun w0 w1 w2 w3 w4 w5 w6 w7 w8 => K ⟨.tup [.agg [.i .i64 a0, .i .i64 a1, .i .i64 a2, .lst w0 w1 5 w2, .lst w3 w4 13 w5], .agg [.i .i64 w6, .i .u64 w7, .i .i64 w8]], [], []⟩) := by kernel_rfl
theorem leaf_Do_ok (n : Nat) : EK.OK (leaf_Do_e n) 12 (L tab) := EK.shp (fun _ _ _ => rfl) fun ρ K y c e => EK.run (leaf_Do_Sok n) (by kernel_rfl) (MF.LKOK.of (LK.of (l := []) (by kernel_rfl) ((fun _ h => nomatch h)))) (leaf_Do_k (leaf_Do_g n) n _ _ _ _ _ _ _ _ _ _ _ _ _ _ _ _ _ _ _ K) (by kernel_rfl) e

/-! reeve/reevelaw20.awake -/
abbrev reevelaw20_awake_T : Type 1 := (ρ : Type) → (Bool → Option ρ) → Option ρ
def reevelaw20_awake_E (G : reevelaw20_awake_T) : EK := fun ρ args K => decL [] args fun _c => G ρ (fun w0 => K ⟨.b w0, [], []⟩)
structure reevelaw20_awake_G where
  mk ::
  reevelaw20_paged : reevelaw20_paged_T
  reevelaw20_way : reevelaw20_way_T
  leaf_Do : leaf_Do_T
noncomputable def reevelaw20_awake_s (G : reevelaw20_awake_G) {ρ : Type} (_n : Nat)  (k0 : (Bool → Option ρ)) : Option ρ :=
  G.reevelaw20_paged ρ (fun w0_0 w0_1 w0_2 w0_3 w0_4 w0_5 w0_6 w0_7 w0_8 =>
    G.reevelaw20_way ρ false false ([[.i .i64 3]]) (bs (stayR ⟨.agg [.lst false false 1 ([[.i .i64 3]])], [], []⟩) <|
      G.leaf_Do ρ w0_0 w0_1 w0_2 w0_3 w0_4 w0_5 w0_6 w0_7 w0_8 0 11 false false ([[.i .i64 3]]) true true 2 0 77 (fun w2_0 w2_1 w2_2 w2_3 w2_4 w2_5 w2_6 w2_7 w2_8 =>
        G.reevelaw20_way ρ false false ([[.i .i64 4]]) (bs (stayR ⟨.agg [.lst false false 1 ([[.i .i64 4]])], [], []⟩) <|
          G.leaf_Do ρ w0_0 w0_1 w0_2 w2_0 w2_1 w2_2 w2_3 w2_4 w2_5 0 12 false false ([[.i .i64 4]]) true true 2 0 0 (fun _w4_0 _w4_1 _w4_2 _w4_3 _w4_4 _w4_5 w4_6 w4_7 w4_8 =>
            bif (((w2_6 : Int) == 0) && (((w2_7 : Int) == 0) && (((w2_8 : Int) == 0) && true))) then
              bif (((w4_6 : Int) == 0) && (((w4_7 : Int) == 77) && (((w4_8 : Int) == 0) && true))) then
                k0 true
              else k0 false
            else k0 false)))))
noncomputable def reevelaw20_awake_g (n : Nat) : reevelaw20_awake_G := ⟨reevelaw20_paged n, reevelaw20_way n, leaf_Do n⟩
noncomputable def reevelaw20_awake (n : Nat) : reevelaw20_awake_T := fun _ρ k0 => reevelaw20_awake_s (reevelaw20_awake_g n) n k0
noncomputable def reevelaw20_awake_e (n : Nat) : EK := reevelaw20_awake_E (reevelaw20_awake n)
def reevelaw20_awake_S (G : reevelaw20_awake_G) : CK := tabS [(11, reevelaw20_paged_E G.reevelaw20_paged), (13, reevelaw20_way_E G.reevelaw20_way), (12, leaf_Do_E G.leaf_Do)]
theorem reevelaw20_awake_Sok (n : Nat) : CK.OK (reevelaw20_awake_S (reevelaw20_awake_g n)) (L tab) := tabS_ok _ (List.forall_mem_cons.2 ⟨(reevelaw20_paged_ok n), List.forall_mem_cons.2 ⟨(reevelaw20_way_ok n), List.forall_mem_cons.2 ⟨(leaf_Do_ok n), (fun _ h => nomatch h)⟩⟩⟩)
def reevelaw20_awake_hs : HintC := hintL []
noncomputable def reevelaw20_awake_lp (_G : reevelaw20_awake_G) (_n : Nat) : LK := tabL []
theorem reevelaw20_awake_k (G : reevelaw20_awake_G) {ρ : Type} (n : Nat)  (K : Res → Option ρ) : runC (reevelaw20_awake_S G) reevelaw20_awake_hs (reevelaw20_awake_lp G n) m10 [] K = reevelaw20_awake_s G n  (fun w0 => K ⟨.b w0, [], []⟩) := by kernel_rfl
theorem reevelaw20_awake_ok (n : Nat) : EK.OK (reevelaw20_awake_e n) 10 (L tab) := EK.shp (fun _ _ _ => rfl) fun ρ K y c e => EK.run (reevelaw20_awake_Sok n) (by kernel_rfl) (MF.LKOK.of (LK.of (l := []) (by kernel_rfl) ((fun _ h => nomatch h)))) (reevelaw20_awake_k (reevelaw20_awake_g n) n  K) (by kernel_rfl) e

end Go.Rv
/- functions as programs of ours, and their ties, part 6 -/
namespace Go.Rv
/-! reeve/leaf.Do -/
abbrev leaf_Do_i1_T : Type 1 := (ρ : Type) → Int → Int → Int → Bool → Bool → Rows → Bool → Bool → Rows → Int → Int → Bool → Bool → Rows → Bool → Bool → Rows → Int → Int → Int → (Bool → Bool → Rows → Bool → Bool → Rows → Int → Int → Int → Option ρ) → Option ρ
def leaf_Do_i1_E (G : leaf_Do_i1_T) : EK := fun ρ args K => decL [.agg [.i .i64 none, .i .i64 none, .i .i64 none, .lst none none 5 none, .lst none none 13 none], .i .i64 none, .agg [.i .i64 none, .lst none none 1 none, .lst none none 1 none, .i .i64 none, .i .i64 none, .i .u64 none]] args fun c => G ρ c.1.1 c.1.2.1 c.1.2.2.1 c.1.2.2.2.1.1 c.1.2.2.2.1.2.1 c.1.2.2.2.1.2.2 c.1.2.2.2.2.1.1 c.1.2.2.2.2.1.2.1 c.1.2.2.2.2.1.2.2 c.2.1 c.2.2.1.1 c.2.2.1.2.1.1 c.2.2.1.2.1.2.1 c.2.2.1.2.1.2.2 c.2.2.1.2.2.1.1 c.2.2.1.2.2.1.2.1 c.2.2.1.2.2.1.2.2 c.2.2.1.2.2.2.1 c.2.2.1.2.2.2.2.1 c.2.2.1.2.2.2.2.2.1 (fun w0 w1 w2 w3 w4 w5 w6 w7 w8 => K ⟨.tup [.agg [.i .i64 c.1.1, .i .i64 c.1.2.1, .i .i64 c.1.2.2.1, .lst w0 w1 5 w2, .lst w3 w4 13 w5], .agg [.i .i64 w6, .i .u64 w7, .i .i64 w8]], [], []⟩)
structure leaf_Do_i1_G where
  mk ::
  call_Good : call_Good_T
  find_Cap : find_Cap_T
  cap_Word : cap_Word_T
  state_Forest : state_Forest_T
  forest_Depth : forest_Depth_T
  right_Within : right_Within_T
  state_Clone : state_Clone_T
noncomputable def leaf_Do_i1_s (G : leaf_Do_i1_G) {ρ : Type} (_n : Nat) (a0 : Int) (a1 : Int) (a2 : Int) (a3 : Bool) (a4 : Bool) (a5 : Rows) (a6 : Bool) (a7 : Bool) (a8 : Rows) (a9 : Int) (a10 : Int) (a11 : Bool) (a12 : Bool) (a13 : Rows) (a14 : Bool) (a15 : Bool) (a16 : Rows) (a17 : Int) (a18 : Int) (a19 : Int) (k0 : (Bool → Bool → Rows → Bool → Bool → Rows → Int → Int → Int → Option ρ)) : Option ρ :=
  G.call_Good ρ a10 a11 a12 a13 a14 a15 a16 a17 a18 a19 (fun w0_0 =>
    bif w0_0 then
      bif ((a10 : Int) != 11) then
        bif ((a10 : Int) != 12) then
          bif ((a10 : Int) != 13) then
            k0 a3 a4 a5 a6 a7 a8 1 0 0
          else G.find_Cap ρ a0 a1 a2 a3 a4 a5 a6 a7 a8 a9 a11 a12 a13 (fun w1_0 w1_1 w1_2 w1_3 w1_4 w1_5 =>
            bif ((w1_5 : Int) != 0) then
              k0 a3 a4 a5 a6 a7 a8 w1_5 0 0
            else bif ((a10 : Int) == 13) then
              G.cap_Word ρ w1_1 w1_2 w1_3 w1_4 (fun w2_0 w2_1 =>
                bif w2_1 then
                  G.state_Forest ρ a0 a1 a2 a3 a4 a5 a6 a7 a8 (fun w3_0 w3_1 w3_2 =>
                    G.forest_Depth ρ w3_0 w3_1 w3_2 w1_0 (fun w4_0 =>
                      k0 a3 a4 a5 a6 a7 a8 0 w2_0 w4_0))
                else G.state_Forest ρ a0 a1 a2 a3 a4 a5 a6 a7 a8 (fun w5_0 w5_1 w5_2 =>
                  G.forest_Depth ρ w5_0 w5_1 w5_2 w1_0 (fun w6_0 =>
                    k0 a3 a4 a5 a6 a7 a8 0 w2_0 w6_0)))
            else bif ((a10 : Int) == 12) then
              bif ((w1_1 : Int) != 5) then
                k0 a3 a4 a5 a6 a7 a8 7 0 0
              else G.right_Within ρ 1 w1_3 (fun w7_0 =>
                bif w7_0 then
                  bif ((a10 : Int) == 12) then
                    rowT [.i .i64, .i .i64, .i .i64, .i .i64, .i .i64, .i .i64, .i .i64, .b, .i .u64, .i .u64, .i .u64, .i .u64, .i .u64] a8 w1_2 fun c8 =>
                    bif ((a17 : Int) == 0) then
                      k0 a3 a4 a5 a6 a7 a8 0 c8.2.2.2.2.2.2.2.2.2.1 0
                    else bif ((a17 : Int) == 1) then
                      k0 a3 a4 a5 a6 a7 a8 0 c8.2.2.2.2.2.2.2.2.2.2.1 0
                    else bif ((a17 : Int) == 2) then
                      k0 a3 a4 a5 a6 a7 a8 0 c8.2.2.2.2.2.2.2.2.2.2.2.1 0
                    else bif ((a17 : Int) == 3) then
                      k0 a3 a4 a5 a6 a7 a8 0 c8.2.2.2.2.2.2.2.2.2.2.2.2.1 0
                    else none
                  else G.state_Clone ρ a0 a1 a2 a3 a4 a5 a6 a7 a8 (none) (fun w10_0 w10_1 w10_2 =>
                    chk (decide ((0 : Int) ≤ w1_2)) <|
                    chk (decide ((w1_2 : Int) < ((w10_1 : Nat) : Int))) <|
                    bif ((a17 : Int) == 0) then
                      chk (((List.length (w10_2 : Rows)) : Nat) == w10_0) <|
                      rowN [.a, .a, .a, .a, .a, .a, .a, .a, .a, .a, .a, .a, .a] w10_2 (0 + w1_2.toNat) fun c11 =>
                      chk (((List.length ((List.set (w10_2 : Rows) (0 + w1_2.toNat) [c11.1, c11.2.1, c11.2.2.1, c11.2.2.2.1, c11.2.2.2.2.1, c11.2.2.2.2.2.1, c11.2.2.2.2.2.2.1, c11.2.2.2.2.2.2.2.1, c11.2.2.2.2.2.2.2.2.1, .i .u64 a19, c11.2.2.2.2.2.2.2.2.2.2.1, c11.2.2.2.2.2.2.2.2.2.2.2.1, c11.2.2.2.2.2.2.2.2.2.2.2.2.1]) : Rows)) : Nat) == w10_0) <|
                      k0 true true [] false false (List.take w10_1 (List.drop 0 ((List.set (w10_2 : Rows) (0 + w1_2.toNat) [c11.1, c11.2.1, c11.2.2.1, c11.2.2.2.1, c11.2.2.2.2.1, c11.2.2.2.2.2.1, c11.2.2.2.2.2.2.1, c11.2.2.2.2.2.2.2.1, c11.2.2.2.2.2.2.2.2.1, .i .u64 a19, c11.2.2.2.2.2.2.2.2.2.2.1, c11.2.2.2.2.2.2.2.2.2.2.2.1, c11.2.2.2.2.2.2.2.2.2.2.2.2.1]) : Rows))) 0 0 0
                    else bif ((a17 : Int) == 1) then
                      chk (((List.length (w10_2 : Rows)) : Nat) == w10_0) <|
                      rowN [.a, .a, .a, .a, .a, .a, .a, .a, .a, .a, .a, .a, .a] w10_2 (0 + w1_2.toNat) fun c12 =>
                      chk (((List.length ((List.set (w10_2 : Rows) (0 + w1_2.toNat) [c12.1, c12.2.1, c12.2.2.1, c12.2.2.2.1, c12.2.2.2.2.1, c12.2.2.2.2.2.1, c12.2.2.2.2.2.2.1, c12.2.2.2.2.2.2.2.1, c12.2.2.2.2.2.2.2.2.1, c12.2.2.2.2.2.2.2.2.2.1, .i .u64 a19, c12.2.2.2.2.2.2.2.2.2.2.2.1, c12.2.2.2.2.2.2.2.2.2.2.2.2.1]) : Rows)) : Nat) == w10_0) <|
                      k0 true true [] false false (List.take w10_1 (List.drop 0 ((List.set (w10_2 : Rows) (0 + w1_2.toNat) [c12.1, c12.2.1, c12.2.2.1, c12.2.2.2.1, c12.2.2.2.2.1, c12.2.2.2.2.2.1, c12.2.2.2.2.2.2.1, c12.2.2.2.2.2.2.2.1, c12.2.2.2.2.2.2.2.2.1, c12.2.2.2.2.2.2.2.2.2.1, .i .u64 a19, c12.2.2.2.2.2.2.2.2.2.2.2.1, c12.2.2.2.2.2.2.2.2.2.2.2.2.1]) : Rows))) 0 0 0
                    else bif ((a17 : Int) == 2) then
                      chk (((List.length (w10_2 : Rows)) : Nat) == w10_0) <|
                      rowN [.a, .a, .a, .a, .a, .a, .a, .a, .a, .a, .a, .a, .a] w10_2 (0 + w1_2.toNat) fun c13 =>
                      chk (((List.length ((List.set (w10_2 : Rows) (0 + w1_2.toNat) [c13.1, c13.2.1, c13.2.2.1, c13.2.2.2.1, c13.2.2.2.2.1, c13.2.2.2.2.2.1, c13.2.2.2.2.2.2.1, c13.2.2.2.2.2.2.2.1, c13.2.2.2.2.2.2.2.2.1, c13.2.2.2.2.2.2.2.2.2.1, c13.2.2.2.2.2.2.2.2.2.2.1, .i .u64 a19, c13.2.2.2.2.2.2.2.2.2.2.2.2.1]) : Rows)) : Nat) == w10_0) <|
                      k0 true true [] false false (List.take w10_1 (List.drop 0 ((List.set (w10_2 : Rows) (0 + w1_2.toNat) [c13.1, c13.2.1, c13.2.2.1, c13.2.2.2.1, c13.2.2.2.2.1, c13.2.2.2.2.2.1, c13.2.2.2.2.2.2.1, c13.2.2.2.2.2.2.2.1, c13.2.2.2.2.2.2.2.2.1, c13.2.2.2.2.2.2.2.2.2.1, c13.2.2.2.2.2.2.2.2.2.2.1, .i .u64 a19, c13.2.2.2.2.2.2.2.2.2.2.2.2.1]) : Rows))) 0 0 0
                    else bif ((a17 : Int) == 3) then
                      chk (((List.length (w10_2 : Rows)) : Nat) == w10_0) <|
                      rowN [.a, .a, .a, .a, .a, .a, .a, .a, .a, .a, .a, .a, .a] w10_2 (0 + w1_2.toNat) fun c14 =>
                      chk (((List.length ((List.set (w10_2 : Rows) (0 + w1_2.toNat) [c14.1, c14.2.1, c14.2.2.1, c14.2.2.2.1, c14.2.2.2.2.1, c14.2.2.2.2.2.1, c14.2.2.2.2.2.2.1, c14.2.2.2.2.2.2.2.1, c14.2.2.2.2.2.2.2.2.1, c14.2.2.2.2.2.2.2.2.2.1, c14.2.2.2.2.2.2.2.2.2.2.1, c14.2.2.2.2.2.2.2.2.2.2.2.1, .i .u64 a19]) : Rows)) : Nat) == w10_0) <|
                      k0 true true [] false false (List.take w10_1 (List.drop 0 ((List.set (w10_2 : Rows) (0 + w1_2.toNat) [c14.1, c14.2.1, c14.2.2.1, c14.2.2.2.1, c14.2.2.2.2.1, c14.2.2.2.2.2.1, c14.2.2.2.2.2.2.1, c14.2.2.2.2.2.2.2.1, c14.2.2.2.2.2.2.2.2.1, c14.2.2.2.2.2.2.2.2.2.1, c14.2.2.2.2.2.2.2.2.2.2.1, c14.2.2.2.2.2.2.2.2.2.2.2.1, .i .u64 a19]) : Rows))) 0 0 0
                    else none) (fun _w15_0 _w15_1 _w15_2 =>
                    none) (fun w16_0 w16_1 w16_2 w16_3 w16_4 w16_5 =>
                    chk (decide ((0 : Int) ≤ w1_2)) <|
                    chk (decide ((w1_2 : Int) < ((w16_3 : Nat) : Int))) <|
                    bif ((a17 : Int) == 0) then
                      chk (((List.length (w16_5 : Rows)) : Nat) == w16_2) <|
                      rowN [.a, .a, .a, .a, .a, .a, .a, .a, .a, .a, .a, .a, .a] w16_5 (0 + w1_2.toNat) fun c17 =>
                      chk (((List.length (w16_4 : Rows)) : Nat) == w16_0) <|
                      chk (((List.length ((List.set (w16_5 : Rows) (0 + w1_2.toNat) [c17.1, c17.2.1, c17.2.2.1, c17.2.2.2.1, c17.2.2.2.2.1, c17.2.2.2.2.2.1, c17.2.2.2.2.2.2.1, c17.2.2.2.2.2.2.2.1, c17.2.2.2.2.2.2.2.2.1, .i .u64 a19, c17.2.2.2.2.2.2.2.2.2.2.1, c17.2.2.2.2.2.2.2.2.2.2.2.1, c17.2.2.2.2.2.2.2.2.2.2.2.2.1]) : Rows)) : Nat) == w16_2) <|
                      k0 false false (List.take w16_1 (List.drop 0 (w16_4 : Rows))) false false (List.take w16_3 (List.drop 0 ((List.set (w16_5 : Rows) (0 + w1_2.toNat) [c17.1, c17.2.1, c17.2.2.1, c17.2.2.2.1, c17.2.2.2.2.1, c17.2.2.2.2.2.1, c17.2.2.2.2.2.2.1, c17.2.2.2.2.2.2.2.1, c17.2.2.2.2.2.2.2.2.1, .i .u64 a19, c17.2.2.2.2.2.2.2.2.2.2.1, c17.2.2.2.2.2.2.2.2.2.2.2.1, c17.2.2.2.2.2.2.2.2.2.2.2.2.1]) : Rows))) 0 0 0
                    else bif ((a17 : Int) == 1) then
                      chk (((List.length (w16_5 : Rows)) : Nat) == w16_2) <|
                      rowN [.a, .a, .a, .a, .a, .a, .a, .a, .a, .a, .a, .a, .a] w16_5 (0 + w1_2.toNat) fun c18 =>
                      chk (((List.length (w16_4 : Rows)) : Nat) == w16_0) <|
                      chk (((List.length ((List.set (w16_5 : Rows) (0 + w1_2.toNat) [c18.1, c18.2.1, c18.2.2.1, c18.2.2.2.1, c18.2.2.2.2.1, c18.2.2.2.2.2.1, c18.2.2.2.2.2.2.1, c18.2.2.2.2.2.2.2.1, c18.2.2.2.2.2.2.2.2.1, c18.2.2.2.2.2.2.2.2.2.1, .i .u64 a19, c18.2.2.2.2.2.2.2.2.2.2.2.1, c18.2.2.2.2.2.2.2.2.2.2.2.2.1]) : Rows)) : Nat) == w16_2) <|
                      k0 false false (List.take w16_1 (List.drop 0 (w16_4 : Rows))) false false (List.take w16_3 (List.drop 0 ((List.set (w16_5 : Rows) (0 + w1_2.toNat) [c18.1, c18.2.1, c18.2.2.1, c18.2.2.2.1, c18.2.2.2.2.1, c18.2.2.2.2.2.1, c18.2.2.2.2.2.2.1, c18.2.2.2.2.2.2.2.1, c18.2.2.2.2.2.2.2.2.1, c18.2.2.2.2.2.2.2.2.2.1, .i .u64 a19, c18.2.2.2.2.2.2.2.2.2.2.2.1, c18.2.2.2.2.2.2.2.2.2.2.2.2.1]) : Rows))) 0 0 0
                    else bif ((a17 : Int) == 2) then
                      chk (((List.length (w16_5 : Rows)) : Nat) == w16_2) <|
                      rowN [.a, .a, .a, .a, .a, .a, .a, .a, .a, .a, .a, .a, .a] w16_5 (0 + w1_2.toNat) fun c19 =>
                      chk (((List.length (w16_4 : Rows)) : Nat) == w16_0) <|
                      chk (((List.length ((List.set (w16_5 : Rows) (0 + w1_2.toNat) [c19.1, c19.2.1, c19.2.2.1, c19.2.2.2.1, c19.2.2.2.2.1, c19.2.2.2.2.2.1, c19.2.2.2.2.2.2.1, c19.2.2.2.2.2.2.2.1, c19.2.2.2.2.2.2.2.2.1, c19.2.2.2.2.2.2.2.2.2.1, c19.2.2.2.2.2.2.2.2.2.2.1, .i .u64 a19, c19.2.2.2.2.2.2.2.2.2.2.2.2.1]) : Rows)) : Nat) == w16_2) <|
                      k0 false false (List.take w16_1 (List.drop 0 (w16_4 : Rows))) false false (List.take w16_3 (List.drop 0 ((List.set (w16_5 : Rows) (0 + w1_2.toNat) [c19.1, c19.2.1, c19.2.2.1, c19.2.2.2.1, c19.2.2.2.2.1, c19.2.2.2.2.2.1, c19.2.2.2.2.2.2.1, c19.2.2.2.2.2.2.2.1, c19.2.2.2.2.2.2.2.2.1, c19.2.2.2.2.2.2.2.2.2.1, c19.2.2.2.2.2.2.2.2.2.2.1, .i .u64 a19, c19.2.2.2.2.2.2.2.2.2.2.2.2.1]) : Rows))) 0 0 0
                    else bif ((a17 : Int) == 3) then
                      chk (((List.length (w16_5 : Rows)) : Nat) == w16_2) <|
                      rowN [.a, .a, .a, .a, .a, .a, .a, .a, .a, .a, .a, .a, .a] w16_5 (0 + w1_2.toNat) fun c20 =>
                      chk (((List.length (w16_4 : Rows)) : Nat) == w16_0) <|
                      chk (((List.length ((List.set (w16_5 : Rows) (0 + w1_2.toNat) [c20.1, c20.2.1, c20.2.2.1, c20.2.2.2.1, c20.2.2.2.2.1, c20.2.2.2.2.2.1, c20.2.2.2.2.2.2.1, c20.2.2.2.2.2.2.2.1, c20.2.2.2.2.2.2.2.2.1, c20.2.2.2.2.2.2.2.2.2.1, c20.2.2.2.2.2.2.2.2.2.2.1, c20.2.2.2.2.2.2.2.2.2.2.2.1, .i .u64 a19]) : Rows)) : Nat) == w16_2) <|
                      k0 false false (List.take w16_1 (List.drop 0 (w16_4 : Rows))) false false (List.take w16_3 (List.drop 0 ((List.set (w16_5 : Rows) (0 + w1_2.toNat) [c20.1, c20.2.1, c20.2.2.1, c20.2.2.2.1, c20.2.2.2.2.1, c20.2.2.2.2.2.1, c20.2.2.2.2.2.2.1, c20.2.2.2.2.2.2.2.1, c20.2.2.2.2.2.2.2.2.1, c20.2.2.2.2.2.2.2.2.2.1, c20.2.2.2.2.2.2.2.2.2.2.1, c20.2.2.2.2.2.2.2.2.2.2.2.1, .i .u64 a19]) : Rows))) 0 0 0
                    else none)
                else k0 a3 a4 a5 a6 a7 a8 6 0 0)
            else bif ((w1_1 : Int) != 5) then
              k0 a3 a4 a5 a6 a7 a8 7 0 0
            else G.right_Within ρ 2 w1_3 (fun w21_0 =>
              bif w21_0 then
                bif ((a10 : Int) == 12) then
                  rowT [.i .i64, .i .i64, .i .i64, .i .i64, .i .i64, .i .i64, .i .i64, .b, .i .u64, .i .u64, .i .u64, .i .u64, .i .u64] a8 w1_2 fun c22 =>
                  bif ((a17 : Int) == 0) then
                    k0 a3 a4 a5 a6 a7 a8 0 c22.2.2.2.2.2.2.2.2.2.1 0
                  else bif ((a17 : Int) == 1) then
                    k0 a3 a4 a5 a6 a7 a8 0 c22.2.2.2.2.2.2.2.2.2.2.1 0
                  else bif ((a17 : Int) == 2) then
                    k0 a3 a4 a5 a6 a7 a8 0 c22.2.2.2.2.2.2.2.2.2.2.2.1 0
                  else bif ((a17 : Int) == 3) then
                    k0 a3 a4 a5 a6 a7 a8 0 c22.2.2.2.2.2.2.2.2.2.2.2.2.1 0
                  else none
                else G.state_Clone ρ a0 a1 a2 a3 a4 a5 a6 a7 a8 (none) (fun w24_0 w24_1 w24_2 =>
                  chk (decide ((0 : Int) ≤ w1_2)) <|
                  chk (decide ((w1_2 : Int) < ((w24_1 : Nat) : Int))) <|
                  bif ((a17 : Int) == 0) then
                    chk (((List.length (w24_2 : Rows)) : Nat) == w24_0) <|
                    rowN [.a, .a, .a, .a, .a, .a, .a, .a, .a, .a, .a, .a, .a] w24_2 (0 + w1_2.toNat) fun c25 =>
                    chk (((List.length ((List.set (w24_2 : Rows) (0 + w1_2.toNat) [c25.1, c25.2.1, c25.2.2.1, c25.2.2.2.1, c25.2.2.2.2.1, c25.2.2.2.2.2.1, c25.2.2.2.2.2.2.1, c25.2.2.2.2.2.2.2.1, c25.2.2.2.2.2.2.2.2.1, .i .u64 a19, c25.2.2.2.2.2.2.2.2.2.2.1, c25.2.2.2.2.2.2.2.2.2.2.2.1, c25.2.2.2.2.2.2.2.2.2.2.2.2.1]) : Rows)) : Nat) == w24_0) <|
                    k0 true true [] false false (List.take w24_1 (List.drop 0 ((List.set (w24_2 : Rows) (0 + w1_2.toNat) [c25.1, c25.2.1, c25.2.2.1, c25.2.2.2.1, c25.2.2.2.2.1, c25.2.2.2.2.2.1, c25.2.2.2.2.2.2.1, c25.2.2.2.2.2.2.2.1, c25.2.2.2.2.2.2.2.2.1, .i .u64 a19, c25.2.2.2.2.2.2.2.2.2.2.1, c25.2.2.2.2.2.2.2.2.2.2.2.1, c25.2.2.2.2.2.2.2.2.2.2.2.2.1]) : Rows))) 0 0 0
                  else bif ((a17 : Int) == 1) then
                    chk (((List.length (w24_2 : Rows)) : Nat) == w24_0) <|
                    rowN [.a, .a, .a, .a, .a, .a, .a, .a, .a, .a, .a, .a, .a] w24_2 (0 + w1_2.toNat) fun c26 =>
                    chk (((List.length ((List.set (w24_2 : Rows) (0 + w1_2.toNat) [c26.1, c26.2.1, c26.2.2.1, c26.2.2.2.1, c26.2.2.2.2.1, c26.2.2.2.2.2.1, c26.2.2.2.2.2.2.1, c26.2.2.2.2.2.2.2.1, c26.2.2.2.2.2.2.2.2.1, c26.2.2.2.2.2.2.2.2.2.1, .i .u64 a19, c26.2.2.2.2.2.2.2.2.2.2.2.1, c26.2.2.2.2.2.2.2.2.2.2.2.2.1]) : Rows)) : Nat) == w24_0) <|
                    k0 true true [] false false (List.take w24_1 (List.drop 0 ((List.set (w24_2 : Rows) (0 + w1_2.toNat) [c26.1, c26.2.1, c26.2.2.1, c26.2.2.2.1, c26.2.2.2.2.1, c26.2.2.2.2.2.1, c26.2.2.2.2.2.2.1, c26.2.2.2.2.2.2.2.1, c26.2.2.2.2.2.2.2.2.1, c26.2.2.2.2.2.2.2.2.2.1, .i .u64 a19, c26.2.2.2.2.2.2.2.2.2.2.2.1, c26.2.2.2.2.2.2.2.2.2.2.2.2.1]) : Rows))) 0 0 0
                  else bif ((a17 : Int) == 2) then
                    chk (((List.length (w24_2 : Rows)) : Nat) == w24_0) <|
                    rowN [.a, .a, .a, .a, .a, .a, .a, .a, .a, .a, .a, .a, .a] w24_2 (0 + w1_2.toNat) fun c27 =>
                    chk (((List.length ((List.set (w24_2 : Rows) (0 + w1_2.toNat) [c27.1, c27.2.1, c27.2.2.1, c27.2.2.2.1, c27.2.2.2.2.1, c27.2.2.2.2.2.1, c27.2.2.2.2.2.2.1, c27.2.2.2.2.2.2.2.1, c27.2.2.2.2.2.2.2.2.1, c27.2.2.2.2.2.2.2.2.2.1, c27.2.2.2.2.2.2.2.2.2.2.1, .i .u64 a19, c27.2.2.2.2.2.2.2.2.2.2.2.2.1]) : Rows)) : Nat) == w24_0) <|
                    k0 true true [] false false (List.take w24_1 (List.drop 0 ((List.set (w24_2 : Rows) (0 + w1_2.toNat) [c27.1, c27.2.1, c27.2.2.1, c27.2.2.2.1, c27.2.2.2.2.1, c27.2.2.2.2.2.1, c27.2.2.2.2.2.2.1, c27.2.2.2.2.2.2.2.1, c27.2.2.2.2.2.2.2.2.1, c27.2.2.2.2.2.2.2.2.2.1, c27.2.2.2.2.2.2.2.2.2.2.1, .i .u64 a19, c27.2.2.2.2.2.2.2.2.2.2.2.2.1]) : Rows))) 0 0 0
                  else bif ((a17 : Int) == 3) then
                    chk (((List.length (w24_2 : Rows)) : Nat) == w24_0) <|
                    rowN [.a, .a, .a, .a, .a, .a, .a, .a, .a, .a, .a, .a, .a] w24_2 (0 + w1_2.toNat) fun c28 =>
                    chk (((List.length ((List.set (w24_2 : Rows) (0 + w1_2.toNat) [c28.1, c28.2.1, c28.2.2.1, c28.2.2.2.1, c28.2.2.2.2.1, c28.2.2.2.2.2.1, c28.2.2.2.2.2.2.1, c28.2.2.2.2.2.2.2.1, c28.2.2.2.2.2.2.2.2.1, c28.2.2.2.2.2.2.2.2.2.1, c28.2.2.2.2.2.2.2.2.2.2.1, c28.2.2.2.2.2.2.2.2.2.2.2.1, .i .u64 a19]) : Rows)) : Nat) == w24_0) <|
                    k0 true true [] false false (List.take w24_1 (List.drop 0 ((List.set (w24_2 : Rows) (0 + w1_2.toNat) [c28.1, c28.2.1, c28.2.2.1, c28.2.2.2.1, c28.2.2.2.2.1, c28.2.2.2.2.2.1, c28.2.2.2.2.2.2.1, c28.2.2.2.2.2.2.2.1, c28.2.2.2.2.2.2.2.2.1, c28.2.2.2.2.2.2.2.2.2.1, c28.2.2.2.2.2.2.2.2.2.2.1, c28.2.2.2.2.2.2.2.2.2.2.2.1, .i .u64 a19]) : Rows))) 0 0 0
                  else none) (fun _w29_0 _w29_1 _w29_2 =>
                  none) (fun w30_0 w30_1 w30_2 w30_3 w30_4 w30_5 =>
                  chk (decide ((0 : Int) ≤ w1_2)) <|
                  chk (decide ((w1_2 : Int) < ((w30_3 : Nat) : Int))) <|
                  bif ((a17 : Int) == 0) then
                    chk (((List.length (w30_5 : Rows)) : Nat) == w30_2) <|
                    rowN [.a, .a, .a, .a, .a, .a, .a, .a, .a, .a, .a, .a, .a] w30_5 (0 + w1_2.toNat) fun c31 =>
                    chk (((List.length (w30_4 : Rows)) : Nat) == w30_0) <|
                    chk (((List.length ((List.set (w30_5 : Rows) (0 + w1_2.toNat) [c31.1, c31.2.1, c31.2.2.1, c31.2.2.2.1, c31.2.2.2.2.1, c31.2.2.2.2.2.1, c31.2.2.2.2.2.2.1, c31.2.2.2.2.2.2.2.1, c31.2.2.2.2.2.2.2.2.1, .i .u64 a19, c31.2.2.2.2.2.2.2.2.2.2.1, c31.2.2.2.2.2.2.2.2.2.2.2.1, c31.2.2.2.2.2.2.2.2.2.2.2.2.1]) : Rows)) : Nat) == w30_2) <|
                    k0 false false (List.take w30_1 (List.drop 0 (w30_4 : Rows))) false false (List.take w30_3 (List.drop 0 ((List.set (w30_5 : Rows) (0 + w1_2.toNat) [c31.1, c31.2.1, c31.2.2.1, c31.2.2.2.1, c31.2.2.2.2.1, c31.2.2.2.2.2.1, c31.2.2.2.2.2.2.1, c31.2.2.2.2.2.2.2.1, c31.2.2.2.2.2.2.2.2.1, .i .u64 a19, c31.2.2.2.2.2.2.2.2.2.2.1, c31.2.2.2.2.2.2.2.2.2.2.2.1, c31.2.2.2.2.2.2.2.2.2.2.2.2.1]) : Rows))) 0 0 0
                  else bif ((a17 : Int) == 1) then
                    chk (((List.length (w30_5 : Rows)) : Nat) == w30_2) <|
                    rowN [.a, .a, .a, .a, .a, .a, .a, .a, .a, .a, .a, .a, .a] w30_5 (0 + w1_2.toNat) fun c32 =>
                    chk (((List.length (w30_4 : Rows)) : Nat) == w30_0) <|
                    chk (((List.length ((List.set (w30_5 : Rows) (0 + w1_2.toNat) [c32.1, c32.2.1, c32.2.2.1, c32.2.2.2.1, c32.2.2.2.2.1, c32.2.2.2.2.2.1, c32.2.2.2.2.2.2.1, c32.2.2.2.2.2.2.2.1, c32.2.2.2.2.2.2.2.2.1, c32.2.2.2.2.2.2.2.2.2.1, .i .u64 a19, c32.2.2.2.2.2.2.2.2.2.2.2.1, c32.2.2.2.2.2.2.2.2.2.2.2.2.1]) : Rows)) : Nat) == w30_2) <|
                    k0 false false (List.take w30_1 (List.drop 0 (w30_4 : Rows))) false false (List.take w30_3 (List.drop 0 ((List.set (w30_5 : Rows) (0 + w1_2.toNat) [c32.1, c32.2.1, c32.2.2.1, c32.2.2.2.1, c32.2.2.2.2.1, c32.2.2.2.2.2.1, c32.2.2.2.2.2.2.1, c32.2.2.2.2.2.2.2.1, c32.2.2.2.2.2.2.2.2.1, c32.2.2.2.2.2.2.2.2.2.1, .i .u64 a19, c32.2.2.2.2.2.2.2.2.2.2.2.1, c32.2.2.2.2.2.2.2.2.2.2.2.2.1]) : Rows))) 0 0 0
                  else bif ((a17 : Int) == 2) then
                    chk (((List.length (w30_5 : Rows)) : Nat) == w30_2) <|
                    rowN [.a, .a, .a, .a, .a, .a, .a, .a, .a, .a, .a, .a, .a] w30_5 (0 + w1_2.toNat) fun c33 =>
                    chk (((List.length (w30_4 : Rows)) : Nat) == w30_0) <|
                    chk (((List.length ((List.set (w30_5 : Rows) (0 + w1_2.toNat) [c33.1, c33.2.1, c33.2.2.1, c33.2.2.2.1, c33.2.2.2.2.1, c33.2.2.2.2.2.1, c33.2.2.2.2.2.2.1, c33.2.2.2.2.2.2.2.1, c33.2.2.2.2.2.2.2.2.1, c33.2.2.2.2.2.2.2.2.2.1, c33.2.2.2.2.2.2.2.2.2.2.1, .i .u64 a19, c33.2.2.2.2.2.2.2.2.2.2.2.2.1]) : Rows)) : Nat) == w30_2) <|
                    k0 false false (List.take w30_1 (List.drop 0 (w30_4 : Rows))) false false (List.take w30_3 (List.drop 0 ((List.set (w30_5 : Rows) (0 + w1_2.toNat) [c33.1, c33.2.1, c33.2.2.1, c33.2.2.2.1, c33.2.2.2.2.1, c33.2.2.2.2.2.1, c33.2.2.2.2.2.2.1, c33.2.2.2.2.2.2.2.1, c33.2.2.2.2.2.2.2.2.1, c33.2.2.2.2.2.2.2.2.2.1, c33.2.2.2.2.2.2.2.2.2.2.1, .i .u64 a19, c33.2.2.2.2.2.2.2.2.2.2.2.2.1]) : Rows))) 0 0 0
                  else bif ((a17 : Int) == 3) then
                    chk (((List.length (w30_5 : Rows)) : Nat) == w30_2) <|
                    rowN [.a, .a, .a, .a, .a, .a, .a, .a, .a, .a, .a, .a, .a] w30_5 (0 + w1_2.toNat) fun c34 =>
                    chk (((List.length (w30_4 : Rows)) : Nat) == w30_0) <|
                    chk (((List.length ((List.set (w30_5 : Rows) (0 + w1_2.toNat) [c34.1, c34.2.1, c34.2.2.1, c34.2.2.2.1, c34.2.2.2.2.1, c34.2.2.2.2.2.1, c34.2.2.2.2.2.2.1, c34.2.2.2.2.2.2.2.1, c34.2.2.2.2.2.2.2.2.1, c34.2.2.2.2.2.2.2.2.2.1, c34.2.2.2.2.2.2.2.2.2.2.1, c34.2.2.2.2.2.2.2.2.2.2.2.1, .i .u64 a19]) : Rows)) : Nat) == w30_2) <|
                    k0 false false (List.take w30_1 (List.drop 0 (w30_4 : Rows))) false false (List.take w30_3 (List.drop 0 ((List.set (w30_5 : Rows) (0 + w1_2.toNat) [c34.1, c34.2.1, c34.2.2.1, c34.2.2.2.1, c34.2.2.2.2.1, c34.2.2.2.2.2.1, c34.2.2.2.2.2.2.1, c34.2.2.2.2.2.2.2.1, c34.2.2.2.2.2.2.2.2.1, c34.2.2.2.2.2.2.2.2.2.1, c34.2.2.2.2.2.2.2.2.2.2.1, c34.2.2.2.2.2.2.2.2.2.2.2.1, .i .u64 a19]) : Rows))) 0 0 0
                  else none)
              else k0 a3 a4 a5 a6 a7 a8 6 0 0))
        else G.find_Cap ρ a0 a1 a2 a3 a4 a5 a6 a7 a8 a9 a11 a12 a13 (fun w35_0 w35_1 w35_2 w35_3 w35_4 w35_5 =>
          bif ((w35_5 : Int) != 0) then
            k0 a3 a4 a5 a6 a7 a8 w35_5 0 0
          else bif ((a10 : Int) == 13) then
            G.cap_Word ρ w35_1 w35_2 w35_3 w35_4 (fun w36_0 w36_1 =>
              bif w36_1 then
                G.state_Forest ρ a0 a1 a2 a3 a4 a5 a6 a7 a8 (fun w37_0 w37_1 w37_2 =>
                  G.forest_Depth ρ w37_0 w37_1 w37_2 w35_0 (fun w38_0 =>
                    k0 a3 a4 a5 a6 a7 a8 0 w36_0 w38_0))
              else G.state_Forest ρ a0 a1 a2 a3 a4 a5 a6 a7 a8 (fun w39_0 w39_1 w39_2 =>
                G.forest_Depth ρ w39_0 w39_1 w39_2 w35_0 (fun w40_0 =>
                  k0 a3 a4 a5 a6 a7 a8 0 w36_0 w40_0)))
          else bif ((a10 : Int) == 12) then
            bif ((w35_1 : Int) != 5) then
              k0 a3 a4 a5 a6 a7 a8 7 0 0
            else G.right_Within ρ 1 w35_3 (fun w41_0 =>
              bif w41_0 then
                bif ((a10 : Int) == 12) then
                  rowT [.i .i64, .i .i64, .i .i64, .i .i64, .i .i64, .i .i64, .i .i64, .b, .i .u64, .i .u64, .i .u64, .i .u64, .i .u64] a8 w35_2 fun c42 =>
                  bif ((a17 : Int) == 0) then
                    k0 a3 a4 a5 a6 a7 a8 0 c42.2.2.2.2.2.2.2.2.2.1 0
                  else bif ((a17 : Int) == 1) then
                    k0 a3 a4 a5 a6 a7 a8 0 c42.2.2.2.2.2.2.2.2.2.2.1 0
                  else bif ((a17 : Int) == 2) then
                    k0 a3 a4 a5 a6 a7 a8 0 c42.2.2.2.2.2.2.2.2.2.2.2.1 0
                  else bif ((a17 : Int) == 3) then
                    k0 a3 a4 a5 a6 a7 a8 0 c42.2.2.2.2.2.2.2.2.2.2.2.2.1 0
                  else none
                else G.state_Clone ρ a0 a1 a2 a3 a4 a5 a6 a7 a8 (none) (fun w44_0 w44_1 w44_2 =>
                  chk (decide ((0 : Int) ≤ w35_2)) <|
                  chk (decide ((w35_2 : Int) < ((w44_1 : Nat) : Int))) <|
                  bif ((a17 : Int) == 0) then
                    chk (((List.length (w44_2 : Rows)) : Nat) == w44_0) <|
                    rowN [.a, .a, .a, .a, .a, .a, .a, .a, .a, .a, .a, .a, .a] w44_2 (0 + w35_2.toNat) fun c45 =>
                    chk (((List.length ((List.set (w44_2 : Rows) (0 + w35_2.toNat) [c45.1, c45.2.1, c45.2.2.1, c45.2.2.2.1, c45.2.2.2.2.1, c45.2.2.2.2.2.1, c45.2.2.2.2.2.2.1, c45.2.2.2.2.2.2.2.1, c45.2.2.2.2.2.2.2.2.1, .i .u64 a19, c45.2.2.2.2.2.2.2.2.2.2.1, c45.2.2.2.2.2.2.2.2.2.2.2.1, c45.2.2.2.2.2.2.2.2.2.2.2.2.1]) : Rows)) : Nat) == w44_0) <|
                    k0 true true [] false false (List.take w44_1 (List.drop 0 ((List.set (w44_2 : Rows) (0 + w35_2.toNat) [c45.1, c45.2.1, c45.2.2.1, c45.2.2.2.1, c45.2.2.2.2.1, c45.2.2.2.2.2.1, c45.2.2.2.2.2.2.1, c45.2.2.2.2.2.2.2.1, c45.2.2.2.2.2.2.2.2.1, .i .u64 a19, c45.2.2.2.2.2.2.2.2.2.2.1, c45.2.2.2.2.2.2.2.2.2.2.2.1, c45.2.2.2.2.2.2.2.2.2.2.2.2.1]) : Rows))) 0 0 0
                  else bif ((a17 : Int) == 1) then
                    chk (((List.length (w44_2 : Rows)) : Nat) == w44_0) <|
                    rowN [.a, .a, .a, .a, .a, .a, .a, .a, .a, .a, .a, .a, .a] w44_2 (0 + w35_2.toNat) fun c46 =>
                    chk (((List.length ((List.set (w44_2 : Rows) (0 + w35_2.toNat) [c46.1, c46.2.1, c46.2.2.1, c46.2.2.2.1, c46.2.2.2.2.1, c46.2.2.2.2.2.1, c46.2.2.2.2.2.2.1, c46.2.2.2.2.2.2.2.1, c46.2.2.2.2.2.2.2.2.1, c46.2.2.2.2.2.2.2.2.2.1, .i .u64 a19, c46.2.2.2.2.2.2.2.2.2.2.2.1, c46.2.2.2.2.2.2.2.2.2.2.2.2.1]) : Rows)) : Nat) == w44_0) <|
                    k0 true true [] false false (List.take w44_1 (List.drop 0 ((List.set (w44_2 : Rows) (0 + w35_2.toNat) [c46.1, c46.2.1, c46.2.2.1, c46.2.2.2.1, c46.2.2.2.2.1, c46.2.2.2.2.2.1, c46.2.2.2.2.2.2.1, c46.2.2.2.2.2.2.2.1, c46.2.2.2.2.2.2.2.2.1, c46.2.2.2.2.2.2.2.2.2.1, .i .u64 a19, c46.2.2.2.2.2.2.2.2.2.2.2.1, c46.2.2.2.2.2.2.2.2.2.2.2.2.1]) : Rows))) 0 0 0
                  else bif ((a17 : Int) == 2) then
                    chk (((List.length (w44_2 : Rows)) : Nat) == w44_0) <|
                    rowN [.a, .a, .a, .a, .a, .a, .a, .a, .a, .a, .a, .a, .a] w44_2 (0 + w35_2.toNat) fun c47 =>
                    chk (((List.length ((List.set (w44_2 : Rows) (0 + w35_2.toNat) [c47.1, c47.2.1, c47.2.2.1, c47.2.2.2.1, c47.2.2.2.2.1, c47.2.2.2.2.2.1, c47.2.2.2.2.2.2.1, c47.2.2.2.2.2.2.2.1, c47.2.2.2.2.2.2.2.2.1, c47.2.2.2.2.2.2.2.2.2.1, c47.2.2.2.2.2.2.2.2.2.2.1, .i .u64 a19, c47.2.2.2.2.2.2.2.2.2.2.2.2.1]) : Rows)) : Nat) == w44_0) <|
                    k0 true true [] false false (List.take w44_1 (List.drop 0 ((List.set (w44_2 : Rows) (0 + w35_2.toNat) [c47.1, c47.2.1, c47.2.2.1, c47.2.2.2.1, c47.2.2.2.2.1, c47.2.2.2.2.2.1, c47.2.2.2.2.2.2.1, c47.2.2.2.2.2.2.2.1, c47.2.2.2.2.2.2.2.2.1, c47.2.2.2.2.2.2.2.2.2.1, c47.2.2.2.2.2.2.2.2.2.2.1, .i .u64 a19, c47.2.2.2.2.2.2.2.2.2.2.2.2.1]) : Rows))) 0 0 0
                  else bif ((a17 : Int) == 3) then
                    chk (((List.length (w44_2 : Rows)) : Nat) == w44_0) <|
                    rowN [.a, .a, .a, .a, .a, .a, .a, .a, .a, .a, .a, .a, .a] w44_2 (0 + w35_2.toNat) fun c48 =>
                    chk (((List.length ((List.set (w44_2 : Rows) (0 + w35_2.toNat) [c48.1, c48.2.1, c48.2.2.1, c48.2.2.2.1, c48.2.2.2.2.1, c48.2.2.2.2.2.1, c48.2.2.2.2.2.2.1, c48.2.2.2.2.2.2.2.1, c48.2.2.2.2.2.2.2.2.1, c48.2.2.2.2.2.2.2.2.2.1, c48.2.2.2.2.2.2.2.2.2.2.1, c48.2.2.2.2.2.2.2.2.2.2.2.1, .i .u64 a19]) : Rows)) : Nat) == w44_0) <|
                    k0 true true [] false false (List.take w44_1 (List.drop 0 ((List.set (w44_2 : Rows) (0 + w35_2.toNat) [c48.1, c48.2.1, c48.2.2.1, c48.2.2.2.1, c48.2.2.2.2.1, c48.2.2.2.2.2.1, c48.2.2.2.2.2.2.1, c48.2.2.2.2.2.2.2.1, c48.2.2.2.2.2.2.2.2.1, c48.2.2.2.2.2.2.2.2.2.1, c48.2.2.2.2.2.2.2.2.2.2.1, c48.2.2.2.2.2.2.2.2.2.2.2.1, .i .u64 a19]) : Rows))) 0 0 0
                  else none) (fun _w49_0 _w49_1 _w49_2 =>
                  none) (fun w50_0 w50_1 w50_2 w50_3 w50_4 w50_5 =>
                  chk (decide ((0 : Int) ≤ w35_2)) <|
                  chk (decide ((w35_2 : Int) < ((w50_3 : Nat) : Int))) <|
                  bif ((a17 : Int) == 0) then
                    chk (((List.length (w50_5 : Rows)) : Nat) == w50_2) <|
                    rowN [.a, .a, .a, .a, .a, .a, .a, .a, .a, .a, .a, .a, .a] w50_5 (0 + w35_2.toNat) fun c51 =>
                    chk (((List.length (w50_4 : Rows)) : Nat) == w50_0) <|
                    chk (((List.length ((List.set (w50_5 : Rows) (0 + w35_2.toNat) [c51.1, c51.2.1, c51.2.2.1, c51.2.2.2.1, c51.2.2.2.2.1, c51.2.2.2.2.2.1, c51.2.2.2.2.2.2.1, c51.2.2.2.2.2.2.2.1, c51.2.2.2.2.2.2.2.2.1, .i .u64 a19, c51.2.2.2.2.2.2.2.2.2.2.1, c51.2.2.2.2.2.2.2.2.2.2.2.1, c51.2.2.2.2.2.2.2.2.2.2.2.2.1]) : Rows)) : Nat) == w50_2) <|
                    k0 false false (List.take w50_1 (List.drop 0 (w50_4 : Rows))) false false (List.take w50_3 (List.drop 0 ((List.set (w50_5 : Rows) (0 + w35_2.toNat) [c51.1, c51.2.1, c51.2.2.1, c51.2.2.2.1, c51.2.2.2.2.1, c51.2.2.2.2.2.1, c51.2.2.2.2.2.2.1, c51.2.2.2.2.2.2.2.1, c51.2.2.2.2.2.2.2.2.1, .i .u64 a19, c51.2.2.2.2.2.2.2.2.2.2.1, c51.2.2.2.2.2.2.2.2.2.2.2.1, c51.2.2.2.2.2.2.2.2.2.2.2.2.1]) : Rows))) 0 0 0
                  else bif ((a17 : Int) == 1) then
                    chk (((List.length (w50_5 : Rows)) : Nat) == w50_2) <|
                    rowN [.a, .a, .a, .a, .a, .a, .a, .a, .a, .a, .a, .a, .a] w50_5 (0 + w35_2.toNat) fun c52 =>
                    chk (((List.length (w50_4 : Rows)) : Nat) == w50_0) <|
                    chk (((List.length ((List.set (w50_5 : Rows) (0 + w35_2.toNat) [c52.1, c52.2.1, c52.2.2.1, c52.2.2.2.1, c52.2.2.2.2.1, c52.2.2.2.2.2.1, c52.2.2.2.2.2.2.1, c52.2.2.2.2.2.2.2.1, c52.2.2.2.2.2.2.2.2.1, c52.2.2.2.2.2.2.2.2.2.1, .i .u64 a19, c52.2.2.2.2.2.2.2.2.2.2.2.1, c52.2.2.2.2.2.2.2.2.2.2.2.2.1]) : Rows)) : Nat) == w50_2) <|
                    k0 false false (List.take w50_1 (List.drop 0 (w50_4 : Rows))) false false (List.take w50_3 (List.drop 0 ((List.set (w50_5 : Rows) (0 + w35_2.toNat) [c52.1, c52.2.1, c52.2.2.1, c52.2.2.2.1, c52.2.2.2.2.1, c52.2.2.2.2.2.1, c52.2.2.2.2.2.2.1, c52.2.2.2.2.2.2.2.1, c52.2.2.2.2.2.2.2.2.1, c52.2.2.2.2.2.2.2.2.2.1, .i .u64 a19, c52.2.2.2.2.2.2.2.2.2.2.2.1, c52.2.2.2.2.2.2.2.2.2.2.2.2.1]) : Rows))) 0 0 0
                  else bif ((a17 : Int) == 2) then
                    chk (((List.length (w50_5 : Rows)) : Nat) == w50_2) <|
                    rowN [.a, .a, .a, .a, .a, .a, .a, .a, .a, .a, .a, .a, .a] w50_5 (0 + w35_2.toNat) fun c53 =>
                    chk (((List.length (w50_4 : Rows)) : Nat) == w50_0) <|
                    chk (((List.length ((List.set (w50_5 : Rows) (0 + w35_2.toNat) [c53.1, c53.2.1, c53.2.2.1, c53.2.2.2.1, c53.2.2.2.2.1, c53.2.2.2.2.2.1, c53.2.2.2.2.2.2.1, c53.2.2.2.2.2.2.2.1, c53.2.2.2.2.2.2.2.2.1, c53.2.2.2.2.2.2.2.2.2.1, c53.2.2.2.2.2.2.2.2.2.2.1, .i .u64 a19, c53.2.2.2.2.2.2.2.2.2.2.2.2.1]) : Rows)) : Nat) == w50_2) <|
                    k0 false false (List.take w50_1 (List.drop 0 (w50_4 : Rows))) false false (List.take w50_3 (List.drop 0 ((List.set (w50_5 : Rows) (0 + w35_2.toNat) [c53.1, c53.2.1, c53.2.2.1, c53.2.2.2.1, c53.2.2.2.2.1, c53.2.2.2.2.2.1, c53.2.2.2.2.2.2.1, c53.2.2.2.2.2.2.2.1, c53.2.2.2.2.2.2.2.2.1, c53.2.2.2.2.2.2.2.2.2.1, c53.2.2.2.2.2.2.2.2.2.2.1, .i .u64 a19, c53.2.2.2.2.2.2.2.2.2.2.2.2.1]) : Rows))) 0 0 0
                  else bif ((a17 : Int) == 3) then
                    chk (((List.length (w50_5 : Rows)) : Nat) == w50_2) <|
                    rowN [.a, .a, .a, .a, .a, .a, .a, .a, .a, .a, .a, .a, .a] w50_5 (0 + w35_2.toNat) fun c54 =>
                    chk (((List.length (w50_4 : Rows)) : Nat) == w50_0) <|
                    chk (((List.length ((List.set (w50_5 : Rows) (0 + w35_2.toNat) [c54.1, c54.2.1, c54.2.2.1, c54.2.2.2.1, c54.2.2.2.2.1, c54.2.2.2.2.2.1, c54.2.2.2.2.2.2.1, c54.2.2.2.2.2.2.2.1, c54.2.2.2.2.2.2.2.2.1, c54.2.2.2.2.2.2.2.2.2.1, c54.2.2.2.2.2.2.2.2.2.2.1, c54.2.2.2.2.2.2.2.2.2.2.2.1, .i .u64 a19]) : Rows)) : Nat) == w50_2) <|
                    k0 false false (List.take w50_1 (List.drop 0 (w50_4 : Rows))) false false (List.take w50_3 (List.drop 0 ((List.set (w50_5 : Rows) (0 + w35_2.toNat) [c54.1, c54.2.1, c54.2.2.1, c54.2.2.2.1, c54.2.2.2.2.1, c54.2.2.2.2.2.1, c54.2.2.2.2.2.2.1, c54.2.2.2.2.2.2.2.1, c54.2.2.2.2.2.2.2.2.1, c54.2.2.2.2.2.2.2.2.2.1, c54.2.2.2.2.2.2.2.2.2.2.1, c54.2.2.2.2.2.2.2.2.2.2.2.1, .i .u64 a19]) : Rows))) 0 0 0
                  else none)
              else k0 a3 a4 a5 a6 a7 a8 6 0 0)
          else bif ((w35_1 : Int) != 5) then
            k0 a3 a4 a5 a6 a7 a8 7 0 0
          else G.right_Within ρ 2 w35_3 (fun w55_0 =>
            bif w55_0 then
              bif ((a10 : Int) == 12) then
                rowT [.i .i64, .i .i64, .i .i64, .i .i64, .i .i64, .i .i64, .i .i64, .b, .i .u64, .i .u64, .i .u64, .i .u64, .i .u64] a8 w35_2 fun c56 =>
                bif ((a17 : Int) == 0) then
                  k0 a3 a4 a5 a6 a7 a8 0 c56.2.2.2.2.2.2.2.2.2.1 0
                else bif ((a17 : Int) == 1) then
                  k0 a3 a4 a5 a6 a7 a8 0 c56.2.2.2.2.2.2.2.2.2.2.1 0
                else bif ((a17 : Int) == 2) then
                  k0 a3 a4 a5 a6 a7 a8 0 c56.2.2.2.2.2.2.2.2.2.2.2.1 0
                else bif ((a17 : Int) == 3) then
                  k0 a3 a4 a5 a6 a7 a8 0 c56.2.2.2.2.2.2.2.2.2.2.2.2.1 0
                else none
              else G.state_Clone ρ a0 a1 a2 a3 a4 a5 a6 a7 a8 (none) (fun w58_0 w58_1 w58_2 =>
                chk (decide ((0 : Int) ≤ w35_2)) <|
                chk (decide ((w35_2 : Int) < ((w58_1 : Nat) : Int))) <|
                bif ((a17 : Int) == 0) then
                  chk (((List.length (w58_2 : Rows)) : Nat) == w58_0) <|
                  rowN [.a, .a, .a, .a, .a, .a, .a, .a, .a, .a, .a, .a, .a] w58_2 (0 + w35_2.toNat) fun c59 =>
                  chk (((List.length ((List.set (w58_2 : Rows) (0 + w35_2.toNat) [c59.1, c59.2.1, c59.2.2.1, c59.2.2.2.1, c59.2.2.2.2.1, c59.2.2.2.2.2.1, c59.2.2.2.2.2.2.1, c59.2.2.2.2.2.2.2.1, c59.2.2.2.2.2.2.2.2.1, .i .u64 a19, c59.2.2.2.2.2.2.2.2.2.2.1, c59.2.2.2.2.2.2.2.2.2.2.2.1, c59.2.2.2.2.2.2.2.2.2.2.2.2.1]) : Rows)) : Nat) == w58_0) <|
                  k0 true true [] false false (List.take w58_1 (List.drop 0 ((List.set (w58_2 : Rows) (0 + w35_2.toNat) [c59.1, c59.2.1, c59.2.2.1, c59.2.2.2.1, c59.2.2.2.2.1, c59.2.2.2.2.2.1, c59.2.2.2.2.2.2.1, c59.2.2.2.2.2.2.2.1, c59.2.2.2.2.2.2.2.2.1, .i .u64 a19, c59.2.2.2.2.2.2.2.2.2.2.1, c59.2.2.2.2.2.2.2.2.2.2.2.1, c59.2.2.2.2.2.2.2.2.2.2.2.2.1]) : Rows))) 0 0 0
                else bif ((a17 : Int) == 1) then
                  chk (((List.length (w58_2 : Rows)) : Nat) == w58_0) <|
                  rowN [.a, .a, .a, .a, .a, .a, .a, .a, .a, .a, .a, .a, .a] w58_2 (0 + w35_2.toNat) fun c60 =>
                  chk (((List.length ((List.set (w58_2 : Rows) (0 + w35_2.toNat) [c60.1, c60.2.1, c60.2.2.1, c60.2.2.2.1, c60.2.2.2.2.1, c60.2.2.2.2.2.1, c60.2.2.2.2.2.2.1, c60.2.2.2.2.2.2.2.1, c60.2.2.2.2.2.2.2.2.1, c60.2.2.2.2.2.2.2.2.2.1, .i .u64 a19, c60.2.2.2.2.2.2.2.2.2.2.2.1, c60.2.2.2.2.2.2.2.2.2.2.2.2.1]) : Rows)) : Nat) == w58_0) <|
                  k0 true true [] false false (List.take w58_1 (List.drop 0 ((List.set (w58_2 : Rows) (0 + w35_2.toNat) [c60.1, c60.2.1, c60.2.2.1, c60.2.2.2.1, c60.2.2.2.2.1, c60.2.2.2.2.2.1, c60.2.2.2.2.2.2.1, c60.2.2.2.2.2.2.2.1, c60.2.2.2.2.2.2.2.2.1, c60.2.2.2.2.2.2.2.2.2.1, .i .u64 a19, c60.2.2.2.2.2.2.2.2.2.2.2.1, c60.2.2.2.2.2.2.2.2.2.2.2.2.1]) : Rows))) 0 0 0
                else bif ((a17 : Int) == 2) then
                  chk (((List.length (w58_2 : Rows)) : Nat) == w58_0) <|
                  rowN [.a, .a, .a, .a, .a, .a, .a, .a, .a, .a, .a, .a, .a] w58_2 (0 + w35_2.toNat) fun c61 =>
                  chk (((List.length ((List.set (w58_2 : Rows) (0 + w35_2.toNat) [c61.1, c61.2.1, c61.2.2.1, c61.2.2.2.1, c61.2.2.2.2.1, c61.2.2.2.2.2.1, c61.2.2.2.2.2.2.1, c61.2.2.2.2.2.2.2.1, c61.2.2.2.2.2.2.2.2.1, c61.2.2.2.2.2.2.2.2.2.1, c61.2.2.2.2.2.2.2.2.2.2.1, .i .u64 a19, c61.2.2.2.2.2.2.2.2.2.2.2.2.1]) : Rows)) : Nat) == w58_0) <|
                  k0 true true [] false false (List.take w58_1 (List.drop 0 ((List.set (w58_2 : Rows) (0 + w35_2.toNat) [c61.1, c61.2.1, c61.2.2.1, c61.2.2.2.1, c61.2.2.2.2.1, c61.2.2.2.2.2.1, c61.2.2.2.2.2.2.1, c61.2.2.2.2.2.2.2.1, c61.2.2.2.2.2.2.2.2.1, c61.2.2.2.2.2.2.2.2.2.1, c61.2.2.2.2.2.2.2.2.2.2.1, .i .u64 a19, c61.2.2.2.2.2.2.2.2.2.2.2.2.1]) : Rows))) 0 0 0
                else bif ((a17 : Int) == 3) then
                  chk (((List.length (w58_2 : Rows)) : Nat) == w58_0) <|
                  rowN [.a, .a, .a, .a, .a, .a, .a, .a, .a, .a, .a, .a, .a] w58_2 (0 + w35_2.toNat) fun c62 =>
                  chk (((List.length ((List.set (w58_2 : Rows) (0 + w35_2.toNat) [c62.1, c62.2.1, c62.2.2.1, c62.2.2.2.1, c62.2.2.2.2.1, c62.2.2.2.2.2.1, c62.2.2.2.2.2.2.1, c62.2.2.2.2.2.2.2.1, c62.2.2.2.2.2.2.2.2.1, c62.2.2.2.2.2.2.2.2.2.1, c62.2.2.2.2.2.2.2.2.2.2.1, c62.2.2.2.2.2.2.2.2.2.2.2.1, .i .u64 a19]) : Rows)) : Nat) == w58_0) <|
                  k0 true true [] false false (List.take w58_1 (List.drop 0 ((List.set (w58_2 : Rows) (0 + w35_2.toNat) [c62.1, c62.2.1, c62.2.2.1, c62.2.2.2.1, c62.2.2.2.2.1, c62.2.2.2.2.2.1, c62.2.2.2.2.2.2.1, c62.2.2.2.2.2.2.2.1, c62.2.2.2.2.2.2.2.2.1, c62.2.2.2.2.2.2.2.2.2.1, c62.2.2.2.2.2.2.2.2.2.2.1, c62.2.2.2.2.2.2.2.2.2.2.2.1, .i .u64 a19]) : Rows))) 0 0 0
                else none) (fun _w63_0 _w63_1 _w63_2 =>
                none) (fun w64_0 w64_1 w64_2 w64_3 w64_4 w64_5 =>
                chk (decide ((0 : Int) ≤ w35_2)) <|
                chk (decide ((w35_2 : Int) < ((w64_3 : Nat) : Int))) <|
                bif ((a17 : Int) == 0) then
                  chk (((List.length (w64_5 : Rows)) : Nat) == w64_2) <|
                  rowN [.a, .a, .a, .a, .a, .a, .a, .a, .a, .a, .a, .a, .a] w64_5 (0 + w35_2.toNat) fun c65 =>
                  chk (((List.length (w64_4 : Rows)) : Nat) == w64_0) <|
                  chk (((List.length ((List.set (w64_5 : Rows) (0 + w35_2.toNat) [c65.1, c65.2.1, c65.2.2.1, c65.2.2.2.1, c65.2.2.2.2.1, c65.2.2.2.2.2.1, c65.2.2.2.2.2.2.1, c65.2.2.2.2.2.2.2.1, c65.2.2.2.2.2.2.2.2.1, .i .u64 a19, c65.2.2.2.2.2.2.2.2.2.2.1, c65.2.2.2.2.2.2.2.2.2.2.2.1, c65.2.2.2.2.2.2.2.2.2.2.2.2.1]) : Rows)) : Nat) == w64_2) <|
                  k0 false false (List.take w64_1 (List.drop 0 (w64_4 : Rows))) false false (List.take w64_3 (List.drop 0 ((List.set (w64_5 : Rows) (0 + w35_2.toNat) [c65.1, c65.2.1, c65.2.2.1, c65.2.2.2.1, c65.2.2.2.2.1, c65.2.2.2.2.2.1, c65.2.2.2.2.2.2.1, c65.2.2.2.2.2.2.2.1, c65.2.2.2.2.2.2.2.2.1, .i .u64 a19, c65.2.2.2.2.2.2.2.2.2.2.1, c65.2.2.2.2.2.2.2.2.2.2.2.1, c65.2.2.2.2.2.2.2.2.2.2.2.2.1]) : Rows))) 0 0 0
                else bif ((a17 : Int) == 1) then
                  chk (((List.length (w64_5 : Rows)) : Nat) == w64_2) <|
                  rowN [.a, .a, .a, .a, .a, .a, .a, .a, .a, .a, .a, .a, .a] w64_5 (0 + w35_2.toNat) fun c66 =>
                  chk (((List.length (w64_4 : Rows)) : Nat) == w64_0) <|
                  chk (((List.length ((List.set (w64_5 : Rows) (0 + w35_2.toNat) [c66.1, c66.2.1, c66.2.2.1, c66.2.2.2.1, c66.2.2.2.2.1, c66.2.2.2.2.2.1, c66.2.2.2.2.2.2.1, c66.2.2.2.2.2.2.2.1, c66.2.2.2.2.2.2.2.2.1, c66.2.2.2.2.2.2.2.2.2.1, .i .u64 a19, c66.2.2.2.2.2.2.2.2.2.2.2.1, c66.2.2.2.2.2.2.2.2.2.2.2.2.1]) : Rows)) : Nat) == w64_2) <|
                  k0 false false (List.take w64_1 (List.drop 0 (w64_4 : Rows))) false false (List.take w64_3 (List.drop 0 ((List.set (w64_5 : Rows) (0 + w35_2.toNat) [c66.1, c66.2.1, c66.2.2.1, c66.2.2.2.1, c66.2.2.2.2.1, c66.2.2.2.2.2.1, c66.2.2.2.2.2.2.1, c66.2.2.2.2.2.2.2.1, c66.2.2.2.2.2.2.2.2.1, c66.2.2.2.2.2.2.2.2.2.1, .i .u64 a19, c66.2.2.2.2.2.2.2.2.2.2.2.1, c66.2.2.2.2.2.2.2.2.2.2.2.2.1]) : Rows))) 0 0 0
                else bif ((a17 : Int) == 2) then
                  chk (((List.length (w64_5 : Rows)) : Nat) == w64_2) <|
                  rowN [.a, .a, .a, .a, .a, .a, .a, .a, .a, .a, .a, .a, .a] w64_5 (0 + w35_2.toNat) fun c67 =>
                  chk (((List.length (w64_4 : Rows)) : Nat) == w64_0) <|
                  chk (((List.length ((List.set (w64_5 : Rows) (0 + w35_2.toNat) [c67.1, c67.2.1, c67.2.2.1, c67.2.2.2.1, c67.2.2.2.2.1, c67.2.2.2.2.2.1, c67.2.2.2.2.2.2.1, c67.2.2.2.2.2.2.2.1, c67.2.2.2.2.2.2.2.2.1, c67.2.2.2.2.2.2.2.2.2.1, c67.2.2.2.2.2.2.2.2.2.2.1, .i .u64 a19, c67.2.2.2.2.2.2.2.2.2.2.2.2.1]) : Rows)) : Nat) == w64_2) <|
                  k0 false false (List.take w64_1 (List.drop 0 (w64_4 : Rows))) false false (List.take w64_3 (List.drop 0 ((List.set (w64_5 : Rows) (0 + w35_2.toNat) [c67.1, c67.2.1, c67.2.2.1, c67.2.2.2.1, c67.2.2.2.2.1, c67.2.2.2.2.2.1, c67.2.2.2.2.2.2.1, c67.2.2.2.2.2.2.2.1, c67.2.2.2.2.2.2.2.2.1, c67.2.2.2.2.2.2.2.2.2.1, c67.2.2.2.2.2.2.2.2.2.2.1, .i .u64 a19, c67.2.2.2.2.2.2.2.2.2.2.2.2.1]) : Rows))) 0 0 0
                else bif ((a17 : Int) == 3) then
                  chk (((List.length (w64_5 : Rows)) : Nat) == w64_2) <|
                  rowN [.a, .a, .a, .a, .a, .a, .a, .a, .a, .a, .a, .a, .a] w64_5 (0 + w35_2.toNat) fun c68 =>
                  chk (((List.length (w64_4 : Rows)) : Nat) == w64_0) <|
                  chk (((List.length ((List.set (w64_5 : Rows) (0 + w35_2.toNat) [c68.1, c68.2.1, c68.2.2.1, c68.2.2.2.1, c68.2.2.2.2.1, c68.2.2.2.2.2.1, c68.2.2.2.2.2.2.1, c68.2.2.2.2.2.2.2.1, c68.2.2.2.2.2.2.2.2.1, c68.2.2.2.2.2.2.2.2.2.1, c68.2.2.2.2.2.2.2.2.2.2.1, c68.2.2.2.2.2.2.2.2.2.2.2.1, .i .u64 a19]) : Rows)) : Nat) == w64_2) <|
                  k0 false false (List.take w64_1 (List.drop 0 (w64_4 : Rows))) false false (List.take w64_3 (List.drop 0 ((List.set (w64_5 : Rows) (0 + w35_2.toNat) [c68.1, c68.2.1, c68.2.2.1, c68.2.2.2.1, c68.2.2.2.2.1, c68.2.2.2.2.2.1, c68.2.2.2.2.2.2.1, c68.2.2.2.2.2.2.2.1, c68.2.2.2.2.2.2.2.2.1, c68.2.2.2.2.2.2.2.2.2.1, c68.2.2.2.2.2.2.2.2.2.2.1, c68.2.2.2.2.2.2.2.2.2.2.2.1, .i .u64 a19]) : Rows))) 0 0 0
                else none)
            else k0 a3 a4 a5 a6 a7 a8 6 0 0))
      else G.find_Cap ρ a0 a1 a2 a3 a4 a5 a6 a7 a8 a9 a11 a12 a13 (fun w69_0 w69_1 w69_2 w69_3 w69_4 w69_5 =>
        bif ((w69_5 : Int) != 0) then
          k0 a3 a4 a5 a6 a7 a8 w69_5 0 0
        else bif ((a10 : Int) == 13) then
          G.cap_Word ρ w69_1 w69_2 w69_3 w69_4 (fun w70_0 w70_1 =>
            bif w70_1 then
              G.state_Forest ρ a0 a1 a2 a3 a4 a5 a6 a7 a8 (fun w71_0 w71_1 w71_2 =>
                G.forest_Depth ρ w71_0 w71_1 w71_2 w69_0 (fun w72_0 =>
                  k0 a3 a4 a5 a6 a7 a8 0 w70_0 w72_0))
            else G.state_Forest ρ a0 a1 a2 a3 a4 a5 a6 a7 a8 (fun w73_0 w73_1 w73_2 =>
              G.forest_Depth ρ w73_0 w73_1 w73_2 w69_0 (fun w74_0 =>
                k0 a3 a4 a5 a6 a7 a8 0 w70_0 w74_0)))
        else bif ((a10 : Int) == 12) then
          bif ((w69_1 : Int) != 5) then
            k0 a3 a4 a5 a6 a7 a8 7 0 0
          else G.right_Within ρ 1 w69_3 (fun w75_0 =>
            bif w75_0 then
              bif ((a10 : Int) == 12) then
                rowT [.i .i64, .i .i64, .i .i64, .i .i64, .i .i64, .i .i64, .i .i64, .b, .i .u64, .i .u64, .i .u64, .i .u64, .i .u64] a8 w69_2 fun c76 =>
                bif ((a17 : Int) == 0) then
                  k0 a3 a4 a5 a6 a7 a8 0 c76.2.2.2.2.2.2.2.2.2.1 0
                else bif ((a17 : Int) == 1) then
                  k0 a3 a4 a5 a6 a7 a8 0 c76.2.2.2.2.2.2.2.2.2.2.1 0
                else bif ((a17 : Int) == 2) then
                  k0 a3 a4 a5 a6 a7 a8 0 c76.2.2.2.2.2.2.2.2.2.2.2.1 0
                else bif ((a17 : Int) == 3) then
                  k0 a3 a4 a5 a6 a7 a8 0 c76.2.2.2.2.2.2.2.2.2.2.2.2.1 0
                else none
              else G.state_Clone ρ a0 a1 a2 a3 a4 a5 a6 a7 a8 (none) (fun w78_0 w78_1 w78_2 =>
                chk (decide ((0 : Int) ≤ w69_2)) <|
                chk (decide ((w69_2 : Int) < ((w78_1 : Nat) : Int))) <|
                bif ((a17 : Int) == 0) then
                  chk (((List.length (w78_2 : Rows)) : Nat) == w78_0) <|
                  rowN [.a, .a, .a, .a, .a, .a, .a, .a, .a, .a, .a, .a, .a] w78_2 (0 + w69_2.toNat) fun c79 =>
                  chk (((List.length ((List.set (w78_2 : Rows) (0 + w69_2.toNat) [c79.1, c79.2.1, c79.2.2.1, c79.2.2.2.1, c79.2.2.2.2.1, c79.2.2.2.2.2.1, c79.2.2.2.2.2.2.1, c79.2.2.2.2.2.2.2.1, c79.2.2.2.2.2.2.2.2.1, .i .u64 a19, c79.2.2.2.2.2.2.2.2.2.2.1, c79.2.2.2.2.2.2.2.2.2.2.2.1, c79.2.2.2.2.2.2.2.2.2.2.2.2.1]) : Rows)) : Nat) == w78_0) <|
                  k0 true true [] false false (List.take w78_1 (List.drop 0 ((List.set (w78_2 : Rows) (0 + w69_2.toNat) [c79.1, c79.2.1, c79.2.2.1, c79.2.2.2.1, c79.2.2.2.2.1, c79.2.2.2.2.2.1, c79.2.2.2.2.2.2.1, c79.2.2.2.2.2.2.2.1, c79.2.2.2.2.2.2.2.2.1, .i .u64 a19, c79.2.2.2.2.2.2.2.2.2.2.1, c79.2.2.2.2.2.2.2.2.2.2.2.1, c79.2.2.2.2.2.2.2.2.2.2.2.2.1]) : Rows))) 0 0 0
                else bif ((a17 : Int) == 1) then
                  chk (((List.length (w78_2 : Rows)) : Nat) == w78_0) <|
                  rowN [.a, .a, .a, .a, .a, .a, .a, .a, .a, .a, .a, .a, .a] w78_2 (0 + w69_2.toNat) fun c80 =>
                  chk (((List.length ((List.set (w78_2 : Rows) (0 + w69_2.toNat) [c80.1, c80.2.1, c80.2.2.1, c80.2.2.2.1, c80.2.2.2.2.1, c80.2.2.2.2.2.1, c80.2.2.2.2.2.2.1, c80.2.2.2.2.2.2.2.1, c80.2.2.2.2.2.2.2.2.1, c80.2.2.2.2.2.2.2.2.2.1, .i .u64 a19, c80.2.2.2.2.2.2.2.2.2.2.2.1, c80.2.2.2.2.2.2.2.2.2.2.2.2.1]) : Rows)) : Nat) == w78_0) <|
                  k0 true true [] false false (List.take w78_1 (List.drop 0 ((List.set (w78_2 : Rows) (0 + w69_2.toNat) [c80.1, c80.2.1, c80.2.2.1, c80.2.2.2.1, c80.2.2.2.2.1, c80.2.2.2.2.2.1, c80.2.2.2.2.2.2.1, c80.2.2.2.2.2.2.2.1, c80.2.2.2.2.2.2.2.2.1, c80.2.2.2.2.2.2.2.2.2.1, .i .u64 a19, c80.2.2.2.2.2.2.2.2.2.2.2.1, c80.2.2.2.2.2.2.2.2.2.2.2.2.1]) : Rows))) 0 0 0
                else bif ((a17 : Int) == 2) then
                  chk (((List.length (w78_2 : Rows)) : Nat) == w78_0) <|
                  rowN [.a, .a, .a, .a, .a, .a, .a, .a, .a, .a, .a, .a, .a] w78_2 (0 + w69_2.toNat) fun c81 =>
                  chk (((List.length ((List.set (w78_2 : Rows) (0 + w69_2.toNat) [c81.1, c81.2.1, c81.2.2.1, c81.2.2.2.1, c81.2.2.2.2.1, c81.2.2.2.2.2.1, c81.2.2.2.2.2.2.1, c81.2.2.2.2.2.2.2.1, c81.2.2.2.2.2.2.2.2.1, c81.2.2.2.2.2.2.2.2.2.1, c81.2.2.2.2.2.2.2.2.2.2.1, .i .u64 a19, c81.2.2.2.2.2.2.2.2.2.2.2.2.1]) : Rows)) : Nat) == w78_0) <|
                  k0 true true [] false false (List.take w78_1 (List.drop 0 ((List.set (w78_2 : Rows) (0 + w69_2.toNat) [c81.1, c81.2.1, c81.2.2.1, c81.2.2.2.1, c81.2.2.2.2.1, c81.2.2.2.2.2.1, c81.2.2.2.2.2.2.1, c81.2.2.2.2.2.2.2.1, c81.2.2.2.2.2.2.2.2.1, c81.2.2.2.2.2.2.2.2.2.1, c81.2.2.2.2.2.2.2.2.2.2.1, .i .u64 a19, c81.2.2.2.2.2.2.2.2.2.2.2.2.1]) : Rows))) 0 0 0
                else bif ((a17 : Int) == 3) then
                  chk (((List.length (w78_2 : Rows)) : Nat) == w78_0) <|
                  rowN [.a, .a, .a, .a, .a, .a, .a, .a, .a, .a, .a, .a, .a] w78_2 (0 + w69_2.toNat) fun c82 =>
                  chk (((List.length ((List.set (w78_2 : Rows) (0 + w69_2.toNat) [c82.1, c82.2.1, c82.2.2.1, c82.2.2.2.1, c82.2.2.2.2.1, c82.2.2.2.2.2.1, c82.2.2.2.2.2.2.1, c82.2.2.2.2.2.2.2.1, c82.2.2.2.2.2.2.2.2.1, c82.2.2.2.2.2.2.2.2.2.1, c82.2.2.2.2.2.2.2.2.2.2.1, c82.2.2.2.2.2.2.2.2.2.2.2.1, .i .u64 a19]) : Rows)) : Nat) == w78_0) <|
                  k0 true true [] false false (List.take w78_1 (List.drop 0 ((List.set (w78_2 : Rows) (0 + w69_2.toNat) [c82.1, c82.2.1, c82.2.2.1, c82.2.2.2.1, c82.2.2.2.2.1, c82.2.2.2.2.2.1, c82.2.2.2.2.2.2.1, c82.2.2.2.2.2.2.2.1, c82.2.2.2.2.2.2.2.2.1, c82.2.2.2.2.2.2.2.2.2.1, c82.2.2.2.2.2.2.2.2.2.2.1, c82.2.2.2.2.2.2.2.2.2.2.2.1, .i .u64 a19]) : Rows))) 0 0 0
                else none) (fun _w83_0 _w83_1 _w83_2 =>
                none) (fun w84_0 w84_1 w84_2 w84_3 w84_4 w84_5 =>
                chk (decide ((0 : Int) ≤ w69_2)) <|
                chk (decide ((w69_2 : Int) < ((w84_3 : Nat) : Int))) <|
                bif ((a17 : Int) == 0) then
                  chk (((List.length (w84_5 : Rows)) : Nat) == w84_2) <|
                  rowN [.a, .a, .a, .a, .a, .a, .a, .a, .a, .a, .a, .a, .a] w84_5 (0 + w69_2.toNat) fun c85 =>
                  chk (((List.length (w84_4 : Rows)) : Nat) == w84_0) <|
                  chk (((List.length ((List.set (w84_5 : Rows) (0 + w69_2.toNat) [c85.1, c85.2.1, c85.2.2.1, c85.2.2.2.1, c85.2.2.2.2.1, c85.2.2.2.2.2.1, c85.2.2.2.2.2.2.1, c85.2.2.2.2.2.2.2.1, c85.2.2.2.2.2.2.2.2.1, .i .u64 a19, c85.2.2.2.2.2.2.2.2.2.2.1, c85.2.2.2.2.2.2.2.2.2.2.2.1, c85.2.2.2.2.2.2.2.2.2.2.2.2.1]) : Rows)) : Nat) == w84_2) <|
                  k0 false false (List.take w84_1 (List.drop 0 (w84_4 : Rows))) false false (List.take w84_3 (List.drop 0 ((List.set (w84_5 : Rows) (0 + w69_2.toNat) [c85.1, c85.2.1, c85.2.2.1, c85.2.2.2.1, c85.2.2.2.2.1, c85.2.2.2.2.2.1, c85.2.2.2.2.2.2.1, c85.2.2.2.2.2.2.2.1, c85.2.2.2.2.2.2.2.2.1, .i .u64 a19, c85.2.2.2.2.2.2.2.2.2.2.1, c85.2.2.2.2.2.2.2.2.2.2.2.1, c85.2.2.2.2.2.2.2.2.2.2.2.2.1]) : Rows))) 0 0 0
                else bif ((a17 : Int) == 1) then
                  chk (((List.length (w84_5 : Rows)) : Nat) == w84_2) <|
                  rowN [.a, .a, .a, .a, .a, .a, .a, .a, .a, .a, .a, .a, .a] w84_5 (0 + w69_2.toNat) fun c86 =>
                  chk (((List.length (w84_4 : Rows)) : Nat) == w84_0) <|
                  chk (((List.length ((List.set (w84_5 : Rows) (0 + w69_2.toNat) [c86.1, c86.2.1, c86.2.2.1, c86.2.2.2.1, c86.2.2.2.2.1, c86.2.2.2.2.2.1, c86.2.2.2.2.2.2.1, c86.2.2.2.2.2.2.2.1, c86.2.2.2.2.2.2.2.2.1, c86.2.2.2.2.2.2.2.2.2.1, .i .u64 a19, c86.2.2.2.2.2.2.2.2.2.2.2.1, c86.2.2.2.2.2.2.2.2.2.2.2.2.1]) : Rows)) : Nat) == w84_2) <|
                  k0 false false (List.take w84_1 (List.drop 0 (w84_4 : Rows))) false false (List.take w84_3 (List.drop 0 ((List.set (w84_5 : Rows) (0 + w69_2.toNat) [c86.1, c86.2.1, c86.2.2.1, c86.2.2.2.1, c86.2.2.2.2.1, c86.2.2.2.2.2.1, c86.2.2.2.2.2.2.1, c86.2.2.2.2.2.2.2.1, c86.2.2.2.2.2.2.2.2.1, c86.2.2.2.2.2.2.2.2.2.1, .i .u64 a19, c86.2.2.2.2.2.2.2.2.2.2.2.1, c86.2.2.2.2.2.2.2.2.2.2.2.2.1]) : Rows))) 0 0 0
                else bif ((a17 : Int) == 2) then
                  chk (((List.length (w84_5 : Rows)) : Nat) == w84_2) <|
                  rowN [.a, .a, .a, .a, .a, .a, .a, .a, .a, .a, .a, .a, .a] w84_5 (0 + w69_2.toNat) fun c87 =>
                  chk (((List.length (w84_4 : Rows)) : Nat) == w84_0) <|
                  chk (((List.length ((List.set (w84_5 : Rows) (0 + w69_2.toNat) [c87.1, c87.2.1, c87.2.2.1, c87.2.2.2.1, c87.2.2.2.2.1, c87.2.2.2.2.2.1, c87.2.2.2.2.2.2.1, c87.2.2.2.2.2.2.2.1, c87.2.2.2.2.2.2.2.2.1, c87.2.2.2.2.2.2.2.2.2.1, c87.2.2.2.2.2.2.2.2.2.2.1, .i .u64 a19, c87.2.2.2.2.2.2.2.2.2.2.2.2.1]) : Rows)) : Nat) == w84_2) <|
                  k0 false false (List.take w84_1 (List.drop 0 (w84_4 : Rows))) false false (List.take w84_3 (List.drop 0 ((List.set (w84_5 : Rows) (0 + w69_2.toNat) [c87.1, c87.2.1, c87.2.2.1, c87.2.2.2.1, c87.2.2.2.2.1, c87.2.2.2.2.2.1, c87.2.2.2.2.2.2.1, c87.2.2.2.2.2.2.2.1, c87.2.2.2.2.2.2.2.2.1, c87.2.2.2.2.2.2.2.2.2.1, c87.2.2.2.2.2.2.2.2.2.2.1, .i .u64 a19, c87.2.2.2.2.2.2.2.2.2.2.2.2.1]) : Rows))) 0 0 0
                else bif ((a17 : Int) == 3) then
                  chk (((List.length (w84_5 : Rows)) : Nat) == w84_2) <|
                  rowN [.a, .a, .a, .a, .a, .a, .a, .a, .a, .a, .a, .a, .a] w84_5 (0 + w69_2.toNat) fun c88 =>
                  chk (((List.length (w84_4 : Rows)) : Nat) == w84_0) <|
                  chk (((List.length ((List.set (w84_5 : Rows) (0 + w69_2.toNat) [c88.1, c88.2.1, c88.2.2.1, c88.2.2.2.1, c88.2.2.2.2.1, c88.2.2.2.2.2.1, c88.2.2.2.2.2.2.1, c88.2.2.2.2.2.2.2.1, c88.2.2.2.2.2.2.2.2.1, c88.2.2.2.2.2.2.2.2.2.1, c88.2.2.2.2.2.2.2.2.2.2.1, c88.2.2.2.2.2.2.2.2.2.2.2.1, .i .u64 a19]) : Rows)) : Nat) == w84_2) <|
                  k0 false false (List.take w84_1 (List.drop 0 (w84_4 : Rows))) false false (List.take w84_3 (List.drop 0 ((List.set (w84_5 : Rows) (0 + w69_2.toNat) [c88.1, c88.2.1, c88.2.2.1, c88.2.2.2.1, c88.2.2.2.2.1, c88.2.2.2.2.2.1, c88.2.2.2.2.2.2.1, c88.2.2.2.2.2.2.2.1, c88.2.2.2.2.2.2.2.2.1, c88.2.2.2.2.2.2.2.2.2.1, c88.2.2.2.2.2.2.2.2.2.2.1, c88.2.2.2.2.2.2.2.2.2.2.2.1, .i .u64 a19]) : Rows))) 0 0 0
                else none)
            else k0 a3 a4 a5 a6 a7 a8 6 0 0)
        else bif ((w69_1 : Int) != 5) then
          k0 a3 a4 a5 a6 a7 a8 7 0 0
        else G.right_Within ρ 2 w69_3 (fun w89_0 =>
          bif w89_0 then
            bif ((a10 : Int) == 12) then
              rowT [.i .i64, .i .i64, .i .i64, .i .i64, .i .i64, .i .i64, .i .i64, .b, .i .u64, .i .u64, .i .u64, .i .u64, .i .u64] a8 w69_2 fun c90 =>
              bif ((a17 : Int) == 0) then
                k0 a3 a4 a5 a6 a7 a8 0 c90.2.2.2.2.2.2.2.2.2.1 0
              else bif ((a17 : Int) == 1) then
                k0 a3 a4 a5 a6 a7 a8 0 c90.2.2.2.2.2.2.2.2.2.2.1 0
              else bif ((a17 : Int) == 2) then
                k0 a3 a4 a5 a6 a7 a8 0 c90.2.2.2.2.2.2.2.2.2.2.2.1 0
              else bif ((a17 : Int) == 3) then
                k0 a3 a4 a5 a6 a7 a8 0 c90.2.2.2.2.2.2.2.2.2.2.2.2.1 0
              else none
            else G.state_Clone ρ a0 a1 a2 a3 a4 a5 a6 a7 a8 (none) (fun w92_0 w92_1 w92_2 =>
              chk (decide ((0 : Int) ≤ w69_2)) <|
              chk (decide ((w69_2 : Int) < ((w92_1 : Nat) : Int))) <|
              bif ((a17 : Int) == 0) then
                chk (((List.length (w92_2 : Rows)) : Nat) == w92_0) <|
                rowN [.a, .a, .a, .a, .a, .a, .a, .a, .a, .a, .a, .a, .a] w92_2 (0 + w69_2.toNat) fun c93 =>
                chk (((List.length ((List.set (w92_2 : Rows) (0 + w69_2.toNat) [c93.1, c93.2.1, c93.2.2.1, c93.2.2.2.1, c93.2.2.2.2.1, c93.2.2.2.2.2.1, c93.2.2.2.2.2.2.1, c93.2.2.2.2.2.2.2.1, c93.2.2.2.2.2.2.2.2.1, .i .u64 a19, c93.2.2.2.2.2.2.2.2.2.2.1, c93.2.2.2.2.2.2.2.2.2.2.2.1, c93.2.2.2.2.2.2.2.2.2.2.2.2.1]) : Rows)) : Nat) == w92_0) <|
                k0 true true [] false false (List.take w92_1 (List.drop 0 ((List.set (w92_2 : Rows) (0 + w69_2.toNat) [c93.1, c93.2.1, c93.2.2.1, c93.2.2.2.1, c93.2.2.2.2.1, c93.2.2.2.2.2.1, c93.2.2.2.2.2.2.1, c93.2.2.2.2.2.2.2.1, c93.2.2.2.2.2.2.2.2.1, .i .u64 a19, c93.2.2.2.2.2.2.2.2.2.2.1, c93.2.2.2.2.2.2.2.2.2.2.2.1, c93.2.2.2.2.2.2.2.2.2.2.2.2.1]) : Rows))) 0 0 0
              else bif ((a17 : Int) == 1) then
                chk (((List.length (w92_2 : Rows)) : Nat) == w92_0) <|
                rowN [.a, .a, .a, .a, .a, .a, .a, .a, .a, .a, .a, .a, .a] w92_2 (0 + w69_2.toNat) fun c94 =>
                chk (((List.length ((List.set (w92_2 : Rows) (0 + w69_2.toNat) [c94.1, c94.2.1, c94.2.2.1, c94.2.2.2.1, c94.2.2.2.2.1, c94.2.2.2.2.2.1, c94.2.2.2.2.2.2.1, c94.2.2.2.2.2.2.2.1, c94.2.2.2.2.2.2.2.2.1, c94.2.2.2.2.2.2.2.2.2.1, .i .u64 a19, c94.2.2.2.2.2.2.2.2.2.2.2.1, c94.2.2.2.2.2.2.2.2.2.2.2.2.1]) : Rows)) : Nat) == w92_0) <|
                k0 true true [] false false (List.take w92_1 (List.drop 0 ((List.set (w92_2 : Rows) (0 + w69_2.toNat) [c94.1, c94.2.1, c94.2.2.1, c94.2.2.2.1, c94.2.2.2.2.1, c94.2.2.2.2.2.1, c94.2.2.2.2.2.2.1, c94.2.2.2.2.2.2.2.1, c94.2.2.2.2.2.2.2.2.1, c94.2.2.2.2.2.2.2.2.2.1, .i .u64 a19, c94.2.2.2.2.2.2.2.2.2.2.2.1, c94.2.2.2.2.2.2.2.2.2.2.2.2.1]) : Rows))) 0 0 0
              else bif ((a17 : Int) == 2) then
                chk (((List.length (w92_2 : Rows)) : Nat) == w92_0) <|
                rowN [.a, .a, .a, .a, .a, .a, .a, .a, .a, .a, .a, .a, .a] w92_2 (0 + w69_2.toNat) fun c95 =>
                chk (((List.length ((List.set (w92_2 : Rows) (0 + w69_2.toNat) [c95.1, c95.2.1, c95.2.2.1, c95.2.2.2.1, c95.2.2.2.2.1, c95.2.2.2.2.2.1, c95.2.2.2.2.2.2.1, c95.2.2.2.2.2.2.2.1, c95.2.2.2.2.2.2.2.2.1, c95.2.2.2.2.2.2.2.2.2.1, c95.2.2.2.2.2.2.2.2.2.2.1, .i .u64 a19, c95.2.2.2.2.2.2.2.2.2.2.2.2.1]) : Rows)) : Nat) == w92_0) <|
                k0 true true [] false false (List.take w92_1 (List.drop 0 ((List.set (w92_2 : Rows) (0 + w69_2.toNat) [c95.1, c95.2.1, c95.2.2.1, c95.2.2.2.1, c95.2.2.2.2.1, c95.2.2.2.2.2.1, c95.2.2.2.2.2.2.1, c95.2.2.2.2.2.2.2.1, c95.2.2.2.2.2.2.2.2.1, c95.2.2.2.2.2.2.2.2.2.1, c95.2.2.2.2.2.2.2.2.2.2.1, .i .u64 a19, c95.2.2.2.2.2.2.2.2.2.2.2.2.1]) : Rows))) 0 0 0
              else bif ((a17 : Int) == 3) then
                chk (((List.length (w92_2 : Rows)) : Nat) == w92_0) <|
                rowN [.a, .a, .a, .a, .a, .a, .a, .a, .a, .a, .a, .a, .a] w92_2 (0 + w69_2.toNat) fun c96 =>
                chk (((List.length ((List.set (w92_2 : Rows) (0 + w69_2.toNat) [c96.1, c96.2.1, c96.2.2.1, c96.2.2.2.1, c96.2.2.2.2.1, c96.2.2.2.2.2.1, c96.2.2.2.2.2.2.1, c96.2.2.2.2.2.2.2.1, c96.2.2.2.2.2.2.2.2.1, c96.2.2.2.2.2.2.2.2.2.1, c96.2.2.2.2.2.2.2.2.2.2.1, c96.2.2.2.2.2.2.2.2.2.2.2.1, .i .u64 a19]) : Rows)) : Nat) == w92_0) <|
                k0 true true [] false false (List.take w92_1 (List.drop 0 ((List.set (w92_2 : Rows) (0 + w69_2.toNat) [c96.1, c96.2.1, c96.2.2.1, c96.2.2.2.1, c96.2.2.2.2.1, c96.2.2.2.2.2.1, c96.2.2.2.2.2.2.1, c96.2.2.2.2.2.2.2.1, c96.2.2.2.2.2.2.2.2.1, c96.2.2.2.2.2.2.2.2.2.1, c96.2.2.2.2.2.2.2.2.2.2.1, c96.2.2.2.2.2.2.2.2.2.2.2.1, .i .u64 a19]) : Rows))) 0 0 0
              else none) (fun _w97_0 _w97_1 _w97_2 =>
              none) (fun w98_0 w98_1 w98_2 w98_3 w98_4 w98_5 =>
              chk (decide ((0 : Int) ≤ w69_2)) <|
              chk (decide ((w69_2 : Int) < ((w98_3 : Nat) : Int))) <|
              bif ((a17 : Int) == 0) then
                chk (((List.length (w98_5 : Rows)) : Nat) == w98_2) <|
                rowN [.a, .a, .a, .a, .a, .a, .a, .a, .a, .a, .a, .a, .a] w98_5 (0 + w69_2.toNat) fun c99 =>
                chk (((List.length (w98_4 : Rows)) : Nat) == w98_0) <|
                chk (((List.length ((List.set (w98_5 : Rows) (0 + w69_2.toNat) [c99.1, c99.2.1, c99.2.2.1, c99.2.2.2.1, c99.2.2.2.2.1, c99.2.2.2.2.2.1, c99.2.2.2.2.2.2.1, c99.2.2.2.2.2.2.2.1, c99.2.2.2.2.2.2.2.2.1, .i .u64 a19, c99.2.2.2.2.2.2.2.2.2.2.1, c99.2.2.2.2.2.2.2.2.2.2.2.1, c99.2.2.2.2.2.2.2.2.2.2.2.2.1]) : Rows)) : Nat) == w98_2) <|
                k0 false false (List.take w98_1 (List.drop 0 (w98_4 : Rows))) false false (List.take w98_3 (List.drop 0 ((List.set (w98_5 : Rows) (0 + w69_2.toNat) [c99.1, c99.2.1, c99.2.2.1, c99.2.2.2.1, c99.2.2.2.2.1, c99.2.2.2.2.2.1, c99.2.2.2.2.2.2.1, c99.2.2.2.2.2.2.2.1, c99.2.2.2.2.2.2.2.2.1, .i .u64 a19, c99.2.2.2.2.2.2.2.2.2.2.1, c99.2.2.2.2.2.2.2.2.2.2.2.1, c99.2.2.2.2.2.2.2.2.2.2.2.2.1]) : Rows))) 0 0 0
              else bif ((a17 : Int) == 1) then
                chk (((List.length (w98_5 : Rows)) : Nat) == w98_2) <|
                rowN [.a, .a, .a, .a, .a, .a, .a, .a, .a, .a, .a, .a, .a] w98_5 (0 + w69_2.toNat) fun c100 =>
                chk (((List.length (w98_4 : Rows)) : Nat) == w98_0) <|
                chk (((List.length ((List.set (w98_5 : Rows) (0 + w69_2.toNat) [c100.1, c100.2.1, c100.2.2.1, c100.2.2.2.1, c100.2.2.2.2.1, c100.2.2.2.2.2.1, c100.2.2.2.2.2.2.1, c100.2.2.2.2.2.2.2.1, c100.2.2.2.2.2.2.2.2.1, c100.2.2.2.2.2.2.2.2.2.1, .i .u64 a19, c100.2.2.2.2.2.2.2.2.2.2.2.1, c100.2.2.2.2.2.2.2.2.2.2.2.2.1]) : Rows)) : Nat) == w98_2) <|
                k0 false false (List.take w98_1 (List.drop 0 (w98_4 : Rows))) false false (List.take w98_3 (List.drop 0 ((List.set (w98_5 : Rows) (0 + w69_2.toNat) [c100.1, c100.2.1, c100.2.2.1, c100.2.2.2.1, c100.2.2.2.2.1, c100.2.2.2.2.2.1, c100.2.2.2.2.2.2.1, c100.2.2.2.2.2.2.2.1, c100.2.2.2.2.2.2.2.2.1, c100.2.2.2.2.2.2.2.2.2.1, .i .u64 a19, c100.2.2.2.2.2.2.2.2.2.2.2.1, c100.2.2.2.2.2.2.2.2.2.2.2.2.1]) : Rows))) 0 0 0
              else bif ((a17 : Int) == 2) then
                chk (((List.length (w98_5 : Rows)) : Nat) == w98_2) <|
                rowN [.a, .a, .a, .a, .a, .a, .a, .a, .a, .a, .a, .a, .a] w98_5 (0 + w69_2.toNat) fun c101 =>
                chk (((List.length (w98_4 : Rows)) : Nat) == w98_0) <|
                chk (((List.length ((List.set (w98_5 : Rows) (0 + w69_2.toNat) [c101.1, c101.2.1, c101.2.2.1, c101.2.2.2.1, c101.2.2.2.2.1, c101.2.2.2.2.2.1, c101.2.2.2.2.2.2.1, c101.2.2.2.2.2.2.2.1, c101.2.2.2.2.2.2.2.2.1, c101.2.2.2.2.2.2.2.2.2.1, c101.2.2.2.2.2.2.2.2.2.2.1, .i .u64 a19, c101.2.2.2.2.2.2.2.2.2.2.2.2.1]) : Rows)) : Nat) == w98_2) <|
                k0 false false (List.take w98_1 (List.drop 0 (w98_4 : Rows))) false false (List.take w98_3 (List.drop 0 ((List.set (w98_5 : Rows) (0 + w69_2.toNat) [c101.1, c101.2.1, c101.2.2.1, c101.2.2.2.1, c101.2.2.2.2.1, c101.2.2.2.2.2.1, c101.2.2.2.2.2.2.1, c101.2.2.2.2.2.2.2.1, c101.2.2.2.2.2.2.2.2.1, c101.2.2.2.2.2.2.2.2.2.1, c101.2.2.2.2.2.2.2.2.2.2.1, .i .u64 a19, c101.2.2.2.2.2.2.2.2.2.2.2.2.1]) : Rows))) 0 0 0
              else bif ((a17 : Int) == 3) then
                chk (((List.length (w98_5 : Rows)) : Nat) == w98_2) <|
                rowN [.a, .a, .a, .a, .a, .a, .a, .a, .a, .a, .a, .a, .a] w98_5 (0 + w69_2.toNat) fun c102 =>
                chk (((List.length (w98_4 : Rows)) : Nat) == w98_0) <|
                chk (((List.length ((List.set (w98_5 : Rows) (0 + w69_2.toNat) [c102.1, c102.2.1, c102.2.2.1, c102.2.2.2.1, c102.2.2.2.2.1, c102.2.2.2.2.2.1, c102.2.2.2.2.2.2.1, c102.2.2.2.2.2.2.2.1, c102.2.2.2.2.2.2.2.2.1, c102.2.2.2.2.2.2.2.2.2.1, c102.2.2.2.2.2.2.2.2.2.2.1, c102.2.2.2.2.2.2.2.2.2.2.2.1, .i .u64 a19]) : Rows)) : Nat) == w98_2) <|
                k0 false false (List.take w98_1 (List.drop 0 (w98_4 : Rows))) false false (List.take w98_3 (List.drop 0 ((List.set (w98_5 : Rows) (0 + w69_2.toNat) [c102.1, c102.2.1, c102.2.2.1, c102.2.2.2.1, c102.2.2.2.2.1, c102.2.2.2.2.2.1, c102.2.2.2.2.2.2.1, c102.2.2.2.2.2.2.2.1, c102.2.2.2.2.2.2.2.2.1, c102.2.2.2.2.2.2.2.2.2.1, c102.2.2.2.2.2.2.2.2.2.2.1, c102.2.2.2.2.2.2.2.2.2.2.2.1, .i .u64 a19]) : Rows))) 0 0 0
              else none)
          else k0 a3 a4 a5 a6 a7 a8 6 0 0))
    else k0 a3 a4 a5 a6 a7 a8 1 0 0)
noncomputable def leaf_Do_i1_g (n : Nat) : leaf_Do_i1_G := ⟨call_Good n, find_Cap n, cap_Word n, state_Forest n, forest_Depth n, right_Within n, state_Clone n⟩
noncomputable def leaf_Do_i1 (n : Nat) : leaf_Do_i1_T := fun _ρ a0 a1 a2 a3 a4 a5 a6 a7 a8 a9 a10 a11 a12 a13 a14 a15 a16 a17 a18 a19 k0 => leaf_Do_i1_s (leaf_Do_i1_g n) n a0 a1 a2 a3 a4 a5 a6 a7 a8 a9 a10 a11 a12 a13 a14 a15 a16 a17 a18 a19 k0
noncomputable def leaf_Do_i1_e (n : Nat) : EK := leaf_Do_i1_E (leaf_Do_i1 n)
def leaf_Do_i1_S (G : leaf_Do_i1_G) : CK := tabS [(20, call_Good_E G.call_Good), (21, find_Cap_E G.find_Cap), (14, cap_Word_E G.cap_Word), (31, state_Forest_E G.state_Forest), (30, forest_Depth_E G.forest_Depth), (22, right_Within_E G.right_Within), (23, state_Clone_E G.state_Clone)]
theorem leaf_Do_i1_Sok (n : Nat) : CK.OK (leaf_Do_i1_S (leaf_Do_i1_g n)) (L tab) := tabS_ok _ (List.forall_mem_cons.2 ⟨(call_Good_ok n), List.forall_mem_cons.2 ⟨(find_Cap_ok n), List.forall_mem_cons.2 ⟨(cap_Word_ok n), List.forall_mem_cons.2 ⟨(state_Forest_ok n), List.forall_mem_cons.2 ⟨(forest_Depth_ok n), List.forall_mem_cons.2 ⟨(right_Within_ok n), List.forall_mem_cons.2 ⟨(state_Clone_ok n), (fun _ h => nomatch h)⟩⟩⟩⟩⟩⟩⟩)
def leaf_Do_i1_hs : HintC := hintL [(91, [.i .i64, .i .i64, .i .i64, .i .i64, .i .i64, .i .i64, .i .i64, .b, .i .u64, .i .u64, .i .u64, .i .u64, .i .u64])]
noncomputable def leaf_Do_i1_lp (_G : leaf_Do_i1_G) (_n : Nat) : LK := tabL []
theorem leaf_Do_i1_k (G : leaf_Do_i1_G) {ρ : Type} (n : Nat) (a0 : Int) (a1 : Int) (a2 : Int) (a3 : Bool) (a4 : Bool) (a5 : Rows) (a6 : Bool) (a7 : Bool) (a8 : Rows) (a9 : Int) (a10 : Int) (a11 : Bool) (a12 : Bool) (a13 : Rows) (a14 : Bool) (a15 : Bool) (a16 : Rows) (a17 : Int) (a18 : Int) (a19 : Int) (K : Res → Option ρ) : runC (leaf_Do_i1_S G) leaf_Do_i1_hs (leaf_Do_i1_lp G n) m12 [.agg [.i .i64 a0, .i .i64 a1, .i .i64 a2, .lst a3 a4 5 a5, .lst a6 a7 13 a8], .i .i64 a9, .agg [.i .i64 a10, .lst a11 a12 1 a13, .lst a14 a15 1 a16, .i .i64 a17, .i .i64 a18, .i .u64 a19]] K = leaf_Do_i1_s G n a0 a1 a2 a3 a4 a5 a6 a7 a8 a9 a10 a11 a12 a13 a14 a15 a16 a17 a18 a19 (fun w0 w1 w2 w3 w4 w5 w6 w7 w8 => K ⟨.tup [.agg [.i .i64 a0, .i .i64 a1, .i .i64 a2, .lst w0 w1 5 w2, .lst w3 w4 13 w5], .agg [.i .i64 w6, .i .u64 w7, .i .i64 w8]], [], []⟩) := by kernel_rfl
theorem leaf_Do_i1_ok (n : Nat) : EK.OK (leaf_Do_i1_e n) 12 (L tab) := EK.shp (fun _ _ _ => rfl) fun ρ K y c e => EK.run (leaf_Do_i1_Sok n) (by kernel_rfl) (MF.LKOK.of (LK.of (l := []) (by kernel_rfl) ((fun _ h => nomatch h)))) (leaf_Do_i1_k (leaf_Do_i1_g n) n _ _ _ _ _ _ _ _ _ _ _ _ _ _ _ _ _ _ _ _ K) (by kernel_rfl) e

/-! slices.Equal[[]reeve/state.Slot,reeve/state.Slot] -/
abbrev slices_Equal_Slot_T : Type 1 := (ρ : Type) → Bool → Bool → Rows → Bool → Bool → Rows → (Bool → Option ρ) → Option ρ
def slices_Equal_Slot_E (G : slices_Equal_Slot_T) : EK := fun ρ args K => decL [.lst none none 5 none, .lst none none 5 none] args fun c => G ρ c.1.1 c.1.2.1 c.1.2.2 c.2.1.1 c.2.1.2.1 c.2.1.2.2 (fun w0 => K ⟨.b w0, [], []⟩)
structure slices_Equal_Slot_G where
  mk ::
abbrev slices_Equal_Slot_l4_V : Type := Int
noncomputable def slices_Equal_Slot_l4_s (_G : slices_Equal_Slot_G) {ρ : Type} (_n : Nat) (_p0 : Bool) (_p1 : Bool) (p2 : Rows) (_p3 : Bool) (_p4 : Bool) (p5 : Rows) (p6 : Int) (k0 : (Option ρ)) (k1 : (Option ρ)) (rec' : slices_Equal_Slot_l4_V → Option ρ) : slices_Equal_Slot_l4_V → Option ρ
  | v =>
  bif decide ((v : Int) < p6) then
    rowT [.i .i64, .i .i64, .i .i64, .i .i64, .i .i64] p2 v fun c0 =>
    rowT [.i .i64, .i .i64, .i .i64, .i .i64, .i .i64] p5 v fun c1 =>
    bif (!(((c0.1 : Int) == c1.1) && (((c0.2.1 : Int) == c1.2.1) && (((c0.2.2.1 : Int) == c1.2.2.1) && (((c0.2.2.2.1 : Int) == c1.2.2.2.1) && (((c0.2.2.2.2.1 : Int) == c1.2.2.2.2.1) && true)))))) then
      k0
    else rec' ((IntKind.wrap .i64 (v + 1)))
  else k1
noncomputable def slices_Equal_Slot_l4 (G : slices_Equal_Slot_G) {ρ : Type} (n : Nat) (p0 : Bool) (p1 : Bool) (p2 : Rows) (p3 : Bool) (p4 : Bool) (p5 : Rows) (p6 : Int) (k0 : (Option ρ)) (k1 : (Option ρ)) (v : slices_Equal_Slot_l4_V) : Option ρ := fuelN (slices_Equal_Slot_l4_s G n p0 p1 p2 p3 p4 p5 p6 k0 k1) n v
def slices_Equal_Slot_l4_enc (p0 : Bool) (p1 : Bool) (p2 : Rows) (p3 : Bool) (p4 : Bool) (p5 : Rows) (p6 : Int) : slices_Equal_Slot_l4_V → St
  | v => ⟨[(0, .lst p0 p1 5 p2), (1, .lst p3 p4 5 p5), (12, .i .i64 p6), (13, .i .i64 v)], []⟩
noncomputable def slices_Equal_Slot_s (G : slices_Equal_Slot_G) {ρ : Type} (n : Nat) (a0 : Bool) (a1 : Bool) (a2 : Rows) (a3 : Bool) (a4 : Bool) (a5 : Rows) (k0 : (Bool → Option ρ)) : Option ρ :=
  bif (((((List.length (a2 : Rows)) : Nat) : Int) : Int) != (((List.length (a5 : Rows)) : Nat) : Int)) then
    k0 false
  else slices_Equal_Slot_l4 G n a0 a1 a2 a3 a4 a5 (((List.length (a2 : Rows)) : Nat) : Int) (k0 false) (k0 true) (0)
noncomputable def slices_Equal_Slot_g (_n : Nat) : slices_Equal_Slot_G := ⟨⟩
noncomputable def slices_Equal_Slot (n : Nat) : slices_Equal_Slot_T := fun _ρ a0 a1 a2 a3 a4 a5 k0 => slices_Equal_Slot_s (slices_Equal_Slot_g n) n a0 a1 a2 a3 a4 a5 k0
noncomputable def slices_Equal_Slot_e (n : Nat) : EK := slices_Equal_Slot_E (slices_Equal_Slot n)
def slices_Equal_Slot_S (_G : slices_Equal_Slot_G) : CK := tabS []
theorem slices_Equal_Slot_Sok (n : Nat) : CK.OK (slices_Equal_Slot_S (slices_Equal_Slot_g n)) (L tab) := tabS_ok _ ((fun _ h => nomatch h))
def slices_Equal_Slot_hs : HintC := hintL [(18, [.i .i64, .i .i64, .i .i64, .i .i64, .i .i64]), (22, [.i .i64, .i .i64, .i .i64, .i .i64, .i .i64])]
def slices_Equal_Slot_c4 : Nat × List Nat × List Nat × MC := loopAt 4 m34
noncomputable def slices_Equal_Slot_l4_d (G : slices_Equal_Slot_G) (n : Nat) : Go.Rv.LE := fun _ρ h K => decSt [(0, .lst none none 5 none), (1, .lst none none 5 none), (12, .i .i64 none), (13, .i .i64 none)] [] h fun a _b => slices_Equal_Slot_l4 G n a.1.1 a.1.2.1 a.1.2.2 a.2.1.1 a.2.1.2.1 a.2.1.2.2 a.2.2.1 (K .ret ⟨[(4, .b false)], []⟩) (K (.exit 0) ⟨[(4, .u)], []⟩) (a.2.2.2.1)
noncomputable def slices_Equal_Slot_d4 (G : slices_Equal_Slot_G) (n : Nat) : Go.Rv.LE := slices_Equal_Slot_l4_d G n
noncomputable def slices_Equal_Slot_lp (G : slices_Equal_Slot_G) (n : Nat) : LK := tabL [(4, slices_Equal_Slot_d4 G n)]
theorem slices_Equal_Slot_l4_k (G : slices_Equal_Slot_G) {ρ : Type} (n : Nat) (p0 : Bool) (p1 : Bool) (p2 : Rows) (p3 : Bool) (p4 : Bool) (p5 : Rows) (p6 : Int) (K : Ex → St → Option ρ) (N : St → Option ρ) : ∀ v, roundC (slices_Equal_Slot_S G) slices_Equal_Slot_hs (slices_Equal_Slot_lp G n) slices_Equal_Slot_c4 0 N K (slices_Equal_Slot_l4_enc p0 p1 p2 p3 p4 p5 p6 v) = slices_Equal_Slot_l4_s G n p0 p1 p2 p3 p4 p5 p6 (K .ret ⟨[(4, .b false)], []⟩) (K (.exit 0) ⟨[(4, .u)], []⟩) (fun v => N (slices_Equal_Slot_l4_enc p0 p1 p2 p3 p4 p5 p6 v)) v
  | v => by kernel_rfl
theorem slices_Equal_Slot_l4_dok (n : Nat) : LE.OK (slices_Equal_Slot_l4_d (slices_Equal_Slot_g n) n) (L tab) slices_Equal_Slot_c4 := LE.shp (fun _ _ _ => rfl) fun ρ K y a b e => LE.rounds (slices_Equal_Slot_Sok n) (LK.of (l := []) (by kernel_rfl) ((fun _ h => nomatch h))) (slices_Equal_Slot_l4_k (slices_Equal_Slot_g n) n _ _ _ _ _ _ _ K) (by kernel_rfl) (by kernel_rfl) e
theorem slices_Equal_Slot_d4_ok (n : Nat) : LE.OK (slices_Equal_Slot_d4 (slices_Equal_Slot_g n) n) (L tab) slices_Equal_Slot_c4 := slices_Equal_Slot_l4_dok n
theorem slices_Equal_Slot_k (G : slices_Equal_Slot_G) {ρ : Type} (n : Nat) (a0 : Bool) (a1 : Bool) (a2 : Rows) (a3 : Bool) (a4 : Bool) (a5 : Rows) (K : Res → Option ρ) : runC (slices_Equal_Slot_S G) slices_Equal_Slot_hs (slices_Equal_Slot_lp G n) m34 [.lst a0 a1 5 a2, .lst a3 a4 5 a5] K = slices_Equal_Slot_s G n a0 a1 a2 a3 a4 a5 (fun w0 => K ⟨.b w0, [], []⟩) := by kernel_rfl
theorem slices_Equal_Slot_ok (n : Nat) : EK.OK (slices_Equal_Slot_e n) 34 (L tab) := EK.shp (fun _ _ _ => rfl) fun ρ K y c e => EK.run (slices_Equal_Slot_Sok n) (by kernel_rfl) (MF.LKOK.of (LK.of (l := [slices_Equal_Slot_c4]) (by kernel_rfl) (List.forall_mem_cons.2 ⟨LE.at (e := slices_Equal_Slot_d4 (slices_Equal_Slot_g n) n) (by kernel_rfl) (slices_Equal_Slot_d4_ok n), (fun _ h => nomatch h)⟩))) (slices_Equal_Slot_k (slices_Equal_Slot_g n) n _ _ _ _ _ _ K) (by kernel_rfl) e

/-! slices.Equal[[]reeve/thing.Thing,reeve/thing.Thing] -/
abbrev slices_Equal_Thing_T : Type 1 := (ρ : Type) → Bool → Bool → Rows → Bool → Bool → Rows → (Bool → Option ρ) → Option ρ
def slices_Equal_Thing_E (G : slices_Equal_Thing_T) : EK := fun ρ args K => decL [.lst none none 13 none, .lst none none 13 none] args fun c => G ρ c.1.1 c.1.2.1 c.1.2.2 c.2.1.1 c.2.1.2.1 c.2.1.2.2 (fun w0 => K ⟨.b w0, [], []⟩)
structure slices_Equal_Thing_G where
  mk ::
abbrev slices_Equal_Thing_l4_V : Type := Int
noncomputable def slices_Equal_Thing_l4_s (_G : slices_Equal_Thing_G) {ρ : Type} (_n : Nat) (_p0 : Bool) (_p1 : Bool) (p2 : Rows) (_p3 : Bool) (_p4 : Bool) (p5 : Rows) (p6 : Int) (k0 : (Option ρ)) (k1 : (Option ρ)) (rec' : slices_Equal_Thing_l4_V → Option ρ) : slices_Equal_Thing_l4_V → Option ρ
  | v =>
  bif decide ((v : Int) < p6) then
    rowT [.i .i64, .i .i64, .i .i64, .i .i64, .i .i64, .i .i64, .i .i64, .b, .i .u64, .i .u64, .i .u64, .i .u64, .i .u64] p2 v fun c0 =>
    rowT [.i .i64, .i .i64, .i .i64, .i .i64, .i .i64, .i .i64, .i .i64, .b, .i .u64, .i .u64, .i .u64, .i .u64, .i .u64] p5 v fun c1 =>
    bif (!(((c0.1 : Int) == c1.1) && (((c0.2.1 : Int) == c1.2.1) && (((c0.2.2.1 : Int) == c1.2.2.1) && (((c0.2.2.2.1 : Int) == c1.2.2.2.1) && (((c0.2.2.2.2.1 : Int) == c1.2.2.2.2.1) && (((c0.2.2.2.2.2.1 : Int) == c1.2.2.2.2.2.1) && (((c0.2.2.2.2.2.2.1 : Int) == c1.2.2.2.2.2.2.1) && (((c0.2.2.2.2.2.2.2.1 : Bool) == c1.2.2.2.2.2.2.2.1) && (((c0.2.2.2.2.2.2.2.2.1 : Int) == c1.2.2.2.2.2.2.2.2.1) && (((c0.2.2.2.2.2.2.2.2.2.1 : Int) == c1.2.2.2.2.2.2.2.2.2.1) && (((c0.2.2.2.2.2.2.2.2.2.2.1 : Int) == c1.2.2.2.2.2.2.2.2.2.2.1) && (((c0.2.2.2.2.2.2.2.2.2.2.2.1 : Int) == c1.2.2.2.2.2.2.2.2.2.2.2.1) && (((c0.2.2.2.2.2.2.2.2.2.2.2.2.1 : Int) == c1.2.2.2.2.2.2.2.2.2.2.2.2.1) && true)))))))))))))) then
      k0
    else rec' ((IntKind.wrap .i64 (v + 1)))
  else k1
noncomputable def slices_Equal_Thing_l4 (G : slices_Equal_Thing_G) {ρ : Type} (n : Nat) (p0 : Bool) (p1 : Bool) (p2 : Rows) (p3 : Bool) (p4 : Bool) (p5 : Rows) (p6 : Int) (k0 : (Option ρ)) (k1 : (Option ρ)) (v : slices_Equal_Thing_l4_V) : Option ρ := fuelN (slices_Equal_Thing_l4_s G n p0 p1 p2 p3 p4 p5 p6 k0 k1) n v
def slices_Equal_Thing_l4_enc (p0 : Bool) (p1 : Bool) (p2 : Rows) (p3 : Bool) (p4 : Bool) (p5 : Rows) (p6 : Int) : slices_Equal_Thing_l4_V → St
  | v => ⟨[(0, .lst p0 p1 13 p2), (1, .lst p3 p4 13 p5), (12, .i .i64 p6), (13, .i .i64 v)], []⟩
noncomputable def slices_Equal_Thing_s (G : slices_Equal_Thing_G) {ρ : Type} (n : Nat) (a0 : Bool) (a1 : Bool) (a2 : Rows) (a3 : Bool) (a4 : Bool) (a5 : Rows) (k0 : (Bool → Option ρ)) : Option ρ :=
  bif (((((List.length (a2 : Rows)) : Nat) : Int) : Int) != (((List.length (a5 : Rows)) : Nat) : Int)) then
    k0 false
  else slices_Equal_Thing_l4 G n a0 a1 a2 a3 a4 a5 (((List.length (a2 : Rows)) : Nat) : Int) (k0 false) (k0 true) (0)
noncomputable def slices_Equal_Thing_g (_n : Nat) : slices_Equal_Thing_G := ⟨⟩
noncomputable def slices_Equal_Thing (n : Nat) : slices_Equal_Thing_T := fun _ρ a0 a1 a2 a3 a4 a5 k0 => slices_Equal_Thing_s (slices_Equal_Thing_g n) n a0 a1 a2 a3 a4 a5 k0
noncomputable def slices_Equal_Thing_e (n : Nat) : EK := slices_Equal_Thing_E (slices_Equal_Thing n)
def slices_Equal_Thing_S (_G : slices_Equal_Thing_G) : CK := tabS []
theorem slices_Equal_Thing_Sok (n : Nat) : CK.OK (slices_Equal_Thing_S (slices_Equal_Thing_g n)) (L tab) := tabS_ok _ ((fun _ h => nomatch h))
def slices_Equal_Thing_hs : HintC := hintL [(18, [.i .i64, .i .i64, .i .i64, .i .i64, .i .i64, .i .i64, .i .i64, .b, .i .u64, .i .u64, .i .u64, .i .u64, .i .u64]), (22, [.i .i64, .i .i64, .i .i64, .i .i64, .i .i64, .i .i64, .i .i64, .b, .i .u64, .i .u64, .i .u64, .i .u64, .i .u64])]
def slices_Equal_Thing_c4 : Nat × List Nat × List Nat × MC := loopAt 4 m35
noncomputable def slices_Equal_Thing_l4_d (G : slices_Equal_Thing_G) (n : Nat) : Go.Rv.LE := fun _ρ h K => decSt [(0, .lst none none 13 none), (1, .lst none none 13 none), (12, .i .i64 none), (13, .i .i64 none)] [] h fun a _b => slices_Equal_Thing_l4 G n a.1.1 a.1.2.1 a.1.2.2 a.2.1.1 a.2.1.2.1 a.2.1.2.2 a.2.2.1 (K .ret ⟨[(4, .b false)], []⟩) (K (.exit 0) ⟨[(4, .u)], []⟩) (a.2.2.2.1)
noncomputable def slices_Equal_Thing_d4 (G : slices_Equal_Thing_G) (n : Nat) : Go.Rv.LE := slices_Equal_Thing_l4_d G n
noncomputable def slices_Equal_Thing_lp (G : slices_Equal_Thing_G) (n : Nat) : LK := tabL [(4, slices_Equal_Thing_d4 G n)]
theorem slices_Equal_Thing_l4_k (G : slices_Equal_Thing_G) {ρ : Type} (n : Nat) (p0 : Bool) (p1 : Bool) (p2 : Rows) (p3 : Bool) (p4 : Bool) (p5 : Rows) (p6 : Int) (K : Ex → St → Option ρ) (N : St → Option ρ) : ∀ v, roundC (slices_Equal_Thing_S G) slices_Equal_Thing_hs (slices_Equal_Thing_lp G n) slices_Equal_Thing_c4 0 N K (slices_Equal_Thing_l4_enc p0 p1 p2 p3 p4 p5 p6 v) = slices_Equal_Thing_l4_s G n p0 p1 p2 p3 p4 p5 p6 (K .ret ⟨[(4, .b false)], []⟩) (K (.exit 0) ⟨[(4, .u)], []⟩) (fun v => N (slices_Equal_Thing_l4_enc p0 p1 p2 p3 p4 p5 p6 v)) v
  | v => by kernel_rfl
theorem slices_Equal_Thing_l4_dok (n : Nat) : LE.OK (slices_Equal_Thing_l4_d (slices_Equal_Thing_g n) n) (L tab) slices_Equal_Thing_c4 := LE.shp (fun _ _ _ => rfl) fun ρ K y a b e => LE.rounds (slices_Equal_Thing_Sok n) (LK.of (l := []) (by kernel_rfl) ((fun _ h => nomatch h))) (slices_Equal_Thing_l4_k (slices_Equal_Thing_g n) n _ _ _ _ _ _ _ K) (by kernel_rfl) (by kernel_rfl) e
theorem slices_Equal_Thing_d4_ok (n : Nat) : LE.OK (slices_Equal_Thing_d4 (slices_Equal_Thing_g n) n) (L tab) slices_Equal_Thing_c4 := slices_Equal_Thing_l4_dok n
theorem slices_Equal_Thing_k (G : slices_Equal_Thing_G) {ρ : Type} (n : Nat) (a0 : Bool) (a1 : Bool) (a2 : Rows) (a3 : Bool) (a4 : Bool) (a5 : Rows) (K : Res → Option ρ) : runC (slices_Equal_Thing_S G) slices_Equal_Thing_hs (slices_Equal_Thing_lp G n) m35 [.lst a0 a1 13 a2, .lst a3 a4 13 a5] K = slices_Equal_Thing_s G n a0 a1 a2 a3 a4 a5 (fun w0 => K ⟨.b w0, [], []⟩) := by kernel_rfl
theorem slices_Equal_Thing_ok (n : Nat) : EK.OK (slices_Equal_Thing_e n) 35 (L tab) := EK.shp (fun _ _ _ => rfl) fun ρ K y c e => EK.run (slices_Equal_Thing_Sok n) (by kernel_rfl) (MF.LKOK.of (LK.of (l := [slices_Equal_Thing_c4]) (by kernel_rfl) (List.forall_mem_cons.2 ⟨LE.at (e := slices_Equal_Thing_d4 (slices_Equal_Thing_g n) n) (by kernel_rfl) (slices_Equal_Thing_d4_ok n), (fun _ h => nomatch h)⟩))) (slices_Equal_Thing_k (slices_Equal_Thing_g n) n _ _ _ _ _ _ K) (by kernel_rfl) e

/-! reeve/state.Same -/
abbrev state_Same_T : Type 1 := (ρ : Type) → Int → Int → Int → Bool → Bool → Rows → Bool → Bool → Rows → Int → Int → Int → Bool → Bool → Rows → Bool → Bool → Rows → (Bool → Option ρ) → Option ρ
def state_Same_E (G : state_Same_T) : EK := fun ρ args K => decL [.agg [.i .i64 none, .i .i64 none, .i .i64 none, .lst none none 5 none, .lst none none 13 none], .agg [.i .i64 none, .i .i64 none, .i .i64 none, .lst none none 5 none, .lst none none 13 none]] args fun c => G ρ c.1.1 c.1.2.1 c.1.2.2.1 c.1.2.2.2.1.1 c.1.2.2.2.1.2.1 c.1.2.2.2.1.2.2 c.1.2.2.2.2.1.1 c.1.2.2.2.2.1.2.1 c.1.2.2.2.2.1.2.2 c.2.1.1 c.2.1.2.1 c.2.1.2.2.1 c.2.1.2.2.2.1.1 c.2.1.2.2.2.1.2.1 c.2.1.2.2.2.1.2.2 c.2.1.2.2.2.2.1.1 c.2.1.2.2.2.2.1.2.1 c.2.1.2.2.2.2.1.2.2 (fun w0 => K ⟨.b w0, [], []⟩)
structure state_Same_G where
  mk ::
  slices_Equal_Slot : slices_Equal_Slot_T
  slices_Equal_Thing : slices_Equal_Thing_T
noncomputable def state_Same_s (G : state_Same_G) {ρ : Type} (_n : Nat) (a0 : Int) (a1 : Int) (a2 : Int) (a3 : Bool) (a4 : Bool) (a5 : Rows) (a6 : Bool) (a7 : Bool) (a8 : Rows) (a9 : Int) (a10 : Int) (a11 : Int) (a12 : Bool) (a13 : Bool) (a14 : Rows) (a15 : Bool) (a16 : Bool) (a17 : Rows) (k0 : (Bool → Option ρ)) : Option ρ :=
  bif (((a0 : Int) == a9) && (((a1 : Int) == a10) && (((a2 : Int) == a11) && true))) then
    G.slices_Equal_Slot ρ a3 a4 a5 a12 a13 a14 (fun w0_0 =>
      bif w0_0 then
        G.slices_Equal_Thing ρ a6 a7 a8 a15 a16 a17 (fun w1_0 =>
          bif w1_0 then
            k0 true
          else k0 false)
      else k0 false)
  else k0 false
noncomputable def state_Same_g (n : Nat) : state_Same_G := ⟨slices_Equal_Slot n, slices_Equal_Thing n⟩
noncomputable def state_Same (n : Nat) : state_Same_T := fun _ρ a0 a1 a2 a3 a4 a5 a6 a7 a8 a9 a10 a11 a12 a13 a14 a15 a16 a17 k0 => state_Same_s (state_Same_g n) n a0 a1 a2 a3 a4 a5 a6 a7 a8 a9 a10 a11 a12 a13 a14 a15 a16 a17 k0
noncomputable def state_Same_e (n : Nat) : EK := state_Same_E (state_Same n)
def state_Same_S (G : state_Same_G) : CK := tabS [(34, slices_Equal_Slot_E G.slices_Equal_Slot), (35, slices_Equal_Thing_E G.slices_Equal_Thing)]
theorem state_Same_Sok (n : Nat) : CK.OK (state_Same_S (state_Same_g n)) (L tab) := tabS_ok _ (List.forall_mem_cons.2 ⟨(slices_Equal_Slot_ok n), List.forall_mem_cons.2 ⟨(slices_Equal_Thing_ok n), (fun _ h => nomatch h)⟩⟩)
def state_Same_hs : HintC := hintL []
noncomputable def state_Same_lp (_G : state_Same_G) (_n : Nat) : LK := tabL []
theorem state_Same_k (G : state_Same_G) {ρ : Type} (n : Nat) (a0 : Int) (a1 : Int) (a2 : Int) (a3 : Bool) (a4 : Bool) (a5 : Rows) (a6 : Bool) (a7 : Bool) (a8 : Rows) (a9 : Int) (a10 : Int) (a11 : Int) (a12 : Bool) (a13 : Bool) (a14 : Rows) (a15 : Bool) (a16 : Bool) (a17 : Rows) (K : Res → Option ρ) : runC (state_Same_S G) state_Same_hs (state_Same_lp G n) m15 [.agg [.i .i64 a0, .i .i64 a1, .i .i64 a2, .lst a3 a4 5 a5, .lst a6 a7 13 a8], .agg [.i .i64 a9, .i .i64 a10, .i .i64 a11, .lst a12 a13 5 a14, .lst a15 a16 13 a17]] K = state_Same_s G n a0 a1 a2 a3 a4 a5 a6 a7 a8 a9 a10 a11 a12 a13 a14 a15 a16 a17 (fun w0 => K ⟨.b w0, [], []⟩) := by kernel_rfl
theorem state_Same_ok (n : Nat) : EK.OK (state_Same_e n) 15 (L tab) := EK.shp (fun _ _ _ => rfl) fun ρ K y c e => EK.run (state_Same_Sok n) (by kernel_rfl) (MF.LKOK.of (LK.of (l := []) (by kernel_rfl) ((fun _ h => nomatch h)))) (state_Same_k (state_Same_g n) n _ _ _ _ _ _ _ _ _ _ _ _ _ _ _ _ _ _ K) (by kernel_rfl) e

end Go.Rv
