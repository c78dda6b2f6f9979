/- functions as programs of ours, and their ties, part 0 -/
import Derived.Test.YtbmobnjhdealiaaTab
import Derived.KernelRfl
noncomputable section
namespace Go.Rv
abbrev geo_Plain_T : Type 1 := (ρ : Type) → (Option ρ) → Option ρ
def geo_Plain_E (G : geo_Plain_T) : EK := fun ρ args K => decL [] args fun _c => G ρ (K ⟨.agg [.i .i64 2, .i .i64 32, .i .i64 16], [], []⟩)
structure geo_Plain_G where
 mk ::
def geo_Plain_s (_G : geo_Plain_G) {ρ : Type} (_n : Nat)  (k0 : (Option ρ)) : Option ρ :=
 k0
def geo_Plain_g (_n : Nat) : geo_Plain_G := ⟨⟩
def geo_Plain (n : Nat) : geo_Plain_T := fun _ρ k0 => geo_Plain_s (geo_Plain_g n) n k0
def geo_Plain_e (n : Nat) : EK := geo_Plain_E (geo_Plain n)
def geo_Plain_S (_G : geo_Plain_G) : CK := tabS []
theorem geo_Plain_Sok (n : Nat) : CK.OK (geo_Plain_S (geo_Plain_g n)) (L tab) := tabS_ok _ ((fun _ h => nomatch h))
def geo_Plain_hs : HintC := hintL []
def geo_Plain_lp (_G : geo_Plain_G) (_n : Nat) : LK := tabL []
theorem geo_Plain_k (G : geo_Plain_G) {ρ : Type} (n : Nat)  (K : Res → Option ρ) : runC (geo_Plain_S G) geo_Plain_hs (geo_Plain_lp G n) m40 [] K = geo_Plain_s G n  (K ⟨.agg [.i .i64 2, .i .i64 32, .i .i64 16], [], []⟩) := by kernel_rfl
theorem geo_Plain_ok (n : Nat) : EK.OK (geo_Plain_e n) 40 (L tab) := EK.shp (fun _ _ _ => rfl) fun ρ K y c e => EK.run (geo_Plain_Sok n) (by kernel_rfl) (MF.LKOK.of (LK.of (l := []) (by kernel_rfl) ((fun _ h => nomatch h)))) (geo_Plain_k (geo_Plain_g n) n  K) (by kernel_rfl) e
abbrev thing_own_T : Type 1 := (ρ : Type) → Int → Int → Int → Int → Int → Int → Int → Bool → Int → Int → Int → Int → Int → (Int → Int → Int → Int → Int → Int → Int → Bool → Int → Int → Int → Int → Int → Option ρ) → Option ρ
def thing_own_E (G : thing_own_T) : EK := fun ρ args K => decL [.agg [.i .i64 none, .i .i64 none, .i .i64 none, .i .i64 none, .i .i64 none, .i .i64 none, .i .i64 none, .b none, .i .u64 none, .i .u64 none, .i .u64 none, .i .u64 none, .i .u64 none]] args fun c => G ρ c.1.1 c.1.2.1 c.1.2.2.1 c.1.2.2.2.1 c.1.2.2.2.2.1 c.1.2.2.2.2.2.1 c.1.2.2.2.2.2.2.1 c.1.2.2.2.2.2.2.2.1 c.1.2.2.2.2.2.2.2.2.1 c.1.2.2.2.2.2.2.2.2.2.1 c.1.2.2.2.2.2.2.2.2.2.2.1 c.1.2.2.2.2.2.2.2.2.2.2.2.1 c.1.2.2.2.2.2.2.2.2.2.2.2.2.1 (fun w0 w1 w2 w3 w4 w5 w6 w7 w8 w9 w10 w11 w12 => K ⟨.agg [.i .i64 w0, .i .i64 w1, .i .i64 w2, .i .i64 w3, .i .i64 w4, .i .i64 w5, .i .i64 w6, .b w7, .i .u64 w8, .i .u64 w9, .i .u64 w10, .i .u64 w11, .i .u64 w12], [], []⟩)
structure thing_own_G where
 mk ::
def thing_own_s (_G : thing_own_G) {ρ : Type} (_n : Nat) (a0 a1 : Int) (a2 a3 : Int) (a4 a5 a6 : Int) (a7 : Bool) (a8 a9 : Int) (a10 a11 a12 : Int) (k0 : (Int → Int → Int → Int → Int → Int → Int → Bool → Int → Int → Int → Int → Int → Option ρ)) : Option ρ :=
 bif ((a0 : Int) == 1) then
 k0 a0 0 0 a3 a4 0 0 false 0 0 0 0 0
 else bif ((a0 : Int) == 2) then
 k0 a0 a1 a2 0 0 0 0 false 0 0 0 0 0
 else bif ((a0 : Int) == 3) then
 bif a7 then
 k0 a0 0 0 0 0 a5 a6 true a8 0 0 0 0
 else k0 a0 0 0 0 0 0 0 false 0 0 0 0 0
 else bif ((a0 : Int) == 4) then
 k0 a0 0 0 0 0 0 0 false a8 0 0 0 0
 else bif ((a0 : Int) == 5) then
 k0 a0 0 0 0 0 0 0 false 0 a9 a10 a11 a12
 else k0 0 0 0 0 0 0 0 false 0 0 0 0 0
def thing_own_g (_n : Nat) : thing_own_G := ⟨⟩
def thing_own (n : Nat) : thing_own_T := fun _ρ a0 a1 a2 a3 a4 a5 a6 a7 a8 a9 a10 a11 a12 k0 => thing_own_s (thing_own_g n) n a0 a1 a2 a3 a4 a5 a6 a7 a8 a9 a10 a11 a12 k0
def thing_own_e (n : Nat) : EK := thing_own_E (thing_own n)
def thing_own_S (_G : thing_own_G) : CK := tabS []
theorem thing_own_Sok (n : Nat) : CK.OK (thing_own_S (thing_own_g n)) (L tab) := tabS_ok _ ((fun _ h => nomatch h))
def thing_own_hs : HintC := hintL []
def thing_own_lp (_G : thing_own_G) (_n : Nat) : LK := tabL []
theorem thing_own_k (G : thing_own_G) {ρ : Type} (n : Nat) (a0 a1 : Int) (a2 a3 : Int) (a4 a5 a6 : Int) (a7 : Bool) (a8 a9 : Int) (a10 a11 a12 : Int) (K : Res → Option ρ) : runC (thing_own_S G) thing_own_hs (thing_own_lp G n) m66 [.agg [.i .i64 a0, .i .i64 a1, .i .i64 a2, .i .i64 a3, .i .i64 a4, .i .i64 a5, .i .i64 a6, .b a7, .i .u64 a8, .i .u64 a9, .i .u64 a10, .i .u64 a11, .i .u64 a12]] K = thing_own_s G n a0 a1 a2 a3 a4 a5 a6 a7 a8 a9 a10 a11 a12 (fun w0 w1 w2 w3 w4 w5 w6 w7 w8 w9 w10 w11 w12 => K ⟨.agg [.i .i64 w0, .i .i64 w1, .i .i64 w2, .i .i64 w3, .i .i64 w4, .i .i64 w5, .i .i64 w6, .b w7, .i .u64 w8, .i .u64 w9, .i .u64 w10, .i .u64 w11, .i .u64 w12], [], []⟩) := by kernel_rfl
theorem thing_own_ok (n : Nat) : EK.OK (thing_own_e n) 66 (L tab) := EK.shp (fun _ _ _ => rfl) fun ρ K y c e => EK.run (thing_own_Sok n) (by kernel_rfl) (MF.LKOK.of (LK.of (l := []) (by kernel_rfl) ((fun _ h => nomatch h)))) (thing_own_k (thing_own_g n) n _ _ _ _ _ _ _ _ _ _ _ _ _ K) (by kernel_rfl) e
abbrev thing_in_T : Type 1 := (ρ : Type) → Int → Int → Int → (Bool → Option ρ) → Option ρ
def thing_in_E (G : thing_in_T) : EK := fun ρ args K => decL [.i .i64 none, .i .i64 none, .i .i64 none] args fun c => G ρ c.1 c.2.1 c.2.2.1 (fun w0 => K ⟨.b w0, [], []⟩)
structure thing_in_G where
 mk ::
def thing_in_s (_G : thing_in_G) {ρ : Type} (_n : Nat) (a0 a1 a2 : Int) (k0 : (Bool → Option ρ)) : Option ρ :=
 bif decide ((a0 : Int) ≥ a1) then
 bif decide ((a0 : Int) ≤ a2) then
 k0 true
 else k0 false
 else k0 false
def thing_in_g (_n : Nat) : thing_in_G := ⟨⟩
def thing_in (n : Nat) : thing_in_T := fun _ρ a0 a1 a2 k0 => thing_in_s (thing_in_g n) n a0 a1 a2 k0
def thing_in_e (n : Nat) : EK := thing_in_E (thing_in n)
def thing_in_S (_G : thing_in_G) : CK := tabS []
theorem thing_in_Sok (n : Nat) : CK.OK (thing_in_S (thing_in_g n)) (L tab) := tabS_ok _ ((fun _ h => nomatch h))
def thing_in_hs : HintC := hintL []
def thing_in_lp (_G : thing_in_G) (_n : Nat) : LK := tabL []
theorem thing_in_k (G : thing_in_G) {ρ : Type} (n : Nat) (a0 a1 a2 : Int) (K : Res → Option ρ) : runC (thing_in_S G) thing_in_hs (thing_in_lp G n) m34 [.i .i64 a0, .i .i64 a1, .i .i64 a2] K = thing_in_s G n a0 a1 a2 (fun w0 => K ⟨.b w0, [], []⟩) := by kernel_rfl
theorem thing_in_ok (n : Nat) : EK.OK (thing_in_e n) 34 (L tab) := EK.shp (fun _ _ _ => rfl) fun ρ K y c e => EK.run (thing_in_Sok n) (by kernel_rfl) (MF.LKOK.of (LK.of (l := []) (by kernel_rfl) ((fun _ h => nomatch h)))) (thing_in_k (thing_in_g n) n _ _ _ K) (by kernel_rfl) e
abbrev Qn_T : Type 1 := (ρ : Type) → Int → Int → Int → Int → Int → Int → Int → Bool → Int → Int → Int → Int → Int → (Bool → Option ρ) → Option ρ
def Qn_E (G : Qn_T) : EK := fun ρ args K => decL [.agg [.i .i64 none, .i .i64 none, .i .i64 none, .i .i64 none, .i .i64 none, .i .i64 none, .i .i64 none, .b none, .i .u64 none, .i .u64 none, .i .u64 none, .i .u64 none, .i .u64 none]] args fun c => G ρ c.1.1 c.1.2.1 c.1.2.2.1 c.1.2.2.2.1 c.1.2.2.2.2.1 c.1.2.2.2.2.2.1 c.1.2.2.2.2.2.2.1 c.1.2.2.2.2.2.2.2.1 c.1.2.2.2.2.2.2.2.2.1 c.1.2.2.2.2.2.2.2.2.2.1 c.1.2.2.2.2.2.2.2.2.2.2.1 c.1.2.2.2.2.2.2.2.2.2.2.2.1 c.1.2.2.2.2.2.2.2.2.2.2.2.2.1 (fun w0 => K ⟨.b w0, [], []⟩)
structure Qn_G where
 mk ::
 thing_own : thing_own_T
 thing_in : thing_in_T
def Qn_s (G : Qn_G) {ρ : Type} (_n : Nat) (a0 a1 : Int) (a2 a3 : Int) (a4 a5 a6 : Int) (a7 : Bool) (a8 a9 : Int) (a10 a11 a12 : Int) (k0 : (Bool → Option ρ)) : Option ρ :=
 G.thing_own ρ a0 a1 a2 a3 a4 a5 a6 a7 a8 a9 a10 a11 a12 (fun w0_0 w0_1 w0_2 w0_3 w0_4 w0_5 w0_6 w0_7 w0_8 w0_9 w0_10 w0_11 w0_12 =>
 bif (!(((w0_0 : Int) == a0) && (((w0_1 : Int) == a1) && (((w0_2 : Int) == a2) && (((w0_3 : Int) == a3) && (((w0_4 : Int) == a4) && (((w0_5 : Int) == a5) && (((w0_6 : Int) == a6) && (((w0_7 : Bool) == a7) && (((w0_8 : Int) == a8) && (((w0_9 : Int) == a9) && (((w0_10 : Int) == a10) && (((w0_11 : Int) == a11) && (((w0_12 : Int) == a12) && true)))))))))))))) then
 k0 false
 else bif ((a0 : Int) == 1) then
 G.thing_in ρ a3 1 4096 (fun w1_0 =>
 bif w1_0 then
 G.thing_in ρ a4 0 a3 (fun w2_0 =>
 bif w2_0 then
 k0 true
 else k0 false)
 else k0 false)
 else bif ((a0 : Int) == 2) then
 G.thing_in ρ a1 1 4 (fun w3_0 =>
 bif w3_0 then
 chk (decide (0 ≤ (a1 : Int))) <|
 G.thing_in ρ a2 0 (IntKind.wrap .i64 (96 - (IntKind.wrap .i64 ((1 : Int) * 2 ^ (min a1.toNat (IntKind.bits .i64)))))) (fun w4_0 =>
 bif w4_0 then
 k0 true
 else k0 false)
 else k0 false)
 else bif ((a0 : Int) == 3) then
 G.thing_in ρ a6 0 65535 (fun w5_0 =>
 bif w5_0 then
 G.thing_in ρ a5 0 96 (fun w6_0 =>
 bif w6_0 then
 k0 true
 else k0 false)
 else k0 false)
 else k0 true)
def Qn_g (n : Nat) : Qn_G := ⟨thing_own n, thing_in n⟩
def Qn (n : Nat) : Qn_T := fun _ρ a0 a1 a2 a3 a4 a5 a6 a7 a8 a9 a10 a11 a12 k0 => Qn_s (Qn_g n) n a0 a1 a2 a3 a4 a5 a6 a7 a8 a9 a10 a11 a12 k0
def Qn_e (n : Nat) : EK := Qn_E (Qn n)
def Qn_S (G : Qn_G) : CK := tabS [(66, thing_own_E G.thing_own), (34, thing_in_E G.thing_in)]
theorem Qn_Sok (n : Nat) : CK.OK (Qn_S (Qn_g n)) (L tab) := tabS_ok _ (List.forall_mem_cons.2 ⟨(thing_own_ok n), List.forall_mem_cons.2 ⟨(thing_in_ok n), (fun _ h => nomatch h)⟩⟩)
def Qn_hs : HintC := hintL []
def Qn_lp (_G : Qn_G) (_n : Nat) : LK := tabL []
theorem Qn_k (G : Qn_G) {ρ : Type} (n : Nat) (a0 a1 : Int) (a2 a3 : Int) (a4 a5 a6 : Int) (a7 : Bool) (a8 a9 : Int) (a10 a11 a12 : Int) (K : Res → Option ρ) : runC (Qn_S G) Qn_hs (Qn_lp G n) m45 [.agg [.i .i64 a0, .i .i64 a1, .i .i64 a2, .i .i64 a3, .i .i64 a4, .i .i64 a5, .i .i64 a6, .b a7, .i .u64 a8, .i .u64 a9, .i .u64 a10, .i .u64 a11, .i .u64 a12]] K = Qn_s G n a0 a1 a2 a3 a4 a5 a6 a7 a8 a9 a10 a11 a12 (fun w0 => K ⟨.b w0, [], []⟩) := by kernel_rfl
theorem Qn_ok (n : Nat) : EK.OK (Qn_e n) 45 (L tab) := EK.shp (fun _ _ _ => rfl) fun ρ K y c e => EK.run (Qn_Sok n) (by kernel_rfl) (MF.LKOK.of (LK.of (l := []) (by kernel_rfl) ((fun _ h => nomatch h)))) (Qn_k (Qn_g n) n _ _ _ _ _ _ _ _ _ _ _ _ _ K) (by kernel_rfl) e
abbrev Q0a_T : Type 1 := (ρ : Type) → Int → Int → Int → (Int → Int → Int → Int → Bool → Option ρ) → Option ρ
def Q0a_E (G : Q0a_T) : EK := fun ρ args K => decL [.i .i64 none, .i .i64 none, .i .i64 none] args fun c => G ρ c.1 c.2.1 c.2.2.1 (fun w0 w1 w2 w3 w4 => K ⟨.tup [.agg [.i .i64 w0, .i .i64 w1, .i .i64 w2, .i .i64 w3, .i .i64 0, .i .i64 0, .i .i64 0, .b false, .i .u64 0, .i .u64 0, .i .u64 0, .i .u64 0, .i .u64 0], .b w4], [], []⟩)
structure Q0a_G where
 mk ::
 Qn : Qn_T
def Q0a_s (G : Q0a_G) {ρ : Type} (_n : Nat) (a0 a1 a2 : Int) (k0 : (Int → Int → Int → Int → Bool → Option ρ)) : Option ρ :=
 bif ((a0 : Int) == 1) then
 G.Qn ρ a0 0 0 a1 0 0 0 false 0 0 0 0 0 (fun w0_0 =>
 bif w0_0 then
 k0 a0 0 0 a1 true
 else k0 0 0 0 0 false)
 else bif ((a0 : Int) == 2) then
 G.Qn ρ a0 a1 a2 0 0 0 0 false 0 0 0 0 0 (fun w1_0 =>
 bif w1_0 then
 k0 a0 a1 a2 0 true
 else k0 0 0 0 0 false)
 else bif ((a0 : Int) == 3) then
 G.Qn ρ a0 0 0 0 0 0 0 false 0 0 0 0 0 (fun w2_0 =>
 bif w2_0 then
 k0 a0 0 0 0 true
 else k0 0 0 0 0 false)
 else bif ((a0 : Int) == 4) then
 G.Qn ρ a0 0 0 0 0 0 0 false 0 0 0 0 0 (fun w3_0 =>
 bif w3_0 then
 k0 a0 0 0 0 true
 else k0 0 0 0 0 false)
 else bif ((a0 : Int) == 5) then
 G.Qn ρ a0 0 0 0 0 0 0 false 0 0 0 0 0 (fun w4_0 =>
 bif w4_0 then
 k0 a0 0 0 0 true
 else k0 0 0 0 0 false)
 else k0 0 0 0 0 false
def Q0a_g (n : Nat) : Q0a_G := ⟨Qn n⟩
def Q0a (n : Nat) : Q0a_T := fun _ρ a0 a1 a2 k0 => Q0a_s (Q0a_g n) n a0 a1 a2 k0
def Q0a_e (n : Nat) : EK := Q0a_E (Q0a n)
def Q0a_S (G : Q0a_G) : CK := tabS [(45, Qn_E G.Qn)]
theorem Q0a_Sok (n : Nat) : CK.OK (Q0a_S (Q0a_g n)) (L tab) := tabS_ok _ (List.forall_mem_cons.2 ⟨(Qn_ok n), (fun _ h => nomatch h)⟩)
def Q0a_hs : HintC := hintL []
def Q0a_lp (_G : Q0a_G) (_n : Nat) : LK := tabL []
theorem Q0a_k (G : Q0a_G) {ρ : Type} (n : Nat) (a0 a1 a2 : Int) (K : Res → Option ρ) : runC (Q0a_S G) Q0a_hs (Q0a_lp G n) m55 [.i .i64 a0, .i .i64 a1, .i .i64 a2] K = Q0a_s G n a0 a1 a2 (fun w0 w1 w2 w3 w4 => K ⟨.tup [.agg [.i .i64 w0, .i .i64 w1, .i .i64 w2, .i .i64 w3, .i .i64 0, .i .i64 0, .i .i64 0, .b false, .i .u64 0, .i .u64 0, .i .u64 0, .i .u64 0, .i .u64 0], .b w4], [], []⟩) := by kernel_rfl
theorem Q0a_ok (n : Nat) : EK.OK (Q0a_e n) 55 (L tab) := EK.shp (fun _ _ _ => rfl) fun ρ K y c e => EK.run (Q0a_Sok n) (by kernel_rfl) (MF.LKOK.of (LK.of (l := []) (by kernel_rfl) ((fun _ h => nomatch h)))) (Q0a_k (Q0a_g n) n _ _ _ K) (by kernel_rfl) e
abbrev geo_in_T : Type 1 := (ρ : Type) → Int → Int → Int → (Bool → Option ρ) → Option ρ
def geo_in_E (G : geo_in_T) : EK := fun ρ args K => decL [.i .i64 none, .i .i64 none, .i .i64 none] args fun c => G ρ c.1 c.2.1 c.2.2.1 (fun w0 => K ⟨.b w0, [], []⟩)
structure geo_in_G where
 mk ::
def geo_in_s (_G : geo_in_G) {ρ : Type} (_n : Nat) (a0 a1 a2 : Int) (k0 : (Bool → Option ρ)) : Option ρ :=
 bif decide ((a0 : Int) ≥ a1) then
 bif decide ((a0 : Int) ≤ a2) then
 k0 true
 else k0 false
 else k0 false
def geo_in_g (_n : Nat) : geo_in_G := ⟨⟩
def geo_in (n : Nat) : geo_in_T := fun _ρ a0 a1 a2 k0 => geo_in_s (geo_in_g n) n a0 a1 a2 k0
def geo_in_e (n : Nat) : EK := geo_in_E (geo_in n)
def geo_in_S (_G : geo_in_G) : CK := tabS []
theorem geo_in_Sok (n : Nat) : CK.OK (geo_in_S (geo_in_g n)) (L tab) := tabS_ok _ ((fun _ h => nomatch h))
def geo_in_hs : HintC := hintL []
def geo_in_lp (_G : geo_in_G) (_n : Nat) : LK := tabL []
theorem geo_in_k (G : geo_in_G) {ρ : Type} (n : Nat) (a0 a1 a2 : Int) (K : Res → Option ρ) : runC (geo_in_S G) geo_in_hs (geo_in_lp G n) m42 [.i .i64 a0, .i .i64 a1, .i .i64 a2] K = geo_in_s G n a0 a1 a2 (fun w0 => K ⟨.b w0, [], []⟩) := by kernel_rfl
theorem geo_in_ok (n : Nat) : EK.OK (geo_in_e n) 42 (L tab) := EK.shp (fun _ _ _ => rfl) fun ρ K y c e => EK.run (geo_in_Sok n) (by kernel_rfl) (MF.LKOK.of (LK.of (l := []) (by kernel_rfl) ((fun _ h => nomatch h)))) (geo_in_k (geo_in_g n) n _ _ _ K) (by kernel_rfl) e
abbrev Ql_T : Type 1 := (ρ : Type) → Int → Int → Int → (Bool → Option ρ) → Option ρ
def Ql_E (G : Ql_T) : EK := fun ρ args K => decL [.agg [.i .i64 none, .i .i64 none, .i .i64 none]] args fun c => G ρ c.1.1 c.1.2.1 c.1.2.2.1 (fun w0 => K ⟨.b w0, [], []⟩)
structure Ql_G where
 mk ::
 geo_in : geo_in_T
def Ql_s (G : Ql_G) {ρ : Type} (_n : Nat) (a0 a1 a2 : Int) (k0 : (Bool → Option ρ)) : Option ρ :=
 G.geo_in ρ a0 1 4 (fun w0_0 =>
 bif w0_0 then
 G.geo_in ρ a1 (IntKind.wrap .i64 (8 * a0)) 96 (fun w1_0 =>
 bif w1_0 then
 bif ((((a1 : Int).tmod 8) : Int) == 0) then
 G.geo_in ρ a2 (IntKind.wrap .i64 (a0 + 2)) 48 (fun w2_0 =>
 bif w2_0 then
 k0 true
 else k0 false)
 else k0 false
 else k0 false)
 else k0 false)
def Ql_g (n : Nat) : Ql_G := ⟨geo_in n⟩
def Ql (n : Nat) : Ql_T := fun _ρ a0 a1 a2 k0 => Ql_s (Ql_g n) n a0 a1 a2 k0
def Ql_e (n : Nat) : EK := Ql_E (Ql n)
def Ql_S (G : Ql_G) : CK := tabS [(42, geo_in_E G.geo_in)]
theorem Ql_Sok (n : Nat) : CK.OK (Ql_S (Ql_g n)) (L tab) := tabS_ok _ (List.forall_mem_cons.2 ⟨(geo_in_ok n), (fun _ h => nomatch h)⟩)
def Ql_hs : HintC := hintL []
def Ql_lp (_G : Ql_G) (_n : Nat) : LK := tabL []
theorem Ql_k (G : Ql_G) {ρ : Type} (n : Nat) (a0 a1 a2 : Int) (K : Res → Option ρ) : runC (Ql_S G) Ql_hs (Ql_lp G n) m25 [.agg [.i .i64 a0, .i .i64 a1, .i .i64 a2]] K = Ql_s G n a0 a1 a2 (fun w0 => K ⟨.b w0, [], []⟩) := by kernel_rfl
theorem Ql_ok (n : Nat) : EK.OK (Ql_e n) 25 (L tab) := EK.shp (fun _ _ _ => rfl) fun ρ K y c e => EK.run (Ql_Sok n) (by kernel_rfl) (MF.LKOK.of (LK.of (l := []) (by kernel_rfl) ((fun _ h => nomatch h)))) (Ql_k (Ql_g n) n _ _ _ K) (by kernel_rfl) e
abbrev Qp_T : Type 1 := (ρ : Type) → Int → Int → Int → Int → (Int → Option ρ) → Option ρ
def Qp_E (G : Qp_T) : EK := fun ρ args K => decL [.agg [.i .i64 none, .i .i64 none, .i .i64 none], .i .i64 none] args fun c => G ρ c.1.1 c.1.2.1 c.1.2.2.1 c.2.1 (fun w0 => K ⟨.i .i64 w0, [], []⟩)
structure Qp_G where
 mk ::
 Ql : Ql_T
 geo_in : geo_in_T
def Qp_s (G : Qp_G) {ρ : Type} (_n : Nat) (a0 a1 : Int) (a2 a3 : Int) (k0 : (Int → Option ρ)) : Option ρ :=
 G.Ql ρ a0 a1 a2 (fun w0_0 =>
 bif w0_0 then
 G.geo_in ρ a3 0 (IntKind.wrap .i64 (a0 - 1)) (fun w1_0 =>
 bif w1_0 then
 k0 (IntKind.wrap .i64 (8 * a3))
 else k0 0)
 else k0 0)
def Qp_g (n : Nat) : Qp_G := ⟨Ql n, geo_in n⟩
def Qp (n : Nat) : Qp_T := fun _ρ a0 a1 a2 a3 k0 => Qp_s (Qp_g n) n a0 a1 a2 a3 k0
def Qp_e (n : Nat) : EK := Qp_E (Qp n)
def Qp_S (G : Qp_G) : CK := tabS [(25, Ql_E G.Ql), (42, geo_in_E G.geo_in)]
theorem Qp_Sok (n : Nat) : CK.OK (Qp_S (Qp_g n)) (L tab) := tabS_ok _ (List.forall_mem_cons.2 ⟨(Ql_ok n), List.forall_mem_cons.2 ⟨(geo_in_ok n), (fun _ h => nomatch h)⟩⟩)
def Qp_hs : HintC := hintL []
def Qp_lp (_G : Qp_G) (_n : Nat) : LK := tabL []
theorem Qp_k (G : Qp_G) {ρ : Type} (n : Nat) (a0 a1 : Int) (a2 a3 : Int) (K : Res → Option ρ) : runC (Qp_S G) Qp_hs (Qp_lp G n) m46 [.agg [.i .i64 a0, .i .i64 a1, .i .i64 a2], .i .i64 a3] K = Qp_s G n a0 a1 a2 a3 (fun w0 => K ⟨.i .i64 w0, [], []⟩) := by kernel_rfl
theorem Qp_ok (n : Nat) : EK.OK (Qp_e n) 46 (L tab) := EK.shp (fun _ _ _ => rfl) fun ρ K y c e => EK.run (Qp_Sok n) (by kernel_rfl) (MF.LKOK.of (LK.of (l := []) (by kernel_rfl) ((fun _ h => nomatch h)))) (Qp_k (Qp_g n) n _ _ _ _ K) (by kernel_rfl) e
abbrev Q5_T : Type 1 := (ρ : Type) → Int → Int → Int → Int → (Int → Int → Int → Bool → Bool → Rows → Bool → Bool → Rows → Int → Option ρ) → Option ρ
def Q5_E (G : Q5_T) : EK := fun ρ args K => decL [.agg [.i .i64 none, .i .i64 none, .i .i64 none], .i .i64 none] args fun c => G ρ c.1.1 c.1.2.1 c.1.2.2.1 c.2.1 (fun w0 w1 w2 w3 w4 w5 w6 w7 w8 w9 => K ⟨.tup [.agg [.i .i64 w0, .i .i64 w1, .i .i64 w2, .lst w3 w4 5 w5, .lst w6 w7 13 w8], .i .i64 w9], [], []⟩)
structure Q5_G where
 mk ::
 Q0a : Q0a_T
 Ql : Ql_T
 Qp : Qp_T
abbrev Q5_l6_V : Type := Int × Rows
def Q5_l6_s (_G : Q5_G) {ρ : Type} (_n : Nat) (p0 _p1 : Int) (_p2 _p3 : Int) (_p4 _p5 : Int) (_p6 _p7 : Int) (_p9 : Rows) (_p10 _p11 _p12 : Int) (p13 p14 : Nat) (_p15 _p16 : Nat) (k0 : (Rows → Option ρ)) (rec' : Q5_l6_V → Option ρ) : Q5_l6_V → Option ρ
 | v =>
 bif decide ((v.1 : Int) < p0) then
 chk (decide ((0 : Int) ≤ v.1)) <|
 chk (decide ((v.1 : Int) < ((p14 : Nat) : Int))) <|
 chk (((List.length (v.2 : Rows)) : Nat) == p13) <|
 rowN [.a, .a, .a, .a, .a] v.2 (0 + v.1.toNat) fun c0 =>
 rec' ((IntKind.wrap .i64 (v.1 + 1)), (List.set (v.2 : Rows) (0 + v.1.toNat) [c0.1, c0.2.1, c0.2.2.1, c0.2.2.2.1, .i .i64 (-1)]))
 else k0 v.2
def Q5_l6 (G : Q5_G) {ρ : Type} (n : Nat) (p0 p1 : Int) (p2 p3 : Int) (p4 p5 : Int) (p6 p7 : Int) (p9 : Rows) (p10 p11 p12 : Int) (p13 p14 : Nat) (p15 p16 : Nat) (k0 : (Rows → Option ρ)) (v : Q5_l6_V) : Option ρ := fuelN (Q5_l6_s G n p0 p1 p2 p3 p4 p5 p6 p7 p9 p10 p11 p12 p13 p14 p15 p16 k0) n v
def Q5_l6_enc (p0 p1 : Int) (p2 p3 : Int) (p4 p5 : Int) (p6 p7 : Int) (p9 : Rows) (p10 p11 p12 : Int) (p13 p14 : Nat) (p15 p16 : Nat) : Q5_l6_V → St
 | v => ⟨[(2, .ptr 0 1 3 0 0), (4, .ptr 1 1 5 0 0), (6, .ptr 2 1 13 0 0), (8, .ptr 5 1 5 0 0), (36, .i .i64 p0), (37, .i .i64 v.1)], [.row 3 true false [[.i .i64 p1, .i .i64 p2, .i .i64 p3]], .row 5 true false [[.i .i64 0, .i .i64 0, .i .i64 0, .lst true true 0 [], .lst true true 0 []]], .row 13 true false [[.i .i64 p4, .i .i64 p5, .i .i64 p6, .i .i64 p7, .i .i64 0, .i .i64 0, .i .i64 0, .b false, .i .u64 0, .i .u64 0, .i .u64 0, .i .u64 0, .i .u64 0]], .row 5 true false v.2, .row 13 true false p9, .row 5 false false [[.i .i64 p10, .i .i64 p11, .i .i64 p12, .sl 3 p13 5 0 p14, .sl 4 p15 13 0 p16]]]⟩
abbrev Q5_l15_V : Type := Int × Rows × Rows
def Q5_l15_s (G : Q5_G) {ρ : Type} (_n : Nat) (p0 p1 : Int) (p2 p3 : Int) (p4 _p5 : Int) (_p6 _p7 : Int) (_p8 _p11 : Int) (_p12 _p13 : Int) (p14 p15 : Nat) (p16 p17 : Nat) (k0 : (Rows → Rows → Option ρ)) (rec' : Q5_l15_V → Option ρ) : Q5_l15_V → Option ρ
 | v =>
 bif decide ((v.1 : Int) < p1) then
 G.Qp ρ p2 p3 p4 v.1 (fun w0_0 =>
 G.Q0a ρ 2 3 w0_0 (fun w1_0 w1_1 w1_2 w1_3 w1_4 =>
 bif w1_4 then
 chk (decide ((0 : Int) ≤ (IntKind.wrap .i64 (2 + v.1)))) <|
 chk (decide (((IntKind.wrap .i64 (2 + v.1)) : Int) < ((p17 : Nat) : Int))) <|
 chk (((List.length (v.2.2 : Rows)) : Nat) == p16) <|
 rowN [.a, .a, .a, .a, .a, .a, .a, .a, .a, .a, .a, .a, .a] v.2.2 (0 + (IntKind.wrap .i64 (2 + v.1)).toNat) fun _c2 =>
 chk (decide ((0 : Int) ≤ (IntKind.wrap .i64 (w0_0 + 1)))) <|
 chk (decide (((IntKind.wrap .i64 (w0_0 + 1)) : Int) < ((p15 : Nat) : Int))) <|
 chk (((List.length (v.2.1 : Rows)) : Nat) == p14) <|
 rowN [.a, .a, .a, .a, .a] v.2.1 (0 + (IntKind.wrap .i64 (w0_0 + 1)).toNat) fun _c3 =>
 rec' ((IntKind.wrap .i64 (v.1 + 1)), (List.set (v.2.1 : Rows) (0 + (IntKind.wrap .i64 (w0_0 + 1)).toNat) [.i .i64 3, .i .i64 1, .i .i64 7, .i .i64 0, .i .i64 (IntKind.wrap .i64 (p0 + 1))]), (List.set (v.2.2 : Rows) (0 + (IntKind.wrap .i64 (2 + v.1)).toNat) [.i .i64 w1_0, .i .i64 w1_1, .i .i64 w1_2, .i .i64 w1_3, .i .i64 0, .i .i64 0, .i .i64 0, .b false, .i .u64 0, .i .u64 0, .i .u64 0, .i .u64 0, .i .u64 0]))
 else chk (decide ((0 : Int) ≤ (IntKind.wrap .i64 (2 + v.1)))) <|
 chk (decide (((IntKind.wrap .i64 (2 + v.1)) : Int) < ((p17 : Nat) : Int))) <|
 chk (((List.length (v.2.2 : Rows)) : Nat) == p16) <|
 rowN [.a, .a, .a, .a, .a, .a, .a, .a, .a, .a, .a, .a, .a] v.2.2 (0 + (IntKind.wrap .i64 (2 + v.1)).toNat) fun _c4 =>
 chk (decide ((0 : Int) ≤ (IntKind.wrap .i64 (w0_0 + 1)))) <|
 chk (decide (((IntKind.wrap .i64 (w0_0 + 1)) : Int) < ((p15 : Nat) : Int))) <|
 chk (((List.length (v.2.1 : Rows)) : Nat) == p14) <|
 rowN [.a, .a, .a, .a, .a] v.2.1 (0 + (IntKind.wrap .i64 (w0_0 + 1)).toNat) fun _c5 =>
 rec' ((IntKind.wrap .i64 (v.1 + 1)), (List.set (v.2.1 : Rows) (0 + (IntKind.wrap .i64 (w0_0 + 1)).toNat) [.i .i64 3, .i .i64 1, .i .i64 7, .i .i64 0, .i .i64 (IntKind.wrap .i64 (p0 + 1))]), (List.set (v.2.2 : Rows) (0 + (IntKind.wrap .i64 (2 + v.1)).toNat) [.i .i64 w1_0, .i .i64 w1_1, .i .i64 w1_2, .i .i64 w1_3, .i .i64 0, .i .i64 0, .i .i64 0, .b false, .i .u64 0, .i .u64 0, .i .u64 0, .i .u64 0, .i .u64 0]))))
 else k0 v.2.1 v.2.2
def Q5_l15 (G : Q5_G) {ρ : Type} (n : Nat) (p0 p1 : Int) (p2 p3 : Int) (p4 p5 : Int) (p6 p7 : Int) (p8 p11 : Int) (p12 p13 : Int) (p14 p15 : Nat) (p16 p17 : Nat) (k0 : (Rows → Rows → Option ρ)) (v : Q5_l15_V) : Option ρ := fuelN (Q5_l15_s G n p0 p1 p2 p3 p4 p5 p6 p7 p8 p11 p12 p13 p14 p15 p16 p17 k0) n v
def Q5_l15_enc (p0 p1 : Int) (p2 p3 : Int) (p4 p5 : Int) (p6 p7 : Int) (p8 p11 : Int) (p12 p13 : Int) (p14 p15 : Nat) (p16 p17 : Nat) : Q5_l15_V → St
 | v => ⟨[(2, .ptr 0 1 3 0 0), (4, .ptr 1 1 5 0 0), (8, .ptr 5 1 5 0 0), (10, .i .i64 p0), (66, .i .i64 p1), (67, .i .i64 v.1)], [.row 3 true false [[.i .i64 p2, .i .i64 p3, .i .i64 p4]], .row 5 true false [[.i .i64 0, .i .i64 0, .i .i64 0, .lst true true 0 [], .lst true true 0 []]], .row 13 true false [[.i .i64 p5, .i .i64 p6, .i .i64 p7, .i .i64 p8, .i .i64 0, .i .i64 0, .i .i64 0, .b false, .i .u64 0, .i .u64 0, .i .u64 0, .i .u64 0, .i .u64 0]], .row 5 true false v.2.1, .row 13 true false v.2.2, .row 5 false false [[.i .i64 p11, .i .i64 p12, .i .i64 p13, .sl 3 p14 5 0 p15, .sl 4 p16 13 0 p17]]]⟩
def Q5_s (G : Q5_G) {ρ : Type} (n : Nat) (a0 a1 : Int) (a2 a3 : Int) (k0 : (Int → Int → Int → Bool → Bool → Rows → Bool → Bool → Rows → Int → Option ρ)) : Option ρ :=
 G.Q0a ρ 1 a3 0 (fun w0_0 w0_1 w0_2 w0_3 w0_4 =>
 bif w0_4 then
 G.Ql ρ a0 a1 a2 (fun w1_0 =>
 bif w1_0 then
 chk (decide ((0 : Int) ≤ a1)) <|
 chk (decide ((a1 : Int) ≤ a1)) <|
 chk (decide ((a1 : Int) ≤ most)) <|
 chk (decide ((0 : Int) ≤ a2)) <|
 chk (decide ((a2 : Int) ≤ a2)) <|
 chk (decide ((a2 : Int) ≤ most)) <|
 Q5_l6 G n ((a1.toNat : Nat) : Int) a0 a1 a2 w0_0 w0_1 w0_2 w0_3 (List.replicate a2.toNat ([.i .i64 0, .i .i64 0, .i .i64 0, .i .i64 0, .i .i64 0, .i .i64 0, .i .i64 0, .b false, .i .u64 0, .i .u64 0, .i .u64 0, .i .u64 0, .i .u64 0] : List AV)) a0 a1 a2 a1.toNat a1.toNat a2.toNat a2.toNat (fun w2_0 =>
 chk (decide ((0 : Int) < ((a2.toNat : Nat) : Int))) <|
 chk (((List.length ((List.replicate a2.toNat ([.i .i64 0, .i .i64 0, .i .i64 0, .i .i64 0, .i .i64 0, .i .i64 0, .i .i64 0, .b false, .i .u64 0, .i .u64 0, .i .u64 0, .i .u64 0, .i .u64 0] : List AV)) : Rows)) : Nat) == a2.toNat) <|
 rowN [.a, .a, .a, .a, .a, .a, .a, .a, .a, .a, .a, .a, .a] (List.replicate a2.toNat ([.i .i64 0, .i .i64 0, .i .i64 0, .i .i64 0, .i .i64 0, .i .i64 0, .i .i64 0, .b false, .i .u64 0, .i .u64 0, .i .u64 0, .i .u64 0, .i .u64 0] : List AV)) 0 fun _c3 =>
 G.Q0a ρ 3 0 0 (fun w4_0 w4_1 w4_2 w4_3 w4_4 =>
 bif w4_4 then
 chk (decide ((1 : Int) < ((a2.toNat : Nat) : Int))) <|
 chk (((List.length ((List.set ((List.replicate a2.toNat ([.i .i64 0, .i .i64 0, .i .i64 0, .i .i64 0, .i .i64 0, .i .i64 0, .i .i64 0, .b false, .i .u64 0, .i .u64 0, .i .u64 0, .i .u64 0, .i .u64 0] : List AV)) : Rows) 0 [.i .i64 w0_0, .i .i64 w0_1, .i .i64 w0_2, .i .i64 w0_3, .i .i64 0, .i .i64 0, .i .i64 0, .b false, .i .u64 0, .i .u64 0, .i .u64 0, .i .u64 0, .i .u64 0]) : Rows)) : Nat) == a2.toNat) <|
 rowN [.a, .a, .a, .a, .a, .a, .a, .a, .a, .a, .a, .a, .a] (List.set ((List.replicate a2.toNat ([.i .i64 0, .i .i64 0, .i .i64 0, .i .i64 0, .i .i64 0, .i .i64 0, .i .i64 0, .b false, .i .u64 0, .i .u64 0, .i .u64 0, .i .u64 0, .i .u64 0] : List AV)) : Rows) 0 [.i .i64 w0_0, .i .i64 w0_1, .i .i64 w0_2, .i .i64 w0_3, .i .i64 0, .i .i64 0, .i .i64 0, .b false, .i .u64 0, .i .u64 0, .i .u64 0, .i .u64 0, .i .u64 0]) 1 fun _c5 =>
 G.Qp ρ a0 a1 a2 0 (fun w6_0 =>
 chk (decide ((0 : Int) ≤ w6_0)) <|
 chk (decide ((w6_0 : Int) < ((a1.toNat : Nat) : Int))) <|
 chk (((List.length (w2_0 : Rows)) : Nat) == a1.toNat) <|
 rowN [.a, .a, .a, .a, .a] w2_0 (0 + w6_0.toNat) fun c7 =>
 Q5_l15 G n w6_0 a0 a0 a1 a2 w0_0 w0_1 w0_2 w0_3 a0 a1 a2 a1.toNat a1.toNat a2.toNat a2.toNat (fun w8_0 w8_1 =>
 chk (decide ((0 : Int) ≤ (IntKind.wrap .i64 (w6_0 + 1)))) <|
 chk (decide (((IntKind.wrap .i64 (w6_0 + 1)) : Int) < ((a1.toNat : Nat) : Int))) <|
 chk (((List.length (w8_0 : Rows)) : Nat) == a1.toNat) <|
 rowN [.a, .a, .a, .a, .a] w8_0 (0 + (IntKind.wrap .i64 (w6_0 + 1)).toNat) fun c9 =>
 chk (((List.length ((List.set (w8_0 : Rows) (0 + (IntKind.wrap .i64 (w6_0 + 1)).toNat) [c9.1, c9.2.1, c9.2.2.1, c9.2.2.2.1, .i .i64 (-1)]) : Rows)) : Nat) == a1.toNat) <|
 chk (((List.length (w8_1 : Rows)) : Nat) == a2.toNat) <|
 k0 a0 a1 a2 false false (List.take a1.toNat (List.drop 0 ((List.set (w8_0 : Rows) (0 + (IntKind.wrap .i64 (w6_0 + 1)).toNat) [c9.1, c9.2.1, c9.2.2.1, c9.2.2.2.1, .i .i64 (-1)]) : Rows))) false false (List.take a2.toNat (List.drop 0 (w8_1 : Rows))) 0) (0, (List.set (w2_0 : Rows) (0 + w6_0.toNat) [.i .i64 1, .i .i64 0, .i .i64 7, .i .i64 0, c7.2.2.2.2.1]), (List.set ((List.set ((List.replicate a2.toNat ([.i .i64 0, .i .i64 0, .i .i64 0, .i .i64 0, .i .i64 0, .i .i64 0, .i .i64 0, .b false, .i .u64 0, .i .u64 0, .i .u64 0, .i .u64 0, .i .u64 0] : List AV)) : Rows) 0 [.i .i64 w0_0, .i .i64 w0_1, .i .i64 w0_2, .i .i64 w0_3, .i .i64 0, .i .i64 0, .i .i64 0, .b false, .i .u64 0, .i .u64 0, .i .u64 0, .i .u64 0, .i .u64 0]) : Rows) 1 [.i .i64 w4_0, .i .i64 w4_1, .i .i64 w4_2, .i .i64 w4_3, .i .i64 0, .i .i64 0, .i .i64 0, .b false, .i .u64 0, .i .u64 0, .i .u64 0, .i .u64 0, .i .u64 0])))
 else chk (decide ((1 : Int) < ((a2.toNat : Nat) : Int))) <|
 chk (((List.length ((List.set ((List.replicate a2.toNat ([.i .i64 0, .i .i64 0, .i .i64 0, .i .i64 0, .i .i64 0, .i .i64 0, .i .i64 0, .b false, .i .u64 0, .i .u64 0, .i .u64 0, .i .u64 0, .i .u64 0] : List AV)) : Rows) 0 [.i .i64 w0_0, .i .i64 w0_1, .i .i64 w0_2, .i .i64 w0_3, .i .i64 0, .i .i64 0, .i .i64 0, .b false, .i .u64 0, .i .u64 0, .i .u64 0, .i .u64 0, .i .u64 0]) : Rows)) : Nat) == a2.toNat) <|
 rowN [.a, .a, .a, .a, .a, .a, .a, .a, .a, .a, .a, .a, .a] (List.set ((List.replicate a2.toNat ([.i .i64 0, .i .i64 0, .i .i64 0, .i .i64 0, .i .i64 0, .i .i64 0, .i .i64 0, .b false, .i .u64 0, .i .u64 0, .i .u64 0, .i .u64 0, .i .u64 0] : List AV)) : Rows) 0 [.i .i64 w0_0, .i .i64 w0_1, .i .i64 w0_2, .i .i64 w0_3, .i .i64 0, .i .i64 0, .i .i64 0, .b false, .i .u64 0, .i .u64 0, .i .u64 0, .i .u64 0, .i .u64 0]) 1 fun _c10 =>
 G.Qp ρ a0 a1 a2 0 (fun w11_0 =>
 chk (decide ((0 : Int) ≤ w11_0)) <|
 chk (decide ((w11_0 : Int) < ((a1.toNat : Nat) : Int))) <|
 chk (((List.length (w2_0 : Rows)) : Nat) == a1.toNat) <|
 rowN [.a, .a, .a, .a, .a] w2_0 (0 + w11_0.toNat) fun c12 =>
 Q5_l15 G n w11_0 a0 a0 a1 a2 w0_0 w0_1 w0_2 w0_3 a0 a1 a2 a1.toNat a1.toNat a2.toNat a2.toNat (fun w13_0 w13_1 =>
 chk (decide ((0 : Int) ≤ (IntKind.wrap .i64 (w11_0 + 1)))) <|
 chk (decide (((IntKind.wrap .i64 (w11_0 + 1)) : Int) < ((a1.toNat : Nat) : Int))) <|
 chk (((List.length (w13_0 : Rows)) : Nat) == a1.toNat) <|
 rowN [.a, .a, .a, .a, .a] w13_0 (0 + (IntKind.wrap .i64 (w11_0 + 1)).toNat) fun c14 =>
 chk (((List.length ((List.set (w13_0 : Rows) (0 + (IntKind.wrap .i64 (w11_0 + 1)).toNat) [c14.1, c14.2.1, c14.2.2.1, c14.2.2.2.1, .i .i64 (-1)]) : Rows)) : Nat) == a1.toNat) <|
 chk (((List.length (w13_1 : Rows)) : Nat) == a2.toNat) <|
 k0 a0 a1 a2 false false (List.take a1.toNat (List.drop 0 ((List.set (w13_0 : Rows) (0 + (IntKind.wrap .i64 (w11_0 + 1)).toNat) [c14.1, c14.2.1, c14.2.2.1, c14.2.2.2.1, .i .i64 (-1)]) : Rows))) false false (List.take a2.toNat (List.drop 0 (w13_1 : Rows))) 0) (0, (List.set (w2_0 : Rows) (0 + w11_0.toNat) [.i .i64 1, .i .i64 0, .i .i64 7, .i .i64 0, c12.2.2.2.2.1]), (List.set ((List.set ((List.replicate a2.toNat ([.i .i64 0, .i .i64 0, .i .i64 0, .i .i64 0, .i .i64 0, .i .i64 0, .i .i64 0, .b false, .i .u64 0, .i .u64 0, .i .u64 0, .i .u64 0, .i .u64 0] : List AV)) : Rows) 0 [.i .i64 w0_0, .i .i64 w0_1, .i .i64 w0_2, .i .i64 w0_3, .i .i64 0, .i .i64 0, .i .i64 0, .b false, .i .u64 0, .i .u64 0, .i .u64 0, .i .u64 0, .i .u64 0]) : Rows) 1 [.i .i64 w4_0, .i .i64 w4_1, .i .i64 w4_2, .i .i64 w4_3, .i .i64 0, .i .i64 0, .i .i64 0, .b false, .i .u64 0, .i .u64 0, .i .u64 0, .i .u64 0, .i .u64 0]))))) (0, (List.replicate a1.toNat ([.i .i64 0, .i .i64 0, .i .i64 0, .i .i64 0, .i .i64 0] : List AV)))
 else k0 0 0 0 true true [] true true [] 1)
 else G.Ql ρ a0 a1 a2 (fun w15_0 =>
 bif w15_0 then
 k0 0 0 0 true true [] true true [] 1
 else k0 0 0 0 true true [] true true [] 1))
def Q5_g (n : Nat) : Q5_G := ⟨Q0a n, Ql n, Qp n⟩
def Q5 (n : Nat) : Q5_T := fun _ρ a0 a1 a2 a3 k0 => Q5_s (Q5_g n) n a0 a1 a2 a3 k0
def Q5_e (n : Nat) : EK := Q5_E (Q5 n)
def Q5_S (G : Q5_G) : CK := tabS [(55, Q0a_E G.Q0a), (25, Ql_E G.Ql), (46, Qp_E G.Qp)]
theorem Q5_Sok (n : Nat) : CK.OK (Q5_S (Q5_g n)) (L tab) := tabS_ok _ (List.forall_mem_cons.2 ⟨(Q0a_ok n), List.forall_mem_cons.2 ⟨(Ql_ok n), List.forall_mem_cons.2 ⟨(Qp_ok n), (fun _ h => nomatch h)⟩⟩⟩)
def Q5_hs : HintC := hintL []
def Q5_c6 : Nat × List Nat × List Nat × MC := loopAt 6 m39
def Q5_l6_d (G : Q5_G) (n : Nat) : Go.Rv.LE := fun _ρ h K => decSt [(2, .ptr 0 3 0 (some 1) (some 0)), (4, .ptr 1 5 0 (some 1) (some 0)), (6, .ptr 2 13 0 (some 1) (some 0)), (8, .ptr 5 5 0 (some 1) (some 0)), (36, .i .i64 none), (37, .i .i64 none)] [.row 3 true false (some [[.i .i64 none, .i .i64 none, .i .i64 none]]), .row 5 true false (some [[.i .i64 (some 0), .i .i64 (some 0), .i .i64 (some 0), .lst (some true) (some true) 0 (some []), .lst (some true) (some true) 0 (some [])]]), .row 13 true false (some [[.i .i64 none, .i .i64 none, .i .i64 none, .i .i64 none, .i .i64 (some 0), .i .i64 (some 0), .i .i64 (some 0), .b (some false), .i .u64 (some 0), .i .u64 (some 0), .i .u64 (some 0), .i .u64 (some 0), .i .u64 (some 0)]]), .row 5 true false none, .row 13 true false none, .row 5 false false (some [[.i .i64 none, .i .i64 none, .i .i64 none, .sl 3 5 none (some 0) none, .sl 4 13 none (some 0) none]])] h fun a b => Q5_l6 G n a.2.2.2.2.1 b.1.1.1 b.1.1.2.1 b.1.1.2.2.1 b.2.2.1.1.1 b.2.2.1.1.2.1 b.2.2.1.1.2.2.1 b.2.2.1.1.2.2.2.1 b.2.2.2.2.1 b.2.2.2.2.2.1.1.1 b.2.2.2.2.2.1.1.2.1 b.2.2.2.2.2.1.1.2.2.1 b.2.2.2.2.2.1.1.2.2.2.1.1 b.2.2.2.2.2.1.1.2.2.2.1.2.2 b.2.2.2.2.2.1.1.2.2.2.2.1.1 b.2.2.2.2.2.1.1.2.2.2.2.1.2.2 (fun w0 => K (.exit 0) ⟨[(2, .ptr 0 1 3 0 0), (4, .ptr 1 1 5 0 0), (6, .ptr 2 1 13 0 0), (8, .ptr 5 1 5 0 0)], [.row 3 true false [[.i .i64 b.1.1.1, .i .i64 b.1.1.2.1, .i .i64 b.1.1.2.2.1]], .row 5 true false [[.i .i64 0, .i .i64 0, .i .i64 0, .lst true true 0 [], .lst true true 0 []]], .row 13 true false [[.i .i64 b.2.2.1.1.1, .i .i64 b.2.2.1.1.2.1, .i .i64 b.2.2.1.1.2.2.1, .i .i64 b.2.2.1.1.2.2.2.1, .i .i64 0, .i .i64 0, .i .i64 0, .b false, .i .u64 0, .i .u64 0, .i .u64 0, .i .u64 0, .i .u64 0]], .row 5 true false w0, .row 13 true false b.2.2.2.2.1, .row 5 false false [[.i .i64 b.2.2.2.2.2.1.1.1, .i .i64 b.2.2.2.2.2.1.1.2.1, .i .i64 b.2.2.2.2.2.1.1.2.2.1, .sl 3 b.2.2.2.2.2.1.1.2.2.2.1.1 5 0 b.2.2.2.2.2.1.1.2.2.2.1.2.2, .sl 4 b.2.2.2.2.2.1.1.2.2.2.2.1.1 13 0 b.2.2.2.2.2.1.1.2.2.2.2.1.2.2]]]⟩) (a.2.2.2.2.2.1, b.2.2.2.1)
def Q5_d6 (G : Q5_G) (n : Nat) : Go.Rv.LE := Q5_l6_d G n
def Q5_c15 : Nat × List Nat × List Nat × MC := loopAt 15 m39
def Q5_l15_d (G : Q5_G) (n : Nat) : Go.Rv.LE := fun _ρ h K => decSt [(2, .ptr 0 3 0 (some 1) (some 0)), (4, .ptr 1 5 0 (some 1) (some 0)), (8, .ptr 5 5 0 (some 1) (some 0)), (10, .i .i64 none), (66, .i .i64 none), (67, .i .i64 none)] [.row 3 true false (some [[.i .i64 none, .i .i64 none, .i .i64 none]]), .row 5 true false (some [[.i .i64 (some 0), .i .i64 (some 0), .i .i64 (some 0), .lst (some true) (some true) 0 (some []), .lst (some true) (some true) 0 (some [])]]), .row 13 true false (some [[.i .i64 none, .i .i64 none, .i .i64 none, .i .i64 none, .i .i64 (some 0), .i .i64 (some 0), .i .i64 (some 0), .b (some false), .i .u64 (some 0), .i .u64 (some 0), .i .u64 (some 0), .i .u64 (some 0), .i .u64 (some 0)]]), .row 5 true false none, .row 13 true false none, .row 5 false false (some [[.i .i64 none, .i .i64 none, .i .i64 none, .sl 3 5 none (some 0) none, .sl 4 13 none (some 0) none]])] h fun a b => Q5_l15 G n a.2.2.2.1 a.2.2.2.2.1 b.1.1.1 b.1.1.2.1 b.1.1.2.2.1 b.2.2.1.1.1 b.2.2.1.1.2.1 b.2.2.1.1.2.2.1 b.2.2.1.1.2.2.2.1 b.2.2.2.2.2.1.1.1 b.2.2.2.2.2.1.1.2.1 b.2.2.2.2.2.1.1.2.2.1 b.2.2.2.2.2.1.1.2.2.2.1.1 b.2.2.2.2.2.1.1.2.2.2.1.2.2 b.2.2.2.2.2.1.1.2.2.2.2.1.1 b.2.2.2.2.2.1.1.2.2.2.2.1.2.2 (fun w0 w1 => K (.exit 2) ⟨[(4, .ptr 1 1 5 0 0), (8, .ptr 5 1 5 0 0), (10, .i .i64 a.2.2.2.1)], [.row 3 true false [[.i .i64 b.1.1.1, .i .i64 b.1.1.2.1, .i .i64 b.1.1.2.2.1]], .row 5 true false [[.i .i64 0, .i .i64 0, .i .i64 0, .lst true true 0 [], .lst true true 0 []]], .row 13 true false [[.i .i64 b.2.2.1.1.1, .i .i64 b.2.2.1.1.2.1, .i .i64 b.2.2.1.1.2.2.1, .i .i64 b.2.2.1.1.2.2.2.1, .i .i64 0, .i .i64 0, .i .i64 0, .b false, .i .u64 0, .i .u64 0, .i .u64 0, .i .u64 0, .i .u64 0]], .row 5 true false w0, .row 13 true false w1, .row 5 false false [[.i .i64 b.2.2.2.2.2.1.1.1, .i .i64 b.2.2.2.2.2.1.1.2.1, .i .i64 b.2.2.2.2.2.1.1.2.2.1, .sl 3 b.2.2.2.2.2.1.1.2.2.2.1.1 5 0 b.2.2.2.2.2.1.1.2.2.2.1.2.2, .sl 4 b.2.2.2.2.2.1.1.2.2.2.2.1.1 13 0 b.2.2.2.2.2.1.1.2.2.2.2.1.2.2]]]⟩) (a.2.2.2.2.2.1, b.2.2.2.1, b.2.2.2.2.1)
def Q5_d15 (G : Q5_G) (n : Nat) : Go.Rv.LE := Q5_l15_d G n
def Q5_lp (G : Q5_G) (n : Nat) : LK := tabL [(6, Q5_d6 G n), (15, Q5_d15 G n)]
theorem Q5_l6_k (G : Q5_G) {ρ : Type} (n : Nat) (p0 p1 : Int) (p2 p3 : Int) (p4 p5 : Int) (p6 p7 : Int) (p9 : Rows) (p10 p11 p12 : Int) (p13 p14 : Nat) (p15 p16 : Nat) (K : Ex → St → Option ρ) (N : St → Option ρ) : ∀ v, roundC (Q5_S G) Q5_hs (Q5_lp G n) Q5_c6 6 N K (Q5_l6_enc p0 p1 p2 p3 p4 p5 p6 p7 p9 p10 p11 p12 p13 p14 p15 p16 v) = Q5_l6_s G n p0 p1 p2 p3 p4 p5 p6 p7 p9 p10 p11 p12 p13 p14 p15 p16 (fun w0 => K (.exit 0) ⟨[(2, .ptr 0 1 3 0 0), (4, .ptr 1 1 5 0 0), (6, .ptr 2 1 13 0 0), (8, .ptr 5 1 5 0 0)], [.row 3 true false [[.i .i64 p1, .i .i64 p2, .i .i64 p3]], .row 5 true false [[.i .i64 0, .i .i64 0, .i .i64 0, .lst true true 0 [], .lst true true 0 []]], .row 13 true false [[.i .i64 p4, .i .i64 p5, .i .i64 p6, .i .i64 p7, .i .i64 0, .i .i64 0, .i .i64 0, .b false, .i .u64 0, .i .u64 0, .i .u64 0, .i .u64 0, .i .u64 0]], .row 5 true false w0, .row 13 true false p9, .row 5 false false [[.i .i64 p10, .i .i64 p11, .i .i64 p12, .sl 3 p13 5 0 p14, .sl 4 p15 13 0 p16]]]⟩) (fun v => N (Q5_l6_enc p0 p1 p2 p3 p4 p5 p6 p7 p9 p10 p11 p12 p13 p14 p15 p16 v)) v
 | v => by kernel_rfl
theorem Q5_l6_dok (n : Nat) : LE.OK (Q5_l6_d (Q5_g n) n) (L tab) Q5_c6 := LE.shp (fun _ _ _ => rfl) fun ρ K y a b e => LE.rounds (Q5_Sok n) (LK.of (l := []) (by kernel_rfl) ((fun _ h => nomatch h))) (Q5_l6_k (Q5_g n) n _ _ _ _ _ _ _ _ _ _ _ _ _ _ _ _ K) (by kernel_rfl) (by kernel_rfl) e
theorem Q5_d6_ok (n : Nat) : LE.OK (Q5_d6 (Q5_g n) n) (L tab) Q5_c6 := Q5_l6_dok n
theorem Q5_l15_k (G : Q5_G) {ρ : Type} (n : Nat) (p0 p1 : Int) (p2 p3 : Int) (p4 p5 : Int) (p6 p7 : Int) (p8 p11 : Int) (p12 p13 : Int) (p14 p15 : Nat) (p16 p17 : Nat) (K : Ex → St → Option ρ) (N : St → Option ρ) : ∀ v, roundC (Q5_S G) Q5_hs (Q5_lp G n) Q5_c15 6 N K (Q5_l15_enc p0 p1 p2 p3 p4 p5 p6 p7 p8 p11 p12 p13 p14 p15 p16 p17 v) = Q5_l15_s G n p0 p1 p2 p3 p4 p5 p6 p7 p8 p11 p12 p13 p14 p15 p16 p17 (fun w0 w1 => K (.exit 2) ⟨[(4, .ptr 1 1 5 0 0), (8, .ptr 5 1 5 0 0), (10, .i .i64 p0)], [.row 3 true false [[.i .i64 p2, .i .i64 p3, .i .i64 p4]], .row 5 true false [[.i .i64 0, .i .i64 0, .i .i64 0, .lst true true 0 [], .lst true true 0 []]], .row 13 true false [[.i .i64 p5, .i .i64 p6, .i .i64 p7, .i .i64 p8, .i .i64 0, .i .i64 0, .i .i64 0, .b false, .i .u64 0, .i .u64 0, .i .u64 0, .i .u64 0, .i .u64 0]], .row 5 true false w0, .row 13 true false w1, .row 5 false false [[.i .i64 p11, .i .i64 p12, .i .i64 p13, .sl 3 p14 5 0 p15, .sl 4 p16 13 0 p17]]]⟩) (fun v => N (Q5_l15_enc p0 p1 p2 p3 p4 p5 p6 p7 p8 p11 p12 p13 p14 p15 p16 p17 v)) v
 | v => by kernel_rfl
theorem Q5_l15_dok (n : Nat) : LE.OK (Q5_l15_d (Q5_g n) n) (L tab) Q5_c15 := LE.shp (fun _ _ _ => rfl) fun ρ K y a b e => LE.rounds (Q5_Sok n) (LK.of (l := []) (by kernel_rfl) ((fun _ h => nomatch h))) (Q5_l15_k (Q5_g n) n _ _ _ _ _ _ _ _ _ _ _ _ _ _ _ _ K) (by kernel_rfl) (by kernel_rfl) e
theorem Q5_d15_ok (n : Nat) : LE.OK (Q5_d15 (Q5_g n) n) (L tab) Q5_c15 := Q5_l15_dok n
theorem Q5_k (G : Q5_G) {ρ : Type} (n : Nat) (a0 a1 : Int) (a2 a3 : Int) (K : Res → Option ρ) : runC (Q5_S G) Q5_hs (Q5_lp G n) m39 [.agg [.i .i64 a0, .i .i64 a1, .i .i64 a2], .i .i64 a3] K = Q5_s G n a0 a1 a2 a3 (fun w0 w1 w2 w3 w4 w5 w6 w7 w8 w9 => K ⟨.tup [.agg [.i .i64 w0, .i .i64 w1, .i .i64 w2, .lst w3 w4 5 w5, .lst w6 w7 13 w8], .i .i64 w9], [], []⟩) := by kernel_rfl
theorem Q5_ok (n : Nat) : EK.OK (Q5_e n) 39 (L tab) := EK.shp (fun _ _ _ => rfl) fun ρ K y c e => EK.run (Q5_Sok n) (by kernel_rfl) (MF.LKOK.of (LK.of (l := [Q5_c6, Q5_c15]) (by kernel_rfl) (List.forall_mem_cons.2 ⟨LE.at (e := Q5_d6 (Q5_g n) n) (by kernel_rfl) (Q5_d6_ok n), List.forall_mem_cons.2 ⟨LE.at (e := Q5_d15 (Q5_g n) n) (by kernel_rfl) (Q5_d15_ok n), (fun _ h => nomatch h)⟩⟩))) (Q5_k (Q5_g n) n _ _ _ _ K) (by kernel_rfl) e
abbrev Q0d_T : Type 1 := (ρ : Type) → (Int → Int → Int → Bool → Bool → Rows → Bool → Bool → Rows → Option ρ) → Option ρ
def Q0d_E (G : Q0d_T) : EK := fun ρ args K => decL [] args fun _c => G ρ (fun w0 w1 w2 w3 w4 w5 w6 w7 w8 => K ⟨.agg [.i .i64 w0, .i .i64 w1, .i .i64 w2, .lst w3 w4 5 w5, .lst w6 w7 13 w8], [], []⟩)
structure Q0d_G where
 mk ::
 geo_Plain : geo_Plain_T
 Q5 : Q5_T
def Q0d_s (G : Q0d_G) {ρ : Type} (_n : Nat)  (k0 : (Int → Int → Int → Bool → Bool → Rows → Bool → Bool → Rows → Option ρ)) : Option ρ :=
 G.geo_Plain ρ (G.Q5 ρ 2 32 16 64 (fun w1_0 w1_1 w1_2 w1_3 w1_4 w1_5 w1_6 w1_7 w1_8 _w1_9 =>
 k0 w1_0 w1_1 w1_2 w1_3 w1_4 w1_5 w1_6 w1_7 w1_8))
def Q0d_g (n : Nat) : Q0d_G := ⟨geo_Plain n, Q5 n⟩
def Q0d (n : Nat) : Q0d_T := fun _ρ k0 => Q0d_s (Q0d_g n) n k0
def Q0d_e (n : Nat) : EK := Q0d_E (Q0d n)
def Q0d_S (G : Q0d_G) : CK := tabS [(40, geo_Plain_E G.geo_Plain), (39, Q5_E G.Q5)]
theorem Q0d_Sok (n : Nat) : CK.OK (Q0d_S (Q0d_g n)) (L tab) := tabS_ok _ (List.forall_mem_cons.2 ⟨(geo_Plain_ok n), List.forall_mem_cons.2 ⟨(Q5_ok n), (fun _ h => nomatch h)⟩⟩)
def Q0d_hs : HintC := hintL []
def Q0d_lp (_G : Q0d_G) (_n : Nat) : LK := tabL []
theorem Q0d_k (G : Q0d_G) {ρ : Type} (n : Nat)  (K : Res → Option ρ) : runC (Q0d_S G) Q0d_hs (Q0d_lp G n) m18 [] K = Q0d_s G n  (fun w0 w1 w2 w3 w4 w5 w6 w7 w8 => K ⟨.agg [.i .i64 w0, .i .i64 w1, .i .i64 w2, .lst w3 w4 5 w5, .lst w6 w7 13 w8], [], []⟩) := by kernel_rfl
theorem Q0d_ok (n : Nat) : EK.OK (Q0d_e n) 18 (L tab) := EK.shp (fun _ _ _ => rfl) fun ρ K y c e => EK.run (Q0d_Sok n) (by kernel_rfl) (MF.LKOK.of (LK.of (l := []) (by kernel_rfl) ((fun _ h => nomatch h)))) (Q0d_k (Q0d_g n) n  K) (by kernel_rfl) e
abbrev reevelaw16_way_T : Type 1 := (ρ : Type) → Bool → Bool → Rows → (Option ρ) → Option ρ
def reevelaw16_way_E (G : reevelaw16_way_T) : EK := fun ρ args K => decL [.lst none none 1 none] args fun c => G ρ c.1.1 c.1.2.1 c.1.2.2 (K ⟨.agg [.lst c.1.1 c.1.2.1 1 c.1.2.2], [], []⟩)
structure reevelaw16_way_G where
 mk ::
def reevelaw16_way_s (_G : reevelaw16_way_G) {ρ : Type} (_n : Nat) (_a0 _a1 : Bool) (_a2 : Rows) (k0 : (Option ρ)) : Option ρ :=
 k0
def reevelaw16_way_g (_n : Nat) : reevelaw16_way_G := ⟨⟩
def reevelaw16_way (n : Nat) : reevelaw16_way_T := fun _ρ a0 a1 a2 k0 => reevelaw16_way_s (reevelaw16_way_g n) n a0 a1 a2 k0
def reevelaw16_way_e (n : Nat) : EK := reevelaw16_way_E (reevelaw16_way n)
def reevelaw16_way_S (_G : reevelaw16_way_G) : CK := tabS []
theorem reevelaw16_way_Sok (n : Nat) : CK.OK (reevelaw16_way_S (reevelaw16_way_g n)) (L tab) := tabS_ok _ ((fun _ h => nomatch h))
def reevelaw16_way_hs : HintC := hintL []
def reevelaw16_way_lp (_G : reevelaw16_way_G) (_n : Nat) : LK := tabL []
theorem reevelaw16_way_k (G : reevelaw16_way_G) {ρ : Type} (n : Nat) (a0 a1 : Bool) (a2 : Rows) (K : Res → Option ρ) : runC (reevelaw16_way_S G) reevelaw16_way_hs (reevelaw16_way_lp G n) m19 [.lst a0 a1 1 a2] K = reevelaw16_way_s G n a0 a1 a2 (K ⟨.agg [.lst a0 a1 1 a2], [], []⟩) := by kernel_rfl
theorem reevelaw16_way_ok (n : Nat) : EK.OK (reevelaw16_way_e n) 19 (L tab) := EK.shp (fun _ _ _ => rfl) fun ρ K y c e => EK.run (reevelaw16_way_Sok n) (by kernel_rfl) (MF.LKOK.of (LK.of (l := []) (by kernel_rfl) ((fun _ h => nomatch h)))) (reevelaw16_way_k (reevelaw16_way_g n) n _ _ _ K) (by kernel_rfl) e
abbrev strings_Cut_T : Type 1 := (ρ : Type) → Bys → Bys → (Bys → Bys → Bool → Option ρ) → Option ρ
def strings_Cut_E (G : strings_Cut_T) : EK := fun ρ args K => decL [.s none, .s none] args fun c => G ρ c.1 c.2.1 (fun w0 w1 w2 => K ⟨.tup [.s w0, .s w1, .b w2], [], []⟩)
structure strings_Cut_G where
 mk ::
def strings_Cut_s (_G : strings_Cut_G) {ρ : Type} (_n : Nat) (a0 a1 : Bys) (k0 : (Bys → Bys → Bool → Option ρ)) : Option ρ :=
 match lawCut [.s a0, .s a1] with
 | some (.tup [.s r0, .s r1, .b r2]) => k0 r0 r1 r2
 | _ => none
def strings_Cut_g (_n : Nat) : strings_Cut_G := ⟨⟩
def strings_Cut (n : Nat) : strings_Cut_T := fun _ρ a0 a1 k0 => strings_Cut_s (strings_Cut_g n) n a0 a1 k0
def strings_Cut_e (n : Nat) : EK := strings_Cut_E (strings_Cut n)
theorem strings_Cut_ok (n : Nat) : EK.OK (strings_Cut_e n) 85 (L tab) := EK.shp (fun _ _ _ => rfl) fun ρ K y c e => by
  simp only [strings_Cut, strings_Cut_s] at e
  split at e
  · rename_i h
    exact ⟨_, L_law (T := tab) (by kernel_rfl) h, e⟩
  · cases e

abbrev Q0c_T : Type 1 := (ρ : Type) → Int → (Bys → Bys → Option ρ) → Option ρ
def Q0c_E (G : Q0c_T) : EK := fun ρ args K => decL [.i .i64 none] args fun c => G ρ c.1 (fun w0 w1 => K ⟨.tup [.s w0, .s w1], [], []⟩)
structure Q0c_G where
 mk ::
 strings_Cut : strings_Cut_T
def Q0c_s (G : Q0c_G) {ρ : Type} (_n : Nat) (a0 : Int) (k0 : (Bys → Bys → Option ρ)) : Option ρ :=
 bif decide ((a0 : Int) < 1) then
 k0 [] []
 else bif decide ((a0 : Int) > 13) then
 k0 [] []
 else chk (decide ((0 : Int) ≤ a0)) <|
 chk (decide ((a0 : Int) < 14)) <|
 rowN [.s] [[.s []], [.s ([109, 97, 107, 101, 32, 65, 66, 88, 89])], [.s ([99, 111, 112, 121, 32, 65, 66, 88])], [.s ([109, 105, 110, 116, 32, 65, 66, 88, 89])], [.s ([109, 111, 118, 101, 32, 65, 66])], [.s ([100, 101, 108, 101, 116, 101, 32, 65])], [.s ([114, 101, 118, 111, 107, 101, 32, 65])], [.s ([115, 101, 110, 100, 32, 65, 98, 87])], [.s ([114, 101, 99, 118, 32, 65, 98])], [.s ([114, 105, 110, 103, 32, 65])], [.s ([112, 111, 108, 108, 32, 65])], [.s ([119, 114, 105, 116, 101, 32, 65, 88, 87])], [.s ([114, 101, 97, 100, 32, 65, 88])], [.s ([116, 101, 108, 108, 32, 65])]] (0 + a0.toNat) fun c0 =>
 G.strings_Cut ρ c0.1 [32] (fun w1_0 w1_1 w1_2 =>
 bif w1_2 then
 k0 w1_0 w1_1
 else k0 w1_0 w1_1)
def Q0c_g (n : Nat) : Q0c_G := ⟨strings_Cut n⟩
def Q0c (n : Nat) : Q0c_T := fun _ρ a0 k0 => Q0c_s (Q0c_g n) n a0 k0
def Q0c_e (n : Nat) : EK := Q0c_E (Q0c n)
def Q0c_S (G : Q0c_G) : CK := tabS [(85, strings_Cut_E G.strings_Cut)]
theorem Q0c_Sok (n : Nat) : CK.OK (Q0c_S (Q0c_g n)) (L tab) := tabS_ok _ (List.forall_mem_cons.2 ⟨(strings_Cut_ok n), (fun _ h => nomatch h)⟩)
def Q0c_hs : HintC := hintL [(16, [.s])]
def Q0c_lp (_G : Q0c_G) (_n : Nat) : LK := tabL []
theorem Q0c_k (G : Q0c_G) {ρ : Type} (n : Nat) (a0 : Int) (K : Res → Option ρ) : runC (Q0c_S G) Q0c_hs (Q0c_lp G n) m69 [.i .i64 a0] K = Q0c_s G n a0 (fun w0 w1 => K ⟨.tup [.s w0, .s w1], [], []⟩) := by kernel_rfl
theorem Q0c_ok (n : Nat) : EK.OK (Q0c_e n) 69 (L tab) := EK.shp (fun _ _ _ => rfl) fun ρ K y c e => EK.run (Q0c_Sok n) (by kernel_rfl) (MF.LKOK.of (LK.of (l := []) (by kernel_rfl) ((fun _ h => nomatch h)))) (Q0c_k (Q0c_g n) n _ K) (by kernel_rfl) e
abbrev strings_Contains_T : Type 1 := (ρ : Type) → Bys → Bys → (Bool → Option ρ) → Option ρ
def strings_Contains_E (G : strings_Contains_T) : EK := fun ρ args K => decL [.s none, .s none] args fun c => G ρ c.1 c.2.1 (fun w0 => K ⟨.b w0, [], []⟩)
structure strings_Contains_G where
 mk ::
def strings_Contains_s (_G : strings_Contains_G) {ρ : Type} (_n : Nat) (a0 a1 : Bys) (k0 : (Bool → Option ρ)) : Option ρ :=
 match lawContains [.s a0, .s a1] with
 | some (.b r0) => k0 r0
 | _ => none
def strings_Contains_g (_n : Nat) : strings_Contains_G := ⟨⟩
def strings_Contains (n : Nat) : strings_Contains_T := fun _ρ a0 a1 k0 => strings_Contains_s (strings_Contains_g n) n a0 a1 k0
def strings_Contains_e (n : Nat) : EK := strings_Contains_E (strings_Contains n)
theorem strings_Contains_ok (n : Nat) : EK.OK (strings_Contains_e n) 70 (L tab) := EK.shp (fun _ _ _ => rfl) fun ρ K y c e => by
  simp only [strings_Contains, strings_Contains_s] at e
  split at e
  · rename_i h
    exact ⟨_, L_law (T := tab) (by kernel_rfl) h, e⟩
  · cases e

abbrev Q9_1_T : Type 1 := (ρ : Type) → Int → (Bool → Option ρ) → Option ρ
def Q9_1_E (G : Q9_1_T) : EK := fun ρ args K => decL [.i .i64 none] args fun c => G ρ c.1 (fun w0 => K ⟨.b w0, [], []⟩)
structure Q9_1_G where
 mk ::
def Q9_1_s (_G : Q9_1_G) {ρ : Type} (_n : Nat) (a0 : Int) (k0 : (Bool → Option ρ)) : Option ρ :=
 bif decide ((a0 : Int) < 0) then
 k0 true
 else bif decide ((a0 : Int) > 15) then
 k0 true
 else k0 false
def Q9_1_g (_n : Nat) : Q9_1_G := ⟨⟩
def Q9_1 (n : Nat) : Q9_1_T := fun _ρ a0 k0 => Q9_1_s (Q9_1_g n) n a0 k0
def Q9_1_e (n : Nat) : EK := Q9_1_E (Q9_1 n)
def Q9_1_S (_G : Q9_1_G) : CK := tabS []
theorem Q9_1_Sok (n : Nat) : CK.OK (Q9_1_S (Q9_1_g n)) (L tab) := tabS_ok _ ((fun _ h => nomatch h))
def Q9_1_hs : HintC := hintL []
def Q9_1_lp (_G : Q9_1_G) (_n : Nat) : LK := tabL []
theorem Q9_1_k (G : Q9_1_G) {ρ : Type} (n : Nat) (a0 : Int) (K : Res → Option ρ) : runC (Q9_1_S G) Q9_1_hs (Q9_1_lp G n) m87 [.i .i64 a0] K = Q9_1_s G n a0 (fun w0 => K ⟨.b w0, [], []⟩) := by kernel_rfl
theorem Q9_1_ok (n : Nat) : EK.OK (Q9_1_e n) 87 (L tab) := EK.shp (fun _ _ _ => rfl) fun ρ K y c e => EK.run (Q9_1_Sok n) (by kernel_rfl) (MF.LKOK.of (LK.of (l := []) (by kernel_rfl) ((fun _ h => nomatch h)))) (Q9_1_k (Q9_1_g n) n _ K) (by kernel_rfl) e
abbrev Qd_T : Type 1 := (ρ : Type) → Bool → Bool → Rows → (Int → Option ρ) → Option ρ
def Qd_E (G : Qd_T) : EK := fun ρ args K => decL [.lst none none 1 none, .fn 87 []] args fun c => G ρ c.1.1 c.1.2.1 c.1.2.2 (fun w0 => K ⟨.i .i64 w0, [], []⟩)
structure Qd_G where
 mk ::
 Q9_1 : Q9_1_T
abbrev Qd_l2_V : Type := Int
def Qd_l2_s (G : Qd_G) {ρ : Type} (_n : Nat) (_p0 _p1 : Bool) (p2 : Rows) (p3 : Int) (k0 : (Int → Option ρ)) (k1 : (Option ρ)) (rec' : Qd_l2_V → Option ρ) : Qd_l2_V → Option ρ
 | v =>
 bif decide ((v : Int) < p3) then
 rowT [.i .i64] p2 v fun c0 =>
 G.Q9_1 ρ c0.1 (fun w1_0 =>
 bif w1_0 then
 k0 v
 else rec' ((IntKind.wrap .i64 (v + 1))))
 else k1
def Qd_l2 (G : Qd_G) {ρ : Type} (n : Nat) (p0 p1 : Bool) (p2 : Rows) (p3 : Int) (k0 : (Int → Option ρ)) (k1 : (Option ρ)) (v : Qd_l2_V) : Option ρ := fuelN (Qd_l2_s G n p0 p1 p2 p3 k0 k1) n v
def Qd_l2_enc (p0 p1 : Bool) (p2 : Rows) (p3 : Int) : Qd_l2_V → St
 | v => ⟨[(0, .lst p0 p1 1 p2), (1, .fn 87 []), (7, .i .i64 p3), (8, .i .i64 v)], []⟩
def Qd_s (G : Qd_G) {ρ : Type} (n : Nat) (a0 a1 : Bool) (a2 : Rows) (k0 : (Int → Option ρ)) : Option ρ :=
 Qd_l2 G n a0 a1 a2 (((List.length (a2 : Rows)) : Nat) : Int) (fun w0_0 =>
 k0 w0_0) (k0 (-1)) (0)
def Qd_g (n : Nat) : Qd_G := ⟨Q9_1 n⟩
def Qd (n : Nat) : Qd_T := fun _ρ a0 a1 a2 k0 => Qd_s (Qd_g n) n a0 a1 a2 k0
def Qd_e (n : Nat) : EK := Qd_E (Qd n)
def Qd_S (G : Qd_G) : CK := tabS [(87, Q9_1_E G.Q9_1)]
theorem Qd_Sok (n : Nat) : CK.OK (Qd_S (Qd_g n)) (L tab) := tabS_ok _ (List.forall_mem_cons.2 ⟨(Q9_1_ok n), (fun _ h => nomatch h)⟩)
def Qd_hs : HintC := hintL [(14, [.i .i64])]
def Qd_c2 : Nat × List Nat × List Nat × MC := loopAt 2 m99
def Qd_l2_d (G : Qd_G) (n : Nat) : Go.Rv.LE := fun _ρ h K => decSt [(0, .lst none none 1 none), (1, .fn 87 []), (7, .i .i64 none), (8, .i .i64 none)] [] h fun a _b => Qd_l2 G n a.1.1 a.1.2.1 a.1.2.2 a.2.2.1 (fun w0 => K .ret ⟨[(4, .i .i64 w0)], []⟩) (K (.exit 0) ⟨[(4, .u)], []⟩) (a.2.2.2.1)
def Qd_d2 (G : Qd_G) (n : Nat) : Go.Rv.LE := Qd_l2_d G n
def Qd_lp (G : Qd_G) (n : Nat) : LK := tabL [(2, Qd_d2 G n)]
theorem Qd_l2_k (G : Qd_G) {ρ : Type} (n : Nat) (p0 p1 : Bool) (p2 : Rows) (p3 : Int) (K : Ex → St → Option ρ) (N : St → Option ρ) : ∀ v, roundC (Qd_S G) Qd_hs (Qd_lp G n) Qd_c2 0 N K (Qd_l2_enc p0 p1 p2 p3 v) = Qd_l2_s G n p0 p1 p2 p3 (fun w0 => K .ret ⟨[(4, .i .i64 w0)], []⟩) (K (.exit 0) ⟨[(4, .u)], []⟩) (fun v => N (Qd_l2_enc p0 p1 p2 p3 v)) v
 | v => by kernel_rfl
theorem Qd_l2_dok (n : Nat) : LE.OK (Qd_l2_d (Qd_g n) n) (L tab) Qd_c2 := LE.shp (fun _ _ _ => rfl) fun ρ K y a b e => LE.rounds (Qd_Sok n) (LK.of (l := []) (by kernel_rfl) ((fun _ h => nomatch h))) (Qd_l2_k (Qd_g n) n _ _ _ _ K) (by kernel_rfl) (by kernel_rfl) e
theorem Qd_d2_ok (n : Nat) : LE.OK (Qd_d2 (Qd_g n) n) (L tab) Qd_c2 := Qd_l2_dok n
theorem Qd_k (G : Qd_G) {ρ : Type} (n : Nat) (a0 a1 : Bool) (a2 : Rows) (K : Res → Option ρ) : runC (Qd_S G) Qd_hs (Qd_lp G n) m99 [.lst a0 a1 1 a2, .fn 87 []] K = Qd_s G n a0 a1 a2 (fun w0 => K ⟨.i .i64 w0, [], []⟩) := by kernel_rfl
theorem Qd_ok (n : Nat) : EK.OK (Qd_e n) 99 (L tab) := EK.shp (fun _ _ _ => rfl) fun ρ K y c e => EK.run (Qd_Sok n) (by kernel_rfl) (MF.LKOK.of (LK.of (l := [Qd_c2]) (by kernel_rfl) (List.forall_mem_cons.2 ⟨LE.at (e := Qd_d2 (Qd_g n) n) (by kernel_rfl) (Qd_d2_ok n), (fun _ h => nomatch h)⟩))) (Qd_k (Qd_g n) n _ _ _ K) (by kernel_rfl) e
abbrev Q05_T : Type 1 := (ρ : Type) → Bool → Bool → Rows → (Bool → Option ρ) → Option ρ
def Q05_E (G : Q05_T) : EK := fun ρ args K => decL [.lst none none 1 none, .fn 87 []] args fun c => G ρ c.1.1 c.1.2.1 c.1.2.2 (fun w0 => K ⟨.b w0, [], []⟩)
structure Q05_G where
 mk ::
 Qd : Qd_T
def Q05_s (G : Q05_G) {ρ : Type} (_n : Nat) (a0 a1 : Bool) (a2 : Rows) (k0 : (Bool → Option ρ)) : Option ρ :=
 G.Qd ρ a0 a1 a2 (fun w0_0 =>
 bif decide ((w0_0 : Int) ≥ 0) then
 k0 true
 else k0 false)
def Q05_g (n : Nat) : Q05_G := ⟨Qd n⟩
def Q05 (n : Nat) : Q05_T := fun _ρ a0 a1 a2 k0 => Q05_s (Q05_g n) n a0 a1 a2 k0
def Q05_e (n : Nat) : EK := Q05_E (Q05 n)
def Q05_S (G : Q05_G) : CK := tabS [(99, Qd_E G.Qd)]
theorem Q05_Sok (n : Nat) : CK.OK (Q05_S (Q05_g n)) (L tab) := tabS_ok _ (List.forall_mem_cons.2 ⟨(Qd_ok n), (fun _ h => nomatch h)⟩)
def Q05_hs : HintC := hintL []
def Q05_lp (_G : Q05_G) (_n : Nat) : LK := tabL []
theorem Q05_k (G : Q05_G) {ρ : Type} (n : Nat) (a0 a1 : Bool) (a2 : Rows) (K : Res → Option ρ) : runC (Q05_S G) Q05_hs (Q05_lp G n) m88 [.lst a0 a1 1 a2, .fn 87 []] K = Q05_s G n a0 a1 a2 (fun w0 => K ⟨.b w0, [], []⟩) := by kernel_rfl
theorem Q05_ok (n : Nat) : EK.OK (Q05_e n) 88 (L tab) := EK.shp (fun _ _ _ => rfl) fun ρ K y c e => EK.run (Q05_Sok n) (by kernel_rfl) (MF.LKOK.of (LK.of (l := []) (by kernel_rfl) ((fun _ h => nomatch h)))) (Q05_k (Q05_g n) n _ _ _ K) (by kernel_rfl) e
abbrev Q9_T : Type 1 := (ρ : Type) → Bool → Bool → Rows → (Bool → Option ρ) → Option ρ
def Q9_E (G : Q9_T) : EK := fun ρ args K => decL [.agg [.lst none none 1 none]] args fun c => G ρ c.1.1.1 c.1.1.2.1 c.1.1.2.2 (fun w0 => K ⟨.b w0, [], []⟩)
structure Q9_G where
 mk ::
 Q05 : Q05_T
def Q9_s (G : Q9_G) {ρ : Type} (_n : Nat) (a0 a1 : Bool) (a2 : Rows) (k0 : (Bool → Option ρ)) : Option ρ :=
 bif decide (((((List.length (a2 : Rows)) : Nat) : Int) : Int) ≥ 1) then
 bif decide (((((List.length (a2 : Rows)) : Nat) : Int) : Int) ≤ 3) then
 G.Q05 ρ a0 a1 a2 (fun w0_0 =>
 bif w0_0 then
 k0 false
 else k0 true)
 else k0 false
 else k0 false
def Q9_g (n : Nat) : Q9_G := ⟨Q05 n⟩
def Q9 (n : Nat) : Q9_T := fun _ρ a0 a1 a2 k0 => Q9_s (Q9_g n) n a0 a1 a2 k0
def Q9_e (n : Nat) : EK := Q9_E (Q9 n)
def Q9_S (G : Q9_G) : CK := tabS [(88, Q05_E G.Q05)]
theorem Q9_Sok (n : Nat) : CK.OK (Q9_S (Q9_g n)) (L tab) := tabS_ok _ (List.forall_mem_cons.2 ⟨(Q05_ok n), (fun _ h => nomatch h)⟩)
def Q9_hs : HintC := hintL []
def Q9_lp (_G : Q9_G) (_n : Nat) : LK := tabL []
theorem Q9_k (G : Q9_G) {ρ : Type} (n : Nat) (a0 a1 : Bool) (a2 : Rows) (K : Res → Option ρ) : runC (Q9_S G) Q9_hs (Q9_lp G n) m71 [.agg [.lst a0 a1 1 a2]] K = Q9_s G n a0 a1 a2 (fun w0 => K ⟨.b w0, [], []⟩) := by kernel_rfl
theorem Q9_ok (n : Nat) : EK.OK (Q9_e n) 71 (L tab) := EK.shp (fun _ _ _ => rfl) fun ρ K y c e => EK.run (Q9_Sok n) (by kernel_rfl) (MF.LKOK.of (LK.of (l := []) (by kernel_rfl) ((fun _ h => nomatch h)))) (Q9_k (Q9_g n) n _ _ _ K) (by kernel_rfl) e
abbrev strings_ContainsAny_T : Type 1 := (ρ : Type) → Bys → Bys → (Bool → Option ρ) → Option ρ
def strings_ContainsAny_E (G : strings_ContainsAny_T) : EK := fun ρ args K => decL [.s none, .s none] args fun c => G ρ c.1 c.2.1 (fun w0 => K ⟨.b w0, [], []⟩)
structure strings_ContainsAny_G where
 mk ::
def strings_ContainsAny_s (_G : strings_ContainsAny_G) {ρ : Type} (_n : Nat) (a0 a1 : Bys) (k0 : (Bool → Option ρ)) : Option ρ :=
 match lawContainsAny [.s a0, .s a1] with
 | some (.b r0) => k0 r0
 | _ => none
def strings_ContainsAny_g (_n : Nat) : strings_ContainsAny_G := ⟨⟩
def strings_ContainsAny (n : Nat) : strings_ContainsAny_T := fun _ρ a0 a1 k0 => strings_ContainsAny_s (strings_ContainsAny_g n) n a0 a1 k0
def strings_ContainsAny_e (n : Nat) : EK := strings_ContainsAny_E (strings_ContainsAny n)
theorem strings_ContainsAny_ok (n : Nat) : EK.OK (strings_ContainsAny_e n) 72 (L tab) := EK.shp (fun _ _ _ => rfl) fun ρ K y c e => by
  simp only [strings_ContainsAny, strings_ContainsAny_s] at e
  split at e
  · rename_i h
    exact ⟨_, L_law (T := tab) (by kernel_rfl) h, e⟩
  · cases e

abbrev call_in_T : Type 1 := (ρ : Type) → Int → Int → Int → (Bool → Option ρ) → Option ρ
def call_in_E (G : call_in_T) : EK := fun ρ args K => decL [.i .i64 none, .i .i64 none, .i .i64 none] args fun c => G ρ c.1 c.2.1 c.2.2.1 (fun w0 => K ⟨.b w0, [], []⟩)
structure call_in_G where
 mk ::
def call_in_s (_G : call_in_G) {ρ : Type} (_n : Nat) (a0 a1 a2 : Int) (k0 : (Bool → Option ρ)) : Option ρ :=
 bif decide ((a0 : Int) ≥ a1) then
 bif decide ((a0 : Int) ≤ a2) then
 k0 true
 else k0 false
 else k0 false
def call_in_g (_n : Nat) : call_in_G := ⟨⟩
def call_in (n : Nat) : call_in_T := fun _ρ a0 a1 a2 k0 => call_in_s (call_in_g n) n a0 a1 a2 k0
def call_in_e (n : Nat) : EK := call_in_E (call_in n)
def call_in_S (_G : call_in_G) : CK := tabS []
theorem call_in_Sok (n : Nat) : CK.OK (call_in_S (call_in_g n)) (L tab) := tabS_ok _ ((fun _ h => nomatch h))
def call_in_hs : HintC := hintL []
def call_in_lp (_G : call_in_G) (_n : Nat) : LK := tabL []
theorem call_in_k (G : call_in_G) {ρ : Type} (n : Nat) (a0 a1 a2 : Int) (K : Res → Option ρ) : runC (call_in_S G) call_in_hs (call_in_lp G n) m90 [.i .i64 a0, .i .i64 a1, .i .i64 a2] K = call_in_s G n a0 a1 a2 (fun w0 => K ⟨.b w0, [], []⟩) := by kernel_rfl
theorem call_in_ok (n : Nat) : EK.OK (call_in_e n) 90 (L tab) := EK.shp (fun _ _ _ => rfl) fun ρ K y c e => EK.run (call_in_Sok n) (by kernel_rfl) (MF.LKOK.of (LK.of (l := []) (by kernel_rfl) ((fun _ h => nomatch h)))) (call_in_k (call_in_g n) n _ _ _ K) (by kernel_rfl) e
abbrev right_Good_T : Type 1 := (ρ : Type) → Int → (Bool → Option ρ) → Option ρ
def right_Good_E (G : right_Good_T) : EK := fun ρ args K => decL [.i .i64 none] args fun c => G ρ c.1 (fun w0 => K ⟨.b w0, [], []⟩)
structure right_Good_G where
 mk ::
def right_Good_s (_G : right_Good_G) {ρ : Type} (_n : Nat) (a0 : Int) (k0 : (Bool → Option ρ)) : Option ρ :=
 bif decide ((a0 : Int) ≥ 0) then
 bif decide ((a0 : Int) ≤ 7) then
 k0 true
 else k0 false
 else k0 false
def right_Good_g (_n : Nat) : right_Good_G := ⟨⟩
def right_Good (n : Nat) : right_Good_T := fun _ρ a0 k0 => right_Good_s (right_Good_g n) n a0 k0
def right_Good_e (n : Nat) : EK := right_Good_E (right_Good n)
def right_Good_S (_G : right_Good_G) : CK := tabS []
theorem right_Good_Sok (n : Nat) : CK.OK (right_Good_S (right_Good_g n)) (L tab) := tabS_ok _ ((fun _ h => nomatch h))
def right_Good_hs : HintC := hintL []
def right_Good_lp (_G : right_Good_G) (_n : Nat) : LK := tabL []
theorem right_Good_k (G : right_Good_G) {ρ : Type} (n : Nat) (a0 : Int) (K : Res → Option ρ) : runC (right_Good_S G) right_Good_hs (right_Good_lp G n) m63 [.i .i64 a0] K = right_Good_s G n a0 (fun w0 => K ⟨.b w0, [], []⟩) := by kernel_rfl
theorem right_Good_ok (n : Nat) : EK.OK (right_Good_e n) 63 (L tab) := EK.shp (fun _ _ _ => rfl) fun ρ K y c e => EK.run (right_Good_Sok n) (by kernel_rfl) (MF.LKOK.of (LK.of (l := []) (by kernel_rfl) ((fun _ h => nomatch h)))) (right_Good_k (right_Good_g n) n _ K) (by kernel_rfl) e
abbrev Q09_T : Type 1 := (ρ : Type) → Int → Bool → Bool → Rows → Bool → Bool → Rows → Int → Int → Int → (Bool → Option ρ) → Option ρ
def Q09_E (G : Q09_T) : EK := fun ρ args K => decL [.agg [.i .i64 none, .lst none none 1 none, .lst none none 1 none, .i .i64 none, .i .i64 none, .i .u64 none]] args fun c => G ρ c.1.1 c.1.2.1.1 c.1.2.1.2.1 c.1.2.1.2.2 c.1.2.2.1.1 c.1.2.2.1.2.1 c.1.2.2.1.2.2 c.1.2.2.2.1 c.1.2.2.2.2.1 c.1.2.2.2.2.2.1 (fun w0 => K ⟨.b w0, [], []⟩)
structure Q09_G where
 mk ::
 call_in : call_in_T
 right_Good : right_Good_T
def Q09_s (G : Q09_G) {ρ : Type} (_n : Nat) (a0 : Int) (_a1 _a2 : Bool) (_a3 : Rows) (_a4 _a5 : Bool) (_a6 : Rows) (a7 a8 _a9 : Int) (k0 : (Bool → Option ρ)) : Option ρ :=
 bif ((a0 : Int) == 1) then
 G.call_in ρ a7 1 5 (fun w0_0 =>
 bif w0_0 then
 G.call_in ρ a8 0 4096 (fun w1_0 =>
 bif w1_0 then
 k0 true
 else k0 false)
 else k0 false)
 else bif ((a0 : Int) == 2) then
 G.right_Good ρ a7 (fun w2_0 =>
 bif w2_0 then
 bif ((a8 : Int) == 0) then
 k0 true
 else k0 false
 else k0 false)
 else bif ((a0 : Int) == 3) then
 G.right_Good ρ a7 (fun w3_0 =>
 bif w3_0 then
 G.call_in ρ a8 1 65535 (fun w4_0 =>
 bif w4_0 then
 k0 true
 else k0 false)
 else k0 false)
 else bif ((a0 : Int) == 11) then
 G.call_in ρ a7 0 3 (fun w5_0 =>
 bif w5_0 then
 bif ((a8 : Int) == 0) then
 k0 true
 else k0 false
 else k0 false)
 else bif ((a0 : Int) == 12) then
 G.call_in ρ a7 0 3 (fun w6_0 =>
 bif w6_0 then
 bif ((a8 : Int) == 0) then
 k0 true
 else k0 false
 else k0 false)
 else bif ((a7 : Int) == 0) then
 bif ((a8 : Int) == 0) then
 k0 true
 else k0 false
 else k0 false
def Q09_g (n : Nat) : Q09_G := ⟨call_in n, right_Good n⟩
def Q09 (n : Nat) : Q09_T := fun _ρ a0 a1 a2 a3 a4 a5 a6 a7 a8 a9 k0 => Q09_s (Q09_g n) n a0 a1 a2 a3 a4 a5 a6 a7 a8 a9 k0
def Q09_e (n : Nat) : EK := Q09_E (Q09 n)
def Q09_S (G : Q09_G) : CK := tabS [(90, call_in_E G.call_in), (63, right_Good_E G.right_Good)]
theorem Q09_Sok (n : Nat) : CK.OK (Q09_S (Q09_g n)) (L tab) := tabS_ok _ (List.forall_mem_cons.2 ⟨(call_in_ok n), List.forall_mem_cons.2 ⟨(right_Good_ok n), (fun _ h => nomatch h)⟩⟩)
def Q09_hs : HintC := hintL []
def Q09_lp (_G : Q09_G) (_n : Nat) : LK := tabL []
theorem Q09_k (G : Q09_G) {ρ : Type} (n : Nat) (a0 : Int) (a1 a2 : Bool) (a3 : Rows) (a4 a5 : Bool) (a6 : Rows) (a7 a8 a9 : Int) (K : Res → Option ρ) : runC (Q09_S G) Q09_hs (Q09_lp G n) m73 [.agg [.i .i64 a0, .lst a1 a2 1 a3, .lst a4 a5 1 a6, .i .i64 a7, .i .i64 a8, .i .u64 a9]] K = Q09_s G n a0 a1 a2 a3 a4 a5 a6 a7 a8 a9 (fun w0 => K ⟨.b w0, [], []⟩) := by kernel_rfl
theorem Q09_ok (n : Nat) : EK.OK (Q09_e n) 73 (L tab) := EK.shp (fun _ _ _ => rfl) fun ρ K y c e => EK.run (Q09_Sok n) (by kernel_rfl) (MF.LKOK.of (LK.of (l := []) (by kernel_rfl) ((fun _ h => nomatch h)))) (Q09_k (Q09_g n) n _ _ _ _ _ _ _ _ _ _ K) (by kernel_rfl) e
abbrev Qx_T : Type 1 := (ρ : Type) → Int → Bool → Bool → Rows → Bool → Bool → Rows → Int → Int → Int → (Bool → Option ρ) → Option ρ
def Qx_E (G : Qx_T) : EK := fun ρ args K => decL [.agg [.i .i64 none, .lst none none 1 none, .lst none none 1 none, .i .i64 none, .i .i64 none, .i .u64 none]] args fun c => G ρ c.1.1 c.1.2.1.1 c.1.2.1.2.1 c.1.2.1.2.2 c.1.2.2.1.1 c.1.2.2.1.2.1 c.1.2.2.1.2.2 c.1.2.2.2.1 c.1.2.2.2.2.1 c.1.2.2.2.2.2.1 (fun w0 => K ⟨.b w0, [], []⟩)
structure Qx_G where
 mk ::
 Q0c : Q0c_T
 strings_Contains : strings_Contains_T
 Q9 : Q9_T
 strings_ContainsAny : strings_ContainsAny_T
 Q09 : Q09_T
def Qx_s (G : Qx_G) {ρ : Type} (_n : Nat) (a0 : Int) (a1 a2 : Bool) (a3 : Rows) (a4 a5 : Bool) (a6 : Rows) (a7 a8 a9 : Int) (k0 : (Bool → Option ρ)) : Option ρ :=
 G.Q0c ρ a0 (fun _w0_0 w0_1 =>
 bif (((((List.length (a6 : Rows)) : Nat) : Int) : Int) == 0) then
 G.strings_Contains ρ w0_1 [66] (fun w1_0 =>
 bif w1_0 then
 G.Q9 ρ a4 a5 a6 (fun w2_0 =>
 bif w2_0 then
 G.strings_ContainsAny ρ w0_1 ([66, 98]) (fun w3_0 =>
 bif w3_0 then
 bif ((w0_1 : Bys) != []) then
 G.Q9 ρ a1 a2 a3 (fun w4_0 =>
 bif w4_0 then
 G.Q09 ρ a0 a1 a2 a3 a4 a5 a6 a7 a8 a9 (fun w5_0 =>
 bif w5_0 then
 bif ((a9 : Int) == 0) then
 k0 true
 else G.strings_Contains ρ w0_1 [87] (fun w6_0 =>
 bif w6_0 then
 k0 true
 else k0 false)
 else k0 false)
 else k0 false)
 else k0 false
 else bif ((w0_1 : Bys) != []) then
 G.Q9 ρ a1 a2 a3 (fun w7_0 =>
 bif w7_0 then
 k0 false
 else k0 false)
 else k0 false)
 else bif ((w0_1 : Bys) != []) then
 G.Q9 ρ a1 a2 a3 (fun w8_0 =>
 bif w8_0 then
 k0 false
 else k0 false)
 else k0 false)
 else bif ((w0_1 : Bys) != []) then
 G.Q9 ρ a1 a2 a3 (fun w9_0 =>
 bif w9_0 then
 G.Q09 ρ a0 a1 a2 a3 a4 a5 a6 a7 a8 a9 (fun w10_0 =>
 bif w10_0 then
 bif ((a9 : Int) == 0) then
 k0 true
 else G.strings_Contains ρ w0_1 [87] (fun w11_0 =>
 bif w11_0 then
 k0 true
 else k0 false)
 else k0 false)
 else k0 false)
 else k0 false)
 else G.Q9 ρ a4 a5 a6 (fun w12_0 =>
 bif w12_0 then
 G.strings_ContainsAny ρ w0_1 ([66, 98]) (fun w13_0 =>
 bif w13_0 then
 bif ((w0_1 : Bys) != []) then
 G.Q9 ρ a1 a2 a3 (fun w14_0 =>
 bif w14_0 then
 G.Q09 ρ a0 a1 a2 a3 a4 a5 a6 a7 a8 a9 (fun w15_0 =>
 bif w15_0 then
 bif ((a9 : Int) == 0) then
 k0 true
 else G.strings_Contains ρ w0_1 [87] (fun w16_0 =>
 bif w16_0 then
 k0 true
 else k0 false)
 else k0 false)
 else k0 false)
 else k0 false
 else bif ((w0_1 : Bys) != []) then
 G.Q9 ρ a1 a2 a3 (fun w17_0 =>
 bif w17_0 then
 k0 false
 else k0 false)
 else k0 false)
 else bif ((w0_1 : Bys) != []) then
 G.Q9 ρ a1 a2 a3 (fun w18_0 =>
 bif w18_0 then
 k0 false
 else k0 false)
 else k0 false))
def Qx_g (n : Nat) : Qx_G := ⟨Q0c n, strings_Contains n, Q9 n, strings_ContainsAny n, Q09 n⟩
def Qx (n : Nat) : Qx_T := fun _ρ a0 a1 a2 a3 a4 a5 a6 a7 a8 a9 k0 => Qx_s (Qx_g n) n a0 a1 a2 a3 a4 a5 a6 a7 a8 a9 k0
def Qx_e (n : Nat) : EK := Qx_E (Qx n)
def Qx_S (G : Qx_G) : CK := tabS [(69, Q0c_E G.Q0c), (70, strings_Contains_E G.strings_Contains), (71, Q9_E G.Q9), (72, strings_ContainsAny_E G.strings_ContainsAny), (73, Q09_E G.Q09)]
theorem Qx_Sok (n : Nat) : CK.OK (Qx_S (Qx_g n)) (L tab) := tabS_ok _ (List.forall_mem_cons.2 ⟨(Q0c_ok n), List.forall_mem_cons.2 ⟨(strings_Contains_ok n), List.forall_mem_cons.2 ⟨(Q9_ok n), List.forall_mem_cons.2 ⟨(strings_ContainsAny_ok n), List.forall_mem_cons.2 ⟨(Q09_ok n), (fun _ h => nomatch h)⟩⟩⟩⟩⟩)
def Qx_hs : HintC := hintL []
def Qx_lp (_G : Qx_G) (_n : Nat) : LK := tabL []
theorem Qx_k (G : Qx_G) {ρ : Type} (n : Nat) (a0 : Int) (a1 a2 : Bool) (a3 : Rows) (a4 a5 : Bool) (a6 : Rows) (a7 a8 a9 : Int) (K : Res → Option ρ) : runC (Qx_S G) Qx_hs (Qx_lp G n) m49 [.agg [.i .i64 a0, .lst a1 a2 1 a3, .lst a4 a5 1 a6, .i .i64 a7, .i .i64 a8, .i .u64 a9]] K = Qx_s G n a0 a1 a2 a3 a4 a5 a6 a7 a8 a9 (fun w0 => K ⟨.b w0, [], []⟩) := by kernel_rfl
theorem Qx_ok (n : Nat) : EK.OK (Qx_e n) 49 (L tab) := EK.shp (fun _ _ _ => rfl) fun ρ K y c e => EK.run (Qx_Sok n) (by kernel_rfl) (MF.LKOK.of (LK.of (l := []) (by kernel_rfl) ((fun _ h => nomatch h)))) (Qx_k (Qx_g n) n _ _ _ _ _ _ _ _ _ _ K) (by kernel_rfl) e
abbrev cap_None_T : Type 1 := (ρ : Type) → Int → Int → Int → Int → (Bool → Option ρ) → Option ρ
def cap_None_E (G : cap_None_T) : EK := fun ρ args K => decL [.agg [.i .i64 none, .i .i64 none, .i .i64 none, .i .i64 none]] args fun c => G ρ c.1.1 c.1.2.1 c.1.2.2.1 c.1.2.2.2.1 (fun w0 => K ⟨.b w0, [], []⟩)
structure cap_None_G where
 mk ::
def cap_None_s (_G : cap_None_G) {ρ : Type} (_n : Nat) (a0 a1 : Int) (a2 a3 : Int) (k0 : (Bool → Option ρ)) : Option ρ :=
 bif (((a0 : Int) == 0) && (((a1 : Int) == 0) && (((a2 : Int) == 0) && (((a3 : Int) == 0) && true)))) then
 k0 true
 else k0 false
def cap_None_g (_n : Nat) : cap_None_G := ⟨⟩
def cap_None (n : Nat) : cap_None_T := fun _ρ a0 a1 a2 a3 k0 => cap_None_s (cap_None_g n) n a0 a1 a2 a3 k0
def cap_None_e (n : Nat) : EK := cap_None_E (cap_None n)
def cap_None_S (_G : cap_None_G) : CK := tabS []
theorem cap_None_Sok (n : Nat) : CK.OK (cap_None_S (cap_None_g n)) (L tab) := tabS_ok _ ((fun _ h => nomatch h))
def cap_None_hs : HintC := hintL []
def cap_None_lp (_G : cap_None_G) (_n : Nat) : LK := tabL []
theorem cap_None_k (G : cap_None_G) {ρ : Type} (n : Nat) (a0 a1 : Int) (a2 a3 : Int) (K : Res → Option ρ) : runC (cap_None_S G) cap_None_hs (cap_None_lp G n) m21 [.agg [.i .i64 a0, .i .i64 a1, .i .i64 a2, .i .i64 a3]] K = cap_None_s G n a0 a1 a2 a3 (fun w0 => K ⟨.b w0, [], []⟩) := by kernel_rfl
theorem cap_None_ok (n : Nat) : EK.OK (cap_None_e n) 21 (L tab) := EK.shp (fun _ _ _ => rfl) fun ρ K y c e => EK.run (cap_None_Sok n) (by kernel_rfl) (MF.LKOK.of (LK.of (l := []) (by kernel_rfl) ((fun _ h => nomatch h)))) (cap_None_k (cap_None_g n) n _ _ _ _ K) (by kernel_rfl) e
abbrev cap_in_T : Type 1 := (ρ : Type) → Int → Int → Int → (Bool → Option ρ) → Option ρ
def cap_in_E (G : cap_in_T) : EK := fun ρ args K => decL [.i .i64 none, .i .i64 none, .i .i64 none] args fun c => G ρ c.1 c.2.1 c.2.2.1 (fun w0 => K ⟨.b w0, [], []⟩)
structure cap_in_G where
 mk ::
def cap_in_s (_G : cap_in_G) {ρ : Type} (_n : Nat) (a0 a1 a2 : Int) (k0 : (Bool → Option ρ)) : Option ρ :=
 bif decide ((a0 : Int) ≥ a1) then
 bif decide ((a0 : Int) ≤ a2) then
 k0 true
 else k0 false
 else k0 false
def cap_in_g (_n : Nat) : cap_in_G := ⟨⟩
def cap_in (n : Nat) : cap_in_T := fun _ρ a0 a1 a2 k0 => cap_in_s (cap_in_g n) n a0 a1 a2 k0
def cap_in_e (n : Nat) : EK := cap_in_E (cap_in n)
def cap_in_S (_G : cap_in_G) : CK := tabS []
theorem cap_in_Sok (n : Nat) : CK.OK (cap_in_S (cap_in_g n)) (L tab) := tabS_ok _ ((fun _ h => nomatch h))
def cap_in_hs : HintC := hintL []
def cap_in_lp (_G : cap_in_G) (_n : Nat) : LK := tabL []
theorem cap_in_k (G : cap_in_G) {ρ : Type} (n : Nat) (a0 a1 a2 : Int) (K : Res → Option ρ) : runC (cap_in_S G) cap_in_hs (cap_in_lp G n) m62 [.i .i64 a0, .i .i64 a1, .i .i64 a2] K = cap_in_s G n a0 a1 a2 (fun w0 => K ⟨.b w0, [], []⟩) := by kernel_rfl
theorem cap_in_ok (n : Nat) : EK.OK (cap_in_e n) 62 (L tab) := EK.shp (fun _ _ _ => rfl) fun ρ K y c e => EK.run (cap_in_Sok n) (by kernel_rfl) (MF.LKOK.of (LK.of (l := []) (by kernel_rfl) ((fun _ h => nomatch h)))) (cap_in_k (cap_in_g n) n _ _ _ K) (by kernel_rfl) e
abbrev right_Badge_T : Type 1 := (ρ : Type) → Int → (Bool → Option ρ) → Option ρ
def right_Badge_E (G : right_Badge_T) : EK := fun ρ args K => decL [.i .i64 none] args fun c => G ρ c.1 (fun w0 => K ⟨.b w0, [], []⟩)
structure right_Badge_G where
 mk ::
def right_Badge_s (_G : right_Badge_G) {ρ : Type} (_n : Nat) (a0 : Int) (k0 : (Bool → Option ρ)) : Option ρ :=
 bif decide ((a0 : Int) ≥ 0) then
 bif decide ((a0 : Int) ≤ 65535) then
 k0 true
 else k0 false
 else k0 false
def right_Badge_g (_n : Nat) : right_Badge_G := ⟨⟩
def right_Badge (n : Nat) : right_Badge_T := fun _ρ a0 k0 => right_Badge_s (right_Badge_g n) n a0 k0
def right_Badge_e (n : Nat) : EK := right_Badge_E (right_Badge n)
def right_Badge_S (_G : right_Badge_G) : CK := tabS []
theorem right_Badge_Sok (n : Nat) : CK.OK (right_Badge_S (right_Badge_g n)) (L tab) := tabS_ok _ ((fun _ h => nomatch h))
def right_Badge_hs : HintC := hintL []
def right_Badge_lp (_G : right_Badge_G) (_n : Nat) : LK := tabL []
theorem right_Badge_k (G : right_Badge_G) {ρ : Type} (n : Nat) (a0 : Int) (K : Res → Option ρ) : runC (right_Badge_S G) right_Badge_hs (right_Badge_lp G n) m64 [.i .i64 a0] K = right_Badge_s G n a0 (fun w0 => K ⟨.b w0, [], []⟩) := by kernel_rfl
theorem right_Badge_ok (n : Nat) : EK.OK (right_Badge_e n) 64 (L tab) := EK.shp (fun _ _ _ => rfl) fun ρ K y c e => EK.run (right_Badge_Sok n) (by kernel_rfl) (MF.LKOK.of (LK.of (l := []) (by kernel_rfl) ((fun _ h => nomatch h)))) (right_Badge_k (right_Badge_g n) n _ K) (by kernel_rfl) e
abbrev cap_badged_T : Type 1 := (ρ : Type) → Int → (Bool → Option ρ) → Option ρ
def cap_badged_E (G : cap_badged_T) : EK := fun ρ args K => decL [.i .i64 none] args fun c => G ρ c.1 (fun w0 => K ⟨.b w0, [], []⟩)
structure cap_badged_G where
 mk ::
def cap_badged_s (_G : cap_badged_G) {ρ : Type} (_n : Nat) (a0 : Int) (k0 : (Bool → Option ρ)) : Option ρ :=
 bif ((a0 : Int) == 3) then
 k0 true
 else bif ((a0 : Int) == 4) then
 k0 true
 else k0 false
def cap_badged_g (_n : Nat) : cap_badged_G := ⟨⟩
def cap_badged (n : Nat) : cap_badged_T := fun _ρ a0 k0 => cap_badged_s (cap_badged_g n) n a0 k0
def cap_badged_e (n : Nat) : EK := cap_badged_E (cap_badged n)
def cap_badged_S (_G : cap_badged_G) : CK := tabS []
theorem cap_badged_Sok (n : Nat) : CK.OK (cap_badged_S (cap_badged_g n)) (L tab) := tabS_ok _ ((fun _ h => nomatch h))
def cap_badged_hs : HintC := hintL []
def cap_badged_lp (_G : cap_badged_G) (_n : Nat) : LK := tabL []
theorem cap_badged_k (G : cap_badged_G) {ρ : Type} (n : Nat) (a0 : Int) (K : Res → Option ρ) : runC (cap_badged_S G) cap_badged_hs (cap_badged_lp G n) m65 [.i .i64 a0] K = cap_badged_s G n a0 (fun w0 => K ⟨.b w0, [], []⟩) := by kernel_rfl
theorem cap_badged_ok (n : Nat) : EK.OK (cap_badged_e n) 65 (L tab) := EK.shp (fun _ _ _ => rfl) fun ρ K y c e => EK.run (cap_badged_Sok n) (by kernel_rfl) (MF.LKOK.of (LK.of (l := []) (by kernel_rfl) ((fun _ h => nomatch h)))) (cap_badged_k (cap_badged_g n) n _ K) (by kernel_rfl) e
abbrev Qj_T : Type 1 := (ρ : Type) → Int → Int → Int → Int → (Bool → Option ρ) → Option ρ
def Qj_E (G : Qj_T) : EK := fun ρ args K => decL [.agg [.i .i64 none, .i .i64 none, .i .i64 none, .i .i64 none]] args fun c => G ρ c.1.1 c.1.2.1 c.1.2.2.1 c.1.2.2.2.1 (fun w0 => K ⟨.b w0, [], []⟩)
structure Qj_G where
 mk ::
 cap_None : cap_None_T
 cap_in : cap_in_T
 right_Good : right_Good_T
 right_Badge : right_Badge_T
 cap_badged : cap_badged_T
def Qj_s (G : Qj_G) {ρ : Type} (_n : Nat) (a0 a1 : Int) (a2 a3 : Int) (k0 : (Bool → Option ρ)) : Option ρ :=
 G.cap_None ρ a0 a1 a2 a3 (fun w0_0 =>
 bif w0_0 then
 k0 true
 else G.cap_in ρ a0 1 5 (fun w1_0 =>
 bif w1_0 then
 G.cap_in ρ a1 0 47 (fun w2_0 =>
 bif w2_0 then
 G.right_Good ρ a2 (fun w3_0 =>
 bif w3_0 then
 G.right_Badge ρ a3 (fun w4_0 =>
 bif w4_0 then
 bif ((a3 : Int) == 0) then
 k0 true
 else G.cap_badged ρ a0 (fun w5_0 =>
 bif w5_0 then
 k0 true
 else k0 false)
 else k0 false)
 else k0 false)
 else k0 false)
 else k0 false))
def Qj_g (n : Nat) : Qj_G := ⟨cap_None n, cap_in n, right_Good n, right_Badge n, cap_badged n⟩
def Qj (n : Nat) : Qj_T := fun _ρ a0 a1 a2 a3 k0 => Qj_s (Qj_g n) n a0 a1 a2 a3 k0
def Qj_e (n : Nat) : EK := Qj_E (Qj n)
def Qj_S (G : Qj_G) : CK := tabS [(21, cap_None_E G.cap_None), (62, cap_in_E G.cap_in), (63, right_Good_E G.right_Good), (64, right_Badge_E G.right_Badge), (65, cap_badged_E G.cap_badged)]
theorem Qj_Sok (n : Nat) : CK.OK (Qj_S (Qj_g n)) (L tab) := tabS_ok _ (List.forall_mem_cons.2 ⟨(cap_None_ok n), List.forall_mem_cons.2 ⟨(cap_in_ok n), List.forall_mem_cons.2 ⟨(right_Good_ok n), List.forall_mem_cons.2 ⟨(right_Badge_ok n), List.forall_mem_cons.2 ⟨(cap_badged_ok n), (fun _ h => nomatch h)⟩⟩⟩⟩⟩)
def Qj_hs : HintC := hintL []
def Qj_lp (_G : Qj_G) (_n : Nat) : LK := tabL []
theorem Qj_k (G : Qj_G) {ρ : Type} (n : Nat) (a0 a1 : Int) (a2 a3 : Int) (K : Res → Option ρ) : runC (Qj_S G) Qj_hs (Qj_lp G n) m43 [.agg [.i .i64 a0, .i .i64 a1, .i .i64 a2, .i .i64 a3]] K = Qj_s G n a0 a1 a2 a3 (fun w0 => K ⟨.b w0, [], []⟩) := by kernel_rfl
theorem Qj_ok (n : Nat) : EK.OK (Qj_e n) 43 (L tab) := EK.shp (fun _ _ _ => rfl) fun ρ K y c e => EK.run (Qj_Sok n) (by kernel_rfl) (MF.LKOK.of (LK.of (l := []) (by kernel_rfl) ((fun _ h => nomatch h)))) (Qj_k (Qj_g n) n _ _ _ _ K) (by kernel_rfl) e
abbrev state_State_there_T : Type 1 := (ρ : Type) → Int → Int → Int → Bool → Bool → Rows → Bool → Bool → Rows → Int → (Bool → Option ρ) → Option ρ
def state_State_there_E (G : state_State_there_T) : EK := fun ρ args K => decL [.agg [.i .i64 none, .i .i64 none, .i .i64 none, .lst none none 5 none, .lst none none 13 none], .i .i64 none] args fun c => G ρ c.1.1 c.1.2.1 c.1.2.2.1 c.1.2.2.2.1.1 c.1.2.2.2.1.2.1 c.1.2.2.2.1.2.2 c.1.2.2.2.2.1.1 c.1.2.2.2.2.1.2.1 c.1.2.2.2.2.1.2.2 c.2.1 (fun w0 => K ⟨.b w0, [], []⟩)
structure state_State_there_G where
 mk ::
def state_State_there_s (_G : state_State_there_G) {ρ : Type} (_n : Nat) (_a0 _a1 _a2 : Int) (_a3 _a4 : Bool) (_a5 : Rows) (_a6 _a7 : Bool) (a8 : Rows) (a9 : Int) (k0 : (Bool → Option ρ)) : Option ρ :=
 bif decide ((a9 : Int) ≥ 0) then
 bif decide ((a9 : Int) < (((List.length (a8 : Rows)) : Nat) : Int)) then
 rowT [.i .i64, .i .i64, .i .i64, .i .i64, .i .i64, .i .i64, .i .i64, .b, .i .u64, .i .u64, .i .u64, .i .u64, .i .u64] a8 a9 fun c0 =>
 bif ((c0.1 : Int) != 0) then
 k0 true
 else k0 false
 else k0 false
 else k0 false
def state_State_there_g (_n : Nat) : state_State_there_G := ⟨⟩
def state_State_there (n : Nat) : state_State_there_T := fun _ρ a0 a1 a2 a3 a4 a5 a6 a7 a8 a9 k0 => state_State_there_s (state_State_there_g n) n a0 a1 a2 a3 a4 a5 a6 a7 a8 a9 k0
def state_State_there_e (n : Nat) : EK := state_State_there_E (state_State_there n)
def state_State_there_S (_G : state_State_there_G) : CK := tabS []
theorem state_State_there_Sok (n : Nat) : CK.OK (state_State_there_S (state_State_there_g n)) (L tab) := tabS_ok _ ((fun _ h => nomatch h))
def state_State_there_hs : HintC := hintL [(18, [.i .i64, .i .i64, .i .i64, .i .i64, .i .i64, .i .i64, .i .i64, .b, .i .u64, .i .u64, .i .u64, .i .u64, .i .u64])]
def state_State_there_lp (_G : state_State_there_G) (_n : Nat) : LK := tabL []
theorem state_State_there_k (G : state_State_there_G) {ρ : Type} (n : Nat) (a0 a1 a2 : Int) (a3 a4 : Bool) (a5 : Rows) (a6 a7 : Bool) (a8 : Rows) (a9 : Int) (K : Res → Option ρ) : runC (state_State_there_S G) state_State_there_hs (state_State_there_lp G n) m44 [.agg [.i .i64 a0, .i .i64 a1, .i .i64 a2, .lst a3 a4 5 a5, .lst a6 a7 13 a8], .i .i64 a9] K = state_State_there_s G n a0 a1 a2 a3 a4 a5 a6 a7 a8 a9 (fun w0 => K ⟨.b w0, [], []⟩) := by kernel_rfl
theorem state_State_there_ok (n : Nat) : EK.OK (state_State_there_e n) 44 (L tab) := EK.shp (fun _ _ _ => rfl) fun ρ K y c e => EK.run (state_State_there_Sok n) (by kernel_rfl) (MF.LKOK.of (LK.of (l := []) (by kernel_rfl) ((fun _ h => nomatch h)))) (state_State_there_k (state_State_there_g n) n _ _ _ _ _ _ _ _ _ _ K) (by kernel_rfl) e
end Go.Rv
namespace Go.Rv
abbrev Qg_T : Type 1 := (ρ : Type) → Int → Int → Int → Bool → Bool → Rows → Bool → Bool → Rows → (Bool → Option ρ) → Option ρ
def Qg_E (G : Qg_T) : EK := fun ρ args K => decL [.agg [.i .i64 none, .i .i64 none, .i .i64 none, .lst none none 5 none, .lst none none 13 none]] args fun c => G ρ c.1.1 c.1.2.1 c.1.2.2.1 c.1.2.2.2.1.1 c.1.2.2.2.1.2.1 c.1.2.2.2.1.2.2 c.1.2.2.2.2.1.1 c.1.2.2.2.2.1.2.1 c.1.2.2.2.2.1.2.2 (fun w0 => K ⟨.b w0, [], []⟩)
structure Qg_G where
 mk ::
 Qj : Qj_T
 cap_None : cap_None_T
 state_State_there : state_State_there_T
abbrev Qg_l2_V : Type := Int
def Qg_l2_s (G : Qg_G) {ρ : Type} (_n : Nat) (_p0 _p1 : Bool) (p2 : Rows) (p3 p4 : Int) (p5 p6 : Int) (p7 p8 : Bool) (p9 : Rows) (p10 p11 : Bool) (p12 : Rows) (k0 : (Option ρ)) (k1 : (Option ρ)) (rec' : Qg_l2_V → Option ρ) : Qg_l2_V → Option ρ
 | v =>
 bif decide ((v : Int) < p3) then
 rowT [.i .i64, .i .i64, .i .i64, .i .i64, .i .i64] p2 v fun c0 =>
 G.Qj ρ c0.1 c0.2.1 c0.2.2.1 c0.2.2.2.1 (fun w1_0 =>
 bif w1_0 then
 G.cap_None ρ c0.1 c0.2.1 c0.2.2.1 c0.2.2.2.1 (fun w2_0 =>
 bif w2_0 then
 bif ((c0.2.2.2.2.1 : Int) != (-1)) then
 k0
 else G.cap_None ρ c0.1 c0.2.1 c0.2.2.1 c0.2.2.2.1 (fun w3_0 =>
 bif w3_0 then
 G.cap_None ρ c0.1 c0.2.1 c0.2.2.1 c0.2.2.2.1 (fun w4_0 =>
 bif w4_0 then
 rec' ((IntKind.wrap .i64 (v + 1)))
 else G.state_State_there ρ p4 p5 p6 p7 p8 p9 p10 p11 p12 c0.2.1 (fun w5_0 =>
 bif w5_0 then
 rowT [.i .i64, .i .i64, .i .i64, .i .i64, .i .i64, .i .i64, .i .i64, .b, .i .u64, .i .u64, .i .u64, .i .u64, .i .u64] p12 c0.2.1 fun c6 =>
 bif ((c6.1 : Int) != c0.1) then
 k0
 else rec' ((IntKind.wrap .i64 (v + 1)))
 else k0))
 else bif decide ((c0.2.2.2.2.1 : Int) < (-1)) then
 k0
 else G.cap_None ρ c0.1 c0.2.1 c0.2.2.1 c0.2.2.2.1 (fun w7_0 =>
 bif w7_0 then
 rec' ((IntKind.wrap .i64 (v + 1)))
 else G.state_State_there ρ p4 p5 p6 p7 p8 p9 p10 p11 p12 c0.2.1 (fun w8_0 =>
 bif w8_0 then
 rowT [.i .i64, .i .i64, .i .i64, .i .i64, .i .i64, .i .i64, .i .i64, .b, .i .u64, .i .u64, .i .u64, .i .u64, .i .u64] p12 c0.2.1 fun c9 =>
 bif ((c9.1 : Int) != c0.1) then
 k0
 else rec' ((IntKind.wrap .i64 (v + 1)))
 else k0)))
 else G.cap_None ρ c0.1 c0.2.1 c0.2.2.1 c0.2.2.2.1 (fun w10_0 =>
 bif w10_0 then
 G.cap_None ρ c0.1 c0.2.1 c0.2.2.1 c0.2.2.2.1 (fun w11_0 =>
 bif w11_0 then
 rec' ((IntKind.wrap .i64 (v + 1)))
 else G.state_State_there ρ p4 p5 p6 p7 p8 p9 p10 p11 p12 c0.2.1 (fun w12_0 =>
 bif w12_0 then
 rowT [.i .i64, .i .i64, .i .i64, .i .i64, .i .i64, .i .i64, .i .i64, .b, .i .u64, .i .u64, .i .u64, .i .u64, .i .u64] p12 c0.2.1 fun c13 =>
 bif ((c13.1 : Int) != c0.1) then
 k0
 else rec' ((IntKind.wrap .i64 (v + 1)))
 else k0))
 else bif decide ((c0.2.2.2.2.1 : Int) < (-1)) then
 k0
 else G.cap_None ρ c0.1 c0.2.1 c0.2.2.1 c0.2.2.2.1 (fun w14_0 =>
 bif w14_0 then
 rec' ((IntKind.wrap .i64 (v + 1)))
 else G.state_State_there ρ p4 p5 p6 p7 p8 p9 p10 p11 p12 c0.2.1 (fun w15_0 =>
 bif w15_0 then
 rowT [.i .i64, .i .i64, .i .i64, .i .i64, .i .i64, .i .i64, .i .i64, .b, .i .u64, .i .u64, .i .u64, .i .u64, .i .u64] p12 c0.2.1 fun c16 =>
 bif ((c16.1 : Int) != c0.1) then
 k0
 else rec' ((IntKind.wrap .i64 (v + 1)))
 else k0))))
 else k0)
 else k1
def Qg_l2 (G : Qg_G) {ρ : Type} (n : Nat) (p0 p1 : Bool) (p2 : Rows) (p3 p4 : Int) (p5 p6 : Int) (p7 p8 : Bool) (p9 : Rows) (p10 p11 : Bool) (p12 : Rows) (k0 : (Option ρ)) (k1 : (Option ρ)) (v : Qg_l2_V) : Option ρ := fuelN (Qg_l2_s G n p0 p1 p2 p3 p4 p5 p6 p7 p8 p9 p10 p11 p12 k0 k1) n v
def Qg_l2_enc (p0 p1 : Bool) (p2 : Rows) (p3 p4 : Int) (p5 p6 : Int) (p7 p8 : Bool) (p9 : Rows) (p10 p11 : Bool) (p12 : Rows) : Qg_l2_V → St
 | v => ⟨[(1, .ptr 0 1 5 0 0), (7, .lst p0 p1 5 p2), (8, .i .i64 p3), (9, .i .i64 v)], [.row 5 true false [[.i .i64 p4, .i .i64 p5, .i .i64 p6, .lst p7 p8 5 p9, .lst p10 p11 13 p12]]]⟩
def Qg_s (G : Qg_G) {ρ : Type} (n : Nat) (a0 a1 a2 : Int) (a3 a4 : Bool) (a5 : Rows) (a6 a7 : Bool) (a8 : Rows) (k0 : (Bool → Option ρ)) : Option ρ :=
 Qg_l2 G n a3 a4 a5 (((List.length (a5 : Rows)) : Nat) : Int) a0 a1 a2 a3 a4 a5 a6 a7 a8 (k0 false) (k0 true) (0)
def Qg_g (n : Nat) : Qg_G := ⟨Qj n, cap_None n, state_State_there n⟩
def Qg (n : Nat) : Qg_T := fun _ρ a0 a1 a2 a3 a4 a5 a6 a7 a8 k0 => Qg_s (Qg_g n) n a0 a1 a2 a3 a4 a5 a6 a7 a8 k0
def Qg_e (n : Nat) : EK := Qg_E (Qg n)
def Qg_S (G : Qg_G) : CK := tabS [(43, Qj_E G.Qj), (21, cap_None_E G.cap_None), (44, state_State_there_E G.state_State_there)]
theorem Qg_Sok (n : Nat) : CK.OK (Qg_S (Qg_g n)) (L tab) := tabS_ok _ (List.forall_mem_cons.2 ⟨(Qj_ok n), List.forall_mem_cons.2 ⟨(cap_None_ok n), List.forall_mem_cons.2 ⟨(state_State_there_ok n), (fun _ h => nomatch h)⟩⟩⟩)
def Qg_hs : HintC := hintL [(11, [.i .i64, .i .i64, .i .i64, .i .i64, .i .i64]), (50, [.i .i64, .i .i64, .i .i64, .i .i64, .i .i64, .i .i64, .i .i64, .b, .i .u64, .i .u64, .i .u64, .i .u64, .i .u64])]
def Qg_c2 : Nat × List Nat × List Nat × MC := loopAt 2 m26
def Qg_l2_d (G : Qg_G) (n : Nat) : Go.Rv.LE := fun _ρ h K => decSt [(1, .ptr 0 5 0 (some 1) (some 0)), (7, .lst none none 5 none), (8, .i .i64 none), (9, .i .i64 none)] [.row 5 true false (some [[.i .i64 none, .i .i64 none, .i .i64 none, .lst none none 5 none, .lst none none 13 none]])] h fun a b => Qg_l2 G n a.2.1.1 a.2.1.2.1 a.2.1.2.2 a.2.2.1 b.1.1.1 b.1.1.2.1 b.1.1.2.2.1 b.1.1.2.2.2.1.1 b.1.1.2.2.2.1.2.1 b.1.1.2.2.2.1.2.2 b.1.1.2.2.2.2.1.1 b.1.1.2.2.2.2.1.2.1 b.1.1.2.2.2.2.1.2.2 (K .ret ⟨[(2, .b false)], [.row 5 true false [[.i .i64 b.1.1.1, .i .i64 b.1.1.2.1, .i .i64 b.1.1.2.2.1, .lst b.1.1.2.2.2.1.1 b.1.1.2.2.2.1.2.1 5 b.1.1.2.2.2.1.2.2, .lst b.1.1.2.2.2.2.1.1 b.1.1.2.2.2.2.1.2.1 13 b.1.1.2.2.2.2.1.2.2]]]⟩) (K (.exit 0) ⟨[(2, .u)], [.row 5 true false [[.i .i64 b.1.1.1, .i .i64 b.1.1.2.1, .i .i64 b.1.1.2.2.1, .lst b.1.1.2.2.2.1.1 b.1.1.2.2.2.1.2.1 5 b.1.1.2.2.2.1.2.2, .lst b.1.1.2.2.2.2.1.1 b.1.1.2.2.2.2.1.2.1 13 b.1.1.2.2.2.2.1.2.2]]]⟩) (a.2.2.2.1)
def Qg_d2 (G : Qg_G) (n : Nat) : Go.Rv.LE := Qg_l2_d G n
def Qg_lp (G : Qg_G) (n : Nat) : LK := tabL [(2, Qg_d2 G n)]
theorem Qg_l2_k (G : Qg_G) {ρ : Type} (n : Nat) (p0 p1 : Bool) (p2 : Rows) (p3 p4 : Int) (p5 p6 : Int) (p7 p8 : Bool) (p9 : Rows) (p10 p11 : Bool) (p12 : Rows) (K : Ex → St → Option ρ) (N : St → Option ρ) : ∀ v, roundC (Qg_S G) Qg_hs (Qg_lp G n) Qg_c2 1 N K (Qg_l2_enc p0 p1 p2 p3 p4 p5 p6 p7 p8 p9 p10 p11 p12 v) = Qg_l2_s G n p0 p1 p2 p3 p4 p5 p6 p7 p8 p9 p10 p11 p12 (K .ret ⟨[(2, .b false)], [.row 5 true false [[.i .i64 p4, .i .i64 p5, .i .i64 p6, .lst p7 p8 5 p9, .lst p10 p11 13 p12]]]⟩) (K (.exit 0) ⟨[(2, .u)], [.row 5 true false [[.i .i64 p4, .i .i64 p5, .i .i64 p6, .lst p7 p8 5 p9, .lst p10 p11 13 p12]]]⟩) (fun v => N (Qg_l2_enc p0 p1 p2 p3 p4 p5 p6 p7 p8 p9 p10 p11 p12 v)) v
 | v => by kernel_rfl
theorem Qg_l2_dok (n : Nat) : LE.OK (Qg_l2_d (Qg_g n) n) (L tab) Qg_c2 := LE.shp (fun _ _ _ => rfl) fun ρ K y a b e => LE.rounds (Qg_Sok n) (LK.of (l := []) (by kernel_rfl) ((fun _ h => nomatch h))) (Qg_l2_k (Qg_g n) n _ _ _ _ _ _ _ _ _ _ _ _ _ K) (by kernel_rfl) (by kernel_rfl) e
theorem Qg_d2_ok (n : Nat) : LE.OK (Qg_d2 (Qg_g n) n) (L tab) Qg_c2 := Qg_l2_dok n
theorem Qg_k (G : Qg_G) {ρ : Type} (n : Nat) (a0 a1 a2 : Int) (a3 a4 : Bool) (a5 : Rows) (a6 a7 : Bool) (a8 : Rows) (K : Res → Option ρ) : runC (Qg_S G) Qg_hs (Qg_lp G n) m26 [.agg [.i .i64 a0, .i .i64 a1, .i .i64 a2, .lst a3 a4 5 a5, .lst a6 a7 13 a8]] K = Qg_s G n a0 a1 a2 a3 a4 a5 a6 a7 a8 (fun w0 => K ⟨.b w0, [], []⟩) := by kernel_rfl
theorem Qg_ok (n : Nat) : EK.OK (Qg_e n) 26 (L tab) := EK.shp (fun _ _ _ => rfl) fun ρ K y c e => EK.run (Qg_Sok n) (by kernel_rfl) (MF.LKOK.of (LK.of (l := [Qg_c2]) (by kernel_rfl) (List.forall_mem_cons.2 ⟨LE.at (e := Qg_d2 (Qg_g n) n) (by kernel_rfl) (Qg_d2_ok n), (fun _ h => nomatch h)⟩))) (Qg_k (Qg_g n) n _ _ _ _ _ _ _ _ _ K) (by kernel_rfl) e
abbrev Q6_T : Type 1 := (ρ : Type) → Int → Int → Int → Bool → Bool → Rows → Bool → Bool → Rows → Int → (Bool → Bool → Rows → Option ρ) → Option ρ
def Q6_E (G : Q6_T) : EK := fun ρ args K => decL [.agg [.i .i64 none, .i .i64 none, .i .i64 none, .lst none none 5 none, .lst none none 13 none], .i .i64 none] args fun c => G ρ c.1.1 c.1.2.1 c.1.2.2.1 c.1.2.2.2.1.1 c.1.2.2.2.1.2.1 c.1.2.2.2.1.2.2 c.1.2.2.2.2.1.1 c.1.2.2.2.2.1.2.1 c.1.2.2.2.2.1.2.2 c.2.1 (fun w0 w1 w2 => K ⟨.lst w0 w1 1 w2, [], []⟩)
structure Q6_G where
 mk ::
 cap_None : cap_None_T
abbrev Q6_l3_V : Type := (Int) ⊕ (Nat × Nat × Int × Rows)
def Q6_l3_s (G : Q6_G) {ρ : Type} (_n : Nat) (p0 : Int) (_p1 _p2 : Bool) (p3 : Rows) (p4 _p5 : Int) (_p6 _p7 : Int) (_p8 _p9 : Bool) (_p10 : Rows) (_p11 _p12 : Bool) (_p13 : Rows) (k0 : (Option ρ)) (k1 : (Nat → Nat → Rows → Option ρ)) (rec' : Q6_l3_V → Option ρ) : Q6_l3_V → Option ρ
 | (.inl v) =>
 bif decide ((v : Int) < p4) then
 rowT [.i .i64, .i .i64, .i .i64, .i .i64, .i .i64] p3 v fun c0 =>
 G.cap_None ρ c0.1 c0.2.1 c0.2.2.1 c0.2.2.2.1 (fun w1_0 =>
 bif w1_0 then
 rec' (.inl ((IntKind.wrap .i64 (v + 1))))
 else bif ((c0.2.1 : Int) == p0) then
 rec' (.inr (1, 1, (IntKind.wrap .i64 (v + 1)), [[.i .i64 v]]))
 else rec' (.inl ((IntKind.wrap .i64 (v + 1)))))
 else k0
 | (.inr v) =>
 bif decide ((v.2.2.1 : Int) < p4) then
 rowT [.i .i64, .i .i64, .i .i64, .i .i64, .i .i64] p3 v.2.2.1 fun c2 =>
 G.cap_None ρ c2.1 c2.2.1 c2.2.2.1 c2.2.2.2.1 (fun w3_0 =>
 bif w3_0 then
 rec' (.inr (v.1, v.2.1, (IntKind.wrap .i64 (v.2.2.1 + 1)), v.2.2.2))
 else bif ((c2.2.1 : Int) == p0) then
 chk (((List.length (v.2.2.2 : Rows)) : Nat) == v.1) <|
 chk ((v.2.1 : Nat) == v.1) <|
 chk (decide ((v.1 + 1) ≤ most)) <|
 rec' (.inr ((v.1 + 1), (v.1 + 1), (IntKind.wrap .i64 (v.2.2.1 + 1)), (v.2.2.2 ++ [[.i .i64 v.2.2.1]])))
 else rec' (.inr (v.1, v.2.1, (IntKind.wrap .i64 (v.2.2.1 + 1)), v.2.2.2)))
 else k1 v.1 v.2.1 v.2.2.2
def Q6_l3 (G : Q6_G) {ρ : Type} (n : Nat) (p0 : Int) (p1 p2 : Bool) (p3 : Rows) (p4 p5 : Int) (p6 p7 : Int) (p8 p9 : Bool) (p10 : Rows) (p11 p12 : Bool) (p13 : Rows) (k0 : (Option ρ)) (k1 : (Nat → Nat → Rows → Option ρ)) (v : Q6_l3_V) : Option ρ := fuelN (Q6_l3_s G n p0 p1 p2 p3 p4 p5 p6 p7 p8 p9 p10 p11 p12 p13 k0 k1) n v
def Q6_l3_enc (p0 : Int) (p1 p2 : Bool) (p3 : Rows) (p4 p5 : Int) (p6 p7 : Int) (p8 p9 : Bool) (p10 : Rows) (p11 p12 : Bool) (p13 : Rows) : Q6_l3_V → St
 | (.inl v) => ⟨[(1, .i .i64 p0), (5, .lst true true 0 []), (9, .lst p1 p2 5 p3), (10, .i .i64 p4), (11, .i .i64 v)], [.row 5 true false [[.i .i64 p5, .i .i64 p6, .i .i64 p7, .lst p8 p9 5 p10, .lst p11 p12 13 p13]]]⟩
 | (.inr v) => ⟨[(1, .i .i64 p0), (5, .sl 1 v.1 1 0 v.2.1), (9, .lst p1 p2 5 p3), (10, .i .i64 p4), (11, .i .i64 v.2.2.1)], [.row 5 true false [[.i .i64 p5, .i .i64 p6, .i .i64 p7, .lst p8 p9 5 p10, .lst p11 p12 13 p13]], .row 1 true false v.2.2.2]⟩
def Q6_s (G : Q6_G) {ρ : Type} (n : Nat) (a0 a1 a2 : Int) (a3 a4 : Bool) (a5 : Rows) (a6 a7 : Bool) (a8 : Rows) (a9 : Int) (k0 : (Bool → Bool → Rows → Option ρ)) : Option ρ :=
 Q6_l3 G n a9 a3 a4 a5 (((List.length (a5 : Rows)) : Nat) : Int) a0 a1 a2 a3 a4 a5 a6 a7 a8 (k0 true true []) (fun w1_0 w1_1 w1_2 =>
 chk (((List.length (w1_2 : Rows)) : Nat) == w1_0) <|
 k0 false false (List.take w1_1 (List.drop 0 (w1_2 : Rows)))) (.inl (0))
def Q6_g (n : Nat) : Q6_G := ⟨cap_None n⟩
def Q6 (n : Nat) : Q6_T := fun _ρ a0 a1 a2 a3 a4 a5 a6 a7 a8 a9 k0 => Q6_s (Q6_g n) n a0 a1 a2 a3 a4 a5 a6 a7 a8 a9 k0
def Q6_e (n : Nat) : EK := Q6_E (Q6 n)
def Q6_S (G : Q6_G) : CK := tabS [(21, cap_None_E G.cap_None)]
theorem Q6_Sok (n : Nat) : CK.OK (Q6_S (Q6_g n)) (L tab) := tabS_ok _ (List.forall_mem_cons.2 ⟨(cap_None_ok n), (fun _ h => nomatch h)⟩)
def Q6_hs : HintC := hintL [(14, [.i .i64, .i .i64, .i .i64, .i .i64, .i .i64])]
def Q6_c3 : Nat × List Nat × List Nat × MC := loopAt 3 m47
def Q6_l3_d (G : Q6_G) (n : Nat) : Go.Rv.LE := fun _ρ h K => decSt [(1, .i .i64 none), (5, .lst (some true) (some true) 0 (some [])), (9, .lst none none 5 none), (10, .i .i64 none), (11, .i .i64 none)] [.row 5 true false (some [[.i .i64 none, .i .i64 none, .i .i64 none, .lst none none 5 none, .lst none none 13 none]])] h fun a b => Q6_l3 G n a.1 a.2.2.1.1 a.2.2.1.2.1 a.2.2.1.2.2 a.2.2.2.1 b.1.1.1 b.1.1.2.1 b.1.1.2.2.1 b.1.1.2.2.2.1.1 b.1.1.2.2.2.1.2.1 b.1.1.2.2.2.1.2.2 b.1.1.2.2.2.2.1.1 b.1.1.2.2.2.2.1.2.1 b.1.1.2.2.2.2.1.2.2 (K (.exit 0) ⟨[(5, .lst true true 0 [])], [.row 5 true false [[.i .i64 b.1.1.1, .i .i64 b.1.1.2.1, .i .i64 b.1.1.2.2.1, .lst b.1.1.2.2.2.1.1 b.1.1.2.2.2.1.2.1 5 b.1.1.2.2.2.1.2.2, .lst b.1.1.2.2.2.2.1.1 b.1.1.2.2.2.2.1.2.1 13 b.1.1.2.2.2.2.1.2.2]]]⟩) (fun w0 w1 w2 => K (.exit 0) ⟨[(5, .sl 1 w0 1 0 w1)], [.row 5 true false [[.i .i64 b.1.1.1, .i .i64 b.1.1.2.1, .i .i64 b.1.1.2.2.1, .lst b.1.1.2.2.2.1.1 b.1.1.2.2.2.1.2.1 5 b.1.1.2.2.2.1.2.2, .lst b.1.1.2.2.2.2.1.1 b.1.1.2.2.2.2.1.2.1 13 b.1.1.2.2.2.2.1.2.2]], .row 1 true false w2]⟩) (.inl (a.2.2.2.2.1))
def Q6_d3 (G : Q6_G) (n : Nat) : Go.Rv.LE := Q6_l3_d G n
def Q6_lp (G : Q6_G) (n : Nat) : LK := tabL [(3, Q6_d3 G n)]
theorem Q6_l3_k (G : Q6_G) {ρ : Type} (n : Nat) (p0 : Int) (p1 p2 : Bool) (p3 : Rows) (p4 p5 : Int) (p6 p7 : Int) (p8 p9 : Bool) (p10 : Rows) (p11 p12 : Bool) (p13 : Rows) (K : Ex → St → Option ρ) (N : St → Option ρ) : ∀ v, roundC (Q6_S G) Q6_hs (Q6_lp G n) Q6_c3 1 N K (Q6_l3_enc p0 p1 p2 p3 p4 p5 p6 p7 p8 p9 p10 p11 p12 p13 v) = Q6_l3_s G n p0 p1 p2 p3 p4 p5 p6 p7 p8 p9 p10 p11 p12 p13 (K (.exit 0) ⟨[(5, .lst true true 0 [])], [.row 5 true false [[.i .i64 p5, .i .i64 p6, .i .i64 p7, .lst p8 p9 5 p10, .lst p11 p12 13 p13]]]⟩) (fun w0 w1 w2 => K (.exit 0) ⟨[(5, .sl 1 w0 1 0 w1)], [.row 5 true false [[.i .i64 p5, .i .i64 p6, .i .i64 p7, .lst p8 p9 5 p10, .lst p11 p12 13 p13]], .row 1 true false w2]⟩) (fun v => N (Q6_l3_enc p0 p1 p2 p3 p4 p5 p6 p7 p8 p9 p10 p11 p12 p13 v)) v
 | (.inl v) => by kernel_rfl
 | (.inr v) => by kernel_rfl
theorem Q6_l3_dok (n : Nat) : LE.OK (Q6_l3_d (Q6_g n) n) (L tab) Q6_c3 := LE.shp (fun _ _ _ => rfl) fun ρ K y a b e => LE.rounds (Q6_Sok n) (LK.of (l := []) (by kernel_rfl) ((fun _ h => nomatch h))) (Q6_l3_k (Q6_g n) n _ _ _ _ _ _ _ _ _ _ _ _ _ _ K) (by kernel_rfl) (by kernel_rfl) e
theorem Q6_d3_ok (n : Nat) : LE.OK (Q6_d3 (Q6_g n) n) (L tab) Q6_c3 := Q6_l3_dok n
theorem Q6_k (G : Q6_G) {ρ : Type} (n : Nat) (a0 a1 a2 : Int) (a3 a4 : Bool) (a5 : Rows) (a6 a7 : Bool) (a8 : Rows) (a9 : Int) (K : Res → Option ρ) : runC (Q6_S G) Q6_hs (Q6_lp G n) m47 [.agg [.i .i64 a0, .i .i64 a1, .i .i64 a2, .lst a3 a4 5 a5, .lst a6 a7 13 a8], .i .i64 a9] K = Q6_s G n a0 a1 a2 a3 a4 a5 a6 a7 a8 a9 (fun w0 w1 w2 => K ⟨.lst w0 w1 1 w2, [], []⟩) := by kernel_rfl
theorem Q6_ok (n : Nat) : EK.OK (Q6_e n) 47 (L tab) := EK.shp (fun _ _ _ => rfl) fun ρ K y c e => EK.run (Q6_Sok n) (by kernel_rfl) (MF.LKOK.of (LK.of (l := [Q6_c3]) (by kernel_rfl) (List.forall_mem_cons.2 ⟨LE.at (e := Q6_d3 (Q6_g n) n) (by kernel_rfl) (Q6_d3_ok n), (fun _ h => nomatch h)⟩))) (Q6_k (Q6_g n) n _ _ _ _ _ _ _ _ _ _ K) (by kernel_rfl) e
abbrev Qf_T : Type 1 := (ρ : Type) → Int → Int → Int → Bool → Bool → Rows → Bool → Bool → Rows → (Bool → Option ρ) → Option ρ
def Qf_E (G : Qf_T) : EK := fun ρ args K => decL [.agg [.i .i64 none, .i .i64 none, .i .i64 none, .lst none none 5 none, .lst none none 13 none]] args fun c => G ρ c.1.1 c.1.2.1 c.1.2.2.1 c.1.2.2.2.1.1 c.1.2.2.2.1.2.1 c.1.2.2.2.1.2.2 c.1.2.2.2.2.1.1 c.1.2.2.2.2.1.2.1 c.1.2.2.2.2.1.2.2 (fun w0 => K ⟨.b w0, [], []⟩)
structure Qf_G where
 mk ::
 Qn : Qn_T
 cap_None : cap_None_T
 Q6 : Q6_T
 Qp : Qp_T
abbrev Qf_l2_V : Type := Int
def Qf_l2_s (G : Qf_G) {ρ : Type} (_n : Nat) (_p0 _p1 : Bool) (p2 : Rows) (p3 p4 : Int) (p5 p6 : Int) (p7 p8 : Bool) (p9 : Rows) (p10 p11 : Bool) (p12 : Rows) (k0 : (Option ρ)) (k1 : (Option ρ)) (rec' : Qf_l2_V → Option ρ) : Qf_l2_V → Option ρ
 | v =>
 bif decide ((v : Int) < p3) then
 rowT [.i .i64, .i .i64, .i .i64, .i .i64, .i .i64, .i .i64, .i .i64, .b, .i .u64, .i .u64, .i .u64, .i .u64, .i .u64] p2 v fun c0 =>
 G.Qn ρ c0.1 c0.2.1 c0.2.2.1 c0.2.2.2.1 c0.2.2.2.2.1 c0.2.2.2.2.2.1 c0.2.2.2.2.2.2.1 c0.2.2.2.2.2.2.2.1 c0.2.2.2.2.2.2.2.2.1 c0.2.2.2.2.2.2.2.2.2.1 c0.2.2.2.2.2.2.2.2.2.2.1 c0.2.2.2.2.2.2.2.2.2.2.2.1 c0.2.2.2.2.2.2.2.2.2.2.2.2.1 (fun w1_0 =>
 bif w1_0 then
 bif decide ((c0.2.2.2.2.2.1 : Int) > 0) then
 bif decide ((c0.2.2.2.2.2.1 : Int) > (((List.length (p9 : Rows)) : Nat) : Int)) then
 k0
 else rowT [.i .i64, .i .i64, .i .i64, .i .i64, .i .i64] p9 (IntKind.wrap .i64 (c0.2.2.2.2.2.1 - 1)) fun c2 =>
 G.cap_None ρ c2.1 c2.2.1 c2.2.2.1 c2.2.2.2.1 (fun w3_0 =>
 bif w3_0 then
 k0
 else bif decide ((v : Int) ≥ 2) then
 bif decide ((v : Int) < (IntKind.wrap .i64 (2 + p4))) then
 G.Qp ρ p4 p5 p6 (IntKind.wrap .i64 (v - 2)) (fun w4_0 =>
 bif (!(((c0.1 : Int) == 2) && (((c0.2.1 : Int) == 3) && (((c0.2.2.1 : Int) == w4_0) && (((c0.2.2.2.1 : Int) == 0) && (((c0.2.2.2.2.1 : Int) == 0) && (((c0.2.2.2.2.2.1 : Int) == 0) && (((c0.2.2.2.2.2.2.1 : Int) == 0) && (((c0.2.2.2.2.2.2.2.1 : Bool) == false) && (((c0.2.2.2.2.2.2.2.2.1 : Int) == 0) && (((c0.2.2.2.2.2.2.2.2.2.1 : Int) == 0) && (((c0.2.2.2.2.2.2.2.2.2.2.1 : Int) == 0) && (((c0.2.2.2.2.2.2.2.2.2.2.2.1 : Int) == 0) && (((c0.2.2.2.2.2.2.2.2.2.2.2.2.1 : Int) == 0) && true)))))))))))))) then
 k0
 else rec' ((IntKind.wrap .i64 (v + 1))))
 else bif ((c0.1 : Int) != 0) then
 G.Q6 ρ p4 p5 p6 p7 p8 p9 p10 p11 p12 v (fun _w5_0 _w5_1 w5_2 =>
 bif (((((List.length (w5_2 : Rows)) : Nat) : Int) : Int) == 0) then
 k0
 else rec' ((IntKind.wrap .i64 (v + 1))))
 else rec' ((IntKind.wrap .i64 (v + 1)))
 else bif ((c0.1 : Int) != 0) then
 G.Q6 ρ p4 p5 p6 p7 p8 p9 p10 p11 p12 v (fun _w6_0 _w6_1 w6_2 =>
 bif (((((List.length (w6_2 : Rows)) : Nat) : Int) : Int) == 0) then
 k0
 else rec' ((IntKind.wrap .i64 (v + 1))))
 else rec' ((IntKind.wrap .i64 (v + 1))))
 else bif decide ((v : Int) ≥ 2) then
 bif decide ((v : Int) < (IntKind.wrap .i64 (2 + p4))) then
 G.Qp ρ p4 p5 p6 (IntKind.wrap .i64 (v - 2)) (fun w7_0 =>
 bif (!(((c0.1 : Int) == 2) && (((c0.2.1 : Int) == 3) && (((c0.2.2.1 : Int) == w7_0) && (((c0.2.2.2.1 : Int) == 0) && (((c0.2.2.2.2.1 : Int) == 0) && (((c0.2.2.2.2.2.1 : Int) == 0) && (((c0.2.2.2.2.2.2.1 : Int) == 0) && (((c0.2.2.2.2.2.2.2.1 : Bool) == false) && (((c0.2.2.2.2.2.2.2.2.1 : Int) == 0) && (((c0.2.2.2.2.2.2.2.2.2.1 : Int) == 0) && (((c0.2.2.2.2.2.2.2.2.2.2.1 : Int) == 0) && (((c0.2.2.2.2.2.2.2.2.2.2.2.1 : Int) == 0) && (((c0.2.2.2.2.2.2.2.2.2.2.2.2.1 : Int) == 0) && true)))))))))))))) then
 k0
 else rec' ((IntKind.wrap .i64 (v + 1))))
 else bif ((c0.1 : Int) != 0) then
 G.Q6 ρ p4 p5 p6 p7 p8 p9 p10 p11 p12 v (fun _w8_0 _w8_1 w8_2 =>
 bif (((((List.length (w8_2 : Rows)) : Nat) : Int) : Int) == 0) then
 k0
 else rec' ((IntKind.wrap .i64 (v + 1))))
 else rec' ((IntKind.wrap .i64 (v + 1)))
 else bif ((c0.1 : Int) != 0) then
 G.Q6 ρ p4 p5 p6 p7 p8 p9 p10 p11 p12 v (fun _w9_0 _w9_1 w9_2 =>
 bif (((((List.length (w9_2 : Rows)) : Nat) : Int) : Int) == 0) then
 k0
 else rec' ((IntKind.wrap .i64 (v + 1))))
 else rec' ((IntKind.wrap .i64 (v + 1)))
 else k0)
 else k1
def Qf_l2 (G : Qf_G) {ρ : Type} (n : Nat) (p0 p1 : Bool) (p2 : Rows) (p3 p4 : Int) (p5 p6 : Int) (p7 p8 : Bool) (p9 : Rows) (p10 p11 : Bool) (p12 : Rows) (k0 : (Option ρ)) (k1 : (Option ρ)) (v : Qf_l2_V) : Option ρ := fuelN (Qf_l2_s G n p0 p1 p2 p3 p4 p5 p6 p7 p8 p9 p10 p11 p12 k0 k1) n v
def Qf_l2_enc (p0 p1 : Bool) (p2 : Rows) (p3 p4 : Int) (p5 p6 : Int) (p7 p8 : Bool) (p9 : Rows) (p10 p11 : Bool) (p12 : Rows) : Qf_l2_V → St
 | v => ⟨[(1, .ptr 0 1 5 0 0), (7, .lst p0 p1 13 p2), (8, .i .i64 p3), (9, .i .i64 v)], [.row 5 true false [[.i .i64 p4, .i .i64 p5, .i .i64 p6, .lst p7 p8 5 p9, .lst p10 p11 13 p12]]]⟩
def Qf_s (G : Qf_G) {ρ : Type} (n : Nat) (a0 a1 a2 : Int) (a3 a4 : Bool) (a5 : Rows) (a6 a7 : Bool) (a8 : Rows) (k0 : (Bool → Option ρ)) : Option ρ :=
 Qf_l2 G n a6 a7 a8 (((List.length (a8 : Rows)) : Nat) : Int) a0 a1 a2 a3 a4 a5 a6 a7 a8 (k0 false) (k0 true) (0)
def Qf_g (n : Nat) : Qf_G := ⟨Qn n, cap_None n, Q6 n, Qp n⟩
def Qf (n : Nat) : Qf_T := fun _ρ a0 a1 a2 a3 a4 a5 a6 a7 a8 k0 => Qf_s (Qf_g n) n a0 a1 a2 a3 a4 a5 a6 a7 a8 k0
def Qf_e (n : Nat) : EK := Qf_E (Qf n)
def Qf_S (G : Qf_G) : CK := tabS [(45, Qn_E G.Qn), (21, cap_None_E G.cap_None), (47, Q6_E G.Q6), (46, Qp_E G.Qp)]
theorem Qf_Sok (n : Nat) : CK.OK (Qf_S (Qf_g n)) (L tab) := tabS_ok _ (List.forall_mem_cons.2 ⟨(Qn_ok n), List.forall_mem_cons.2 ⟨(cap_None_ok n), List.forall_mem_cons.2 ⟨(Q6_ok n), List.forall_mem_cons.2 ⟨(Qp_ok n), (fun _ h => nomatch h)⟩⟩⟩⟩)
def Qf_hs : HintC := hintL [(12, [.i .i64, .i .i64, .i .i64, .i .i64, .i .i64, .i .i64, .i .i64, .b, .i .u64, .i .u64, .i .u64, .i .u64, .i .u64]), (33, [.i .i64, .i .i64, .i .i64, .i .i64, .i .i64])]
def Qf_c2 : Nat × List Nat × List Nat × MC := loopAt 2 m27
def Qf_l2_d (G : Qf_G) (n : Nat) : Go.Rv.LE := fun _ρ h K => decSt [(1, .ptr 0 5 0 (some 1) (some 0)), (7, .lst none none 13 none), (8, .i .i64 none), (9, .i .i64 none)] [.row 5 true false (some [[.i .i64 none, .i .i64 none, .i .i64 none, .lst none none 5 none, .lst none none 13 none]])] h fun a b => Qf_l2 G n a.2.1.1 a.2.1.2.1 a.2.1.2.2 a.2.2.1 b.1.1.1 b.1.1.2.1 b.1.1.2.2.1 b.1.1.2.2.2.1.1 b.1.1.2.2.2.1.2.1 b.1.1.2.2.2.1.2.2 b.1.1.2.2.2.2.1.1 b.1.1.2.2.2.2.1.2.1 b.1.1.2.2.2.2.1.2.2 (K .ret ⟨[(2, .b false)], [.row 5 true false [[.i .i64 b.1.1.1, .i .i64 b.1.1.2.1, .i .i64 b.1.1.2.2.1, .lst b.1.1.2.2.2.1.1 b.1.1.2.2.2.1.2.1 5 b.1.1.2.2.2.1.2.2, .lst b.1.1.2.2.2.2.1.1 b.1.1.2.2.2.2.1.2.1 13 b.1.1.2.2.2.2.1.2.2]]]⟩) (K (.exit 0) ⟨[(2, .u)], [.row 5 true false [[.i .i64 b.1.1.1, .i .i64 b.1.1.2.1, .i .i64 b.1.1.2.2.1, .lst b.1.1.2.2.2.1.1 b.1.1.2.2.2.1.2.1 5 b.1.1.2.2.2.1.2.2, .lst b.1.1.2.2.2.2.1.1 b.1.1.2.2.2.2.1.2.1 13 b.1.1.2.2.2.2.1.2.2]]]⟩) (a.2.2.2.1)
def Qf_d2 (G : Qf_G) (n : Nat) : Go.Rv.LE := Qf_l2_d G n
def Qf_lp (G : Qf_G) (n : Nat) : LK := tabL [(2, Qf_d2 G n)]
theorem Qf_l2_k (G : Qf_G) {ρ : Type} (n : Nat) (p0 p1 : Bool) (p2 : Rows) (p3 p4 : Int) (p5 p6 : Int) (p7 p8 : Bool) (p9 : Rows) (p10 p11 : Bool) (p12 : Rows) (K : Ex → St → Option ρ) (N : St → Option ρ) : ∀ v, roundC (Qf_S G) Qf_hs (Qf_lp G n) Qf_c2 1 N K (Qf_l2_enc p0 p1 p2 p3 p4 p5 p6 p7 p8 p9 p10 p11 p12 v) = Qf_l2_s G n p0 p1 p2 p3 p4 p5 p6 p7 p8 p9 p10 p11 p12 (K .ret ⟨[(2, .b false)], [.row 5 true false [[.i .i64 p4, .i .i64 p5, .i .i64 p6, .lst p7 p8 5 p9, .lst p10 p11 13 p12]]]⟩) (K (.exit 0) ⟨[(2, .u)], [.row 5 true false [[.i .i64 p4, .i .i64 p5, .i .i64 p6, .lst p7 p8 5 p9, .lst p10 p11 13 p12]]]⟩) (fun v => N (Qf_l2_enc p0 p1 p2 p3 p4 p5 p6 p7 p8 p9 p10 p11 p12 v)) v
 | v => by kernel_rfl
theorem Qf_l2_dok (n : Nat) : LE.OK (Qf_l2_d (Qf_g n) n) (L tab) Qf_c2 := LE.shp (fun _ _ _ => rfl) fun ρ K y a b e => LE.rounds (Qf_Sok n) (LK.of (l := []) (by kernel_rfl) ((fun _ h => nomatch h))) (Qf_l2_k (Qf_g n) n _ _ _ _ _ _ _ _ _ _ _ _ _ K) (by kernel_rfl) (by kernel_rfl) e
theorem Qf_d2_ok (n : Nat) : LE.OK (Qf_d2 (Qf_g n) n) (L tab) Qf_c2 := Qf_l2_dok n
theorem Qf_k (G : Qf_G) {ρ : Type} (n : Nat) (a0 a1 a2 : Int) (a3 a4 : Bool) (a5 : Rows) (a6 a7 : Bool) (a8 : Rows) (K : Res → Option ρ) : runC (Qf_S G) Qf_hs (Qf_lp G n) m27 [.agg [.i .i64 a0, .i .i64 a1, .i .i64 a2, .lst a3 a4 5 a5, .lst a6 a7 13 a8]] K = Qf_s G n a0 a1 a2 a3 a4 a5 a6 a7 a8 (fun w0 => K ⟨.b w0, [], []⟩) := by kernel_rfl
theorem Qf_ok (n : Nat) : EK.OK (Qf_e n) 27 (L tab) := EK.shp (fun _ _ _ => rfl) fun ρ K y c e => EK.run (Qf_Sok n) (by kernel_rfl) (MF.LKOK.of (LK.of (l := [Qf_c2]) (by kernel_rfl) (List.forall_mem_cons.2 ⟨LE.at (e := Qf_d2 (Qf_g n) n) (by kernel_rfl) (Qf_d2_ok n), (fun _ h => nomatch h)⟩))) (Qf_k (Qf_g n) n _ _ _ _ _ _ _ _ _ K) (by kernel_rfl) e
abbrev Q3_T : Type 1 := (ρ : Type) → Int → Int → Int → Bool → Bool → Rows → Bool → Bool → Rows → (Bool → Option ρ) → Option ρ
def Q3_E (G : Q3_T) : EK := fun ρ args K => decL [.agg [.i .i64 none, .i .i64 none, .i .i64 none, .lst none none 5 none, .lst none none 13 none]] args fun c => G ρ c.1.1 c.1.2.1 c.1.2.2.1 c.1.2.2.2.1.1 c.1.2.2.2.1.2.1 c.1.2.2.2.1.2.2 c.1.2.2.2.2.1.1 c.1.2.2.2.2.1.2.1 c.1.2.2.2.2.1.2.2 (fun w0 => K ⟨.b w0, [], []⟩)
structure Q3_G where
 mk ::
 cap_None : cap_None_T
abbrev Q3_l7_V : Type := Int × Rows
def Q3_l7_s (_G : Q3_G) {ρ : Type} (_n p0 p1 : Nat) (_p2 _p3 : Bool) (_p4 : Rows) (_p5 _p6 : Int) (p7 _p8 : Int) (_p9 _p10 : Int) (_p11 _p12 : Bool) (_p13 : Rows) (_p14 _p15 : Bool) (_p16 : Rows) (_p18 _p19 : Int) (p20 _p21 : Int) (_p22 _p23 _p24 : Int) (_p25 : Bool) (_p26 _p27 : Int) (_p28 _p29 _p30 : Int) (k0 : (Rows → Option ρ)) (k1 : (Rows → Option ρ)) (rec' : Q3_l7_V → Option ρ) : Q3_l7_V → Option ρ
 | v =>
 bif decide ((v.1 : Int) < p7) then
 bif decide (((IntKind.wrap .i64 (p20 + v.1)) : Int) ≥ ((p1 : Nat) : Int)) then
 k0 v.2
 else chk (decide ((0 : Int) ≤ (IntKind.wrap .i64 (p20 + v.1)))) <|
 chk (decide (((IntKind.wrap .i64 (p20 + v.1)) : Int) < ((p1 : Nat) : Int))) <|
 chk (((List.length (v.2 : Rows)) : Nat) == p0) <|
 rowN [.b] v.2 (0 + (IntKind.wrap .i64 (p20 + v.1)).toNat) fun c0 =>
 bif c0.1 then
 k0 v.2
 else chk (decide ((0 : Int) ≤ (IntKind.wrap .i64 (p20 + v.1)))) <|
 chk (decide (((IntKind.wrap .i64 (p20 + v.1)) : Int) < ((p1 : Nat) : Int))) <|
 chk (((List.length (v.2 : Rows)) : Nat) == p0) <|
 rowN [.a] v.2 (0 + (IntKind.wrap .i64 (p20 + v.1)).toNat) fun _c1 =>
 rec' ((IntKind.wrap .i64 (v.1 + 1)), (List.set (v.2 : Rows) (0 + (IntKind.wrap .i64 (p20 + v.1)).toNat) [.b true]))
 else k1 v.2
def Q3_l7 (G : Q3_G) {ρ : Type} (n p0 p1 : Nat) (p2 p3 : Bool) (p4 : Rows) (p5 p6 : Int) (p7 p8 : Int) (p9 p10 : Int) (p11 p12 : Bool) (p13 : Rows) (p14 p15 : Bool) (p16 : Rows) (p18 p19 : Int) (p20 p21 : Int) (p22 p23 p24 : Int) (p25 : Bool) (p26 p27 : Int) (p28 p29 p30 : Int) (k0 : (Rows → Option ρ)) (k1 : (Rows → Option ρ)) (v : Q3_l7_V) : Option ρ := fuelN (Q3_l7_s G n p0 p1 p2 p3 p4 p5 p6 p7 p8 p9 p10 p11 p12 p13 p14 p15 p16 p18 p19 p20 p21 p22 p23 p24 p25 p26 p27 p28 p29 p30 k0 k1) n v
def Q3_l7_enc (p0 p1 : Nat) (p2 p3 : Bool) (p4 : Rows) (p5 p6 : Int) (p7 p8 : Int) (p9 p10 : Int) (p11 p12 : Bool) (p13 : Rows) (p14 p15 : Bool) (p16 : Rows) (p18 p19 : Int) (p20 p21 : Int) (p22 p23 p24 : Int) (p25 : Bool) (p26 p27 : Int) (p28 p29 p30 : Int) : Q3_l7_V → St
 | v => ⟨[(1, .ptr 0 1 5 0 0), (3, .sl 1 p0 1 0 p1), (5, .ptr 2 1 13 0 0), (15, .lst p2 p3 13 p4), (16, .i .i64 p5), (17, .i .i64 p6), (26, .i .i64 p7), (27, .i .i64 v.1)], [.row 5 true false [[.i .i64 p8, .i .i64 p9, .i .i64 p10, .lst p11 p12 5 p13, .lst p14 p15 13 p16]], .row 1 true false v.2, .row 13 true false [[.i .i64 p18, .i .i64 p19, .i .i64 p20, .i .i64 p21, .i .i64 p22, .i .i64 p23, .i .i64 p24, .b p25, .i .u64 p26, .i .u64 p27, .i .u64 p28, .i .u64 p29, .i .u64 p30]]]⟩
abbrev Q3_l3_V : Type := Int × Rows
def Q3_l3_s (G : Q3_G) {ρ : Type} (n p0 p1 : Nat) (p2 p3 : Bool) (p4 : Rows) (p5 p6 : Int) (p7 p8 : Int) (p9 p10 : Bool) (p11 : Rows) (p12 p13 : Bool) (p14 : Rows) (k0 : (Rows → Option ρ)) (k1 : (Rows → Option ρ)) (rec' : Q3_l3_V → Option ρ) : Q3_l3_V → Option ρ
 | v =>
 bif decide ((v.1 : Int) < p5) then
 rowT [.i .i64, .i .i64, .i .i64, .i .i64, .i .i64, .i .i64, .i .i64, .b, .i .u64, .i .u64, .i .u64, .i .u64, .i .u64] p4 v.1 fun c0 =>
 bif ((c0.1 : Int) != 2) then
 rec' ((IntKind.wrap .i64 (v.1 + 1)), v.2)
 else chk (decide (0 ≤ (c0.2.1 : Int))) <|
 Q3_l7 G n p0 p1 p2 p3 p4 p5 v.1 (IntKind.wrap .i64 ((1 : Int) * 2 ^ (min c0.2.1.toNat (IntKind.bits .i64)))) p6 p7 p8 p9 p10 p11 p12 p13 p14 c0.1 c0.2.1 c0.2.2.1 c0.2.2.2.1 c0.2.2.2.2.1 c0.2.2.2.2.2.1 c0.2.2.2.2.2.2.1 c0.2.2.2.2.2.2.2.1 c0.2.2.2.2.2.2.2.2.1 c0.2.2.2.2.2.2.2.2.2.1 c0.2.2.2.2.2.2.2.2.2.2.1 c0.2.2.2.2.2.2.2.2.2.2.2.1 c0.2.2.2.2.2.2.2.2.2.2.2.2.1 (fun w1_0 =>
 k0 w1_0) (fun w2_0 =>
 rec' ((IntKind.wrap .i64 (v.1 + 1)), w2_0)) (0, v.2)
 else k1 v.2
def Q3_l3 (G : Q3_G) {ρ : Type} (n p0 p1 : Nat) (p2 p3 : Bool) (p4 : Rows) (p5 p6 : Int) (p7 p8 : Int) (p9 p10 : Bool) (p11 : Rows) (p12 p13 : Bool) (p14 : Rows) (k0 : (Rows → Option ρ)) (k1 : (Rows → Option ρ)) (v : Q3_l3_V) : Option ρ := fuelN (Q3_l3_s G n p0 p1 p2 p3 p4 p5 p6 p7 p8 p9 p10 p11 p12 p13 p14 k0 k1) n v
def Q3_l3_enc (p0 p1 : Nat) (p2 p3 : Bool) (p4 : Rows) (p5 p6 : Int) (p7 p8 : Int) (p9 p10 : Bool) (p11 : Rows) (p12 p13 : Bool) (p14 : Rows) : Q3_l3_V → St
 | v => ⟨[(1, .ptr 0 1 5 0 0), (3, .sl 1 p0 1 0 p1), (15, .lst p2 p3 13 p4), (16, .i .i64 p5), (17, .i .i64 v.1)], [.row 5 true false [[.i .i64 p6, .i .i64 p7, .i .i64 p8, .lst p9 p10 5 p11, .lst p12 p13 13 p14]], .row 1 true false v.2]⟩
abbrev Q3_l16_V : Type := Int
def Q3_l16_s (G : Q3_G) {ρ : Type} (_n p0 p1 : Nat) (_p2 _p3 : Bool) (p4 : Rows) (p5 _p6 : Int) (_p7 _p8 : Int) (_p9 _p10 : Bool) (_p11 : Rows) (_p12 _p13 : Bool) (_p14 p15 : Rows) (k0 : (Option ρ)) (k1 : (Option ρ)) (rec' : Q3_l16_V → Option ρ) : Q3_l16_V → Option ρ
 | v =>
 bif decide ((v : Int) < p5) then
 rowT [.i .i64, .i .i64, .i .i64, .i .i64, .i .i64] p4 v fun c0 =>
 chk (decide ((0 : Int) ≤ v)) <|
 chk (decide ((v : Int) < ((p1 : Nat) : Int))) <|
 chk (((List.length (p15 : Rows)) : Nat) == p0) <|
 rowN [.b] p15 (0 + v.toNat) fun c1 =>
 bif c1.1 then
 rec' ((IntKind.wrap .i64 (v + 1)))
 else G.cap_None ρ c0.1 c0.2.1 c0.2.2.1 c0.2.2.2.1 (fun w2_0 =>
 bif w2_0 then
 rec' ((IntKind.wrap .i64 (v + 1)))
 else k0)
 else k1
def Q3_l16 (G : Q3_G) {ρ : Type} (n p0 p1 : Nat) (p2 p3 : Bool) (p4 : Rows) (p5 p6 : Int) (p7 p8 : Int) (p9 p10 : Bool) (p11 : Rows) (p12 p13 : Bool) (p14 p15 : Rows) (k0 : (Option ρ)) (k1 : (Option ρ)) (v : Q3_l16_V) : Option ρ := fuelN (Q3_l16_s G n p0 p1 p2 p3 p4 p5 p6 p7 p8 p9 p10 p11 p12 p13 p14 p15 k0 k1) n v
def Q3_l16_enc (p0 p1 : Nat) (p2 p3 : Bool) (p4 : Rows) (p5 p6 : Int) (p7 p8 : Int) (p9 p10 : Bool) (p11 : Rows) (p12 p13 : Bool) (p14 p15 : Rows) : Q3_l16_V → St
 | v => ⟨[(3, .sl 1 p0 1 0 p1), (50, .lst p2 p3 5 p4), (51, .i .i64 p5), (52, .i .i64 v)], [.row 5 true false [[.i .i64 p6, .i .i64 p7, .i .i64 p8, .lst p9 p10 5 p11, .lst p12 p13 13 p14]], .row 1 true false p15]⟩
def Q3_s (G : Q3_G) {ρ : Type} (n : Nat) (a0 a1 a2 : Int) (a3 a4 : Bool) (a5 : Rows) (a6 a7 : Bool) (a8 : Rows) (k0 : (Bool → Option ρ)) : Option ρ :=
 chk (decide ((0 : Int) ≤ (((List.length (a5 : Rows)) : Nat) : Int))) <|
 chk (decide (((((List.length (a5 : Rows)) : Nat) : Int) : Int) ≤ (((List.length (a5 : Rows)) : Nat) : Int))) <|
 chk (decide (((((List.length (a5 : Rows)) : Nat) : Int) : Int) ≤ most)) <|
 Q3_l3 G n ((((List.length (a5 : Rows)) : Nat) : Int).toNat) ((((List.length (a5 : Rows)) : Nat) : Int).toNat) a6 a7 a8 (((List.length (a8 : Rows)) : Nat) : Int) a0 a1 a2 a3 a4 a5 a6 a7 a8 (fun _w0_0 =>
 k0 false) (fun w1_0 =>
 Q3_l16 G n ((((List.length (a5 : Rows)) : Nat) : Int).toNat) ((((List.length (a5 : Rows)) : Nat) : Int).toNat) a3 a4 a5 (((List.length (a5 : Rows)) : Nat) : Int) a0 a1 a2 a3 a4 a5 a6 a7 a8 w1_0 (k0 false) (k0 true) (0)) (0, (List.replicate ((((List.length (a5 : Rows)) : Nat) : Int).toNat) ([.b false] : List AV)))
def Q3_g (n : Nat) : Q3_G := ⟨cap_None n⟩
def Q3 (n : Nat) : Q3_T := fun _ρ a0 a1 a2 a3 a4 a5 a6 a7 a8 k0 => Q3_s (Q3_g n) n a0 a1 a2 a3 a4 a5 a6 a7 a8 k0
def Q3_e (n : Nat) : EK := Q3_E (Q3 n)
def Q3_S (G : Q3_G) : CK := tabS [(21, cap_None_E G.cap_None)]
theorem Q3_Sok (n : Nat) : CK.OK (Q3_S (Q3_g n)) (L tab) := tabS_ok _ (List.forall_mem_cons.2 ⟨(cap_None_ok n), (fun _ h => nomatch h)⟩)
def Q3_hs : HintC := hintL [(19, [.i .i64, .i .i64, .i .i64, .i .i64, .i .i64, .i .i64, .i .i64, .b, .i .u64, .i .u64, .i .u64, .i .u64, .i .u64]), (42, [.b]), (55, [.i .i64, .i .i64, .i .i64, .i .i64, .i .i64]), (60, [.b])]
def Q3_c7 : Nat × List Nat × List Nat × MC := loopAt 7 m28
def Q3_l7_d (G : Q3_G) (n : Nat) : Go.Rv.LE := fun _ρ h K => decSt [(1, .ptr 0 5 0 (some 1) (some 0)), (3, .sl 1 1 none (some 0) none), (5, .ptr 2 13 0 (some 1) (some 0)), (15, .lst none none 13 none), (16, .i .i64 none), (17, .i .i64 none), (26, .i .i64 none), (27, .i .i64 none)] [.row 5 true false (some [[.i .i64 none, .i .i64 none, .i .i64 none, .lst none none 5 none, .lst none none 13 none]]), .row 1 true false none, .row 13 true false (some [[.i .i64 none, .i .i64 none, .i .i64 none, .i .i64 none, .i .i64 none, .i .i64 none, .i .i64 none, .b none, .i .u64 none, .i .u64 none, .i .u64 none, .i .u64 none, .i .u64 none]])] h fun a b => Q3_l7 G n a.2.1.1 a.2.1.2.2 a.2.2.2.1.1 a.2.2.2.1.2.1 a.2.2.2.1.2.2 a.2.2.2.2.1 a.2.2.2.2.2.1 a.2.2.2.2.2.2.1 b.1.1.1 b.1.1.2.1 b.1.1.2.2.1 b.1.1.2.2.2.1.1 b.1.1.2.2.2.1.2.1 b.1.1.2.2.2.1.2.2 b.1.1.2.2.2.2.1.1 b.1.1.2.2.2.2.1.2.1 b.1.1.2.2.2.2.1.2.2 b.2.2.1.1.1 b.2.2.1.1.2.1 b.2.2.1.1.2.2.1 b.2.2.1.1.2.2.2.1 b.2.2.1.1.2.2.2.2.1 b.2.2.1.1.2.2.2.2.2.1 b.2.2.1.1.2.2.2.2.2.2.1 b.2.2.1.1.2.2.2.2.2.2.2.1 b.2.2.1.1.2.2.2.2.2.2.2.2.1 b.2.2.1.1.2.2.2.2.2.2.2.2.2.1 b.2.2.1.1.2.2.2.2.2.2.2.2.2.2.1 b.2.2.1.1.2.2.2.2.2.2.2.2.2.2.2.1 b.2.2.1.1.2.2.2.2.2.2.2.2.2.2.2.2.1 (fun w0 => K .ret ⟨[(1, .ptr 0 1 5 0 0), (2, .b false), (3, .sl 1 a.2.1.1 1 0 a.2.1.2.2), (15, .lst a.2.2.2.1.1 a.2.2.2.1.2.1 13 a.2.2.2.1.2.2), (16, .i .i64 a.2.2.2.2.1), (17, .i .i64 a.2.2.2.2.2.1)], [.row 5 true false [[.i .i64 b.1.1.1, .i .i64 b.1.1.2.1, .i .i64 b.1.1.2.2.1, .lst b.1.1.2.2.2.1.1 b.1.1.2.2.2.1.2.1 5 b.1.1.2.2.2.1.2.2, .lst b.1.1.2.2.2.2.1.1 b.1.1.2.2.2.2.1.2.1 13 b.1.1.2.2.2.2.1.2.2]], .row 1 true false w0, .row 13 true false [[.i .i64 b.2.2.1.1.1, .i .i64 b.2.2.1.1.2.1, .i .i64 b.2.2.1.1.2.2.1, .i .i64 b.2.2.1.1.2.2.2.1, .i .i64 b.2.2.1.1.2.2.2.2.1, .i .i64 b.2.2.1.1.2.2.2.2.2.1, .i .i64 b.2.2.1.1.2.2.2.2.2.2.1, .b b.2.2.1.1.2.2.2.2.2.2.2.1, .i .u64 b.2.2.1.1.2.2.2.2.2.2.2.2.1, .i .u64 b.2.2.1.1.2.2.2.2.2.2.2.2.2.1, .i .u64 b.2.2.1.1.2.2.2.2.2.2.2.2.2.2.1, .i .u64 b.2.2.1.1.2.2.2.2.2.2.2.2.2.2.2.1, .i .u64 b.2.2.1.1.2.2.2.2.2.2.2.2.2.2.2.2.1]]]⟩) (fun w0 => K (.exit 2) ⟨[(1, .ptr 0 1 5 0 0), (2, .u), (3, .sl 1 a.2.1.1 1 0 a.2.1.2.2), (15, .lst a.2.2.2.1.1 a.2.2.2.1.2.1 13 a.2.2.2.1.2.2), (16, .i .i64 a.2.2.2.2.1), (17, .i .i64 a.2.2.2.2.2.1)], [.row 5 true false [[.i .i64 b.1.1.1, .i .i64 b.1.1.2.1, .i .i64 b.1.1.2.2.1, .lst b.1.1.2.2.2.1.1 b.1.1.2.2.2.1.2.1 5 b.1.1.2.2.2.1.2.2, .lst b.1.1.2.2.2.2.1.1 b.1.1.2.2.2.2.1.2.1 13 b.1.1.2.2.2.2.1.2.2]], .row 1 true false w0, .row 13 true false [[.i .i64 b.2.2.1.1.1, .i .i64 b.2.2.1.1.2.1, .i .i64 b.2.2.1.1.2.2.1, .i .i64 b.2.2.1.1.2.2.2.1, .i .i64 b.2.2.1.1.2.2.2.2.1, .i .i64 b.2.2.1.1.2.2.2.2.2.1, .i .i64 b.2.2.1.1.2.2.2.2.2.2.1, .b b.2.2.1.1.2.2.2.2.2.2.2.1, .i .u64 b.2.2.1.1.2.2.2.2.2.2.2.2.1, .i .u64 b.2.2.1.1.2.2.2.2.2.2.2.2.2.1, .i .u64 b.2.2.1.1.2.2.2.2.2.2.2.2.2.2.1, .i .u64 b.2.2.1.1.2.2.2.2.2.2.2.2.2.2.2.1, .i .u64 b.2.2.1.1.2.2.2.2.2.2.2.2.2.2.2.2.1]]]⟩) (a.2.2.2.2.2.2.2.1, b.2.1)
def Q3_d7 (G : Q3_G) (n : Nat) : Go.Rv.LE := Q3_l7_d G n
def Q3_c3 : Nat × List Nat × List Nat × MC := loopAt 3 m28
def Q3_l3_d (G : Q3_G) (n : Nat) : Go.Rv.LE := fun _ρ h K => decSt [(1, .ptr 0 5 0 (some 1) (some 0)), (3, .sl 1 1 none (some 0) none), (15, .lst none none 13 none), (16, .i .i64 none), (17, .i .i64 none)] [.row 5 true false (some [[.i .i64 none, .i .i64 none, .i .i64 none, .lst none none 5 none, .lst none none 13 none]]), .row 1 true false none] h fun a b => Q3_l3 G n a.2.1.1 a.2.1.2.2 a.2.2.1.1 a.2.2.1.2.1 a.2.2.1.2.2 a.2.2.2.1 b.1.1.1 b.1.1.2.1 b.1.1.2.2.1 b.1.1.2.2.2.1.1 b.1.1.2.2.2.1.2.1 b.1.1.2.2.2.1.2.2 b.1.1.2.2.2.2.1.1 b.1.1.2.2.2.2.1.2.1 b.1.1.2.2.2.2.1.2.2 (fun w0 => K .ret ⟨[(1, .ptr 0 1 5 0 0), (2, .b false), (3, .sl 1 a.2.1.1 1 0 a.2.1.2.2)], [.row 5 true false [[.i .i64 b.1.1.1, .i .i64 b.1.1.2.1, .i .i64 b.1.1.2.2.1, .lst b.1.1.2.2.2.1.1 b.1.1.2.2.2.1.2.1 5 b.1.1.2.2.2.1.2.2, .lst b.1.1.2.2.2.2.1.1 b.1.1.2.2.2.2.1.2.1 13 b.1.1.2.2.2.2.1.2.2]], .row 1 true false w0]⟩) (fun w0 => K (.exit 0) ⟨[(1, .ptr 0 1 5 0 0), (2, .u), (3, .sl 1 a.2.1.1 1 0 a.2.1.2.2)], [.row 5 true false [[.i .i64 b.1.1.1, .i .i64 b.1.1.2.1, .i .i64 b.1.1.2.2.1, .lst b.1.1.2.2.2.1.1 b.1.1.2.2.2.1.2.1 5 b.1.1.2.2.2.1.2.2, .lst b.1.1.2.2.2.2.1.1 b.1.1.2.2.2.2.1.2.1 13 b.1.1.2.2.2.2.1.2.2]], .row 1 true false w0]⟩) (a.2.2.2.2.1, b.2.1)
def Q3_d3 (G : Q3_G) (n : Nat) : Go.Rv.LE := Q3_l3_d G n
def Q3_c16 : Nat × List Nat × List Nat × MC := loopAt 16 m28
def Q3_l16_d (G : Q3_G) (n : Nat) : Go.Rv.LE := fun _ρ h K => decSt [(3, .sl 1 1 none (some 0) none), (50, .lst none none 5 none), (51, .i .i64 none), (52, .i .i64 none)] [.row 5 true false (some [[.i .i64 none, .i .i64 none, .i .i64 none, .lst none none 5 none, .lst none none 13 none]]), .row 1 true false none] h fun a b => Q3_l16 G n a.1.1 a.1.2.2 a.2.1.1 a.2.1.2.1 a.2.1.2.2 a.2.2.1 b.1.1.1 b.1.1.2.1 b.1.1.2.2.1 b.1.1.2.2.2.1.1 b.1.1.2.2.2.1.2.1 b.1.1.2.2.2.1.2.2 b.1.1.2.2.2.2.1.1 b.1.1.2.2.2.2.1.2.1 b.1.1.2.2.2.2.1.2.2 b.2.1 (K .ret ⟨[(2, .b false)], [.row 5 true false [[.i .i64 b.1.1.1, .i .i64 b.1.1.2.1, .i .i64 b.1.1.2.2.1, .lst b.1.1.2.2.2.1.1 b.1.1.2.2.2.1.2.1 5 b.1.1.2.2.2.1.2.2, .lst b.1.1.2.2.2.2.1.1 b.1.1.2.2.2.2.1.2.1 13 b.1.1.2.2.2.2.1.2.2]], .row 1 true false b.2.1]⟩) (K (.exit 4) ⟨[(2, .u)], [.row 5 true false [[.i .i64 b.1.1.1, .i .i64 b.1.1.2.1, .i .i64 b.1.1.2.2.1, .lst b.1.1.2.2.2.1.1 b.1.1.2.2.2.1.2.1 5 b.1.1.2.2.2.1.2.2, .lst b.1.1.2.2.2.2.1.1 b.1.1.2.2.2.2.1.2.1 13 b.1.1.2.2.2.2.1.2.2]], .row 1 true false b.2.1]⟩) (a.2.2.2.1)
def Q3_d16 (G : Q3_G) (n : Nat) : Go.Rv.LE := Q3_l16_d G n
def Q3_lp (G : Q3_G) (n : Nat) : LK := tabL [(7, Q3_d7 G n), (3, Q3_d3 G n), (16, Q3_d16 G n)]
theorem Q3_l7_k (G : Q3_G) {ρ : Type} (n p0 p1 : Nat) (p2 p3 : Bool) (p4 : Rows) (p5 p6 : Int) (p7 p8 : Int) (p9 p10 : Int) (p11 p12 : Bool) (p13 : Rows) (p14 p15 : Bool) (p16 : Rows) (p18 p19 : Int) (p20 p21 : Int) (p22 p23 p24 : Int) (p25 : Bool) (p26 p27 : Int) (p28 p29 p30 : Int) (K : Ex → St → Option ρ) (N : St → Option ρ) : ∀ v, roundC (Q3_S G) Q3_hs (Q3_lp G n) Q3_c7 3 N K (Q3_l7_enc p0 p1 p2 p3 p4 p5 p6 p7 p8 p9 p10 p11 p12 p13 p14 p15 p16 p18 p19 p20 p21 p22 p23 p24 p25 p26 p27 p28 p29 p30 v) = Q3_l7_s G n p0 p1 p2 p3 p4 p5 p6 p7 p8 p9 p10 p11 p12 p13 p14 p15 p16 p18 p19 p20 p21 p22 p23 p24 p25 p26 p27 p28 p29 p30 (fun w0 => K .ret ⟨[(1, .ptr 0 1 5 0 0), (2, .b false), (3, .sl 1 p0 1 0 p1), (15, .lst p2 p3 13 p4), (16, .i .i64 p5), (17, .i .i64 p6)], [.row 5 true false [[.i .i64 p8, .i .i64 p9, .i .i64 p10, .lst p11 p12 5 p13, .lst p14 p15 13 p16]], .row 1 true false w0, .row 13 true false [[.i .i64 p18, .i .i64 p19, .i .i64 p20, .i .i64 p21, .i .i64 p22, .i .i64 p23, .i .i64 p24, .b p25, .i .u64 p26, .i .u64 p27, .i .u64 p28, .i .u64 p29, .i .u64 p30]]]⟩) (fun w0 => K (.exit 2) ⟨[(1, .ptr 0 1 5 0 0), (2, .u), (3, .sl 1 p0 1 0 p1), (15, .lst p2 p3 13 p4), (16, .i .i64 p5), (17, .i .i64 p6)], [.row 5 true false [[.i .i64 p8, .i .i64 p9, .i .i64 p10, .lst p11 p12 5 p13, .lst p14 p15 13 p16]], .row 1 true false w0, .row 13 true false [[.i .i64 p18, .i .i64 p19, .i .i64 p20, .i .i64 p21, .i .i64 p22, .i .i64 p23, .i .i64 p24, .b p25, .i .u64 p26, .i .u64 p27, .i .u64 p28, .i .u64 p29, .i .u64 p30]]]⟩) (fun v => N (Q3_l7_enc p0 p1 p2 p3 p4 p5 p6 p7 p8 p9 p10 p11 p12 p13 p14 p15 p16 p18 p19 p20 p21 p22 p23 p24 p25 p26 p27 p28 p29 p30 v)) v
 | v => by kernel_rfl
theorem Q3_l7_dok (n : Nat) : LE.OK (Q3_l7_d (Q3_g n) n) (L tab) Q3_c7 := LE.shp (fun _ _ _ => rfl) fun ρ K y a b e => LE.rounds (Q3_Sok n) (LK.of (l := []) (by kernel_rfl) ((fun _ h => nomatch h))) (Q3_l7_k (Q3_g n) n _ _ _ _ _ _ _ _ _ _ _ _ _ _ _ _ _ _ _ _ _ _ _ _ _ _ _ _ _ _ K) (by kernel_rfl) (by kernel_rfl) e
theorem Q3_d7_ok (n : Nat) : LE.OK (Q3_d7 (Q3_g n) n) (L tab) Q3_c7 := Q3_l7_dok n
theorem Q3_l3_k (G : Q3_G) {ρ : Type} (n p0 p1 : Nat) (p2 p3 : Bool) (p4 : Rows) (p5 p6 : Int) (p7 p8 : Int) (p9 p10 : Bool) (p11 : Rows) (p12 p13 : Bool) (p14 : Rows) (K : Ex → St → Option ρ) (N : St → Option ρ) : ∀ v, roundC (Q3_S G) Q3_hs (Q3_lp G n) Q3_c3 2 N K (Q3_l3_enc p0 p1 p2 p3 p4 p5 p6 p7 p8 p9 p10 p11 p12 p13 p14 v) = Q3_l3_s G n p0 p1 p2 p3 p4 p5 p6 p7 p8 p9 p10 p11 p12 p13 p14 (fun w0 => K .ret ⟨[(1, .ptr 0 1 5 0 0), (2, .b false), (3, .sl 1 p0 1 0 p1)], [.row 5 true false [[.i .i64 p6, .i .i64 p7, .i .i64 p8, .lst p9 p10 5 p11, .lst p12 p13 13 p14]], .row 1 true false w0]⟩) (fun w0 => K (.exit 0) ⟨[(1, .ptr 0 1 5 0 0), (2, .u), (3, .sl 1 p0 1 0 p1)], [.row 5 true false [[.i .i64 p6, .i .i64 p7, .i .i64 p8, .lst p9 p10 5 p11, .lst p12 p13 13 p14]], .row 1 true false w0]⟩) (fun v => N (Q3_l3_enc p0 p1 p2 p3 p4 p5 p6 p7 p8 p9 p10 p11 p12 p13 p14 v)) v
 | v => by kernel_rfl
theorem Q3_l3_dok (n : Nat) : LE.OK (Q3_l3_d (Q3_g n) n) (L tab) Q3_c3 := LE.shp (fun _ _ _ => rfl) fun ρ K y a b e => LE.rounds (Q3_Sok n) (LK.of (l := [Q3_c7]) (by kernel_rfl) (List.forall_mem_cons.2 ⟨LE.at (e := Q3_d7 (Q3_g n) n) (by kernel_rfl) (Q3_d7_ok n), (fun _ h => nomatch h)⟩)) (Q3_l3_k (Q3_g n) n _ _ _ _ _ _ _ _ _ _ _ _ _ _ _ K) (by kernel_rfl) (by kernel_rfl) e
theorem Q3_d3_ok (n : Nat) : LE.OK (Q3_d3 (Q3_g n) n) (L tab) Q3_c3 := Q3_l3_dok n
theorem Q3_l16_k (G : Q3_G) {ρ : Type} (n p0 p1 : Nat) (p2 p3 : Bool) (p4 : Rows) (p5 p6 : Int) (p7 p8 : Int) (p9 p10 : Bool) (p11 : Rows) (p12 p13 : Bool) (p14 p15 : Rows) (K : Ex → St → Option ρ) (N : St → Option ρ) : ∀ v, roundC (Q3_S G) Q3_hs (Q3_lp G n) Q3_c16 2 N K (Q3_l16_enc p0 p1 p2 p3 p4 p5 p6 p7 p8 p9 p10 p11 p12 p13 p14 p15 v) = Q3_l16_s G n p0 p1 p2 p3 p4 p5 p6 p7 p8 p9 p10 p11 p12 p13 p14 p15 (K .ret ⟨[(2, .b false)], [.row 5 true false [[.i .i64 p6, .i .i64 p7, .i .i64 p8, .lst p9 p10 5 p11, .lst p12 p13 13 p14]], .row 1 true false p15]⟩) (K (.exit 4) ⟨[(2, .u)], [.row 5 true false [[.i .i64 p6, .i .i64 p7, .i .i64 p8, .lst p9 p10 5 p11, .lst p12 p13 13 p14]], .row 1 true false p15]⟩) (fun v => N (Q3_l16_enc p0 p1 p2 p3 p4 p5 p6 p7 p8 p9 p10 p11 p12 p13 p14 p15 v)) v
 | v => by kernel_rfl
theorem Q3_l16_dok (n : Nat) : LE.OK (Q3_l16_d (Q3_g n) n) (L tab) Q3_c16 := LE.shp (fun _ _ _ => rfl) fun ρ K y a b e => LE.rounds (Q3_Sok n) (LK.of (l := []) (by kernel_rfl) ((fun _ h => nomatch h))) (Q3_l16_k (Q3_g n) n _ _ _ _ _ _ _ _ _ _ _ _ _ _ _ _ K) (by kernel_rfl) (by kernel_rfl) e
theorem Q3_d16_ok (n : Nat) : LE.OK (Q3_d16 (Q3_g n) n) (L tab) Q3_c16 := Q3_l16_dok n
theorem Q3_k (G : Q3_G) {ρ : Type} (n : Nat) (a0 a1 a2 : Int) (a3 a4 : Bool) (a5 : Rows) (a6 a7 : Bool) (a8 : Rows) (K : Res → Option ρ) : runC (Q3_S G) Q3_hs (Q3_lp G n) m28 [.agg [.i .i64 a0, .i .i64 a1, .i .i64 a2, .lst a3 a4 5 a5, .lst a6 a7 13 a8]] K = Q3_s G n a0 a1 a2 a3 a4 a5 a6 a7 a8 (fun w0 => K ⟨.b w0, [], []⟩) := by kernel_rfl
theorem Q3_ok (n : Nat) : EK.OK (Q3_e n) 28 (L tab) := EK.shp (fun _ _ _ => rfl) fun ρ K y c e => EK.run (Q3_Sok n) (by kernel_rfl) (MF.LKOK.of (LK.of (l := [Q3_c3, Q3_c16]) (by kernel_rfl) (List.forall_mem_cons.2 ⟨LE.at (e := Q3_d3 (Q3_g n) n) (by kernel_rfl) (Q3_d3_ok n), List.forall_mem_cons.2 ⟨LE.at (e := Q3_d16 (Q3_g n) n) (by kernel_rfl) (Q3_d16_ok n), (fun _ h => nomatch h)⟩⟩))) (Q3_k (Q3_g n) n _ _ _ _ _ _ _ _ _ K) (by kernel_rfl) e
abbrev state_has_T : Type 1 := (ρ : Type) → Int → Int → Int → Int → Int → Int → Int → Bool → Int → Int → Int → Int → Int → Int → (Bool → Option ρ) → Option ρ
def state_has_E (G : state_has_T) : EK := fun ρ args K => decL [.agg [.i .i64 none, .i .i64 none, .i .i64 none, .i .i64 none, .i .i64 none, .i .i64 none, .i .i64 none, .b none, .i .u64 none, .i .u64 none, .i .u64 none, .i .u64 none, .i .u64 none], .i .i64 none] args fun c => G ρ c.1.1 c.1.2.1 c.1.2.2.1 c.1.2.2.2.1 c.1.2.2.2.2.1 c.1.2.2.2.2.2.1 c.1.2.2.2.2.2.2.1 c.1.2.2.2.2.2.2.2.1 c.1.2.2.2.2.2.2.2.2.1 c.1.2.2.2.2.2.2.2.2.2.1 c.1.2.2.2.2.2.2.2.2.2.2.1 c.1.2.2.2.2.2.2.2.2.2.2.2.1 c.1.2.2.2.2.2.2.2.2.2.2.2.2.1 c.2.1 (fun w0 => K ⟨.b w0, [], []⟩)
structure state_has_G where
 mk ::
def state_has_s (_G : state_has_G) {ρ : Type} (_n : Nat) (a0 a1 : Int) (a2 _a3 : Int) (_a4 _a5 _a6 : Int) (_a7 : Bool) (_a8 _a9 : Int) (_a10 _a11 : Int) (_a12 a13 : Int) (k0 : (Bool → Option ρ)) : Option ρ :=
 bif ((a0 : Int) == 2) then
 bif decide ((a13 : Int) ≥ a2) then
 chk (decide (0 ≤ (a1 : Int))) <|
 bif decide ((a13 : Int) < (IntKind.wrap .i64 (a2 + (IntKind.wrap .i64 ((1 : Int) * 2 ^ (min a1.toNat (IntKind.bits .i64))))))) then
 k0 true
 else k0 false
 else k0 false
 else k0 false
def state_has_g (_n : Nat) : state_has_G := ⟨⟩
def state_has (n : Nat) : state_has_T := fun _ρ a0 a1 a2 a3 a4 a5 a6 a7 a8 a9 a10 a11 a12 a13 k0 => state_has_s (state_has_g n) n a0 a1 a2 a3 a4 a5 a6 a7 a8 a9 a10 a11 a12 a13 k0
def state_has_e (n : Nat) : EK := state_has_E (state_has n)
def state_has_S (_G : state_has_G) : CK := tabS []
theorem state_has_Sok (n : Nat) : CK.OK (state_has_S (state_has_g n)) (L tab) := tabS_ok _ ((fun _ h => nomatch h))
def state_has_hs : HintC := hintL []
def state_has_lp (_G : state_has_G) (_n : Nat) : LK := tabL []
theorem state_has_k (G : state_has_G) {ρ : Type} (n : Nat) (a0 a1 : Int) (a2 a3 : Int) (a4 a5 a6 : Int) (a7 : Bool) (a8 a9 : Int) (a10 a11 : Int) (a12 a13 : Int) (K : Res → Option ρ) : runC (state_has_S G) state_has_hs (state_has_lp G n) m83 [.agg [.i .i64 a0, .i .i64 a1, .i .i64 a2, .i .i64 a3, .i .i64 a4, .i .i64 a5, .i .i64 a6, .b a7, .i .u64 a8, .i .u64 a9, .i .u64 a10, .i .u64 a11, .i .u64 a12], .i .i64 a13] K = state_has_s G n a0 a1 a2 a3 a4 a5 a6 a7 a8 a9 a10 a11 a12 a13 (fun w0 => K ⟨.b w0, [], []⟩) := by kernel_rfl
theorem state_has_ok (n : Nat) : EK.OK (state_has_e n) 83 (L tab) := EK.shp (fun _ _ _ => rfl) fun ρ K y c e => EK.run (state_has_Sok n) (by kernel_rfl) (MF.LKOK.of (LK.of (l := []) (by kernel_rfl) ((fun _ h => nomatch h)))) (state_has_k (state_has_g n) n _ _ _ _ _ _ _ _ _ _ _ _ _ _ K) (by kernel_rfl) e
abbrev Q7_T : Type 1 := (ρ : Type) → Int → Int → Int → Bool → Bool → Rows → Bool → Bool → Rows → Int → Mp → (Mp → Option ρ) → Option ρ
def Q7_E (G : Q7_T) : EK := fun ρ args K => decL [.agg [.i .i64 none, .i .i64 none, .i .i64 none, .lst none none 5 none, .lst none none 13 none], .i .i64 none, .mv] args fun c => G ρ c.1.1 c.1.2.1 c.1.2.2.1 c.1.2.2.2.1.1 c.1.2.2.2.1.2.1 c.1.2.2.2.1.2.2 c.1.2.2.2.2.1.1 c.1.2.2.2.2.1.2.1 c.1.2.2.2.2.1.2.2 c.2.1 c.2.2.1 (fun w0 => K ⟨.tup [], [], [w0]⟩)
structure Q7_G where
 mk ::
 state_has : state_has_T
 state_State_there : state_State_there_T
 Q7 : Q7_T
abbrev Q7_l4_V : Type := Int × Mp
def Q7_l4_s (G : Q7_G) {ρ : Type} (_n : Nat) (p0 : Int) (_p1 _p2 : Bool) (p3 : Rows) (p4 p6 : Int) (p7 p8 : Int) (p9 p10 : Bool) (p11 : Rows) (p12 p13 : Bool) (p14 : Rows) (k0 : (Mp → Option ρ)) (rec' : Q7_l4_V → Option ρ) : Q7_l4_V → Option ρ
 | v =>
 bif decide ((v.1 : Int) < p4) then
 rowT [.i .i64, .i .i64, .i .i64, .i .i64, .i .i64] p3 v.1 fun c0 =>
 bif ((c0.1 : Int) == 2) then
 rowT [.i .i64, .i .i64, .i .i64, .i .i64, .i .i64, .i .i64, .i .i64, .b, .i .u64, .i .u64, .i .u64, .i .u64, .i .u64] p14 p0 fun c1 =>
 G.state_has ρ c1.1 c1.2.1 c1.2.2.1 c1.2.2.2.1 c1.2.2.2.2.1 c1.2.2.2.2.2.1 c1.2.2.2.2.2.2.1 c1.2.2.2.2.2.2.2.1 c1.2.2.2.2.2.2.2.2.1 c1.2.2.2.2.2.2.2.2.2.1 c1.2.2.2.2.2.2.2.2.2.2.1 c1.2.2.2.2.2.2.2.2.2.2.2.1 c1.2.2.2.2.2.2.2.2.2.2.2.2.1 v.1 (fun w2_0 =>
 bif w2_0 then
 G.state_State_there ρ p6 p7 p8 p9 p10 p11 p12 p13 p14 c0.2.1 (fun w3_0 =>
 bif w3_0 then
 G.Q7 ρ p6 p7 p8 p9 p10 p11 p12 p13 p14 c0.2.1 v.2 (fun w4_0 =>
 rec' ((IntKind.wrap .i64 (v.1 + 1)), w4_0))
 else rec' ((IntKind.wrap .i64 (v.1 + 1)), v.2))
 else rec' ((IntKind.wrap .i64 (v.1 + 1)), v.2))
 else rec' ((IntKind.wrap .i64 (v.1 + 1)), v.2)
 else k0 v.2
def Q7_l4 (G : Q7_G) {ρ : Type} (n : Nat) (p0 : Int) (p1 p2 : Bool) (p3 : Rows) (p4 p6 : Int) (p7 p8 : Int) (p9 p10 : Bool) (p11 : Rows) (p12 p13 : Bool) (p14 : Rows) (k0 : (Mp → Option ρ)) (v : Q7_l4_V) : Option ρ := fuelN (Q7_l4_s G n p0 p1 p2 p3 p4 p6 p7 p8 p9 p10 p11 p12 p13 p14 k0) n v
def Q7_l4_enc (p0 : Int) (p1 p2 : Bool) (p3 : Rows) (p4 p6 : Int) (p7 p8 : Int) (p9 p10 : Bool) (p11 : Rows) (p12 p13 : Bool) (p14 : Rows) : Q7_l4_V → St
 | v => ⟨[(1, .i .i64 p0), (2, .mp 0), (3, .ptr 1 1 5 0 0), (14, .lst p1 p2 5 p3), (15, .i .i64 p4), (16, .i .i64 v.1)], [.map v.2, .row 5 true false [[.i .i64 p6, .i .i64 p7, .i .i64 p8, .lst p9 p10 5 p11, .lst p12 p13 13 p14]]]⟩
def Q7_s (G : Q7_G) {ρ : Type} (n : Nat) (a0 a1 a2 : Int) (a3 a4 : Bool) (a5 : Rows) (a6 a7 : Bool) (a8 : Rows) (a9 : Int) (a10 : Mp) (k0 : (Mp → Option ρ)) : Option ρ :=
 mapB false (.i .i64 a9) a10 fun q0 =>
 bif q0 then
 k0 a10
 else mapU a9 .i64 true a10 fun q1 =>
 Q7_l4 G n a9 a3 a4 a5 (((List.length (a5 : Rows)) : Nat) : Int) a0 a1 a2 a3 a4 a5 a6 a7 a8 (fun w2_0 =>
 k0 w2_0) (0, q1)
def Q7 (n m : Nat) : Q7_T := Nat.rec (motive := fun _ => Q7_T) (fun _ _ _ _ _ _ _ _ _ _ _ _ _ => none) (fun _ r _ρ a0 a1 a2 a3 a4 a5 a6 a7 a8 a9 a10 k0 => Q7_s ⟨state_has n, state_State_there n, r⟩ n a0 a1 a2 a3 a4 a5 a6 a7 a8 a9 a10 k0) m
def Q7_g (n m : Nat) : Q7_G := ⟨state_has n, state_State_there n, Q7 n m⟩
def Q7_e (n m : Nat) : EK := Q7_E (Q7 n m)
def Q7_S (G : Q7_G) : CK := tabS [(83, state_has_E G.state_has), (44, state_State_there_E G.state_State_there), (67, Q7_E G.Q7)]
theorem Q7_Sok (n m : Nat) (hrec : EK.OK (Q7_e n m) 67 (L tab)) : CK.OK (Q7_S (Q7_g n m)) (L tab) := tabS_ok _ (List.forall_mem_cons.2 ⟨(state_has_ok n), List.forall_mem_cons.2 ⟨(state_State_there_ok n), List.forall_mem_cons.2 ⟨hrec, (fun _ h => nomatch h)⟩⟩⟩)
def Q7_hs : HintC := hintL [(19, [.i .i64, .i .i64, .i .i64, .i .i64, .i .i64]), (29, [.i .i64, .i .i64, .i .i64, .i .i64, .i .i64, .i .i64, .i .i64, .b, .i .u64, .i .u64, .i .u64, .i .u64, .i .u64])]
def Q7_c4 : Nat × List Nat × List Nat × MC := loopAt 4 m67
def Q7_l4_d (G : Q7_G) (n : Nat) : Go.Rv.LE := fun _ρ h K => decSt [(1, .i .i64 none), (2, .mp 0), (3, .ptr 1 5 0 (some 1) (some 0)), (14, .lst none none 5 none), (15, .i .i64 none), (16, .i .i64 none)] [.map, .row 5 true false (some [[.i .i64 none, .i .i64 none, .i .i64 none, .lst none none 5 none, .lst none none 13 none]])] h fun a b => Q7_l4 G n a.1 a.2.2.2.1.1 a.2.2.2.1.2.1 a.2.2.2.1.2.2 a.2.2.2.2.1 b.2.1.1.1 b.2.1.1.2.1 b.2.1.1.2.2.1 b.2.1.1.2.2.2.1.1 b.2.1.1.2.2.2.1.2.1 b.2.1.1.2.2.2.1.2.2 b.2.1.1.2.2.2.2.1.1 b.2.1.1.2.2.2.2.1.2.1 b.2.1.1.2.2.2.2.1.2.2 (fun w0 => K (.exit 0) ⟨[], [.map w0, .row 5 true false [[.i .i64 b.2.1.1.1, .i .i64 b.2.1.1.2.1, .i .i64 b.2.1.1.2.2.1, .lst b.2.1.1.2.2.2.1.1 b.2.1.1.2.2.2.1.2.1 5 b.2.1.1.2.2.2.1.2.2, .lst b.2.1.1.2.2.2.2.1.1 b.2.1.1.2.2.2.2.1.2.1 13 b.2.1.1.2.2.2.2.1.2.2]]]⟩) (a.2.2.2.2.2.1, b.1)
def Q7_d4 (G : Q7_G) (n : Nat) : Go.Rv.LE := Q7_l4_d G n
def Q7_lp (G : Q7_G) (n : Nat) : LK := tabL [(4, Q7_d4 G n)]
theorem Q7_l4_k (G : Q7_G) {ρ : Type} (n : Nat) (p0 : Int) (p1 p2 : Bool) (p3 : Rows) (p4 p6 : Int) (p7 p8 : Int) (p9 p10 : Bool) (p11 : Rows) (p12 p13 : Bool) (p14 : Rows) (K : Ex → St → Option ρ) (N : St → Option ρ) : ∀ v, roundC (Q7_S G) Q7_hs (Q7_lp G n) Q7_c4 2 N K (Q7_l4_enc p0 p1 p2 p3 p4 p6 p7 p8 p9 p10 p11 p12 p13 p14 v) = Q7_l4_s G n p0 p1 p2 p3 p4 p6 p7 p8 p9 p10 p11 p12 p13 p14 (fun w0 => K (.exit 0) ⟨[], [.map w0, .row 5 true false [[.i .i64 p6, .i .i64 p7, .i .i64 p8, .lst p9 p10 5 p11, .lst p12 p13 13 p14]]]⟩) (fun v => N (Q7_l4_enc p0 p1 p2 p3 p4 p6 p7 p8 p9 p10 p11 p12 p13 p14 v)) v
 | v => by kernel_rfl
theorem Q7_l4_dok (n m : Nat) (hrec : EK.OK (Q7_e n m) 67 (L tab)) : LE.OK (Q7_l4_d (Q7_g n m) n) (L tab) Q7_c4 := LE.shp (fun _ _ _ => rfl) fun ρ K y a b e => LE.rounds (Q7_Sok n m hrec) (LK.of (l := []) (by kernel_rfl) ((fun _ h => nomatch h))) (Q7_l4_k (Q7_g n m) n _ _ _ _ _ _ _ _ _ _ _ _ _ _ K) (by kernel_rfl) (by kernel_rfl) e
theorem Q7_d4_ok (n m : Nat) (hrec : EK.OK (Q7_e n m) 67 (L tab)) : LE.OK (Q7_d4 (Q7_g n m) n) (L tab) Q7_c4 := Q7_l4_dok n m hrec
theorem Q7_k (G : Q7_G) {ρ : Type} (n : Nat) (a0 a1 a2 : Int) (a3 a4 : Bool) (a5 : Rows) (a6 a7 : Bool) (a8 : Rows) (a9 : Int) (a10 : Mp) (K : Res → Option ρ) : runC (Q7_S G) Q7_hs (Q7_lp G n) m67 [.agg [.i .i64 a0, .i .i64 a1, .i .i64 a2, .lst a3 a4 5 a5, .lst a6 a7 13 a8], .i .i64 a9, .mv a10] K = Q7_s G n a0 a1 a2 a3 a4 a5 a6 a7 a8 a9 a10 (fun w0 => K ⟨.tup [], [], [w0]⟩) := by kernel_rfl
theorem Q7_ok (n : Nat) : ∀ m, EK.OK (Q7_e n m) 67 (L tab)
 | 0 => EK.shp (fun _ _ _ => rfl) fun ρ K y c e => nomatch (show (none : Option ρ) = some y from e)
 | m + 1 => have hrec := Q7_ok n m
 EK.shp (fun _ _ _ => rfl) fun ρ K y c e => EK.run (Q7_Sok n m hrec) (by kernel_rfl) (MF.LKOK.of (LK.of (l := [Q7_c4]) (by kernel_rfl) (List.forall_mem_cons.2 ⟨LE.at (e := Q7_d4 (Q7_g n m) n) (by kernel_rfl) (Q7_d4_ok n m hrec), (fun _ h => nomatch h)⟩))) (Q7_k (Q7_g n m) n _ _ _ _ _ _ _ _ _ _ _ K) (by kernel_rfl) e
abbrev Q01_T : Type 1 := (ρ : Type) → Int → Int → Int → Int → Int → Int → Int → Bool → Int → Int → Int → Int → Int → Int → (Bool → Option ρ) → Option ρ
def Q01_E (G : Q01_T) : EK := fun ρ args K => decL [.agg [.i .i64 none, .i .i64 none, .i .i64 none, .i .i64 none, .i .i64 none, .i .i64 none, .i .i64 none, .b none, .i .u64 none, .i .u64 none, .i .u64 none, .i .u64 none, .i .u64 none], .ref [.i .i64 none] 0] args fun c => G ρ c.1.1 c.1.2.1 c.1.2.2.1 c.1.2.2.2.1 c.1.2.2.2.2.1 c.1.2.2.2.2.2.1 c.1.2.2.2.2.2.2.1 c.1.2.2.2.2.2.2.2.1 c.1.2.2.2.2.2.2.2.2.1 c.1.2.2.2.2.2.2.2.2.2.1 c.1.2.2.2.2.2.2.2.2.2.2.1 c.1.2.2.2.2.2.2.2.2.2.2.2.1 c.1.2.2.2.2.2.2.2.2.2.2.2.2.1 c.2.1.1 (fun w0 => K ⟨.b w0, [], []⟩)
structure Q01_G where
 mk ::
 state_has : state_has_T
def Q01_s (G : Q01_G) {ρ : Type} (_n : Nat) (a0 a1 : Int) (a2 a3 : Int) (a4 a5 a6 : Int) (a7 : Bool) (a8 a9 : Int) (a10 a11 : Int) (a12 a13 : Int) (k0 : (Bool → Option ρ)) : Option ρ :=
 G.state_has ρ a0 a1 a2 a3 a4 a5 a6 a7 a8 a9 a10 a11 a12 a13 (fun w0_0 =>
 bif w0_0 then
 k0 true
 else k0 false)
def Q01_g (n : Nat) : Q01_G := ⟨state_has n⟩
def Q01 (n : Nat) : Q01_T := fun _ρ a0 a1 a2 a3 a4 a5 a6 a7 a8 a9 a10 a11 a12 a13 k0 => Q01_s (Q01_g n) n a0 a1 a2 a3 a4 a5 a6 a7 a8 a9 a10 a11 a12 a13 k0
def Q01_e (n : Nat) : EK := Q01_E (Q01 n)
def Q01_S (G : Q01_G) : CK := tabS [(83, state_has_E G.state_has)]
theorem Q01_Sok (n : Nat) : CK.OK (Q01_S (Q01_g n)) (L tab) := tabS_ok _ (List.forall_mem_cons.2 ⟨(state_has_ok n), (fun _ h => nomatch h)⟩)
def Q01_hs : HintC := hintL []
def Q01_lp (_G : Q01_G) (_n : Nat) : LK := tabL []
theorem Q01_k (G : Q01_G) {ρ : Type} (n : Nat) (a0 a1 : Int) (a2 a3 : Int) (a4 a5 a6 : Int) (a7 : Bool) (a8 a9 : Int) (a10 a11 : Int) (a12 a13 : Int) (K : Res → Option ρ) : runC (Q01_S G) Q01_hs (Q01_lp G n) m84 [.agg [.i .i64 a0, .i .i64 a1, .i .i64 a2, .i .i64 a3, .i .i64 a4, .i .i64 a5, .i .i64 a6, .b a7, .i .u64 a8, .i .u64 a9, .i .u64 a10, .i .u64 a11, .i .u64 a12], .ref [.i .i64 a13] 0] K = Q01_s G n a0 a1 a2 a3 a4 a5 a6 a7 a8 a9 a10 a11 a12 a13 (fun w0 => K ⟨.b w0, [], []⟩) := by kernel_rfl
theorem Q01_ok (n : Nat) : EK.OK (Q01_e n) 84 (L tab) := EK.shp (fun _ _ _ => rfl) fun ρ K y c e => EK.run (Q01_Sok n) (by kernel_rfl) (MF.LKOK.of (LK.of (l := []) (by kernel_rfl) ((fun _ h => nomatch h)))) (Q01_k (Q01_g n) n _ _ _ _ _ _ _ _ _ _ _ _ _ _ K) (by kernel_rfl) e
abbrev Qc_T : Type 1 := (ρ : Type) → Bool → Bool → Rows → Int → (Int → Option ρ) → Option ρ
def Qc_E (G : Qc_T) : EK := fun ρ args K => decL [.lst none none 13 none, .fn 84 [.ref [.i .i64 none] 0]] args fun c => G ρ c.1.1 c.1.2.1 c.1.2.2 c.2.1.1.1 (fun w0 => K ⟨.i .i64 w0, [], []⟩)
structure Qc_G where
 mk ::
 Q01 : Q01_T
abbrev Qc_l2_V : Type := Int
def Qc_l2_s (G : Qc_G) {ρ : Type} (_n : Nat) (_p0 _p1 : Bool) (p2 : Rows) (p3 p4 : Int) (k0 : (Int → Option ρ)) (k1 : (Option ρ)) (rec' : Qc_l2_V → Option ρ) : Qc_l2_V → Option ρ
 | v =>
 bif decide ((v : Int) < p4) then
 rowT [.i .i64, .i .i64, .i .i64, .i .i64, .i .i64, .i .i64, .i .i64, .b, .i .u64, .i .u64, .i .u64, .i .u64, .i .u64] p2 v fun c0 =>
 G.Q01 ρ c0.1 c0.2.1 c0.2.2.1 c0.2.2.2.1 c0.2.2.2.2.1 c0.2.2.2.2.2.1 c0.2.2.2.2.2.2.1 c0.2.2.2.2.2.2.2.1 c0.2.2.2.2.2.2.2.2.1 c0.2.2.2.2.2.2.2.2.2.1 c0.2.2.2.2.2.2.2.2.2.2.1 c0.2.2.2.2.2.2.2.2.2.2.2.1 c0.2.2.2.2.2.2.2.2.2.2.2.2.1 p3 (fun w1_0 =>
 bif w1_0 then
 k0 v
 else rec' ((IntKind.wrap .i64 (v + 1))))
 else k1
def Qc_l2 (G : Qc_G) {ρ : Type} (n : Nat) (p0 p1 : Bool) (p2 : Rows) (p3 p4 : Int) (k0 : (Int → Option ρ)) (k1 : (Option ρ)) (v : Qc_l2_V) : Option ρ := fuelN (Qc_l2_s G n p0 p1 p2 p3 p4 k0 k1) n v
def Qc_l2_enc (p0 p1 : Bool) (p2 : Rows) (p3 p4 : Int) : Qc_l2_V → St
 | v => ⟨[(0, .lst p0 p1 13 p2), (1, .fn 84 [.ref [.i .i64 p3] 0]), (7, .i .i64 p4), (8, .i .i64 v)], []⟩
def Qc_s (G : Qc_G) {ρ : Type} (n : Nat) (a0 a1 : Bool) (a2 : Rows) (a3 : Int) (k0 : (Int → Option ρ)) : Option ρ :=
 Qc_l2 G n a0 a1 a2 a3 (((List.length (a2 : Rows)) : Nat) : Int) (fun w0_0 =>
 k0 w0_0) (k0 (-1)) (0)
def Qc_g (n : Nat) : Qc_G := ⟨Q01 n⟩
def Qc (n : Nat) : Qc_T := fun _ρ a0 a1 a2 a3 k0 => Qc_s (Qc_g n) n a0 a1 a2 a3 k0
def Qc_e (n : Nat) : EK := Qc_E (Qc n)
def Qc_S (G : Qc_G) : CK := tabS [(84, Q01_E G.Q01)]
theorem Qc_Sok (n : Nat) : CK.OK (Qc_S (Qc_g n)) (L tab) := tabS_ok _ (List.forall_mem_cons.2 ⟨(Q01_ok n), (fun _ h => nomatch h)⟩)
def Qc_hs : HintC := hintL [(14, [.i .i64, .i .i64, .i .i64, .i .i64, .i .i64, .i .i64, .i .i64, .b, .i .u64, .i .u64, .i .u64, .i .u64, .i .u64])]
def Qc_c2 : Nat × List Nat × List Nat × MC := loopAt 2 m36
def Qc_l2_d (G : Qc_G) (n : Nat) : Go.Rv.LE := fun _ρ h K => decSt [(0, .lst none none 13 none), (1, .fn 84 [.ref [.i .i64 none] 0]), (7, .i .i64 none), (8, .i .i64 none)] [] h fun a _b => Qc_l2 G n a.1.1 a.1.2.1 a.1.2.2 a.2.1.1.1 a.2.2.1 (fun w0 => K .ret ⟨[(4, .i .i64 w0)], []⟩) (K (.exit 0) ⟨[(4, .u)], []⟩) (a.2.2.2.1)
def Qc_d2 (G : Qc_G) (n : Nat) : Go.Rv.LE := Qc_l2_d G n
def Qc_lp (G : Qc_G) (n : Nat) : LK := tabL [(2, Qc_d2 G n)]
theorem Qc_l2_k (G : Qc_G) {ρ : Type} (n : Nat) (p0 p1 : Bool) (p2 : Rows) (p3 p4 : Int) (K : Ex → St → Option ρ) (N : St → Option ρ) : ∀ v, roundC (Qc_S G) Qc_hs (Qc_lp G n) Qc_c2 0 N K (Qc_l2_enc p0 p1 p2 p3 p4 v) = Qc_l2_s G n p0 p1 p2 p3 p4 (fun w0 => K .ret ⟨[(4, .i .i64 w0)], []⟩) (K (.exit 0) ⟨[(4, .u)], []⟩) (fun v => N (Qc_l2_enc p0 p1 p2 p3 p4 v)) v
 | v => by kernel_rfl
theorem Qc_l2_dok (n : Nat) : LE.OK (Qc_l2_d (Qc_g n) n) (L tab) Qc_c2 := LE.shp (fun _ _ _ => rfl) fun ρ K y a b e => LE.rounds (Qc_Sok n) (LK.of (l := []) (by kernel_rfl) ((fun _ h => nomatch h))) (Qc_l2_k (Qc_g n) n _ _ _ _ _ K) (by kernel_rfl) (by kernel_rfl) e
theorem Qc_d2_ok (n : Nat) : LE.OK (Qc_d2 (Qc_g n) n) (L tab) Qc_c2 := Qc_l2_dok n
theorem Qc_k (G : Qc_G) {ρ : Type} (n : Nat) (a0 a1 : Bool) (a2 : Rows) (a3 : Int) (K : Res → Option ρ) : runC (Qc_S G) Qc_hs (Qc_lp G n) m36 [.lst a0 a1 13 a2, .fn 84 [.ref [.i .i64 a3] 0]] K = Qc_s G n a0 a1 a2 a3 (fun w0 => K ⟨.i .i64 w0, [], []⟩) := by kernel_rfl
theorem Qc_ok (n : Nat) : EK.OK (Qc_e n) 36 (L tab) := EK.shp (fun _ _ _ => rfl) fun ρ K y c e => EK.run (Qc_Sok n) (by kernel_rfl) (MF.LKOK.of (LK.of (l := [Qc_c2]) (by kernel_rfl) (List.forall_mem_cons.2 ⟨LE.at (e := Qc_d2 (Qc_g n) n) (by kernel_rfl) (Qc_d2_ok n), (fun _ h => nomatch h)⟩))) (Qc_k (Qc_g n) n _ _ _ _ K) (by kernel_rfl) e
abbrev Qb_T : Type 1 := (ρ : Type) → Int → Int → Int → Bool → Bool → Rows → Bool → Bool → Rows → Int → (Int → Option ρ) → Option ρ
def Qb_E (G : Qb_T) : EK := fun ρ args K => decL [.agg [.i .i64 none, .i .i64 none, .i .i64 none, .lst none none 5 none, .lst none none 13 none], .i .i64 none] args fun c => G ρ c.1.1 c.1.2.1 c.1.2.2.1 c.1.2.2.2.1.1 c.1.2.2.2.1.2.1 c.1.2.2.2.1.2.2 c.1.2.2.2.2.1.1 c.1.2.2.2.2.1.2.1 c.1.2.2.2.2.1.2.2 c.2.1 (fun w0 => K ⟨.i .i64 w0, [], []⟩)
structure Qb_G where
 mk ::
 Qc : Qc_T
def Qb_s (G : Qb_G) {ρ : Type} (_n : Nat) (_a0 _a1 _a2 : Int) (_a3 _a4 : Bool) (_a5 : Rows) (a6 a7 : Bool) (a8 : Rows) (a9 : Int) (k0 : (Int → Option ρ)) : Option ρ :=
 G.Qc ρ a6 a7 a8 a9 (fun w0_0 =>
 k0 w0_0)
def Qb_g (n : Nat) : Qb_G := ⟨Qc n⟩
def Qb (n : Nat) : Qb_T := fun _ρ a0 a1 a2 a3 a4 a5 a6 a7 a8 a9 k0 => Qb_s (Qb_g n) n a0 a1 a2 a3 a4 a5 a6 a7 a8 a9 k0
def Qb_e (n : Nat) : EK := Qb_E (Qb n)
def Qb_S (G : Qb_G) : CK := tabS [(36, Qc_E G.Qc)]
theorem Qb_Sok (n : Nat) : CK.OK (Qb_S (Qb_g n)) (L tab) := tabS_ok _ (List.forall_mem_cons.2 ⟨(Qc_ok n), (fun _ h => nomatch h)⟩)
def Qb_hs : HintC := hintL []
def Qb_lp (_G : Qb_G) (_n : Nat) : LK := tabL []
theorem Qb_k (G : Qb_G) {ρ : Type} (n : Nat) (a0 a1 a2 : Int) (a3 a4 : Bool) (a5 : Rows) (a6 a7 : Bool) (a8 : Rows) (a9 : Int) (K : Res → Option ρ) : runC (Qb_S G) Qb_hs (Qb_lp G n) m68 [.agg [.i .i64 a0, .i .i64 a1, .i .i64 a2, .lst a3 a4 5 a5, .lst a6 a7 13 a8], .i .i64 a9] K = Qb_s G n a0 a1 a2 a3 a4 a5 a6 a7 a8 a9 (fun w0 => K ⟨.i .i64 w0, [], []⟩) := by kernel_rfl
theorem Qb_ok (n : Nat) : EK.OK (Qb_e n) 68 (L tab) := EK.shp (fun _ _ _ => rfl) fun ρ K y c e => EK.run (Qb_Sok n) (by kernel_rfl) (MF.LKOK.of (LK.of (l := []) (by kernel_rfl) ((fun _ h => nomatch h)))) (Qb_k (Qb_g n) n _ _ _ _ _ _ _ _ _ _ K) (by kernel_rfl) e
abbrev Qv_T : Type 1 := (ρ : Type) → Int → Int → Int → Bool → Bool → Rows → Bool → Bool → Rows → Int → Int → (Bool → Option ρ) → Option ρ
def Qv_E (G : Qv_T) : EK := fun ρ args K => decL [.agg [.i .i64 none, .i .i64 none, .i .i64 none, .lst none none 5 none, .lst none none 13 none], .i .i64 none, .i .i64 none] args fun c => G ρ c.1.1 c.1.2.1 c.1.2.2.1 c.1.2.2.2.1.1 c.1.2.2.2.1.2.1 c.1.2.2.2.1.2.2 c.1.2.2.2.2.1.1 c.1.2.2.2.2.1.2.1 c.1.2.2.2.2.1.2.2 c.2.1 c.2.2.1 (fun w0 => K ⟨.b w0, [], []⟩)
structure Qv_G where
 mk ::
 state_State_there : state_State_there_T
 Q7 : Q7_T
 Qb : Qb_T
def Qv_s (G : Qv_G) {ρ : Type} (_n : Nat) (a0 a1 a2 : Int) (a3 a4 : Bool) (a5 : Rows) (a6 a7 : Bool) (a8 : Rows) (a9 a10 : Int) (k0 : (Bool → Option ρ)) : Option ρ :=
 G.state_State_there ρ a0 a1 a2 a3 a4 a5 a6 a7 a8 a9 (fun w0_0 =>
 bif w0_0 then
 rowT [.i .i64, .i .i64, .i .i64, .i .i64, .i .i64, .i .i64, .i .i64, .b, .i .u64, .i .u64, .i .u64, .i .u64, .i .u64] a8 a9 fun c1 =>
 bif ((c1.1 : Int) != 2) then
 k0 false
 else G.Q7 ρ a0 a1 a2 a3 a4 a5 a6 a7 a8 a9 [] (fun w2_0 =>
 G.Qb ρ a0 a1 a2 a3 a4 a5 a6 a7 a8 a10 (fun w3_0 =>
 mapB false (.i .i64 w3_0) w2_0 fun q4 =>
 bif q4 then
 k0 true
 else k0 false))
 else k0 false)
def Qv_g (n : Nat) : Qv_G := ⟨state_State_there n, Q7 n n, Qb n⟩
def Qv (n : Nat) : Qv_T := fun _ρ a0 a1 a2 a3 a4 a5 a6 a7 a8 a9 a10 k0 => Qv_s (Qv_g n) n a0 a1 a2 a3 a4 a5 a6 a7 a8 a9 a10 k0
def Qv_e (n : Nat) : EK := Qv_E (Qv n)
def Qv_S (G : Qv_G) : CK := tabS [(44, state_State_there_E G.state_State_there), (67, Q7_E G.Q7), (68, Qb_E G.Qb)]
theorem Qv_Sok (n : Nat) : CK.OK (Qv_S (Qv_g n)) (L tab) := tabS_ok _ (List.forall_mem_cons.2 ⟨(state_State_there_ok n), List.forall_mem_cons.2 ⟨(Q7_ok n n), List.forall_mem_cons.2 ⟨(Qb_ok n), (fun _ h => nomatch h)⟩⟩⟩)
def Qv_hs : HintC := hintL [(16, [.i .i64, .i .i64, .i .i64, .i .i64, .i .i64, .i .i64, .i .i64, .b, .i .u64, .i .u64, .i .u64, .i .u64, .i .u64])]
def Qv_lp (_G : Qv_G) (_n : Nat) : LK := tabL []
theorem Qv_k (G : Qv_G) {ρ : Type} (n : Nat) (a0 a1 a2 : Int) (a3 a4 : Bool) (a5 : Rows) (a6 a7 : Bool) (a8 : Rows) (a9 a10 : Int) (K : Res → Option ρ) : runC (Qv_S G) Qv_hs (Qv_lp G n) m48 [.agg [.i .i64 a0, .i .i64 a1, .i .i64 a2, .lst a3 a4 5 a5, .lst a6 a7 13 a8], .i .i64 a9, .i .i64 a10] K = Qv_s G n a0 a1 a2 a3 a4 a5 a6 a7 a8 a9 a10 (fun w0 => K ⟨.b w0, [], []⟩) := by kernel_rfl
theorem Qv_ok (n : Nat) : EK.OK (Qv_e n) 48 (L tab) := EK.shp (fun _ _ _ => rfl) fun ρ K y c e => EK.run (Qv_Sok n) (by kernel_rfl) (MF.LKOK.of (LK.of (l := []) (by kernel_rfl) ((fun _ h => nomatch h)))) (Qv_k (Qv_g n) n _ _ _ _ _ _ _ _ _ _ _ K) (by kernel_rfl) e
abbrev Qe_T : Type 1 := (ρ : Type) → Int → Int → Int → Bool → Bool → Rows → Bool → Bool → Rows → (Bool → Option ρ) → Option ρ
def Qe_E (G : Qe_T) : EK := fun ρ args K => decL [.agg [.i .i64 none, .i .i64 none, .i .i64 none, .lst none none 5 none, .lst none none 13 none]] args fun c => G ρ c.1.1 c.1.2.1 c.1.2.2.1 c.1.2.2.2.1.1 c.1.2.2.2.1.2.1 c.1.2.2.2.1.2.2 c.1.2.2.2.2.1.1 c.1.2.2.2.2.1.2.1 c.1.2.2.2.2.1.2.2 (fun w0 => K ⟨.b w0, [], []⟩)
structure Qe_G where
 mk ::
 Qv : Qv_T
abbrev Qe_l2_V : Type := Int
def Qe_l2_s (G : Qe_G) {ρ : Type} (_n : Nat) (_p0 _p1 : Bool) (p2 : Rows) (p3 p4 : Int) (p5 p6 : Int) (p7 p8 : Bool) (p9 : Rows) (p10 p11 : Bool) (p12 : Rows) (k0 : (Option ρ)) (k1 : (Option ρ)) (rec' : Qe_l2_V → Option ρ) : Qe_l2_V → Option ρ
 | v =>
 bif decide ((v : Int) < p3) then
 rowT [.i .i64, .i .i64, .i .i64, .i .i64, .i .i64] p2 v fun c0 =>
 bif ((c0.1 : Int) == 2) then
 G.Qv ρ p4 p5 p6 p7 p8 p9 p10 p11 p12 c0.2.1 v (fun w1_0 =>
 bif w1_0 then
 k0
 else rec' ((IntKind.wrap .i64 (v + 1))))
 else rec' ((IntKind.wrap .i64 (v + 1)))
 else k1
def Qe_l2 (G : Qe_G) {ρ : Type} (n : Nat) (p0 p1 : Bool) (p2 : Rows) (p3 p4 : Int) (p5 p6 : Int) (p7 p8 : Bool) (p9 : Rows) (p10 p11 : Bool) (p12 : Rows) (k0 : (Option ρ)) (k1 : (Option ρ)) (v : Qe_l2_V) : Option ρ := fuelN (Qe_l2_s G n p0 p1 p2 p3 p4 p5 p6 p7 p8 p9 p10 p11 p12 k0 k1) n v
def Qe_l2_enc (p0 p1 : Bool) (p2 : Rows) (p3 p4 : Int) (p5 p6 : Int) (p7 p8 : Bool) (p9 : Rows) (p10 p11 : Bool) (p12 : Rows) : Qe_l2_V → St
 | v => ⟨[(1, .ptr 0 1 5 0 0), (6, .lst p0 p1 5 p2), (7, .i .i64 p3), (8, .i .i64 v)], [.row 5 true false [[.i .i64 p4, .i .i64 p5, .i .i64 p6, .lst p7 p8 5 p9, .lst p10 p11 13 p12]]]⟩
def Qe_s (G : Qe_G) {ρ : Type} (n : Nat) (a0 a1 a2 : Int) (a3 a4 : Bool) (a5 : Rows) (a6 a7 : Bool) (a8 : Rows) (k0 : (Bool → Option ρ)) : Option ρ :=
 Qe_l2 G n a3 a4 a5 (((List.length (a5 : Rows)) : Nat) : Int) a0 a1 a2 a3 a4 a5 a6 a7 a8 (k0 true) (k0 false) (0)
def Qe_g (n : Nat) : Qe_G := ⟨Qv n⟩
def Qe (n : Nat) : Qe_T := fun _ρ a0 a1 a2 a3 a4 a5 a6 a7 a8 k0 => Qe_s (Qe_g n) n a0 a1 a2 a3 a4 a5 a6 a7 a8 k0
def Qe_e (n : Nat) : EK := Qe_E (Qe n)
def Qe_S (G : Qe_G) : CK := tabS [(48, Qv_E G.Qv)]
theorem Qe_Sok (n : Nat) : CK.OK (Qe_S (Qe_g n)) (L tab) := tabS_ok _ (List.forall_mem_cons.2 ⟨(Qv_ok n), (fun _ h => nomatch h)⟩)
def Qe_hs : HintC := hintL [(11, [.i .i64, .i .i64, .i .i64, .i .i64, .i .i64])]
def Qe_c2 : Nat × List Nat × List Nat × MC := loopAt 2 m29
def Qe_l2_d (G : Qe_G) (n : Nat) : Go.Rv.LE := fun _ρ h K => decSt [(1, .ptr 0 5 0 (some 1) (some 0)), (6, .lst none none 5 none), (7, .i .i64 none), (8, .i .i64 none)] [.row 5 true false (some [[.i .i64 none, .i .i64 none, .i .i64 none, .lst none none 5 none, .lst none none 13 none]])] h fun a b => Qe_l2 G n a.2.1.1 a.2.1.2.1 a.2.1.2.2 a.2.2.1 b.1.1.1 b.1.1.2.1 b.1.1.2.2.1 b.1.1.2.2.2.1.1 b.1.1.2.2.2.1.2.1 b.1.1.2.2.2.1.2.2 b.1.1.2.2.2.2.1.1 b.1.1.2.2.2.2.1.2.1 b.1.1.2.2.2.2.1.2.2 (K .ret ⟨[(2, .b true)], [.row 5 true false [[.i .i64 b.1.1.1, .i .i64 b.1.1.2.1, .i .i64 b.1.1.2.2.1, .lst b.1.1.2.2.2.1.1 b.1.1.2.2.2.1.2.1 5 b.1.1.2.2.2.1.2.2, .lst b.1.1.2.2.2.2.1.1 b.1.1.2.2.2.2.1.2.1 13 b.1.1.2.2.2.2.1.2.2]]]⟩) (K (.exit 0) ⟨[(2, .u)], [.row 5 true false [[.i .i64 b.1.1.1, .i .i64 b.1.1.2.1, .i .i64 b.1.1.2.2.1, .lst b.1.1.2.2.2.1.1 b.1.1.2.2.2.1.2.1 5 b.1.1.2.2.2.1.2.2, .lst b.1.1.2.2.2.2.1.1 b.1.1.2.2.2.2.1.2.1 13 b.1.1.2.2.2.2.1.2.2]]]⟩) (a.2.2.2.1)
def Qe_d2 (G : Qe_G) (n : Nat) : Go.Rv.LE := Qe_l2_d G n
def Qe_lp (G : Qe_G) (n : Nat) : LK := tabL [(2, Qe_d2 G n)]
theorem Qe_l2_k (G : Qe_G) {ρ : Type} (n : Nat) (p0 p1 : Bool) (p2 : Rows) (p3 p4 : Int) (p5 p6 : Int) (p7 p8 : Bool) (p9 : Rows) (p10 p11 : Bool) (p12 : Rows) (K : Ex → St → Option ρ) (N : St → Option ρ) : ∀ v, roundC (Qe_S G) Qe_hs (Qe_lp G n) Qe_c2 1 N K (Qe_l2_enc p0 p1 p2 p3 p4 p5 p6 p7 p8 p9 p10 p11 p12 v) = Qe_l2_s G n p0 p1 p2 p3 p4 p5 p6 p7 p8 p9 p10 p11 p12 (K .ret ⟨[(2, .b true)], [.row 5 true false [[.i .i64 p4, .i .i64 p5, .i .i64 p6, .lst p7 p8 5 p9, .lst p10 p11 13 p12]]]⟩) (K (.exit 0) ⟨[(2, .u)], [.row 5 true false [[.i .i64 p4, .i .i64 p5, .i .i64 p6, .lst p7 p8 5 p9, .lst p10 p11 13 p12]]]⟩) (fun v => N (Qe_l2_enc p0 p1 p2 p3 p4 p5 p6 p7 p8 p9 p10 p11 p12 v)) v
 | v => by kernel_rfl
theorem Qe_l2_dok (n : Nat) : LE.OK (Qe_l2_d (Qe_g n) n) (L tab) Qe_c2 := LE.shp (fun _ _ _ => rfl) fun ρ K y a b e => LE.rounds (Qe_Sok n) (LK.of (l := []) (by kernel_rfl) ((fun _ h => nomatch h))) (Qe_l2_k (Qe_g n) n _ _ _ _ _ _ _ _ _ _ _ _ _ K) (by kernel_rfl) (by kernel_rfl) e
theorem Qe_d2_ok (n : Nat) : LE.OK (Qe_d2 (Qe_g n) n) (L tab) Qe_c2 := Qe_l2_dok n
theorem Qe_k (G : Qe_G) {ρ : Type} (n : Nat) (a0 a1 a2 : Int) (a3 a4 : Bool) (a5 : Rows) (a6 a7 : Bool) (a8 : Rows) (K : Res → Option ρ) : runC (Qe_S G) Qe_hs (Qe_lp G n) m29 [.agg [.i .i64 a0, .i .i64 a1, .i .i64 a2, .lst a3 a4 5 a5, .lst a6 a7 13 a8]] K = Qe_s G n a0 a1 a2 a3 a4 a5 a6 a7 a8 (fun w0 => K ⟨.b w0, [], []⟩) := by kernel_rfl
theorem Qe_ok (n : Nat) : EK.OK (Qe_e n) 29 (L tab) := EK.shp (fun _ _ _ => rfl) fun ρ K y c e => EK.run (Qe_Sok n) (by kernel_rfl) (MF.LKOK.of (LK.of (l := [Qe_c2]) (by kernel_rfl) (List.forall_mem_cons.2 ⟨LE.at (e := Qe_d2 (Qe_g n) n) (by kernel_rfl) (Qe_d2_ok n), (fun _ h => nomatch h)⟩))) (Qe_k (Qe_g n) n _ _ _ _ _ _ _ _ _ K) (by kernel_rfl) e
abbrev Qa_T : Type 1 := (ρ : Type) → Int → Int → Int → Bool → Bool → Rows → Bool → Bool → Rows → (Bool → Bool → Rows → Option ρ) → Option ρ
def Qa_E (G : Qa_T) : EK := fun ρ args K => decL [.agg [.i .i64 none, .i .i64 none, .i .i64 none, .lst none none 5 none, .lst none none 13 none]] args fun c => G ρ c.1.1 c.1.2.1 c.1.2.2.1 c.1.2.2.2.1.1 c.1.2.2.2.1.2.1 c.1.2.2.2.1.2.2 c.1.2.2.2.2.1.1 c.1.2.2.2.2.1.2.1 c.1.2.2.2.2.1.2.2 (fun w0 w1 w2 => K ⟨.agg [.lst w0 w1 1 w2], [], []⟩)
structure Qa_G where
 mk ::
 cap_None : cap_None_T
abbrev Qa_l3_V : Type := (Unit) ⊕ (Int × Nat × Nat × Rows)
def Qa_l3_s (G : Qa_G) {ρ : Type} (_n : Nat) (_p0 _p1 : Bool) (p2 : Rows) (p3 _p4 : Int) (_p5 _p6 : Int) (_p7 _p8 : Bool) (_p9 : Rows) (_p10 _p11 : Bool) (_p12 : Rows) (k0 : (Option ρ)) (k1 : (Nat → Nat → Rows → Option ρ)) (rec' : Qa_l3_V → Option ρ) : Qa_l3_V → Option ρ
 | (.inl _v) =>
 bif decide ((0 : Int) < p3) then
 rowT [.i .i64, .i .i64, .i .i64, .i .i64, .i .i64] p2 0 fun c0 =>
 G.cap_None ρ c0.1 c0.2.1 c0.2.2.1 c0.2.2.2.1 (fun w1_0 =>
 bif w1_0 then
 rec' (.inr (1, 1, 1, [[.i .i64 (-2)]]))
 else rec' (.inr (1, 1, 1, [[.i .i64 c0.2.2.2.2.1]])))
 else k0
 | (.inr v) =>
 bif decide ((v.1 : Int) < p3) then
 rowT [.i .i64, .i .i64, .i .i64, .i .i64, .i .i64] p2 v.1 fun c2 =>
 G.cap_None ρ c2.1 c2.2.1 c2.2.2.1 c2.2.2.2.1 (fun w3_0 =>
 bif w3_0 then
 chk (((List.length (v.2.2.2 : Rows)) : Nat) == v.2.1) <|
 chk ((v.2.2.1 : Nat) == v.2.1) <|
 chk (decide ((v.2.1 + 1) ≤ most)) <|
 rec' (.inr ((IntKind.wrap .i64 (v.1 + 1)), (v.2.1 + 1), (v.2.1 + 1), (v.2.2.2 ++ [[.i .i64 (-2)]])))
 else chk (((List.length (v.2.2.2 : Rows)) : Nat) == v.2.1) <|
 chk ((v.2.2.1 : Nat) == v.2.1) <|
 chk (decide ((v.2.1 + 1) ≤ most)) <|
 rec' (.inr ((IntKind.wrap .i64 (v.1 + 1)), (v.2.1 + 1), (v.2.1 + 1), (v.2.2.2 ++ [[.i .i64 c2.2.2.2.2.1]]))))
 else k1 v.2.1 v.2.2.1 v.2.2.2
def Qa_l3 (G : Qa_G) {ρ : Type} (n : Nat) (p0 p1 : Bool) (p2 : Rows) (p3 p4 : Int) (p5 p6 : Int) (p7 p8 : Bool) (p9 : Rows) (p10 p11 : Bool) (p12 : Rows) (k0 : (Option ρ)) (k1 : (Nat → Nat → Rows → Option ρ)) (v : Qa_l3_V) : Option ρ := fuelN (Qa_l3_s G n p0 p1 p2 p3 p4 p5 p6 p7 p8 p9 p10 p11 p12 k0 k1) n v
def Qa_l3_enc (p0 p1 : Bool) (p2 : Rows) (p3 p4 : Int) (p5 p6 : Int) (p7 p8 : Bool) (p9 : Rows) (p10 p11 : Bool) (p12 : Rows) : Qa_l3_V → St
 | (.inl _v) => ⟨[(2, .ptr 1 1 1 0 0), (3, .ptr 2 1 1 0 0), (7, .lst p0 p1 5 p2), (8, .i .i64 p3), (9, .i .i64 0)], [.row 5 true false [[.i .i64 p4, .i .i64 p5, .i .i64 p6, .lst p7 p8 5 p9, .lst p10 p11 13 p12]], .row 1 true false [[.lst true true 0 []]], .row 1 true false [[.lst true true 0 []]]]⟩
 | (.inr v) => ⟨[(2, .ptr 1 1 1 0 0), (3, .ptr 2 1 1 0 0), (7, .lst p0 p1 5 p2), (8, .i .i64 p3), (9, .i .i64 v.1)], [.row 5 true false [[.i .i64 p4, .i .i64 p5, .i .i64 p6, .lst p7 p8 5 p9, .lst p10 p11 13 p12]], .row 1 true false [[.lst true true 0 []]], .row 1 false false [[.sl 3 v.2.1 1 0 v.2.2.1]], .row 1 true false v.2.2.2]⟩
def Qa_s (G : Qa_G) {ρ : Type} (n : Nat) (a0 a1 a2 : Int) (a3 a4 : Bool) (a5 : Rows) (a6 a7 : Bool) (a8 : Rows) (k0 : (Bool → Bool → Rows → Option ρ)) : Option ρ :=
 Qa_l3 G n a3 a4 a5 (((List.length (a5 : Rows)) : Nat) : Int) a0 a1 a2 a3 a4 a5 a6 a7 a8 (k0 true true []) (fun w1_0 w1_1 w1_2 =>
 chk (((List.length (w1_2 : Rows)) : Nat) == w1_0) <|
 k0 false false (List.take w1_1 (List.drop 0 (w1_2 : Rows)))) (.inl ())
def Qa_g (n : Nat) : Qa_G := ⟨cap_None n⟩
def Qa (n : Nat) : Qa_T := fun _ρ a0 a1 a2 a3 a4 a5 a6 a7 a8 k0 => Qa_s (Qa_g n) n a0 a1 a2 a3 a4 a5 a6 a7 a8 k0
def Qa_e (n : Nat) : EK := Qa_E (Qa n)
def Qa_S (G : Qa_G) : CK := tabS [(21, cap_None_E G.cap_None)]
theorem Qa_Sok (n : Nat) : CK.OK (Qa_S (Qa_g n)) (L tab) := tabS_ok _ (List.forall_mem_cons.2 ⟨(cap_None_ok n), (fun _ h => nomatch h)⟩)
def Qa_hs : HintC := hintL [(11, [.i .i64, .i .i64, .i .i64, .i .i64, .i .i64])]
def Qa_c3 : Nat × List Nat × List Nat × MC := loopAt 3 m14
def Qa_l3_d (G : Qa_G) (n : Nat) : Go.Rv.LE := fun _ρ h K => decSt [(2, .ptr 1 1 0 (some 1) (some 0)), (3, .ptr 2 1 0 (some 1) (some 0)), (7, .lst none none 5 none), (8, .i .i64 none), (9, .i .i64 (some 0))] [.row 5 true false (some [[.i .i64 none, .i .i64 none, .i .i64 none, .lst none none 5 none, .lst none none 13 none]]), .row 1 true false (some [[.lst (some true) (some true) 0 (some [])]]), .row 1 true false (some [[.lst (some true) (some true) 0 (some [])]])] h fun a b => Qa_l3 G n a.2.2.1.1 a.2.2.1.2.1 a.2.2.1.2.2 a.2.2.2.1 b.1.1.1 b.1.1.2.1 b.1.1.2.2.1 b.1.1.2.2.2.1.1 b.1.1.2.2.2.1.2.1 b.1.1.2.2.2.1.2.2 b.1.1.2.2.2.2.1.1 b.1.1.2.2.2.2.1.2.1 b.1.1.2.2.2.2.1.2.2 (K (.exit 0) ⟨[(2, .ptr 1 1 1 0 0), (3, .ptr 2 1 1 0 0)], [.row 5 true false [[.i .i64 b.1.1.1, .i .i64 b.1.1.2.1, .i .i64 b.1.1.2.2.1, .lst b.1.1.2.2.2.1.1 b.1.1.2.2.2.1.2.1 5 b.1.1.2.2.2.1.2.2, .lst b.1.1.2.2.2.2.1.1 b.1.1.2.2.2.2.1.2.1 13 b.1.1.2.2.2.2.1.2.2]], .row 1 true false [[.lst true true 0 []]], .row 1 true false [[.lst true true 0 []]]]⟩) (fun w0 w1 w2 => K (.exit 0) ⟨[(2, .ptr 1 1 1 0 0), (3, .ptr 2 1 1 0 0)], [.row 5 true false [[.i .i64 b.1.1.1, .i .i64 b.1.1.2.1, .i .i64 b.1.1.2.2.1, .lst b.1.1.2.2.2.1.1 b.1.1.2.2.2.1.2.1 5 b.1.1.2.2.2.1.2.2, .lst b.1.1.2.2.2.2.1.1 b.1.1.2.2.2.2.1.2.1 13 b.1.1.2.2.2.2.1.2.2]], .row 1 true false [[.lst true true 0 []]], .row 1 false false [[.sl 3 w0 1 0 w1]], .row 1 true false w2]⟩) (.inl ())
def Qa_d3 (G : Qa_G) (n : Nat) : Go.Rv.LE := Qa_l3_d G n
def Qa_lp (G : Qa_G) (n : Nat) : LK := tabL [(3, Qa_d3 G n)]
theorem Qa_l3_k (G : Qa_G) {ρ : Type} (n : Nat) (p0 p1 : Bool) (p2 : Rows) (p3 p4 : Int) (p5 p6 : Int) (p7 p8 : Bool) (p9 : Rows) (p10 p11 : Bool) (p12 : Rows) (K : Ex → St → Option ρ) (N : St → Option ρ) : ∀ v, roundC (Qa_S G) Qa_hs (Qa_lp G n) Qa_c3 3 N K (Qa_l3_enc p0 p1 p2 p3 p4 p5 p6 p7 p8 p9 p10 p11 p12 v) = Qa_l3_s G n p0 p1 p2 p3 p4 p5 p6 p7 p8 p9 p10 p11 p12 (K (.exit 0) ⟨[(2, .ptr 1 1 1 0 0), (3, .ptr 2 1 1 0 0)], [.row 5 true false [[.i .i64 p4, .i .i64 p5, .i .i64 p6, .lst p7 p8 5 p9, .lst p10 p11 13 p12]], .row 1 true false [[.lst true true 0 []]], .row 1 true false [[.lst true true 0 []]]]⟩) (fun w0 w1 w2 => K (.exit 0) ⟨[(2, .ptr 1 1 1 0 0), (3, .ptr 2 1 1 0 0)], [.row 5 true false [[.i .i64 p4, .i .i64 p5, .i .i64 p6, .lst p7 p8 5 p9, .lst p10 p11 13 p12]], .row 1 true false [[.lst true true 0 []]], .row 1 false false [[.sl 3 w0 1 0 w1]], .row 1 true false w2]⟩) (fun v => N (Qa_l3_enc p0 p1 p2 p3 p4 p5 p6 p7 p8 p9 p10 p11 p12 v)) v
 | (.inl v) => by kernel_rfl
 | (.inr v) => by kernel_rfl
theorem Qa_l3_dok (n : Nat) : LE.OK (Qa_l3_d (Qa_g n) n) (L tab) Qa_c3 := LE.shp (fun _ _ _ => rfl) fun ρ K y a b e => LE.rounds (Qa_Sok n) (LK.of (l := []) (by kernel_rfl) ((fun _ h => nomatch h))) (Qa_l3_k (Qa_g n) n _ _ _ _ _ _ _ _ _ _ _ _ _ K) (by kernel_rfl) (by kernel_rfl) e
theorem Qa_d3_ok (n : Nat) : LE.OK (Qa_d3 (Qa_g n) n) (L tab) Qa_c3 := Qa_l3_dok n
theorem Qa_k (G : Qa_G) {ρ : Type} (n : Nat) (a0 a1 a2 : Int) (a3 a4 : Bool) (a5 : Rows) (a6 a7 : Bool) (a8 : Rows) (K : Res → Option ρ) : runC (Qa_S G) Qa_hs (Qa_lp G n) m14 [.agg [.i .i64 a0, .i .i64 a1, .i .i64 a2, .lst a3 a4 5 a5, .lst a6 a7 13 a8]] K = Qa_s G n a0 a1 a2 a3 a4 a5 a6 a7 a8 (fun w0 w1 w2 => K ⟨.agg [.lst w0 w1 1 w2], [], []⟩) := by kernel_rfl
theorem Qa_ok (n : Nat) : EK.OK (Qa_e n) 14 (L tab) := EK.shp (fun _ _ _ => rfl) fun ρ K y c e => EK.run (Qa_Sok n) (by kernel_rfl) (MF.LKOK.of (LK.of (l := [Qa_c3]) (by kernel_rfl) (List.forall_mem_cons.2 ⟨LE.at (e := Qa_d3 (Qa_g n) n) (by kernel_rfl) (Qa_d3_ok n), (fun _ h => nomatch h)⟩))) (Qa_k (Qa_g n) n _ _ _ _ _ _ _ _ _ K) (by kernel_rfl) e
abbrev forest_Forest_is_T : Type 1 := (ρ : Type) → Bool → Bool → Rows → Int → (Bool → Option ρ) → Option ρ
def forest_Forest_is_E (G : forest_Forest_is_T) : EK := fun ρ args K => decL [.agg [.lst none none 1 none], .i .i64 none] args fun c => G ρ c.1.1.1 c.1.1.2.1 c.1.1.2.2 c.2.1 (fun w0 => K ⟨.b w0, [], []⟩)
structure forest_Forest_is_G where
 mk ::
def forest_Forest_is_s (_G : forest_Forest_is_G) {ρ : Type} (_n : Nat) (_a0 _a1 : Bool) (a2 : Rows) (a3 : Int) (k0 : (Bool → Option ρ)) : Option ρ :=
 bif decide ((a3 : Int) ≥ 0) then
 bif decide ((a3 : Int) < (((List.length (a2 : Rows)) : Nat) : Int)) then
 rowT [.i .i64] a2 a3 fun c0 =>
 bif ((c0.1 : Int) != (-2)) then
 k0 true
 else k0 false
 else k0 false
 else k0 false
def forest_Forest_is_g (_n : Nat) : forest_Forest_is_G := ⟨⟩
def forest_Forest_is (n : Nat) : forest_Forest_is_T := fun _ρ a0 a1 a2 a3 k0 => forest_Forest_is_s (forest_Forest_is_g n) n a0 a1 a2 a3 k0
def forest_Forest_is_e (n : Nat) : EK := forest_Forest_is_E (forest_Forest_is n)
def forest_Forest_is_S (_G : forest_Forest_is_G) : CK := tabS []
theorem forest_Forest_is_Sok (n : Nat) : CK.OK (forest_Forest_is_S (forest_Forest_is_g n)) (L tab) := tabS_ok _ ((fun _ h => nomatch h))
def forest_Forest_is_hs : HintC := hintL [(18, [.i .i64])]
def forest_Forest_is_lp (_G : forest_Forest_is_G) (_n : Nat) : LK := tabL []
theorem forest_Forest_is_k (G : forest_Forest_is_G) {ρ : Type} (n : Nat) (a0 a1 : Bool) (a2 : Rows) (a3 : Int) (K : Res → Option ρ) : runC (forest_Forest_is_S G) forest_Forest_is_hs (forest_Forest_is_lp G n) m35 [.agg [.lst a0 a1 1 a2], .i .i64 a3] K = forest_Forest_is_s G n a0 a1 a2 a3 (fun w0 => K ⟨.b w0, [], []⟩) := by kernel_rfl
theorem forest_Forest_is_ok (n : Nat) : EK.OK (forest_Forest_is_e n) 35 (L tab) := EK.shp (fun _ _ _ => rfl) fun ρ K y c e => EK.run (forest_Forest_is_Sok n) (by kernel_rfl) (MF.LKOK.of (LK.of (l := []) (by kernel_rfl) ((fun _ h => nomatch h)))) (forest_Forest_is_k (forest_Forest_is_g n) n _ _ _ _ K) (by kernel_rfl) e
end Go.Rv
