/-
The plain mathematics of states: what the programs of ours tell of typed lists.
-/
import Derived.Test.YtbmobnjhdealiaaNb
import Derived.KernelRfl
import Derived.Test.YtbmobnjhdealiaaEvC

namespace Go.Rv
theorem fuelN_succ {ρ V : Type} (step : (V → Option ρ) → V → Option ρ) (n : Nat) (v : V) : fuelN step (n + 1) v = step (fuelN step n) v := rfl
theorem chk_t {ρ : Type} (K : Option ρ) : chk true K = K := rfl
theorem bif_t {ρ : Type} (a b : Option ρ) : (bif true then a else b) = a := rfl
theorem bif_f {ρ : Type} (a b : Option ρ) : (bif false then a else b) = b := rfl
theorem wrap_id {n : Int} (h1 : -9223372036854775808 ≤ n) (h2 : n < 9223372036854775808) : IntKind.wrap .i64 n = n := by
  simp [IntKind.wrap, IntKind.signed, IntKind.bits]; omega
structure Slot where
  (ty th ri ba up : Int)
  deriving DecidableEq
structure Thing where
  (ty bits base size used fr badge : Int)
  full : Bool
  (word d0 d1 d2 d3 : Int)
  deriving DecidableEq
abbrev i5 : List Ce := [.i .i64, .i .i64, .i .i64, .i .i64, .i .i64]
abbrev i13 : List Ce := [.i .i64, .i .i64, .i .i64, .i .i64, .i .i64, .i .i64, .i .i64, .b, .i .u64, .i .u64, .i .u64, .i .u64, .i .u64]
def Slot.row (s : Slot) : List AV := [.i .i64 s.ty, .i .i64 s.th, .i .i64 s.ri, .i .i64 s.ba, .i .i64 s.up]
def Slot.c (s : Slot) : CT i5 := (s.ty, s.th, s.ri, s.ba, s.up, ())
def Thing.row (t : Thing) : List AV := [.i .i64 t.ty, .i .i64 t.bits, .i .i64 t.base, .i .i64 t.size, .i .i64 t.used, .i .i64 t.fr, .i .i64 t.badge, .b t.full, .i .u64 t.word, .i .u64 t.d0, .i .u64 t.d1, .i .u64 t.d2, .i .u64 t.d3]
def Thing.c (t : Thing) : CT i13 := (t.ty, t.bits, t.base, t.size, t.used, t.fr, t.badge, t.full, t.word, t.d0, t.d1, t.d2, t.d3, ())
def encS (l : List Slot) : Rows := l.map Slot.row
def encT (l : List Thing) : Rows := l.map Thing.row
def encI (l : List Int) : Rows := l.map fun x => [.i .i64 x]
theorem encS_len (l : List Slot) : (encS l).length = l.length := by simp [encS]
theorem encT_len (l : List Thing) : (encT l).length = l.length := by simp [encT]
theorem encI_len (l : List Int) : (encI l).length = l.length := by simp [encI]
section
variable {ρ : Type}
theorem rowT_S {l : List Slot} {i : Nat} (h : i < l.length) (K : CT i5 → Option ρ) : rowT i5 (encS l) (i : Int) K = K (l[i].c) := by
  unfold rowT rowN encS
  have : decide ((0 : Int) ≤ (i : Int)) = true := by simp
  rw [this]
  simp only [Int.toNat_natCast, List.getElem?_map, List.getElem?_eq_getElem h, Option.map_some]
  rfl
theorem rowT_T {l : List Thing} {i : Nat} (h : i < l.length) (K : CT i13 → Option ρ) : rowT i13 (encT l) (i : Int) K = K (l[i].c) := by
  unfold rowT rowN encT
  have : decide ((0 : Int) ≤ (i : Int)) = true := by simp
  rw [this]
  simp only [Int.toNat_natCast, List.getElem?_map, List.getElem?_eq_getElem h, Option.map_some]
  rfl
theorem rowN_I {l : List Int} {i : Nat} (h : i < l.length) (K : CT [.i .i64] → Option ρ) : rowN [.i .i64] (encI l) i K = K (l[i], ()) := by
  unfold rowN encI
  simp only [List.getElem?_map, List.getElem?_eq_getElem h, Option.map_some]
  rfl
theorem rowT_I {l : List Int} {i : Nat} (h : i < l.length) (K : CT [.i .i64] → Option ρ) : rowT [.i .i64] (encI l) (i : Int) K = K (l[i], ()) := by
  unfold rowT
  have : decide ((0 : Int) ≤ (i : Int)) = true := by simp
  rw [this]
  simp only [Int.toNat_natCast]
  exact rowN_I h K
def inM (n l h : Int) : Bool := decide (n ≥ l) && decide (n ≤ h)
def capNone (a b c d : Int) : Bool := a == 0 && (b == 0 && (c == 0 && (d == 0 && true)))
def capGood (a b c d : Int) : Bool := capNone a b c d || (inM a 1 5 && inM b 0 47 && inM c 0 7 && inM d 0 65535 && (d == 0 || (a == 3 || a == 4)))
variable (n : Nat)
theorem cap_None_eq (a b c d : Int) (K : Bool → Option ρ) : cap_None n ρ a b c d K = K (capNone a b c d) := by
  show cap_None_s _ n a b c d K = _
  unfold cap_None_s capNone
  generalize (a == 0 && (b == 0 && (c == 0 && (d == 0 && true)))) = x
  cases x <;> rfl
theorem cap_in_eq (a l h : Int) (K : Bool → Option ρ) : cap_in n ρ a l h K = K (inM a l h) := by
  show cap_in_s _ n a l h K = _
  unfold cap_in_s inM
  generalize decide (a ≥ l) = x
  generalize decide (a ≤ h) = y
  cases x <;> cases y <;> rfl
theorem right_Good_eq (a : Int) (K : Bool → Option ρ) : right_Good n ρ a K = K (inM a 0 7) := by
  show right_Good_s _ n a K = _
  unfold right_Good_s inM
  generalize decide (a ≥ 0) = x
  generalize decide (a ≤ 7) = y
  cases x <;> cases y <;> rfl
theorem right_Badge_eq (a : Int) (K : Bool → Option ρ) : right_Badge n ρ a K = K (inM a 0 65535) := by
  show right_Badge_s _ n a K = _
  unfold right_Badge_s inM
  generalize decide (a ≥ 0) = x
  generalize decide (a ≤ 65535) = y
  cases x <;> cases y <;> rfl
theorem cap_badged_eq (a : Int) (K : Bool → Option ρ) : cap_badged n ρ a K = K (a == 3 || a == 4) := by
  show cap_badged_s _ n a K = _
  unfold cap_badged_s
  generalize (a == 3) = x
  generalize (a == 4) = y
  cases x <;> cases y <;> rfl
theorem Qj_eq (a b c d : Int) (K : Bool → Option ρ) : Qj n ρ a b c d K = K (capGood a b c d) := by
  show Qj_s (Qj_g n) n a b c d K = _
  simp only [Qj_s, Qj_g, cap_None_eq, cap_in_eq, right_Good_eq, right_Badge_eq, cap_badged_eq, capGood]
  generalize capNone a b c d = x1
  generalize inM a 1 5 = x2
  generalize inM b 0 47 = x3
  generalize inM c 0 7 = x4
  generalize inM d 0 65535 = x5
  generalize (a == 3 || a == 4) = x7
  generalize (d == 0) = x6
  cases x1 <;> cases x2 <;> cases x3 <;> cases x4 <;> cases x5 <;> cases x6 <;> cases x7 <;> rfl
end
end Go.Rv
namespace Go.Rv
section
variable {ρ : Type}
theorem up_loop {step : (Int → Option ρ) → Int → Option ρ} {len : Nat} {k0 k1 : Option ρ} (p : Nat → Bool)
    (hend : ∀ rec, step rec (len : Int) = k1)
    (hstep : ∀ rec (i : Nat), i < len → step rec (i : Int) = bif p i then rec ((i + 1 : Nat) : Int) else k0) :
    ∀ (d i n : Nat), i + d = len → d < n → fuelN step n (i : Int) = bif (List.range' i d).all p then k1 else k0
  | 0, i, n, h, hn => by
    obtain ⟨m, rfl⟩ : ∃ m, n = m + 1 := ⟨n - 1, by omega⟩
    rw [fuelN_succ, show i = len by omega, hend]; rfl
  | d + 1, i, n, h, hn => by
    obtain ⟨m, rfl⟩ : ∃ m, n = m + 1 := ⟨n - 1, by omega⟩
    rw [fuelN_succ, hstep _ i (by omega), up_loop p hend hstep d (i + 1) m (by omega) (by omega), List.range'_succ, List.all_cons]
    cases p i <;> rfl
theorem up_loop0 {step : (Int → Option ρ) → Int → Option ρ} {len : Nat} {k0 k1 : Option ρ} (p : Nat → Bool)
    (hend : ∀ rec, step rec (len : Int) = k1)
    (hstep : ∀ rec (i : Nat), i < len → step rec (i : Int) = bif p i then rec ((i + 1 : Nat) : Int) else k0) {n : Nat} (hn : len < n) :
    fuelN step n 0 = bif (List.range len).all p then k1 else k0 := by
  have := up_loop p hend hstep len 0 n (by omega) hn
  rw [List.range_eq_range']; exact this
variable (n : Nat)
def geoGood (a b c : Int) : Bool := inM a 1 4 && inM b (8 * a) 96 && b.tmod 8 == 0 && inM c (a + 2) 48
def thereM (T : List Thing) (t : Int) : Bool := decide (t ≥ 0) && (decide (t < T.length) && (match T[t.toNat]? with | some x => x.ty != 0 | none => false))
theorem there_eq (a b c : Int) (x y z w : Bool) (R : Rows) (T : List Thing) (t : Int) (K : Bool → Option ρ) : state_State_there n ρ a b c x y R z w (encT T) t K = K (thereM T t) := by
  show state_State_there_s _ n a b c x y R z w (encT T) t K = _
  unfold state_State_there_s thereM
  by_cases h0 : t ≥ 0
  · by_cases h1 : t < T.length
    · obtain ⟨k, rfl⟩ : ∃ k : Nat, t = k := ⟨t.toNat, by omega⟩
      have hk : k < T.length := by omega
      rw [rowT_T hk]
      simp only [encT_len, h0, h1, decide_true, cond_true, Int.toNat_natCast, List.getElem?_eq_getElem hk, Thing.c, Bool.true_and]
      cases hx : (T[k].ty != 0) <;> rfl
    · simp only [encT_len, h0, h1, decide_true, decide_false, cond_true, cond_false, Bool.false_and, Bool.and_false]
  · simp only [h0, decide_false, cond_false, Bool.false_and]
def capOK (T : List Thing) (s : Slot) : Bool :=
  capGood s.ty s.th s.ri s.ba && (bif capNone s.ty s.th s.ri s.ba then s.up == -1 else decide (s.up ≥ -1) && (thereM T s.th && (match T[s.th.toNat]? with | some x => x.ty == s.ty | none => false)))
theorem caps_eq (a b c : Int) (x y z w : Bool) (S : List Slot) (T : List Thing) (hS : S.length < 1000000) (hn : S.length < n) (K : Bool → Option ρ) :
    Qg n ρ a b c x y (encS S) z w (encT T) K = K (S.all (capOK T)) := by
  show Qg_s _ n a b c x y (encS S) z w (encT T) K = _
  unfold Qg_s Qg_l2
  rw [up_loop0 (len := S.length) (k0 := K false) (k1 := K true) (fun i => match S[i]? with | some s => capOK T s | none => true)]
  · have : (List.range S.length).all (fun i => match S[i]? with | some s => capOK T s | none => true) = S.all (capOK T) := by
      rw [Bool.eq_iff_iff]
      simp only [List.all_eq_true, List.mem_range]
      constructor
      · intro h s hs
        obtain ⟨i, hi, rfl⟩ := List.mem_iff_getElem.1 hs
        have := h i hi
        simpa [List.getElem?_eq_getElem hi] using this
      · intro h i hi
        simp only [List.getElem?_eq_getElem hi]
        exact h _ (List.getElem_mem hi)
    rw [this]
    cases S.all (capOK T) <;> rfl
  · intro rec
    unfold Qg_l2_s
    simp only [encS_len]
    rw [show decide (((S.length : Nat) : Int) < ((S.length : Nat) : Int)) = false by simp]
    rfl
  · intro rec i hi
    unfold Qg_l2_s
    simp only [encS_len]
    rw [show decide (((i : Nat) : Int) < ((S.length : Nat) : Int)) = true by simpa using hi]
    rw [bif_t, rowT_S hi]
    simp only [Qg_g, Qj_eq, cap_None_eq, there_eq, List.getElem?_eq_getElem hi, Slot.c, capOK]
    rw [wrap_id (by omega) (by omega)]
    cases h1 : capGood S[i].ty S[i].th S[i].ri S[i].ba
    · rfl
    · cases h2 : capNone S[i].ty S[i].th S[i].ri S[i].ba
      · simp only [bif_t, bif_f, Bool.true_and]
        by_cases h3 : S[i].up < -1
        · have h4 : decide (S[i].up ≥ -1) = false := by simp; omega
          simp [h3, h4]
        · have h4 : decide (S[i].up ≥ -1) = true := by simp; omega
          simp only [h3, h4, decide_false, bif_f, Bool.true_and]
          cases h5 : thereM T S[i].th
          · rfl
          · simp only [bif_t, Bool.true_and]
            unfold thereM at h5
            simp only [Bool.and_eq_true, decide_eq_true_eq] at h5
            obtain ⟨k, hk⟩ : ∃ k : Nat, S[i].th = k := ⟨S[i].th.toNat, by omega⟩
            rw [hk] at h5 ⊢
            have hk' : k < T.length := by omega
            rw [rowT_T hk']
            simp only [Int.toNat_natCast, List.getElem?_eq_getElem hk', Thing.c]
            cases h6 : T[k].ty == S[i].ty
            · simp [bne, h6]
            · simp [bne, h6]
      · simp only [bif_t, Bool.true_and]
        cases h3 : S[i].up == -1
        · simp [bne, h3]
        · simp [bne, h3]
  · exact hn
end
end Go.Rv
namespace Go.Rv
section
variable {ρ : Type} (n : Nat)
theorem geo_in_eq (a l h : Int) (K : Bool → Option ρ) : geo_in n ρ a l h K = K (inM a l h) := by
  show geo_in_s _ n a l h K = _
  unfold geo_in_s inM
  generalize decide (a ≥ l) = x
  generalize decide (a ≤ h) = y
  cases x <;> cases y <;> rfl
theorem thing_in_eq (a l h : Int) (K : Bool → Option ρ) : thing_in n ρ a l h K = K (inM a l h) := by
  show thing_in_s _ n a l h K = _
  unfold thing_in_s inM
  generalize decide (a ≥ l) = x
  generalize decide (a ≤ h) = y
  cases x <;> cases y <;> rfl
theorem inM_iff {a l h : Int} : inM a l h = true ↔ l ≤ a ∧ a ≤ h := by simp [inM]
theorem Ql_eq (a b c : Int) (K : Bool → Option ρ) : Ql n ρ a b c K = K (geoGood a b c) := by
  show Ql_s (Ql_g n) n a b c K = _
  simp only [Ql_s, Ql_g, geo_in_eq, geoGood]
  cases h1 : inM a 1 4
  · rfl
  · rw [inM_iff] at h1
    rw [wrap_id (by omega) (by omega), wrap_id (by omega) (by omega)]
    generalize inM b (8 * a) 96 = x2
    generalize (b.tmod 8 == 0) = x3
    generalize inM c (a + 2) 48 = x4
    cases x2 <;> cases x3 <;> cases x4 <;> rfl
theorem Qp_eq (a b c t : Int) (K : Int → Option ρ) : Qp n ρ a b c t K = K (bif geoGood a b c && inM t 0 (a - 1) then 8 * t else 0) := by
  show Qp_s (Qp_g n) n a b c t K = _
  simp only [Qp_s, Qp_g, geo_in_eq, Ql_eq]
  cases h0 : geoGood a b c
  · rfl
  · have h1 : 1 ≤ a ∧ a ≤ 4 := by
      simp only [geoGood, Bool.and_eq_true, inM_iff] at h0; omega
    rw [wrap_id (by omega) (by omega)]
    cases h2 : inM t 0 (a - 1)
    · rfl
    · rw [inM_iff] at h2
      simp only [bif_t, Bool.true_and]
      rw [wrap_id (by omega) (by omega)]; rfl
def ownM (t : Thing) : Thing :=
  bif t.ty == 1 then ⟨t.ty, 0, 0, t.size, t.used, 0, 0, false, 0, 0, 0, 0, 0⟩
  else bif t.ty == 2 then ⟨t.ty, t.bits, t.base, 0, 0, 0, 0, false, 0, 0, 0, 0, 0⟩
  else bif t.ty == 3 then (bif t.full then ⟨t.ty, 0, 0, 0, 0, t.fr, t.badge, true, t.word, 0, 0, 0, 0⟩ else ⟨t.ty, 0, 0, 0, 0, 0, 0, false, 0, 0, 0, 0, 0⟩)
  else bif t.ty == 4 then ⟨t.ty, 0, 0, 0, 0, 0, 0, false, t.word, 0, 0, 0, 0⟩
  else bif t.ty == 5 then ⟨t.ty, 0, 0, 0, 0, 0, 0, false, 0, t.d0, t.d1, t.d2, t.d3⟩
  else ⟨0, 0, 0, 0, 0, 0, 0, false, 0, 0, 0, 0, 0⟩
def eqT (a b : Thing) : Bool := (a.ty == b.ty) && ((a.bits == b.bits) && ((a.base == b.base) && ((a.size == b.size) && ((a.used == b.used) && ((a.fr == b.fr) && ((a.badge == b.badge) && ((a.full == b.full) && ((a.word == b.word) && ((a.d0 == b.d0) && ((a.d1 == b.d1) && ((a.d2 == b.d2) && ((a.d3 == b.d3) && true))))))))))))
def thingGood (t : Thing) : Bool :=
  eqT (ownM t) t && (bif t.ty == 1 then inM t.size 1 4096 && inM t.used 0 t.size
    else bif t.ty == 2 then inM t.bits 1 4 && inM t.base 0 (96 - 2 ^ t.bits.toNat)
    else bif t.ty == 3 then inM t.badge 0 65535 && inM t.fr 0 96 else true)
theorem two_pow {b : Int} (h : 1 ≤ b ∧ b ≤ 4) : (2 : Int) ^ b.toNat = 2 ∨ (2 : Int) ^ b.toNat = 4 ∨ (2 : Int) ^ b.toNat = 8 ∨ (2 : Int) ^ b.toNat = 16 := by
  have : b = 1 ∨ b = 2 ∨ b = 3 ∨ b = 4 := by omega
  rcases this with rfl | rfl | rfl | rfl
  · exact .inl rfl
  · exact .inr (.inl rfl)
  · exact .inr (.inr (.inl rfl))
  · exact .inr (.inr (.inr rfl))
theorem shl_id {b : Int} (h : 1 ≤ b ∧ b ≤ 4) : IntKind.wrap .i64 ((1 : Int) * 2 ^ (min b.toNat (IntKind.bits .i64))) = 2 ^ b.toNat := by
  have h1 : min b.toNat (IntKind.bits .i64) = b.toNat := by
    show min b.toNat 64 = _
    omega
  rw [h1, Int.one_mul]
  rcases two_pow h with e | e | e | e <;> rw [e] <;> exact wrap_id (by omega) (by omega)
theorem thing_own_eq (t : Thing) (K : Int → Int → Int → Int → Int → Int → Int → Bool → Int → Int → Int → Int → Int → Option ρ) :
    thing_own n ρ t.ty t.bits t.base t.size t.used t.fr t.badge t.full t.word t.d0 t.d1 t.d2 t.d3 K =
      K (ownM t).ty (ownM t).bits (ownM t).base (ownM t).size (ownM t).used (ownM t).fr (ownM t).badge (ownM t).full (ownM t).word (ownM t).d0 (ownM t).d1 (ownM t).d2 (ownM t).d3 := by
  show thing_own_s _ n t.ty t.bits t.base t.size t.used t.fr t.badge t.full t.word t.d0 t.d1 t.d2 t.d3 K = _
  unfold thing_own_s ownM
  cases t.ty == 1 <;> cases t.ty == 2 <;> cases t.ty == 3 <;> cases t.ty == 4 <;> cases t.ty == 5 <;> cases t.full <;> rfl
theorem Qn_eq (t : Thing) (K : Bool → Option ρ) : Qn n ρ t.ty t.bits t.base t.size t.used t.fr t.badge t.full t.word t.d0 t.d1 t.d2 t.d3 K = K (thingGood t) := by
  show Qn_s (Qn_g n) n t.ty t.bits t.base t.size t.used t.fr t.badge t.full t.word t.d0 t.d1 t.d2 t.d3 K = _
  simp only [Qn_s, Qn_g, thing_own_eq, thing_in_eq]
  unfold thingGood
  change (bif (!(eqT (ownM t) t)) then K false else _) = _
  cases h0 : eqT (ownM t) t
  · rfl
  · simp only [Bool.not_true, bif_f, Bool.true_and]
    cases h1 : t.ty == 1
    · cases h2 : t.ty == 2
      · cases h3 : t.ty == 3
        · rfl
        · simp only [cond_true, cond_false]
          cases inM t.badge 0 65535 <;> cases inM t.fr 0 96 <;> rfl
      · simp only [cond_true, cond_false]
        cases h3 : inM t.bits 1 4
        · rfl
        · rw [inM_iff] at h3
          rw [show decide (0 ≤ t.bits) = true by simp; omega, shl_id h3]
          have hw : IntKind.wrap .i64 (96 - 2 ^ t.bits.toNat) = 96 - 2 ^ t.bits.toNat := by
            rcases two_pow h3 with e | e | e | e <;> rw [e] <;> exact wrap_id (by omega) (by omega)
          rw [hw]
          simp only [bif_t, chk_t, Bool.true_and]
          cases inM t.base 0 (96 - 2 ^ t.bits.toNat) <;> rfl
    · simp only [cond_true]
      cases inM t.size 1 4096 <;> cases inM t.used 0 t.size <;> rfl
theorem thingGood_node {t : Thing} (h : thingGood t = true) (h2 : t.ty = 2) : (1 ≤ t.bits ∧ t.bits ≤ 4) ∧ 0 ≤ t.base ∧ t.base ≤ 96 - 2 ^ t.bits.toNat := by
  unfold thingGood at h
  rw [show (t.ty == 1) = false by simp [h2], show (t.ty == 2) = true by simp [h2]] at h
  simp only [cond_true, cond_false, Bool.and_eq_true, inM_iff] at h
  exact ⟨h.2.1, h.2.2⟩
theorem thingGood_fr {t : Thing} (h : thingGood t = true) : t.fr ≤ 96 := by
  unfold thingGood at h
  simp only [Bool.and_eq_true] at h
  obtain ⟨h0, h1⟩ := h
  simp only [eqT, Bool.and_eq_true, beq_iff_eq] at h0
  cases h3 : t.ty == 3
  · have hf := h0.2.2.2.2.2.1
    unfold ownM at hf
    rw [h3] at hf
    cases e1 : t.ty == 1 <;> cases e2 : t.ty == 2 <;> cases e4 : t.ty == 4 <;> cases e5 : t.ty == 5 <;> simp [e1, e2, e4, e5] at hf <;> omega
  · have e1 : (t.ty == 1) = false := by simp at h3 ⊢; omega
    have e2 : (t.ty == 2) = false := by simp at h3 ⊢; omega
    rw [h3, e1, e2] at h1
    simp only [cond_true, cond_false, Bool.and_eq_true, inM_iff] at h1
    exact h1.2.2
def holds (S : List Slot) (t : Int) (i : Nat) : Bool := match S[i]? with
  | some s => !capNone s.ty s.th s.ri s.ba && s.th == t
  | none => false
def holdersF (S : List Slot) (t : Int) (i d : Nat) : List Int := ((List.range' i d).filter (holds S t)).map fun (k : Nat) => (k : Int)
def holdersM (S : List Slot) (t : Int) : List Int := holdersF S t 0 S.length
theorem holdersF_succ (S : List Slot) (t : Int) (i d : Nat) : holdersF S t i (d + 1) = (bif holds S t i then [(i : Int)] else []) ++ holdersF S t (i + 1) d := by
  unfold holdersF
  rw [List.range'_succ, List.filter_cons]
  cases holds S t i <;> simp
section
variable (a b c : Int) (x y z w : Bool) (S : List Slot) (R : Rows) (t : Int) (k0 : Option ρ) (k1 : Nat → Nat → Rows → Option ρ) (hS : S.length < 1000000)
include hS
theorem holders_end (rec : Q6_l3_V → Option ρ) (acc : List Int) :
    Q6_l3_s (Q6_g n) n t x y (encS S) ((S.length : Nat) : Int) a b c x y (encS S) z w R k0 k1 rec (.inr (acc.length, acc.length, ((S.length : Nat) : Int), encI acc)) = k1 acc.length acc.length (encI acc) := by
  have _ := hS
  unfold Q6_l3_s
  simp only
  rw [show decide (((S.length : Nat) : Int) < ((S.length : Nat) : Int)) = false by simp]
  rfl
theorem holders_sr (rec : Q6_l3_V → Option ρ) (acc : List Int) (i : Nat) (hi : i < S.length) (ha : acc.length ≤ i) :
    Q6_l3_s (Q6_g n) n t x y (encS S) ((S.length : Nat) : Int) a b c x y (encS S) z w R k0 k1 rec (.inr (acc.length, acc.length, (i : Int), encI acc)) =
      rec (.inr ((acc ++ bif holds S t i then [(i : Int)] else []).length, (acc ++ bif holds S t i then [(i : Int)] else []).length, ((i + 1 : Nat) : Int), encI (acc ++ bif holds S t i then [(i : Int)] else []))) := by
  unfold Q6_l3_s
  simp only
  rw [show decide ((i : Int) < ((S.length : Nat) : Int)) = true by simp; omega, bif_t, rowT_S hi, wrap_id (by omega) (by omega), show ((i : Int) + 1) = ((i + 1 : Nat) : Int) by omega]
  simp only [Q6_g, cap_None_eq, Slot.c, holds, List.getElem?_eq_getElem hi]
  cases h1 : capNone S[i].ty S[i].th S[i].ri S[i].ba
  · cases h2 : S[i].th == t
    · simp
    · have e1 : ((encI acc).length == acc.length) = true := by simp [encI]
      have e2 : (acc.length == acc.length) = true := by simp
      have e3 : decide (acc.length + 1 ≤ most) = true := by simp [most]; omega
      have e4 : encI acc ++ [[AV.i .i64 (i : Int)]] = encI (acc ++ [(i : Int)]) := by simp [encI]
      simp only [bif_f, Bool.not_false, Bool.true_and, cond_true]
      rw [e1, e2, e3, chk_t, chk_t, chk_t, e4]
      simp
  · simp
theorem holders_r : ∀ (d i m : Nat) (acc : List Int), i + d = S.length → d < m → acc.length ≤ i →
    fuelN (Q6_l3_s (Q6_g n) n t x y (encS S) ((S.length : Nat) : Int) a b c x y (encS S) z w R k0 k1) m (.inr (acc.length, acc.length, (i : Int), encI acc)) =
      k1 (acc ++ holdersF S t i d).length (acc ++ holdersF S t i d).length (encI (acc ++ holdersF S t i d))
  | 0, i, m, acc, h, hm, _ => by
    obtain ⟨m, rfl⟩ : ∃ k, m = k + 1 := ⟨m - 1, by omega⟩
    rw [fuelN_succ, show i = S.length by omega, holders_end n a b c x y z w S R t k0 k1 hS]
    simp [holdersF]
  | d + 1, i, m, acc, h, hm, ha => by
    obtain ⟨m, rfl⟩ : ∃ k, m = k + 1 := ⟨m - 1, by omega⟩
    rw [fuelN_succ, holders_sr n a b c x y z w S R t k0 k1 hS _ acc i (by omega) ha, holders_r d (i + 1) m _ (by omega) (by omega), holdersF_succ, List.append_assoc]
    cases holds S t i <;> simp <;> omega
theorem holders_endl (rec : Q6_l3_V → Option ρ) :
    Q6_l3_s (Q6_g n) n t x y (encS S) ((S.length : Nat) : Int) a b c x y (encS S) z w R k0 k1 rec (.inl ((S.length : Nat) : Int)) = k0 := by
  have _ := hS
  unfold Q6_l3_s
  simp only
  rw [show decide (((S.length : Nat) : Int) < ((S.length : Nat) : Int)) = false by simp]
  rfl
theorem holders_sl (rec : Q6_l3_V → Option ρ) (i : Nat) (hi : i < S.length) :
    Q6_l3_s (Q6_g n) n t x y (encS S) ((S.length : Nat) : Int) a b c x y (encS S) z w R k0 k1 rec (.inl (i : Int)) =
      bif holds S t i then rec (.inr (1, 1, ((i + 1 : Nat) : Int), encI [(i : Int)])) else rec (.inl ((i + 1 : Nat) : Int)) := by
  unfold Q6_l3_s
  simp only
  rw [show decide ((i : Int) < ((S.length : Nat) : Int)) = true by simp; omega, bif_t, rowT_S hi, wrap_id (by omega) (by omega), show ((i : Int) + 1) = ((i + 1 : Nat) : Int) by omega]
  simp only [Q6_g, cap_None_eq, Slot.c, holds, List.getElem?_eq_getElem hi]
  cases h1 : capNone S[i].ty S[i].th S[i].ri S[i].ba
  · cases h2 : S[i].th == t <;> simp [encI]
  · simp
theorem holders_l : ∀ (d i m : Nat), i + d = S.length → d < m →
    fuelN (Q6_l3_s (Q6_g n) n t x y (encS S) ((S.length : Nat) : Int) a b c x y (encS S) z w R k0 k1) m (.inl (i : Int)) =
      (match holdersF S t i d with | [] => k0 | l => k1 l.length l.length (encI l))
  | 0, i, m, h, hm => by
    obtain ⟨m, rfl⟩ : ∃ k, m = k + 1 := ⟨m - 1, by omega⟩
    rw [fuelN_succ, show i = S.length by omega, holders_endl n a b c x y z w S R t k0 k1 hS]
    simp [holdersF]
  | d + 1, i, m, h, hm => by
    obtain ⟨m, rfl⟩ : ∃ k, m = k + 1 := ⟨m - 1, by omega⟩
    rw [fuelN_succ, holders_sl n a b c x y z w S R t k0 k1 hS _ i (by omega), holdersF_succ]
    cases holds S t i
    · simp only [cond_false, List.nil_append]
      exact holders_l d (i + 1) m (by omega) (by omega)
    · simp only [cond_true]
      have := holders_r n a b c x y z w S R t k0 k1 hS d (i + 1) m [(i : Int)] (by omega) (by omega) (by simp)
      simp only [List.length_singleton] at this
      rw [this]
      rfl
theorem holders_eq (hn : S.length < n) (K : Bool → Bool → Rows → Option ρ) : Q6 n ρ a b c x y (encS S) z w R t K = K (holdersM S t).isEmpty (holdersM S t).isEmpty (encI (holdersM S t)) := by
  show Q6_s _ n a b c x y (encS S) z w R t K = _
  unfold Q6_s Q6_l3
  rw [encS_len]
  have := holders_l n a b c x y z w S R t (K true true []) (fun w1_0 w1_1 w1_2 => chk (((List.length (w1_2 : Rows)) : Nat) == w1_0) <| K false false (List.take w1_1 (List.drop 0 (w1_2 : Rows)))) hS S.length 0 n (by omega) hn
  rw [show ((0 : Nat) : Int) = 0 from rfl] at this
  refine this.trans ?_
  show (match holdersM S t with | [] => _ | l => _) = _
  cases holdersM S t with
  | nil => rfl
  | cons q r =>
    have e : List.take (q :: r).length (List.drop 0 (encI (q :: r))) = encI (q :: r) := by
      rw [List.drop_zero, List.take_of_length_le (by simp [encI])]
    simp only [e]
    simp [encI_len, chk]
end
end
end Go.Rv
namespace Go.Rv
section
variable {ρ : Type} (n : Nat)
def rootEq (t : Thing) (w : Int) : Bool := (t.ty == 2) && ((t.bits == 3) && ((t.base == w) && ((t.size == 0) && ((t.used == 0) && ((t.fr == 0) && ((t.badge == 0) && ((t.full == false) && ((t.word == 0) && ((t.d0 == 0) && ((t.d1 == 0) && ((t.d2 == 0) && ((t.d3 == 0) && true))))))))))))
def thingOK (thr : Int) (S : List Slot) (t : Thing) (i : Nat) : Bool :=
  thingGood t && ((bif decide (t.fr > 0) then (bif decide (t.fr > S.length) then false else match S[(t.fr - 1).toNat]? with | some s => !capNone s.ty s.th s.ri s.ba | none => false) else true)
    && (bif decide ((i : Int) ≥ 2) && decide ((i : Int) < 2 + thr) then rootEq t (8 * ((i : Int) - 2)) else (bif t.ty != 0 then !(holdersM S (i : Int)).isEmpty else true)))
def thingsM (thr : Int) (S : List Slot) (T : List Thing) : Bool := (List.range T.length).all fun i => match T[i]? with | some t => thingOK thr S t i | none => true
theorem geoGood_thr {a b c : Int} (h : geoGood a b c = true) : (1 ≤ a ∧ a ≤ 4) ∧ (8 * a ≤ b ∧ b ≤ 96) ∧ b.tmod 8 = 0 ∧ a + 2 ≤ c ∧ c ≤ 48 := by
  simp only [geoGood, Bool.and_eq_true, inM_iff, beq_iff_eq] at h
  omega
theorem things_eq (a b c : Int) (x y z w : Bool) (S : List Slot) (T : List Thing) (hg : geoGood a b c = true) (hS : S.length < 1000000) (hT : T.length < 1000000) (hn : S.length < n) (hn2 : T.length < n) (K : Bool → Option ρ) :
    Qf n ρ a b c x y (encS S) z w (encT T) K = K (thingsM a S T) := by
  show Qf_s _ n a b c x y (encS S) z w (encT T) K = _
  unfold Qf_s Qf_l2
  obtain ⟨hthr, -, -, -, -⟩ := geoGood_thr hg
  rw [up_loop0 (len := T.length) (k0 := K false) (k1 := K true) (fun i => match T[i]? with | some t => thingOK a S t i | none => true)]
  · unfold thingsM
    cases (List.range T.length).all _ <;> rfl
  · intro rec
    unfold Qf_l2_s
    simp only [encT_len]
    rw [show decide (((T.length : Nat) : Int) < ((T.length : Nat) : Int)) = false by simp]
    rfl
  · intro rec i hi
    unfold Qf_l2_s
    simp only [encT_len, encS_len]
    rw [show decide (((i : Nat) : Int) < ((T.length : Nat) : Int)) = true by simpa using hi, bif_t, rowT_T hi]
    have e1 : IntKind.wrap .i64 ((i : Int) + 1) = ((i + 1 : Nat) : Int) := by rw [wrap_id (by omega) (by omega)]; omega
    have e2 : IntKind.wrap .i64 ((i : Int) - 2) = (i : Int) - 2 := wrap_id (by omega) (by omega)
    have e3 : IntKind.wrap .i64 (2 + a) = 2 + a := wrap_id (by omega) (by omega)
    simp only [Qf_g, Qn_eq, cap_None_eq, Qp_eq, Thing.c, List.getElem?_eq_getElem hi, e1, e2, e3, holders_eq n a b c x y z w S _ _ hS hn]
    have hroot : ∀ v, ((T[i].ty == 2) && ((T[i].bits == 3) && ((T[i].base == v) && ((T[i].size == 0) && ((T[i].used == 0) && ((T[i].fr == 0) && ((T[i].badge == 0) && ((T[i].full == false) && ((T[i].word == 0) && ((T[i].d0 == 0) && ((T[i].d1 == 0) && ((T[i].d2 == 0) && ((T[i].d3 == 0) && true))))))))))))) = rootEq T[i] v := fun _ => rfl
    simp only [hroot]
    have tail : ∀ X : Option ρ, X = (bif decide ((i : Int) ≥ 2) then
          bif decide ((i : Int) < 2 + a) then
            (bif !rootEq T[i] (bif geoGood a b c && inM ((i : Int) - 2) 0 (a - 1) then 8 * ((i : Int) - 2) else 0) then K false else rec ((i + 1 : Nat) : Int))
          else bif T[i].ty != 0 then (bif ((((encI (holdersM S (i : Int))).length : Nat) : Int) == 0) then K false else rec ((i + 1 : Nat) : Int)) else rec ((i + 1 : Nat) : Int)
        else bif T[i].ty != 0 then (bif ((((encI (holdersM S (i : Int))).length : Nat) : Int) == 0) then K false else rec ((i + 1 : Nat) : Int)) else rec ((i + 1 : Nat) : Int)) →
        X = bif (bif decide ((i : Int) ≥ 2) && decide ((i : Int) < 2 + a) then rootEq T[i] (8 * ((i : Int) - 2)) else (bif T[i].ty != 0 then !(holdersM S (i : Int)).isEmpty else true)) then rec ((i + 1 : Nat) : Int) else K false := by
      intro X hX
      rw [hX]
      have hh : (bif ((((encI (holdersM S (i : Int))).length : Nat) : Int) == 0) then K false else rec ((i + 1 : Nat) : Int)) = bif !(holdersM S (i : Int)).isEmpty then rec ((i + 1 : Nat) : Int) else K false := by
        rw [encI_len]
        cases holdersM S (i : Int) with
        | nil => rfl
        | cons q r =>
          have : ((((q :: r).length : Nat) : Int) == 0) = false := by simp; omega
          rw [this]; rfl
      rw [hh]
      by_cases h2 : (i : Int) ≥ 2
      · by_cases h3 : (i : Int) < 2 + a
        · have h4 : inM ((i : Int) - 2) 0 (a - 1) = true := inM_iff.2 ⟨by omega, by omega⟩
          rw [h4, hg]
          simp only [h2, h3, decide_true, Bool.and_self, cond_true]
          cases rootEq T[i] (8 * ((i : Int) - 2)) <;> rfl
        · simp only [h2, h3, decide_true, decide_false, Bool.and_false, cond_true, cond_false]
          cases T[i].ty != 0 <;> rfl
      · simp only [h2, decide_false, Bool.false_and, cond_false]
        cases T[i].ty != 0 <;> rfl
    unfold thingOK
    cases h0 : thingGood T[i]
    · rfl
    · simp only [bif_t, Bool.true_and]
      have hfr := thingGood_fr h0
      by_cases hf : T[i].fr > 0
      · simp only [hf, decide_true, cond_true]
        by_cases hl : T[i].fr > S.length
        · simp only [hl, decide_true, cond_true, Bool.false_and, bif_f]
        · have hk : (T[i].fr - 1).toNat < S.length := by omega
          have e4 : IntKind.wrap .i64 (T[i].fr - 1) = (((T[i].fr - 1).toNat : Nat) : Int) := by rw [wrap_id (by omega) (by omega)]; omega
          simp only [hl, decide_false, cond_false]
          rw [e4, rowT_S hk]
          simp only [Slot.c, List.getElem?_eq_getElem hk]
          cases capNone S[(T[i].fr - 1).toNat].ty S[(T[i].fr - 1).toNat].th S[(T[i].fr - 1).toNat].ri S[(T[i].fr - 1).toNat].ba
          · simp only [bif_f, Bool.not_false, Bool.true_and]
            exact tail _ rfl
          · rfl
      · simp only [hf, decide_false, cond_false, Bool.true_and]
        exact tail _ rfl
  · exact hn2
def hasM (t : Thing) (s : Int) : Bool := t.ty == 2 && (decide (s ≥ t.base) && decide (s < t.base + 2 ^ t.bits.toNat))
theorem has_eq (t : Thing) (ht : thingGood t = true) (s : Int) (K : Bool → Option ρ) : state_has n ρ t.ty t.bits t.base t.size t.used t.fr t.badge t.full t.word t.d0 t.d1 t.d2 t.d3 s K = K (hasM t s) := by
  show state_has_s _ n t.ty t.bits t.base t.size t.used t.fr t.badge t.full t.word t.d0 t.d1 t.d2 t.d3 s K = _
  unfold state_has_s hasM
  cases h2 : t.ty == 2
  · rfl
  · obtain ⟨hb, h0, h1⟩ := thingGood_node ht (by simpa using h2)
    have hw : IntKind.wrap .i64 (t.base + 2 ^ t.bits.toNat) = t.base + 2 ^ t.bits.toNat := by
      rcases two_pow hb with e | e | e | e <;> rw [e] at h1 ⊢ <;> exact wrap_id (by omega) (by omega)
    rw [show decide (0 ≤ t.bits) = true by simp; omega, shl_id hb, hw]
    simp only [bif_t, chk_t, Bool.true_and]
    cases decide (s ≥ t.base) <;> cases decide (s < t.base + 2 ^ t.bits.toNat) <;> rfl
def ownerF (T : List Thing) (s : Int) (i : Nat) : Nat → Int
  | 0 => -1
  | d + 1 => match T[i]? with
    | some t => bif hasM t s then (i : Int) else ownerF T s (i + 1) d
    | none => -1
def ownerM (T : List Thing) (s : Int) : Int := ownerF T s 0 T.length
def allGood (T : List Thing) : Bool := T.all thingGood
theorem index_eq (x y : Bool) (T : List Thing) (hT : T.length < 1000000) (hg : allGood T = true) (hn : T.length < n) (s : Int) (K : Int → Option ρ) : Qc n ρ x y (encT T) s K = K (ownerM T s) := by
  show Qc_s _ n x y (encT T) s K = _
  unfold Qc_s Qc_l2
  rw [encT_len]
  have key : ∀ (d i m : Nat), i + d = T.length → d < m → fuelN (Qc_l2_s (Qc_g n) n x y (encT T) s ((T.length : Nat) : Int) (fun w0_0 => K w0_0) (K (-1))) m (i : Int) = K (ownerF T s i d) := by
    intro d
    induction d with
    | zero =>
      intro i m h hm
      obtain ⟨m, rfl⟩ : ∃ k, m = k + 1 := ⟨m - 1, by omega⟩
      rw [fuelN_succ]
      generalize fuelN _ m = rec
      unfold Qc_l2_s
      simp only
      rw [show decide ((i : Int) < ((T.length : Nat) : Int)) = false by simp; omega]
      rfl
    | succ d ih =>
      intro i m h hm
      obtain ⟨m, rfl⟩ : ∃ k, m = k + 1 := ⟨m - 1, by omega⟩
      have hi : i < T.length := by omega
      have ih := ih (i + 1) m (by omega) (by omega)
      rw [fuelN_succ]
      generalize hr : fuelN _ m = rec at ih ⊢
      unfold Qc_l2_s
      simp only
      rw [show decide ((i : Int) < ((T.length : Nat) : Int)) = true by simp; omega, bif_t, rowT_T hi, wrap_id (by omega) (by omega), show ((i : Int) + 1) = ((i + 1 : Nat) : Int) by omega]
      have h1 : Q01 n ρ T[i].ty T[i].bits T[i].base T[i].size T[i].used T[i].fr T[i].badge T[i].full T[i].word T[i].d0 T[i].d1 T[i].d2 T[i].d3 s (fun w1_0 => bif w1_0 then K (i : Int) else rec ((i + 1 : Nat) : Int)) = bif hasM T[i] s then K (i : Int) else rec ((i + 1 : Nat) : Int) := by
        show Q01_s (Q01_g n) n T[i].ty T[i].bits T[i].base T[i].size T[i].used T[i].fr T[i].badge T[i].full T[i].word T[i].d0 T[i].d1 T[i].d2 T[i].d3 s _ = _
        simp only [Q01_s, Q01_g, has_eq n T[i] (List.all_eq_true.1 hg _ (List.getElem_mem hi))]
        cases hasM T[i] s <;> rfl
      simp only [Qc_g, Thing.c, ownerF, List.getElem?_eq_getElem hi]
      rw [h1, ih]
      cases hasM T[i] s <;> rfl
  exact key T.length 0 n (by omega) hn
theorem owner_eq (a b c : Int) (x y z w : Bool) (R : Rows) (T : List Thing) (hT : T.length < 1000000) (hg : allGood T = true) (hn : T.length < n) (s : Int) (K : Int → Option ρ) :
    Qb n ρ a b c x y R z w (encT T) s K = K (ownerM T s) := by
  show Qb_s (Qb_g n) n a b c x y R z w (encT T) s K = _
  simp only [Qb_s, Qb_g, index_eq n z w T hT hg hn]
def markM (base : Int) (H : List Bool) (j : Nat) : Nat → Option (List Bool)
  | 0 => some H
  | d + 1 => match H[(base + j).toNat]? with
    | some false => markM base (H.set (base + j).toNat true) (j + 1) d
    | _ => none
def encB (l : List Bool) : Rows := l.map fun x => [.b x]
def nodesF (T : List Thing) (H : List Bool) (i : Nat) : Nat → Option (List Bool)
  | 0 => some H
  | d + 1 => match T[i]? with
    | some t => bif t.ty != 2 then nodesF T H (i + 1) d else match markM t.base H 0 (2 ^ t.bits.toNat) with
      | some H => nodesF T H (i + 1) d
      | none => none
    | none => none
def nodesM (S : List Slot) (T : List Thing) : Bool := match nodesF T (List.replicate S.length false) 0 T.length with
  | some H => (List.range S.length).all fun i => match H[i]?, S[i]? with | some h, some s => h || capNone s.ty s.th s.ri s.ba | _, _ => true
  | none => false
theorem markM_len : ∀ (d : Nat) {base : Int} {H H' : List Bool} {j : Nat}, markM base H j d = some H' → H'.length = H.length
  | 0, _, _, _, _, h => by simp [markM] at h; rw [h]
  | d + 1, base, H, H', j, h => by
    simp only [markM] at h
    split at h
    · rw [markM_len d h]; simp
    · cases h
theorem nodesF_len {T : List Thing} : ∀ (d : Nat) {H H' : List Bool} {i : Nat}, nodesF T H i d = some H' → H'.length = H.length
  | 0, _, _, _, h => by simp [nodesF] at h; rw [h]
  | d + 1, H, H', i, h => by
    simp only [nodesF] at h
    split at h
    · rename_i t ht
      cases ht2 : (t.ty != 2)
      · rw [ht2] at h
        simp only [cond_false] at h
        split at h
        · rename_i H1 h1
          rw [nodesF_len d h, markM_len _ h1]
        · cases h
      · rw [ht2] at h
        simp only [cond_true] at h
        exact nodesF_len d h
    · cases h
theorem rowN_B {l : List Bool} {i : Nat} (h : i < l.length) (K : CT [.b] → Option ρ) : rowN [.b] (encB l) i K = K (l[i], ()) := by
  unfold rowN encB
  simp only [List.getElem?_map, List.getElem?_eq_getElem h, Option.map_some]
  rfl
theorem rowN_Ba {l : List Bool} {i : Nat} (h : i < l.length) (K : CT [.a] → Option ρ) : rowN [.a] (encB l) i K = K (.b l[i], ()) := by
  unfold rowN encB
  simp only [List.getElem?_map, List.getElem?_eq_getElem h, Option.map_some]
  rfl
theorem encB_set (l : List Bool) (i : Nat) (v : Bool) : (encB l).set i [.b v] = encB (l.set i v) := by simp [encB, List.map_set]
end
end Go.Rv
namespace Go.Rv
section
variable {ρ : Type} (n : Nat)
theorem mark_loop (G : Q3_G) (len cnt : Nat) (q2 q3 : Bool) (q4 : Rows) (q5 q6 q8 q9 q10 : Int) (q11 q12 : Bool) (q13 : Rows) (q14 q15 : Bool) (q16 : Rows) (q18 q19 base q21 q22 q23 q24 : Int) (q25 : Bool) (q26 q27 q28 q29 q30 : Int) (kf : Option ρ) (k1 : Rows → Option ρ)
    (hb : 0 ≤ base) (hc : base + cnt < 1000000) (hl : len < 1000000) :
    ∀ (d j m : Nat) (H : List Bool), j + d = cnt → d < m → H.length = len →
      fuelN (Q3_l7_s G n len len q2 q3 q4 q5 q6 (cnt : Int) q8 q9 q10 q11 q12 q13 q14 q15 q16 q18 q19 base q21 q22 q23 q24 q25 q26 q27 q28 q29 q30 (fun _ => kf) k1) m ((j : Int), encB H) =
        match markM base H j d with | some H' => k1 (encB H') | none => kf := by
  intro d
  induction d with
  | zero =>
    intro j m H h hm hH
    obtain ⟨m, rfl⟩ : ∃ k, m = k + 1 := ⟨m - 1, by omega⟩
    rw [fuelN_succ]
    generalize fuelN _ m = rec
    unfold Q3_l7_s
    simp only
    rw [show decide ((j : Int) < (cnt : Int)) = false by simp; omega]
    rfl
  | succ d ih =>
    intro j m H h hm hH
    obtain ⟨m, rfl⟩ : ∃ k, m = k + 1 := ⟨m - 1, by omega⟩
    have ih := fun H' => ih (j + 1) m H' (by omega) (by omega)
    rw [fuelN_succ]
    generalize hr : fuelN _ m = rec at ih ⊢
    unfold Q3_l7_s
    simp only
    rw [show decide ((j : Int) < (cnt : Int)) = true by simp; omega, bif_t, wrap_id (by omega) (by omega), wrap_id (n := (j : Int) + 1) (by omega) (by omega), show ((j : Int) + 1) = ((j + 1 : Nat) : Int) by omega, Nat.zero_add]
    simp only [markM]
    by_cases h1 : base + (j : Int) ≥ (len : Int)
    · have : H[(base + (j : Int)).toNat]? = none := List.getElem?_eq_none (by omega)
      rw [this]
      simp [h1]
    · have hk : (base + (j : Int)).toNat < H.length := by omega
      have e1 : decide (base + (j : Int) ≥ (len : Int)) = false := by simpa using h1
      have e2 : decide ((0 : Int) ≤ base + (j : Int)) = true := by simp; omega
      have e3 : decide (base + (j : Int) < (len : Int)) = true := by simp; omega
      have e4 : ((encB H).length == len) = true := by simp [encB, hH]
      rw [e1, e2, e3, e4, rowN_B hk, rowN_Ba hk, encB_set]
      simp only [bif_f, chk_t, List.getElem?_eq_getElem hk]
      cases h5 : H[(base + (j : Int)).toNat]
      · simp only [bif_f]
        exact ih (H.set (base + (j : Int)).toNat true) (by simpa using hH)
      · rfl
theorem nodes_eq (a b c : Int) (x y z w : Bool) (S : List Slot) (T : List Thing) (hg : allGood T = true) (hS : S.length < 1000000) (hT : T.length < 1000000) (hn : S.length < n) (hn2 : T.length < n) (hn3 : 16 < n) (K : Bool → Option ρ) :
    Q3 n ρ a b c x y (encS S) z w (encT T) K = K (nodesM S T) := by
  show Q3_s (Q3_g n) n a b c x y (encS S) z w (encT T) K = _
  unfold Q3_s
  simp only [encS_len, encT_len, Int.toNat_natCast]
  rw [show decide ((0 : Int) ≤ ((S.length : Nat) : Int)) = true by simp, show decide (((S.length : Nat) : Int) ≤ ((S.length : Nat) : Int)) = true by simp, show decide (((S.length : Nat) : Int) ≤ (most : Int)) = true by
    have : (most : Int) = 16777216 := rfl
    simp only [decide_eq_true_eq]; omega]
  simp only [chk_t]
  have h0 : List.replicate S.length [AV.b false] = encB (List.replicate S.length false) := by simp [encB]
  rw [h0]
  have last : ∀ H : List Bool, H.length = S.length → Q3_l16 (Q3_g n) n S.length S.length x y (encS S) ((S.length : Nat) : Int) a b c x y (encS S) z w (encT T) (encB H) (K false) (K true) 0 =
      K ((List.range S.length).all fun i => match H[i]?, S[i]? with | some h, some s => h || capNone s.ty s.th s.ri s.ba | _, _ => true) := by
    intro H hH
    unfold Q3_l16
    rw [up_loop0 (len := S.length) (k0 := K false) (k1 := K true) (fun i => match H[i]?, S[i]? with | some h, some s => h || capNone s.ty s.th s.ri s.ba | _, _ => true)]
    · cases (List.range S.length).all _ <;> rfl
    · intro rec
      unfold Q3_l16_s
      simp only
      rw [show decide (((S.length : Nat) : Int) < ((S.length : Nat) : Int)) = false by simp]
      rfl
    · intro rec i hi
      unfold Q3_l16_s
      simp only
      have hk : i < H.length := by omega
      rw [show decide ((i : Int) < ((S.length : Nat) : Int)) = true by simpa using hi, bif_t, rowT_S hi, show decide ((0 : Int) ≤ (i : Int)) = true by simp, show ((encB H).length == S.length) = true by simp [encB, hH], wrap_id (by omega) (by omega), Nat.zero_add, show ((i : Int) + 1) = ((i + 1 : Nat) : Int) by omega]
      simp only [chk_t, Int.toNat_natCast, rowN_B hk, Q3_g, cap_None_eq, Slot.c, List.getElem?_eq_getElem hk, List.getElem?_eq_getElem hi]
      cases H[i] <;> cases capNone S[i].ty S[i].th S[i].ri S[i].ba <;> rfl
    · exact hn
  have main : ∀ (d i m : Nat) (H : List Bool), i + d = T.length → d < m → H.length = S.length →
      fuelN (Q3_l3_s (Q3_g n) n S.length S.length z w (encT T) ((T.length : Nat) : Int) a b c x y (encS S) z w (encT T) (fun _ => K false) (fun w1_0 => Q3_l16 (Q3_g n) n S.length S.length x y (encS S) ((S.length : Nat) : Int) a b c x y (encS S) z w (encT T) w1_0 (K false) (K true) 0)) m ((i : Int), encB H) =
        match nodesF T H i d with
        | some H => K ((List.range S.length).all fun i => match H[i]?, S[i]? with | some h, some s => h || capNone s.ty s.th s.ri s.ba | _, _ => true)
        | none => K false := by
    intro d
    induction d with
    | zero =>
      intro i m H h hm hH
      obtain ⟨m, rfl⟩ : ∃ k, m = k + 1 := ⟨m - 1, by omega⟩
      rw [fuelN_succ]
      generalize fuelN _ m = rec
      unfold Q3_l3_s
      simp only
      rw [show decide ((i : Int) < ((T.length : Nat) : Int)) = false by simp; omega, bif_f, last H hH]
      rfl
    | succ d ih =>
      intro i m H h hm hH
      obtain ⟨m, rfl⟩ : ∃ k, m = k + 1 := ⟨m - 1, by omega⟩
      have hi : i < T.length := by omega
      have ih := fun H' => ih (i + 1) m H' (by omega) (by omega)
      rw [fuelN_succ]
      generalize hr : fuelN _ m = rec at ih ⊢
      unfold Q3_l3_s
      simp only
      rw [show decide ((i : Int) < ((T.length : Nat) : Int)) = true by simp; omega, bif_t, rowT_T hi, wrap_id (n := (i : Int) + 1) (by omega) (by omega), show ((i : Int) + 1) = ((i + 1 : Nat) : Int) by omega]
      simp only [Thing.c, nodesF, List.getElem?_eq_getElem hi]
      cases h2 : T[i].ty != 2
      · obtain ⟨hb, hb0, hb1⟩ := thingGood_node (List.all_eq_true.1 hg _ (List.getElem_mem hi)) (by simpa [bne] using h2)
        have hp : ((2 : Int) ^ T[i].bits.toNat) = ((2 ^ T[i].bits.toNat : Nat) : Int) := by simp
        have hp16 : 2 ^ T[i].bits.toNat ≤ 16 := by
          have : T[i].bits.toNat ≤ 4 := by omega
          calc 2 ^ T[i].bits.toNat ≤ 2 ^ 4 := Nat.pow_le_pow_right (by omega) this
            _ = 16 := rfl
        have hpos : 0 < 2 ^ T[i].bits.toNat := Nat.pos_of_ne_zero (by simp)
        simp only [cond_false]
        simp only [show (0 : Int) ≤ T[i].bits by omega, decide_true, chk_t, shl_id hb]
        unfold Q3_l7
        rw [hp] at hb1 ⊢
        have := mark_loop n (Q3_g n) S.length (2 ^ T[i].bits.toNat) z w (encT T) ((T.length : Nat) : Int) (i : Int) a b c x y (encS S) z w (encT T) T[i].ty T[i].bits T[i].base T[i].size T[i].used T[i].fr T[i].badge T[i].full T[i].word T[i].d0 T[i].d1 T[i].d2 T[i].d3 (K false) (fun w2_0 => rec (((i + 1 : Nat) : Int), w2_0)) hb0 (by omega) hS (2 ^ T[i].bits.toNat) 0 n H (by omega) (by omega) hH
        simp only [Int.natCast_zero] at this
        rw [this]
        cases hm' : markM T[i].base H 0 (2 ^ T[i].bits.toNat) with
        | none => rfl
        | some H' => exact ih H' (by rw [markM_len _ hm', hH])
      · simp only [cond_true]
        exact ih H hH
  have := main T.length 0 n (List.replicate S.length false) (by omega) hn2 (by simp)
  unfold Q3_l3
  rw [show ((0 : Nat) : Int) = 0 from rfl] at this
  rw [this]
  unfold nodesM
  cases nodesF T (List.replicate S.length false) 0 T.length <;> rfl
def encM (l : List Int) : Mp := l.map fun k => (.i .i64 k, .b true)
theorem mapFind_encM (k : Int) : ∀ l : List Int, mapFind (.i .i64 k) (encM l) = some (bif l.contains k then some (.b true) else none)
  | [] => rfl
  | q :: r => by
    have ih := mapFind_encM k r
    rw [List.contains_cons]
    simp only [encM, List.map_cons, mapFind, eq1, if_true] at ih ⊢
    cases h : k == q
    · have h' : (q == k) = false := by simp at h ⊢; omega
      simp only [Bool.false_or, ih]
      try rw [h']
    · have h' : (q == k) = true := by simp at h ⊢; omega
      simp only [Bool.true_or, cond_true]
      try rw [h']
theorem mapB_encM (k : Int) (l : List Int) (K : Bool → Option ρ) : mapB false (.i .i64 k) (encM l) K = K (l.contains k) := by
  unfold mapB
  rw [mapFind_encM]
  cases l.contains k <;> rfl
theorem mapSet_encM (k : Int) : ∀ l : List Int, l.contains k = false → mapSet (.i .i64 k) (.b true) (encM l) = some (encM (l ++ [k]))
  | [], _ => rfl
  | q :: r, h => by
    simp only [List.contains_cons, Bool.or_eq_false_iff] at h
    have ih := mapSet_encM k r h.2
    have h' : (q == k) = false := by have := h.1; simp at this ⊢; omega
    simp only [encM, List.map_cons, List.cons_append, mapSet, eq1, if_true] at ih ⊢
    first | rw [h.1, ih] | rw [h', ih]
theorem mapU_encM (k : Int) (l : List Int) (h : l.contains k = false) (K : Mp → Option ρ) : mapU k .i64 true (encM l) K = K (encM (l ++ [k])) := by
  unfold mapU
  rw [mapSet_encM k l h]
end
end Go.Rv
namespace Go.Rv
theorem countP_lt {α : Type} {p q : α → Bool} : ∀ {l : List α}, (∀ x ∈ l, q x = true → p x = true) → (∃ x ∈ l, p x = true ∧ q x = false) → l.countP q < l.countP p
  | [], _, ⟨x, hx, _⟩ => by cases hx
  | y :: l, h, ⟨x, hx, h1, h2⟩ => by
    have hle : l.countP q ≤ l.countP p := List.countP_mono_left fun z hz => h z (List.mem_cons_of_mem _ hz)
    rw [List.countP_cons, List.countP_cons]
    rcases List.mem_cons.1 hx with rfl | hx'
    · rw [h1, h2]; simp; omega
    · have ih := countP_lt (l := l) (fun z hz => h z (List.mem_cons_of_mem _ hz)) ⟨x, hx', h1, h2⟩
      have hy := h y (List.mem_cons_self ..)
      cases hq : q y
      · cases p y <;> simp <;> omega
      · rw [hy hq]; simp; omega
def unm (N : Nat) (l : List Int) : Nat := (List.range N).countP (fun k : Nat => !l.contains (k : Int))
theorem unm_le (N : Nat) (l : List Int) : unm N l ≤ N := by
  have := List.countP_le_length (p := fun k : Nat => !l.contains (k : Int)) (l := List.range N)
  simpa [unm] using this
theorem unm_mono {N : Nat} {l l' : List Int} (h : ∀ k ∈ l, k ∈ l') : unm N l' ≤ unm N l := by
  unfold unm
  refine List.countP_mono_left fun k _ hk => ?_
  simp only [Bool.not_eq_true', List.contains_eq_mem, decide_eq_false_iff_not] at hk ⊢
  exact fun hm => hk (h _ hm)
theorem unm_add {N : Nat} {l : List Int} {k : Int} (h0 : 0 ≤ k) (h1 : k < N) (h : l.contains k = false) : unm N (l ++ [k]) < unm N l := by
  unfold unm
  refine countP_lt (fun q _ hq => ?_) ⟨k.toNat, List.mem_range.2 (by omega), ?_, ?_⟩
  · simp only [Bool.not_eq_true', List.contains_eq_mem, decide_eq_false_iff_not, List.mem_append] at hq ⊢
    exact fun hm => hq (Or.inl hm)
  · rw [show ((k.toNat : Nat) : Int) = k by omega, h]; rfl
  · rw [show ((k.toNat : Nat) : Int) = k by omega]; simp
section
variable (n : Nat) (a b c : Int) (x y z w : Bool) (S : List Slot) (T : List Thing)
theorem thereM_iff {T : List Thing} {t : Int} (h : thereM T t = true) : 0 ≤ t ∧ t < T.length := by
  simp only [thereM, Bool.and_eq_true, decide_eq_true_eq] at h
  omega
def Succ (k q : Int) : Prop := ∃ (i : Nat) (s : Slot) (t : Thing), S[i]? = some s ∧ s.ty = 2 ∧ 0 ≤ k ∧ T[k.toNat]? = some t ∧ hasM t (i : Int) = true ∧ thereM T s.th = true ∧ q = s.th
inductive Reach : Int → Int → Prop
  | here (k : Int) : Reach k k
  | step {k q r : Int} : Succ S T k q → Reach q r → Reach k r
theorem Reach.trans {k q r : Int} (h : Reach S T k q) (g : Reach S T q r) : Reach S T k r := by
  induction h with
  | here => exact g
  | step e _ ih => exact .step e (ih g)
def Gone (l l' : List Int) (node : Int) : Prop :=
  (∀ q ∈ l, q ∈ l') ∧ node ∈ l' ∧ (∀ q ∈ l', q ∈ l ∨ Reach S T node q) ∧ (∀ q ∈ l', q ∉ l → ∀ r, Succ S T q r → r ∈ l')
theorem within_loop2 (G : Q7_G) (h1 : G.state_has = state_has n) (h2 : G.state_State_there = state_State_there n) (hg : allGood T = true) (hS : S.length < 1000000) (node : Int) (hn0 : 0 ≤ node) (hn1 : node < T.length) (u : Nat)
    (hself : ∀ (l : List Int) (k : Int), 0 ≤ k → k < T.length → unm T.length l ≤ u → ∃ l', Gone S T l l' k ∧ ∀ (ρ : Type) (K : Mp → Option ρ), G.Q7 ρ a b c x y (encS S) z w (encT T) k (encM l) K = K (encM l')) :
    ∀ (d i : Nat) (l : List Int), i + d = S.length → unm T.length l ≤ u → ∃ l', ((∀ q ∈ l, q ∈ l') ∧ (∀ q ∈ l', q ∈ l ∨ Reach S T node q) ∧ (∀ q ∈ l', q ∉ l → ∀ r, Succ S T q r → r ∈ l') ∧
        (∀ (j : Nat) (s : Slot) (t : Thing), i ≤ j → S[j]? = some s → s.ty = 2 → T[node.toNat]? = some t → hasM t (j : Int) = true → thereM T s.th = true → s.th ∈ l')) ∧
      ∀ (ρ : Type) (k0 : Mp → Option ρ) (m : Nat), d < m →
      fuelN (Q7_l4_s G n node x y (encS S) ((S.length : Nat) : Int) a b c x y (encS S) z w (encT T) k0) m ((i : Int), encM l) = k0 (encM l') := by
  intro d
  induction d with
  | zero =>
    intro i l h hu
    refine ⟨l, ⟨fun _ h => h, fun q hq => .inl hq, fun q hq hn => absurd hq hn, fun j s t hj hs => ?_⟩, fun ρ k0 m hm => ?_⟩
    · have := (List.getElem?_eq_some_iff.1 hs).1
      omega
    · obtain ⟨m, rfl⟩ : ∃ k, m = k + 1 := ⟨m - 1, by omega⟩
      rw [fuelN_succ]
      generalize fuelN _ m = rec
      unfold Q7_l4_s
      simp only
      rw [show decide ((i : Int) < ((S.length : Nat) : Int)) = false by simp; omega]
      rfl
  | succ d ih =>
    intro i l h hu
    have hi : i < S.length := by omega
    obtain ⟨k, rfl⟩ : ∃ k : Nat, node = k := ⟨node.toNat, by omega⟩
    have hk : k < T.length := by omega
    have pre : ∀ (ρ : Type) (k0 : Mp → Option ρ) (rec : Q7_l4_V → Option ρ), Q7_l4_s G n (k : Int) x y (encS S) ((S.length : Nat) : Int) a b c x y (encS S) z w (encT T) k0 rec ((i : Int), encM l) =
        bif S[i].ty == 2 then (bif hasM T[k] (i : Int) then (bif thereM T S[i].th then G.Q7 ρ a b c x y (encS S) z w (encT T) S[i].th (encM l) (fun w4_0 => rec (((i + 1 : Nat) : Int), w4_0)) else rec (((i + 1 : Nat) : Int), encM l)) else rec (((i + 1 : Nat) : Int), encM l)) else rec (((i + 1 : Nat) : Int), encM l) := by
      intro ρ k0 rec
      unfold Q7_l4_s
      simp only
      rw [show decide ((i : Int) < ((S.length : Nat) : Int)) = true by simpa using hi, bif_t, rowT_S hi, wrap_id (by omega) (by omega), show ((i : Int) + 1) = ((i + 1 : Nat) : Int) by omega, rowT_T hk]
      simp only [h1, h2, Slot.c, Thing.c, has_eq n T[k] (List.all_eq_true.1 hg _ (List.getElem_mem hk)), there_eq]
    have step : ∃ l1, ((∀ q ∈ l, q ∈ l1) ∧ (∀ q ∈ l1, q ∈ l ∨ Reach S T (k : Int) q) ∧ (∀ q ∈ l1, q ∉ l → ∀ r, Succ S T q r → r ∈ l1) ∧
        (S[i].ty = 2 → hasM T[k] (i : Int) = true → thereM T S[i].th = true → S[i].th ∈ l1)) ∧ unm T.length l1 ≤ u ∧ ∀ (ρ : Type) (k0 : Mp → Option ρ) (rec : Q7_l4_V → Option ρ),
        Q7_l4_s G n (k : Int) x y (encS S) ((S.length : Nat) : Int) a b c x y (encS S) z w (encT T) k0 rec ((i : Int), encM l) = rec (((i + 1 : Nat) : Int), encM l1) := by
      have same : (¬ (S[i].ty = 2 ∧ hasM T[k] (i : Int) = true ∧ thereM T S[i].th = true)) → (∀ q ∈ l, q ∈ l) ∧ (∀ q ∈ l, q ∈ l ∨ Reach S T (k : Int) q) ∧ (∀ q ∈ l, q ∉ l → ∀ r, Succ S T q r → r ∈ l) ∧
          (S[i].ty = 2 → hasM T[k] (i : Int) = true → thereM T S[i].th = true → S[i].th ∈ l) :=
        fun hno => ⟨fun _ h => h, fun _ h => .inl h, fun _ h h' => absurd h h', fun e1 e2 e3 => absurd ⟨e1, e2, e3⟩ hno⟩
      cases e1 : S[i].ty == 2
      · exact ⟨l, same (fun h => by simp [h.1] at e1), hu, fun ρ k0 rec => by rw [pre, e1]; rfl⟩
      · rcases Bool.eq_false_or_eq_true (hasM T[k] (i : Int)) with e2 | e2
        rotate_left
        · exact ⟨l, same (fun h => by rw [e2] at h; cases h.2.1), hu, fun ρ k0 rec => by rw [pre, e1, e2]; rfl⟩
        · rcases Bool.eq_false_or_eq_true (thereM T S[i].th) with e3 | e3
          rotate_left
          · exact ⟨l, same (fun h => by rw [e3] at h; cases h.2.2), hu, fun ρ k0 rec => by rw [pre, e1, e2, e3]; rfl⟩
          · obtain ⟨h3, h4⟩ := thereM_iff e3
            obtain ⟨l1, ⟨g1, g2, g3, g4⟩, h6⟩ := hself l S[i].th h3 h4 hu
            have hsucc : Succ S T (k : Int) S[i].th := ⟨i, S[i], T[k], List.getElem?_eq_getElem hi, by simpa using e1, by omega, by simp [List.getElem?_eq_getElem hk], e2, e3, rfl⟩
            refine ⟨l1, ⟨g1, fun q hq => ?_, g4, fun _ _ _ => g2⟩, Nat.le_trans (unm_mono g1) hu, fun ρ k0 rec => by rw [pre, e1, e2, e3]; simp only [bif_t]; rw [h6]⟩
            rcases g3 q hq with h | h
            · exact .inl h
            · exact .inr (.step hsucc h)
    obtain ⟨l1, ⟨a1, a2, a3, a4⟩, hu1, hs⟩ := step
    obtain ⟨l2, ⟨b1, b2, b3, b4⟩, hr⟩ := ih (i + 1) l1 (by omega) hu1
    refine ⟨l2, ⟨fun q hq => b1 q (a1 q hq), fun q hq => ?_, fun q hq hn r hr => ?_, fun j s t hj hs' ht hT' hh hth => ?_⟩, fun ρ k0 m hm => ?_⟩
    · rcases b2 q hq with h | h
      · exact a2 q h
      · exact .inr h
    · by_cases hq1 : q ∈ l1
      · exact b1 r (a3 q hq1 hn r hr)
      · exact b3 q hq hq1 r hr
    · by_cases hij : j = i
      · subst hij
        rw [List.getElem?_eq_getElem hi] at hs'
        have hs' := Option.some.inj hs'
        simp only [Int.toNat_natCast, List.getElem?_eq_getElem hk, Option.some.injEq] at hT'
        subst hs'; subst hT'
        exact b1 _ (a4 ht hh hth)
      · exact b4 j s t (by omega) hs' ht hT' hh hth
    · obtain ⟨m, rfl⟩ : ∃ k, m = k + 1 := ⟨m - 1, by omega⟩
      rw [fuelN_succ, hs]
      exact hr ρ k0 m (by omega)
theorem within_gone (hg : allGood T = true) (hS : S.length < 1000000) (hn : S.length < n) : ∀ (m : Nat) (l : List Int) (node : Int), 0 ≤ node → node < T.length → unm T.length l < m →
    ∃ l', Gone S T l l' node ∧ ∀ (ρ : Type) (K : Mp → Option ρ), Q7 n m ρ a b c x y (encS S) z w (encT T) node (encM l) K = K (encM l')
  | 0, _, _, _, _, h => by omega
  | m + 1, l, node, h0, h1, hu => by
    cases hc : l.contains node
    · have hlt := unm_add (N := T.length) h0 h1 hc
      obtain ⟨l', ⟨g1, g2, g3, g4⟩, hr⟩ := within_loop2 n a b c x y z w S T ⟨state_has n, state_State_there n, Q7 n m⟩ rfl rfl hg hS node h0 h1 (unm T.length (l ++ [node]))
        (fun l2 k hk0 hk1 hl2 => within_gone hg hS hn m l2 k hk0 hk1 (by omega)) S.length 0 (l ++ [node]) (by omega) (Nat.le_refl _)
      refine ⟨l', ⟨fun q hq => g1 q (List.mem_append_left _ hq), g1 node (by simp), fun q hq => ?_, fun q hq hn' r hr' => ?_⟩, fun ρ K => ?_⟩
      · rcases g2 q hq with h | h
        · rcases List.mem_append.1 h with h | h
          · exact .inl h
          · simp at h; subst h; exact .inr (.here _)
        · exact .inr h
      · by_cases hqn : q = node
        · subst hqn
          obtain ⟨i, s, t, e1, e2, _, e4, e5, e6, rfl⟩ := hr'
          exact g4 i s t (Nat.zero_le _) e1 e2 e4 e5 e6
        · exact g3 q hq (fun hm => by
            rcases List.mem_append.1 hm with h | h
            · exact hn' h
            · simp at h; exact hqn h) r hr'
      · show Q7_s _ n a b c x y (encS S) z w (encT T) node (encM l) K = _
        unfold Q7_s Q7_l4
        rw [mapB_encM, hc, bif_f, mapU_encM _ _ hc, encS_len]
        exact hr ρ (fun w2_0 => K w2_0) n hn
    · refine ⟨l, ⟨fun _ h => h, by simpa using hc, fun q hq => .inl hq, fun q hq hn' => absurd hq hn'⟩, fun ρ K => ?_⟩
      show Q7_s _ n a b c x y (encS S) z w (encT T) node (encM l) K = _
      unfold Q7_s
      rw [mapB_encM, hc, bif_t]
theorem within_reach (hg : allGood T = true) (hS : S.length < 1000000) (hn : S.length < n) (node : Int) (h0 : 0 ≤ node) (h1 : node < T.length) (hn2 : T.length < n) :
    ∃ l', (∀ q, q ∈ l' ↔ Reach S T node q) ∧ ∀ (ρ : Type) (K : Mp → Option ρ), Q7 n n ρ a b c x y (encS S) z w (encT T) node [] K = K (encM l') := by
  obtain ⟨l', ⟨_, g2, g3, g4⟩, hr⟩ := within_gone n a b c x y z w S T hg hS hn n [] node h0 h1 (Nat.lt_of_le_of_lt (unm_le _ _) hn2)
  refine ⟨l', fun q => ⟨fun hq => ?_, fun hq => ?_⟩, hr⟩
  · rcases g3 q hq with h | h
    · cases h
    · exact h
  · have key : ∀ k r, Reach S T k r → k ∈ l' → r ∈ l' := by
      intro k r hR
      induction hR with
      | here => exact fun hk => hk
      | step e _ ih => exact fun hk => ih (g4 _ hk (by simp) _ e)
    exact key node q hq g2
def InsideP (node s : Int) : Prop := thereM T node = true ∧ (∃ t, T[node.toNat]? = some t ∧ t.ty = 2) ∧ Reach S T node (ownerM T s)
def RingP : Prop := ∃ (i : Nat) (s : Slot), S[i]? = some s ∧ s.ty = 2 ∧ InsideP S T s.th (i : Int)
open Classical in
noncomputable def insideB (node s : Int) : Bool := decide (InsideP S T node s)
open Classical in
noncomputable def ringB : Bool := decide (RingP S T)
theorem insideB_iff {node s : Int} : insideB S T node s = true ↔ InsideP S T node s := by unfold insideB; exact @decide_eq_true_iff _ (Classical.propDecidable _)
theorem ringB_iff : ringB S T = true ↔ RingP S T := by unfold ringB; exact @decide_eq_true_iff _ (Classical.propDecidable _)
theorem inside_eq (hg : allGood T = true) (hS : S.length < 1000000) (hT : T.length < 1000000) (hn : S.length < n) (hn2 : T.length < n) (node s : Int) (ρ : Type) (K : Bool → Option ρ) :
    Qv n ρ a b c x y (encS S) z w (encT T) node s K = K (insideB S T node s) := by
  show Qv_s (Qv_g n) n a b c x y (encS S) z w (encT T) node s K = _
  unfold Qv_s
  simp only [Qv_g, there_eq]
  rcases Bool.eq_false_or_eq_true (thereM T node) with h0 | h0
  rotate_left
  · have e : insideB S T node s = false := by
      unfold insideB InsideP
      simp [h0]
    rw [h0, e]; rfl
  · obtain ⟨h1, h2⟩ := thereM_iff h0
    obtain ⟨k, rfl⟩ : ∃ k : Nat, node = k := ⟨node.toNat, by omega⟩
    have hk : k < T.length := by omega
    rw [h0, bif_t, rowT_T hk]
    simp only [Thing.c]
    cases h3 : T[k].ty == 2
    · have e : insideB S T (k : Int) s = false := by
        unfold insideB InsideP
        simp at h3
        simp [List.getElem?_eq_getElem hk, h3]
      have e2 : (T[k].ty != 2) = true := by simp [bne, h3]
      rw [e, e2]; rfl
    · have e2 : (T[k].ty != 2) = false := by simp [bne, h3]
      rw [e2, bif_f]
      obtain ⟨l', hl, hr⟩ := within_reach n a b c x y z w S T hg hS hn (k : Int) h1 h2 hn2
      rw [hr]
      simp only [owner_eq n a b c x y z w (encS S) T hT hg hn2]
      rw [mapB_encM]
      have e : insideB S T (k : Int) s = l'.contains (ownerM T s) := by
        unfold insideB InsideP
        simp only [beq_iff_eq] at h3
        rw [Bool.eq_iff_iff]
        simp [List.getElem?_eq_getElem hk, h3, h0, ← hl]
      rw [e]
      cases l'.contains (ownerM T s) <;> rfl
theorem ring_eq (hg : allGood T = true) (hS : S.length < 1000000) (hT : T.length < 1000000) (hn : S.length < n) (hn2 : T.length < n) (ρ : Type) (K : Bool → Option ρ) :
    Qe n ρ a b c x y (encS S) z w (encT T) K = K (ringB S T) := by
  let p : Nat → Bool := fun i => match S[i]? with | some s => !(s.ty == 2 && insideB S T s.th (i : Int)) | none => true
  show Qe_s (Qe_g n) n a b c x y (encS S) z w (encT T) K = _
  unfold Qe_s Qe_l2
  have e : ringB S T = !((List.range S.length).all p) := by
    rw [Bool.eq_iff_iff]
    rw [ringB_iff]
    simp only [RingP, Bool.not_eq_true', List.all_eq_false, List.mem_range, p]
    constructor
    · rintro ⟨i, s, hs, h2, h3⟩
      obtain ⟨hi, rfl⟩ := List.getElem?_eq_some_iff.1 hs
      exact ⟨i, hi, by simp [List.getElem?_eq_getElem hi, h2, insideB_iff, h3]⟩
    · rintro ⟨i, hi, h⟩
      simp only [List.getElem?_eq_getElem hi, Bool.not_eq_true, Bool.not_eq_false', Bool.and_eq_true, beq_iff_eq, insideB_iff] at h
      exact ⟨i, S[i], List.getElem?_eq_getElem hi, h.1, h.2⟩
  rw [encS_len, up_loop0 (len := S.length) (k0 := K true) (k1 := K false) p, e]
  · cases (List.range S.length).all p <;> rfl
  · intro rec
    unfold Qe_l2_s
    simp only
    rw [show decide (((S.length : Nat) : Int) < ((S.length : Nat) : Int)) = false by simp]
    rfl
  · intro rec i hi
    unfold Qe_l2_s
    simp only
    rw [show decide ((i : Int) < ((S.length : Nat) : Int)) = true by simpa using hi, bif_t, rowT_S hi, wrap_id (by omega) (by omega), show ((i : Int) + 1) = ((i + 1 : Nat) : Int) by omega]
    simp only [Qe_g, Slot.c, inside_eq n a b c x y z w S T hg hS hT hn hn2, p, List.getElem?_eq_getElem hi]
    cases S[i].ty == 2 <;> cases insideB S T S[i].th (i : Int) <;> rfl
  · exact hn
end
end Go.Rv
namespace Go.Rv
section
variable {ρ : Type} (n : Nat)
def upM (s : Slot) : Int := bif capNone s.ty s.th s.ri s.ba then -2 else s.up
section
variable (a b c : Int) (x y z w : Bool) (S : List Slot) (R : Rows) (k0 : Option ρ) (k1 : Nat → Nat → Rows → Option ρ)
theorem forest_loop (hS : S.length < 1000000) : ∀ (d i m : Nat) (acc : List Int), i + d = S.length → d < m → acc.length = i →
    fuelN (Qa_l3_s (Qa_g n) n x y (encS S) ((S.length : Nat) : Int) a b c x y (encS S) z w R k0 k1) m (.inr ((i : Int), acc.length, acc.length, encI acc)) =
      k1 (acc ++ (S.drop i).map upM).length (acc ++ (S.drop i).map upM).length (encI (acc ++ (S.drop i).map upM)) := by
  intro d
  induction d with
  | zero =>
    intro i m acc h hm ha
    obtain ⟨m, rfl⟩ : ∃ k, m = k + 1 := ⟨m - 1, by omega⟩
    rw [fuelN_succ]
    generalize fuelN _ m = rec
    unfold Qa_l3_s
    simp only
    rw [show decide ((i : Int) < ((S.length : Nat) : Int)) = false by simp; omega, List.drop_eq_nil_of_le (by omega)]
    simp
  | succ d ih =>
    intro i m acc h hm ha
    obtain ⟨m, rfl⟩ : ∃ k, m = k + 1 := ⟨m - 1, by omega⟩
    have hi : i < S.length := by omega
    have ih := ih (i + 1) m (acc ++ [upM S[i]]) (by omega) (by omega) (by simp [ha])
    rw [fuelN_succ]
    generalize fuelN _ m = rec at ih ⊢
    unfold Qa_l3_s
    simp only
    rw [show decide ((i : Int) < ((S.length : Nat) : Int)) = true by simpa using hi, bif_t, rowT_S hi, wrap_id (by omega) (by omega), show ((i : Int) + 1) = ((i + 1 : Nat) : Int) by omega]
    have e1 : ((encI acc).length == acc.length) = true := by simp [encI]
    have e2 : (acc.length == acc.length) = true := by simp
    have e3 : decide (acc.length + 1 ≤ most) = true := by
      have : most = 16777216 := rfl
      simp only [decide_eq_true_eq]; omega
    simp only [Qa_g, cap_None_eq, Slot.c, e1, e2, e3, chk_t]
    have e4 : ∀ v : Int, encI acc ++ [[AV.i .i64 v]] = encI (acc ++ [v]) := fun v => by simp [encI]
    rw [e4, e4]
    have e5 : acc ++ [upM S[i]] ++ List.map upM (S.drop (i + 1)) = acc ++ List.map upM (S.drop i) := by
      rw [List.drop_eq_getElem_cons hi, List.map_cons]; simp only [List.append_assoc, List.singleton_append]
    rw [e5] at ih
    rw [← ih]
    unfold upM
    cases capNone S[i].ty S[i].th S[i].ri S[i].ba <;> simp
theorem forest_eq (hS : S.length < 1000000) (hn : S.length < n) (K : Bool → Bool → Rows → Option ρ) : Qa n ρ a b c x y (encS S) z w R K = K (S.map upM).isEmpty (S.map upM).isEmpty (encI (S.map upM)) := by
  show Qa_s _ n a b c x y (encS S) z w R K = _
  unfold Qa_s Qa_l3
  rw [encS_len]
  obtain ⟨m, rfl⟩ : ∃ k, n = k + 1 := ⟨n - 1, by omega⟩
  rw [fuelN_succ]
  cases S with
  | nil =>
    generalize fuelN _ m = rec
    unfold Qa_l3_s
    rfl
  | cons s r =>
    have := forest_loop (m + 1) a b c x y z w (s :: r) R (K true true []) (fun w1_0 w1_1 w1_2 => chk (((List.length (w1_2 : Rows)) : Nat) == w1_0) <| K false false (List.take w1_1 (List.drop 0 (w1_2 : Rows)))) hS r.length 1 m [upM s] (by simp only [List.length_cons]; omega) (by simp only [List.length_cons] at hn; omega) rfl
    generalize fuelN _ m = rec at this ⊢
    have e : upM s :: List.map upM r = List.map upM (s :: r) := rfl
    simp only [List.length_singleton, List.drop_succ_cons, List.drop_zero, List.singleton_append, e] at this
    have e2 : List.take (List.map upM (s :: r)).length (encI (List.map upM (s :: r))) = encI (List.map upM (s :: r)) := List.take_of_length_le (by simp [encI])
    rw [e2] at this
    simp only [encI_len, beq_self_eq_true, chk_t] at this
    have h3 : (List.map upM (s :: r)).isEmpty = false := rfl
    rw [h3, ← this]
    unfold Qa_l3_s
    simp only
    have h0 : decide ((0 : Int) < (((s :: r).length : Nat) : Int)) = true := by
      simp only [List.length_cons, decide_eq_true_eq]; omega
    have hr := rowT_S (ρ := ρ) (l := s :: r) (i := 0) (by simp)
    rw [h0, bif_t]
    simp only [Int.natCast_zero] at hr
    rw [hr]
    simp only [Qa_g, cap_None_eq, Slot.c, List.getElem_cons_zero, encI, List.map_cons, List.map_nil]
    unfold upM
    cases capNone s.ty s.th s.ri s.ba <;> simp
end
def isM (U : List Int) (i : Int) : Bool := decide (i ≥ 0) && (decide (i < U.length) && (match U[i.toNat]? with | some u => u != -2 | none => false))
theorem is_eq (p q : Bool) (U : List Int) (i : Int) (K : Bool → Option ρ) : forest_Forest_is n ρ p q (encI U) i K = K (isM U i) := by
  show forest_Forest_is_s _ n p q (encI U) i K = _
  unfold forest_Forest_is_s isM
  by_cases h0 : i ≥ 0
  · by_cases h1 : i < U.length
    · obtain ⟨k, rfl⟩ : ∃ k : Nat, i = k := ⟨i.toNat, by omega⟩
      have hk : k < U.length := by omega
      rw [rowT_I hk]
      simp only [encI_len, h0, h1, decide_true, cond_true, Int.toNat_natCast, List.getElem?_eq_getElem hk, Bool.true_and]
      cases U[k] != -2 <;> rfl
    · simp only [encI_len, h0, h1, decide_true, decide_false, cond_true, cond_false, Bool.false_and, Bool.and_false]
  · simp only [h0, decide_false, cond_false, Bool.false_and]
theorem isM_iff {U : List Int} {i : Int} (h : isM U i = true) : 0 ≤ i ∧ i < U.length := by
  simp only [isM, Bool.and_eq_true, decide_eq_true_eq] at h
  omega
def upOK (U : List Int) (u : Int) : Bool := bif u != -2 then (bif u != -1 then isM U u else true) else true
def chainF (U : List Int) : Nat → Int → Int → Bool
  | 0, _, _ => true
  | f + 1, steps, at' => bif isM U at' then (bif decide (steps > U.length) then false else match U[at'.toNat]? with | some u => chainF U f (steps + 1) u | none => true) else true
def forestGood (U : List Int) : Bool :=
  bif decide ((U.length : Int) > 96) then false else U.all (upOK U) && (List.range U.length).all fun i => chainF U (U.length + 3) 0 (i : Int)
theorem chain_loop (q1 q2 : Int) (p q : Bool) (U : List Int) (hU : U.length < 1000000) (k0 k1 : Option ρ) : ∀ (f m : Nat) (steps at' : Int), f ≤ m → 0 ≤ steps → steps + f = U.length + 3 → 0 < f →
    fuelN (Q2_l14_s (Q2_g n) n q1 q2 p q (encI U) k0 k1) m (steps, at') = bif chainF U f steps at' then k1 else k0
  | 0, _, _, _, _, _, _, h => by omega
  | f + 1, m, steps, at', hm, h0, hs, _ => by
    obtain ⟨m, rfl⟩ : ∃ k, m = k + 1 := ⟨m - 1, by omega⟩
    have ih := chain_loop q1 q2 p q U hU k0 k1 f m
    rw [fuelN_succ]
    generalize fuelN _ m = rec at ih ⊢
    unfold Q2_l14_s chainF
    simp only [Q2_g, is_eq, encI_len]
    cases h1 : isM U at'
    · rfl
    · simp only [cond_true]
      by_cases h2 : steps > U.length
      · simp [h2]
      · obtain ⟨h3, h4⟩ := isM_iff h1
        obtain ⟨k, rfl⟩ : ∃ k : Nat, at' = k := ⟨at'.toNat, by omega⟩
        have hk : k < U.length := by omega
        simp only [h2, decide_false, cond_false]
        rw [rowT_I hk, wrap_id (by omega) (by omega)]
        simp only [Int.toNat_natCast, List.getElem?_eq_getElem hk]
        exact ih (steps + 1) U[k] (by omega) (by omega) (by omega) (by omega)
theorem all_range {α : Type} (l : List α) (p : α → Bool) (q : Nat → Bool) (h : ∀ i (hi : i < l.length), q i = p l[i]) : (List.range l.length).all q = l.all p := by
  rw [Bool.eq_iff_iff]
  simp only [List.all_eq_true, List.mem_range]
  constructor
  · intro h1 s hs
    obtain ⟨i, hi, rfl⟩ := List.mem_iff_getElem.1 hs
    rw [← h i hi]; exact h1 i hi
  · intro h1 i hi
    rw [h i hi]; exact h1 _ (List.getElem_mem hi)
theorem forestGood_eq (p q : Bool) (U : List Int) (hn : U.length + 3 < n) (K : Bool → Option ρ) : Q2 n ρ p q (encI U) K = K (forestGood U) := by
  show Q2_s _ n p q (encI U) K = _
  unfold Q2_s forestGood
  simp only [encI_len]
  by_cases h0 : ((U.length : Nat) : Int) > 96
  · simp [h0]
  · simp only [h0, decide_false, cond_false]
    unfold Q2_l4
    rw [up_loop0 (len := U.length) (k0 := K false) (k1 := Q2_l10 (Q2_g n) n ((U.length : Nat) : Int) p q (encI U) (K false) (K true) 0) (fun i => match U[i]? with | some u => upOK U u | none => true)]
    · rw [all_range U (upOK U) _ (fun i hi => by simp only [List.getElem?_eq_getElem hi])]
      cases h1 : U.all (upOK U)
      · rfl
      · simp only [bif_t, Bool.true_and]
        unfold Q2_l10
        rw [up_loop0 (len := U.length) (k0 := K false) (k1 := K true) (fun i => chainF U (U.length + 3) 0 (i : Int))]
        · cases (List.range U.length).all _ <;> rfl
        · intro rec
          unfold Q2_l10_s
          simp only
          rw [show decide (((U.length : Nat) : Int) < ((U.length : Nat) : Int)) = false by simp]
          rfl
        · intro rec i hi
          unfold Q2_l10_s
          simp only
          rw [show decide ((i : Int) < ((U.length : Nat) : Int)) = true by simpa using hi, bif_t, wrap_id (by omega) (by omega), show ((i : Int) + 1) = ((i + 1 : Nat) : Int) by omega]
          unfold Q2_l14
          exact chain_loop n _ _ p q U (by omega) (K false) (rec ((i + 1 : Nat) : Int)) (U.length + 3) n 0 (i : Int) (by omega) (by omega) (by omega) (by omega)
        · omega
    · intro rec
      unfold Q2_l4_s
      simp only
      rw [show decide (((U.length : Nat) : Int) < ((U.length : Nat) : Int)) = false by simp]
      rfl
    · intro rec i hi
      unfold Q2_l4_s
      simp only
      rw [show decide ((i : Int) < ((U.length : Nat) : Int)) = true by simpa using hi, bif_t, rowT_I hi, wrap_id (by omega) (by omega), show ((i : Int) + 1) = ((i + 1 : Nat) : Int) by omega]
      simp only [Q2_g, is_eq, List.getElem?_eq_getElem hi, upOK]
      cases U[i] != -2 <;> cases U[i] != -1 <;> cases isM U U[i] <;> rfl
    · omega
def lessR (a b : Int) : Int := IntKind.wrap .i64 (BitVec.ofInt (IntKind.bits .i64) (bif inM a 0 7 then a else 0) &&& ~~~ BitVec.ofInt (IntKind.bits .i64) (bif inM b 0 7 then b else 0)).toNat
theorem Qq_eq (a : Int) (K : Int → Option ρ) : Qq n ρ a K = K (bif inM a 0 7 then a else 0) := by
  show Qq_s (Qq_g n) n a K = _
  simp only [Qq_s, Qq_g, right_Good_eq]
  cases inM a 0 7 <;> rfl
theorem Q00_eq (a b : Int) (K : Int → Option ρ) : Q00 n ρ a b K = K (lessR a b) := by
  show Q00_s (Q00_g n) n a b K = _
  simp only [Q00_s, Q00_g, Qq_eq, lessR]
theorem Qr_eq (a b : Int) (K : Bool → Option ρ) : Qr n ρ a b K = K (lessR a b == 0) := by
  show Qr_s (Qr_g n) n a b K = _
  simp only [Qr_s, Qr_g, Q00_eq]
  cases lessR a b == 0 <;> rfl
def capLess (a1 a2 a3 a4 b1 b2 b3 b4 : Int) : Bool := capNone a1 a2 a3 a4 || (a1 == b1 && (a2 == b2 && (lessR a3 b3 == 0 && (b4 == 0 || b4 == a4))))
theorem Qu_eq (a1 a2 a3 a4 b1 b2 b3 b4 : Int) (K : Bool → Option ρ) : Qu n ρ a1 a2 a3 a4 b1 b2 b3 b4 K = K (capLess a1 a2 a3 a4 b1 b2 b3 b4) := by
  show Qu_s (Qu_g n) n a1 a2 a3 a4 b1 b2 b3 b4 K = _
  simp only [Qu_s, Qu_g, cap_None_eq, Qr_eq, capLess]
  cases capNone a1 a2 a3 a4 <;> cases a1 == b1 <;> cases a2 == b2 <;> cases lessR a3 b3 == 0 <;> cases b4 == 0 <;> cases b4 == a4 <;> rfl
def stepOK (s u : Slot) : Bool := capLess s.ty s.th s.ri s.ba u.ty u.th u.ri u.ba || (u.ty == 1 && s.th != u.th)
def allowF (S : List Slot) (s : Slot) : Nat → Int → Bool
  | 0, _ => true
  | d + 1, at' => bif decide (at' < 0) then true else match S[at'.toNat]? with | some u => bif stepOK s u then allowF S s d u.up else false | none => true
def allowedM (S : List Slot) : Bool := S.all fun s => allowF S s S.length s.up
theorem allow_loop (q1 q2 : Bool) (q3 : Rows) (q4 q5 : Int) (S : List Slot) (q7 q8 q9 : Int) (q10 q11 q13 q14 : Bool) (R : Rows) (s : Slot) (q20 : Int) (kg kb : Option ρ) (hS : S.length < 1000000) (hup : ∀ u ∈ S, u.up < S.length) :
    ∀ (d j m : Nat) (at' : Int), j + d = S.length → d < m → at' < S.length →
      fuelN (Q4_l6_s (Q4_g n) n q1 q2 q3 q4 q5 ((S.length : Nat) : Int) q7 q8 q9 q10 q11 (encS S) q13 q14 R s.ty s.th s.ri s.ba q20 kg kb) m (at', (j : Int)) = bif allowF S s d at' then kg else kb := by
  intro d
  induction d with
  | zero =>
    intro j m at' h hm ha
    obtain ⟨m, rfl⟩ : ∃ k, m = k + 1 := ⟨m - 1, by omega⟩
    rw [fuelN_succ]
    generalize fuelN _ m = rec
    unfold Q4_l6_s
    simp only
    rw [show decide ((j : Int) < ((S.length : Nat) : Int)) = false by simp; omega]
    rfl
  | succ d ih =>
    intro j m at' h hm ha
    obtain ⟨m, rfl⟩ : ∃ k, m = k + 1 := ⟨m - 1, by omega⟩
    have ih := ih (j + 1) m
    rw [fuelN_succ]
    generalize fuelN _ m = rec at ih ⊢
    unfold Q4_l6_s allowF
    simp only
    rw [show decide ((j : Int) < ((S.length : Nat) : Int)) = true by simp; omega, bif_t, wrap_id (by omega) (by omega), show ((j : Int) + 1) = ((j + 1 : Nat) : Int) by omega]
    by_cases h0 : at' < 0
    · simp [h0]
    · obtain ⟨k, rfl⟩ : ∃ k : Nat, at' = k := ⟨at'.toNat, by omega⟩
      have hk : k < S.length := by omega
      simp only [h0, decide_false, cond_false]
      rw [rowT_S hk]
      simp only [Q4_g, Qu_eq, Slot.c, Int.toNat_natCast, List.getElem?_eq_getElem hk]
      have ih := ih S[k].up (by omega) (by omega) (hup _ (List.getElem_mem hk))
      rw [ih]
      unfold stepOK
      have e1 : (s.th != S[k].th) = !(s.th == S[k].th) := rfl
      have e2 : (S[k].ty != 1) = !(S[k].ty == 1) := rfl
      rw [e1, e2]
      cases capLess s.ty s.th s.ri s.ba S[k].ty S[k].th S[k].ri S[k].ba <;> cases S[k].ty == 1 <;> cases s.th == S[k].th <;> rfl
theorem allowed_eq (a b c : Int) (x y z w : Bool) (S : List Slot) (R : Rows) (hS : S.length < 1000000) (hn : S.length < n) (hup : ∀ u ∈ S, u.up < S.length) (K : Bool → Option ρ) :
    Q4 n ρ a b c x y (encS S) z w R K = K (allowedM S) := by
  show Q4_s _ n a b c x y (encS S) z w R K = _
  unfold Q4_s Q4_l2 allowedM
  rw [encS_len, up_loop0 (len := S.length) (k0 := K false) (k1 := K true) (fun i => match S[i]? with | some s => allowF S s S.length s.up | none => true)]
  · rw [all_range S (fun s => allowF S s S.length s.up) _ (fun i hi => by simp only [List.getElem?_eq_getElem hi])]
    cases S.all _ <;> rfl
  · intro rec
    unfold Q4_l2_s
    simp only
    rw [show decide (((S.length : Nat) : Int) < ((S.length : Nat) : Int)) = false by simp]
    rfl
  · intro rec i hi
    unfold Q4_l2_s
    simp only [encS_len]
    rw [show decide ((i : Int) < ((S.length : Nat) : Int)) = true by simpa using hi, bif_t, rowT_S hi, wrap_id (by omega) (by omega), show ((i : Int) + 1) = ((i + 1 : Nat) : Int) by omega]
    unfold Q4_l6
    simp only [Slot.c, List.getElem?_eq_getElem hi]
    exact allow_loop n x y (encS S) _ _ S a b c x y z w R S[i] _ _ _ hS hup S.length 0 n S[i].up (by omega) hn (hup _ (List.getElem_mem hi))
  · exact hn
end
end Go.Rv
namespace Go.Rv
section
variable (n : Nat) (a b c : Int) (x y z w : Bool) (S : List Slot) (T : List Thing)
structure GoodS (a b c : Int) (S : List Slot) (T : List Thing) : Prop where
  geo : geoGood a b c = true
  slots : (S.length : Int) = b
  things : (T.length : Int) = c
  caps : S.all (capOK T) = true
  thingsOK : thingsM a S T = true
  nodes : nodesM S T = true
  ring : ¬ RingP S T
  forest : forestGood (S.map upM) = true
  allowed : allowedM S = true
open Classical in
noncomputable def goodB (a b c : Int) (S : List Slot) (T : List Thing) : Bool := decide (GoodS a b c S T)
theorem goodB_iff {a b c : Int} {S : List Slot} {T : List Thing} : goodB a b c S T = true ↔ GoodS a b c S T := by unfold goodB; exact @decide_eq_true_iff _ (Classical.propDecidable _)
theorem goodB_not {a b c : Int} {S : List Slot} {T : List Thing} (h : ¬ GoodS a b c S T) : goodB a b c S T = false := by
  rw [← Bool.not_eq_true, goodB_iff]; exact h
theorem allGood_of {thr : Int} {S : List Slot} {T : List Thing} (h : thingsM thr S T = true) : allGood T = true := by
  refine List.all_eq_true.2 fun t ht => ?_
  obtain ⟨i, hi, rfl⟩ := List.mem_iff_getElem.1 ht
  have := (List.all_eq_true.1 h) i (List.mem_range.2 hi)
  simp only [List.getElem?_eq_getElem hi, thingOK, Bool.and_eq_true] at this
  exact this.1
theorem ups_of {S : List Slot} {T : List Thing} (hc : S.all (capOK T) = true) (hf : forestGood (S.map upM) = true) (h0 : 0 < S.length) : ∀ u ∈ S, u.up < S.length := by
  intro u hu
  have h1 := List.all_eq_true.1 hc u hu
  unfold forestGood at hf
  by_cases h96 : (((S.map upM).length : Nat) : Int) > 96
  · rw [decide_eq_true h96] at hf
    exact absurd hf Bool.false_ne_true
  · simp only [h96, decide_false, cond_false, Bool.and_eq_true] at hf
    have h2 := List.all_eq_true.1 hf.1 (upM u) (List.mem_map_of_mem hu)
    unfold capOK at h1
    unfold upM upOK at h2
    cases hn : capNone u.ty u.th u.ri u.ba
    · rw [hn] at h1 h2
      simp only [cond_false, Bool.and_eq_true, decide_eq_true_eq] at h1 h2
      cases e1 : u.up != -2
      · simp at e1; omega
      · cases e2 : u.up != -1
        · simp at e2; omega
        · rw [e1, e2] at h2
          simp only [cond_true] at h2
          have := (isM_iff h2).2
          simpa using this
    · rw [hn] at h1
      simp only [cond_true, Bool.and_eq_true, beq_iff_eq] at h1
      omega
theorem good_eq (hn : 200 ≤ n) (ρ : Type) (K : Bool → Option ρ) : Qh n ρ a b c x y (encS S) z w (encT T) K = K (goodB a b c S T) := by
  show Qh_s (Qh_g n) n a b c x y (encS S) z w (encT T) K = _
  simp only [Qh_s, Qh_g, Ql_eq, encS_len, encT_len]
  cases h1 : geoGood a b c
  · rw [goodB_not (fun h => by rw [h.geo] at h1; cases h1)]; rfl
  obtain ⟨hthr, hsl, -, hth⟩ := geoGood_thr h1
  rw [bif_t]
  by_cases h2 : (S.length : Int) = b
  case neg =>
    have e : (((S.length : Nat) : Int) != b) = true := by simpa using h2
    rw [goodB_not (fun h => h2 h.slots), e]; rfl
  have e0 : (((S.length : Nat) : Int) != b) = false := by simpa using h2
  by_cases h3 : (T.length : Int) = c
  case neg =>
    have e : (((T.length : Nat) : Int) != c) = true := by simpa using h3
    rw [goodB_not (fun h => h3 h.things), e0, e]; rfl
  have e1 : (((T.length : Nat) : Int) != c) = false := by simpa using h3
  have hS0 : 0 < S.length := by omega
  rw [e0, e1, bif_f, bif_f]
  simp only [caps_eq n a b c x y z w S T (by omega) (by omega)]
  cases h4 : S.all (capOK T)
  · rw [goodB_not (fun h => by rw [h.caps] at h4; cases h4)]; rfl
  simp only [bif_t, things_eq n a b c x y z w S T h1 (by omega) (by omega) (by omega) (by omega)]
  cases h5 : thingsM a S T
  · rw [goodB_not (fun h => by rw [h.thingsOK] at h5; cases h5)]; rfl
  have hg := allGood_of h5
  simp only [bif_t, nodes_eq n a b c x y z w S T hg (by omega) (by omega) (by omega) (by omega) (by omega)]
  cases h6 : nodesM S T
  · rw [goodB_not (fun h => by rw [h.nodes] at h6; cases h6)]; rfl
  simp only [bif_t, ring_eq n a b c x y z w S T hg (show S.length < 1000000 by omega) (show T.length < 1000000 by omega) (show S.length < n by omega) (show T.length < n by omega)]
  cases h7 : ringB S T
  case true => rw [goodB_not (fun h => h.ring ((ringB_iff S T).1 h7))]; rfl
  have hr : ¬ RingP S T := fun h => by rw [(ringB_iff S T).2 h] at h7; cases h7
  simp only [bif_f, forest_eq n a b c x y z w S (encT T) (show S.length < 1000000 by omega) (show S.length < n by omega), forestGood_eq n _ _ (S.map upM) (show (S.map upM).length + 3 < n by simp; omega)]
  cases h8 : forestGood (S.map upM)
  · rw [goodB_not (fun h => by rw [h.forest] at h8; cases h8)]; rfl
  have hup := ups_of h4 h8 hS0
  simp only [bif_t, allowed_eq n a b c x y z w S (encT T) (show S.length < 1000000 by omega) (show S.length < n by omega) hup]
  cases h9 : allowedM S
  · rw [goodB_not (fun h => by rw [h.allowed] at h9; cases h9)]; rfl
  · rw [goodB_iff.2 ⟨h1, h2, h3, h4, h5, h6, hr, h8, h9⟩]; rfl
end
end Go.Rv
namespace Go.Rv
theorem ownerF_spec (T : List Thing) (s : Int) : ∀ (d i : Nat), i + d = T.length → (ownerF T s i d = -1 ∧ ∀ (j : Nat) (t : Thing), i ≤ j → T[j]? = some t → hasM t s = false) ∨
    ∃ (j : Nat) (t : Thing), ownerF T s i d = (j : Int) ∧ i ≤ j ∧ T[j]? = some t ∧ hasM t s = true
  | 0, i, h => .inl ⟨rfl, fun j t hj ht => by have := (List.getElem?_eq_some_iff.1 ht).1; omega⟩
  | d + 1, i, h => by
    have hi : i < T.length := by omega
    unfold ownerF
    rw [List.getElem?_eq_getElem hi]
    simp only
    cases hm : hasM T[i] s
    · rcases ownerF_spec T s d (i + 1) (by omega) with ⟨h1, h2⟩ | ⟨j, t, h1, h2, h3, h4⟩
      · refine .inl ⟨h1, fun j t hj ht => ?_⟩
        by_cases e : j = i
        · subst e; rw [List.getElem?_eq_getElem hi] at ht; cases ht; exact hm
        · exact h2 j t (by omega) ht
      · exact .inr ⟨j, t, h1, by omega, h3, h4⟩
    · exact .inr ⟨i, T[i], rfl, Nat.le_refl _, List.getElem?_eq_getElem hi, hm⟩
theorem ownerM_spec (T : List Thing) (s : Int) : (ownerM T s = -1 ∧ ∀ t ∈ T, hasM t s = false) ∨ ∃ (j : Nat) (t : Thing), ownerM T s = (j : Int) ∧ T[j]? = some t ∧ hasM t s = true := by
  rcases ownerF_spec T s T.length 0 (by omega) with ⟨h1, h2⟩ | ⟨j, t, h1, _, h3, h4⟩
  · refine .inl ⟨h1, fun t ht => ?_⟩
    obtain ⟨i, hi⟩ := List.mem_iff_getElem?.1 ht
    exact h2 i t (Nat.zero_le _) hi
  · exact .inr ⟨j, t, h1, h3, h4⟩
def Apart (T : List Thing) : Prop := ∀ (j k : Nat) (t u : Thing) (s : Int), T[j]? = some t → T[k]? = some u → hasM t s = true → hasM u s = true → j = k
theorem Apart.owner {T : List Thing} (h : Apart T) {k : Nat} {t : Thing} {s : Int} (ht : T[k]? = some t) (hm : hasM t s = true) : ownerM T s = (k : Int) := by
  rcases ownerM_spec T s with ⟨_, h2⟩ | ⟨j, u, h1, h2, h3⟩
  · rw [h2 t (List.mem_of_getElem? ht)] at hm; cases hm
  · rw [h1, h j k u t s h2 ht h3 hm]
end Go.Rv
namespace Go.Rv
theorem grow_rest {N : Nat} {P : Nat → Nat → Bool} (mono : ∀ k i, i < N → P k i = true → P (k + 1) i = true)
    (stable : ∀ k, (∀ i, i < N → P (k + 1) i = P k i) → ∀ i, i < N → P (k + 2) i = P (k + 1) i) :
    ∀ m i, i < N → N ≤ m → P m i = P N i := by
  have rest : ∀ k, (∀ i, i < N → P (k + 1) i = P k i) → ∀ d i, i < N → P (k + d) i = P k i := by
    intro k hk d
    have step : ∀ d i, i < N → P (k + d + 1) i = P (k + d) i := by
      intro d
      induction d with
      | zero => exact hk
      | succ d ih => exact stable (k + d) ih
    induction d with
    | zero => intro i _; rfl
    | succ d ih => intro i hi; rw [show k + (d + 1) = k + d + 1 by omega, step d i hi, ih i hi]
  have cnt : ∀ k, (∃ j, j < k ∧ ∀ i, i < N → P (j + 1) i = P j i) ∨ k ≤ (List.range N).countP (P k) := by
    intro k
    induction k with
    | zero => exact .inr (Nat.zero_le _)
    | succ k ih =>
      rcases ih with ⟨j, hj, h⟩ | h
      · exact .inl ⟨j, by omega, h⟩
      · by_cases hs : ∀ i, i < N → P (k + 1) i = P k i
        · exact .inl ⟨k, by omega, hs⟩
        · have hs := Classical.not_forall.1 hs
          obtain ⟨i, hi⟩ := hs
          have hi' : i < N ∧ P (k + 1) i ≠ P k i := by
            by_cases h0 : i < N
            · exact ⟨h0, fun e => hi fun _ => e⟩
            · exact absurd (fun h => absurd h h0) hi
          have h1 : P (k + 1) i = true ∧ P k i = false := by
            cases e : P k i
            · cases e2 : P (k + 1) i
              · rw [e, e2] at hi'; exact absurd rfl hi'.2
              · exact ⟨rfl, rfl⟩
            · have := mono k i hi'.1 e
              rw [e, this] at hi'; exact absurd rfl hi'.2
          have := countP_lt (p := P (k + 1)) (q := P k) (l := List.range N) (fun x hx hq => mono k x (List.mem_range.1 hx) hq) ⟨i, List.mem_range.2 hi'.1, h1⟩
          exact .inr (by omega)
  intro m i hi hm
  obtain ⟨j, hj, h⟩ : ∃ j, j ≤ N ∧ ∀ i, i < N → P (j + 1) i = P j i := by
    rcases cnt (N + 1) with ⟨j, hj, h⟩ | h
    · exact ⟨j, by omega, h⟩
    · have := List.countP_le_length (p := P (N + 1)) (l := List.range N)
      simp at this
      omega
  have h1 := rest j h (m - j) i hi
  have h2 := rest j h (N - j) i hi
  rw [show j + (m - j) = m by omega] at h1
  rw [show j + (N - j) = N by omega] at h2
  rw [h1, h2]
def finU (U : List Int) : Nat → Int → Bool
  | 0, i => decide (i < 0)
  | k + 1, i => decide (i < 0) || (match U[i.toNat]? with | some u => finU U k u | none => true)
def validU (U : List Int) : Prop := ∀ (j : Nat) (u : Int), U[j]? = some u → u = -2 ∨ u = -1 ∨ (0 ≤ u ∧ ∃ v, U[u.toNat]? = some v ∧ v ≠ -2)
theorem finU_neg (U : List Int) (k : Nat) {i : Int} (h : i < 0) : finU U k i = true := by
  cases k <;> simp [finU, h]
theorem finU_mono (U : List Int) : ∀ k i, finU U k i = true → finU U (k + 1) i = true
  | 0, i, h => by simp only [finU, decide_eq_true_eq] at h; exact finU_neg U 1 h
  | k + 1, i, h => by
    rw [finU] at h ⊢
    rw [Bool.or_eq_true] at h ⊢
    rcases h with h | h
    · exact .inl h
    · refine .inr ?_
      cases hu : U[i.toNat]? with
      | none => rfl
      | some u => rw [hu] at h; exact finU_mono U k u h
theorem finU_rest {U : List Int} (hv : validU U) : ∀ m i, i < U.length → U.length ≤ m → finU U m (i : Int) = finU U U.length (i : Int) := by
  refine grow_rest (P := fun k i => finU U k (i : Int)) (fun k i _ h => finU_mono U k i h) fun k h i hi => ?_
  show (decide ((i : Int) < 0) || _) = (decide ((i : Int) < 0) || _)
  simp only [Int.toNat_natCast, List.getElem?_eq_getElem hi]
  congr 1
  rcases hv i _ (List.getElem?_eq_getElem hi) with e | e | ⟨h0, v, hv', _⟩
  · rw [finU_neg U (k + 1) (by omega), finU_neg U k (by omega)]
  · rw [finU_neg U (k + 1) (by omega), finU_neg U k (by omega)]
  · have := h U[i].toNat (List.getElem?_eq_some_iff.1 hv').1
    rw [show ((U[i].toNat : Nat) : Int) = U[i] by omega] at this
    exact this
theorem validU_of {U : List Int} (h : U.all (upOK U) = true) : validU U := by
  intro j u hu
  have := List.all_eq_true.1 h u (List.mem_of_getElem? hu)
  unfold upOK at this
  by_cases h2 : u = -2
  · exact .inl h2
  · by_cases h1 : u = -1
    · exact .inr (.inl h1)
    · have e2 : (u != -2) = true := by simpa using h2
      have e1 : (u != -1) = true := by simpa using h1
      rw [e2, e1] at this
      simp only [cond_true] at this
      unfold isM at this
      simp only [Bool.and_eq_true, decide_eq_true_eq] at this
      obtain ⟨h3, h4, h5⟩ := this
      obtain ⟨v, hv⟩ : ∃ v, U[u.toNat]? = some v := ⟨_, List.getElem?_eq_getElem (by omega)⟩
      rw [hv] at h5
      exact .inr (.inr ⟨h3, v, hv, by simpa using h5⟩)
theorem chainF_eq {U : List Int} (hv : validU U) : ∀ (f s : Nat) (at' : Int), s + f = U.length + 3 → s ≤ U.length + 1 → (at' < 0 ∨ ∃ v, U[at'.toNat]? = some v ∧ v ≠ -2) → chainF U f (s : Int) at' = finU U (U.length + 1 - s) at'
  | 0, s, _, h, h1, _ => by omega
  | f + 1, s, at', h, h1, ha => by
    unfold chainF
    rcases ha with ha | ⟨v, hv', hne⟩
    · have : isM U at' = false := by unfold isM; have : decide (at' ≥ 0) = false := by simp; omega
                                     rw [this]; rfl
      rw [this, finU_neg U _ ha]; rfl
    · by_cases hn : at' < 0
      · have : isM U at' = false := by unfold isM; have : decide (at' ≥ 0) = false := by simp; omega
                                       rw [this]; rfl
        rw [this, finU_neg U _ hn]; rfl
      have hlt := (List.getElem?_eq_some_iff.1 hv').1
      have : isM U at' = true := by
        unfold isM
        rw [hv']
        have e1 : decide (at' ≥ 0) = true := by simp; omega
        have e2 : decide (at' < (U.length : Int)) = true := by simp; omega
        rw [e1, e2]
        simpa using hne
      rw [this]
      simp only [cond_true]
      by_cases hs : s = U.length + 1
      · subst hs
        have e : decide ((((U.length + 1 : Nat)) : Int) > (U.length : Int)) = true := by
          simp only [decide_eq_true_eq]; omega
        rw [e, Nat.sub_self]
        simp [finU, hn]
      · have e : decide (((s : Nat) : Int) > (U.length : Int)) = false := by
          simp only [decide_eq_false_iff_not]; omega
        rw [e]
        simp only [cond_false, hv']
        have ih := chainF_eq hv f (s + 1) v (by omega) (by omega) (by
          rcases hv _ _ hv' with e | e | ⟨h0, w, hw, hw2⟩
          · exact absurd e hne
          · exact .inl (by omega)
          · exact .inr ⟨w, hw, hw2⟩)
        rw [show ((s : Int) + 1) = ((s + 1 : Nat) : Int) by omega, ih, show U.length + 1 - s = (U.length - s) + 1 by omega, finU, hv']
        rw [show U.length + 1 - (s + 1) = U.length - s by omega]
        simp [hn]
def finAll (U : List Int) : Bool := (List.range U.length).all fun i => finU U U.length (i : Int)
theorem forestGood_iff (U : List Int) : forestGood U = (decide (U.length ≤ 96) && (U.all (upOK U) && finAll U)) := by
  unfold forestGood
  by_cases h : ((U.length : Nat) : Int) > 96
  · have e : decide (U.length ≤ 96) = false := by simp; omega
    simp [h, e]
  · have e : decide (U.length ≤ 96) = true := by simp; omega
    simp only [h, decide_false, cond_false, e, Bool.true_and]
    cases hu : U.all (upOK U)
    · rfl
    · have hv := validU_of hu
      simp only [Bool.true_and]
      unfold finAll
      rw [Bool.eq_iff_iff]
      simp only [List.all_eq_true, List.mem_range]
      have key : ∀ i, i < U.length → chainF U (U.length + 3) 0 (i : Int) = finU U U.length (i : Int) := by
        intro i hi
        by_cases hne : U[i] = -2
        · -- nothing is there
          have h1 : isM U (i : Int) = false := by
            unfold isM
            simp [List.getElem?_eq_getElem hi, hne]
          rw [chainF, h1]
          obtain ⟨m, hm⟩ : ∃ m, U.length = m + 1 := ⟨U.length - 1, by omega⟩
          rw [hm, finU]
          simp only [Int.toNat_natCast, List.getElem?_eq_getElem hi, hne]
          rw [finU_neg U m (by omega)]
          simp
        · have := chainF_eq hv (U.length + 3) 0 (i : Int) (by omega) (by omega) (.inr ⟨U[i], by simp [List.getElem?_eq_getElem hi], hne⟩)
          rw [show ((0 : Nat) : Int) = 0 from rfl] at this
          rw [this, Nat.sub_zero]
          exact finU_rest hv (U.length + 1) i hi (by omega)
      constructor
      · intro h i hi; rw [← key i hi]; exact h i hi
      · intro h i hi; rw [key i hi]; exact h i hi
end Go.Rv
namespace Go.Rv
theorem mark_some {base : Int} (hb : 0 ≤ base) : ∀ (d j : Nat) {H H' : List Bool}, markM base H j d = some H' →
    (∀ k, j ≤ k → k < j + d → H[base.toNat + k]? = some false) ∧ ∀ q, H'[q]? = if base.toNat + j ≤ q ∧ q < base.toNat + j + d then some true else H[q]?
  | 0, j, H, H', h => by
    simp only [markM, Option.some.injEq] at h
    subst h
    refine ⟨fun k h1 h2 => by omega, fun q => ?_⟩
    rw [if_neg (by omega)]
  | d + 1, j, H, H', h => by
    simp only [markM] at h
    rw [show (base + (j : Int)).toNat = base.toNat + j by omega] at h
    split at h
    · rename_i hf
      obtain ⟨h1, h2⟩ := mark_some hb d (j + 1) h
      refine ⟨fun k hk hk2 => ?_, fun q => ?_⟩
      · by_cases e : k = j
        · subst e; exact hf
        · have := h1 k (by omega) (by omega)
          rw [List.getElem?_set, if_neg (by omega)] at this
          exact this
      · rw [h2 q, List.getElem?_set]
        have hl := (List.getElem?_eq_some_iff.1 hf).1
        by_cases e : base.toNat + j = q
        · subst e
          rw [if_neg (by omega), if_pos rfl, if_pos hl, if_pos (by omega)]
        · by_cases h3 : base.toNat + (j + 1) ≤ q ∧ q < base.toNat + (j + 1) + d
          · rw [if_pos h3, if_pos (by omega)]
          · rw [if_neg h3, if_neg e, if_neg (by omega)]
    · cases h
theorem mark_ex {base : Int} (hb : 0 ≤ base) : ∀ (d j : Nat) {H : List Bool}, (∀ k, j ≤ k → k < j + d → H[base.toNat + k]? = some false) → ∃ H', markM base H j d = some H'
  | 0, j, H, _ => ⟨H, rfl⟩
  | d + 1, j, H, h => by
    simp only [markM]
    rw [show (base + (j : Int)).toNat = base.toNat + j by omega, h j (Nat.le_refl _) (by omega)]
    refine mark_ex hb d (j + 1) fun k hk hk2 => ?_
    rw [List.getElem?_set, if_neg (by omega)]
    exact h k (by omega) (by omega)
theorem has_iff {t : Thing} (ht : thingGood t = true) (q : Nat) : hasM t (q : Int) = true ↔ t.ty = 2 ∧ ∃ k, k < 2 ^ t.bits.toNat ∧ q = t.base.toNat + k := by
  unfold hasM
  by_cases h2 : t.ty = 2
  · obtain ⟨hb, h0, h1⟩ := thingGood_node ht h2
    have hp : ((2 : Int) ^ t.bits.toNat) = ((2 ^ t.bits.toNat : Nat) : Int) := by simp
    rw [hp]
    simp only [h2, Bool.and_eq_true, decide_eq_true_eq, beq_iff_eq, true_and]
    constructor
    · intro ⟨h3, h4⟩
      exact ⟨q - t.base.toNat, by omega, by omega⟩
    · rintro ⟨k, h3, rfl⟩
      omega
  · simp [h2]
def Cover (T : List Thing) (i d q : Nat) : Prop := ∃ (j : Nat) (t : Thing), i ≤ j ∧ j < i + d ∧ T[j]? = some t ∧ hasM t (q : Int) = true
theorem nodesF_some {T : List Thing} (hg : allGood T = true) : ∀ (d i : Nat) {H H' : List Bool}, i + d ≤ T.length → nodesF T H i d = some H' →
    (∀ (j : Nat) (t : Thing) (q : Nat), i ≤ j → j < i + d → T[j]? = some t → hasM t (q : Int) = true → H[q]? = some false) ∧
    (∀ (j k : Nat) (t u : Thing) (q : Nat), i ≤ j → j < k → k < i + d → T[j]? = some t → T[k]? = some u → hasM t (q : Int) = true → hasM u (q : Int) = true → False) ∧
    ∀ q, H'[q]? = some true ↔ H[q]? = some true ∨ Cover T i d q
  | 0, i, H, H', hi, h => by
    simp only [nodesF, Option.some.injEq] at h
    subst h
    refine ⟨fun j t q h1 h2 => by omega, fun j k t u q h1 h2 h3 => by omega, fun q => ⟨.inl, fun h => ?_⟩⟩
    rcases h with h | ⟨j, t, h1, h2, _⟩
    · exact h
    · omega
  | d + 1, i, H, H', hi, h => by
    have hlt : i < T.length := by omega
    simp only [nodesF, List.getElem?_eq_getElem hlt] at h
    have ht := List.all_eq_true.1 hg _ (List.getElem_mem hlt)
    by_cases h2 : T[i].ty = 2
    · have e2 : (T[i].ty != 2) = false := by simp [h2]
      rw [e2] at h
      simp only [cond_false] at h
      obtain ⟨hb, h0, _⟩ := thingGood_node ht h2
      split at h
      case h_2 => cases h
      rename_i H1 hm
      obtain ⟨m1, m2⟩ := mark_some h0 _ _ hm
      obtain ⟨n1, n2, n3⟩ := nodesF_some hg d (i + 1) (by omega) h
      have hcov : ∀ q : Nat, hasM T[i] (q : Int) = true ↔ (T[i].base.toNat + 0 ≤ q ∧ q < T[i].base.toNat + 0 + 2 ^ T[i].bits.toNat) := by
        intro q
        rw [has_iff ht]
        constructor
        · rintro ⟨_, k, hk, rfl⟩; omega
        · intro ⟨h3, h4⟩; exact ⟨h2, q - T[i].base.toNat, by omega, by omega⟩
      refine ⟨fun j t q hj hj2 hT hq => ?_, fun j k t u q hj hjk hk hT hU hq1 hq2 => ?_, fun q => ?_⟩
      · by_cases e : j = i
        · subst e
          rw [List.getElem?_eq_getElem hlt] at hT; cases hT
          obtain ⟨_, k, hk, rfl⟩ := (has_iff ht q).1 hq
          exact m1 k (by omega) (by omega)
        · have := n1 j t q (by omega) (by omega) hT hq
          rw [m2] at this
          split at this
          · cases this
          · exact this
      · by_cases e : j = i
        · subst e
          rw [List.getElem?_eq_getElem hlt] at hT; cases hT
          have := n1 k u q (by omega) (by omega) hU hq2
          rw [m2, if_pos ((hcov q).1 hq1)] at this
          cases this
        · exact n2 j k t u q (by omega) hjk (by omega) hT hU hq1 hq2
      · rw [n3 q, m2 q]
        constructor
        · rintro (h3 | ⟨j, t, h3, h4, h5, h6⟩)
          · split at h3
            · rename_i h4
              exact .inr ⟨i, T[i], Nat.le_refl _, by omega, List.getElem?_eq_getElem hlt, (hcov q).2 h4⟩
            · exact .inl h3
          · exact .inr ⟨j, t, by omega, by omega, h5, h6⟩
        · rintro (h3 | ⟨j, t, h3, h4, h5, h6⟩)
          · refine .inl ?_
            split
            · rfl
            · exact h3
          · by_cases e : j = i
            · subst e
              rw [List.getElem?_eq_getElem hlt] at h5; cases h5
              exact .inl (by rw [if_pos ((hcov q).1 h6)])
            · exact .inr ⟨j, t, by omega, by omega, h5, h6⟩
    · have e2 : (T[i].ty != 2) = true := by simpa using h2
      rw [e2] at h
      simp only [cond_true] at h
      obtain ⟨n1, n2, n3⟩ := nodesF_some hg d (i + 1) (by omega) h
      have hno : ∀ q : Nat, ¬ hasM T[i] (q : Int) = true := fun q hq => h2 ((has_iff ht q).1 hq).1
      refine ⟨fun j t q hj hj2 hT hq => ?_, fun j k t u q hj hjk hk hT hU hq1 hq2 => ?_, fun q => ?_⟩
      · by_cases e : j = i
        · subst e
          rw [List.getElem?_eq_getElem hlt] at hT; cases hT
          exact absurd hq (hno q)
        · exact n1 j t q (by omega) (by omega) hT hq
      · by_cases e : j = i
        · subst e
          rw [List.getElem?_eq_getElem hlt] at hT; cases hT
          exact hno q hq1
        · exact n2 j k t u q (by omega) hjk (by omega) hT hU hq1 hq2
      · rw [n3 q]
        constructor
        · rintro (h3 | ⟨j, t, h3, h4, h5, h6⟩)
          · exact .inl h3
          · exact .inr ⟨j, t, by omega, by omega, h5, h6⟩
        · rintro (h3 | ⟨j, t, h3, h4, h5, h6⟩)
          · exact .inl h3
          · by_cases e : j = i
            · subst e
              rw [List.getElem?_eq_getElem hlt] at h5; cases h5
              exact absurd h6 (hno q)
            · exact .inr ⟨j, t, by omega, by omega, h5, h6⟩
theorem nodesF_ex {T : List Thing} (hg : allGood T = true) : ∀ (d i : Nat) {H : List Bool}, i + d ≤ T.length →
    (∀ (j : Nat) (t : Thing) (q : Nat), i ≤ j → j < i + d → T[j]? = some t → hasM t (q : Int) = true → H[q]? = some false) →
    (∀ (j k : Nat) (t u : Thing) (q : Nat), i ≤ j → j < k → k < i + d → T[j]? = some t → T[k]? = some u → hasM t (q : Int) = true → hasM u (q : Int) = true → False) → ∃ H', nodesF T H i d = some H'
  | 0, i, H, _, _, _ => ⟨H, rfl⟩
  | d + 1, i, H, hi, h1, h2 => by
    have hlt : i < T.length := by omega
    simp only [nodesF, List.getElem?_eq_getElem hlt]
    have ht := List.all_eq_true.1 hg _ (List.getElem_mem hlt)
    by_cases h3 : T[i].ty = 2
    · have e2 : (T[i].ty != 2) = false := by simp [h3]
      rw [e2]
      simp only [cond_false]
      obtain ⟨hb, h0, _⟩ := thingGood_node ht h3
      obtain ⟨H1, hm⟩ := mark_ex h0 (2 ^ T[i].bits.toNat) 0 (H := H) fun k _ hk => h1 i T[i] _ (Nat.le_refl _) (by omega) (List.getElem?_eq_getElem hlt) ((has_iff ht _).2 ⟨h3, k, by omega, rfl⟩)
      rw [hm]
      obtain ⟨m1, m2⟩ := mark_some h0 _ _ hm
      refine nodesF_ex hg d (i + 1) (by omega) (fun j t q hj hj2 hT hq => ?_) fun j k t u q hj hjk hk => h2 j k t u q (by omega) hjk (by omega)
      rw [m2]
      split
      · rename_i h4
        exact absurd (h2 i j T[i] t q (Nat.le_refl _) (by omega) (by omega) (List.getElem?_eq_getElem hlt) hT ((has_iff ht q).2 ⟨h3, q - T[i].base.toNat, by omega, by omega⟩) hq) id
      · exact h1 j t q (by omega) (by omega) hT hq
    · have e2 : (T[i].ty != 2) = true := by simpa using h3
      rw [e2]
      simp only [cond_true]
      exact nodesF_ex hg d (i + 1) (by omega) (fun j t q hj hj2 => h1 j t q (by omega) (by omega)) fun j k t u q hj hjk hk => h2 j k t u q (by omega) hjk (by omega)
theorem hasM_nonneg {t : Thing} (ht : thingGood t = true) {s : Int} (h : hasM t s = true) : 0 ≤ s := by
  unfold hasM at h
  simp only [Bool.and_eq_true, decide_eq_true_eq, beq_iff_eq] at h
  have := thingGood_node ht h.1
  omega
structure NodesP (S : List Slot) (T : List Thing) : Prop where
  inside : ∀ (t : Thing) (q : Nat), t ∈ T → hasM t (q : Int) = true → q < S.length
  apart : Apart T
  full : ∀ (i : Nat) (s : Slot), S[i]? = some s → capNone s.ty s.th s.ri s.ba = false → 0 ≤ ownerM T (i : Int)
theorem nodesM_iff {S : List Slot} {T : List Thing} (hg : allGood T = true) : nodesM S T = true ↔ NodesP S T := by
  have hrep : ∀ q : Nat, (List.replicate S.length false)[q]? = some false ↔ q < S.length := by
    intro q; rw [List.getElem?_replicate]; split <;> simp [*]
  have hrep2 : ∀ q : Nat, (List.replicate S.length false)[q]? ≠ some true := by
    intro q; rw [List.getElem?_replicate]; split <;> simp
  have ownc : ∀ q : Nat, Cover T 0 T.length q ↔ 0 ≤ ownerM T (q : Int) := by
    intro q
    rcases ownerM_spec T (q : Int) with ⟨h1, h2⟩ | ⟨j, t, h1, h2, h3⟩
    · rw [h1]
      constructor
      · rintro ⟨j, t, _, _, h3, h4⟩
        rw [h2 t (List.mem_of_getElem? h3)] at h4; cases h4
      · intro h; omega
    · rw [h1]
      have := (List.getElem?_eq_some_iff.1 h2).1
      exact ⟨fun _ => by omega, fun _ => ⟨j, t, by omega, by omega, h2, h3⟩⟩
  unfold nodesM
  constructor
  · intro h
    split at h
    case h_2 => cases h
    rename_i H hH
    obtain ⟨n1, n2, n3⟩ := nodesF_some hg T.length 0 (by omega) hH
    refine ⟨fun t q ht hq => ?_, fun j k t u s hT hU hq1 hq2 => ?_, fun i s hs hn => ?_⟩
    · obtain ⟨j, hj⟩ := List.mem_iff_getElem?.1 ht
      have := (List.getElem?_eq_some_iff.1 hj).1
      exact (hrep q).1 (n1 j t q (by omega) (by omega) hj hq)
    · have h0 := hasM_nonneg (List.all_eq_true.1 hg _ (List.mem_of_getElem? hT)) hq1
      obtain ⟨q, rfl⟩ : ∃ q : Nat, s = q := ⟨_, (Int.toNat_of_nonneg h0).symm⟩
      have hj := (List.getElem?_eq_some_iff.1 hT).1
      have hk := (List.getElem?_eq_some_iff.1 hU).1
      rcases Nat.lt_trichotomy j k with h | h | h
      · exact absurd (n2 j k t u q (by omega) h (by omega) hT hU hq1 hq2) id
      · exact h
      · exact absurd (n2 k j u t q (by omega) h (by omega) hU hT hq2 hq1) id
    · have hi := (List.getElem?_eq_some_iff.1 hs).1
      have := List.all_eq_true.1 h i (List.mem_range.2 hi)
      have hl := nodesF_len _ hH
      have hi2 : i < H.length := by rw [hl]; simpa using hi
      simp only [List.getElem?_eq_getElem hi2, hs, hn, Bool.or_false] at this
      have h3 := (n3 i).1 (by rw [List.getElem?_eq_getElem hi2, this])
      rcases h3 with h3 | h3
      · exact absurd h3 (hrep2 i)
      · exact (ownc i).1 h3
  · intro ⟨p1, p2, p3⟩
    obtain ⟨H, hH⟩ := nodesF_ex hg T.length 0 (H := List.replicate S.length false) (by omega) (fun j t q _ _ hT hq => (hrep q).2 (p1 t q (List.mem_of_getElem? hT) hq)) fun j k t u q _ hjk _ hT hU hq1 hq2 => by
      have := p2 j k t u _ hT hU hq1 hq2
      omega
    rw [hH]
    obtain ⟨n1, n2, n3⟩ := nodesF_some hg T.length 0 (by omega) hH
    have hl := nodesF_len _ hH
    refine List.all_eq_true.2 fun i hi => ?_
    have hi' := List.mem_range.1 hi
    have hi2 : i < H.length := by rw [hl]; simpa using hi'
    simp only [List.getElem?_eq_getElem hi2, List.getElem?_eq_getElem hi']
    cases hn : capNone S[i].ty S[i].th S[i].ri S[i].ba
    · have := (n3 i).2 (.inr ((ownc i).2 (p3 i _ (List.getElem?_eq_getElem hi') hn)))
      rw [List.getElem?_eq_getElem hi2, Option.some.injEq] at this
      rw [this]; rfl
    · simp
end Go.Rv
namespace Go.Rv
section
variable {ρ : Type} (n : Nat)
def stepIn (s : Int) : Bool := inM s 0 15
def pathGood (L : List Int) : Bool := decide (1 ≤ L.length) && (decide (L.length ≤ 3) && L.all stepIn)
theorem Q9_1_eq (s : Int) (K : Bool → Option ρ) : Q9_1 n ρ s K = K (!stepIn s) := by
  show Q9_1_s _ n s K = _
  unfold Q9_1_s stepIn inM
  by_cases h1 : s < 0
  · have : decide (s ≥ 0) = false := by simp; omega
    simp [h1, this]
  · have e1 : decide (s ≥ 0) = true := by simp; omega
    by_cases h2 : s > 15
    · have : decide (s ≤ 15) = false := by simp; omega
      simp [h1, h2, this]
    · have : decide (s ≤ 15) = true := by simp; omega
      simp [h1, h2, e1, this]
theorem contains_eq (x y : Bool) (L : List Int) (hL : L.length < 1000000) (hn : L.length < n) (K : Bool → Option ρ) : Q05 n ρ x y (encI L) K = K (!L.all stepIn) := by
  show Q05_s (Q05_g n) n x y (encI L) K = _
  unfold Q05_s
  show Qd_s (Qd_g n) n x y (encI L) _ = _
  unfold Qd_s Qd_l2
  rw [encI_len]
  have key : ∀ (d i m : Nat), i + d = L.length → d < m → fuelN (Qd_l2_s (Qd_g n) n x y (encI L) ((L.length : Nat) : Int) (fun w0_0 => bif decide (w0_0 ≥ 0) then K true else K false) (bif decide ((-1 : Int) ≥ 0) then K true else K false)) m (i : Int) = K (!(L.drop i).all stepIn) := by
    intro d
    induction d with
    | zero =>
      intro i m h hm
      obtain ⟨m, rfl⟩ : ∃ k, m = k + 1 := ⟨m - 1, by omega⟩
      rw [fuelN_succ]
      generalize fuelN _ m = rec
      unfold Qd_l2_s
      simp only
      rw [show decide ((i : Int) < ((L.length : Nat) : Int)) = false by simp; omega, List.drop_eq_nil_of_le (by omega)]
      rfl
    | succ d ih =>
      intro i m h hm
      obtain ⟨m, rfl⟩ : ∃ k, m = k + 1 := ⟨m - 1, by omega⟩
      have hi : i < L.length := by omega
      have ih := ih (i + 1) m (by omega) (by omega)
      rw [fuelN_succ]
      generalize fuelN _ m = rec at ih ⊢
      unfold Qd_l2_s
      simp only
      rw [show decide ((i : Int) < ((L.length : Nat) : Int)) = true by simp; omega, bif_t, rowT_I hi, wrap_id (by omega) (by omega), show ((i : Int) + 1) = ((i + 1 : Nat) : Int) by omega]
      simp only [Qd_g, Q9_1_eq]
      rw [ih, List.drop_eq_getElem_cons hi, List.all_cons]
      cases stepIn L[i]
      · rw [show decide ((i : Int) ≥ 0) = true by simp]; rfl
      · rfl
  exact key L.length 0 n (by omega) hn
theorem Q9_eq (x y : Bool) (L : List Int) (hL : L.length < 1000000) (hn : 100 ≤ n) (K : Bool → Option ρ) : Q9 n ρ x y (encI L) K = K (pathGood L) := by
  show Q9_s (Q9_g n) n x y (encI L) K = _
  unfold Q9_s pathGood
  rw [encI_len]
  by_cases h1 : 1 ≤ L.length
  · have e1 : decide (((L.length : Nat) : Int) ≥ 1) = true := by simp; omega
    have e1' : decide (1 ≤ L.length) = true := by simpa using h1
    rw [e1, e1', bif_t]
    by_cases h2 : L.length ≤ 3
    · have e2 : decide (((L.length : Nat) : Int) ≤ 3) = true := by simp; omega
      have e2' : decide (L.length ≤ 3) = true := by simpa using h2
      rw [e2, e2', bif_t]
      simp only [Q9_g, contains_eq n x y L hL (show L.length < n by omega), Bool.true_and]
      cases L.all stepIn <;> rfl
    · have e2 : decide (((L.length : Nat) : Int) ≤ 3) = false := by simp; omega
      have e2' : decide (L.length ≤ 3) = false := by simpa using h2
      rw [e2, e2']; rfl
  · have e1 : decide (((L.length : Nat) : Int) ≥ 1) = false := by simp; omega
    have e1' : decide (1 ≤ L.length) = false := by simpa using h1
    rw [e1, e1']; rfl
theorem find_in_eq (a l h : Int) (K : Bool → Option ρ) : find_in n ρ a l h K = K (inM a l h) := by
  show find_in_s _ n a l h K = _
  unfold find_in_s inM
  generalize decide (a ≥ l) = x
  generalize decide (a ≤ h) = y
  cases x <;> cases y <;> rfl
def stepM (t : Thing) (s : Int) : Int := bif decide (s ≥ 2 ^ t.bits.toNat) then -1 else t.base + s
theorem find_step_eq (t : Thing) (ht : thingGood t = true) (h2 : t.ty = 2) (s : Int) (hs : stepIn s = true) (K : Int → Option ρ) : find_step n ρ t.ty t.bits t.base t.size t.used t.fr t.badge t.full t.word t.d0 t.d1 t.d2 t.d3 s K = K (stepM t s) := by
  show find_step_s _ n t.ty t.bits t.base t.size t.used t.fr t.badge t.full t.word t.d0 t.d1 t.d2 t.d3 s K = _
  unfold find_step_s stepM
  obtain ⟨hb, h0, h1⟩ := thingGood_node ht h2
  unfold stepIn at hs
  rw [inM_iff] at hs
  rw [show decide (0 ≤ t.bits) = true by simp; omega, shl_id hb, chk_t]
  have hw : IntKind.wrap .i64 (t.base + s) = t.base + s := by
    rcases two_pow hb with e | e | e | e <;> rw [e] at h1 <;> exact wrap_id (by omega) (by omega)
  rw [hw]
  cases decide (s ≥ 2 ^ t.bits.toNat) <;> rfl
def throughM (S : List Slot) (T : List Thing) (at' : Int) : Option Thing := match S[at'.toNat]? with
  | some s => bif s.ty == 2 && lessR 1 s.ri == 0 then T[s.th.toNat]? else none
  | none => none
theorem Qz_eq (a b c : Int) (x y z w : Bool) (S : List Slot) (T : List Thing) (hc : S.all (capOK T) = true) (at' : Int) (h0 : 0 ≤ at') (h1 : at' < S.length)
    (K : Int → Int → Int → Int → Int → Int → Int → Bool → Int → Int → Int → Int → Int → Bool → Option ρ) : Qz n ρ a b c x y (encS S) z w (encT T) at' K =
      match throughM S T at' with
      | some t => K t.ty t.bits t.base t.size t.used t.fr t.badge t.full t.word t.d0 t.d1 t.d2 t.d3 true
      | none => K 0 0 0 0 0 0 0 false 0 0 0 0 0 false := by
  show Qz_s (Qz_g n) n a b c x y (encS S) z w (encT T) at' K = _
  obtain ⟨i, rfl⟩ : ∃ i : Nat, at' = i := ⟨_, (Int.toNat_of_nonneg h0).symm⟩
  have hi : i < S.length := by omega
  unfold Qz_s throughM
  rw [rowT_S hi]
  simp only [Qz_g, Qr_eq, Slot.c, Int.toNat_natCast, List.getElem?_eq_getElem hi]
  by_cases h2 : S[i].ty = 2
  · have e2 : (S[i].ty != 2) = false := by simp [h2]
    have e3 : (S[i].ty == 2) = true := by simp [h2]
    rw [e2, e3, bif_f, Bool.true_and]
    cases lessR 1 S[i].ri == 0
    · rfl
    · have hcap := List.all_eq_true.1 hc _ (List.getElem_mem hi)
      unfold capOK at hcap
      have hnn : capNone S[i].ty S[i].th S[i].ri S[i].ba = false := by unfold capNone; simp [h2]
      rw [hnn] at hcap
      simp only [cond_false, Bool.and_eq_true] at hcap
      obtain ⟨h3, h4⟩ := thereM_iff hcap.2.2.1
      obtain ⟨k, hk⟩ : ∃ k : Nat, S[i].th = k := ⟨_, (Int.toNat_of_nonneg h3).symm⟩
      have hk' : k < T.length := by omega
      rw [bif_t, hk, rowT_T hk']
      simp [List.getElem?_eq_getElem hk', Thing.c]
  · have e2 : (S[i].ty != 2) = true := by simpa using h2
    have e3 : (S[i].ty == 2) = false := by simpa using h2
    rw [e2, e3]; rfl
end
end Go.Rv
namespace Go.Rv
def walkF (S : List Slot) (T : List Thing) (L : List Int) : Nat → Nat → Int → Thing → Option Int
  | 0, _, at', _ => some at'
  | d + 1, i, at', t => match (bif decide (0 < i) then throughM S T at' else some t) with
    | none => none
    | some u => bif decide (stepM u (L[i]?.getD 0) < 0) then none else walkF S T L d (i + 1) (stepM u (L[i]?.getD 0)) u
theorem GoodS.nodesP {a b c : Int} {S : List Slot} {T : List Thing} (h : GoodS a b c S T) : NodesP S T := (nodesM_iff (allGood_of h.thingsOK)).1 h.nodes
theorem GoodS.len {a b c : Int} {S : List Slot} {T : List Thing} (h : GoodS a b c S T) : (1 ≤ a ∧ a ≤ 4) ∧ 8 * a ≤ S.length ∧ S.length ≤ 96 ∧ a + 2 ≤ T.length ∧ T.length ≤ 48 := by
  obtain ⟨h1, h2, _, h3⟩ := geoGood_thr h.geo
  have := h.slots
  have := h.things
  omega
theorem GoodS.root {a b c : Int} {S : List Slot} {T : List Thing} (h : GoodS a b c S T) {t : Nat} (ht : (t : Int) < a) : ∃ r, T[2 + t]? = some r ∧ r = ⟨2, 3, 8 * (t : Int), 0, 0, 0, 0, false, 0, 0, 0, 0, 0⟩ := by
  have hl := h.len
  have hi : 2 + t < T.length := by omega
  refine ⟨T[2 + t], List.getElem?_eq_getElem hi, ?_⟩
  have := List.all_eq_true.1 h.thingsOK (2 + t) (List.mem_range.2 hi)
  simp only [List.getElem?_eq_getElem hi, thingOK, Bool.and_eq_true] at this
  have h3 := this.2.2
  have e1 : decide (((2 + t : Nat) : Int) ≥ 2) = true := by simp only [decide_eq_true_eq]; omega
  have e2 : decide (((2 + t : Nat) : Int) < 2 + a) = true := by simp only [decide_eq_true_eq]; omega
  rw [e1, e2] at h3
  simp only [Bool.and_self, cond_true, rootEq, Bool.and_eq_true, beq_iff_eq] at h3
  have e3 : 8 * (((2 + t : Nat) : Int) - 2) = 8 * (t : Int) := by omega
  rw [e3] at h3
  generalize T[2 + t] = r at h3 ⊢
  obtain ⟨x1, x2, x3, x4, x5, x6, x7, x8, x9, y1, y2, y3, y4⟩ := r
  simp only [and_true] at h3
  obtain ⟨rfl, rfl, rfl, rfl, rfl, rfl, rfl, rfl, rfl, rfl, rfl, rfl, rfl⟩ := h3
  rfl
theorem GoodS.thing {a b c : Int} {S : List Slot} {T : List Thing} (h : GoodS a b c S T) {t : Thing} (ht : t ∈ T) : thingGood t = true := List.all_eq_true.1 (allGood_of h.thingsOK) t ht
theorem GoodS.through {a b c : Int} {S : List Slot} {T : List Thing} (h : GoodS a b c S T) {at' : Int} {t : Thing} (ht : throughM S T at' = some t) : t ∈ T ∧ t.ty = 2 := by
  unfold throughM at ht
  split at ht
  · rename_i s hs
    cases hc : (s.ty == 2 && lessR 1 s.ri == 0)
    · rw [hc] at ht; cases ht
    · rw [hc] at ht
      simp only [cond_true] at ht
      simp only [Bool.and_eq_true, beq_iff_eq] at hc
      refine ⟨List.mem_of_getElem? ht, ?_⟩
      have hcap := List.all_eq_true.1 h.caps _ (List.mem_of_getElem? hs)
      unfold capOK at hcap
      have hnn : capNone s.ty s.th s.ri s.ba = false := by unfold capNone; simp [hc.1]
      rw [hnn, ht] at hcap
      simp only [cond_false, Bool.and_eq_true, beq_iff_eq] at hcap
      rw [hcap.2.2.2, hc.1]
  · cases ht
theorem GoodS.step {a b c : Int} {S : List Slot} {T : List Thing} (h : GoodS a b c S T) {t : Thing} (ht : t ∈ T) (h2 : t.ty = 2) {s : Int} (hs : stepIn s = true) (h0 : ¬ stepM t s < 0) : 0 ≤ stepM t s ∧ stepM t s < S.length ∧ hasM t (stepM t s) = true := by
  have hg := h.thing ht
  obtain ⟨hb, hb0, hb1⟩ := thingGood_node hg h2
  unfold stepIn at hs
  rw [inM_iff] at hs
  unfold stepM at h0 ⊢
  cases hd : decide (s ≥ 2 ^ t.bits.toNat)
  · rw [hd] at h0
    simp only [cond_false] at h0 ⊢
    simp only [decide_eq_false_iff_not] at hd
    have hm : hasM t (t.base + s) = true := by
      unfold hasM
      have hp : (2 : Int) ^ t.bits.toNat > 0 := by rcases two_pow hb with e | e | e | e <;> rw [e] <;> omega
      simp only [h2, beq_self_eq_true, Bool.true_and, Bool.and_eq_true, decide_eq_true_eq]
      omega
    refine ⟨by omega, ?_, hm⟩
    have := h.nodesP.inside t (t.base + s).toNat ht (by rw [show (((t.base + s).toNat : Nat) : Int) = t.base + s by omega]; exact hm)
    omega
  · rw [hd] at h0
    simp at h0
section
variable {ρ : Type} (n : Nat) (a b c : Int) (x y z w : Bool) (S : List Slot) (T : List Thing)
theorem Slot_loop (good : GoodS a b c S T) (p q : Bool) (L : List Int) (hL : L.all stepIn = true) (hl : L.length < 1000000) (p13 p14 : Bool) (p15 : Rows) (kf : Option ρ) (ks : Int → Option ρ) :
    ∀ (d i m : Nat) (at' : Int) (t : Thing), i + d = L.length → d < m → (i = 0 ∧ t ∈ T ∧ t.ty = 2 ∨ 0 < i ∧ 0 ≤ at' ∧ at' < S.length) →
      fuelN (Q8_l6_s (Q8_g n) n p q (encI L) ((L.length : Nat) : Int) a b c x y (encS S) z w (encT T) p13 p14 p15 (fun _ _ _ _ _ _ _ _ _ _ _ _ _ _ => kf) (fun v _ _ _ _ _ _ _ _ _ _ _ _ _ => ks v) (fun _ _ _ _ _ _ _ _ _ _ _ _ _ => kf)) m
        (at', (i : Int), t.ty, t.bits, t.base, t.size, t.used, t.fr, t.badge, t.full, t.word, t.d0, t.d1, t.d2, t.d3) =
      match walkF S T L d i at' t with | some v => ks v | none => kf := by
  intro d
  induction d with
  | zero =>
    intro i m at' t h hm _
    obtain ⟨m, rfl⟩ : ∃ k, m = k + 1 := ⟨m - 1, by omega⟩
    rw [fuelN_succ]
    generalize fuelN _ m = rec
    unfold Q8_l6_s
    simp only
    rw [show decide ((i : Int) < ((L.length : Nat) : Int)) = false by simp; omega]
    rfl
  | succ d ih =>
    intro i m at' t h hm hinv
    obtain ⟨m, rfl⟩ : ∃ k, m = k + 1 := ⟨m - 1, by omega⟩
    have hi : i < L.length := by omega
    have hs := List.all_eq_true.1 hL _ (List.getElem_mem hi)
    have ih := fun at' t h0 => ih (i + 1) m at' t (by omega) (by omega) h0
    rw [fuelN_succ]
    generalize fuelN _ m = rec at ih ⊢
    unfold Q8_l6_s walkF
    simp only
    rw [show decide ((i : Int) < ((L.length : Nat) : Int)) = true by simp; omega, bif_t, rowT_I hi, wrap_id (by omega) (by omega), show ((i : Int) + 1) = ((i + 1 : Nat) : Int) by omega, List.getElem?_eq_getElem hi]
    simp only [Option.getD_some]
    rcases hinv with ⟨rfl, h1, h2⟩ | ⟨h0, h1, h2⟩
    · rw [show decide (((0 : Nat) : Int) > 0) = false by simp, bif_f]
      simp only [Q8_g, find_step_eq n t (good.thing h1) h2 _ hs, Nat.lt_irrefl, decide_false, cond_false]
      by_cases hneg : stepM t L[0] < 0
      · rw [decide_eq_true hneg]; rfl
      · rw [decide_eq_false hneg, bif_f]
        simp only [cond_false]
        obtain ⟨g1, g2, _⟩ := good.step h1 h2 hs hneg
        exact ih (stepM t L[0]) t (.inr ⟨by omega, g1, g2⟩)
    · rw [show decide ((i : Int) > 0) = true by simp; omega, bif_t, show decide (0 < i) = true by simpa using h0]
      simp only [Q8_g, Qz_eq n a b c x y z w S T good.caps at' h1 h2, cond_true]
      cases ht : throughM S T at' with
      | none => rfl
      | some u =>
        obtain ⟨g1, g2⟩ := good.through ht
        simp only [find_step_eq n u (good.thing g1) g2 _ hs]
        by_cases hneg : stepM u L[i] < 0
        · rw [decide_eq_true hneg]; rfl
        · rw [decide_eq_false hneg, bif_f]
          simp only [cond_false]
          obtain ⟨g3, g4, _⟩ := good.step g1 g2 hs hneg
          exact ih (stepM u L[i]) u (.inr ⟨by omega, g3, g4⟩)
noncomputable def slotR (a b c : Int) (S : List Slot) (T : List Thing) (th : Int) (L : List Int) : Int × Int :=
  bif goodB a b c S T && (inM th 0 (a - 1) && pathGood L) then
    (match walkF S T L L.length 0 0 (T[(2 + th).toNat]?.getD ⟨0, 0, 0, 0, 0, 0, 0, false, 0, 0, 0, 0, 0⟩) with | some v => (v, 0) | none => (0, 3))
  else (0, 1)
theorem pathGood_len {L : List Int} (h : pathGood L = true) : 1 ≤ L.length ∧ L.length ≤ 3 ∧ L.all stepIn = true := by
  unfold pathGood at h
  simp only [Bool.and_eq_true, decide_eq_true_eq] at h
  exact h
theorem Q8_eq (hn : 200 ≤ n) (th : Int) (p q : Bool) (L : List Int) (hL : L.length < 1000000) (K : Int → Int → Option ρ) :
    Q8 n ρ a b c x y (encS S) z w (encT T) th p q (encI L) K = K (slotR a b c S T th L).1 (slotR a b c S T th L).2 := by
  show Q8_s (Q8_g n) n a b c x y (encS S) z w (encT T) th p q (encI L) K = _
  unfold Q8_s slotR
  simp only [Q8_g, good_eq n a b c x y z w S T hn]
  cases hg : goodB a b c S T
  · rfl
  have good := goodB_iff.1 hg
  have hlen := good.len
  rw [wrap_id (n := a - 1) (by omega) (by omega)]
  simp only [bif_t, find_in_eq, Bool.true_and]
  cases hi : inM th 0 (a - 1)
  · rfl
  rw [inM_iff] at hi
  simp only [bif_t, Q9_eq n p q L hL (show 100 ≤ n by omega), Bool.true_and]
  cases hp : pathGood L
  · rfl
  obtain ⟨h1, h2, h3⟩ := pathGood_len hp
  obtain ⟨k, rfl⟩ : ∃ k : Nat, th = k := ⟨_, (Int.toNat_of_nonneg hi.1).symm⟩
  obtain ⟨r, hr, hr2⟩ := good.root (t := k) (by omega)
  have hk : 2 + k < T.length := (List.getElem?_eq_some_iff.1 hr).1
  have hk2 : T[2 + k] = r := by rw [List.getElem?_eq_getElem hk] at hr; exact Option.some.inj hr
  rw [wrap_id (n := 2 + (k : Int)) (by omega) (by omega), show (2 + (k : Int)) = ((2 + k : Nat) : Int) by omega]
  simp only [cond_true]
  rw [rowT_T hk]
  unfold Q8_l6
  rw [encI_len]
  have := Slot_loop n a b c x y z w S T good p q L h3 hL p q (encI L) (K 0 3) (fun v => K v 0) L.length 0 n 0 T[2 + k] (by omega) (by omega) (.inl ⟨rfl, List.getElem_mem hk, by rw [hk2, hr2]⟩)
  rw [show ((0 : Nat) : Int) = 0 from rfl] at this
  refine Eq.trans this ?_
  rw [show (((2 + k : Nat) : Int)).toNat = 2 + k by omega, List.getElem?_eq_getElem hk, Option.getD_some]
  cases walkF S T L L.length 0 0 T[2 + k] <;> rfl
theorem walkF_in {a b c : Int} {S : List Slot} {T : List Thing} (good : GoodS a b c S T) {L : List Int} (hL : L.all stepIn = true) : ∀ (d i : Nat) (at' : Int) (t : Thing) {v : Int}, i + d = L.length → (i = 0 ∧ 0 < d ∧ t ∈ T ∧ t.ty = 2 ∨ 0 < i ∧ 0 ≤ at' ∧ at' < S.length ∧ ∃ u ∈ T, hasM u at' = true) → walkF S T L d i at' t = some v → 0 ≤ v ∧ v < S.length ∧ ∃ u ∈ T, hasM u v = true
  | 0, i, at', t, v, _, h, e => by
    simp only [walkF, Option.some.injEq] at e
    subst e
    rcases h with ⟨_, h, _⟩ | ⟨_, h⟩
    · omega
    · exact h
  | d + 1, i, at', t, v, hlen, h, e => by
    have hi : i < L.length := by omega
    have hs := List.all_eq_true.1 hL _ (List.getElem_mem hi)
    unfold walkF at e
    rw [List.getElem?_eq_getElem hi] at e
    simp only [Option.getD_some] at e
    split at e
    · cases e
    · rename_i u hu
      have hut : u ∈ T ∧ u.ty = 2 := by
        rcases h with ⟨rfl, _, h1, h2⟩ | ⟨h0, _⟩
        · simp at hu; subst hu; exact ⟨h1, h2⟩
        · rw [show decide (0 < i) = true by simpa using h0] at hu
          exact good.through hu
      by_cases hneg : stepM u L[i] < 0
      · rw [decide_eq_true hneg] at e; cases e
      · rw [decide_eq_false hneg] at e
        obtain ⟨g1, g2, g3⟩ := good.step hut.1 hut.2 hs hneg
        exact walkF_in good hL d (i + 1) _ u (by omega) (.inr ⟨by omega, g1, g2, u, hut.1, g3⟩) e
theorem slotR_in {a b c : Int} {S : List Slot} {T : List Thing} {th : Int} {L : List Int} (h : (slotR a b c S T th L).2 = 0) : GoodS a b c S T ∧ (0 ≤ th ∧ th < a) ∧ pathGood L = true ∧ 0 ≤ (slotR a b c S T th L).1 ∧ (slotR a b c S T th L).1 < S.length ∧ ∃ u ∈ T, hasM u (slotR a b c S T th L).1 = true := by
  unfold slotR at h ⊢
  cases hc : (goodB a b c S T && (inM th 0 (a - 1) && pathGood L))
  · rw [hc] at h; simp at h
  · rw [hc] at h
    simp only [cond_true] at h ⊢
    simp only [Bool.and_eq_true, goodB_iff, inM_iff] at hc
    obtain ⟨good, hi, hp⟩ := hc
    obtain ⟨h1, h2, h3⟩ := pathGood_len hp
    obtain ⟨k, rfl⟩ : ∃ k : Nat, th = k := ⟨_, (Int.toNat_of_nonneg hi.1).symm⟩
    obtain ⟨r, hr, hr2⟩ := good.root (t := k) (by omega)
    rw [show (2 + (k : Int)).toNat = 2 + k by omega, hr, Option.getD_some] at h ⊢
    cases hw : walkF S T L L.length 0 0 r with
    | none => rw [hw] at h; simp at h
    | some v => exact ⟨good, ⟨by omega, by omega⟩, hp, walkF_in good h3 L.length 0 0 r (by omega) (.inl ⟨rfl, by omega, List.mem_of_getElem? hr, by rw [hr2]⟩) hw⟩
noncomputable def findR (a b c : Int) (S : List Slot) (T : List Thing) (th : Int) (L : List Int) : Int × Slot × Int :=
  bif (slotR a b c S T th L).2 != 0 then (0, ⟨0, 0, 0, 0, 0⟩, (slotR a b c S T th L).2)
  else match S[(slotR a b c S T th L).1.toNat]? with
    | some s => bif capNone s.ty s.th s.ri s.ba then (0, ⟨0, 0, 0, 0, 0⟩, 4) else ((slotR a b c S T th L).1, s, 0)
    | none => (0, ⟨0, 0, 0, 0, 0⟩, 4)
theorem Qt_eq (hn : 200 ≤ n) (th : Int) (p q : Bool) (L : List Int) (hL : L.length < 1000000) (K : Int → Int → Int → Int → Int → Int → Option ρ) :
    Qt n ρ a b c x y (encS S) z w (encT T) th p q (encI L) K = K (findR a b c S T th L).1 (findR a b c S T th L).2.1.ty (findR a b c S T th L).2.1.th (findR a b c S T th L).2.1.ri (findR a b c S T th L).2.1.ba (findR a b c S T th L).2.2 := by
  show Qt_s (Qt_g n) n a b c x y (encS S) z w (encT T) th p q (encI L) K = _
  unfold Qt_s findR
  simp only [Qt_g, Q8_eq n a b c x y z w S T hn th p q L hL]
  by_cases h : (slotR a b c S T th L).2 = 0
  · obtain ⟨_, _, _, h1, h2, _⟩ := slotR_in h
    have e : ((slotR a b c S T th L).2 != 0) = false := by simp [h]
    rw [e]
    generalize (slotR a b c S T th L).1 = v at h1 h2 ⊢
    obtain ⟨i, rfl⟩ : ∃ i : Nat, v = i := ⟨_, (Int.toNat_of_nonneg h1).symm⟩
    have hi : i < S.length := by omega
    rw [bif_f, rowT_S hi]
    simp only [cap_None_eq, rowT_S hi, Slot.c, cond_false, Int.toNat_natCast, List.getElem?_eq_getElem hi]
    cases capNone S[i].ty S[i].th S[i].ri S[i].ba <;> rfl
  · have e : ((slotR a b c S T th L).2 != 0) = true := by simpa using h
    rw [e]; rfl
theorem findR_in {a b c : Int} {S : List Slot} {T : List Thing} {th : Int} {L : List Int} (h : (findR a b c S T th L).2.2 = 0) : GoodS a b c S T ∧ (0 ≤ th ∧ th < a) ∧ pathGood L = true ∧ ∃ (i : Nat) (s : Slot), findR a b c S T th L = ((i : Int), s, 0) ∧ S[i]? = some s ∧ capNone s.ty s.th s.ri s.ba = false ∧ slotR a b c S T th L = ((i : Int), 0) := by
  by_cases h0 : (slotR a b c S T th L).2 = 0
  · obtain ⟨g1, g2, g3, h1, h2, _⟩ := slotR_in h0
    refine ⟨g1, g2, g3, ?_⟩
    have e : ((slotR a b c S T th L).2 != 0) = false := by simp [h0]
    obtain ⟨i, hi⟩ : ∃ i : Nat, (slotR a b c S T th L).1 = i := ⟨_, (Int.toNat_of_nonneg h1).symm⟩
    have hi' : i < S.length := by omega
    unfold findR at h ⊢
    rw [e, hi, Int.toNat_natCast, List.getElem?_eq_getElem hi'] at h ⊢
    simp only [cond_false] at h ⊢
    cases hn : capNone S[i].ty S[i].th S[i].ri S[i].ba
    · exact ⟨i, S[i], rfl, List.getElem?_eq_getElem hi', hn, Prod.ext hi h0⟩
    · rw [hn] at h; simp at h
  · have e : ((slotR a b c S T th L).2 != 0) = true := by simpa using h0
    unfold findR at h
    rw [e] at h
    exact absurd h h0
end
end Go.Rv
namespace Go.Rv
structure Sim (T T' : List Thing) : Prop where
  len : T'.length = T.length
  same : ∀ (i : Nat) (t t' : Thing), T[i]? = some t → T'[i]? = some t' → t'.ty = t.ty ∧ (t.ty = 2 → t' = t)
theorem Sim.get {T T' : List Thing} (h : Sim T T') {i : Nat} {t : Thing} (ht : T[i]? = some t) : ∃ t', T'[i]? = some t' ∧ t'.ty = t.ty ∧ (t.ty = 2 → t' = t) := by
  have hi := (List.getElem?_eq_some_iff.1 ht).1
  have hi' : i < T'.length := by rw [h.len]; exact hi
  exact ⟨T'[i], List.getElem?_eq_getElem hi', h.same i t _ ht (List.getElem?_eq_getElem hi')⟩
theorem Sim.symm {T T' : List Thing} (h : Sim T T') : Sim T' T :=
  ⟨h.len.symm, fun i t t' h1 h2 => by
    obtain ⟨g1, g2⟩ := h.same i t' t h2 h1
    exact ⟨g1.symm, fun e => (g2 (g1 ▸ e)).symm⟩⟩
theorem hasM_sim {t t' : Thing} (h1 : t'.ty = t.ty) (h2 : t.ty = 2 → t' = t) (s : Int) : hasM t' s = hasM t s := by
  by_cases e : t.ty = 2
  · rw [h2 e]
  · unfold hasM
    have e1 : (t.ty == 2) = false := by simpa using e
    have e2 : (t'.ty == 2) = false := by rw [h1]; exact e1
    rw [e1, e2]; rfl
theorem Sim.there {T T' : List Thing} (h : Sim T T') (t : Int) : thereM T' t = thereM T t := by
  unfold thereM
  rw [h.len]
  cases ht : T[t.toNat]? with
  | none =>
    have : T'[t.toNat]? = none := List.getElem?_eq_none (by rw [h.len]; exact List.getElem?_eq_none_iff.1 ht)
    rw [this]
  | some x =>
    obtain ⟨x', h1, h2, _⟩ := h.get ht
    rw [h1]
    simp only [h2]
theorem Sim.owner {T T' : List Thing} (h : Sim T T') (s : Int) : ownerM T' s = ownerM T s := by
  unfold ownerM
  rw [h.len]
  have key : ∀ d i, ownerF T' s i d = ownerF T s i d := by
    intro d
    induction d with
    | zero => intro i; rfl
    | succ d ih =>
      intro i
      unfold ownerF
      cases ht : T[i]? with
      | none =>
        have : T'[i]? = none := List.getElem?_eq_none (by rw [h.len]; exact List.getElem?_eq_none_iff.1 ht)
        rw [this]
      | some x =>
        obtain ⟨x', h1, h2, h3⟩ := h.get ht
        rw [h1]
        simp only [hasM_sim h2 h3 s, ih]
  exact key _ _
theorem Sim.caps {T T' : List Thing} (h : Sim T T') (s : Slot) : capOK T' s = capOK T s := by
  unfold capOK
  rw [h.there]
  cases ht : T[s.th.toNat]? with
  | none =>
    have : T'[s.th.toNat]? = none := List.getElem?_eq_none (by rw [h.len]; exact List.getElem?_eq_none_iff.1 ht)
    rw [this]
  | some x =>
    obtain ⟨x', h1, h2, _⟩ := h.get ht
    rw [h1]
    simp only [h2]
theorem Sim.succ {T T' : List Thing} (h : Sim T T') {S : List Slot} {k q : Int} (e : Succ S T k q) : Succ S T' k q := by
  obtain ⟨i, s, t, h1, h2, h3, h4, h5, h6, h7⟩ := e
  obtain ⟨t', g1, g2, g3⟩ := h.get h4
  exact ⟨i, s, t', h1, h2, h3, g1, by rw [hasM_sim g2 g3]; exact h5, by rw [h.there]; exact h6, h7⟩
theorem Sim.reach {T T' : List Thing} (h : Sim T T') {S : List Slot} {k q : Int} (e : Reach S T k q) : Reach S T' k q := by
  induction e with
  | here => exact .here _
  | step e _ ih => exact .step (h.succ e) ih
theorem Sim.ring {T T' : List Thing} (h : Sim T T') {S : List Slot} (e : RingP S T) : RingP S T' := by
  obtain ⟨i, s, h1, h2, h3, ⟨t, h4, h5⟩, h6⟩ := e
  obtain ⟨t', g1, g2, _⟩ := h.get h4
  exact ⟨i, s, h1, h2, by rw [h.there]; exact h3, ⟨t', g1, by rw [g2]; exact h5⟩, by rw [h.owner]; exact h.reach h6⟩
theorem Sim.nodes {T T' : List Thing} (h : Sim T T') {S : List Slot} (e : NodesP S T) : NodesP S T' := by
  have back : ∀ {i : Nat} {t' : Thing}, T'[i]? = some t' → ∃ t, T[i]? = some t ∧ ∀ s, hasM t' s = hasM t s := by
    intro i t' ht'
    obtain ⟨t, g1, g2, g3⟩ := h.symm.get ht'
    exact ⟨t, g1, fun s => (hasM_sim g2 g3 s).symm⟩
  refine ⟨fun t q ht hq => ?_, fun j k t u s hT hU h1 h2 => ?_, fun i s hs hn => ?_⟩
  · obtain ⟨i, hi⟩ := List.mem_iff_getElem?.1 ht
    obtain ⟨t0, g1, g2⟩ := back hi
    exact e.inside t0 q (List.mem_of_getElem? g1) (by rw [← g2]; exact hq)
  · obtain ⟨t0, g1, g2⟩ := back hT
    obtain ⟨u0, g3, g4⟩ := back hU
    exact e.apart j k t0 u0 s g1 g3 (by rw [← g2]; exact h1) (by rw [← g4]; exact h2)
  · rw [h.owner]; exact e.full i s hs hn
theorem GoodS.set {a b c : Int} {S : List Slot} {T : List Thing} (good : GoodS a b c S T) {k : Nat} {t t' : Thing} (hk : T[k]? = some t) (h2 : t.ty ≠ 2) (_h0 : t.ty ≠ 0) (hty : t'.ty = t.ty) (hfr : t'.fr = t.fr) (hg : thingGood t' = true) : GoodS a b c S (T.set k t') := by
  have hkl := (List.getElem?_eq_some_iff.1 hk).1
  have hsim : Sim T (T.set k t') := by
    refine ⟨by simp, fun i u u' h1 h3 => ?_⟩
    rw [List.getElem?_set] at h3
    by_cases e : k = i
    · subst e
      rw [if_pos rfl, if_pos hkl] at h3
      rw [hk] at h1
      cases h1; cases h3
      exact ⟨hty, fun e => absurd e h2⟩
    · rw [if_neg e, h1] at h3
      cases h3
      exact ⟨rfl, fun _ => rfl⟩
  have hthings : thingsM a S (T.set k t') = true := by
    refine List.all_eq_true.2 fun i hi => ?_
    rw [List.length_set] at hi
    have old := List.all_eq_true.1 good.thingsOK i hi
    have hi' := List.mem_range.1 hi
    rw [List.getElem?_set]
    by_cases e : k = i
    · subst e
      rw [if_pos rfl, if_pos hkl]
      simp only [hk] at old
      simp only
      unfold thingOK at old ⊢
      rw [hfr, hty]
      simp only [Bool.and_eq_true] at old ⊢
      obtain ⟨_, o2, o3⟩ := old
      refine ⟨hg, o2, ?_⟩
      cases hr : (decide ((k : Int) ≥ 2) && decide ((k : Int) < 2 + a))
      · rw [hr] at o3
        exact o3
      · rw [hr] at o3
        simp only [cond_true, rootEq, Bool.and_eq_true, beq_iff_eq] at o3
        exact absurd o3.1 h2
    · rw [if_neg e]
      exact old
  have hg' := allGood_of hthings
  refine ⟨good.geo, good.slots, by simpa using good.things, List.all_eq_true.2 fun s hs => ?_, hthings, (nodesM_iff hg').2 (hsim.nodes good.nodesP), fun hr => good.ring (hsim.symm.ring hr), good.forest, good.allowed⟩
  rw [hsim.caps]
  exact List.all_eq_true.1 good.caps s hs
end Go.Rv
namespace Go.Rv
section
variable {ρ : Type} (n : Nat)
def eqSl (s u : Slot) : Bool := (s.ty == u.ty) && ((s.th == u.th) && ((s.ri == u.ri) && ((s.ba == u.ba) && ((s.up == u.up) && true))))
def eqAt {α : Type} (e : α → α → Bool) (l m : List α) (i : Nat) : Bool := match l[i]?, m[i]? with | some s, some u => e s u | _, _ => true
def eqLs {α : Type} (e : α → α → Bool) (l m : List α) : Bool := decide (l.length = m.length) && (List.range l.length).all (eqAt e l m)
theorem eqSl_refl (s : Slot) : eqSl s s = true := by simp [eqSl]
theorem eqT_refl (s : Thing) : eqT s s = true := by simp [eqT]
theorem eqLs_refl {α : Type} {e : α → α → Bool} (h : ∀ s, e s s = true) (l : List α) : eqLs e l l = true := by
  unfold eqLs
  simp only [decide_true, Bool.true_and, List.all_eq_true]
  intro i hi
  have := List.mem_range.1 hi
  simp only [eqAt, List.getElem?_eq_getElem this, h]
section
variable (x y z w : Bool) (S U : List Slot) (hS : S.length < 1000000) (hn : S.length < n)
include hS hn
theorem equalS_eq (K : Bool → Option ρ) : slices_Equal_Slot n ρ x y (encS S) z w (encS U) K = K (eqLs eqSl S U) := by
  show slices_Equal_Slot_s _ n x y (encS S) z w (encS U) K = _
  unfold slices_Equal_Slot_s eqLs
  rw [encS_len, encS_len]
  by_cases hl : S.length = U.length
  · have : (((S.length : Nat) : Int) != ((U.length : Nat) : Int)) = false := by simp [hl]
    rw [this, bif_f, decide_eq_true hl, Bool.true_and]
    unfold slices_Equal_Slot_l4
    rw [up_loop0 (len := S.length) (k0 := K false) (k1 := K true) (eqAt eqSl S U)]
    · cases (List.range S.length).all _ <;> rfl
    · intro rec
      unfold slices_Equal_Slot_l4_s
      simp only
      rw [show decide (((S.length : Nat) : Int) < ((S.length : Nat) : Int)) = false by simp]
      rfl
    · intro rec i hi
      have hu : i < U.length := by omega
      unfold slices_Equal_Slot_l4_s
      simp only
      rw [show decide ((i : Int) < ((S.length : Nat) : Int)) = true by simpa using hi, bif_t, rowT_S hi, rowT_S hu, wrap_id (by omega) (by omega), show ((i : Int) + 1) = ((i + 1 : Nat) : Int) by omega]
      simp only [eqAt, List.getElem?_eq_getElem hi, List.getElem?_eq_getElem hu]
      change (bif (!(eqSl S[i] U[i])) then K false else rec ((i + 1 : Nat) : Int)) = _
      cases eqSl S[i] U[i] <;> rfl
    · exact hn
  · have : (((S.length : Nat) : Int) != ((U.length : Nat) : Int)) = true := by simp; omega
    rw [this, bif_t, decide_eq_false hl]; rfl
end
section
variable (x y z w : Bool) (S U : List Thing) (hS : S.length < 1000000) (hn : S.length < n)
include hS hn
theorem equalT_eq (K : Bool → Option ρ) : slices_Equal_Thing n ρ x y (encT S) z w (encT U) K = K (eqLs eqT S U) := by
  show slices_Equal_Thing_s _ n x y (encT S) z w (encT U) K = _
  unfold slices_Equal_Thing_s eqLs
  rw [encT_len, encT_len]
  by_cases hl : S.length = U.length
  · have : (((S.length : Nat) : Int) != ((U.length : Nat) : Int)) = false := by simp [hl]
    rw [this, bif_f, decide_eq_true hl, Bool.true_and]
    unfold slices_Equal_Thing_l4
    rw [up_loop0 (len := S.length) (k0 := K false) (k1 := K true) (eqAt eqT S U)]
    · cases (List.range S.length).all _ <;> rfl
    · intro rec
      unfold slices_Equal_Thing_l4_s
      simp only
      rw [show decide (((S.length : Nat) : Int) < ((S.length : Nat) : Int)) = false by simp]
      rfl
    · intro rec i hi
      have hu : i < U.length := by omega
      unfold slices_Equal_Thing_l4_s
      simp only
      rw [show decide ((i : Int) < ((S.length : Nat) : Int)) = true by simpa using hi, bif_t, rowT_T hi, rowT_T hu, wrap_id (by omega) (by omega), show ((i : Int) + 1) = ((i + 1 : Nat) : Int) by omega]
      simp only [eqAt, List.getElem?_eq_getElem hi, List.getElem?_eq_getElem hu]
      change (bif (!(eqT S[i] U[i])) then K false else rec ((i + 1 : Nat) : Int)) = _
      cases eqT S[i] U[i] <;> rfl
    · exact hn
  · have : (((S.length : Nat) : Int) != ((U.length : Nat) : Int)) = true := by simp; omega
    rw [this, bif_t, decide_eq_false hl]; rfl
end
def eqG (a b c a' b' c' : Int) : Bool := (a == a') && ((b == b') && ((c == c') && true))
section
variable (a b c a' b' c' : Int) (x y z w x' y' z' w' : Bool) (S S' : List Slot) (T T' : List Thing) (hS : S.length < 1000000) (hn : S.length < n) (hT : T.length < 1000000) (hn2 : T.length < n)
include hS hn hT hn2
theorem same_eq (K : Bool → Option ρ) : Qy n ρ a b c x y (encS S) z w (encT T) a' b' c' x' y' (encS S') z' w' (encT T') K = K (eqG a b c a' b' c' && (eqLs eqSl S S' && eqLs eqT T T')) := by
  show Qy_s (Qy_g n) n a b c x y (encS S) z w (encT T) a' b' c' x' y' (encS S') z' w' (encT T') K = _
  simp only [Qy_s, Qy_g, equalS_eq n x y x' y' S S' hS hn, equalT_eq n z w z' w' T T' hT hn2]
  change (bif eqG a b c a' b' c' then _ else _) = _
  cases eqG a b c a' b' c' <;> cases eqLs eqSl S S' <;> cases eqLs eqT T T' <;> rfl
end
end
section
variable {ρ : Type} (n : Nat)
theorem encS_all (S : List Slot) : (List.all (encS S) fun e => e.length == 5) = true ∧ (List.all (encS S) fun e => !ownL e) = true := by
  constructor <;> simp [encS, Slot.row, ownL, AV.own]
theorem encT_all (S : List Thing) : (List.all (encT S) fun e => e.length == 13) = true ∧ (List.all (encT S) fun e => !ownL e) = true := by
  constructor <;> simp [encT, Thing.row, ownL, AV.own]
theorem cloneS_eq (x y : Bool) (S : List Slot) (hS : S.length < 1000000) (k0 : Option ρ) (k1 : Nat → Nat → Rows → Option ρ) : slices_Clone_Slot n ρ x y (encS S) k0 k1 = bif x then k0 else k1 S.length S.length (encS S) := by
  show slices_Clone_Slot_s _ n x y (encS S) k0 k1 = _
  unfold slices_Clone_Slot_s
  have e3 : decide (0 + (encS S).length ≤ most) = true := by
    have : most = 16777216 := rfl
    rw [encS_len]; simp only [decide_eq_true_eq]; omega
  rw [(encS_all S).1, (encS_all S).2, e3, chk_t, chk_t, chk_t, encS_len, Nat.zero_add, List.nil_append]
theorem cloneT_eq (x y : Bool) (S : List Thing) (hS : S.length < 1000000) (k0 : Option ρ) (k1 : Nat → Nat → Rows → Option ρ) : slices_Clone_Thing n ρ x y (encT S) k0 k1 = bif x then k0 else k1 S.length S.length (encT S) := by
  show slices_Clone_Thing_s _ n x y (encT S) k0 k1 = _
  unfold slices_Clone_Thing_s
  have e3 : decide (0 + (encT S).length ≤ most) = true := by
    have : most = 16777216 := rfl
    rw [encT_len]; simp only [decide_eq_true_eq]; omega
  rw [(encT_all S).1, (encT_all S).2, e3, chk_t, chk_t, chk_t, encT_len, Nat.zero_add, List.nil_append]
section
variable (a b c : Int) (x y z w : Bool) (S : List Slot) (T : List Thing) (hS : S.length < 1000000) (hT : T.length < 1000000)
include hS hT
theorem clone_eq (k0 : Option ρ) (k1 k2 : Nat → Nat → Rows → Option ρ) (k3 : Nat → Nat → Nat → Nat → Rows → Rows → Option ρ) : Qs n ρ a b c x y (encS S) z w (encT T) k0 k1 k2 k3 =
    bif x then (bif z then k0 else k1 T.length T.length (encT T)) else (bif z then k2 S.length S.length (encS S) else k3 S.length S.length T.length T.length (encS S) (encT T)) := by
  show Qs_s (Qs_g n) n a b c x y (encS S) z w (encT T) k0 k1 k2 k3 = _
  simp only [Qs_s, Qs_g, cloneS_eq n x y S hS, cloneT_eq n z w T hT]
end
theorem eqG_refl (a b c : Int) : eqG a b c a b c = true := by simp [eqG]
end
end Go.Rv
namespace Go.Rv
theorem eqLsS_refl (S : List Slot) : eqLs eqSl S S = true := eqLs_refl eqSl_refl S
theorem eqLsT_refl (T : List Thing) : eqLs eqT T T = true := eqLs_refl eqT_refl T
end Go.Rv
namespace Go.Rv
section
variable {ρ : Type} (n : Nat)
end
end Go.Rv
namespace Go.Rv
theorem rowN_Sa {ρ : Type} {l : List Slot} {i : Nat} (h : i < l.length) (K : CT [.a, .a, .a, .a, .a] → Option ρ) : rowN [.a, .a, .a, .a, .a] (encS l) i K = K (.i .i64 l[i].ty, .i .i64 l[i].th, .i .i64 l[i].ri, .i .i64 l[i].ba, .i .i64 l[i].up, ()) := by
  unfold rowN encS
  simp only [List.getElem?_map, List.getElem?_eq_getElem h, Option.map_some]
  rfl
theorem encS_set (l : List Slot) (i : Nat) (s : Slot) : (encS l).set i s.row = encS (l.set i s) := by simp [encS, List.map_set]
section
variable {ρ : Type} (n : Nat) (a b c : Int) (x y z w : Bool) (S : List Slot) (T : List Thing)
theorem ring_eq' (hn : 200 ≤ n) (good : GoodS a b c S T) {j : Nat} (hj : j < S.length) (x1 x2 x3 x4 : Int) (K : Bool → Option ρ) : Qi n ρ a b c x y (encS S) z w (encT T) x1 x2 x3 x4 (j : Int) K = K (x1 == 2 && insideB S T x2 (j : Int)) := by
  have hlen := good.len
  show Qi_s (Qi_g n) n a b c x y (encS S) z w (encT T) x1 x2 x3 x4 (j : Int) K = _
  unfold Qi_s
  have hI : ∀ K : Bool → Option ρ, Q02 n ρ a b c x y (encS S) z w (encT T) x2 (j : Int) K = K (insideB S T x2 (j : Int)) := by
    intro K
    show Q02_s (Q02_g n) n a b c x y (encS S) z w (encT T) x2 (j : Int) K = _
    unfold Q02_s
    simp only [Q02_g, good_eq n a b c x y z w S T hn, goodB_iff.2 good, bif_t, encS_len, inside_eq n a b c x y z w S T (allGood_of good.thingsOK) (show S.length < 1000000 by omega) (show T.length < 1000000 by omega) (show S.length < n by omega) (show T.length < n by omega)]
    rw [decide_eq_true (show ((j : Nat) : Int) ≥ 0 by omega), decide_eq_true (show ((j : Nat) : Int) < ((S.length : Nat) : Int) by omega)]
    cases insideB S T x2 (j : Int) <;> rfl
  simp only [Qi_g, hI]
  cases x1 == 2 <;> cases insideB S T x2 (j : Int) <;> rfl
structure PutOK (S : List Slot) (T : List Thing) (i j : Nat) (s u : Slot) (x1 x2 x3 x4 : Int) : Prop where
  good : capGood x1 x2 x3 x4 = true
  some : capNone x1 x2 x3 x4 = false
  owner : 0 ≤ ownerM T (j : Int)
  full : capNone s.ty s.th s.ri s.ba = false
  none : capNone u.ty u.th u.ri u.ba = true
  less : capLess x1 x2 x3 x4 s.ty s.th s.ri s.ba = true
  ring : (x1 == 2 && insideB S T x2 (j : Int)) = false
end
end Go.Rv
namespace Go.Rv
section
variable {ρ : Type} (n : Nat) (a b c : Int) (y w : Bool) (S : List Slot) (T : List Thing)
end
end Go.Rv
namespace Go.Rv
theorem Al.uncons_i {k : IntKind} {s : List Ce} {l : List AV} (h : Al (.i k :: s) l) : ∃ n r, l = .i k n :: r ∧ Al s r := by
  cases l with
  | nil => exact h.elim
  | cons v r => obtain ⟨⟨n, rfl, _⟩, h2⟩ := h; exact ⟨n, r, rfl, h2⟩
theorem Al.uncons_b {s : List Ce} {l : List AV} (h : Al (.b :: s) l) : ∃ x r, l = .b x :: r ∧ Al s r := by
  cases l with
  | nil => exact h.elim
  | cons v r => obtain ⟨⟨n, rfl⟩, h2⟩ := h; exact ⟨n, r, rfl, h2⟩
theorem Al.none {l : List AV} (h : Al [] l) : l = [] := by
  cases l with
  | nil => rfl
  | cons v r => exact h.elim
theorem rowS {l : List AV} (h : Al i5 l) : ∃ s : Slot, l = s.row := by
  obtain ⟨a, _, rfl, g1⟩ := h.uncons_i
  obtain ⟨b, _, rfl, g2⟩ := g1.uncons_i
  obtain ⟨c, _, rfl, g3⟩ := g2.uncons_i
  obtain ⟨d, _, rfl, g4⟩ := g3.uncons_i
  obtain ⟨e, _, rfl, g5⟩ := g4.uncons_i
  obtain rfl := g5.none
  exact ⟨⟨a, b, c, d, e⟩, rfl⟩
theorem rowT' {l : List AV} (h : Al i13 l) : ∃ t : Thing, l = t.row := by
  obtain ⟨a1, _, rfl, g1⟩ := h.uncons_i
  obtain ⟨a2, _, rfl, g2⟩ := g1.uncons_i
  obtain ⟨a3, _, rfl, g3⟩ := g2.uncons_i
  obtain ⟨a4, _, rfl, g4⟩ := g3.uncons_i
  obtain ⟨a5, _, rfl, g5⟩ := g4.uncons_i
  obtain ⟨a6, _, rfl, g6⟩ := g5.uncons_i
  obtain ⟨a7, _, rfl, g7⟩ := g6.uncons_i
  obtain ⟨a8, _, rfl, g8⟩ := g7.uncons_b
  obtain ⟨a9, _, rfl, g9⟩ := g8.uncons_i
  obtain ⟨b1, _, rfl, g10⟩ := g9.uncons_i
  obtain ⟨b2, _, rfl, g11⟩ := g10.uncons_i
  obtain ⟨b3, _, rfl, g12⟩ := g11.uncons_i
  obtain ⟨b4, _, rfl, g13⟩ := g12.uncons_i
  obtain rfl := g13.none
  exact ⟨⟨a1, a2, a3, a4, a5, a6, a7, a8, a9, b1, b2, b3, b4⟩, rfl⟩
theorem rows_of {α : Type} (row : α → List AV) {ks : List Ce} (h : ∀ l, Al ks l → ∃ a, l = row a) : ∀ (xs : Rows), (∀ x ∈ xs, Al ks x) → ∃ l : List α, xs = l.map row
  | [], _ => ⟨[], rfl⟩
  | x :: xs, hx => by
    obtain ⟨a, rfl⟩ := h x (hx x (List.mem_cons_self ..))
    obtain ⟨l, rfl⟩ := rows_of row h xs fun y hy => hx y (List.mem_cons_of_mem _ hy)
    exact ⟨a :: l, rfl⟩
def stateAV (a b c : Int) (x y z w : Bool) (S : List Slot) (T : List Thing) : AV := .agg [.i .i64 a, .i .i64 b, .i .i64 c, .lst x y 5 (encS S), .lst z w 13 (encT T)]
def stateTy : List Ty1 := [.c (.i .i64), .c (.i .i64), .c (.i .i64), .l 5 i5, .l 13 i13]
theorem AlT_state2 {l : List AV} {z1 z2 : Nat} {k1 k2 : List Ce} (h : AlT [.c (.i .i64), .c (.i .i64), .c (.i .i64), .l z1 k1, .l z2 k2] l) :
    ∃ (a b c : Int) (x y z w : Bool) (xs ys : Rows), l = [.i .i64 a, .i .i64 b, .i .i64 c, .lst x y z1 xs, .lst z w z2 ys] ∧ (∀ x ∈ xs, Al k1 x) ∧ (∀ x ∈ ys, Al k2 x) ∧ (x = true → xs = []) ∧ (z = true → ys = []) := by
  obtain ⟨a, b, c, x, y, z, w, xs, ys, rfl, _, _, _, _, _, h1, h2, h3, h4⟩ := AlT_state h
  exact ⟨a, b, c, x, y, z, w, xs, ys, rfl, h1, h2, h3, h4⟩
theorem state_of2 {P : Program} {n : Nat} {t : TypeId} {v : AV} (h : TyArg P n t v) (ha : (match P.underlying t with | some (.struct _) | some (.array _ _) => true | _ => false) = true) (hf : flat1 P n t = some stateTy) :
    ∃ (a b c : Int) (x y z w : Bool) (S : List Slot) (T : List Thing), v = stateAV a b c x y z w S T ∧ (x = true → S = []) ∧ (z = true → T = []) := by
  obtain ⟨l, rfl, hl⟩ := TyArg_agg h ha hf
  obtain ⟨a, b, c, x, y, z, w, xs, ys, rfl, h1, h2, h3, h4⟩ := AlT_state2 hl
  obtain ⟨S, rfl⟩ := rows_of Slot.row (fun _ => rowS) xs h1
  obtain ⟨T, rfl⟩ := rows_of Thing.row (fun _ => rowT') ys h2
  refine ⟨a, b, c, x, y, z, w, S, T, rfl, fun hx => ?_, fun hz => ?_⟩
  · have := h3 hx; simpa using this
  · have := h4 hz; simpa using this
theorem int_of {P : Program} {n : Nat} {t : TypeId} {v : AV} (h : TyArg P n t v) (ha : (match P.underlying t with | some (.struct _) | some (.array _ _) => true | _ => false) = false) {k : IntKind} (hf : flat1 P n t = some [.c (.i k)]) : ∃ m, v = .i k m ∧ (Lit.int k m).wf = true := AlT_int (TyArg_one h ha hf)
theorem rowI {l : List AV} (h : Al [.i .i64] l) : ∃ s : Int, l = [.i .i64 s] := by
  obtain ⟨a, _, rfl, g1⟩ := h.uncons_i
  obtain rfl := g1.none
  exact ⟨a, rfl⟩
theorem ints_of {P : Program} {n : Nat} {t : TypeId} {v : AV} (h : TyArg P n t v) (ha : (match P.underlying t with | some (.struct _) | some (.array _ _) => true | _ => false) = false) (hf : flat1 P n t = some [.l 1 [.i .i64]]) : ∃ (x y : Bool) (L : List Int), v = .lst x y 1 (encI L) ∧ (x = true → L = []) := by
  obtain ⟨v', r, e, h1, _⟩ := (TyArg_one h ha hf).uncons
  simp at e
  obtain ⟨rfl, _⟩ := e
  obtain ⟨nl, ti, xs, rfl, g⟩ := h1
  obtain ⟨L, rfl⟩ := rows_of (fun x : Int => [AV.i .i64 x]) (fun _ => rowI) xs g.2.2
  refine ⟨nl, ti, L, rfl, fun hx => ?_⟩
  have := g.1 hx
  simpa using this
end Go.Rv
namespace Go.Rv
def ren (i j : Nat) (v : Int) : Int := if v = (i : Int) then (j : Int) else v
theorem ren_neg {i j : Nat} {v : Int} (h : v < 0) : ren i j v = v := by unfold ren; rw [if_neg (by omega)]
def moveU (U : List Int) (i j : Nat) (v : Int) : List Int := ((U.map (ren i j)).set j v).set i (-2)
theorem moveU_len {U : List Int} {i j : Nat} {v : Int} : (moveU U i j v).length = U.length := by simp [moveU]
theorem moveU_get {U : List Int} {i j : Nat} {v : Int} (hj : U[j]? = some (-2)) (hi : U[i]? = some v) (h2 : v ≠ -2) (hvi : v ≠ (i : Int)) {x : Nat} {u : Int} (hx : U[x]? = some u) (hu : u ≠ -2) : (moveU U i j v)[(ren i j (x : Int)).toNat]? = some (ren i j u) ∧ ren i j u ≠ -2 := by
  have hil := (List.getElem?_eq_some_iff.1 hi).1
  have hjl := (List.getElem?_eq_some_iff.1 hj).1
  have hij : i ≠ j := fun e => by subst e; rw [hj] at hi; cases hi; exact h2 rfl
  have hxj : x ≠ j := fun e => by subst e; rw [hj] at hx; cases hx; exact hu rfl
  have hr : ren i j u ≠ -2 := by
    unfold ren
    split
    · omega
    · exact hu
  refine ⟨?_, hr⟩
  unfold moveU
  by_cases hxi : x = i
  · subst hxi
    rw [hi] at hx
    cases hx
    have e : ren x j (x : Int) = (j : Int) := if_pos rfl
    rw [e, Int.toNat_natCast, List.getElem?_set, if_neg hij, List.getElem?_set, if_pos rfl, if_pos (by simpa using hjl)]
    unfold ren
    rw [if_neg hvi]
  · have e : ren i j (x : Int) = (x : Int) := if_neg (by omega)
    rw [e, Int.toNat_natCast, List.getElem?_set, if_neg (Ne.symm hxi), List.getElem?_set, if_neg (Ne.symm hxj), List.getElem?_map, hx]
    rfl
theorem moveU_full {U : List Int} {i j : Nat} {v : Int} (hj : U[j]? = some (-2)) (hi : U[i]? = some v) (h2 : v ≠ -2) (hvi : v ≠ (i : Int)) {m : Nat} {u : Int} (hm : (moveU U i j v)[m]? = some u) (hu : u ≠ -2) : ∃ (x : Nat) (w : Int), U[x]? = some w ∧ w ≠ -2 ∧ (m : Int) = ren i j (x : Int) ∧ u = ren i j w := by
  have hil := (List.getElem?_eq_some_iff.1 hi).1
  have hij : i ≠ j := fun e => by subst e; rw [hj] at hi; cases hi; exact h2 rfl
  have hml := (List.getElem?_eq_some_iff.1 hm).1
  rw [moveU_len] at hml
  by_cases hmi : m = i
  · subst hmi
    unfold moveU at hm
    rw [List.getElem?_set, if_pos rfl] at hm
    split at hm
    · cases hm; exact absurd rfl hu
    · cases hm
  by_cases hmj : m = j
  · subst hmj
    refine ⟨i, v, hi, h2, (if_pos rfl).symm, ?_⟩
    obtain ⟨g1, _⟩ := moveU_get hj hi h2 hvi hi h2
    rw [show ren i m (i : Int) = (m : Int) from if_pos rfl, Int.toNat_natCast, hm] at g1
    exact Option.some.inj g1
  · unfold moveU at hm
    rw [List.getElem?_set, if_neg (Ne.symm hmi), List.getElem?_set, if_neg (Ne.symm hmj), List.getElem?_map, List.getElem?_eq_getElem hml] at hm
    simp only [Option.map_some, Option.some.injEq] at hm
    refine ⟨m, U[m], List.getElem?_eq_getElem hml, fun e => ?_, (if_neg (by omega)).symm, hm.symm⟩
    rw [e] at hm
    unfold ren at hm
    rw [if_neg (by omega)] at hm
    exact hu hm.symm
section
variable {U : List Int} {i j : Nat} {v : Int} (hv : validU U) (hj : U[j]? = some (-2)) (hi : U[i]? = some v) (h2 : v ≠ -2) (hvi : v ≠ (i : Int))
include hv hj hi h2 hvi
theorem moveU_fin : ∀ (d : Nat) (x : Int), (x < 0 ∨ ∃ u, U[x.toNat]? = some u ∧ u ≠ -2) → finU (moveU U i j v) d (ren i j x) = finU U d x
  | d, x, .inl h => by rw [ren_neg h, finU_neg _ _ h, finU_neg _ _ h]
  | 0, x, .inr ⟨u, hu, hu2⟩ => by
    unfold finU
    by_cases h : x < 0
    · rw [ren_neg h]
    · have : ¬ ren i j x < 0 := by unfold ren; split <;> omega
      rw [decide_eq_false h, decide_eq_false this]
  | d + 1, x, .inr ⟨u, hu, hu2⟩ => by
    by_cases h : x < 0
    · rw [ren_neg h, finU_neg _ _ h, finU_neg _ _ h]
    · have h' : ¬ ren i j x < 0 := by unfold ren; split <;> omega
      obtain ⟨k, rfl⟩ : ∃ k : Nat, x = k := ⟨x.toNat, by omega⟩
      rw [Int.toNat_natCast] at hu
      obtain ⟨g1, g2⟩ := moveU_get hj hi h2 hvi hu hu2
      unfold finU
      rw [decide_eq_false h, decide_eq_false h', g1, Int.toNat_natCast, hu]
      simp only [Bool.false_or]
      refine moveU_fin d u ?_
      rcases hv _ _ hu with h | h | ⟨_, h⟩
      · exact absurd h hu2
      · exact .inl (by omega)
      · exact .inr h
theorem moveU_valid : validU (moveU U i j v) := by
  intro m u hm
  by_cases hu : u = -2
  · exact .inl hu
  obtain ⟨x, w, hx, hw, _, rfl⟩ := moveU_full hj hi h2 hvi hm hu
  rcases hv x w hx with h | h | ⟨h0, y, hy, hy2⟩
  · exact absurd h hw
  · subst h
    exact .inr (.inl (ren_neg (by omega)))
  · obtain ⟨k, rfl⟩ : ∃ k : Nat, w = k := ⟨w.toNat, by omega⟩
    rw [Int.toNat_natCast] at hy
    obtain ⟨g1, g2⟩ := moveU_get hj hi h2 hvi hy hy2
    exact .inr (.inr ⟨by unfold ren; split <;> omega, _, g1, g2⟩)
end
theorem finU_loop {U : List Int} {i : Nat} (hi : U[i]? = some (i : Int)) : ∀ d, finU U d (i : Int) = false
  | 0 => by simp [finU]
  | d + 1 => by
    unfold finU
    rw [Int.toNat_natCast, hi]
    simp only [finU_loop hi d]
    simp
theorem upOK_of {U : List Int} (hv : validU U) : U.all (upOK U) = true := by
  refine List.all_eq_true.2 fun u hu => ?_
  obtain ⟨k, hk⟩ := List.mem_iff_getElem?.1 hu
  unfold upOK
  rcases hv k u hk with rfl | rfl | ⟨h0, x, hx, hx2⟩
  · rfl
  · rfl
  · have e1 : (u != -2) = true := by simp; omega
    have e2 : (u != -1) = true := by simp; omega
    rw [e1, e2]
    simp only [cond_true]
    unfold isM
    have := (List.getElem?_eq_some_iff.1 hx).1
    rw [hx]
    simp only [Bool.and_eq_true, decide_eq_true_eq]
    exact ⟨h0, by omega, by simpa using hx2⟩
theorem moveU_good {U : List Int} {i j : Nat} {v : Int} (hf : forestGood U = true) (hj : U[j]? = some (-2)) (hi : U[i]? = some v) (h2 : v ≠ -2) : forestGood (moveU U i j v) = true := by
  rw [forestGood_iff] at hf ⊢
  simp only [Bool.and_eq_true, decide_eq_true_eq] at hf
  obtain ⟨hl, hup, hfin⟩ := hf
  have hv := validU_of hup
  have old : ∀ q : Nat, q < U.length → finU U U.length (q : Int) = true := fun q hq => List.all_eq_true.1 hfin q (List.mem_range.2 hq)
  have hil := (List.getElem?_eq_some_iff.1 hi).1
  have hvi : v ≠ (i : Int) := fun e => by
    subst e
    have := old i hil
    rw [finU_loop hi] at this
    cases this
  have hv' := moveU_valid hv hj hi h2 hvi
  simp only [Bool.and_eq_true, decide_eq_true_eq]
  refine ⟨by rw [moveU_len]; exact hl, upOK_of hv', List.all_eq_true.2 fun m hm => ?_⟩
  rw [moveU_len] at hm ⊢
  have hml := List.mem_range.1 hm
  have hml' : m < (moveU U i j v).length := by rw [moveU_len]; exact hml
  by_cases e : (moveU U i j v)[m] = -2
  · obtain ⟨d, hd⟩ : ∃ d, U.length = d + 1 := ⟨U.length - 1, by omega⟩
    rw [hd]
    unfold finU
    rw [Int.toNat_natCast, List.getElem?_eq_getElem hml', e]
    simp only
    rw [finU_neg _ _ (by omega)]
    simp
  · obtain ⟨x, w, hx, hw, hmx, _⟩ := moveU_full hj hi h2 hvi (List.getElem?_eq_getElem hml') e
    rw [hmx, moveU_fin hv hj hi h2 hvi U.length (x : Int) (.inr ⟨w, by rw [Int.toNat_natCast]; exact hx, hw⟩)]
    exact old x (List.getElem?_eq_some_iff.1 hx).1
end Go.Rv
namespace Go.Rv
def renS (i j : Nat) (s : Slot) : Slot := { s with up := ren i j s.up }
def noS : Slot := ⟨0, 0, 0, 0, -1⟩
def moveS (S : List Slot) (i j : Nat) (s : Slot) : List Slot := ((S.map (renS i j)).set j s).set i noS
def renT (i j : Nat) (t : Thing) : Thing := { t with fr := if t.fr = (i : Int) + 1 then (j : Int) + 1 else t.fr }
def moveT (T : List Thing) (i j : Nat) : List Thing := T.map (renT i j)
structure MoveOK (S : List Slot) (T : List Thing) (i j : Nat) (s u : Slot) : Prop where
  from' : S[i]? = some s
  to : S[j]? = some u
  full : capNone s.ty s.th s.ri s.ba = false
  none : capNone u.ty u.th u.ri u.ba = true
  owner : 0 ≤ ownerM T (j : Int)
  ring : s.ty = 2 → ¬ InsideP S T s.th (j : Int)
theorem upM_full {s : Slot} (h : capNone s.ty s.th s.ri s.ba = false) : upM s = s.up := by unfold upM; rw [h]; rfl
theorem upM_none {s : Slot} (h : capNone s.ty s.th s.ri s.ba = true) : upM s = -2 := by unfold upM; rw [h]; rfl
theorem mv_ij {S : List Slot} {T : List Thing} {i j : Nat} {s u : Slot} (ok : MoveOK S T i j s u) : i ≠ j := fun e => by
  subst e
  have h1 := ok.from'
  rw [ok.to] at h1
  cases h1
  have := ok.full
  rw [ok.none] at this
  cases this
theorem mv_len {S : List Slot} {i j : Nat} {s : Slot} : (moveS S i j s).length = S.length := by simp [moveS]
theorem mv_up {a b c : Int} {S : List Slot} {T : List Thing} (good : GoodS a b c S T) {x : Slot} (hx : x ∈ S) : (capNone x.ty x.th x.ri x.ba = false → x.up ≥ -1) ∧ (capNone x.ty x.th x.ri x.ba = true → x.up = -1) := by
  have h := List.all_eq_true.1 good.caps x hx
  unfold capOK at h
  cases hn : capNone x.ty x.th x.ri x.ba
  · rw [hn] at h
    simp only [cond_false, Bool.and_eq_true, decide_eq_true_eq] at h
    exact ⟨fun _ => h.2.1, fun e => absurd e (by decide)⟩
  · rw [hn] at h
    simp only [cond_true, Bool.and_eq_true, beq_iff_eq] at h
    exact ⟨fun e => absurd e (by decide), fun _ => h.2⟩
theorem mv_up_next {a b c : Int} {S : List Slot} {T : List Thing} (good : GoodS a b c S T) {x : Slot} (hx : x ∈ S) (hf : capNone x.ty x.th x.ri x.ba = false) : x.up = -1 ∨ (0 ≤ x.up ∧ ∃ y, S[x.up.toNat]? = some y ∧ capNone y.ty y.th y.ri y.ba = false) := by
  have hfo := good.forest
  rw [forestGood_iff] at hfo
  simp only [Bool.and_eq_true, decide_eq_true_eq] at hfo
  have hv := validU_of hfo.2.1
  obtain ⟨k, hk⟩ := List.mem_iff_getElem?.1 hx
  have hu : (S.map upM)[k]? = some x.up := by rw [List.getElem?_map, hk, Option.map_some, upM_full hf]
  have h2 := (mv_up good hx).1 hf
  rcases hv k x.up hu with h | h | ⟨h0, w, hw, hw2⟩
  · omega
  · exact .inl h
  · refine .inr ⟨h0, ?_⟩
    rw [List.getElem?_map] at hw
    obtain ⟨y, hy, hy2⟩ := Option.map_eq_some_iff.1 hw
    refine ⟨y, hy, ?_⟩
    cases hn : capNone y.ty y.th y.ri y.ba
    · rfl
    · rw [upM_none hn] at hy2; omega
section
variable {a b c : Int} {S : List Slot} {T : List Thing} (good : GoodS a b c S T) {i j : Nat} {s u : Slot} (ok : MoveOK S T i j s u)
include good ok
theorem mv_ne : s.up ≠ (i : Int) := fun e => by
  have hf := good.forest
  rw [forestGood_iff] at hf
  simp only [Bool.and_eq_true, decide_eq_true_eq] at hf
  have hil := (List.getElem?_eq_some_iff.1 ok.from').1
  have hi : (S.map upM)[i]? = some (i : Int) := by rw [List.getElem?_map, ok.from', Option.map_some, upM_full ok.full, e]
  have := List.all_eq_true.1 hf.2.2 i (List.mem_range.2 (by rw [List.length_map]; exact hil))
  rw [finU_loop hi] at this
  cases this
theorem mv_renS : renS i j s = s := by unfold renS ren; rw [if_neg (mv_ne good ok)]
theorem mv_get {x : Nat} {y : Slot} (hx : S[x]? = some y) (hy : capNone y.ty y.th y.ri y.ba = false) : (moveS S i j s)[(ren i j (x : Int)).toNat]? = some (renS i j y) := by
  have hil := (List.getElem?_eq_some_iff.1 ok.from').1
  have hjl := (List.getElem?_eq_some_iff.1 ok.to).1
  have hij := mv_ij ok
  have hxj : x ≠ j := fun e => by subst e; rw [ok.to] at hx; cases hx; rw [ok.none] at hy; cases hy
  unfold moveS
  by_cases hxi : x = i
  · subst hxi
    rw [ok.from'] at hx
    cases hx
    rw [show ren x j (x : Int) = (j : Int) from if_pos rfl, Int.toNat_natCast, List.getElem?_set, if_neg hij, List.getElem?_set, if_pos rfl, if_pos (by simpa using hjl), mv_renS good ok]
  · rw [show ren i j (x : Int) = (x : Int) from if_neg (by omega), Int.toNat_natCast, List.getElem?_set, if_neg (Ne.symm hxi), List.getElem?_set, if_neg (Ne.symm hxj), List.getElem?_map, hx]
    rfl
theorem mv_full {m : Nat} {y' : Slot} (hm : (moveS S i j s)[m]? = some y') : (capNone y'.ty y'.th y'.ri y'.ba = true ∧ y'.up = -1 ∧ y'.ty = 0) ∨ ∃ (x : Nat) (y : Slot), S[x]? = some y ∧ capNone y.ty y.th y.ri y.ba = false ∧ (m : Int) = ren i j (x : Int) ∧ y' = renS i j y := by
  have hij := mv_ij ok
  have hml := (List.getElem?_eq_some_iff.1 hm).1
  rw [mv_len] at hml
  by_cases hmi : m = i
  · subst hmi
    unfold moveS at hm
    rw [List.getElem?_set, if_pos rfl] at hm
    split at hm
    · cases hm; exact .inl ⟨rfl, rfl, rfl⟩
    · cases hm
  by_cases hmj : m = j
  · subst hmj
    refine .inr ⟨i, s, ok.from', ok.full, (if_pos rfl).symm, ?_⟩
    have g1 := mv_get good ok ok.from' ok.full
    rw [show ren i m (i : Int) = (m : Int) from if_pos rfl, Int.toNat_natCast, hm] at g1
    exact Option.some.inj g1
  · unfold moveS at hm
    rw [List.getElem?_set, if_neg (Ne.symm hmi), List.getElem?_set, if_neg (Ne.symm hmj), List.getElem?_map, List.getElem?_eq_getElem hml] at hm
    simp only [Option.map_some, Option.some.injEq] at hm
    subst hm
    cases hn : capNone S[m].ty S[m].th S[m].ri S[m].ba
    · exact .inr ⟨m, S[m], List.getElem?_eq_getElem hml, hn, (if_neg (by omega)).symm, rfl⟩
    · have h1 := (mv_up good (List.getElem_mem hml)).2 hn
      refine .inl ⟨hn, ?_, ?_⟩
      · show ren i j S[m].up = -1
        rw [h1]; exact ren_neg (by omega)
      · unfold capNone at hn
        simp only [Bool.and_eq_true, beq_iff_eq] at hn
        exact hn.1
theorem mv_forest : forestGood ((moveS S i j s).map upM) = true := by
  have e : (moveS S i j s).map upM = moveU (S.map upM) i j s.up := by
    unfold moveS moveU
    rw [List.map_set, List.map_set, List.map_map, List.map_map, upM_full ok.full, show upM noS = -2 from rfl]
    congr 2
    refine List.map_congr_left fun x hx => ?_
    show upM (renS i j x) = ren i j (upM x)
    cases hn : capNone x.ty x.th x.ri x.ba
    · rw [upM_full (s := renS i j x) hn, upM_full hn]; rfl
    · rw [upM_none (s := renS i j x) hn, upM_none hn, ren_neg (by omega)]
  rw [e]
  have h2 := (mv_up good (List.mem_of_getElem? ok.from')).1 ok.full
  refine moveU_good good.forest ?_ ?_ (by omega)
  · rw [List.getElem?_map, ok.to, Option.map_some, upM_none ok.none]
  · rw [List.getElem?_map, ok.from', Option.map_some, upM_full ok.full]
theorem mv_allowF {q q' : Slot} (h1 : q'.ty = q.ty) (h2 : q'.th = q.th) (h3 : q'.ri = q.ri) (h4 : q'.ba = q.ba) : ∀ (d : Nat) (at' : Int), (at' < 0 ∨ ∃ y, S[at'.toNat]? = some y ∧ capNone y.ty y.th y.ri y.ba = false) → allowF (moveS S i j s) q' d (ren i j at') = allowF S q d at'
  | 0, _, _ => rfl
  | d + 1, at', h => by
    by_cases hn : at' < 0
    · rw [ren_neg hn]
      unfold allowF
      rw [decide_eq_true hn]; rfl
    · rcases h with h | ⟨y, hy, hyf⟩
      · exact absurd h hn
      · obtain ⟨k, rfl⟩ : ∃ k : Nat, at' = k := ⟨at'.toNat, by omega⟩
        rw [Int.toNat_natCast] at hy
        have hn' : ¬ ren i j (k : Int) < 0 := by unfold ren; split <;> omega
        unfold allowF
        rw [decide_eq_false hn, decide_eq_false hn', mv_get good ok hy hyf, Int.toNat_natCast, hy]
        simp only [cond_false]
        have e : stepOK q' (renS i j y) = stepOK q y := by unfold stepOK renS; rw [h1, h2, h3, h4]
        rw [e, show (renS i j y).up = ren i j y.up from rfl, mv_allowF h1 h2 h3 h4 d y.up]
        rcases mv_up_next good (List.mem_of_getElem? hy) hyf with h | h
        · exact .inl (by omega)
        · exact .inr h.2
theorem mv_allowed : allowedM (moveS S i j s) = true := by
  refine List.all_eq_true.2 fun y' hy' => ?_
  obtain ⟨m, hm⟩ := List.mem_iff_getElem?.1 hy'
  have h0 : 0 < S.length := by have := (List.getElem?_eq_some_iff.1 ok.from').1; omega
  rw [mv_len]
  rcases mv_full good ok hm with ⟨_, h, _⟩ | ⟨x, y, hx, hf, _, rfl⟩
  · obtain ⟨d, hd⟩ : ∃ d, S.length = d + 1 := ⟨S.length - 1, by omega⟩
    rw [hd, h]
    rfl
  · rw [show (renS i j y).up = ren i j y.up from rfl, mv_allowF good ok (q := y) (q' := renS i j y) rfl rfl rfl rfl S.length y.up]
    · exact List.all_eq_true.1 good.allowed y (List.mem_of_getElem? hx)
    · rcases mv_up_next good (List.mem_of_getElem? hx) hf with h | h
      · exact .inl (by omega)
      · exact .inr h.2
end
end Go.Rv
namespace Go.Rv
theorem fr_mail {t : Thing} (h : thingGood t = true) (hf : t.fr ≠ 0) : t.ty = 3 ∧ t.full = true := by
  unfold thingGood at h
  obtain ⟨x1, x2, x3, x4, x5, x6, x7, x8, x9, y1, y2, y3, y4⟩ := t
  simp only at hf
  by_cases h3 : x1 = 3
  · subst h3
    cases x8
    · simp [ownM, eqT] at h
      exact absurd h.1.2.2.1.symm (by omega)
    · exact ⟨rfl, rfl⟩
  · exfalso
    have e3 : (x1 == 3) = false := by simpa using h3
    simp only [ownM, e3, cond_false, Bool.and_eq_true] at h
    have h1 := h.1
    revert h1
    cases x1 == 1 <;> cases x1 == 2 <;> cases x1 == 4 <;> cases x1 == 5 <;> simp [eqT] <;> omega
theorem good_renT {t : Thing} (h : thingGood t = true) {i j : Nat} (hj : j < 96) : thingGood (renT i j t) = true := by
  unfold renT
  by_cases hf : t.fr = (i : Int) + 1
  · obtain ⟨h3, h8⟩ := fr_mail h (by omega)
    rw [if_pos hf]
    unfold thingGood at h ⊢
    obtain ⟨x1, x2, x3, x4, x5, x6, x7, x8, x9, y1, y2, y3, y4⟩ := t
    simp only at h3 h8 hf
    subst h3; subst h8
    simp [ownM, eqT, inM] at h ⊢
    omega
  · rw [if_neg hf]
    exact h
theorem holders_some {S : List Slot} {t : Int} : (holdersM S t).isEmpty = false ↔ ∃ k, k < S.length ∧ holds S t k = true := by
  unfold holdersM holdersF
  rw [← Bool.not_eq_true, List.isEmpty_iff]
  constructor
  · intro h
    by_cases hx : ∃ k, k < S.length ∧ holds S t k = true
    · exact hx
    · exfalso
      refine h ?_
      rw [List.map_eq_nil_iff, List.filter_eq_nil_iff]
      intro k hk hh
      rw [List.mem_range'_1] at hk
      exact hx ⟨k, by omega, hh⟩
  · rintro ⟨k, hk, hh⟩ h
    rw [List.map_eq_nil_iff, List.filter_eq_nil_iff] at h
    exact h k (by rw [List.mem_range'_1]; omega) hh
theorem mv_sim {a b c : Int} {S : List Slot} {T : List Thing} (good : GoodS a b c S T) {i j : Nat} : Sim T (moveT T i j) := by
  refine ⟨by simp [moveT], fun k t t' h1 h2 => ?_⟩
  unfold moveT at h2
  rw [List.getElem?_map, h1] at h2
  cases h2
  refine ⟨rfl, fun h => ?_⟩
  unfold renT
  have : t.fr = 0 := by
    by_cases h0 : t.fr = 0
    · exact h0
    · have := (fr_mail (good.thing (List.mem_of_getElem? h1)) h0).1
      omega
  rw [if_neg (by omega)]
section
variable {a b c : Int} {S : List Slot} {T : List Thing} (good : GoodS a b c S T) {i j : Nat} {s u : Slot} (ok : MoveOK S T i j s u)
include good ok
theorem mv_caps : (moveS S i j s).all (capOK (moveT T i j)) = true := by
  refine List.all_eq_true.2 fun y' hy' => ?_
  rw [(mv_sim good).caps]
  obtain ⟨m, hm⟩ := List.mem_iff_getElem?.1 hy'
  rcases mv_full good ok hm with ⟨hn, hu, _⟩ | ⟨x, y, hx, hf, _, rfl⟩
  · unfold capOK capGood
    rw [hn, hu]; rfl
  · have h := List.all_eq_true.1 good.caps y (List.mem_of_getElem? hx)
    unfold capOK at h ⊢
    rw [hf] at h
    rw [show capNone (renS i j y).ty (renS i j y).th (renS i j y).ri (renS i j y).ba = false from hf]
    simp only [cond_false, Bool.and_eq_true, decide_eq_true_eq] at h ⊢
    refine ⟨h.1, ?_, h.2.2⟩
    show ren i j y.up ≥ -1
    unfold ren
    split <;> omega
theorem mv_things : thingsM a (moveS S i j s) (moveT T i j) = true := by
  have hlen := good.len
  have hjl := (List.getElem?_eq_some_iff.1 ok.to).1
  refine List.all_eq_true.2 fun m hm => ?_
  have hml := List.mem_range.1 hm
  unfold moveT at hml ⊢
  rw [List.length_map] at hml
  rw [List.getElem?_map, List.getElem?_eq_getElem hml, Option.map_some]
  simp only
  have old := List.all_eq_true.1 good.thingsOK m (List.mem_range.2 hml)
  simp only [List.getElem?_eq_getElem hml] at old
  generalize T[m] = t at old ⊢
  unfold thingOK at old ⊢
  simp only [Bool.and_eq_true] at old ⊢
  obtain ⟨o1, o2, o3⟩ := old
  refine ⟨good_renT o1 (by omega), ?_, ?_⟩
  · -- where a letter came from
    rw [mv_len]
    by_cases h0 : t.fr > 0
    rotate_left
    · have : (renT i j t).fr = t.fr := by unfold renT; simp only; rw [if_neg (by omega)]
      rw [this, decide_eq_false h0]; rfl
    rw [decide_eq_true h0] at o2
    simp only [cond_true] at o2
    by_cases h1 : t.fr > (S.length : Int)
    · rw [decide_eq_true h1] at o2; cases o2
    rw [decide_eq_false h1] at o2
    simp only [cond_false] at o2
    obtain ⟨k, hk⟩ : ∃ k : Nat, t.fr = (k : Int) + 1 := ⟨(t.fr - 1).toNat, by omega⟩
    rw [hk, show ((k : Int) + 1 - 1).toNat = k by omega] at o2
    have hkl : k < S.length := by omega
    rw [List.getElem?_eq_getElem hkl] at o2
    simp only [Bool.not_eq_true'] at o2
    have g := mv_get good ok (List.getElem?_eq_getElem hkl) o2
    have hr : (renT i j t).fr = ren i j (k : Int) + 1 := by
      unfold renT ren
      simp only [hk]
      by_cases e : k = i
      · rw [if_pos (by omega), if_pos (by omega)]
      · rw [if_neg (by omega), if_neg (by omega)]
    have hp : 0 ≤ ren i j (k : Int) ∧ ren i j (k : Int) < S.length := by unfold ren; split <;> omega
    rw [hr, decide_eq_true (by omega), decide_eq_false (by omega), show ren i j (k : Int) + 1 - 1 = ren i j (k : Int) by omega, g]
    simp only [cond_true, cond_false, Bool.not_eq_true']
    exact o2
  · show (bif decide ((m : Int) ≥ 2) && decide ((m : Int) < 2 + a) then rootEq (renT i j t) (8 * ((m : Int) - 2)) else (bif t.ty != 0 then !(holdersM (moveS S i j s) (m : Int)).isEmpty else true)) = true
    cases hr : (decide ((m : Int) ≥ 2) && decide ((m : Int) < 2 + a))
    · rw [hr] at o3
      simp only [cond_false] at o3 ⊢
      cases ht : t.ty != 0
      · rfl
      · rw [ht] at o3
        simp only [cond_true, Bool.not_eq_true'] at o3 ⊢
        obtain ⟨k, hk, hh⟩ := holders_some.1 o3
        rw [holders_some, mv_len]
        unfold holds at hh
        rw [List.getElem?_eq_getElem hk] at hh
        simp only [Bool.and_eq_true, Bool.not_eq_true'] at hh
        have g := mv_get good ok (List.getElem?_eq_getElem hk) hh.1
        refine ⟨(ren i j (k : Int)).toNat, by unfold ren; split <;> omega, ?_⟩
        unfold holds
        rw [g]
        simp only [Bool.and_eq_true, Bool.not_eq_true']
        exact hh
    · rw [hr] at o3
      simp only [cond_true] at o3 ⊢
      have hf : t.fr = 0 := by
        unfold rootEq at o3
        simp only [Bool.and_eq_true, beq_iff_eq] at o3
        exact o3.2.2.2.2.2.1
      have : renT i j t = t := by unfold renT; rw [if_neg (by omega)]
      rw [this]; exact o3
theorem mv_nodes : nodesM (moveS S i j s) (moveT T i j) = true := by
  have hall := allGood_of (mv_things good ok)
  rw [nodesM_iff hall]
  refine (mv_sim good).nodes ?_
  refine ⟨fun t q ht hq => by rw [mv_len]; exact good.nodesP.inside t q ht hq, good.nodesP.apart, fun m y' hm hf => ?_⟩
  rcases mv_full good ok hm with ⟨hn, _⟩ | ⟨x, y, hx, hxf, hmx, _⟩
  · rw [hn] at hf; cases hf
  · by_cases e : x = i
    · subst e
      rw [show ren x j (x : Int) = (j : Int) from if_pos rfl] at hmx
      have : m = j := by omega
      subst this
      exact ok.owner
    · rw [show ren i j (x : Int) = (x : Int) from if_neg (by omega)] at hmx
      have : m = x := by omega
      subst this
      exact good.nodesP.full m y hx hxf
theorem mv_reach {k q : Int} (h : Reach (moveS S i j s) T k q) : Reach S T k q ∨ (s.ty = 2 ∧ thereM T s.th = true ∧ Reach S T k (ownerM T (j : Int)) ∧ Reach (moveS S i j s) T s.th q) := by
  induction h with
  | here k => exact .inl (.here k)
  | @step k p r e h ih =>
    obtain ⟨m, y', t, hm, h2, h0, ht, hhas, hth, rfl⟩ := e
    rcases mv_full good ok hm with ⟨_, _, h⟩ | ⟨x, y, hx, hxf, hmx, rfl⟩
    · omega
    by_cases e : x = i
    · subst e
      rw [ok.from'] at hx
      cases hx
      rw [show ren x j (x : Int) = (j : Int) from if_pos rfl] at hmx
      have hmj : m = j := by omega
      subst hmj
      have ho : ownerM T (m : Int) = k := by
        have := good.nodesP.apart.owner ht hhas
        omega
      exact .inr ⟨h2, hth, by rw [ho]; exact .here _, h⟩
    · rw [show ren i j (x : Int) = (x : Int) from if_neg (by omega)] at hmx
      have hmx' : m = x := by omega
      subst hmx'
      have e1 : Succ S T k (renS i j y).th := ⟨m, y, t, hx, h2, h0, ht, hhas, hth, rfl⟩
      rcases ih with g | ⟨g1, g2, g3, g4⟩
      · exact .inl (.step e1 g)
      · exact .inr ⟨g1, g2, .step e1 g3, g4⟩
theorem mv_inside (hty : s.ty = 2) (hr : Reach S T s.th (ownerM T (j : Int))) : False := by
  have hcap := List.all_eq_true.1 good.caps s (List.mem_of_getElem? ok.from')
  unfold capOK at hcap
  rw [ok.full] at hcap
  simp only [cond_false, Bool.and_eq_true] at hcap
  refine ok.ring hty ⟨hcap.2.2.1, ?_, hr⟩
  have h4 := hcap.2.2.2
  cases ht : T[s.th.toNat]? with
  | none => rw [ht] at h4; cases h4
  | some t =>
    rw [ht] at h4
    exact ⟨t, rfl, by rw [← hty]; simpa using h4⟩
theorem mv_no (hty : s.ty = 2) : ¬ Reach (moveS S i j s) T s.th (ownerM T (j : Int)) := by
  intro h
  rcases mv_reach good ok h with g | ⟨_, _, g, _⟩
  · exact mv_inside good ok hty g
  · exact mv_inside good ok hty g
theorem mv_reach2 {k q : Int} (h : Reach S T k q) : Reach (moveS S i j s) T k q ∨ (s.ty = 2 ∧ Reach S T s.th q) := by
  induction h with
  | here k => exact .inl (.here k)
  | @step k p r e h ih =>
    obtain ⟨m, y, t, hm, h2, h0, ht, hhas, hth, rfl⟩ := e
    by_cases e : m = i
    · subst e
      rw [ok.from'] at hm
      cases hm
      exact .inr ⟨h2, h⟩
    · have hy : capNone y.ty y.th y.ri y.ba = false := by unfold capNone; rw [h2]; rfl
      have g := mv_get good ok hm hy
      rw [show ren i j (m : Int) = (m : Int) from if_neg (by omega), Int.toNat_natCast] at g
      rcases ih with r | r
      · exact .inl (.step ⟨m, renS i j y, t, g, h2, h0, ht, hhas, hth, rfl⟩ r)
      · exact .inr r
theorem mv_ring : ¬ RingP (moveS S i j s) (moveT T i j) := by
  intro hr
  obtain ⟨m, y', hm, h2, hth, hty, h⟩ := (mv_sim good).symm.ring hr
  rcases mv_full good ok hm with ⟨_, _, h0⟩ | ⟨x, y, hx, hxf, hmx, rfl⟩
  · omega
  by_cases e : x = i
  · subst e
    rw [ok.from'] at hx
    cases hx
    rw [show ren x j (x : Int) = (j : Int) from if_pos rfl] at hmx
    have hmj : m = j := by omega
    subst hmj
    exact mv_no good ok h2 h
  · rw [show ren i j (x : Int) = (x : Int) from if_neg (by omega)] at hmx
    have hmx' : m = x := by omega
    subst hmx'
    rcases mv_reach good ok h with g | ⟨g1, g2, g3, g4⟩
    · exact good.ring ⟨m, y, hx, h2, hth, hty, g⟩
    · -- round by way of the moved one
      have ho := good.nodesP.full m y hx hxf
      obtain ⟨o1, o2⟩ | ⟨k, t, hk, ht, hhas⟩ := ownerM_spec T (m : Int)
      · omega
      have e1 : Succ (moveS S i j s) T (ownerM T (m : Int)) y.th := ⟨m, renS i j y, t, hm, h2, ho, by rw [hk, Int.toNat_natCast]; exact ht, hhas, hth, rfl⟩
      rcases mv_reach2 good ok g3 with r | ⟨_, r⟩
      · exact mv_no good ok g1 (Reach.trans _ _ g4 (.step e1 r))
      · exact mv_inside good ok g1 r
end
theorem GoodS.moved {a b c : Int} {S : List Slot} {T : List Thing} (good : GoodS a b c S T) {i j : Nat} {s u : Slot} (ok : MoveOK S T i j s u) : GoodS a b c (moveS S i j s) (moveT T i j) :=
  ⟨good.geo, by rw [mv_len]; exact good.slots, by unfold moveT; rw [List.length_map]; exact good.things, mv_caps good ok, mv_things good ok, mv_nodes good ok, mv_ring good ok, mv_forest good ok, mv_allowed good ok⟩
end Go.Rv
namespace Go.Rv
def kidI (C : List Nat) : List Int := C.map fun (k : Nat) => (k : Int)
theorem kidI_snoc (C : List Nat) (m : Nat) : encI (kidI C) ++ [[.i .i64 (m : Int)]] = encI (kidI (C ++ [m])) := by simp [encI, kidI]
section
variable {ρ : Type} (n : Nat)
theorem of1_then (hn : 200 ≤ n) (p q : Bool) (U : List Int) (hU : U.length ≤ 100) (up : Int) (k0 : Option ρ) (k1 : Nat → Nat → Rows → Option ρ) (R : Option ρ) (h0 : (∀ k : Nat, U[k]? ≠ some up) → k0 = R)
    (h1 : ∀ C : List Nat, (∀ k, k ∈ C ↔ U[k]? = some up) → C.length ≤ U.length → k1 C.length C.length (encI (kidI C)) = R) : forest_Forest_of_i1 n ρ p q (encI U) up k0 k1 = R := by
  have more : ∀ (d i m : Nat) (C : List Nat), i + d = U.length → d < m → C.length ≤ i → (∀ k, k ∈ C ↔ (k < i ∧ U[k]? = some up)) →
      fuelN (forest_Forest_of_i1_l3_s (forest_Forest_of_i1_g n) n up p q (encI U) ((U.length : Nat) : Int) p q (encI U) k0 (fun a b c => k1 a b c)) m (.inr (C.length, C.length, (i : Int), encI (kidI C))) = R := by
    intro d
    induction d with
    | zero =>
      intro i m C h hm hc hC
      obtain ⟨m, rfl⟩ : ∃ k, m = k + 1 := ⟨m - 1, by omega⟩
      rw [fuelN_succ]
      unfold forest_Forest_of_i1_l3_s
      simp only
      rw [decide_eq_false (show ¬ ((i : Nat) : Int) < ((U.length : Nat) : Int) by omega)]
      refine h1 C (fun k => ?_) (by omega)
      rw [hC]
      exact ⟨fun h => h.2, fun h => ⟨by have := (List.getElem?_eq_some_iff.1 h).1; omega, h⟩⟩
    | succ d ih =>
      intro i m C h hm hc hC
      obtain ⟨m, rfl⟩ : ∃ k, m = k + 1 := ⟨m - 1, by omega⟩
      have ih := fun C => ih (i + 1) m C (by omega) (by omega)
      have hi : i < U.length := by omega
      rw [fuelN_succ]
      generalize fuelN _ m = rec at ih ⊢
      unfold forest_Forest_of_i1_l3_s
      simp only
      rw [decide_eq_true (show ((i : Nat) : Int) < ((U.length : Nat) : Int) by omega), bif_t, rowT_I hi, wrap_id (by omega) (by omega)]
      cases he : U[i] == up
      · refine ih C (by omega) (fun k => ?_)
        rw [hC]
        have hne : U[i] ≠ up := by simpa using he
        constructor
        · exact fun h => ⟨by omega, h.2⟩
        · intro h
          refine ⟨?_, h.2⟩
          by_cases e : k = i
          · subst e; rw [List.getElem?_eq_getElem hi] at h; exact absurd (Option.some.inj h.2) hne
          · omega
      · have e1 : ((encI (kidI C)).length == C.length) = true := by rw [encI_len]; simp [kidI]
        have e2 : decide (C.length + 1 ≤ most) = true := decide_eq_true (by unfold most; omega)
        have he' : U[i] = up := by simpa using he
        simp only [bif_t, e1, e2, chk_t, beq_self_eq_true]
        rw [kidI_snoc]
        have := ih (C ++ [i]) (by simp; omega) (fun k => by
          rw [List.mem_append, hC, List.mem_singleton]
          constructor
          · rintro (h | rfl)
            · exact ⟨by omega, h.2⟩
            · exact ⟨by omega, by rw [List.getElem?_eq_getElem hi, he']⟩
          · intro h
            by_cases e : k = i
            · exact .inr e
            · exact .inl ⟨by omega, h.2⟩)
        rw [List.length_append] at this
        exact this
  have first : ∀ (d i m : Nat), i + d = U.length → d < m → (∀ k, k < i → U[k]? ≠ some up) →
      fuelN (forest_Forest_of_i1_l3_s (forest_Forest_of_i1_g n) n up p q (encI U) ((U.length : Nat) : Int) p q (encI U) k0 (fun a b c => k1 a b c)) m (.inl (i : Int)) = R := by
    intro d
    induction d with
    | zero =>
      intro i m h hm hno
      obtain ⟨m, rfl⟩ : ∃ k, m = k + 1 := ⟨m - 1, by omega⟩
      rw [fuelN_succ]
      unfold forest_Forest_of_i1_l3_s
      simp only
      rw [decide_eq_false (show ¬ ((i : Nat) : Int) < ((U.length : Nat) : Int) by omega)]
      refine h0 fun k hk => hno k ?_ hk
      have := (List.getElem?_eq_some_iff.1 hk).1
      omega
    | succ d ih =>
      intro i m h hm hno
      obtain ⟨m, rfl⟩ : ∃ k, m = k + 1 := ⟨m - 1, by omega⟩
      have ih := ih (i + 1) m (by omega) (by omega)
      have more := fun C => more d (i + 1) m C (by omega) (by omega)
      have hi : i < U.length := by omega
      rw [fuelN_succ]
      generalize fuelN _ m = rec at ih more ⊢
      unfold forest_Forest_of_i1_l3_s
      simp only
      rw [decide_eq_true (show ((i : Nat) : Int) < ((U.length : Nat) : Int) by omega), bif_t, rowT_I hi, wrap_id (by omega) (by omega)]
      cases he : U[i] == up
      · refine ih fun k hk => ?_
        by_cases e : k = i
        · subst e; rw [List.getElem?_eq_getElem hi]; simpa using he
        · exact hno k (by omega)
      · have he' : U[i] = up := by simpa using he
        refine more [i] (by simp) fun k => ?_
        rw [List.mem_singleton]
        constructor
        · rintro rfl; exact ⟨by omega, by rw [List.getElem?_eq_getElem hi, he']⟩
        · intro h
          by_cases e : k = i
          · exact e
          · exact absurd h.2 (hno k (by omega))
  show forest_Forest_of_i1_s (forest_Forest_of_i1_g n) n p q (encI U) up k0 k1 = R
  unfold forest_Forest_of_i1_s forest_Forest_of_i1_l3
  rw [encI_len]
  exact first U.length 0 n (by omega) (by omega) (fun k hk => by omega)
theorem rowN_Ia {l : List Int} {i : Nat} (h : i < l.length) (K : CT [.a] → Option ρ) : rowN [.a] (encI l) i K = K (.i .i64 l[i], ()) := by
  unfold rowN encI
  simp only [List.getElem?_map, List.getElem?_eq_getElem h, Option.map_some]
  rfl
theorem encI_set (l : List Int) (i : Nat) (v : Int) : (encI l).set i [.i .i64 v] = encI (l.set i v) := by simp [encI, List.map_set]
theorem kids_loop (U : List Int) (_hU : U.length ≤ 100) {i j : Nat} (C : List Nat) (hC : ∀ k, k ∈ C ↔ U[k]? = some (i : Int)) (hCl : C.length ≤ 100) (k0 : Rows → Option ρ) (R : Option ρ) (h : k0 (encI (U.map (ren i j))) = R) :
    ∀ (d c m : Nat) (V : List Int), c + d = C.length → d < m → V.length = U.length → (∀ k : Nat, V[k]? = if k ∈ C.take c then some (j : Int) else U[k]?) →
      fuelN (Q1_l5_3_s (Q1_g n) n (i : Int) (j : Int) C.length C.length ((C.length : Nat) : Int) U.length U.length (encI (kidI C)) k0) m ((c : Int), encI V) = R := by
  intro d
  induction d with
  | zero =>
    intro c m V hc hm hV hk
    obtain ⟨m, rfl⟩ : ∃ k, m = k + 1 := ⟨m - 1, by omega⟩
    rw [fuelN_succ]
    unfold Q1_l5_3_s
    simp only
    rw [decide_eq_false (show ¬ ((c : Nat) : Int) < ((C.length : Nat) : Int) by omega), bif_f]
    have e : V = U.map (ren i j) := by
      apply List.ext_getElem?
      intro k
      rw [hk, List.getElem?_map, List.take_of_length_le (by omega)]
      by_cases hkC : k ∈ C
      · rw [if_pos hkC, (hC k).1 hkC]
        simp [ren]
      · rw [if_neg hkC]
        cases hu : U[k]? with
        | none => rfl
        | some x =>
          have : x ≠ (i : Int) := fun e => hkC ((hC k).2 (by rw [hu, e]))
          simp [ren, this]
    rw [e]
    exact h
  | succ d ih =>
    intro c m V hc hm hV hk
    obtain ⟨m, rfl⟩ : ∃ k, m = k + 1 := ⟨m - 1, by omega⟩
    have ih := fun V => ih (c + 1) m V (by omega) (by omega)
    have hcl : c < C.length := by omega
    have hkl : c < (kidI C).length := by simp [kidI]; exact hcl
    have hg : (kidI C)[c] = ((C[c] : Nat) : Int) := by simp [kidI]
    have hin : C[c] < U.length := (List.getElem?_eq_some_iff.1 ((hC C[c]).1 (List.getElem_mem hcl))).1
    rw [fuelN_succ]
    generalize fuelN _ m = rec at ih ⊢
    unfold Q1_l5_3_s
    simp only
    rw [decide_eq_true (show ((c : Nat) : Int) < ((C.length : Nat) : Int) by omega), bif_t, decide_eq_true (show (0 : Int) ≤ ((c : Nat) : Int) by omega), chk_t, chk_t, encI_len, show ((kidI C).length == C.length) = true by simp [kidI], chk_t, Nat.zero_add, Int.toNat_natCast, rowN_I hkl]
    simp only [hg, Nat.zero_add, Int.toNat_natCast]
    rw [decide_eq_true (show (0 : Int) ≤ ((C[c] : Nat) : Int) by omega), chk_t, decide_eq_true (show ((C[c] : Nat) : Int) < ((U.length : Nat) : Int) by omega), chk_t, encI_len, hV, show (U.length == U.length) = true by simp, chk_t, rowN_Ia (by omega), wrap_id (by omega) (by omega), encI_set]
    refine ih (V.set C[c] (j : Int)) (by rw [List.length_set]; exact hV) (fun k => ?_)
    rw [List.getElem?_set, hk, hV, List.take_add_one, List.getElem?_eq_getElem hcl]
    simp only [Option.toList_some, List.mem_append, List.mem_singleton]
    by_cases e : C[c] = k
    · rw [if_pos e, if_pos hin, if_pos (.inr e.symm)]
    · rw [if_neg e]
      by_cases e2 : k ∈ C.take c
      · rw [if_pos e2, if_pos (.inl e2)]
      · rw [if_neg e2, if_neg (fun h => h.elim e2 fun h => e h.symm)]
end
end Go.Rv
namespace Go.Rv
section
variable {ρ : Type} (n : Nat)
theorem cloneI_eq (y : Bool) (U : List Int) (hU : U.length < 1000000) (k0 : Option ρ) (k1 : Nat → Nat → Rows → Option ρ) : Q08 n ρ false y (encI U) k0 k1 = k1 U.length U.length (encI U) := by
  show slices_Clone_int_s (slices_Clone_int_g n) n false y (encI U) k0 (fun a b c => k1 a b c) = _
  unfold slices_Clone_int_s
  have e1 : (List.all (encI U) fun e => e.length == 1) = true := by simp [encI]
  have e2 : (List.all (encI U) fun e => !ownL e) = true := by
    rw [List.all_eq_true]
    intro e he
    obtain ⟨x, _, rfl⟩ := List.mem_map.1 he
    rfl
  have e3 : decide (0 + (encI U).length ≤ most) = true := by
    rw [encI_len]
    exact decide_eq_true (by unfold most; omega)
  rw [bif_f, e1, chk_t, e3, chk_t, e2, chk_t, encI_len, Nat.zero_add]
  rfl
theorem Move_then (hn : 200 ≤ n) (q : Bool) {U : List Int} {i j : Nat} {v : Int} (hf : forestGood U = true) (hj : U[j]? = some (-2)) (hi : U[i]? = some v) (h2 : v ≠ -2) (hvi : v ≠ (i : Int)) (k0 : Option ρ) (k1 : Nat → Nat → Rows → Option ρ) (R : Option ρ) (h : k1 U.length U.length (encI (moveU U i j v)) = R) :
    Q1 n ρ false q (encI U) (i : Int) (j : Int) k0 k1 = R := by
  obtain ⟨hil, hi2⟩ := List.getElem?_eq_some_iff.1 hi
  obtain ⟨hjl, hj2⟩ := List.getElem?_eq_some_iff.1 hj
  have hij : i ≠ j := fun e => by subst e; rw [hj] at hi; cases hi; exact h2 rfl
  have hl : U.length ≤ 96 := by
    have := hf
    rw [forestGood_iff] at this
    simp only [Bool.and_eq_true, decide_eq_true_eq] at this
    exact this.1
  have hmi : isM U (i : Int) = true := by
    unfold isM
    rw [Int.toNat_natCast, hi]
    simp only [Bool.and_eq_true, decide_eq_true_eq]
    exact ⟨by omega, by omega, by simpa using h2⟩
  have hmj : isM U (j : Int) = false := by
    unfold isM
    rw [Int.toNat_natCast, hj]
    simp
  have may : ∀ (K : Bool → Option ρ), (Q1_g n).Q03 ρ false q (encI U) (i : Int) K = K true := by
    intro K
    show Q03_s (Q03_g n) n false q (encI U) (i : Int) K = _
    unfold Q03_s
    simp only [Q03_g, forestGood_eq n false q U (by omega), hf, is_eq, hmi, cond_true]
  have fin : ∀ V : List Int, V = U.map (ren i j) → ((V.set j v).set i (-2)) = moveU U i j v := fun V e => by rw [e]; rfl
  have tail : ∀ V : List Int, V = U.map (ren i j) → (
      chk (decide ((0 : Int) ≤ (i : Int))) <|
      chk (decide ((i : Int) < ((U.length : Nat) : Int))) <|
      chk (((List.length (encI V)) : Nat) == U.length) <|
      rowN [.i .i64] (encI V) (0 + ((i : Nat) : Int).toNat) fun c13 =>
      chk (decide ((0 : Int) ≤ (j : Int))) <|
      chk (decide ((j : Int) < ((U.length : Nat) : Int))) <|
      chk (((List.length (encI V)) : Nat) == U.length) <|
      rowN [.a] (encI V) (0 + ((j : Nat) : Int).toNat) fun c14 =>
      chk (decide ((0 : Int) ≤ (i : Int))) <|
      chk (decide ((i : Int) < ((U.length : Nat) : Int))) <|
      chk (((List.length ((List.set (encI V) (0 + ((j : Nat) : Int).toNat) [.i .i64 c13.1]) : Rows)) : Nat) == U.length) <|
      rowN [.a] (List.set (encI V) (0 + ((j : Nat) : Int).toNat) [.i .i64 c13.1]) (0 + ((i : Nat) : Int).toNat) fun c15 =>
      k1 U.length U.length (List.set ((List.set (encI V) (0 + ((j : Nat) : Int).toNat) [.i .i64 c13.1]) : Rows) (0 + ((i : Nat) : Int).toNat) [.i .i64 (-2)])) = R := by
    intro V hV
    have hVl : V.length = U.length := by rw [hV, List.length_map]
    have hiV : i < V.length := by omega
    have hjV : j < V.length := by omega
    have hVi : V[i] = v := by
      have : V[i]? = some v := by rw [hV, List.getElem?_map, hi, Option.map_some]; unfold ren; rw [if_neg hvi]
      exact (List.getElem?_eq_some_iff.1 this).2
    have el : ∀ W : List Int, W.length = U.length → ((encI W).length == U.length) = true := fun W h => by rw [encI_len, h]; simp
    simp only [decide_eq_true (show (0 : Int) ≤ ((i : Nat) : Int) by omega), decide_eq_true (show (0 : Int) ≤ ((j : Nat) : Int) by omega), decide_eq_true (show ((i : Nat) : Int) < ((U.length : Nat) : Int) by omega), decide_eq_true (show ((j : Nat) : Int) < ((U.length : Nat) : Int) by omega), chk_t, el V hVl, Nat.zero_add, Int.toNat_natCast, rowN_I hiV, rowN_Ia hjV, encI_set, hVi, el (V.set j v) (by rw [List.length_set]; exact hVl), rowN_Ia (show i < (V.set j v).length by rw [List.length_set]; exact hiV), fin V hV]
    exact h
  show Q1_s (Q1_g n) n false q (encI U) (i : Int) (j : Int) k0 k1 = _
  unfold Q1_s
  rw [may, bif_t, encI_len, decide_eq_false (show ¬ ((j : Nat) : Int) < 0 by omega), bif_f, decide_eq_false (show ¬ ((j : Nat) : Int) ≥ ((U.length : Nat) : Int) by omega), bif_f, show (Q1_g n).forest_Forest_is = forest_Forest_is n from rfl, is_eq, hmj, bif_f, show (Q1_g n).Q08 = Q08 n from rfl, cloneI_eq n q U (by omega), encI_len, show (U.length == U.length) = true by simp, chk_t,
    show List.take U.length (List.drop 0 (encI U)) = encI U by rw [List.drop_zero, List.take_of_length_le (by rw [encI_len]; exact Nat.le_refl _)], show (Q1_g n).forest_Forest_of_i1 = forest_Forest_of_i1 n from rfl]
  refine of1_then n hn false false U (by omega) (i : Int) _ _ R (fun hno => ?_) (fun C hC hCl => ?_)
  · -- no children
    obtain ⟨m, rfl⟩ : ∃ m, n = m + 1 := ⟨n - 1, by omega⟩
    unfold Q1_l5_1
    rw [fuelN_succ]
    unfold Q1_l5_1_s
    have e : U = U.map (ren i j) := by
      apply List.ext_getElem?
      intro k
      rw [List.getElem?_map]
      cases hu : U[k]? with
      | none => rfl
      | some x =>
        have : x ≠ (i : Int) := fun e => hno k (by rw [hu, e])
        simp [ren, this]
    have := tail U e
    rw [encI_len, show (U.length == U.length) = true by simp] at this
    exact this
  · have hs : stayR ⟨.sl 0 C.length 1 0 C.length, [.row 1 true false (encI (kidI C))], []⟩ = false := by
      have e : ((encI (kidI C)).any staysL) = false := by
        rw [← Bool.not_eq_true, List.any_eq_true]
        rintro ⟨x, hx, hs⟩
        obtain ⟨y, _, rfl⟩ := List.mem_map.1 hx
        simp [staysL, AV.stays] at hs
      simp only [stayR, List.any_cons, List.any_nil, e, AV.stays, Bool.or_self]
    rw [hs, bif_f]
    unfold Q1_l5_3
    refine kids_loop n U (by omega) C hC (by omega) _ R ?_ C.length 0 n U (by omega) (by omega) rfl (fun k => by simp)
    exact tail _ rfl
end
end Go.Rv
namespace Go.Rv
theorem rowN_S {ρ : Type} {l : List Slot} {i : Nat} (h : i < l.length) (K : CT i5 → Option ρ) : rowN i5 (encS l) i K = K (l[i].c) := by
  unfold rowN encS
  simp only [List.getElem?_map, List.getElem?_eq_getElem h, Option.map_some]
  rfl
theorem rowN_T {ρ : Type} {l : List Thing} {i : Nat} (h : i < l.length) (K : CT i13 → Option ρ) : rowN i13 (encT l) i K = K (l[i].c) := by
  unfold rowN encT
  simp only [List.getElem?_map, List.getElem?_eq_getElem h, Option.map_some]
  rfl
theorem rowN_Ta' {ρ : Type} {l : List Thing} {i : Nat} (h : i < l.length) (K : CT [.a, .a, .a, .a, .a, .a, .a, .a, .a, .a, .a, .a, .a] → Option ρ) : rowN [.a, .a, .a, .a, .a, .a, .a, .a, .a, .a, .a, .a, .a] (encT l) i K =
    K (.i .i64 l[i].ty, .i .i64 l[i].bits, .i .i64 l[i].base, .i .i64 l[i].size, .i .i64 l[i].used, .i .i64 l[i].fr, .i .i64 l[i].badge, .b l[i].full, .i .u64 l[i].word, .i .u64 l[i].d0, .i .u64 l[i].d1, .i .u64 l[i].d2, .i .u64 l[i].d3, ()) := by
  unfold rowN encT
  simp only [List.getElem?_map, List.getElem?_eq_getElem h, Option.map_some]
  rfl
theorem rowN_Ii {ρ : Type} {l : List Int} {i : Nat} (h : i < l.length) (K : CT [.i .i64] → Option ρ) : rowN [.i .i64] (encI l) i K = K (l[i], ()) := rowN_I h K
theorem encT_set' (l : List Thing) (i : Nat) (s : Thing) : (encT l).set i s.row = encT (l.set i s) := by simp [encT, List.map_set]
def clip (u : Int) : Int := if (-1) > u then (-1) else u
section
variable {ρ : Type} (n : Nat)
theorem ups_loop {U : List Int} {S1 Sf : List Slot} (hl : S1.length = U.length) (hlf : Sf.length = U.length) (hU : U.length ≤ 100) (hf : ∀ k (h : k < U.length), Sf[k]'(by omega) = { S1[k]'(by omega) with up := clip U[k] })
    (q0 q1 q5 q6 q7 : Int) (q10 q11 q13 q14 : Nat) (q16 : Rows) (k0 : Rows → Option ρ) :
    ∀ (d m f : Nat) (V : List Slot), m + d = U.length → d < f → V.length = U.length → (∀ k : Nat, V[k]? = if k < m then Sf[k]? else S1[k]?) →
      fuelN (Q0_l5_3_s (Q0_g n) n q0 q1 U.length U.length ((U.length : Nat) : Int) q5 q6 q7 U.length U.length q10 q11 (encI U) q13 q14 q16 k0) f ((m : Int), encS V) = k0 (encS Sf) := by
  intro d
  induction d with
  | zero =>
    intro m f V hm hf0 hV hk
    obtain ⟨f, rfl⟩ : ∃ k, f = k + 1 := ⟨f - 1, by omega⟩
    rw [fuelN_succ]
    unfold Q0_l5_3_s
    simp only
    rw [decide_eq_false (show ¬ ((m : Nat) : Int) < ((U.length : Nat) : Int) by omega), bif_f]
    have e : V = Sf := by
      apply List.ext_getElem?
      intro k
      rw [hk]
      by_cases h : k < m
      · rw [if_pos h]
      · rw [if_neg h, List.getElem?_eq_none (by omega), List.getElem?_eq_none (by omega)]
    rw [e]
  | succ d ih =>
    intro m f V hm hf0 hV hk
    obtain ⟨f, rfl⟩ : ∃ k, f = k + 1 := ⟨f - 1, by omega⟩
    have ih := fun V => ih (m + 1) f V (by omega) (by omega)
    have hmU : m < U.length := by omega
    have hmV : m < V.length := by omega
    have hVm : V[m] = S1[m] := by
      have := hk m
      rw [if_neg (by omega), List.getElem?_eq_getElem hmV, List.getElem?_eq_getElem (by omega)] at this
      exact Option.some.inj this
    rw [fuelN_succ]
    generalize fuelN _ f = rec at ih ⊢
    unfold Q0_l5_3_s
    simp only
    rw [decide_eq_true (show ((m : Nat) : Int) < ((U.length : Nat) : Int) by omega), bif_t, decide_eq_true (show (0 : Int) ≤ ((m : Nat) : Int) by omega), chk_t, chk_t, encI_len, show (U.length == U.length) = true by simp, chk_t, Nat.zero_add, Int.toNat_natCast, rowN_Ii hmU, chk_t, chk_t, encS_len, hV, show (U.length == U.length) = true by simp, chk_t, rowN_Sa hmV, wrap_id (by omega) (by omega), hVm]
    have e : ([.i .i64 S1[m].ty, .i .i64 S1[m].th, .i .i64 S1[m].ri, .i .i64 S1[m].ba, .i .i64 (if (-1) > U[m] then (-1) else U[m])] : List AV) = (Sf[m]'(by omega)).row := by rw [hf m hmU]; rfl
    rw [show (List.set (encS V) m [.i .i64 S1[m].ty, .i .i64 S1[m].th, .i .i64 S1[m].ri, .i .i64 S1[m].ba, .i .i64 (if (-1) > U[m] then (-1) else U[m])]) = encS (V.set m (Sf[m]'(by omega))) by rw [e, encS_set]]
    refine ih (V.set m (Sf[m]'(by omega))) (by rw [List.length_set]; exact hV) (fun k => ?_)
    rw [List.getElem?_set, hk]
    by_cases h : m = k
    · subst h
      rw [if_pos rfl, if_pos hmV, if_pos (by omega), List.getElem?_eq_getElem (by omega)]
    · rw [if_neg h]
      by_cases h2 : k < m
      · rw [if_pos h2, if_pos (by omega)]
      · rw [if_neg h2, if_neg (by omega)]
theorem froms_loop {T : List Thing} (hT : T.length ≤ 100) {i j : Nat} (hi : i < 1000) (hj : j < 1000) (q3 q4 q5 : Int) (q6 q7 : Nat) (q10 : Rows) (q11 q12 : Nat) (q13 : Rows) (k0 : Rows → Option ρ) :
    ∀ (d m f : Nat) (V : List Thing), m + d = T.length → d < f → V.length = T.length → (∀ k : Nat, V[k]? = if k < m then (moveT T i j)[k]? else T[k]?) →
      fuelN (Q0_l10_3_s (Q0_g n) n (i : Int) (j : Int) ((T.length : Nat) : Int) q3 q4 q5 q6 q7 T.length T.length q10 q11 q12 q13 k0) f ((m : Int), encT V) = k0 (encT (moveT T i j)) := by
  have hml : (moveT T i j).length = T.length := by simp [moveT]
  intro d
  induction d with
  | zero =>
    intro m f V hm hf0 hV hk
    obtain ⟨f, rfl⟩ : ∃ k, f = k + 1 := ⟨f - 1, by omega⟩
    rw [fuelN_succ]
    unfold Q0_l10_3_s
    simp only
    rw [decide_eq_false (show ¬ ((m : Nat) : Int) < ((T.length : Nat) : Int) by omega), bif_f]
    have e : V = moveT T i j := by
      apply List.ext_getElem?
      intro k
      rw [hk]
      by_cases h : k < m
      · rw [if_pos h]
      · rw [if_neg h, List.getElem?_eq_none (by omega), List.getElem?_eq_none (by omega)]
    rw [e]
  | succ d ih =>
    intro m f V hm hf0 hV hk
    obtain ⟨f, rfl⟩ : ∃ k, f = k + 1 := ⟨f - 1, by omega⟩
    have ih := fun V => ih (m + 1) f V (by omega) (by omega)
    have hmT : m < T.length := by omega
    have hmV : m < V.length := by omega
    have hVm : V[m] = T[m] := by
      have := hk m
      rw [if_neg (by omega), List.getElem?_eq_getElem hmV, List.getElem?_eq_getElem hmT] at this
      exact Option.some.inj this
    have hMm : (moveT T i j)[m]? = some (renT i j T[m]) := by unfold moveT; rw [List.getElem?_map, List.getElem?_eq_getElem hmT]; rfl
    have next : ∀ W : List Thing, W.length = T.length → W[m]? = some (renT i j T[m]) → (∀ k : Nat, k ≠ m → W[k]? = V[k]?) → True → (∀ k : Nat, W[k]? = if k < m + 1 then (moveT T i j)[k]? else T[k]?) := by
      intro W hW h1 h2 _ k
      by_cases e : k = m
      · subst e; rw [if_pos (by omega), h1, hMm]
      · rw [h2 k e, hk]
        by_cases h : k < m
        · rw [if_pos h, if_pos (by omega)]
        · rw [if_neg h, if_neg (by omega)]
    rw [fuelN_succ]
    generalize fuelN _ f = rec at ih ⊢
    unfold Q0_l10_3_s
    simp only
    rw [decide_eq_true (show ((m : Nat) : Int) < ((T.length : Nat) : Int) by omega), bif_t, decide_eq_true (show (0 : Int) ≤ ((m : Nat) : Int) by omega), chk_t, chk_t, encT_len, hV, show (T.length == T.length) = true by simp, chk_t, Nat.zero_add, Int.toNat_natCast, rowN_T hmV, wrap_id (show (-9223372036854775808 : Int) ≤ (i : Int) + 1 by omega) (by omega)]
    simp only [Thing.c, hVm]
    cases he : T[m].fr == (i : Int) + 1
    · rw [bif_f, wrap_id (by omega) (by omega)]
      refine ih V hV (next V hV ?_ (fun _ _ => rfl) trivial)
      rw [List.getElem?_eq_getElem hmV, hVm]
      unfold renT
      rw [if_neg (by simpa using he)]
    · rw [bif_t, chk_t, chk_t, chk_t, rowN_Ta' hmV, wrap_id (show (-9223372036854775808 : Int) ≤ (j : Int) + 1 by omega) (by omega), wrap_id (by omega) (by omega)]
      simp only [hVm]
      have e : ([.i .i64 T[m].ty, .i .i64 T[m].bits, .i .i64 T[m].base, .i .i64 T[m].size, .i .i64 T[m].used, .i .i64 ((j : Int) + 1), .i .i64 T[m].badge, .b T[m].full, .i .u64 T[m].word, .i .u64 T[m].d0, .i .u64 T[m].d1, .i .u64 T[m].d2, .i .u64 T[m].d3] : List AV) = (renT i j T[m]).row := by
        unfold renT; rw [if_pos (by simpa using he)]; rfl
      rw [e, encT_set']
      refine ih (V.set m (renT i j T[m])) (by rw [List.length_set]; exact hV) (next _ (by rw [List.length_set]; exact hV) ?_ (fun k hk => by rw [List.getElem?_set, if_neg (Ne.symm hk)]) trivial)
      rw [List.getElem?_set, if_pos rfl, if_pos hmV]
end
end Go.Rv
namespace Go.Rv
section
variable {ρ : Type} (n : Nat)
theorem ups_loop2 {U : List Int} {N : Nat} (hN : U.length = N) {S1 Sf : List Slot} (hl : S1.length = N) (hlf : Sf.length = N) (hU : N ≤ 100) (hn : N < n) (hf : ∀ k (h : k < N), Sf[k]'(by omega) = { S1[k]'(by omega) with up := clip (U[k]'(by omega)) })
    (q0 q1 q5 q6 q7 : Int) (q10 q11 q13 q14 : Nat) (q16 : Rows) (k0 : Rows → Option ρ) (R : Option ρ) (h : k0 (encS Sf) = R) :
    Q0_l5_3 (Q0_g n) n q0 q1 N N ((N : Nat) : Int) q5 q6 q7 N N q10 q11 (encI U) q13 q14 q16 k0 (0, encS S1) = R := by
  subst hN
  rw [← h]
  unfold Q0_l5_3
  exact ups_loop n hl hlf hU hf q0 q1 q5 q6 q7 q10 q11 q13 q14 q16 k0 U.length 0 n S1 (by omega) hn hl (fun k => by rw [if_neg (by omega)])
theorem clip_id {u : Int} (h : u ≥ -1) : clip u = u := by unfold clip; rw [if_neg (by omega)]
variable (a b c : Int) (y w : Bool) (S : List Slot) (T : List Thing)
theorem moved_then (hn : 200 ≤ n) (good : GoodS a b c S T) {i j : Nat} {s u : Slot} (ok : MoveOK S T i j s u) (k0 : Nat → Nat → Rows → Option ρ) (k1 : Nat → Nat → Nat → Nat → Rows → Rows → Option ρ) (R : Option ρ)
    (h : k1 S.length S.length T.length T.length (encS (moveS S i j s)) (encT (moveT T i j)) = R) :
    Q0 n ρ a b c false y (encS S) false w (encT T) (i : Int) (j : Int) k0 k1 = R := by
  have hlen := good.len
  have hij := mv_ij ok
  obtain ⟨hil, hi2⟩ := List.getElem?_eq_some_iff.1 ok.from'
  obtain ⟨hjl, hj2⟩ := List.getElem?_eq_some_iff.1 ok.to
  have hup := (mv_up good (List.mem_of_getElem? ok.from')).1 ok.full
  show Q0_s (Q0_g n) n a b c false y (encS S) false w (encT T) (i : Int) (j : Int) k0 k1 = _
  unfold Q0_s
  have hne : (S.map upM).isEmpty = false := by
    cases S with
    | nil => simp at hil
    | cons => rfl
  rw [show (Q0_g n).Qa = Qa n from rfl, forest_eq n a b c false y false w S _ (by omega) (by omega), hne, show (Q0_g n).Q1 = Q1 n from rfl]
  have hUj : (S.map upM)[j]? = some (-2) := by rw [List.getElem?_map, ok.to, Option.map_some, upM_none ok.none]
  have hUi : (S.map upM)[i]? = some s.up := by rw [List.getElem?_map, ok.from', Option.map_some, upM_full ok.full]
  refine Move_then n hn false good.forest hUj hUi (by omega) (mv_ne good ok) _ _ R ?_
  rw [show (Q0_g n).Qs = Qs n from rfl, clone_eq n a b c false y false w S T (by omega) (by omega), bif_f, bif_f, List.length_map]
  have el : ∀ W : List Slot, W.length = S.length → ((encS W).length == S.length) = true := fun W h => by rw [encS_len, h]; simp
  have di : decide ((0 : Int) ≤ ((i : Nat) : Int)) = true := decide_eq_true (by omega)
  have dj : decide ((0 : Int) ≤ ((j : Nat) : Int)) = true := decide_eq_true (by omega)
  have di2 : decide (((i : Nat) : Int) < ((S.length : Nat) : Int)) = true := decide_eq_true (by omega)
  have dj2 : decide (((j : Nat) : Int) < ((S.length : Nat) : Int)) = true := decide_eq_true (by omega)
  rw [di, chk_t, di2, chk_t, el S rfl, chk_t, Nat.zero_add, Int.toNat_natCast, rowN_S hil]
  simp only [Slot.c, hi2]
  rw [dj, chk_t, dj2, chk_t, chk_t, Nat.zero_add, Int.toNat_natCast, rowN_Sa hjl]
  simp only [hj2]
  rw [show ((encS S).set j [.i .i64 s.ty, .i .i64 s.th, .i .i64 s.ri, .i .i64 s.ba, .i .i64 u.up]) = encS (S.set j ⟨s.ty, s.th, s.ri, s.ba, u.up⟩) from encS_set S j ⟨s.ty, s.th, s.ri, s.ba, u.up⟩]
  have hl1 : (S.set j ⟨s.ty, s.th, s.ri, s.ba, u.up⟩).length = S.length := List.length_set
  have hi3 : i < (S.set j ⟨s.ty, s.th, s.ri, s.ba, u.up⟩).length := by omega
  have hg : (S.set j ⟨s.ty, s.th, s.ri, s.ba, u.up⟩)[i]'hi3 = s := by rw [List.getElem_set_ne (Ne.symm hij), hi2]
  rw [chk_t, chk_t, el _ hl1, chk_t, rowN_Sa hi3]
  simp only [hg]
  rw [show ((encS (S.set j ⟨s.ty, s.th, s.ri, s.ba, u.up⟩)).set i [.i .i64 0, .i .i64 0, .i .i64 0, .i .i64 0, .i .i64 s.up]) = encS ((S.set j ⟨s.ty, s.th, s.ri, s.ba, u.up⟩).set i ⟨0, 0, 0, 0, s.up⟩) from encS_set _ i ⟨0, 0, 0, 0, s.up⟩]
  refine ups_loop2 n (U := moveU (S.map upM) i j s.up) (N := S.length) (by rw [moveU_len, List.length_map]) (Sf := moveS S i j s) (by simp) (mv_len) (by omega) (by omega) (fun k hk => ?_) _ _ _ _ _ _ _ _ _ _ _ R ?_
  · by_cases e1 : k = i
    · subst e1
      have g1 : (moveS S k j s)[k]'(by rw [mv_len]; exact hk) = noS := by unfold moveS; exact List.getElem_set_self _
      have g2 : (moveU (S.map upM) k j s.up)[k]'(by rw [moveU_len, List.length_map]; exact hk) = -2 := by unfold moveU; exact List.getElem_set_self _
      rw [g1, g2, List.getElem_set_self]
      rfl
    · by_cases e2 : k = j
      · subst e2
        have g1 : (moveS S i k s)[k]'(by rw [mv_len]; exact hk) = s := by unfold moveS; rw [List.getElem_set_ne (Ne.symm e1), List.getElem_set_self]
        have g2 : (moveU (S.map upM) i k s.up)[k]'(by rw [moveU_len, List.length_map]; exact hk) = s.up := by unfold moveU; rw [List.getElem_set_ne (Ne.symm e1), List.getElem_set_self]
        rw [g1, g2, List.getElem_set_ne (Ne.symm e1), List.getElem_set_self, clip_id hup]
      · have g1 : (moveS S i j s)[k]'(by rw [mv_len]; exact hk) = renS i j S[k] := by unfold moveS; rw [List.getElem_set_ne (Ne.symm e1), List.getElem_set_ne (Ne.symm e2), List.getElem_map]
        have g2 : (moveU (S.map upM) i j s.up)[k]'(by rw [moveU_len, List.length_map]; exact hk) = ren i j (upM S[k]) := by unfold moveU; rw [List.getElem_set_ne (Ne.symm e1), List.getElem_set_ne (Ne.symm e2), List.getElem_map, List.getElem_map]
        rw [g1, g2, List.getElem_set_ne (Ne.symm e1), List.getElem_set_ne (Ne.symm e2)]
        have hmem := mv_up good (List.getElem_mem hk)
        cases hc : capNone S[k].ty S[k].th S[k].ri S[k].ba
        · have := hmem.1 hc
          rw [upM_full hc, clip_id (by unfold ren; split <;> omega)]
          rfl
        · have := hmem.2 hc
          rw [upM_none hc, ren_neg (by omega)]
          unfold renS
          rw [this, ren_neg (by omega)]
          rfl
  · unfold Q0_l10_3
    refine (froms_loop n (by omega) (by omega) (by omega) _ _ _ _ _ _ _ _ _ _ T.length 0 n T (by omega) (by omega) rfl (fun k => by rw [if_neg (by omega)])).trans ?_
    exact h
end
end Go.Rv
namespace Go.Rv
theorem moveT_back {T : List Thing} {i j : Nat} (h : ∀ t ∈ T, t.fr ≠ (j : Int) + 1) : moveT (moveT T i j) j i = T := by
  unfold moveT
  rw [List.map_map]
  refine (List.map_congr_left fun t ht => ?_).trans (List.map_id T)
  show renT j i (renT i j t) = t
  unfold renT
  have := h t ht
  by_cases e : t.fr = (i : Int) + 1
  · simp only [e, if_true]
    rw [← e]
  · simp only [e, if_false, this]
section
variable {a b c : Int} {S : List Slot} {T : List Thing} (good : GoodS a b c S T) {i j : Nat} {s u : Slot} (ok : MoveOK S T i j s u)
include good ok
theorem mv_u : u = noS := by
  have h1 := (mv_up good (List.mem_of_getElem? ok.to)).2 ok.none
  have h2 := ok.none
  unfold capNone at h2
  simp only [Bool.and_eq_true, beq_iff_eq] at h2
  obtain ⟨x1, x2, x3, x4, x5⟩ := u
  obtain ⟨rfl, rfl, rfl, rfl, _⟩ := h2
  simp only at h1
  subst h1
  rfl
theorem mv_nup {x : Slot} (hx : x ∈ S) : x.up ≠ (j : Int) := by
  intro e
  cases hc : capNone x.ty x.th x.ri x.ba
  · rcases mv_up_next good hx hc with h | ⟨_, y, hy, hyf⟩
    · omega
    · rw [e, Int.toNat_natCast, ok.to] at hy
      cases hy
      rw [ok.none] at hyf
      cases hyf
  · have := (mv_up good hx).2 hc
    omega
theorem moveS_back : moveS (moveS S i j s) j i s = S := by
  have hij := mv_ij ok
  obtain ⟨hil, hi2⟩ := List.getElem?_eq_some_iff.1 ok.from'
  obtain ⟨hjl, hj2⟩ := List.getElem?_eq_some_iff.1 ok.to
  apply List.ext_getElem?
  intro k
  have hd : moveS (moveS S i j s) j i s = (((((S.map (renS i j)).set j s).set i noS).map (renS j i)).set i s).set j noS := rfl
  rw [hd, List.getElem?_set]
  by_cases ej : j = k
  · subst ej
    rw [if_pos rfl, if_pos (by simpa using hjl), ok.to, mv_u good ok]
  rw [if_neg ej, List.getElem?_set]
  by_cases ei : i = k
  · subst ei
    rw [if_pos rfl, if_pos (by simpa using hil), ok.from']
  rw [if_neg ei, List.getElem?_map, List.getElem?_set, if_neg ei, List.getElem?_set, if_neg ej, List.getElem?_map]
  cases hk : S[k]? with
  | none => rfl
  | some x =>
    simp only [Option.map_some]
    congr 1
    have hn := mv_nup good ok (List.mem_of_getElem? hk)
    show ({ x with up := ren j i (ren i j x.up) } : Slot) = x
    have : ren j i (ren i j x.up) = x.up := by
      unfold ren
      by_cases e : x.up = (i : Int)
      · rw [if_pos e, if_pos rfl, e]
      · rw [if_neg e, if_neg hn]
    rw [this]
theorem mv_fr : ∀ t ∈ T, t.fr ≠ (j : Int) + 1 := by
  intro t ht e
  obtain ⟨m, hm⟩ := List.mem_iff_getElem?.1 ht
  obtain ⟨hml, _⟩ := List.getElem?_eq_some_iff.1 hm
  have old := List.all_eq_true.1 good.thingsOK m (List.mem_range.2 hml)
  rw [hm] at old
  simp only at old
  unfold thingOK at old
  simp only [Bool.and_eq_true] at old
  have o2 := old.2.1
  have hjl := (List.getElem?_eq_some_iff.1 ok.to).1
  rw [e, decide_eq_true (by omega), decide_eq_false (by omega), show ((j : Int) + 1 - 1).toNat = j by omega, ok.to] at o2
  simp only [cond_true, cond_false, ok.none] at o2
  cases o2
theorem mv_ok : MoveOK (moveS S i j s) (moveT T i j) j i s noS := by
  have hij := mv_ij ok
  have hil := (List.getElem?_eq_some_iff.1 ok.from').1
  have g := mv_get good ok ok.from' ok.full
  rw [show ren i j (i : Int) = (j : Int) from if_pos rfl, Int.toNat_natCast, mv_renS good ok] at g
  refine ⟨g, ?_, ok.full, rfl, ?_, fun hty hin => ?_⟩
  · unfold moveS
    rw [List.getElem?_set, if_pos rfl, if_pos (by simpa using hil)]
  · rw [(mv_sim good).owner]
    exact good.nodesP.full i s ok.from' ok.full
  · obtain ⟨h1, ⟨t, ht, ht2⟩, h3⟩ := hin
    have h3' := (mv_sim (i := i) (j := j) good).symm.reach h3
    rw [(mv_sim good).owner] at h3'
    rcases mv_reach good ok h3' with g1 | ⟨_, _, g1, _⟩
    · refine good.ring ⟨i, s, ok.from', hty, ?_, ?_, g1⟩
      · rw [← (mv_sim (i := i) (j := j) good).there]; exact h1
      · obtain ⟨t0, q1, q2, _⟩ := (mv_sim (i := i) (j := j) good).symm.get ht
        exact ⟨t0, q1, by rw [q2]; exact ht2⟩
    · exact mv_inside good ok hty g1
theorem mv_slot {th : Int} {x : Int} {v : Int × Int} (h : slotR a b c S T th [x] = v) : slotR a b c (moveS S i j s) (moveT T i j) th [x] = v := by
  rw [← h]
  unfold slotR
  rw [goodB_iff.2 good, goodB_iff.2 (good.moved ok)]
  cases hi : (inM th 0 (a - 1) && pathGood [x])
  · rfl
  · simp only [Bool.and_eq_true, inM_iff] at hi
    obtain ⟨k, rfl⟩ : ∃ k : Nat, th = k := ⟨_, (Int.toNat_of_nonneg hi.1.1).symm⟩
    obtain ⟨r, hr, hr2⟩ := good.root (t := k) (by omega)
    have hr' : (moveT T i j)[2 + k]? = some r := by
      unfold moveT
      rw [List.getElem?_map, hr, Option.map_some, hr2]
      unfold renT
      rw [if_neg (by simp only; omega)]
    rw [show (2 + (k : Int)).toNat = 2 + k by omega, hr, hr']
    rfl
end
end Go.Rv
