/-
The plain mathematics of states: what the programs of ours tell of typed lists.
-/
import Derived.Test.YtcjpmmbenlbndaaHNa
import Derived.Test.YtcjpmmbenlbndaaArg
namespace Go.Rv

theorem fuelN_succ {ρ V : Type} (step : (V → Option ρ) → V → Option ρ) (n : Nat) (v : V) : fuelN step (n + 1) v = step (fuelN step n) v := rfl
theorem chk_t {ρ : Type} (K : Option ρ) : chk true K = K := rfl
theorem bif_t {ρ : Type} (a b : Option ρ) : (bif true then a else b) = a := rfl
theorem bif_f {ρ : Type} (a b : Option ρ) : (bif false then a else b) = b := rfl
theorem wrap_id {n : Int} (h1 : -9223372036854775808 ≤ n) (h2 : n < 9223372036854775808) : IntKind.wrap .i64 n = n := by
  simp [IntKind.wrap, IntKind.signed, IntKind.bits]; omega

structure Slot where
  (ty th ri ba up : Int)
  deriving DecidableEq
structure Thing where
  (ty bits base size used fr badge : Int)
  full : Bool
  (word d0 d1 d2 d3 : Int)
  deriving DecidableEq
abbrev i5 : List Ce := [.i .i64, .i .i64, .i .i64, .i .i64, .i .i64]
abbrev i13 : List Ce := [.i .i64, .i .i64, .i .i64, .i .i64, .i .i64, .i .i64, .i .i64, .b, .i .u64, .i .u64, .i .u64, .i .u64, .i .u64]
def Slot.row (s : Slot) : List AV := [.i .i64 s.ty, .i .i64 s.th, .i .i64 s.ri, .i .i64 s.ba, .i .i64 s.up]
def Slot.c (s : Slot) : CT i5 := (s.ty, s.th, s.ri, s.ba, s.up, ())
def Thing.row (t : Thing) : List AV := [.i .i64 t.ty, .i .i64 t.bits, .i .i64 t.base, .i .i64 t.size, .i .i64 t.used, .i .i64 t.fr, .i .i64 t.badge, .b t.full, .i .u64 t.word, .i .u64 t.d0, .i .u64 t.d1, .i .u64 t.d2, .i .u64 t.d3]
def Thing.c (t : Thing) : CT i13 := (t.ty, t.bits, t.base, t.size, t.used, t.fr, t.badge, t.full, t.word, t.d0, t.d1, t.d2, t.d3, ())
def encS (l : List Slot) : Rows := l.map Slot.row
def encT (l : List Thing) : Rows := l.map Thing.row
def encI (l : List Int) : Rows := l.map fun x => [.i .i64 x]
theorem encS_len (l : List Slot) : (encS l).length = l.length := by simp [encS]
theorem encT_len (l : List Thing) : (encT l).length = l.length := by simp [encT]
theorem encI_len (l : List Int) : (encI l).length = l.length := by simp [encI]

section
variable {ρ : Type}
theorem rowT_S {l : List Slot} {i : Nat} (h : i < l.length) (K : CT i5 → Option ρ) : rowT i5 (encS l) (i : Int) K = K (l[i].c) := by
  unfold rowT rowN encS
  have : decide ((0 : Int) ≤ (i : Int)) = true := by simp
  rw [this]
  simp only [Int.toNat_natCast, List.getElem?_map, List.getElem?_eq_getElem h, Option.map_some]
  rfl
theorem rowT_T {l : List Thing} {i : Nat} (h : i < l.length) (K : CT i13 → Option ρ) : rowT i13 (encT l) (i : Int) K = K (l[i].c) := by
  unfold rowT rowN encT
  have : decide ((0 : Int) ≤ (i : Int)) = true := by simp
  rw [this]
  simp only [Int.toNat_natCast, List.getElem?_map, List.getElem?_eq_getElem h, Option.map_some]
  rfl
theorem rowN_I {l : List Int} {i : Nat} (h : i < l.length) (K : CT [.i .i64] → Option ρ) : rowN [.i .i64] (encI l) i K = K (l[i], ()) := by
  unfold rowN encI
  simp only [List.getElem?_map, List.getElem?_eq_getElem h, Option.map_some]
  rfl
theorem rowT_I {l : List Int} {i : Nat} (h : i < l.length) (K : CT [.i .i64] → Option ρ) : rowT [.i .i64] (encI l) (i : Int) K = K (l[i], ()) := by
  unfold rowT
  have : decide ((0 : Int) ≤ (i : Int)) = true := by simp
  rw [this]
  simp only [Int.toNat_natCast]
  exact rowN_I h K

/-! small ones -/
def inM (n l h : Int) : Bool := decide (n ≥ l) && decide (n ≤ h)
def capNone (a b c d : Int) : Bool := a == 0 && (b == 0 && (c == 0 && (d == 0 && true)))
def capGood (a b c d : Int) : Bool := capNone a b c d || (inM a 1 5 && inM b 0 47 && inM c 0 7 && inM d 0 65535 && (d == 0 || (a == 3 || a == 4)))
variable (n : Nat)
theorem cap_None_eq (a b c d : Int) (K : Bool → Option ρ) : cap_None n ρ a b c d K = K (capNone a b c d) := by
  show cap_None_s _ n a b c d K = _
  unfold cap_None_s capNone
  generalize (a == 0 && (b == 0 && (c == 0 && (d == 0 && true)))) = x
  cases x <;> rfl
theorem cap_in_eq (a l h : Int) (K : Bool → Option ρ) : cap_in n ρ a l h K = K (inM a l h) := by
  show cap_in_s _ n a l h K = _
  unfold cap_in_s inM
  generalize decide (a ≥ l) = x
  generalize decide (a ≤ h) = y
  cases x <;> cases y <;> rfl
theorem right_Good_eq (a : Int) (K : Bool → Option ρ) : right_Good n ρ a K = K (inM a 0 7) := by
  show right_Good_s _ n a K = _
  unfold right_Good_s inM
  generalize decide (a ≥ 0) = x
  generalize decide (a ≤ 7) = y
  cases x <;> cases y <;> rfl
theorem right_Badge_eq (a : Int) (K : Bool → Option ρ) : right_Badge n ρ a K = K (inM a 0 65535) := by
  show right_Badge_s _ n a K = _
  unfold right_Badge_s inM
  generalize decide (a ≥ 0) = x
  generalize decide (a ≤ 65535) = y
  cases x <;> cases y <;> rfl
theorem cap_badged_eq (a : Int) (K : Bool → Option ρ) : cap_badged n ρ a K = K (a == 3 || a == 4) := by
  show cap_badged_s _ n a K = _
  unfold cap_badged_s
  generalize (a == 3) = x
  generalize (a == 4) = y
  cases x <;> cases y <;> rfl
theorem cap_Good_eq (a b c d : Int) (K : Bool → Option ρ) : cap_Good n ρ a b c d K = K (capGood a b c d) := by
  show cap_Good_s (cap_Good_g n) n a b c d K = _
  simp only [cap_Good_s, cap_Good_g, cap_None_eq, cap_in_eq, right_Good_eq, right_Badge_eq, cap_badged_eq, capGood]
  generalize capNone a b c d = x1
  generalize inM a 1 5 = x2
  generalize inM b 0 47 = x3
  generalize inM c 0 7 = x4
  generalize inM d 0 65535 = x5
  generalize (a == 3 || a == 4) = x7
  generalize (d == 0) = x6
  cases x1 <;> cases x2 <;> cases x3 <;> cases x4 <;> cases x5 <;> cases x6 <;> cases x7 <;> rfl
end
end Go.Rv
/-
The plain mathematics of states: loops, capabilities, holders.
-/
namespace Go.Rv
section
variable {ρ : Type}

/-- a loop that counts up, and may end early -/
theorem up_loop {step : (Int → Option ρ) → Int → Option ρ} {len : Nat} {k0 k1 : Option ρ} (p : Nat → Bool)
    (hend : ∀ rec, step rec (len : Int) = k1)
    (hstep : ∀ rec (i : Nat), i < len → step rec (i : Int) = bif p i then rec ((i + 1 : Nat) : Int) else k0) :
    ∀ (d i n : Nat), i + d = len → d < n → fuelN step n (i : Int) = bif (List.range' i d).all p then k1 else k0
  | 0, i, n, h, hn => by
    obtain ⟨m, rfl⟩ : ∃ m, n = m + 1 := ⟨n - 1, by omega⟩
    rw [fuelN_succ, show i = len by omega, hend]; rfl
  | d + 1, i, n, h, hn => by
    obtain ⟨m, rfl⟩ : ∃ m, n = m + 1 := ⟨n - 1, by omega⟩
    rw [fuelN_succ, hstep _ i (by omega), up_loop p hend hstep d (i + 1) m (by omega) (by omega), List.range'_succ, List.all_cons]
    cases p i <;> rfl

theorem up_loop0 {step : (Int → Option ρ) → Int → Option ρ} {len : Nat} {k0 k1 : Option ρ} (p : Nat → Bool)
    (hend : ∀ rec, step rec (len : Int) = k1)
    (hstep : ∀ rec (i : Nat), i < len → step rec (i : Int) = bif p i then rec ((i + 1 : Nat) : Int) else k0) {n : Nat} (hn : len < n) :
    fuelN step n 0 = bif (List.range len).all p then k1 else k0 := by
  have := up_loop p hend hstep len 0 n (by omega) hn
  rw [List.range_eq_range']; exact this

/-- a loop that counts up with something to hand on -/
theorem acc_loop {A V : Type} {step : (V → Option ρ) → V → Option ρ} {len : Nat} {fin : A → Option ρ} (mk : Nat → A → V) (next : Nat → A → A) (inv : Nat → A → Prop)
    (hend : ∀ rec a, inv len a → step rec (mk len a) = fin a)
    (hstep : ∀ rec i a, i < len → inv i a → inv (i + 1) (next i a) ∧ step rec (mk i a) = rec (mk (i + 1) (next i a))) :
    ∀ (d i n : Nat) (a : A), i + d = len → d < n → inv i a → fuelN step n (mk i a) = fin ((List.range' i d).foldl (fun a i => next i a) a) ∧ inv len ((List.range' i d).foldl (fun a i => next i a) a)
  | 0, i, n, a, h, hn, hi => by
    obtain ⟨m, rfl⟩ : ∃ m, n = m + 1 := ⟨n - 1, by omega⟩
    have : i = len := by omega
    subst this
    rw [fuelN_succ, hend _ a hi]; exact ⟨rfl, hi⟩
  | d + 1, i, n, a, h, hn, hi => by
    obtain ⟨m, rfl⟩ : ∃ m, n = m + 1 := ⟨n - 1, by omega⟩
    obtain ⟨h1, h2⟩ := hstep (fuelN step m) i a (by omega) hi
    rw [fuelN_succ, h2, List.range'_succ, List.foldl_cons]
    exact acc_loop mk next inv hend hstep d (i + 1) m (next i a) (by omega) (by omega) h1

variable (n : Nat)

/-! geo -/
def geoGood (a b c : Int) : Bool := inM a 1 4 && inM b (8 * a) 96 && b.tmod 8 == 0 && inM c (a + 2) 48

/-! caps -/
def thereM (T : List Thing) (t : Int) : Bool := decide (t ≥ 0) && (decide (t < T.length) && (match T[t.toNat]? with | some x => x.ty != 0 | none => false))
theorem there_eq (a b c : Int) (x y z w : Bool) (R : Rows) (T : List Thing) (t : Int) (K : Bool → Option ρ) : state_State_there n ρ a b c x y R z w (encT T) t K = K (thereM T t) := by
  show state_State_there_s _ n a b c x y R z w (encT T) t K = _
  unfold state_State_there_s thereM
  by_cases h0 : t ≥ 0
  · by_cases h1 : t < T.length
    · obtain ⟨k, rfl⟩ : ∃ k : Nat, t = k := ⟨t.toNat, by omega⟩
      have hk : k < T.length := by omega
      rw [rowT_T hk]
      simp only [encT_len, h0, h1, decide_true, cond_true, Int.toNat_natCast, List.getElem?_eq_getElem hk, Thing.c, Bool.true_and]
      cases hx : (T[k].ty != 0) <;> rfl
    · simp only [encT_len, h0, h1, decide_true, decide_false, cond_true, cond_false, Bool.false_and, Bool.and_false]
  · simp only [h0, decide_false, cond_false, Bool.false_and]

def capOK (T : List Thing) (s : Slot) : Bool :=
  capGood s.ty s.th s.ri s.ba && (bif capNone s.ty s.th s.ri s.ba then s.up == -1 else decide (s.up ≥ -1) && (thereM T s.th && (match T[s.th.toNat]? with | some x => x.ty == s.ty | none => false)))

theorem caps_eq (a b c : Int) (x y z w : Bool) (S : List Slot) (T : List Thing) (hS : S.length < 1000000) (hn : S.length < n) (K : Bool → Option ρ) :
    state_State_caps n ρ a b c x y (encS S) z w (encT T) K = K (S.all (capOK T)) := by
  show state_State_caps_s _ n a b c x y (encS S) z w (encT T) K = _
  unfold state_State_caps_s state_State_caps_l2
  rw [up_loop0 (len := S.length) (k0 := K false) (k1 := K true) (fun i => match S[i]? with | some s => capOK T s | none => true)]
  · have : (List.range S.length).all (fun i => match S[i]? with | some s => capOK T s | none => true) = S.all (capOK T) := by
      rw [Bool.eq_iff_iff]
      simp only [List.all_eq_true, List.mem_range]
      constructor
      · intro h s hs
        obtain ⟨i, hi, rfl⟩ := List.mem_iff_getElem.1 hs
        have := h i hi
        simpa [List.getElem?_eq_getElem hi] using this
      · intro h i hi
        simp only [List.getElem?_eq_getElem hi]
        exact h _ (List.getElem_mem hi)
    rw [this]
    cases S.all (capOK T) <;> rfl
  · intro rec
    unfold state_State_caps_l2_s
    simp only [encS_len]
    rw [show decide (((S.length : Nat) : Int) < ((S.length : Nat) : Int)) = false by simp]
    rfl
  · intro rec i hi
    unfold state_State_caps_l2_s
    simp only [encS_len]
    rw [show decide (((i : Nat) : Int) < ((S.length : Nat) : Int)) = true by simpa using hi]
    rw [bif_t, rowT_S hi]
    simp only [state_State_caps_g, cap_Good_eq, cap_None_eq, there_eq, List.getElem?_eq_getElem hi, Slot.c, capOK]
    rw [wrap_id (by omega) (by omega)]
    cases h1 : capGood S[i].ty S[i].th S[i].ri S[i].ba
    · rfl
    · cases h2 : capNone S[i].ty S[i].th S[i].ri S[i].ba
      · simp only [bif_t, bif_f, Bool.true_and]
        by_cases h3 : S[i].up < -1
        · have h4 : decide (S[i].up ≥ -1) = false := by simp; omega
          simp [h3, h4]
        · have h4 : decide (S[i].up ≥ -1) = true := by simp; omega
          simp only [h3, h4, decide_false, bif_f, Bool.true_and]
          cases h5 : thereM T S[i].th
          · rfl
          · simp only [bif_t, Bool.true_and]
            unfold thereM at h5
            simp only [Bool.and_eq_true, decide_eq_true_eq] at h5
            obtain ⟨k, hk⟩ : ∃ k : Nat, S[i].th = k := ⟨S[i].th.toNat, by omega⟩
            rw [hk] at h5 ⊢
            have hk' : k < T.length := by omega
            rw [rowT_T hk']
            simp only [Int.toNat_natCast, List.getElem?_eq_getElem hk', Thing.c]
            cases h6 : T[k].ty == S[i].ty
            · simp [bne, h6]
            · simp [bne, h6]
      · simp only [bif_t, Bool.true_and]
        cases h3 : S[i].up == -1
        · simp [bne, h3]
        · simp [bne, h3]
  · exact hn
end
end Go.Rv
/-
The plain mathematics of states: places, things, holders, nodes.
-/
namespace Go.Rv
section
variable {ρ : Type} (n : Nat)

theorem geo_in_eq (a l h : Int) (K : Bool → Option ρ) : geo_in n ρ a l h K = K (inM a l h) := by
  show geo_in_s _ n a l h K = _
  unfold geo_in_s inM
  generalize decide (a ≥ l) = x
  generalize decide (a ≤ h) = y
  cases x <;> cases y <;> rfl
theorem thing_in_eq (a l h : Int) (K : Bool → Option ρ) : thing_in n ρ a l h K = K (inM a l h) := by
  show thing_in_s _ n a l h K = _
  unfold thing_in_s inM
  generalize decide (a ≥ l) = x
  generalize decide (a ≤ h) = y
  cases x <;> cases y <;> rfl
theorem inM_iff {a l h : Int} : inM a l h = true ↔ l ≤ a ∧ a ≤ h := by simp [inM]
theorem geo_Good_eq (a b c : Int) (K : Bool → Option ρ) : geo_Good n ρ a b c K = K (geoGood a b c) := by
  show geo_Good_s (geo_Good_g n) n a b c K = _
  simp only [geo_Good_s, geo_Good_g, geo_in_eq, geoGood]
  cases h1 : inM a 1 4
  · rfl
  · rw [inM_iff] at h1
    rw [wrap_id (by omega) (by omega), wrap_id (by omega) (by omega)]
    generalize inM b (8 * a) 96 = x2
    generalize (b.tmod 8 == 0) = x3
    generalize inM c (a + 2) 48 = x4
    cases x2 <;> cases x3 <;> cases x4 <;> rfl
theorem geo_Root_eq (a b c t : Int) (K : Int → Option ρ) : geo_Root n ρ a b c t K = K (bif geoGood a b c && inM t 0 (a - 1) then 8 * t else 0) := by
  show geo_Root_s (geo_Root_g n) n a b c t K = _
  simp only [geo_Root_s, geo_Root_g, geo_in_eq, geo_Good_eq]
  cases h0 : geoGood a b c
  · rfl
  · have h1 : 1 ≤ a ∧ a ≤ 4 := by
      simp only [geoGood, Bool.and_eq_true, inM_iff] at h0; omega
    rw [wrap_id (by omega) (by omega)]
    cases h2 : inM t 0 (a - 1)
    · rfl
    · rw [inM_iff] at h2
      simp only [bif_t, Bool.true_and]
      rw [wrap_id (by omega) (by omega)]; rfl

/-! things -/
def ownM (t : Thing) : Thing :=
  bif t.ty == 1 then ⟨t.ty, 0, 0, t.size, t.used, 0, 0, false, 0, 0, 0, 0, 0⟩
  else bif t.ty == 2 then ⟨t.ty, t.bits, t.base, 0, 0, 0, 0, false, 0, 0, 0, 0, 0⟩
  else bif t.ty == 3 then (bif t.full then ⟨t.ty, 0, 0, 0, 0, t.fr, t.badge, true, t.word, 0, 0, 0, 0⟩ else ⟨t.ty, 0, 0, 0, 0, 0, 0, false, 0, 0, 0, 0, 0⟩)
  else bif t.ty == 4 then ⟨t.ty, 0, 0, 0, 0, 0, 0, false, t.word, 0, 0, 0, 0⟩
  else bif t.ty == 5 then ⟨t.ty, 0, 0, 0, 0, 0, 0, false, 0, t.d0, t.d1, t.d2, t.d3⟩
  else ⟨0, 0, 0, 0, 0, 0, 0, false, 0, 0, 0, 0, 0⟩
def eqT (a b : Thing) : Bool := (a.ty == b.ty) && ((a.bits == b.bits) && ((a.base == b.base) && ((a.size == b.size) && ((a.used == b.used) && ((a.fr == b.fr) && ((a.badge == b.badge) && ((a.full == b.full) && ((a.word == b.word) && ((a.d0 == b.d0) && ((a.d1 == b.d1) && ((a.d2 == b.d2) && ((a.d3 == b.d3) && true))))))))))))
def thingGood (t : Thing) : Bool :=
  eqT (ownM t) t && (bif t.ty == 1 then inM t.size 1 4096 && inM t.used 0 t.size
    else bif t.ty == 2 then inM t.bits 1 4 && inM t.base 0 (96 - 2 ^ t.bits.toNat)
    else bif t.ty == 3 then inM t.badge 0 65535 && inM t.fr 0 96 else true)

theorem two_pow {b : Int} (h : 1 ≤ b ∧ b ≤ 4) : (2 : Int) ^ b.toNat = 2 ∨ (2 : Int) ^ b.toNat = 4 ∨ (2 : Int) ^ b.toNat = 8 ∨ (2 : Int) ^ b.toNat = 16 := by
  have : b = 1 ∨ b = 2 ∨ b = 3 ∨ b = 4 := by omega
  rcases this with rfl | rfl | rfl | rfl
  · exact .inl rfl
  · exact .inr (.inl rfl)
  · exact .inr (.inr (.inl rfl))
  · exact .inr (.inr (.inr rfl))
theorem shl_id {b : Int} (h : 1 ≤ b ∧ b ≤ 4) : IntKind.wrap .i64 ((1 : Int) * 2 ^ (min b.toNat (IntKind.bits .i64))) = 2 ^ b.toNat := by
  have h1 : min b.toNat (IntKind.bits .i64) = b.toNat := by
    show min b.toNat 64 = _
    omega
  rw [h1, Int.one_mul]
  rcases two_pow h with e | e | e | e <;> rw [e] <;> exact wrap_id (by omega) (by omega)

theorem thing_own_eq (t : Thing) (K : Int → Int → Int → Int → Int → Int → Int → Bool → Int → Int → Int → Int → Int → Option ρ) :
    thing_own n ρ t.ty t.bits t.base t.size t.used t.fr t.badge t.full t.word t.d0 t.d1 t.d2 t.d3 K =
      K (ownM t).ty (ownM t).bits (ownM t).base (ownM t).size (ownM t).used (ownM t).fr (ownM t).badge (ownM t).full (ownM t).word (ownM t).d0 (ownM t).d1 (ownM t).d2 (ownM t).d3 := by
  show thing_own_s _ n t.ty t.bits t.base t.size t.used t.fr t.badge t.full t.word t.d0 t.d1 t.d2 t.d3 K = _
  unfold thing_own_s ownM
  cases t.ty == 1 <;> cases t.ty == 2 <;> cases t.ty == 3 <;> cases t.ty == 4 <;> cases t.ty == 5 <;> cases t.full <;> rfl

theorem thing_Good_eq (t : Thing) (K : Bool → Option ρ) : thing_Good n ρ t.ty t.bits t.base t.size t.used t.fr t.badge t.full t.word t.d0 t.d1 t.d2 t.d3 K = K (thingGood t) := by
  show thing_Good_s (thing_Good_g n) n t.ty t.bits t.base t.size t.used t.fr t.badge t.full t.word t.d0 t.d1 t.d2 t.d3 K = _
  simp only [thing_Good_s, thing_Good_g, thing_own_eq, thing_in_eq]
  unfold thingGood
  change (bif (!(eqT (ownM t) t)) then K false else _) = _
  cases h0 : eqT (ownM t) t
  · rfl
  · simp only [Bool.not_true, bif_f, Bool.true_and]
    cases h1 : t.ty == 1
    · cases h2 : t.ty == 2
      · cases h3 : t.ty == 3
        · rfl
        · simp only [cond_true, cond_false]
          cases inM t.badge 0 65535 <;> cases inM t.fr 0 96 <;> rfl
      · simp only [cond_true, cond_false]
        cases h3 : inM t.bits 1 4
        · rfl
        · rw [inM_iff] at h3
          rw [show decide (0 ≤ t.bits) = true by simp; omega, shl_id h3]
          have hw : IntKind.wrap .i64 (96 - 2 ^ t.bits.toNat) = 96 - 2 ^ t.bits.toNat := by
            rcases two_pow h3 with e | e | e | e <;> rw [e] <;> exact wrap_id (by omega) (by omega)
          rw [hw]
          simp only [bif_t, chk_t, Bool.true_and]
          cases inM t.base 0 (96 - 2 ^ t.bits.toNat) <;> rfl
    · simp only [cond_true]
      cases inM t.size 1 4096 <;> cases inM t.used 0 t.size <;> rfl

theorem thingGood_node {t : Thing} (h : thingGood t = true) (h2 : t.ty = 2) : (1 ≤ t.bits ∧ t.bits ≤ 4) ∧ 0 ≤ t.base ∧ t.base ≤ 96 - 2 ^ t.bits.toNat := by
  unfold thingGood at h
  rw [show (t.ty == 1) = false by simp [h2], show (t.ty == 2) = true by simp [h2]] at h
  simp only [cond_true, cond_false, Bool.and_eq_true, inM_iff] at h
  exact ⟨h.2.1, h.2.2⟩
theorem thingGood_fr {t : Thing} (h : thingGood t = true) : t.fr ≤ 96 := by
  unfold thingGood at h
  simp only [Bool.and_eq_true] at h
  obtain ⟨h0, h1⟩ := h
  simp only [eqT, Bool.and_eq_true, beq_iff_eq] at h0
  cases h3 : t.ty == 3
  · have hf := h0.2.2.2.2.2.1
    unfold ownM at hf
    rw [h3] at hf
    cases e1 : t.ty == 1 <;> cases e2 : t.ty == 2 <;> cases e4 : t.ty == 4 <;> cases e5 : t.ty == 5 <;> simp [e1, e2, e4, e5] at hf <;> omega
  · have e1 : (t.ty == 1) = false := by simp at h3 ⊢; omega
    have e2 : (t.ty == 2) = false := by simp at h3 ⊢; omega
    rw [h3, e1, e2] at h1
    simp only [cond_true, cond_false, Bool.and_eq_true, inM_iff] at h1
    exact h1.2.2

/-! holders -/
def holds (S : List Slot) (t : Int) (i : Nat) : Bool := match S[i]? with
  | some s => !capNone s.ty s.th s.ri s.ba && s.th == t
  | none => false
def holdersF (S : List Slot) (t : Int) (i d : Nat) : List Int := ((List.range' i d).filter (holds S t)).map fun (k : Nat) => (k : Int)
def holdersM (S : List Slot) (t : Int) : List Int := holdersF S t 0 S.length

theorem holdersF_succ (S : List Slot) (t : Int) (i d : Nat) : holdersF S t i (d + 1) = (bif holds S t i then [(i : Int)] else []) ++ holdersF S t (i + 1) d := by
  unfold holdersF
  rw [List.range'_succ, List.filter_cons]
  cases holds S t i <;> simp
theorem holdersF_len (S : List Slot) (t : Int) (i d : Nat) : (holdersF S t i d).length ≤ d := by
  unfold holdersF
  have := List.length_filter_le (holds S t) (List.range' i d)
  simpa using this

section
variable (a b c : Int) (x y z w : Bool) (S : List Slot) (R : Rows) (t : Int) (k0 : Option ρ) (k1 : Nat → Nat → Rows → Option ρ) (hS : S.length < 1000000)
include hS
theorem holders_end (rec : state_State_holders_l3_V → Option ρ) (acc : List Int) :
    state_State_holders_l3_s (state_State_holders_g n) n t x y (encS S) ((S.length : Nat) : Int) a b c x y (encS S) z w R k0 k1 rec (.inr (acc.length, acc.length, ((S.length : Nat) : Int), encI acc)) = k1 acc.length acc.length (encI acc) := by
  have _ := hS
  unfold state_State_holders_l3_s
  simp only
  rw [show decide (((S.length : Nat) : Int) < ((S.length : Nat) : Int)) = false by simp]
  rfl
theorem holders_sr (rec : state_State_holders_l3_V → Option ρ) (acc : List Int) (i : Nat) (hi : i < S.length) (ha : acc.length ≤ i) :
    state_State_holders_l3_s (state_State_holders_g n) n t x y (encS S) ((S.length : Nat) : Int) a b c x y (encS S) z w R k0 k1 rec (.inr (acc.length, acc.length, (i : Int), encI acc)) =
      rec (.inr ((acc ++ bif holds S t i then [(i : Int)] else []).length, (acc ++ bif holds S t i then [(i : Int)] else []).length, ((i + 1 : Nat) : Int), encI (acc ++ bif holds S t i then [(i : Int)] else []))) := by
  unfold state_State_holders_l3_s
  simp only
  rw [show decide ((i : Int) < ((S.length : Nat) : Int)) = true by simp; omega, bif_t, rowT_S hi, wrap_id (by omega) (by omega), show ((i : Int) + 1) = ((i + 1 : Nat) : Int) by omega]
  simp only [state_State_holders_g, cap_None_eq, Slot.c, holds, List.getElem?_eq_getElem hi]
  cases h1 : capNone S[i].ty S[i].th S[i].ri S[i].ba
  · cases h2 : S[i].th == t
    · simp
    · have e1 : ((encI acc).length == acc.length) = true := by simp [encI]
      have e2 : (acc.length == acc.length) = true := by simp
      have e3 : decide (acc.length + 1 ≤ most) = true := by simp [most]; omega
      have e4 : encI acc ++ [[AV.i .i64 (i : Int)]] = encI (acc ++ [(i : Int)]) := by simp [encI]
      simp only [bif_f, Bool.not_false, Bool.true_and, cond_true]
      rw [e1, e2, e3, chk_t, chk_t, chk_t, e4]
      simp
  · simp

theorem holders_r : ∀ (d i m : Nat) (acc : List Int), i + d = S.length → d < m → acc.length ≤ i →
    fuelN (state_State_holders_l3_s (state_State_holders_g n) n t x y (encS S) ((S.length : Nat) : Int) a b c x y (encS S) z w R k0 k1) m (.inr (acc.length, acc.length, (i : Int), encI acc)) =
      k1 (acc ++ holdersF S t i d).length (acc ++ holdersF S t i d).length (encI (acc ++ holdersF S t i d))
  | 0, i, m, acc, h, hm, _ => by
    obtain ⟨m, rfl⟩ : ∃ k, m = k + 1 := ⟨m - 1, by omega⟩
    rw [fuelN_succ, show i = S.length by omega, holders_end n a b c x y z w S R t k0 k1 hS]
    simp [holdersF]
  | d + 1, i, m, acc, h, hm, ha => by
    obtain ⟨m, rfl⟩ : ∃ k, m = k + 1 := ⟨m - 1, by omega⟩
    rw [fuelN_succ, holders_sr n a b c x y z w S R t k0 k1 hS _ acc i (by omega) ha, holders_r d (i + 1) m _ (by omega) (by omega), holdersF_succ, List.append_assoc]
    cases holds S t i <;> simp <;> omega

theorem holders_endl (rec : state_State_holders_l3_V → Option ρ) :
    state_State_holders_l3_s (state_State_holders_g n) n t x y (encS S) ((S.length : Nat) : Int) a b c x y (encS S) z w R k0 k1 rec (.inl ((S.length : Nat) : Int)) = k0 := by
  have _ := hS
  unfold state_State_holders_l3_s
  simp only
  rw [show decide (((S.length : Nat) : Int) < ((S.length : Nat) : Int)) = false by simp]
  rfl
theorem holders_sl (rec : state_State_holders_l3_V → Option ρ) (i : Nat) (hi : i < S.length) :
    state_State_holders_l3_s (state_State_holders_g n) n t x y (encS S) ((S.length : Nat) : Int) a b c x y (encS S) z w R k0 k1 rec (.inl (i : Int)) =
      bif holds S t i then rec (.inr (1, 1, ((i + 1 : Nat) : Int), encI [(i : Int)])) else rec (.inl ((i + 1 : Nat) : Int)) := by
  unfold state_State_holders_l3_s
  simp only
  rw [show decide ((i : Int) < ((S.length : Nat) : Int)) = true by simp; omega, bif_t, rowT_S hi, wrap_id (by omega) (by omega), show ((i : Int) + 1) = ((i + 1 : Nat) : Int) by omega]
  simp only [state_State_holders_g, cap_None_eq, Slot.c, holds, List.getElem?_eq_getElem hi]
  cases h1 : capNone S[i].ty S[i].th S[i].ri S[i].ba
  · cases h2 : S[i].th == t <;> simp [encI]
  · simp

theorem holders_l : ∀ (d i m : Nat), i + d = S.length → d < m →
    fuelN (state_State_holders_l3_s (state_State_holders_g n) n t x y (encS S) ((S.length : Nat) : Int) a b c x y (encS S) z w R k0 k1) m (.inl (i : Int)) =
      (match holdersF S t i d with | [] => k0 | l => k1 l.length l.length (encI l))
  | 0, i, m, h, hm => by
    obtain ⟨m, rfl⟩ : ∃ k, m = k + 1 := ⟨m - 1, by omega⟩
    rw [fuelN_succ, show i = S.length by omega, holders_endl n a b c x y z w S R t k0 k1 hS]
    simp [holdersF]
  | d + 1, i, m, h, hm => by
    obtain ⟨m, rfl⟩ : ∃ k, m = k + 1 := ⟨m - 1, by omega⟩
    rw [fuelN_succ, holders_sl n a b c x y z w S R t k0 k1 hS _ i (by omega), holdersF_succ]
    cases holds S t i
    · simp only [cond_false, List.nil_append]
      exact holders_l d (i + 1) m (by omega) (by omega)
    · simp only [cond_true]
      have := holders_r n a b c x y z w S R t k0 k1 hS d (i + 1) m [(i : Int)] (by omega) (by omega) (by simp)
      simp only [List.length_singleton] at this
      rw [this]
      rfl

theorem holders_eq (hn : S.length < n) : state_State_holders n ρ a b c x y (encS S) z w R t k0 k1 = (match holdersM S t with | [] => k0 | l => k1 l.length l.length (encI l)) := by
  show state_State_holders_s _ n a b c x y (encS S) z w R t k0 k1 = _
  unfold state_State_holders_s state_State_holders_l3
  rw [encS_len]
  exact holders_l n a b c x y z w S R t k0 k1 hS S.length 0 n (by omega) hn
end
end
end Go.Rv
/-
The plain mathematics of states: all things, nodes, owners.
-/
namespace Go.Rv
section
variable {ρ : Type} (n : Nat)

def rootEq (t : Thing) (w : Int) : Bool := (t.ty == 2) && ((t.bits == 3) && ((t.base == w) && ((t.size == 0) && ((t.used == 0) && ((t.fr == 0) && ((t.badge == 0) && ((t.full == false) && ((t.word == 0) && ((t.d0 == 0) && ((t.d1 == 0) && ((t.d2 == 0) && ((t.d3 == 0) && true))))))))))))
def thingOK (thr : Int) (S : List Slot) (t : Thing) (i : Nat) : Bool :=
  thingGood t && ((bif decide (t.fr > 0) then (bif decide (t.fr > S.length) then false else match S[(t.fr - 1).toNat]? with | some s => !capNone s.ty s.th s.ri s.ba | none => false) else true)
    && (bif decide ((i : Int) ≥ 2) && decide ((i : Int) < 2 + thr) then rootEq t (8 * ((i : Int) - 2)) else (bif t.ty != 0 then !(holdersM S (i : Int)).isEmpty else true)))
def thingsM (thr : Int) (S : List Slot) (T : List Thing) : Bool := (List.range T.length).all fun i => match T[i]? with | some t => thingOK thr S t i | none => true

theorem geoGood_thr {a b c : Int} (h : geoGood a b c = true) : (1 ≤ a ∧ a ≤ 4) ∧ (8 * a ≤ b ∧ b ≤ 96) ∧ b.tmod 8 = 0 ∧ a + 2 ≤ c ∧ c ≤ 48 := by
  simp only [geoGood, Bool.and_eq_true, inM_iff, beq_iff_eq] at h
  omega

theorem things_eq (a b c : Int) (x y z w : Bool) (S : List Slot) (T : List Thing) (hg : geoGood a b c = true) (hS : S.length < 1000000) (hT : T.length < 1000000) (hn : S.length < n) (hn2 : T.length < n) (K : Bool → Option ρ) :
    state_State_things n ρ a b c x y (encS S) z w (encT T) K = K (thingsM a S T) := by
  show state_State_things_s _ n a b c x y (encS S) z w (encT T) K = _
  unfold state_State_things_s state_State_things_l2
  obtain ⟨hthr, -, -, -, -⟩ := geoGood_thr hg
  rw [up_loop0 (len := T.length) (k0 := K false) (k1 := K true) (fun i => match T[i]? with | some t => thingOK a S t i | none => true)]
  · unfold thingsM
    cases (List.range T.length).all _ <;> rfl
  · intro rec
    unfold state_State_things_l2_s
    simp only [encT_len]
    rw [show decide (((T.length : Nat) : Int) < ((T.length : Nat) : Int)) = false by simp]
    rfl
  · intro rec i hi
    unfold state_State_things_l2_s
    simp only [encT_len, encS_len]
    rw [show decide (((i : Nat) : Int) < ((T.length : Nat) : Int)) = true by simpa using hi, bif_t, rowT_T hi]
    have e1 : IntKind.wrap .i64 ((i : Int) + 1) = ((i + 1 : Nat) : Int) := by rw [wrap_id (by omega) (by omega)]; omega
    have e2 : IntKind.wrap .i64 ((i : Int) - 2) = (i : Int) - 2 := wrap_id (by omega) (by omega)
    have e3 : IntKind.wrap .i64 (2 + a) = 2 + a := wrap_id (by omega) (by omega)
    simp only [state_State_things_g, thing_Good_eq, cap_None_eq, geo_Root_eq, Thing.c, List.getElem?_eq_getElem hi, e1, e2, e3, holders_eq n a b c x y z w S _ _ _ _ hS hn]
    have hroot : ∀ v, ((T[i].ty == 2) && ((T[i].bits == 3) && ((T[i].base == v) && ((T[i].size == 0) && ((T[i].used == 0) && ((T[i].fr == 0) && ((T[i].badge == 0) && ((T[i].full == false) && ((T[i].word == 0) && ((T[i].d0 == 0) && ((T[i].d1 == 0) && ((T[i].d2 == 0) && ((T[i].d3 == 0) && true))))))))))))) = rootEq T[i] v := fun _ => rfl
    simp only [hroot]
    -- what comes last, whatever came ahead
    have tail : ∀ X : Option ρ, X = (bif decide ((i : Int) ≥ 2) then
          bif decide ((i : Int) < 2 + a) then
            (bif !rootEq T[i] (bif geoGood a b c && inM ((i : Int) - 2) 0 (a - 1) then 8 * ((i : Int) - 2) else 0) then K false else rec ((i + 1 : Nat) : Int))
          else bif T[i].ty != 0 then (match holdersM S (i : Int) with | [] => K false | l => bif ((l.length : Nat) : Int) == 0 then K false else rec ((i + 1 : Nat) : Int)) else rec ((i + 1 : Nat) : Int)
        else bif T[i].ty != 0 then (match holdersM S (i : Int) with | [] => K false | l => bif ((l.length : Nat) : Int) == 0 then K false else rec ((i + 1 : Nat) : Int)) else rec ((i + 1 : Nat) : Int)) →
        X = bif (bif decide ((i : Int) ≥ 2) && decide ((i : Int) < 2 + a) then rootEq T[i] (8 * ((i : Int) - 2)) else (bif T[i].ty != 0 then !(holdersM S (i : Int)).isEmpty else true)) then rec ((i + 1 : Nat) : Int) else K false := by
      intro X hX
      rw [hX]
      have hh : (match holdersM S (i : Int) with | [] => K false | l => bif ((l.length : Nat) : Int) == 0 then K false else rec ((i + 1 : Nat) : Int)) = bif !(holdersM S (i : Int)).isEmpty then rec ((i + 1 : Nat) : Int) else K false := by
        cases holdersM S (i : Int) with
        | nil => rfl
        | cons q r =>
          have : ((((q :: r).length : Nat) : Int) == 0) = false := by simp; omega
          show (bif ((((q :: r).length : Nat) : Int) == 0) then K false else _) = _
          rw [this]; rfl
      rw [hh]
      by_cases h2 : (i : Int) ≥ 2
      · by_cases h3 : (i : Int) < 2 + a
        · have h4 : inM ((i : Int) - 2) 0 (a - 1) = true := inM_iff.2 ⟨by omega, by omega⟩
          rw [h4, hg]
          simp only [h2, h3, decide_true, Bool.and_self, cond_true]
          cases rootEq T[i] (8 * ((i : Int) - 2)) <;> rfl
        · simp only [h2, h3, decide_true, decide_false, Bool.and_false, cond_true, cond_false]
          cases T[i].ty != 0 <;> rfl
      · simp only [h2, decide_false, Bool.false_and, cond_false]
        cases T[i].ty != 0 <;> rfl
    unfold thingOK
    cases h0 : thingGood T[i]
    · rfl
    · simp only [bif_t, Bool.true_and]
      have hfr := thingGood_fr h0
      by_cases hf : T[i].fr > 0
      · simp only [hf, decide_true, cond_true]
        by_cases hl : T[i].fr > S.length
        · simp only [hl, decide_true, cond_true, Bool.false_and, bif_f]
        · have hk : (T[i].fr - 1).toNat < S.length := by omega
          have e4 : IntKind.wrap .i64 (T[i].fr - 1) = (((T[i].fr - 1).toNat : Nat) : Int) := by rw [wrap_id (by omega) (by omega)]; omega
          simp only [hl, decide_false, cond_false]
          rw [e4, rowT_S hk]
          simp only [Slot.c, List.getElem?_eq_getElem hk]
          cases capNone S[(T[i].fr - 1).toNat].ty S[(T[i].fr - 1).toNat].th S[(T[i].fr - 1).toNat].ri S[(T[i].fr - 1).toNat].ba
          · simp only [bif_f, Bool.not_false, Bool.true_and]
            exact tail _ rfl
          · rfl
      · simp only [hf, decide_false, cond_false, Bool.true_and]
        exact tail _ rfl
  · exact hn2

/-! nodes -/
def hasM (t : Thing) (s : Int) : Bool := t.ty == 2 && (decide (s ≥ t.base) && decide (s < t.base + 2 ^ t.bits.toNat))
theorem has_eq (t : Thing) (ht : thingGood t = true) (s : Int) (K : Bool → Option ρ) : state_has n ρ t.ty t.bits t.base t.size t.used t.fr t.badge t.full t.word t.d0 t.d1 t.d2 t.d3 s K = K (hasM t s) := by
  show state_has_s _ n t.ty t.bits t.base t.size t.used t.fr t.badge t.full t.word t.d0 t.d1 t.d2 t.d3 s K = _
  unfold state_has_s hasM
  cases h2 : t.ty == 2
  · rfl
  · obtain ⟨hb, h0, h1⟩ := thingGood_node ht (by simpa using h2)
    have hw : IntKind.wrap .i64 (t.base + 2 ^ t.bits.toNat) = t.base + 2 ^ t.bits.toNat := by
      rcases two_pow hb with e | e | e | e <;> rw [e] at h1 ⊢ <;> exact wrap_id (by omega) (by omega)
    rw [show decide (0 ≤ t.bits) = true by simp; omega, shl_id hb, hw]
    simp only [bif_t, chk_t, Bool.true_and]
    cases decide (s ≥ t.base) <;> cases decide (s < t.base + 2 ^ t.bits.toNat) <;> rfl

/-- the first that has it; -1: none -/
def ownerF (T : List Thing) (s : Int) (i : Nat) : Nat → Int
  | 0 => -1
  | d + 1 => match T[i]? with
    | some t => bif hasM t s then (i : Int) else ownerF T s (i + 1) d
    | none => -1
def ownerM (T : List Thing) (s : Int) : Int := ownerF T s 0 T.length
def allGood (T : List Thing) : Bool := T.all thingGood

theorem index_eq (x y : Bool) (T : List Thing) (hT : T.length < 1000000) (hg : allGood T = true) (hn : T.length < n) (s : Int) (K : Int → Option ρ) : slices_IndexFunc_Thing n ρ x y (encT T) s K = K (ownerM T s) := by
  show slices_IndexFunc_Thing_s _ n x y (encT T) s K = _
  unfold slices_IndexFunc_Thing_s slices_IndexFunc_Thing_l2
  rw [encT_len]
  have key : ∀ (d i m : Nat), i + d = T.length → d < m → fuelN (slices_IndexFunc_Thing_l2_s (slices_IndexFunc_Thing_g n) n x y (encT T) s ((T.length : Nat) : Int) (fun w0_0 => K w0_0) (K (-1))) m (i : Int) = K (ownerF T s i d) := by
    intro d
    induction d with
    | zero =>
      intro i m h hm
      obtain ⟨m, rfl⟩ : ∃ k, m = k + 1 := ⟨m - 1, by omega⟩
      rw [fuelN_succ]
      generalize fuelN _ m = rec
      unfold slices_IndexFunc_Thing_l2_s
      simp only
      rw [show decide ((i : Int) < ((T.length : Nat) : Int)) = false by simp; omega]
      rfl
    | succ d ih =>
      intro i m h hm
      obtain ⟨m, rfl⟩ : ∃ k, m = k + 1 := ⟨m - 1, by omega⟩
      have hi : i < T.length := by omega
      have ih := ih (i + 1) m (by omega) (by omega)
      rw [fuelN_succ]
      generalize hr : fuelN _ m = rec at ih ⊢
      unfold slices_IndexFunc_Thing_l2_s
      simp only
      rw [show decide ((i : Int) < ((T.length : Nat) : Int)) = true by simp; omega, bif_t, rowT_T hi, wrap_id (by omega) (by omega), show ((i : Int) + 1) = ((i + 1 : Nat) : Int) by omega]
      have h1 : state_State_owner_1 n ρ T[i].ty T[i].bits T[i].base T[i].size T[i].used T[i].fr T[i].badge T[i].full T[i].word T[i].d0 T[i].d1 T[i].d2 T[i].d3 s (fun w1_0 => bif w1_0 then K (i : Int) else rec ((i + 1 : Nat) : Int)) = bif hasM T[i] s then K (i : Int) else rec ((i + 1 : Nat) : Int) := by
        show state_State_owner_1_s (state_State_owner_1_g n) n T[i].ty T[i].bits T[i].base T[i].size T[i].used T[i].fr T[i].badge T[i].full T[i].word T[i].d0 T[i].d1 T[i].d2 T[i].d3 s _ = _
        simp only [state_State_owner_1_s, state_State_owner_1_g, has_eq n T[i] (List.all_eq_true.1 hg _ (List.getElem_mem hi))]
        cases hasM T[i] s <;> rfl
      simp only [slices_IndexFunc_Thing_g, Thing.c, ownerF, List.getElem?_eq_getElem hi]
      rw [h1, ih]
      cases hasM T[i] s <;> rfl
  exact key T.length 0 n (by omega) hn

theorem owner_eq (a b c : Int) (x y z w : Bool) (R : Rows) (T : List Thing) (hT : T.length < 1000000) (hg : allGood T = true) (hn : T.length < n) (s : Int) (K : Int → Option ρ) :
    state_State_owner n ρ a b c x y R z w (encT T) s K = K (ownerM T s) := by
  show state_State_owner_s (state_State_owner_g n) n a b c x y R z w (encT T) s K = _
  simp only [state_State_owner_s, state_State_owner_g, index_eq n z w T hT hg hn]

/-- marks from 'base' on; none: it is not there, or had -/
def markM (base : Int) (H : List Bool) (j : Nat) : Nat → Option (List Bool)
  | 0 => some H
  | d + 1 => match H[(base + j).toNat]? with
    | some false => markM base (H.set (base + j).toNat true) (j + 1) d
    | _ => none
def encB (l : List Bool) : Rows := l.map fun x => [.b x]
def nodesF (T : List Thing) (H : List Bool) (i : Nat) : Nat → Option (List Bool)
  | 0 => some H
  | d + 1 => match T[i]? with
    | some t => bif t.ty != 2 then nodesF T H (i + 1) d else match markM t.base H 0 (2 ^ t.bits.toNat) with
      | some H => nodesF T H (i + 1) d
      | none => none
    | none => none
def nodesM (S : List Slot) (T : List Thing) : Bool := match nodesF T (List.replicate S.length false) 0 T.length with
  | some H => (List.range S.length).all fun i => match H[i]?, S[i]? with | some h, some s => h || capNone s.ty s.th s.ri s.ba | _, _ => true
  | none => false
theorem markM_len : ∀ (d : Nat) {base : Int} {H H' : List Bool} {j : Nat}, markM base H j d = some H' → H'.length = H.length
  | 0, _, _, _, _, h => by simp [markM] at h; rw [h]
  | d + 1, base, H, H', j, h => by
    simp only [markM] at h
    split at h
    · rw [markM_len d h]; simp
    · cases h
theorem nodesF_len {T : List Thing} : ∀ (d : Nat) {H H' : List Bool} {i : Nat}, nodesF T H i d = some H' → H'.length = H.length
  | 0, _, _, _, h => by simp [nodesF] at h; rw [h]
  | d + 1, H, H', i, h => by
    simp only [nodesF] at h
    split at h
    · rename_i t ht
      cases ht2 : (t.ty != 2)
      · rw [ht2] at h
        simp only [cond_false] at h
        split at h
        · rename_i H1 h1
          rw [nodesF_len d h, markM_len _ h1]
        · cases h
      · rw [ht2] at h
        simp only [cond_true] at h
        exact nodesF_len d h
    · cases h
theorem rowN_B {l : List Bool} {i : Nat} (h : i < l.length) (K : CT [.b] → Option ρ) : rowN [.b] (encB l) i K = K (l[i], ()) := by
  unfold rowN encB
  simp only [List.getElem?_map, List.getElem?_eq_getElem h, Option.map_some]
  rfl
theorem rowN_Ba {l : List Bool} {i : Nat} (h : i < l.length) (K : CT [.a] → Option ρ) : rowN [.a] (encB l) i K = K (.b l[i], ()) := by
  unfold rowN encB
  simp only [List.getElem?_map, List.getElem?_eq_getElem h, Option.map_some]
  rfl
theorem encB_set (l : List Bool) (i : Nat) (v : Bool) : (encB l).set i [.b v] = encB (l.set i v) := by simp [encB, List.map_set]
end
end Go.Rv
/-
The plain mathematics of states: nodes, what is inside what.
-/
namespace Go.Rv
section
variable {ρ : Type} (n : Nat)

theorem mark_loop (G : state_State_nodes_G) (len cnt : Nat) (q2 q3 : Bool) (q4 : Rows) (q5 q6 q8 q9 q10 : Int) (q11 q12 : Bool) (q13 : Rows) (q14 q15 : Bool) (q16 : Rows) (q18 q19 base q21 q22 q23 q24 : Int) (q25 : Bool) (q26 q27 q28 q29 q30 : Int) (kf : Option ρ) (k1 : Rows → Option ρ)
    (hb : 0 ≤ base) (hc : base + cnt < 1000000) (hl : len < 1000000) :
    ∀ (d j m : Nat) (H : List Bool), j + d = cnt → d < m → H.length = len →
      fuelN (state_State_nodes_l7_s G n len len q2 q3 q4 q5 q6 (cnt : Int) q8 q9 q10 q11 q12 q13 q14 q15 q16 q18 q19 base q21 q22 q23 q24 q25 q26 q27 q28 q29 q30 (fun _ => kf) k1) m ((j : Int), encB H) =
        match markM base H j d with | some H' => k1 (encB H') | none => kf := by
  intro d
  induction d with
  | zero =>
    intro j m H h hm hH
    obtain ⟨m, rfl⟩ : ∃ k, m = k + 1 := ⟨m - 1, by omega⟩
    rw [fuelN_succ]
    generalize fuelN _ m = rec
    unfold state_State_nodes_l7_s
    simp only
    rw [show decide ((j : Int) < (cnt : Int)) = false by simp; omega]
    rfl
  | succ d ih =>
    intro j m H h hm hH
    obtain ⟨m, rfl⟩ : ∃ k, m = k + 1 := ⟨m - 1, by omega⟩
    have ih := fun H' => ih (j + 1) m H' (by omega) (by omega)
    rw [fuelN_succ]
    generalize hr : fuelN _ m = rec at ih ⊢
    unfold state_State_nodes_l7_s
    simp only
    rw [show decide ((j : Int) < (cnt : Int)) = true by simp; omega, bif_t, wrap_id (by omega) (by omega), wrap_id (n := (j : Int) + 1) (by omega) (by omega), show ((j : Int) + 1) = ((j + 1 : Nat) : Int) by omega, Nat.zero_add]
    simp only [markM]
    by_cases h1 : base + (j : Int) ≥ (len : Int)
    · have : H[(base + (j : Int)).toNat]? = none := List.getElem?_eq_none (by omega)
      rw [this]
      simp [h1]
    · have hk : (base + (j : Int)).toNat < H.length := by omega
      have e1 : decide (base + (j : Int) ≥ (len : Int)) = false := by simpa using h1
      have e2 : decide ((0 : Int) ≤ base + (j : Int)) = true := by simp; omega
      have e3 : decide (base + (j : Int) < (len : Int)) = true := by simp; omega
      have e4 : ((encB H).length == len) = true := by simp [encB, hH]
      rw [e1, e2, e3, e4, rowN_B hk, rowN_Ba hk, encB_set]
      simp only [bif_f, chk_t, List.getElem?_eq_getElem hk]
      cases h5 : H[(base + (j : Int)).toNat]
      · simp only [bif_f]
        exact ih (H.set (base + (j : Int)).toNat true) (by simpa using hH)
      · rfl

theorem nodes_eq (a b c : Int) (x y z w : Bool) (S : List Slot) (T : List Thing) (hg : allGood T = true) (hS : S.length < 1000000) (hT : T.length < 1000000) (hn : S.length < n) (hn2 : T.length < n) (hn3 : 16 < n) (K : Bool → Option ρ) :
    state_State_nodes n ρ a b c x y (encS S) z w (encT T) K = K (nodesM S T) := by
  show state_State_nodes_s (state_State_nodes_g n) n a b c x y (encS S) z w (encT T) K = _
  unfold state_State_nodes_s
  simp only [encS_len, encT_len, Int.toNat_natCast]
  rw [show decide ((0 : Int) ≤ ((S.length : Nat) : Int)) = true by simp, show decide (((S.length : Nat) : Int) ≤ ((S.length : Nat) : Int)) = true by simp, show decide (((S.length : Nat) : Int) ≤ (most : Int)) = true by
    have : (most : Int) = 16777216 := rfl
    simp only [decide_eq_true_eq]; omega]
  simp only [chk_t]
  have h0 : List.replicate S.length [AV.b false] = encB (List.replicate S.length false) := by simp [encB]
  rw [h0]
  -- the last loop
  have last : ∀ H : List Bool, H.length = S.length → state_State_nodes_l16 (state_State_nodes_g n) n S.length S.length x y (encS S) ((S.length : Nat) : Int) a b c x y (encS S) z w (encT T) (encB H) (K false) (K true) 0 =
      K ((List.range S.length).all fun i => match H[i]?, S[i]? with | some h, some s => h || capNone s.ty s.th s.ri s.ba | _, _ => true) := by
    intro H hH
    unfold state_State_nodes_l16
    rw [up_loop0 (len := S.length) (k0 := K false) (k1 := K true) (fun i => match H[i]?, S[i]? with | some h, some s => h || capNone s.ty s.th s.ri s.ba | _, _ => true)]
    · cases (List.range S.length).all _ <;> rfl
    · intro rec
      unfold state_State_nodes_l16_s
      simp only
      rw [show decide (((S.length : Nat) : Int) < ((S.length : Nat) : Int)) = false by simp]
      rfl
    · intro rec i hi
      unfold state_State_nodes_l16_s
      simp only
      have hk : i < H.length := by omega
      rw [show decide ((i : Int) < ((S.length : Nat) : Int)) = true by simpa using hi, bif_t, rowT_S hi, show decide ((0 : Int) ≤ (i : Int)) = true by simp, show ((encB H).length == S.length) = true by simp [encB, hH], wrap_id (by omega) (by omega), Nat.zero_add, show ((i : Int) + 1) = ((i + 1 : Nat) : Int) by omega]
      simp only [chk_t, Int.toNat_natCast, rowN_B hk, state_State_nodes_g, cap_None_eq, Slot.c, List.getElem?_eq_getElem hk, List.getElem?_eq_getElem hi]
      cases H[i] <;> cases capNone S[i].ty S[i].th S[i].ri S[i].ba <;> rfl
    · exact hn
  have main : ∀ (d i m : Nat) (H : List Bool), i + d = T.length → d < m → H.length = S.length →
      fuelN (state_State_nodes_l3_s (state_State_nodes_g n) n S.length S.length z w (encT T) ((T.length : Nat) : Int) a b c x y (encS S) z w (encT T) (fun _ => K false) (fun w1_0 => state_State_nodes_l16 (state_State_nodes_g n) n S.length S.length x y (encS S) ((S.length : Nat) : Int) a b c x y (encS S) z w (encT T) w1_0 (K false) (K true) 0)) m ((i : Int), encB H) =
        match nodesF T H i d with
        | some H => K ((List.range S.length).all fun i => match H[i]?, S[i]? with | some h, some s => h || capNone s.ty s.th s.ri s.ba | _, _ => true)
        | none => K false := by
    intro d
    induction d with
    | zero =>
      intro i m H h hm hH
      obtain ⟨m, rfl⟩ : ∃ k, m = k + 1 := ⟨m - 1, by omega⟩
      rw [fuelN_succ]
      generalize fuelN _ m = rec
      unfold state_State_nodes_l3_s
      simp only
      rw [show decide ((i : Int) < ((T.length : Nat) : Int)) = false by simp; omega, bif_f, last H hH]
      rfl
    | succ d ih =>
      intro i m H h hm hH
      obtain ⟨m, rfl⟩ : ∃ k, m = k + 1 := ⟨m - 1, by omega⟩
      have hi : i < T.length := by omega
      have ih := fun H' => ih (i + 1) m H' (by omega) (by omega)
      rw [fuelN_succ]
      generalize hr : fuelN _ m = rec at ih ⊢
      unfold state_State_nodes_l3_s
      simp only
      rw [show decide ((i : Int) < ((T.length : Nat) : Int)) = true by simp; omega, bif_t, rowT_T hi, wrap_id (n := (i : Int) + 1) (by omega) (by omega), show ((i : Int) + 1) = ((i + 1 : Nat) : Int) by omega]
      simp only [Thing.c, nodesF, List.getElem?_eq_getElem hi]
      cases h2 : T[i].ty != 2
      · obtain ⟨hb, hb0, hb1⟩ := thingGood_node (List.all_eq_true.1 hg _ (List.getElem_mem hi)) (by simpa [bne] using h2)
        have hp : ((2 : Int) ^ T[i].bits.toNat) = ((2 ^ T[i].bits.toNat : Nat) : Int) := by simp
        have hp16 : 2 ^ T[i].bits.toNat ≤ 16 := by
          have : T[i].bits.toNat ≤ 4 := by omega
          calc 2 ^ T[i].bits.toNat ≤ 2 ^ 4 := Nat.pow_le_pow_right (by omega) this
            _ = 16 := rfl
        have hpos : 0 < 2 ^ T[i].bits.toNat := Nat.pos_of_ne_zero (by simp)
        simp only [cond_false]
        simp only [show (0 : Int) ≤ T[i].bits by omega, decide_true, chk_t, shl_id hb]
        unfold state_State_nodes_l7
        rw [hp] at hb1 ⊢
        have := mark_loop n (state_State_nodes_g n) S.length (2 ^ T[i].bits.toNat) z w (encT T) ((T.length : Nat) : Int) (i : Int) a b c x y (encS S) z w (encT T) T[i].ty T[i].bits T[i].base T[i].size T[i].used T[i].fr T[i].badge T[i].full T[i].word T[i].d0 T[i].d1 T[i].d2 T[i].d3 (K false) (fun w2_0 => rec (((i + 1 : Nat) : Int), w2_0)) hb0 (by omega) hS (2 ^ T[i].bits.toNat) 0 n H (by omega) (by omega) hH
        simp only [Int.natCast_zero] at this
        rw [this]
        cases hm' : markM T[i].base H 0 (2 ^ T[i].bits.toNat) with
        | none => rfl
        | some H' => exact ih H' (by rw [markM_len _ hm', hH])
      · simp only [cond_true]
        exact ih H hH
  have := main T.length 0 n (List.replicate S.length false) (by omega) hn2 (by simp)
  unfold state_State_nodes_l3
  rw [show ((0 : Nat) : Int) = 0 from rfl] at this
  rw [this]
  unfold nodesM
  cases nodesF T (List.replicate S.length false) 0 T.length <;> rfl

/-! what is inside what -/
def encM (l : List Int) : Mp := l.map fun k => (.i .i64 k, .b true)
theorem mapFind_encM (k : Int) : ∀ l : List Int, mapFind (.i .i64 k) (encM l) = some (bif l.contains k then some (.b true) else none)
  | [] => rfl
  | q :: r => by
    have ih := mapFind_encM k r
    rw [List.contains_cons]
    simp only [encM, List.map_cons, mapFind, eq1, if_true] at ih ⊢
    cases h : k == q
    · have h' : (q == k) = false := by simp at h ⊢; omega
      simp only [Bool.false_or, ih]
      try rw [h']
    · have h' : (q == k) = true := by simp at h ⊢; omega
      simp only [Bool.true_or, cond_true]
      try rw [h']
theorem mapB_encM (k : Int) (l : List Int) (K : Bool → Option ρ) : mapB false (.i .i64 k) (encM l) K = K (l.contains k) := by
  unfold mapB
  rw [mapFind_encM]
  cases l.contains k <;> rfl
theorem mapSet_encM (k : Int) : ∀ l : List Int, l.contains k = false → mapSet (.i .i64 k) (.b true) (encM l) = some (encM (l ++ [k]))
  | [], _ => rfl
  | q :: r, h => by
    simp only [List.contains_cons, Bool.or_eq_false_iff] at h
    have ih := mapSet_encM k r h.2
    have h' : (q == k) = false := by have := h.1; simp at this ⊢; omega
    simp only [encM, List.map_cons, List.cons_append, mapSet, eq1, if_true] at ih ⊢
    first | rw [h.1, ih] | rw [h', ih]
theorem mapU_encM (k : Int) (l : List Int) (h : l.contains k = false) (K : Mp → Option ρ) : mapU k .i64 true (encM l) K = K (encM (l ++ [k])) := by
  unfold mapU
  rw [mapSet_encM k l h]
end
end Go.Rv
/-
The plain mathematics of states: what is inside what, rings, what came of what.
-/
namespace Go.Rv

theorem countP_lt {α : Type} {p q : α → Bool} : ∀ {l : List α}, (∀ x ∈ l, q x = true → p x = true) → (∃ x ∈ l, p x = true ∧ q x = false) → l.countP q < l.countP p
  | [], _, ⟨x, hx, _⟩ => by cases hx
  | y :: l, h, ⟨x, hx, h1, h2⟩ => by
    have hle : l.countP q ≤ l.countP p := List.countP_mono_left fun z hz => h z (List.mem_cons_of_mem _ hz)
    rw [List.countP_cons, List.countP_cons]
    rcases List.mem_cons.1 hx with rfl | hx'
    · rw [h1, h2]; simp; omega
    · have ih := countP_lt (l := l) (fun z hz => h z (List.mem_cons_of_mem _ hz)) ⟨x, hx', h1, h2⟩
      have hy := h y (List.mem_cons_self ..)
      cases hq : q y
      · cases p y <;> simp <;> omega
      · rw [hy hq]; simp; omega

/-- how many are not marked -/
def unm (N : Nat) (l : List Int) : Nat := (List.range N).countP (fun k : Nat => !l.contains (k : Int))
theorem unm_le (N : Nat) (l : List Int) : unm N l ≤ N := by
  have := List.countP_le_length (p := fun k : Nat => !l.contains (k : Int)) (l := List.range N)
  simpa [unm] using this
theorem unm_mono {N : Nat} {l l' : List Int} (h : ∀ k ∈ l, k ∈ l') : unm N l' ≤ unm N l := by
  unfold unm
  refine List.countP_mono_left fun k _ hk => ?_
  simp only [Bool.not_eq_true', List.contains_eq_mem, decide_eq_false_iff_not] at hk ⊢
  exact fun hm => hk (h _ hm)
theorem unm_add {N : Nat} {l : List Int} {k : Int} (h0 : 0 ≤ k) (h1 : k < N) (h : l.contains k = false) : unm N (l ++ [k]) < unm N l := by
  unfold unm
  refine countP_lt (fun q _ hq => ?_) ⟨k.toNat, List.mem_range.2 (by omega), ?_, ?_⟩
  · simp only [Bool.not_eq_true', List.contains_eq_mem, decide_eq_false_iff_not, List.mem_append] at hq ⊢
    exact fun hm => hq (Or.inl hm)
  · rw [show ((k.toNat : Nat) : Int) = k by omega, h]; rfl
  · rw [show ((k.toNat : Nat) : Int) = k by omega]; simp

section
variable (n : Nat) (a b c : Int) (x y z w : Bool) (S : List Slot) (T : List Thing)

theorem thereM_iff {T : List Thing} {t : Int} (h : thereM T t = true) : 0 ≤ t ∧ t < T.length := by
  simp only [thereM, Bool.and_eq_true, decide_eq_true_eq] at h
  omega

theorem within_loop (G : state_within_G) (h1 : G.state_has = state_has n) (h2 : G.state_State_there = state_State_there n) (hg : allGood T = true) (hS : S.length < 1000000) (node : Int) (hn0 : 0 ≤ node) (hn1 : node < T.length) (u : Nat)
    (hself : ∀ (l : List Int) (k : Int), 0 ≤ k → k < T.length → unm T.length l ≤ u → ∃ l', (∀ q ∈ l, q ∈ l') ∧ ∀ (ρ : Type) (K : Mp → Option ρ), G.state_within ρ a b c x y (encS S) z w (encT T) k (encM l) K = K (encM l')) :
    ∀ (d i : Nat) (l : List Int), i + d = S.length → unm T.length l ≤ u → ∃ l', (∀ q ∈ l, q ∈ l') ∧ ∀ (ρ : Type) (k0 : Mp → Option ρ) (m : Nat), d < m →
      fuelN (state_within_l4_s G n node x y (encS S) ((S.length : Nat) : Int) a b c x y (encS S) z w (encT T) k0) m ((i : Int), encM l) = k0 (encM l') := by
  intro d
  induction d with
  | zero =>
    intro i l h hu
    refine ⟨l, fun _ h => h, fun ρ k0 m hm => ?_⟩
    obtain ⟨m, rfl⟩ : ∃ k, m = k + 1 := ⟨m - 1, by omega⟩
    rw [fuelN_succ]
    generalize fuelN _ m = rec
    unfold state_within_l4_s
    simp only
    rw [show decide ((i : Int) < ((S.length : Nat) : Int)) = false by simp; omega]
    rfl
  | succ d ih =>
    intro i l h hu
    have hi : i < S.length := by omega
    obtain ⟨k, rfl⟩ : ∃ k : Nat, node = k := ⟨node.toNat, by omega⟩
    have hk : k < T.length := by omega
    -- the round that hands on nothing new, and the one that goes inside
    have step : ∃ l1, (∀ q ∈ l, q ∈ l1) ∧ unm T.length l1 ≤ u ∧ ∀ (ρ : Type) (k0 : Mp → Option ρ) (rec : state_within_l4_V → Option ρ),
        state_within_l4_s G n (k : Int) x y (encS S) ((S.length : Nat) : Int) a b c x y (encS S) z w (encT T) k0 rec ((i : Int), encM l) = rec (((i + 1 : Nat) : Int), encM l1) := by
      have pre : ∀ (ρ : Type) (k0 : Mp → Option ρ) (rec : state_within_l4_V → Option ρ), state_within_l4_s G n (k : Int) x y (encS S) ((S.length : Nat) : Int) a b c x y (encS S) z w (encT T) k0 rec ((i : Int), encM l) =
          bif S[i].ty == 2 then (bif hasM T[k] (i : Int) then (bif thereM T S[i].th then G.state_within ρ a b c x y (encS S) z w (encT T) S[i].th (encM l) (fun w4_0 => rec (((i + 1 : Nat) : Int), w4_0)) else rec (((i + 1 : Nat) : Int), encM l)) else rec (((i + 1 : Nat) : Int), encM l)) else rec (((i + 1 : Nat) : Int), encM l) := by
        intro ρ k0 rec
        unfold state_within_l4_s
        simp only
        rw [show decide ((i : Int) < ((S.length : Nat) : Int)) = true by simpa using hi, bif_t, rowT_S hi, wrap_id (by omega) (by omega), show ((i : Int) + 1) = ((i + 1 : Nat) : Int) by omega, rowT_T hk]
        simp only [h1, h2, Slot.c, Thing.c, has_eq n T[k] (List.all_eq_true.1 hg _ (List.getElem_mem hk)), there_eq]
      cases e1 : S[i].ty == 2
      · exact ⟨l, fun _ h => h, hu, fun ρ k0 rec => by rw [pre, e1]; rfl⟩
      · cases e2 : hasM T[k] (i : Int)
        · exact ⟨l, fun _ h => h, hu, fun ρ k0 rec => by rw [pre, e1, e2]; rfl⟩
        · cases e3 : thereM T S[i].th
          · exact ⟨l, fun _ h => h, hu, fun ρ k0 rec => by rw [pre, e1, e2, e3]; rfl⟩
          · obtain ⟨h3, h4⟩ := thereM_iff e3
            obtain ⟨l1, h5, h6⟩ := hself l S[i].th h3 h4 hu
            exact ⟨l1, h5, Nat.le_trans (unm_mono h5) hu, fun ρ k0 rec => by rw [pre, e1, e2, e3]; simp only [bif_t]; rw [h6]⟩
    obtain ⟨l1, hl1, hu1, hs⟩ := step
    obtain ⟨l2, hl2, hr⟩ := ih (i + 1) l1 (by omega) hu1
    refine ⟨l2, fun q hq => hl2 q (hl1 q hq), fun ρ k0 m hm => ?_⟩
    obtain ⟨m, rfl⟩ : ∃ k, m = k + 1 := ⟨m - 1, by omega⟩
    rw [fuelN_succ, hs]
    exact hr ρ k0 m (by omega)

theorem within_ex (hg : allGood T = true) (hS : S.length < 1000000) (hn : S.length < n) : ∀ (m : Nat) (l : List Int) (node : Int), 0 ≤ node → node < T.length → unm T.length l < m →
    ∃ l', (∀ q ∈ l, q ∈ l') ∧ ∀ (ρ : Type) (K : Mp → Option ρ), state_within n m ρ a b c x y (encS S) z w (encT T) node (encM l) K = K (encM l')
  | 0, _, _, _, _, h => by omega
  | m + 1, l, node, h0, h1, hu => by
    cases hc : l.contains node
    · have hlt := unm_add (N := T.length) h0 h1 hc
      obtain ⟨l', hl', hr⟩ := within_loop n a b c x y z w S T ⟨state_has n, state_State_there n, state_within n m⟩ rfl rfl hg hS node h0 h1 (unm T.length (l ++ [node]))
        (fun l2 k hk0 hk1 hl2 => within_ex hg hS hn m l2 k hk0 hk1 (by omega)) S.length 0 (l ++ [node]) (by omega) (Nat.le_refl _)
      refine ⟨l', fun q hq => hl' q (List.mem_append_left _ hq), fun ρ K => ?_⟩
      show state_within_s _ n a b c x y (encS S) z w (encT T) node (encM l) K = _
      unfold state_within_s state_within_l4
      rw [mapB_encM, hc, bif_f, mapU_encM _ _ hc, encS_len]
      exact hr ρ (fun w2_0 => K w2_0) n hn
    · refine ⟨l, fun _ h => h, fun ρ K => ?_⟩
      show state_within_s _ n a b c x y (encS S) z w (encT T) node (encM l) K = _
      unfold state_within_s
      rw [mapB_encM, hc, bif_t]

theorem inside_ex (hg : allGood T = true) (hS : S.length < 1000000) (hT : T.length < 1000000) (hn : S.length < n) (hn2 : T.length < n) (node s : Int) :
    ∃ r : Bool, ∀ (ρ : Type) (K : Bool → Option ρ), state_State_inside n ρ a b c x y (encS S) z w (encT T) node s K = K r := by
  cases h0 : thereM T node
  · refine ⟨false, fun ρ K => ?_⟩
    show state_State_inside_s (state_State_inside_g n) n a b c x y (encS S) z w (encT T) node s K = _
    simp only [state_State_inside_s, state_State_inside_g, there_eq, h0]
    rfl
  · obtain ⟨h1, h2⟩ := thereM_iff h0
    obtain ⟨k, rfl⟩ : ∃ k : Nat, node = k := ⟨node.toNat, by omega⟩
    have hk : k < T.length := by omega
    have hu : unm T.length [] < n := Nat.lt_of_le_of_lt (unm_le _ _) hn2
    obtain ⟨l', _, hr⟩ := within_ex n a b c x y z w S T hg hS hn n [] (k : Int) h1 h2 hu
    refine ⟨T[k].ty == 2 && l'.contains (ownerM T s), fun ρ K => ?_⟩
    show state_State_inside_s (state_State_inside_g n) n a b c x y (encS S) z w (encT T) (k : Int) s K = _
    unfold state_State_inside_s
    rw [rowT_T hk]
    simp only [state_State_inside_g, there_eq, h0, bif_t, Thing.c]
    cases h3 : T[k].ty == 2
    · simp [bne, h3]
    · have e : (T[k].ty != 2) = false := by simp [bne, h3]
      rw [e, bif_f]
      have := hr ρ (fun w2_0 => state_State_owner n ρ a b c x y (encS S) z w (encT T) s fun w3_0 => mapB false (AV.i .i64 w3_0) w2_0 fun q4 => bif q4 then K true else K false)
      simp only [encM, List.map_nil] at this
      rw [this]
      simp only [owner_eq n a b c x y z w (encS S) T hT hg hn2]
      have := mapB_encM (ρ := ρ) (ownerM T s) l' (fun q4 => bif q4 then K true else K false)
      simp only [encM] at this
      rw [this]
      cases l'.contains (ownerM T s) <;> rfl

theorem ring_ex (hg : allGood T = true) (hS : S.length < 1000000) (hT : T.length < 1000000) (hn : S.length < n) (hn2 : T.length < n) :
    ∃ r : Bool, ∀ (ρ : Type) (K : Bool → Option ρ), state_State_ring n ρ a b c x y (encS S) z w (encT T) K = K r := by
  have hex := fun i : Nat => inside_ex n a b c x y z w S T hg hS hT hn hn2 (match S[i]? with | some s => s.th | none => 0) (i : Int)
  obtain ⟨f, hf⟩ := Classical.axiomOfChoice hex
  let p : Nat → Bool := fun i => match S[i]? with | some s => !(s.ty == 2 && f i) | none => true
  refine ⟨!((List.range S.length).all p), fun ρ K => ?_⟩
  show state_State_ring_s (state_State_ring_g n) n a b c x y (encS S) z w (encT T) K = _
  unfold state_State_ring_s state_State_ring_l2
  rw [encS_len, up_loop0 (len := S.length) (k0 := K true) (k1 := K false) p]
  · cases (List.range S.length).all p <;> rfl
  · intro rec
    unfold state_State_ring_l2_s
    simp only
    rw [show decide (((S.length : Nat) : Int) < ((S.length : Nat) : Int)) = false by simp]
    rfl
  · intro rec i hi
    unfold state_State_ring_l2_s
    simp only
    rw [show decide ((i : Int) < ((S.length : Nat) : Int)) = true by simpa using hi, bif_t, rowT_S hi, wrap_id (by omega) (by omega), show ((i : Int) + 1) = ((i + 1 : Nat) : Int) by omega]
    have := hf i ρ
    simp only [List.getElem?_eq_getElem hi] at this
    simp only [state_State_ring_g, Slot.c, this, p, List.getElem?_eq_getElem hi]
    cases S[i].ty == 2 <;> cases f i <;> rfl
  · exact hn
end
end Go.Rv
/-
The plain mathematics of states: what came of what, what is allowed; all of it.
-/
namespace Go.Rv
section
variable {ρ : Type} (n : Nat)

/-! Forest -/
def upM (s : Slot) : Int := bif capNone s.ty s.th s.ri s.ba then -2 else s.up
section
variable (a b c : Int) (x y z w : Bool) (S : List Slot) (R : Rows) (k0 : Option ρ) (k1 : Nat → Nat → Rows → Option ρ)
theorem forest_loop (hS : S.length < 1000000) : ∀ (d i m : Nat) (acc : List Int), i + d = S.length → d < m → acc.length = i →
    fuelN (state_Forest_l3_s (state_Forest_g n) n x y (encS S) ((S.length : Nat) : Int) a b c x y (encS S) z w R k0 k1) m (.inr ((i : Int), acc.length, acc.length, encI acc)) =
      k1 (acc ++ (S.drop i).map upM).length (acc ++ (S.drop i).map upM).length (encI (acc ++ (S.drop i).map upM)) := by
  intro d
  induction d with
  | zero =>
    intro i m acc h hm ha
    obtain ⟨m, rfl⟩ : ∃ k, m = k + 1 := ⟨m - 1, by omega⟩
    rw [fuelN_succ]
    generalize fuelN _ m = rec
    unfold state_Forest_l3_s
    simp only
    rw [show decide ((i : Int) < ((S.length : Nat) : Int)) = false by simp; omega, List.drop_eq_nil_of_le (by omega)]
    simp
  | succ d ih =>
    intro i m acc h hm ha
    obtain ⟨m, rfl⟩ : ∃ k, m = k + 1 := ⟨m - 1, by omega⟩
    have hi : i < S.length := by omega
    have ih := ih (i + 1) m (acc ++ [upM S[i]]) (by omega) (by omega) (by simp [ha])
    rw [fuelN_succ]
    generalize fuelN _ m = rec at ih ⊢
    unfold state_Forest_l3_s
    simp only
    rw [show decide ((i : Int) < ((S.length : Nat) : Int)) = true by simpa using hi, bif_t, rowT_S hi, wrap_id (by omega) (by omega), show ((i : Int) + 1) = ((i + 1 : Nat) : Int) by omega]
    have e1 : ((encI acc).length == acc.length) = true := by simp [encI]
    have e2 : (acc.length == acc.length) = true := by simp
    have e3 : decide (acc.length + 1 ≤ most) = true := by
      have : most = 16777216 := rfl
      simp only [decide_eq_true_eq]; omega
    simp only [state_Forest_g, cap_None_eq, Slot.c, e1, e2, e3, chk_t]
    have e4 : ∀ v : Int, encI acc ++ [[AV.i .i64 v]] = encI (acc ++ [v]) := fun v => by simp [encI]
    rw [e4, e4]
    have e5 : acc ++ [upM S[i]] ++ List.map upM (S.drop (i + 1)) = acc ++ List.map upM (S.drop i) := by
      rw [List.drop_eq_getElem_cons hi, List.map_cons]; simp only [List.append_assoc, List.singleton_append]
    rw [e5] at ih
    rw [← ih]
    unfold upM
    cases capNone S[i].ty S[i].th S[i].ri S[i].ba <;> simp

theorem forest_eq (hS : S.length < 1000000) (hn : S.length < n) : state_Forest n ρ a b c x y (encS S) z w R k0 k1 = (match S.map upM with | [] => k0 | l => k1 l.length l.length (encI l)) := by
  show state_Forest_s _ n a b c x y (encS S) z w R k0 k1 = _
  unfold state_Forest_s state_Forest_l3
  rw [encS_len]
  obtain ⟨m, rfl⟩ : ∃ k, n = k + 1 := ⟨n - 1, by omega⟩
  rw [fuelN_succ]
  cases S with
  | nil =>
    generalize fuelN _ m = rec
    unfold state_Forest_l3_s
    rfl
  | cons s r =>
    have := forest_loop (m + 1) a b c x y z w (s :: r) R k0 k1 hS r.length 1 m [upM s] (by simp only [List.length_cons]; omega) (by simp only [List.length_cons] at hn; omega) rfl
    generalize fuelN _ m = rec at this ⊢
    unfold state_Forest_l3_s
    simp only
    have h0 : decide ((0 : Int) < (((s :: r).length : Nat) : Int)) = true := by
      simp only [List.length_cons, decide_eq_true_eq]; omega
    have hr := rowT_S (ρ := ρ) (l := s :: r) (i := 0) (by simp)
    rw [h0, bif_t]
    simp only [Int.natCast_zero] at hr
    rw [hr]
    simp only [state_Forest_g, cap_None_eq, Slot.c, List.getElem_cons_zero]
    simp only [List.length_singleton, encI, List.map_cons, List.map_nil, List.drop_succ_cons, List.drop_zero, List.singleton_append] at this
    simp only [List.map_cons, encI]
    rw [show ((1 : Nat) : Int) = 1 from rfl] at this
    simp only [List.length_cons] at this ⊢
    rw [← this]
    unfold upM
    cases capNone s.ty s.th s.ri s.ba <;> simp
end

/-! forest.Good -/
def isM (U : List Int) (i : Int) : Bool := decide (i ≥ 0) && (decide (i < U.length) && (match U[i.toNat]? with | some u => u != -2 | none => false))
theorem is_eq (p q : Bool) (U : List Int) (i : Int) (K : Bool → Option ρ) : forest_Forest_is n ρ p q (encI U) i K = K (isM U i) := by
  show forest_Forest_is_s _ n p q (encI U) i K = _
  unfold forest_Forest_is_s isM
  by_cases h0 : i ≥ 0
  · by_cases h1 : i < U.length
    · obtain ⟨k, rfl⟩ : ∃ k : Nat, i = k := ⟨i.toNat, by omega⟩
      have hk : k < U.length := by omega
      rw [rowT_I hk]
      simp only [encI_len, h0, h1, decide_true, cond_true, Int.toNat_natCast, List.getElem?_eq_getElem hk, Bool.true_and]
      cases U[k] != -2 <;> rfl
    · simp only [encI_len, h0, h1, decide_true, decide_false, cond_true, cond_false, Bool.false_and, Bool.and_false]
  · simp only [h0, decide_false, cond_false, Bool.false_and]
theorem isM_iff {U : List Int} {i : Int} (h : isM U i = true) : 0 ≤ i ∧ i < U.length := by
  simp only [isM, Bool.and_eq_true, decide_eq_true_eq] at h
  omega

def upOK (U : List Int) (u : Int) : Bool := bif u != -2 then (bif u != -1 then isM U u else true) else true
/-- does the way up from a place come to an end? -/
def chainF (U : List Int) : Nat → Int → Int → Bool
  | 0, _, _ => true
  | f + 1, steps, at' => bif isM U at' then (bif decide (steps > U.length) then false else match U[at'.toNat]? with | some u => chainF U f (steps + 1) u | none => true) else true
def forestGood (U : List Int) : Bool :=
  bif decide ((U.length : Int) > 96) then false else U.all (upOK U) && (List.range U.length).all fun i => chainF U (U.length + 3) 0 (i : Int)

theorem chain_loop (q1 q2 : Int) (p q : Bool) (U : List Int) (hU : U.length < 1000000) (k0 k1 : Option ρ) : ∀ (f m : Nat) (steps at' : Int), f ≤ m → 0 ≤ steps → steps + f = U.length + 3 → 0 < f →
    fuelN (forest_Good_i1_l14_s (forest_Good_i1_g n) n q1 q2 p q (encI U) k0 k1) m (steps, at') = bif chainF U f steps at' then k1 else k0
  | 0, _, _, _, _, _, _, h => by omega
  | f + 1, m, steps, at', hm, h0, hs, _ => by
    obtain ⟨m, rfl⟩ : ∃ k, m = k + 1 := ⟨m - 1, by omega⟩
    have ih := chain_loop q1 q2 p q U hU k0 k1 f m
    rw [fuelN_succ]
    generalize fuelN _ m = rec at ih ⊢
    unfold forest_Good_i1_l14_s chainF
    simp only [forest_Good_i1_g, is_eq, encI_len]
    cases h1 : isM U at'
    · rfl
    · simp only [cond_true]
      by_cases h2 : steps > U.length
      · simp [h2]
      · obtain ⟨h3, h4⟩ := isM_iff h1
        obtain ⟨k, rfl⟩ : ∃ k : Nat, at' = k := ⟨at'.toNat, by omega⟩
        have hk : k < U.length := by omega
        simp only [h2, decide_false, cond_false]
        rw [rowT_I hk, wrap_id (by omega) (by omega)]
        simp only [Int.toNat_natCast, List.getElem?_eq_getElem hk]
        exact ih (steps + 1) U[k] (by omega) (by omega) (by omega) (by omega)

theorem all_range {α : Type} (l : List α) (p : α → Bool) (q : Nat → Bool) (h : ∀ i (hi : i < l.length), q i = p l[i]) : (List.range l.length).all q = l.all p := by
  rw [Bool.eq_iff_iff]
  simp only [List.all_eq_true, List.mem_range]
  constructor
  · intro h1 s hs
    obtain ⟨i, hi, rfl⟩ := List.mem_iff_getElem.1 hs
    rw [← h i hi]; exact h1 i hi
  · intro h1 i hi
    rw [h i hi]; exact h1 _ (List.getElem_mem hi)

theorem forestGood_eq (p q : Bool) (U : List Int) (hn : U.length + 3 < n) (K : Bool → Option ρ) : forest_Good_i1 n ρ p q (encI U) K = K (forestGood U) := by
  show forest_Good_i1_s _ n p q (encI U) K = _
  unfold forest_Good_i1_s forestGood
  simp only [encI_len]
  by_cases h0 : ((U.length : Nat) : Int) > 96
  · simp [h0]
  · simp only [h0, decide_false, cond_false]
    unfold forest_Good_i1_l4
    rw [up_loop0 (len := U.length) (k0 := K false) (k1 := forest_Good_i1_l10 (forest_Good_i1_g n) n ((U.length : Nat) : Int) p q (encI U) (K false) (K true) 0) (fun i => match U[i]? with | some u => upOK U u | none => true)]
    · rw [all_range U (upOK U) _ (fun i hi => by simp only [List.getElem?_eq_getElem hi])]
      cases h1 : U.all (upOK U)
      · rfl
      · simp only [bif_t, Bool.true_and]
        unfold forest_Good_i1_l10
        rw [up_loop0 (len := U.length) (k0 := K false) (k1 := K true) (fun i => chainF U (U.length + 3) 0 (i : Int))]
        · cases (List.range U.length).all _ <;> rfl
        · intro rec
          unfold forest_Good_i1_l10_s
          simp only
          rw [show decide (((U.length : Nat) : Int) < ((U.length : Nat) : Int)) = false by simp]
          rfl
        · intro rec i hi
          unfold forest_Good_i1_l10_s
          simp only
          rw [show decide ((i : Int) < ((U.length : Nat) : Int)) = true by simpa using hi, bif_t, wrap_id (by omega) (by omega), show ((i : Int) + 1) = ((i + 1 : Nat) : Int) by omega]
          unfold forest_Good_i1_l14
          exact chain_loop n _ _ p q U (by omega) (K false) (rec ((i + 1 : Nat) : Int)) (U.length + 3) n 0 (i : Int) (by omega) (by omega) (by omega) (by omega)
        · omega
    · intro rec
      unfold forest_Good_i1_l4_s
      simp only
      rw [show decide (((U.length : Nat) : Int) < ((U.length : Nat) : Int)) = false by simp]
      rfl
    · intro rec i hi
      unfold forest_Good_i1_l4_s
      simp only
      rw [show decide ((i : Int) < ((U.length : Nat) : Int)) = true by simpa using hi, bif_t, rowT_I hi, wrap_id (by omega) (by omega), show ((i : Int) + 1) = ((i + 1 : Nat) : Int) by omega]
      simp only [forest_Good_i1_g, is_eq, List.getElem?_eq_getElem hi, upOK]
      cases U[i] != -2 <;> cases U[i] != -1 <;> cases isM U U[i] <;> rfl
    · omega

/-! allowed -/
def lessR (a b : Int) : Int := IntKind.wrap .i64 (BitVec.ofInt (IntKind.bits .i64) (bif inM a 0 7 then a else 0) &&& ~~~ BitVec.ofInt (IntKind.bits .i64) (bif inM b 0 7 then b else 0)).toNat
theorem right_of_eq (a : Int) (K : Int → Option ρ) : right_of n ρ a K = K (bif inM a 0 7 then a else 0) := by
  show right_of_s (right_of_g n) n a K = _
  simp only [right_of_s, right_of_g, right_Good_eq]
  cases inM a 0 7 <;> rfl
theorem right_Less_eq (a b : Int) (K : Int → Option ρ) : right_Less n ρ a b K = K (lessR a b) := by
  show right_Less_s (right_Less_g n) n a b K = _
  simp only [right_Less_s, right_Less_g, right_of_eq, lessR]
theorem right_Within_eq (a b : Int) (K : Bool → Option ρ) : right_Within n ρ a b K = K (lessR a b == 0) := by
  show right_Within_s (right_Within_g n) n a b K = _
  simp only [right_Within_s, right_Within_g, right_Less_eq]
  cases lessR a b == 0 <;> rfl
def capLess (a1 a2 a3 a4 b1 b2 b3 b4 : Int) : Bool := capNone a1 a2 a3 a4 || (a1 == b1 && (a2 == b2 && (lessR a3 b3 == 0 && (b4 == 0 || b4 == a4))))
theorem cap_Less_eq (a1 a2 a3 a4 b1 b2 b3 b4 : Int) (K : Bool → Option ρ) : cap_Less n ρ a1 a2 a3 a4 b1 b2 b3 b4 K = K (capLess a1 a2 a3 a4 b1 b2 b3 b4) := by
  show cap_Less_s (cap_Less_g n) n a1 a2 a3 a4 b1 b2 b3 b4 K = _
  simp only [cap_Less_s, cap_Less_g, cap_None_eq, right_Within_eq, capLess]
  cases capNone a1 a2 a3 a4 <;> cases a1 == b1 <;> cases a2 == b2 <;> cases lessR a3 b3 == 0 <;> cases b4 == 0 <;> cases b4 == a4 <;> rfl

def stepOK (s u : Slot) : Bool := capLess s.ty s.th s.ri s.ba u.ty u.th u.ri u.ba || (u.ty == 1 && s.th != u.th)
def allowF (S : List Slot) (s : Slot) : Nat → Int → Bool
  | 0, _ => true
  | d + 1, at' => bif decide (at' < 0) then true else match S[at'.toNat]? with | some u => bif stepOK s u then allowF S s d u.up else false | none => true
def allowedM (S : List Slot) : Bool := S.all fun s => allowF S s S.length s.up

theorem allow_loop (q1 q2 : Bool) (q3 : Rows) (q4 q5 : Int) (S : List Slot) (q7 q8 q9 : Int) (q10 q11 q13 q14 : Bool) (R : Rows) (s : Slot) (q20 : Int) (kg kb : Option ρ) (hS : S.length < 1000000) (hup : ∀ u ∈ S, u.up < S.length) :
    ∀ (d j m : Nat) (at' : Int), j + d = S.length → d < m → at' < S.length →
      fuelN (state_State_allowed_l6_s (state_State_allowed_g n) n q1 q2 q3 q4 q5 ((S.length : Nat) : Int) q7 q8 q9 q10 q11 (encS S) q13 q14 R s.ty s.th s.ri s.ba q20 kg kb) m (at', (j : Int)) = bif allowF S s d at' then kg else kb := by
  intro d
  induction d with
  | zero =>
    intro j m at' h hm ha
    obtain ⟨m, rfl⟩ : ∃ k, m = k + 1 := ⟨m - 1, by omega⟩
    rw [fuelN_succ]
    generalize fuelN _ m = rec
    unfold state_State_allowed_l6_s
    simp only
    rw [show decide ((j : Int) < ((S.length : Nat) : Int)) = false by simp; omega]
    rfl
  | succ d ih =>
    intro j m at' h hm ha
    obtain ⟨m, rfl⟩ : ∃ k, m = k + 1 := ⟨m - 1, by omega⟩
    have ih := ih (j + 1) m
    rw [fuelN_succ]
    generalize fuelN _ m = rec at ih ⊢
    unfold state_State_allowed_l6_s allowF
    simp only
    rw [show decide ((j : Int) < ((S.length : Nat) : Int)) = true by simp; omega, bif_t, wrap_id (by omega) (by omega), show ((j : Int) + 1) = ((j + 1 : Nat) : Int) by omega]
    by_cases h0 : at' < 0
    · simp [h0]
    · obtain ⟨k, rfl⟩ : ∃ k : Nat, at' = k := ⟨at'.toNat, by omega⟩
      have hk : k < S.length := by omega
      simp only [h0, decide_false, cond_false]
      rw [rowT_S hk]
      simp only [state_State_allowed_g, cap_Less_eq, Slot.c, Int.toNat_natCast, List.getElem?_eq_getElem hk]
      have ih := ih S[k].up (by omega) (by omega) (hup _ (List.getElem_mem hk))
      rw [ih]
      unfold stepOK
      have e1 : (s.th != S[k].th) = !(s.th == S[k].th) := rfl
      have e2 : (S[k].ty != 1) = !(S[k].ty == 1) := rfl
      rw [e1, e2]
      cases capLess s.ty s.th s.ri s.ba S[k].ty S[k].th S[k].ri S[k].ba <;> cases S[k].ty == 1 <;> cases s.th == S[k].th <;> rfl

theorem allowed_eq (a b c : Int) (x y z w : Bool) (S : List Slot) (R : Rows) (hS : S.length < 1000000) (hn : S.length < n) (hup : ∀ u ∈ S, u.up < S.length) (K : Bool → Option ρ) :
    state_State_allowed n ρ a b c x y (encS S) z w R K = K (allowedM S) := by
  show state_State_allowed_s _ n a b c x y (encS S) z w R K = _
  unfold state_State_allowed_s state_State_allowed_l2 allowedM
  rw [encS_len, up_loop0 (len := S.length) (k0 := K false) (k1 := K true) (fun i => match S[i]? with | some s => allowF S s S.length s.up | none => true)]
  · rw [all_range S (fun s => allowF S s S.length s.up) _ (fun i hi => by simp only [List.getElem?_eq_getElem hi])]
    cases S.all _ <;> rfl
  · intro rec
    unfold state_State_allowed_l2_s
    simp only
    rw [show decide (((S.length : Nat) : Int) < ((S.length : Nat) : Int)) = false by simp]
    rfl
  · intro rec i hi
    unfold state_State_allowed_l2_s
    simp only [encS_len]
    rw [show decide ((i : Int) < ((S.length : Nat) : Int)) = true by simpa using hi, bif_t, rowT_S hi, wrap_id (by omega) (by omega), show ((i : Int) + 1) = ((i + 1 : Nat) : Int) by omega]
    unfold state_State_allowed_l6
    simp only [Slot.c, List.getElem?_eq_getElem hi]
    exact allow_loop n x y (encS S) _ _ S a b c x y z w R S[i] _ _ _ hS hup S.length 0 n S[i].up (by omega) hn (hup _ (List.getElem_mem hi))
  · exact hn
end
end Go.Rv
/-
The plain mathematics of states: which may be; the law of the holders.
-/
namespace Go.Rv
section
variable (n : Nat) (a b c : Int) (x y z w : Bool) (S : List Slot) (T : List Thing)

structure GoodS (a b c : Int) (S : List Slot) (T : List Thing) : Prop where
  geo : geoGood a b c = true
  slots : (S.length : Int) = b
  things : (T.length : Int) = c
  caps : S.all (capOK T) = true
  thingsOK : thingsM a S T = true
  nodes : nodesM S T = true
  forest : forestGood (S.map upM) = true
  allowed : allowedM S = true

theorem allGood_of {thr : Int} {S : List Slot} {T : List Thing} (h : thingsM thr S T = true) : allGood T = true := by
  refine List.all_eq_true.2 fun t ht => ?_
  obtain ⟨i, hi, rfl⟩ := List.mem_iff_getElem.1 ht
  have := (List.all_eq_true.1 h) i (List.mem_range.2 hi)
  simp only [List.getElem?_eq_getElem hi, thingOK, Bool.and_eq_true] at this
  exact this.1

theorem ups_of {S : List Slot} {T : List Thing} (hc : S.all (capOK T) = true) (hf : forestGood (S.map upM) = true) (h0 : 0 < S.length) : ∀ u ∈ S, u.up < S.length := by
  intro u hu
  have h1 := List.all_eq_true.1 hc u hu
  unfold forestGood at hf
  by_cases h96 : (((S.map upM).length : Nat) : Int) > 96
  · simp [h96] at hf
    simp at h96
    omega
  · simp only [h96, decide_false, cond_false, Bool.and_eq_true] at hf
    have h2 := List.all_eq_true.1 hf.1 (upM u) (List.mem_map_of_mem hu)
    unfold capOK at h1
    unfold upM upOK at h2
    cases hn : capNone u.ty u.th u.ri u.ba
    · rw [hn] at h1 h2
      simp only [cond_false, Bool.and_eq_true, decide_eq_true_eq] at h1 h2
      cases e1 : u.up != -2
      · simp at e1; omega
      · cases e2 : u.up != -1
        · simp at e2; omega
        · rw [e1, e2] at h2
          simp only [cond_true] at h2
          have := (isM_iff h2).2
          simpa using this
    · rw [hn] at h1
      simp only [cond_true, Bool.and_eq_true, beq_iff_eq] at h1
      omega

theorem good_ex (hS : S.length ≤ 100) (hT : T.length ≤ 50) (hn : 200 ≤ n) :
    ∃ g : Bool, (∀ (ρ : Type) (K : Bool → Option ρ), state_Good n ρ a b c x y (encS S) z w (encT T) K = K g) ∧ (g = true → GoodS a b c S T) := by
  have un : ∀ (ρ : Type) (K : Bool → Option ρ), state_Good n ρ a b c x y (encS S) z w (encT T) K = state_Good_s (state_Good_g n) n a b c x y (encS S) z w (encT T) K := fun _ _ => rfl
  cases h1 : geoGood a b c
  · exact ⟨false, fun ρ K => by rw [un]; simp only [state_Good_s, state_Good_g, geo_Good_eq, h1]; rfl, by simp⟩
  obtain ⟨hthr, hsl, -, hth⟩ := geoGood_thr h1
  by_cases h2 : (S.length : Int) = b
  case neg =>
    refine ⟨false, fun ρ K => ?_, by simp⟩
    have e : (((S.length : Nat) : Int) != b) = true := by simpa using h2
    rw [un]; simp only [state_Good_s, state_Good_g, geo_Good_eq, h1, encS_len, e, bif_t]
  by_cases h3 : (T.length : Int) = c
  case neg =>
    refine ⟨false, fun ρ K => ?_, by simp⟩
    have e0 : (((S.length : Nat) : Int) != b) = false := by simpa using h2
    have e : (((T.length : Nat) : Int) != c) = true := by simpa using h3
    rw [un]; simp only [state_Good_s, state_Good_g, geo_Good_eq, h1, encS_len, encT_len, e0, e, bif_t, bif_f]
  have e0 : (((S.length : Nat) : Int) != b) = false := by simpa using h2
  have e1 : (((T.length : Nat) : Int) != c) = false := by simpa using h3
  have hS0 : 0 < S.length := by omega
  cases h4 : S.all (capOK T)
  · refine ⟨false, fun ρ K => ?_, by simp⟩
    rw [un]; simp only [state_Good_s, state_Good_g, geo_Good_eq, h1, encS_len, encT_len, e0, e1, bif_t, bif_f, caps_eq n a b c x y z w S T (by omega) (by omega), h4]
  cases h5 : thingsM a S T
  · refine ⟨false, fun ρ K => ?_, by simp⟩
    rw [un]; simp only [state_Good_s, state_Good_g, geo_Good_eq, h1, encS_len, encT_len, e0, e1, bif_t, bif_f, caps_eq n a b c x y z w S T (by omega) (by omega), h4, things_eq n a b c x y z w S T h1 (by omega) (by omega) (by omega) (by omega), h5]
  have hg := allGood_of h5
  cases h6 : nodesM S T
  · refine ⟨false, fun ρ K => ?_, by simp⟩
    rw [un]; simp only [state_Good_s, state_Good_g, geo_Good_eq, h1, encS_len, encT_len, e0, e1, bif_t, bif_f, caps_eq n a b c x y z w S T (by omega) (by omega), h4, things_eq n a b c x y z w S T h1 (by omega) (by omega) (by omega) (by omega), h5, nodes_eq n a b c x y z w S T hg (by omega) (by omega) (by omega) (by omega) (by omega), h6]
  obtain ⟨r, hr⟩ := ring_ex n a b c x y z w S T hg (by omega) (by omega) (by omega) (by omega)
  cases r
  case true =>
    refine ⟨false, fun ρ K => ?_, by simp⟩
    rw [un]; simp only [state_Good_s, state_Good_g, geo_Good_eq, h1, encS_len, encT_len, e0, e1, bif_t, bif_f, caps_eq n a b c x y z w S T (by omega) (by omega), h4, things_eq n a b c x y z w S T h1 (by omega) (by omega) (by omega) (by omega), h5, nodes_eq n a b c x y z w S T hg (by omega) (by omega) (by omega) (by omega) (by omega), h6, hr]
  -- what came of what
  have hfor : ∀ (ρ : Type) (K : Bool → Option ρ), state_Good n ρ a b c x y (encS S) z w (encT T) K =
      bif forestGood (S.map upM) then state_State_allowed n ρ a b c x y (encS S) z w (encT T) (fun w => bif w then K true else K false) else K false := by
    intro ρ K
    rw [un]
    simp only [state_Good_s, state_Good_g, geo_Good_eq, h1, encS_len, encT_len, e0, e1, bif_t, bif_f, caps_eq n a b c x y z w S T (by omega) (by omega), h4, things_eq n a b c x y z w S T h1 (by omega) (by omega) (by omega) (by omega), h5, nodes_eq n a b c x y z w S T hg (by omega) (by omega) (by omega) (by omega) (by omega), h6, hr, forest_eq n a b c x y z w S (encT T) _ _ (by omega) (by omega)]
    obtain ⟨q, l, hl⟩ : ∃ q l, S.map upM = q :: l := by
      cases hm : S.map upM with
      | nil => simp at hm; subst hm; simp at hS0
      | cons q l => exact ⟨q, l, rfl⟩
    have hlen : (q :: l).length = S.length := by rw [← hl]; simp
    rw [hl]
    simp only
    have e5 : ((List.length (encI (q :: l))) == (q :: l).length) = true := by rw [encI_len]; simp
    have e6 : List.take (q :: l).length (List.drop 0 (encI (q :: l))) = encI (q :: l) := by
      rw [List.drop_zero, List.take_of_length_le (by rw [encI_len]; exact Nat.le_refl _)]
    rw [e5, e6, chk_t, forestGood_eq n false false (q :: l) (by omega)]
  cases h7 : forestGood (S.map upM)
  · exact ⟨false, fun ρ K => by rw [hfor, h7]; rfl, by simp⟩
  have hup := ups_of h4 h7 hS0
  refine ⟨allowedM S, fun ρ K => ?_, fun h8 => ⟨h1, h2, h3, h4, h5, h6, h7, h8⟩⟩
  rw [hfor, h7, bif_t, allowed_eq n a b c x y z w S (encT T) (by omega) (by omega) hup]
  cases allowedM S <;> rfl
end
end Go.Rv
/-
The law of the holders.
-/
namespace Go.Rv

def full (S : List Slot) (i : Nat) : Bool := match S[i]? with
  | some s => !capNone s.ty s.th s.ri s.ba
  | none => false
/-- how many of the first d have a capability -/
def cntF (S : List Slot) (d : Nat) : Nat := (List.range d).countP (full S)
def below (S : List Slot) (t : Int) (i : Nat) : Bool := match S[i]? with
  | some s => !capNone s.ty s.th s.ri s.ba && decide (s.th < t)
  | none => false
def cntB (S : List Slot) (t : Int) : Nat := (List.range S.length).countP (below S t)

theorem countP_split {α : Type} {p q r : α → Bool} : ∀ {l : List α}, (∀ x ∈ l, (p x = (q x || r x)) ∧ (q x && r x) = false) → l.countP p = l.countP q + l.countP r
  | [], _ => rfl
  | y :: l, h => by
    have ih := countP_split (p := p) (q := q) (r := r) (l := l) fun x hx => h x (List.mem_cons_of_mem _ hx)
    obtain ⟨h1, h2⟩ := h y (List.mem_cons_self ..)
    rw [List.countP_cons, List.countP_cons, List.countP_cons, ih]
    cases hq : q y <;> cases hr : r y <;> simp [hq, hr] at h1 h2 <;> simp [h1] <;> omega

theorem holdersM_len (S : List Slot) (t : Int) : (holdersM S t).length = (List.range S.length).countP (holds S t) := by
  unfold holdersM holdersF
  rw [List.length_map, ← List.countP_eq_length_filter, List.range_eq_range']

theorem cntB_succ (S : List Slot) (t : Int) : cntB S (t + 1) = cntB S t + (holdersM S t).length := by
  rw [holdersM_len]
  unfold cntB
  refine countP_split fun i hi => ?_
  have hi' := List.mem_range.1 hi
  unfold below holds
  simp only [List.getElem?_eq_getElem hi']
  cases capNone S[i].ty S[i].th S[i].ri S[i].ba
  · by_cases h1 : S[i].th < t
    · have h2 : S[i].th < t + 1 := by omega
      have h3 : (S[i].th == t) = false := by simp; omega
      simp [h1, h2, h3]
    · by_cases h4 : S[i].th = t
      · simp [h4]; omega
      · have h2 : ¬ S[i].th < t + 1 := by omega
        simp [h1, h2, h4]
  · simp
theorem cntB_le (S : List Slot) (t : Int) : cntB S t ≤ S.length := by
  have := List.countP_le_length (p := below S t) (l := List.range S.length)
  simpa [cntB] using this

theorem holdersM_mem {S : List Slot} {t v : Int} (h : v ∈ holdersM S t) : ∃ j : Nat, v = j ∧ j < S.length ∧ holds S t j = true := by
  unfold holdersM holdersF at h
  obtain ⟨j, hj, rfl⟩ := List.mem_map.1 h
  rw [List.mem_filter] at hj
  refine ⟨j, rfl, ?_, hj.2⟩
  have := List.mem_range'.1 hj.1
  obtain ⟨k, hk, rfl⟩ := this
  omega
theorem holdersM_lt (S : List Slot) (t : Int) : (holdersM S t).Pairwise (· < ·) := by
  unfold holdersM holdersF
  rw [List.pairwise_map]
  refine List.Pairwise.imp ?_ (List.Pairwise.filter _ (List.pairwise_lt_range' (s := 0) (n := S.length)))
  intro p q h; omega

section
variable (n : Nat) (a b c : Int) (x y z w : Bool) (S : List Slot) (T : List Thing)

theorem count_loop {ρ : Type} (G : reevelaw12_StateHolders_G) (hG : G.cap_None = cap_None n) (R : Rows) (k0 : Int → Option ρ) (hS : S.length ≤ 100) : ∀ (d i m : Nat), i + d = S.length → d < m →
    fuelN (reevelaw12_StateHolders_l7_s G n a b c x y (encS S) z w R k0) m ((cntF S i : Int), (i : Int)) = k0 (cntF S S.length : Int) := by
  intro d
  induction d with
  | zero =>
    intro i m h hm
    obtain ⟨m, rfl⟩ : ∃ k, m = k + 1 := ⟨m - 1, by omega⟩
    rw [fuelN_succ]
    generalize fuelN _ m = rec
    unfold reevelaw12_StateHolders_l7_s
    simp only [encS_len]
    rw [show decide ((i : Int) < ((S.length : Nat) : Int)) = false by simp; omega, show i = S.length by omega]
    rfl
  | succ d ih =>
    intro i m h hm
    obtain ⟨m, rfl⟩ : ∃ k, m = k + 1 := ⟨m - 1, by omega⟩
    have hi : i < S.length := by omega
    have ih := ih (i + 1) m (by omega) (by omega)
    rw [fuelN_succ]
    generalize fuelN _ m = rec at ih ⊢
    unfold reevelaw12_StateHolders_l7_s
    simp only [encS_len]
    have hc : cntF S i ≤ i := by
      have := List.countP_le_length (p := full S) (l := List.range i)
      simpa [cntF] using this
    rw [show decide ((i : Int) < ((S.length : Nat) : Int)) = true by simpa using hi, bif_t, rowT_S hi, wrap_id (n := (i : Int) + 1) (by omega) (by omega), show ((i : Int) + 1) = ((i + 1 : Nat) : Int) by omega, wrap_id (by omega) (by omega)]
    rw [← ih]
    simp only [hG, cap_None_eq, Slot.c]
    have e : cntF S (i + 1) = cntF S i + (if full S i = true then 1 else 0) := by
      unfold cntF
      rw [List.range_succ, List.countP_append]
      simp [List.countP_cons]
    rw [e]
    unfold full
    simp only [List.getElem?_eq_getElem hi]
    cases capNone S[i].ty S[i].th S[i].ri S[i].ba
    · simp
    · simp

theorem heavy_eq {ρ : Type} (K : Bool → Option ρ) : reevelaw12_heavy n ρ a b c x y (encS S) z w (encT T) K = K (decide ((S.length : Int) > 100) || decide ((T.length : Int) > 50)) := by
  show reevelaw12_heavy_s _ n a b c x y (encS S) z w (encT T) K = _
  unfold reevelaw12_heavy_s
  rw [encS_len, encT_len]
  cases decide ((S.length : Int) > 100) <;> cases decide ((T.length : Int) > 50) <;> rfl

theorem list_loop {ρ : Type} (G : reevelaw12_StateHolders_G) (hG : G.cap_None = cap_None n) (q0 q1 : Int) (R : Rows) (t : Int) (kf k1 : Option ρ) (_hS : S.length ≤ 100) (h : List Int) (hm1 : ∀ v ∈ h, ∃ j : Nat, v = j ∧ j < S.length ∧ holds S t j = true) (hm2 : h.Pairwise (· < ·)) (hlen : h.length ≤ 100) :
    ∀ (d i m : Nat), i + d = h.length → d < m →
      fuelN (reevelaw12_StateHolders_l16_1_s G n q0 q1 t h.length h.length a b c x y (encS S) z w R (encI h) kf k1) m (i : Int) = k1 := by
  intro d
  induction d with
  | zero =>
    intro i m hh hm
    obtain ⟨m, rfl⟩ : ∃ k, m = k + 1 := ⟨m - 1, by omega⟩
    rw [fuelN_succ]
    generalize fuelN _ m = rec
    unfold reevelaw12_StateHolders_l16_1_s
    simp only
    rw [show decide ((i : Int) < ((h.length : Nat) : Int)) = false by simp; omega]
    rfl
  | succ d ih =>
    intro i m hh hm
    obtain ⟨m, rfl⟩ : ∃ k, m = k + 1 := ⟨m - 1, by omega⟩
    have hi : i < h.length := by omega
    have ih := ih (i + 1) m (by omega) (by omega)
    rw [fuelN_succ]
    generalize fuelN _ m = rec at ih ⊢
    unfold reevelaw12_StateHolders_l16_1_s
    simp only
    obtain ⟨j, hj, hjl, hjh⟩ := hm1 _ (List.getElem_mem hi)
    have e1 : decide ((i : Int) < ((h.length : Nat) : Int)) = true := by simpa using hi
    have e2 : decide ((0 : Int) ≤ (i : Int)) = true := by simp
    have e3 : ((List.length (encI h)) == h.length) = true := by rw [encI_len]; simp
    have e4 : decide ((j : Int) < 0) = false := by simp
    have e5 : decide ((j : Int) ≥ ((S.length : Nat) : Int)) = false := by simp; omega
    simp only [e1, e2, e3, bif_t, chk_t, Nat.zero_add, Int.toNat_natCast, rowN_I hi, hj, e4, bif_f, encS_len, e5, rowT_S hjl, hG, cap_None_eq, Slot.c]
    unfold holds at hjh
    simp only [List.getElem?_eq_getElem hjl, Bool.and_eq_true, Bool.not_eq_true', beq_iff_eq] at hjh
    have e6 : (S[j].th != t) = false := by simp [hjh.2]
    rw [e6, hjh.1]
    simp only [bif_f]
    have e7 : IntKind.wrap .i64 ((i : Int) + 1) = ((i + 1 : Nat) : Int) := by rw [wrap_id (by omega) (by omega)]; omega
    rw [e7, ih]
    cases i with
    | zero => rfl
    | succ i =>
      have hi2 : i < h.length := by omega
      have e8 : IntKind.wrap .i64 (((i + 1 : Nat) : Int) - 1) = (i : Int) := by rw [wrap_id (by omega) (by omega)]; omega
      have e9 : decide ((((i + 1 : Nat)) : Int) > 0) = true := by
        simp only [decide_eq_true_eq]; omega
      have e10 : decide ((0 : Int) ≤ (i : Int)) = true := by simp
      have e11 : decide ((i : Int) < ((h.length : Nat) : Int)) = true := by simpa using hi2
      have hlt := (List.pairwise_iff_getElem.1 hm2) i (i + 1) hi2 hi (by omega)
      have e12 : decide ((j : Int) ≤ h[i]) = false := by rw [← hj]; simpa using hlt
      simp only [e8, e9, e10, e11, bif_t, chk_t, Int.toNat_natCast, rowN_I hi2, e12, bif_f]

theorem StateHolders_true (hn : 200 ≤ n) (haw : ∀ (ρ : Type) (K : Bool → Option ρ), reevelaw12_awake n ρ K = K true) (ρ : Type) (K : Bool → Option ρ) : reevelaw12_StateHolders n ρ a b c x y (encS S) z w (encT T) K = K true := by
  show reevelaw12_StateHolders_s (reevelaw12_StateHolders_g n) n a b c x y (encS S) z w (encT T) K = _
  unfold reevelaw12_StateHolders_s
  simp only [reevelaw12_StateHolders_g, haw, heavy_eq, bif_t]
  cases hh : decide ((S.length : Int) > 100) || decide ((T.length : Int) > 50)
  case true => rfl
  simp only [Bool.or_eq_false_iff, decide_eq_false_iff_not] at hh
  obtain ⟨g, hg1, hg2⟩ := good_ex n a b c x y z w S T (by omega) (by omega) hn
  simp only [hg1, bif_f]
  cases g
  case false => rfl
  have good := hg2 rfl
  simp only [bif_t]
  unfold reevelaw12_StateHolders_l7
  have h7 := count_loop n a b c x y z w S ⟨reevelaw12_awake n, reevelaw12_heavy n, state_Good n, cap_None n, state_Holders n⟩ rfl (encT T) (ρ := ρ)
    (fun w3_0 => reevelaw12_StateHolders_l12 ⟨reevelaw12_awake n, reevelaw12_heavy n, state_Good n, cap_None n, state_Holders n⟩ n w3_0 a b c x y (encS S) z w (encT T) (fun _ => K false) (fun w5_0 => bif (w3_0 == w5_0) then K true else K false) (0, 0)) (by omega) S.length 0 n (by omega) (by omega)
  have z0 : cntF S 0 = 0 := rfl
  rw [z0] at h7
  simp only [Int.natCast_zero] at h7
  refine h7.trans ?_
  have hcnt : cntF S S.length ≤ S.length := by
    have := List.countP_le_length (p := full S) (l := List.range S.length)
    simpa [cntF] using this
  -- all holders of all things
  have main : ∀ (d i m : Nat), i + d = T.length → d < m →
      fuelN (reevelaw12_StateHolders_l12_s ⟨reevelaw12_awake n, reevelaw12_heavy n, state_Good n, cap_None n, state_Holders n⟩ n (cntF S S.length : Int) a b c x y (encS S) z w (encT T) (fun _ => K false) (fun w5_0 => bif ((cntF S S.length : Int) == w5_0) then K true else K false)) m ((cntB S (i : Int) : Int), (i : Int)) =
        bif ((cntF S S.length : Int) == (cntB S (T.length : Int) : Int)) then K true else K false := by
    intro d
    induction d with
    | zero =>
      intro i m h hm
      obtain ⟨m, rfl⟩ : ∃ k, m = k + 1 := ⟨m - 1, by omega⟩
      rw [fuelN_succ]
      generalize fuelN _ m = rec
      unfold reevelaw12_StateHolders_l12_s
      simp only [encT_len]
      rw [show decide ((i : Int) < ((T.length : Nat) : Int)) = false by simp; omega, show i = T.length by omega]
      rfl
    | succ d ih =>
      intro i m h hm
      obtain ⟨m, rfl⟩ : ∃ k, m = k + 1 := ⟨m - 1, by omega⟩
      have ih1 := ih (i + 1) m (by omega) (by omega)
      rw [fuelN_succ]
      generalize fuelN _ m = rec at ih1 ⊢
      unfold reevelaw12_StateHolders_l12_s
      simp only [encT_len]
      have hle := cntB_le S (i : Int)
      have hle2 := cntB_le S ((i : Int) + 1)
      have hs := cntB_succ S (i : Int)
      rw [show decide ((i : Int) < ((T.length : Nat) : Int)) = true by simp; omega, bif_t, wrap_id (n := (i : Int) + 1) (by omega) (by omega)]
      have hH : ∀ (k0 : Option ρ) (k1 : Nat → Nat → Rows → Option ρ), state_Holders n ρ a b c x y (encS S) z w (encT T) (i : Int) k0 k1 = (match holdersM S (i : Int) with | [] => k0 | l => k1 l.length l.length (encI l)) := by
        intro k0 k1
        show state_Holders_s (state_Holders_g n) n a b c x y (encS S) z w (encT T) (i : Int) k0 k1 = _
        simp only [state_Holders_s, state_Holders_g, hg1, bif_t, holders_eq n a b c x y z w S _ _ _ _ (show S.length < 1000000 by omega) (show S.length < n by omega)]
        all_goals (cases holdersM S (i : Int) <;> rfl)
      simp only [hH]
      have hlen : (holdersM S (i : Int)).length ≤ 100 := by omega
      cases hm0 : holdersM S (i : Int) with
      | nil =>
        rw [hm0] at hs
        simp only
        rw [wrap_id (by omega) (by omega)]
        unfold reevelaw12_StateHolders_l16_0
        obtain ⟨n', rfl⟩ : ∃ k, n = k + 1 := ⟨n - 1, by omega⟩
        rw [fuelN_succ]
        generalize fuelN _ n' = rec2
        unfold reevelaw12_StateHolders_l16_0_s
        simp only [List.length_nil, Nat.add_zero] at hs
        rw [← ih1]
        have e : ((i : Int) + 1) = ((i + 1 : Nat) : Int) := by omega
        rw [← e, hs, Int.add_zero]
      | cons q l =>
        simp only
        unfold reevelaw12_StateHolders_l16_1
        rw [hm0] at hs hlen
        have hmem := fun v hv => holdersM_mem (S := S) (t := (i : Int)) (v := v) (by rw [hm0]; exact hv)
        have hpw := holdersM_lt S (i : Int)
        rw [hm0] at hpw
        have := list_loop n a b c x y z w S ⟨reevelaw12_awake n, reevelaw12_heavy n, state_Good n, cap_None n, state_Holders n⟩ rfl (cntF S S.length : Int) (cntB S (i : Int) : Int) (encT T) (i : Int) (K false) (rec ((IntKind.wrap .i64 ((cntB S (i : Int) : Int) + (((q :: l).length : Nat) : Int))), (i : Int) + 1)) (by omega) (q :: l) hmem hpw hlen (q :: l).length 0 n (by omega) (by omega)
        simp only [Int.natCast_zero] at this
        refine this.trans ?_
        rw [← ih1, wrap_id (by omega) (by omega)]
        have e : ((i : Int) + 1) = ((i + 1 : Nat) : Int) := by omega
        rw [← e, hs]
        simp
  have := main T.length 0 n (by omega) (by omega)
  have zb : cntB S ((0 : Nat) : Int) = 0 := by
    unfold cntB
    rw [List.countP_eq_zero]
    intro i hi
    have hi' := List.mem_range.1 hi
    have hc := List.all_eq_true.1 good.caps _ (List.getElem_mem hi')
    unfold below
    simp only [List.getElem?_eq_getElem hi']
    unfold capOK at hc
    cases hn' : capNone S[i].ty S[i].th S[i].ri S[i].ba
    · rw [hn'] at hc
      simp only [cond_false, Bool.and_eq_true] at hc
      have := (thereM_iff hc.2.2.1).1
      simp; omega
    · simp
  rw [zb] at this
  simp only [Int.natCast_zero] at this
  unfold reevelaw12_StateHolders_l12
  refine this.trans ?_
  have heq : cntF S S.length = cntB S (T.length : Int) := by
    unfold cntF cntB
    refine List.countP_congr fun i hi => ?_
    have hi' := List.mem_range.1 hi
    have hc := List.all_eq_true.1 good.caps _ (List.getElem_mem hi')
    unfold below full
    simp only [List.getElem?_eq_getElem hi']
    unfold capOK at hc
    cases hn' : capNone S[i].ty S[i].th S[i].ri S[i].ba
    · rw [hn'] at hc
      simp only [cond_false, Bool.and_eq_true] at hc
      have := (thereM_iff hc.2.2.1).2
      simp; omega
    · simp
  rw [heq]
  simp
end
end Go.Rv
/-
The arguments of the laws of states, as typed lists.
-/
namespace Go.Rv

theorem Al.uncons_i {k : IntKind} {s : List Ce} {l : List AV} (h : Al (.i k :: s) l) : ∃ n r, l = .i k n :: r ∧ Al s r := by
  cases l with
  | nil => exact h.elim
  | cons v r => obtain ⟨⟨n, rfl, _⟩, h2⟩ := h; exact ⟨n, r, rfl, h2⟩
theorem Al.uncons_b {s : List Ce} {l : List AV} (h : Al (.b :: s) l) : ∃ x r, l = .b x :: r ∧ Al s r := by
  cases l with
  | nil => exact h.elim
  | cons v r => obtain ⟨⟨n, rfl⟩, h2⟩ := h; exact ⟨n, r, rfl, h2⟩
theorem Al.none {l : List AV} (h : Al [] l) : l = [] := by
  cases l with
  | nil => rfl
  | cons v r => exact h.elim

theorem rowS {l : List AV} (h : Al i5 l) : ∃ s : Slot, l = s.row := by
  obtain ⟨a, _, rfl, g1⟩ := h.uncons_i
  obtain ⟨b, _, rfl, g2⟩ := g1.uncons_i
  obtain ⟨c, _, rfl, g3⟩ := g2.uncons_i
  obtain ⟨d, _, rfl, g4⟩ := g3.uncons_i
  obtain ⟨e, _, rfl, g5⟩ := g4.uncons_i
  obtain rfl := g5.none
  exact ⟨⟨a, b, c, d, e⟩, rfl⟩
theorem rowT' {l : List AV} (h : Al i13 l) : ∃ t : Thing, l = t.row := by
  obtain ⟨a1, _, rfl, g1⟩ := h.uncons_i
  obtain ⟨a2, _, rfl, g2⟩ := g1.uncons_i
  obtain ⟨a3, _, rfl, g3⟩ := g2.uncons_i
  obtain ⟨a4, _, rfl, g4⟩ := g3.uncons_i
  obtain ⟨a5, _, rfl, g5⟩ := g4.uncons_i
  obtain ⟨a6, _, rfl, g6⟩ := g5.uncons_i
  obtain ⟨a7, _, rfl, g7⟩ := g6.uncons_i
  obtain ⟨a8, _, rfl, g8⟩ := g7.uncons_b
  obtain ⟨a9, _, rfl, g9⟩ := g8.uncons_i
  obtain ⟨b1, _, rfl, g10⟩ := g9.uncons_i
  obtain ⟨b2, _, rfl, g11⟩ := g10.uncons_i
  obtain ⟨b3, _, rfl, g12⟩ := g11.uncons_i
  obtain ⟨b4, _, rfl, g13⟩ := g12.uncons_i
  obtain rfl := g13.none
  exact ⟨⟨a1, a2, a3, a4, a5, a6, a7, a8, a9, b1, b2, b3, b4⟩, rfl⟩
theorem rows_of {α : Type} (row : α → List AV) {ks : List Ce} (h : ∀ l, Al ks l → ∃ a, l = row a) : ∀ (xs : Rows), (∀ x ∈ xs, Al ks x) → ∃ l : List α, xs = l.map row
  | [], _ => ⟨[], rfl⟩
  | x :: xs, hx => by
    obtain ⟨a, rfl⟩ := h x (hx x (List.mem_cons_self ..))
    obtain ⟨l, rfl⟩ := rows_of row h xs fun y hy => hx y (List.mem_cons_of_mem _ hy)
    exact ⟨a :: l, rfl⟩

/-- a state, as the evaluator sees it -/
def stateAV (a b c : Int) (x y z w : Bool) (S : List Slot) (T : List Thing) : AV := .agg [.i .i64 a, .i .i64 b, .i .i64 c, .lst x y 5 (encS S), .lst z w 13 (encT T)]
def stateTy : List Ty1 := [.c (.i .i64), .c (.i .i64), .c (.i .i64), .l 5 i5, .l 13 i13]
theorem state_of {P : Program} {n : Nat} {t : TypeId} {v : AV} (h : TyArg P n t v) (ha : (match P.underlying t with | some (.struct _) | some (.array _ _) => true | _ => false) = true) (hf : flat1 P n t = some stateTy) :
    ∃ (a b c : Int) (x y z w : Bool) (S : List Slot) (T : List Thing), v = stateAV a b c x y z w S T ∧ (Lit.int .i64 a).wf = true ∧ (Lit.int .i64 b).wf = true ∧ (Lit.int .i64 c).wf = true := by
  obtain ⟨l, rfl, hl⟩ := TyArg_agg h ha hf
  obtain ⟨a, b, c, x, y, z, w, xs, ys, rfl, wa, wb, wc, _, _, h1, h2, _, _⟩ := AlT_state hl
  obtain ⟨S, rfl⟩ := rows_of Slot.row (fun _ => rowS) xs h1
  obtain ⟨T, rfl⟩ := rows_of Thing.row (fun _ => rowT') ys h2
  exact ⟨a, b, c, x, y, z, w, S, T, rfl, wa, wb, wc⟩

theorem awake200 (ρ : Type) (K : Bool → Option ρ) : reevelaw12_awake 200 ρ K = K true := by kernel_rfl
end Go.Rv
