/- the library's strings: contracts after the shelf's templates; the laws of the evaluator's table -/
import Derived.Test.YtbmobnjhdealiaaChecked
import Derived.Lib.Strings
import Derived.Lib.Slices
import Derived.Lib.Walk
import Derived.Lib.Bytealg
import Derived.Lib.IndexAny
import Derived.Lib.IndexBytes
import Derived.Laws.RangeString
import Derived.Laws.Strings3
import Derived.Deep.LoopGhost
import Derived.Deep.Draws
import Derived.WalkKit
import Derived.BigRegion
import Derived.Lib.CutLaws
import Derived.Lib.IndexLaws
import Derived.Test.YtbmobnjhdealiaaEvA
import Derived.Test.YtbmobnjhdealiaaEvC
namespace Go.Proofs.Ytbmobnjhdealiaa
open Go.Lib Go.RowKit
set_option maxHeartbeats 1000000 in
set_option maxRecDepth 100000 in
theorem Try.stringslite_IndexByte (s : ByteArray) (c : Int) (w : World) :
    Calls Try.prog 105 #[.string s, .int .u8 c] w fun e w' => e = .returned (.int .i64 (Lib.indexByte s.data.toList c.toNat.toUInt8)) ∧ w' = w := by
  go_enter Try.func105, Try.ntmps105
  go_wp2
  rw [run_callFunc_extern Try.func111 (by kernel_rfl) (by kernel_rfl) (by kernel_rfl) (e := Extern.BytealgIndexByte.indexByte) (by kernel_rfl), Lib.run_indexByteString]
  simp only [Result.andThen]
  rw [Oper.upon_value]
  go_wp2
  go_ret
  exact ⟨rfl, rfl⟩
set_option maxHeartbeats 2000000 in
set_option maxRecDepth 100000 in
theorem Try.stringslite_Index_one (s : ByteArray) (c : UInt8) (w : World) :
    Calls Try.prog 98 #[.string s, .string ⟨#[c]⟩] w fun e w' => e = .returned (.int .i64 (Lib.indexByte s.data.toList c)) ∧ w' = w := by
  go_enter Try.func98, Try.ntmps98
  go_wp2_with (go_at_call 105; refine (Try.stringslite_IndexByte _ _ _).mono ?_; rintro e w' ⟨rfl, rfl⟩)
  · have h : ([c] == s.toList) = true := by assumption
    go_ret
    refine ⟨?_, rfl⟩
    have e : s.data.toList = [c] := by rw [← Lib.toList_data]; exact (beq_iff_eq.1 h).symm
    rw [e]
    simp [Lib.indexByte]
  · go_ret
    exact ⟨rfl, rfl⟩
set_option maxHeartbeats 1000000 in
theorem Try.strings_Index_one (s : ByteArray) (c : UInt8) (w : World) :
    Calls Try.prog 86 #[.string s, .string ⟨#[c]⟩] w fun e w' => e = .returned (.int .i64 (Lib.indexByte s.data.toList c)) ∧ w' = w := by
  go_enter Try.func86, Try.ntmps86
  go_wp2_with (go_at_call 98; refine (Try.stringslite_Index_one _ _ _).mono ?_; rintro e w' ⟨rfl, rfl⟩)
  go_ret
  exact ⟨rfl, rfl⟩
set_option maxHeartbeats 1000000 in
theorem Try.strings_Contains_one (s : ByteArray) (c : UInt8) (w : World) :
    Calls Try.prog 70 #[.string s, .string ⟨#[c]⟩] w fun e w' => e = .returned (.bool (decide (0 ≤ Lib.indexByte s.data.toList c))) ∧ w' = w := by
  go_enter Try.func70, Try.ntmps70
  go_wp2_with (go_at_call 86; refine (Try.strings_Index_one _ _ _).mono ?_; rintro e w' ⟨rfl, rfl⟩)
  go_ret
  exact ⟨rfl, rfl⟩
set_option maxHeartbeats 1000000 in
theorem Try.strings_IndexByte (s : ByteArray) (c : Int) (w : World) :
    Calls Try.prog 109 #[.string s, .int .u8 c] w fun e w' => e = .returned (.int .i64 (Lib.indexByte s.data.toList c.toNat.toUInt8)) ∧ w' = w := by
  go_enter Try.func109, Try.ntmps109
  go_wp2_with (go_at_call 105; refine (Try.stringslite_IndexByte _ _ _).mono ?_; rintro e w' ⟨rfl, rfl⟩)
  go_ret
  exact ⟨rfl, rfl⟩
set_option maxHeartbeats 4000000 in
set_option maxRecDepth 1000000 in
theorem Try.stringslite_Cut_hit (s : ByteArray) (c : UInt8) (w : World) (i : Nat) (hix : Lib.indexByte s.data.toList c = i) (hl : i < s.size) (hs : s.size < 4294967281) :
    Calls Try.prog 97 #[.string s, .string ⟨#[c]⟩] w fun e w' => e = .returned (.tuple #[.string (s.extract 0 i), .string (s.extract (i + 1) s.size), .bool true]) ∧ ∃ n, w' = w.drewN n := by
  have c1 : (0 : Int) ≤ ↑i := by omega
  have c2 : (↑i : Int) ≤ ↑s.size := by omega
  have c3 : (0 : Int) ≤ ↑i + 1 := by omega
  have c4 : (↑i + 1 : Int) ≤ ↑s.size := by omega
  go_enter Try.func97, Try.ntmps97
  go_wp2_with (go_at_call 98; refine (Try.stringslite_Index_one _ _ _).mono ?_; rintro e w' ⟨rfl, rfl⟩; rw [hix])
  go_region
  go_wp2
  go_ret3
  exact ⟨rfl, 1, rfl⟩
set_option maxHeartbeats 4000000 in
set_option maxRecDepth 1000000 in
theorem Try.stringslite_Cut_miss (s : ByteArray) (c : UInt8) (w : World) (hix : Lib.indexByte s.data.toList c = -1) :
    Calls Try.prog 97 #[.string s, .string ⟨#[c]⟩] w fun e w' => e = .returned (.tuple #[.string s, .string ⟨#[]⟩, .bool false]) ∧ ∃ n, w' = w.drewN n := by
  go_enter Try.func97, Try.ntmps97
  go_wp2_with (go_at_call 98; refine (Try.stringslite_Index_one _ _ _).mono ?_; rintro e w' ⟨rfl, rfl⟩; rw [hix])
  go_ret3
  exact ⟨rfl, 0, rfl⟩
set_option maxHeartbeats 1000000 in
theorem Try.strings_Cut_hit (s : ByteArray) (c : UInt8) (w : World) (i : Nat) (hix : Lib.indexByte s.data.toList c = i) (hl : i < s.size) (hs : s.size < 4294967281) :
    Calls Try.prog 85 #[.string s, .string ⟨#[c]⟩] w fun e w' => e = .returned (.tuple #[.string (s.extract 0 i), .string (s.extract (i + 1) s.size), .bool true]) ∧ ∃ n, w' = w.drewN n := by
  go_enter Try.func85, Try.ntmps85
  go_wp2_with (go_at_call 97; refine (Try.stringslite_Cut_hit _ _ _ i hix hl hs).mono ?_; rintro e w' ⟨rfl, n, rfl⟩)
  go_ret3
  exact ⟨rfl, n, rfl⟩
set_option maxHeartbeats 1000000 in
theorem Try.strings_Cut_miss (s : ByteArray) (c : UInt8) (w : World) (hix : Lib.indexByte s.data.toList c = -1) :
    Calls Try.prog 85 #[.string s, .string ⟨#[c]⟩] w fun e w' => e = .returned (.tuple #[.string s, .string ⟨#[]⟩, .bool false]) ∧ ∃ n, w' = w.drewN n := by
  go_enter Try.func85, Try.ntmps85
  go_wp2_with (go_at_call 97; refine (Try.stringslite_Cut_miss _ _ _ hix).mono ?_; rintro e w' ⟨rfl, n, rfl⟩)
  go_ret3
  exact ⟨rfl, n, rfl⟩
set_option maxHeartbeats 2000000 in
set_option maxRecDepth 1000000 in
theorem Try.strings_IndexRune_ascii (s : ByteArray) (r : Int) (w : World) (h0 : 0 ≤ r) (h1 : r < 128) :
    Calls Try.prog 100 #[.string s, .int .i32 r] w fun e w' => e = .returned (.int .i64 (Lib.indexByte s.data.toList r.toNat.toUInt8)) ∧ w' = w := by
  go_enter Try.func100, Try.ntmps100
  go_wp2_with (go_at_call 109; refine (Try.strings_IndexByte _ _ _).mono ?_; rintro e w' ⟨rfl, hw⟩; rw [hw])
  go_ret
  exact ⟨rfl, rfl⟩
set_option maxHeartbeats 1000000 in
theorem Try.strings_shouldUseASCIISet (n : Int) (w : World) :
    Calls Try.prog 101 #[.int .i64 n] w fun e w' => e = .returned (.bool (decide (8 < n))) ∧ w' = w := by
  go_enter Try.func101, Try.ntmps101
  go_wp2
  go_ret
  exact ⟨rfl, rfl⟩
set_option maxHeartbeats 8000000 in
set_option maxRecDepth 1000000 in
theorem Try.strings_IndexAny_short (s chars : ByteArray) (w : World) (h2 : 2 ≤ chars.size) (h8 : s.size ≤ 8) (hascii : ∀ (j : Nat) b, s.data.toList[j]? = some b → b.toNat < 128) :
    Calls Try.prog 89 #[.string s, .string chars] w fun e w' => e = .returned (.int .i64 (Lib.indexAny s.data.toList chars.data.toList)) ∧ ∃ pos, w' = w.iter s pos := by
  have HA : Aside (∀ (j : Nat) b, s.data.toList[j]? = some b → b.toNat < 128) := hascii
  clear hascii
  have hemp : chars.toList.isEmpty = false := by
    rw [Lib.toList_data]
    cases h : chars.data.toList with
    | nil => have := Lib.size_eq chars; rw [h, List.length_nil] at this; omega
    | cons _ _ => rfl
  have hn1 : ((chars.size : Int) == 1) = false := beq_eq_false_iff_ne.2 (by omega)
  have h8z : decide ((8 : Int) < (s.size : Int)) = false := decide_eq_false (by omega)
  go_enter Try.func89, Try.ntmps89
  go_wp2_with (go_at_call 101; refine (Try.strings_shouldUseASCIISet _ _).mono ?_; rintro e w' ⟨rfl, hw⟩; rw [hw, h8z])
  go_loopg [9, 10] s.size (fun g _ _ wx => ∃ i : Nat, i + g = s.size ∧ wx = w.iter s i ∧ Lib.NoAny s.data.toList chars.data.toList i)
  case atStart => exact ⟨0, by omega, rfl, Lib.NoAny.zero _ _⟩
  case round =>
    obtain ⟨i, hig, rfl, hno⟩ := hrel
    have HN : Aside (Lib.NoAny s.data.toList chars.data.toList i) := hno
    clear hno
    cases gk with
    | zero =>
      obtain rfl : i = s.size := by omega
      have hnx := run_next_end (P := Try.prog) w s s.size
      go_wp2
      go_ret
      exact ⟨by rw [Lib.indexAny_none (by rw [← Lib.size_eq]; exact HN.out)]; rfl, _, rfl⟩
    | succ g =>
      have hi : i < s.size := by omega
      obtain ⟨x, hx⟩ : ∃ x : UInt8, s[i]'hi = x := ⟨_, rfl⟩
      have hxl : s.data.toList[i]? = some x := by rw [← hx]; exact Lib.data_getElem? s i hi
      have hx128 : x.toNat < 128 := HA.out i x hxl
      have hnx := fun ty => run_next_ascii (P := Try.prog) w s i ty hi (by rw [hx]; exact hx128)
      rw [hx] at hnx
      have Hx : Aside (s.data.toList[i]? = some x) := hxl
      clear hxl hx
      have hcon := Lib.contains_iff_indexByte chars.data.toList x
      have hback : ((x.toNat : Int)).toNat.toUInt8 = x := by simp
      cases hin : chars.data.toList.contains x
      · rw [hin] at hcon
        have hlt : ¬ ((0 : Int) ≤ Lib.indexByte chars.data.toList x) := of_decide_eq_false hcon.symm
        clear hcon
        go_wp2_with (go_at_call 100; refine (Try.strings_IndexRune_ascii _ _ _ (by omega) (by omega)).mono ?_; rintro e w' ⟨rfl, hw⟩; rw [hw, hback])
        go_roundg g
        case measure => omega
        case rel => exact ⟨i + 1, by omega, rfl, HN.out.succ Hx.out hin⟩
      · rw [hin] at hcon
        have hge : (0 : Int) ≤ Lib.indexByte chars.data.toList x := of_decide_eq_true hcon.symm
        clear hcon
        go_wp2_with (go_at_call 100; refine (Try.strings_IndexRune_ascii _ _ _ (by omega) (by omega)).mono ?_; rintro e w' ⟨rfl, hw⟩; rw [hw, hback])
        go_ret
        exact ⟨by rw [Lib.indexAny_hit HN.out Hx.out hin]; rfl, _, rfl⟩
set_option maxHeartbeats 1000000 in
theorem Try.strings_ContainsAny_short (s chars : ByteArray) (w : World) (h2 : 2 ≤ chars.size) (h8 : s.size ≤ 8) (hascii : ∀ (j : Nat) b, s.data.toList[j]? = some b → b.toNat < 128) :
    Calls Try.prog 72 #[.string s, .string chars] w fun e w' => e = .returned (.bool (Lib.containsAny s.data.toList chars.data.toList)) ∧ ∃ pos, w' = w.iter s pos := by
  have c := Try.strings_IndexAny_short s chars w h2 h8 hascii
  clear hascii
  go_enter Try.func72, Try.ntmps72
  go_wp2_with (go_at_call 89; refine c.mono ?_; rintro e w' ⟨rfl, hw⟩)
  go_ret
  exact ⟨rfl, hw⟩
open Go.Rv in
theorem lawContains_ok (σ : Num) : LawOK Try.prog σ 70 lawContains := lawOK_of fun args v hv im w cargs hl hr => by
  unfold lawContains at hv
  split at hv
  case h_2 => cases hv
  rename_i a c
  cases hv
  obtain ⟨x, y, rfl, hy, rfl⟩ := args_ss hl hr
  have e : y = ⟨#[c]⟩ := by
    rw [← Lib.mk_data y, ← hy]
  subst e
  exact ⟨_, fun h => .b, rfl, (Try.strings_Contains_one x c w).mono fun e w' ⟨h1, h2⟩ => ⟨h1, h2 ▸ Below.refl _ _⟩⟩
open Go.Rv in
theorem lawContainsAny_ok (σ : Num) : LawOK Try.prog σ 72 lawContainsAny := lawOK_of fun args v hv im w cargs hl hr => by
  unfold lawContainsAny at hv
  split at hv
  case h_2 => cases hv
  rename_i a b
  cases hc : (a.all (fun x => decide (x.toNat < 128)) && decide (a.length ≤ 8) && decide (2 ≤ b.length))
  · rw [hc] at hv; cases hv
  · rw [hc] at hv; cases hv
    obtain ⟨x, y, rfl, rfl, rfl⟩ := args_ss hl hr
    simp only [Bool.and_eq_true, decide_eq_true_eq, List.all_eq_true] at hc
    refine ⟨_, fun h => .b, rfl, (Try.strings_ContainsAny_short x y w (by rw [Lib.size_eq]; exact hc.2) (by rw [Lib.size_eq]; exact hc.1.2) fun j b hb => hc.1.1 b (List.mem_of_getElem? hb)).mono fun e w' ⟨h1, pos, h2⟩ => ⟨h1, ?_⟩⟩
    rw [h2]
    exact (Below.refl _ _).alloc (Nat.le_refl _) _
open Go.Rv in
theorem lawCut_ok (σ : Num) : LawOK Try.prog σ 85 lawCut := lawOK_of fun args v hv im w cargs hl hr => by
  unfold lawCut at hv
  split at hv
  case h_2 => cases hv
  rename_i a c
  cases hs : decide (a.length < 1000000)
  · rw [hs] at hv; cases hv
  rw [hs] at hv
  simp only [decide_eq_true_eq] at hs
  obtain ⟨x, y, rfl, hy, rfl⟩ := args_ss hl hr
  have e : y = ⟨#[c]⟩ := by
    rw [← Lib.mk_data y, ← hy]
  subst e
  have hsz := Lib.size_eq x
  have hdr : ∀ (w : World) n, Below w.heap.size w (w.drewN n) := fun w n => ⟨rfl, rfl, rfl, Nat.le_refl _, fun _ _ => rfl⟩
  rcases Int.lt_or_le (Lib.indexByte x.data.toList c) 0 with h0 | h0
  · have h1 := Lib.indexByte_ge x.data.toList c
    have hix : Lib.indexByte x.data.toList c = -1 := by omega
    rw [hix] at hv
    cases hv
    refine ⟨_, fun h => ?_, rfl, (Try.strings_Cut_miss x c w hix).mono fun e w' ⟨h1, n, h2⟩ => ⟨h1, h2 ▸ hdr _ _⟩⟩
    refine .tup rfl fun j c' u hc hu => ?_
    match j with
    | 0 => simp at hc hu; subst hc; subst hu; exact .s rfl
    | 1 => simp at hc hu; subst hc; subst hu; exact .s rfl
    | 2 => simp at hc hu; subst hc; subst hu; exact .b
    | j + 3 => simp at hc
  · obtain ⟨i, hix⟩ : ∃ i : Nat, Lib.indexByte x.data.toList c = i := ⟨_, (Int.toNat_of_nonneg h0).symm⟩
    have hi := (Lib.indexByte_some hix).1
    have hi' := (List.getElem?_eq_some_iff.1 hi).1
    rw [hix] at hv
    have ht : decide ((0 : Int) ≤ (i : Int)) = true := by simp
    rw [ht] at hv
    cases hv
    refine ⟨_, fun h => ?_, rfl, (Try.strings_Cut_hit x c w i hix (by omega) (by omega)).mono fun e w' ⟨h1, n, h2⟩ => ⟨h1, h2 ▸ hdr _ _⟩⟩
    refine .tup rfl fun j c' u hc hu => ?_
    match j with
    | 0 => simp at hc hu; subst hc; subst hu; exact .s (by simp [ByteArray.data_extract, Array.toList_extract])
    | 1 => simp at hc hu; subst hc; subst hu; exact .s (by rw [hsz]; simp [ByteArray.data_extract, Array.toList_extract, List.extract_eq_take_drop]; rw [List.take_of_length_le (by simp)])
    | 2 => simp at hc hu; subst hc; subst hu; exact .b
    | j + 3 => simp at hc
end Go.Proofs.Ytbmobnjhdealiaa
