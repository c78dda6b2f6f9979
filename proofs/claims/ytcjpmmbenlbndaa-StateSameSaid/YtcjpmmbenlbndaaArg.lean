/-
What an argument of a plain type looks like.
-/
import Derived.Test.YtcjpmmbenlbndaaEvC
namespace Go.Rv

/-- cells of kinds -/
def Al : List Ce → List AV → Prop
  | [], [] => True
  | .b :: s, v :: r => (∃ x, v = .b x) ∧ Al s r
  | .i k :: s, v :: r => (∃ n, v = .i k n ∧ (Lit.int k n).wf = true) ∧ Al s r
  | .s :: s, v :: r => (∃ x, v = .s x) ∧ Al s r
  | .a :: s, _ :: r => Al s r
  | _, _ => False
theorem Al.app : ∀ {s t : List Ce} {l m : List AV}, Al s l → Al t m → Al (s ++ t) (l ++ m)
  | [], t, [], m, _, h => h
  | [], _, _ :: _, _, h, _ => by cases h
  | .b :: s, t, v :: r, m, ⟨h1, h2⟩, h => ⟨h1, Al.app h2 h⟩
  | .i _ :: s, t, v :: r, m, ⟨h1, h2⟩, h => ⟨h1, Al.app h2 h⟩
  | .s :: s, t, v :: r, m, ⟨h1, h2⟩, h => ⟨h1, Al.app h2 h⟩
  | .a :: s, t, v :: r, m, h1, h => Al.app (s := s) h1 h
  | .b :: _, _, [], _, h, _ => by cases h
  | .i _ :: _, _, [], _, h, _ => by cases h
  | .s :: _, _, [], _, h, _ => by cases h
  | .a :: _, _, [], _, h, _ => by cases h

/-- a cell, or a slice of rows of cells -/
inductive Ty1 where
  | c (k : Ce)
  | l (z : Nat) (ks : List Ce)
def Ty1.ok : Ty1 → AV → Prop
  | .c k, v => Al [k] [v]
  | .l z ks, v => ∃ nl ti xs, v = .lst nl ti z xs ∧ (nl = true → xs = []) ∧ xs.length ≤ maxLen ∧ ∀ x ∈ xs, Al ks x
def AlT : List Ty1 → List AV → Prop
  | [], [] => True
  | t :: s, v :: r => t.ok v ∧ AlT s r
  | _, _ => False
theorem AlT.app : ∀ {s t : List Ty1} {l m : List AV}, AlT s l → AlT t m → AlT (s ++ t) (l ++ m)
  | [], _, [], _, _, h => h
  | [], _, _ :: _, _, h, _ => by cases h
  | _ :: _, _, [], _, h, _ => by cases h
  | _ :: _, _, _ :: _, _, ⟨h1, h2⟩, h => ⟨h1, AlT.app h2 h⟩

def ceOf : Ty1 → Option Ce
  | .c k => some k
  | .l .. => none
def cesOf : List Ty1 → Option (List Ce)
  | [] => some []
  | t :: s => match ceOf t, cesOf s with
    | some k, some l => some (k :: l)
    | _, _ => none
theorem cesOf_al : ∀ {s : List Ty1} {ks : List Ce} {l : List AV}, cesOf s = some ks → AlT s l → Al ks l
  | [], ks, [], h, _ => by simp [cesOf] at h; subst h; trivial
  | [], _, _ :: _, _, h => by cases h
  | _ :: _, _, [], _, h => by cases h
  | .l .. :: s, ks, v :: r, h, _ => by simp [cesOf, ceOf] at h
  | .c k :: s, ks, v :: r, h, ⟨h1, h2⟩ => by
    simp only [cesOf, ceOf] at h
    split at h
    · rename_i k' l' e1 e2
      simp at e1 h; subst e1; subst h
      have := cesOf_al e2 h2
      cases k <;> simp only [Ty1.ok, Al] at h1 ⊢ <;> first | exact ⟨h1.1, this⟩ | exact this
    · cases h

def flatFs (fl : TypeId → Option (List Ty1)) : List Field → Option (List Ty1)
  | [] => some []
  | f :: r => match fl f.type, flatFs fl r with
    | some a, some b => some (a ++ b)
    | _, _ => none
def flat1 (P : Program) : Nat → TypeId → Option (List Ty1)
  | 0, _ => none
  | n + 1, t => match P.underlying t with
    | some .bool => some [.c .b]
    | some (.int k) => some [.c (.i k)]
    | some .string => some [.c .s]
    | some (.slice e) => match flat1 P n e with
      | some l => (cesOf l).map fun ks => [.l (P.cellsOf e) ks]
      | none => none
    | some (.struct fs) => flatFs (flat1 P n) fs.toList
    | some (.array m e) => (flat1 P n e).map fun l => (List.replicate m l).flatten
    | _ => none

theorem flatFs_ok {P : Program} {ty : TypeId → List AV → Prop} {fl : TypeId → Option (List Ty1)} (h : ∀ t l ts, ty t l → fl t = some ts → AlT ts l) : ∀ (fs : List Field) {l : List AV} {ts : List Ty1}, TyFs P ty fs l → flatFs fl fs = some ts → AlT ts l
  | [], l, ts, h1, h2 => by simp [flatFs] at h2; subst h2; simp [TyFs] at h1; subst h1; trivial
  | f :: r, l, ts, ⟨p, q, e, h3, h4⟩, h2 => by
    simp only [flatFs] at h2
    split at h2
    · rename_i x y e1 e2
      simp at h2; subst h2; subst e
      exact AlT.app (h _ _ _ h3 e1) (flatFs_ok h r h4 e2)
    · cases h2
theorem flatEs_ok {ty : List AV → Prop} {ts : List Ty1} (h : ∀ l, ty l → AlT ts l) : ∀ (m : Nat) {l : List AV}, TyEs ty m l → AlT (List.replicate m ts).flatten l
  | 0, l, h1 => by simp [TyEs] at h1; subst h1; trivial
  | m + 1, l, ⟨p, q, e, h3, h4⟩ => by
    subst e
    rw [List.replicate_succ, List.flatten_cons]
    exact AlT.app (h _ h3) (flatEs_ok h m h4)

theorem flat1_ok {P : Program} : ∀ (n : Nat) (t : TypeId) (l : List AV) (ts : List Ty1), TyAV P n t l → flat1 P n t = some ts → AlT ts l
  | 0, _, _, _, h, _ => h.elim
  | n + 1, t, l, ts, h, h2 => by
    simp only [TyAV] at h
    simp only [flat1] at h2
    split at h2
    · rename_i ht
      rw [ht] at h
      simp at h2; subst h2
      obtain ⟨x, rfl⟩ := h
      exact ⟨⟨⟨x, rfl⟩, trivial⟩, trivial⟩
    · rename_i k ht
      rw [ht] at h
      simp at h2; subst h2
      obtain ⟨x, rfl, hw⟩ := h
      exact ⟨⟨⟨x, rfl, hw⟩, trivial⟩, trivial⟩
    · rename_i ht
      rw [ht] at h
      simp at h2; subst h2
      obtain ⟨x, rfl⟩ := h
      exact ⟨⟨⟨x, rfl⟩, trivial⟩, trivial⟩
    · rename_i e ht
      rw [ht] at h
      split at h2
      · rename_i tl he
        rw [Option.map_eq_some_iff] at h2
        obtain ⟨ks, hk, rfl⟩ := h2
        obtain ⟨nl, ti, xs, rfl, h3, h4, h5⟩ := h
        exact ⟨⟨nl, ti, xs, rfl, h3, h4, fun x hx => cesOf_al hk (flat1_ok n e x tl (h5 x hx) he)⟩, trivial⟩
      · cases h2
    · rename_i fs ht
      rw [ht] at h
      exact flatFs_ok (P := P) (fun t l ts => flat1_ok n t l ts) fs.toList h h2
    · rename_i m e ht
      rw [ht] at h
      rw [Option.map_eq_some_iff] at h2
      obtain ⟨tl, he, rfl⟩ := h2
      exact flatEs_ok (fun l hl => flat1_ok n e l tl hl he) m h
    · cases h2

/-- an argument of a struct's type -/
theorem TyArg_agg {P : Program} {n : Nat} {t : TypeId} {x : AV} {ts : List Ty1} (h : TyArg P n t x) (ha : (match P.underlying t with | some (.struct _) | some (.array _ _) => true | _ => false) = true) (hf : flat1 P n t = some ts) : ∃ l, x = .agg l ∧ AlT ts l := by
  unfold TyArg at h
  split at h
  · obtain ⟨l, rfl, h⟩ := h; exact ⟨l, rfl, flat1_ok n t l ts h hf⟩
  · obtain ⟨l, rfl, h⟩ := h; exact ⟨l, rfl, flat1_ok n t l ts h hf⟩
  · rename_i h1 h2
    exfalso
    split at ha
    · rename_i fs ht; exact h1 _ ht
    · rename_i k e ht; exact h2 _ _ ht
    · cases ha
/-- an argument of another type -/
theorem TyArg_one {P : Program} {n : Nat} {t : TypeId} {x : AV} {ts : List Ty1} (h : TyArg P n t x) (ha : (match P.underlying t with | some (.struct _) | some (.array _ _) => true | _ => false) = false) (hf : flat1 P n t = some ts) : AlT ts [x] := by
  unfold TyArg at h
  split at h
  · rename_i fs ht; rw [ht] at ha; cases ha
  · rename_i k e ht; rw [ht] at ha; cases ha
  · exact flat1_ok n t [x] ts h hf

theorem AlT.uncons {t : Ty1} {s : List Ty1} {l : List AV} (h : AlT (t :: s) l) : ∃ v r, l = v :: r ∧ t.ok v ∧ AlT s r := by
  cases l with
  | nil => exact h.elim
  | cons v r => exact ⟨v, r, rfl, h.1, h.2⟩
theorem AlT.none {l : List AV} (h : AlT [] l) : l = [] := by
  cases l with
  | nil => rfl
  | cons v r => exact h.elim
theorem Ty1.ok_int {k : IntKind} {v : AV} (h : Ty1.ok (.c (.i k)) v) : ∃ n, v = .i k n ∧ (Lit.int k n).wf = true := h.1

/-- three numbers and two slices -/
theorem AlT_state {l : List AV} {z1 z2 : Nat} {k1 k2 : List Ce} (h : AlT [.c (.i .i64), .c (.i .i64), .c (.i .i64), .l z1 k1, .l z2 k2] l) :
    ∃ (a b c : Int) (x y z w : Bool) (xs ys : Rows), l = [.i .i64 a, .i .i64 b, .i .i64 c, .lst x y z1 xs, .lst z w z2 ys] ∧ (Lit.int .i64 a).wf = true ∧ (Lit.int .i64 b).wf = true ∧ (Lit.int .i64 c).wf = true ∧
      xs.length ≤ maxLen ∧ ys.length ≤ maxLen ∧ (∀ x ∈ xs, Al k1 x) ∧ (∀ x ∈ ys, Al k2 x) ∧ (x = true → xs = []) ∧ (z = true → ys = []) := by
  obtain ⟨v1, r1, rfl, h1, g1⟩ := h.uncons
  obtain ⟨v2, r2, rfl, h2, g2⟩ := g1.uncons
  obtain ⟨v3, r3, rfl, h3, g3⟩ := g2.uncons
  obtain ⟨v4, r4, rfl, h4, g4⟩ := g3.uncons
  obtain ⟨v5, r5, rfl, h5, g5⟩ := g4.uncons
  obtain rfl := g5.none
  obtain ⟨a, rfl, wa⟩ := Ty1.ok_int h1
  obtain ⟨b, rfl, wb⟩ := Ty1.ok_int h2
  obtain ⟨c, rfl, wc⟩ := Ty1.ok_int h3
  obtain ⟨x, y, xs, rfl, e1, e2, e3⟩ := h4
  obtain ⟨z, w, ys, rfl, e4, e5, e6⟩ := h5
  exact ⟨a, b, c, x, y, z, w, xs, ys, rfl, wa, wb, wc, e2, e5, e3, e6, e1, e4⟩
theorem AlT_int {v : AV} {k : IntKind} (h : AlT [.c (.i k)] [v]) : ∃ n, v = .i k n ∧ (Lit.int k n).wf = true := by
  obtain ⟨v1, r1, e, h1, _⟩ := h.uncons
  cases e
  exact Ty1.ok_int h1
theorem AlT_geo {l : List AV} (h : AlT [.c (.i .i64), .c (.i .i64), .c (.i .i64)] l) : ∃ (a b c : Int), l = [.i .i64 a, .i .i64 b, .i .i64 c] ∧ (Lit.int .i64 a).wf = true ∧ (Lit.int .i64 b).wf = true ∧ (Lit.int .i64 c).wf = true := by
  obtain ⟨v1, r1, rfl, h1, g1⟩ := h.uncons
  obtain ⟨v2, r2, rfl, h2, g2⟩ := g1.uncons
  obtain ⟨v3, r3, rfl, h3, g3⟩ := g2.uncons
  obtain rfl := g3.none
  obtain ⟨a, rfl, wa⟩ := Ty1.ok_int h1
  obtain ⟨b, rfl, wb⟩ := Ty1.ok_int h2
  obtain ⟨c, rfl, wc⟩ := Ty1.ok_int h3
  exact ⟨a, b, c, rfl, wa, wb, wc⟩
end Go.Rv
