/-
A deterministic evaluator of a small intermediate code: values, memory, functions. It imports the model's integers alone.
-/
import GoSem.Core.View
import GoSem.Core.Layout
import GoSem.Core.Region
import GoSem.Op.Equal
import Derived.Lib.IndexAny
import Derived.Orders
import Derived.Laws.Sem
import Derived.Laws.World
import Derived.KernelRfl
import Derived.Laws.Entries
import Derived.Laws.StructEq
import Derived.Laws.AppendOwn
import Derived.Laws.CopyRow
import Derived.Laws.MakeOwn
namespace Go.Rv
inductive AV where
  | u                                              -- anything at all
  | b (x : Bool)
  | i (k : IntKind) (n : Int)
  | s (x : List UInt8)
  | cx (re im : Int)                               -- whole parts
  | np
  | ptr (id n z x o : Nat)                         -- own memory: block, its length, an element's cells, which element, which cell
  | ref (cs : List AV) (o : Nat)                   -- an address in memory that stays: the element's cells, which cell
  | lst (nl ti : Bool) (z : Nat) (xs : List (List AV)) -- a slice over memory that stays; nil? is its capacity its length?
  | sl (id n z lo len : Nat)                       -- a slice of own memory
  | as (id n z x o k len : Nat)                    -- a slice of an array in own memory
  | agg (cs : List AV)
  | tup (vs : List AV)
  | fn (f : Nat) (caps : List AV)
  | mp (id : Nat)
  | mv (es : List (AV × AV))                       -- a map, lent
  deriving Inhabited
inductive Blk where
  | row (z : Nat) (p im : Bool) (xs : List (List AV))  -- p: no own address stands in it; im: it is written no more
  | map (es : List (AV × AV))
  deriving Inhabited
mutual
def AV.own : AV → Bool
  | .ptr .. | .sl .. | .as .. | .mp .. => true
  | .agg cs => ownL cs
  | .tup vs => ownL vs
  | .fn _ cs => ownL cs
  | _ => false
def ownL : List AV → Bool
  | [] => false
  | v :: r => v.own || ownL r
end
mutual
def AV.stays : AV → Bool
  | .lst _ _ _ [] => false
  | .ref .. | .lst .. | .mv .. => true
  | .agg cs => staysL cs
  | .tup vs => staysL vs
  | .fn _ cs => staysL cs
  | _ => false
def staysL : List AV → Bool
  | [] => false
  | v :: r => v.stays || staysL r
end
mutual
def AV.ids : AV → List Nat
  | .ptr id .. | .sl id .. | .as id .. | .mp id => [id]
  | .agg cs => idsL cs
  | .tup vs => idsL vs
  | .fn _ cs => idsL cs
  | _ => []
def idsL : List AV → List Nat
  | [] => []
  | v :: r => v.ids ++ idsL r
end
mutual
def AV.ren (f : Nat → Option Nat) : AV → AV
  | .ptr id n z x o => match f id with | some j => .ptr j n z x o | none => .u
  | .sl id n z lo len => match f id with | some j => .sl j n z lo len | none => .u
  | .as id n z x o k len => match f id with | some j => .as j n z x o k len | none => .u
  | .mp id => match f id with | some j => .mp j | none => .u
  | .agg cs => .agg (renL f cs)
  | .tup vs => .tup (renL f vs)
  | .fn g cs => .fn g (renL f cs)
  | v => v
def renL (f : Nat → Option Nat) : List AV → List AV
  | [] => []
  | v :: r => v.ren f :: renL f r
end
def Blk.ren (f : Nat → Option Nat) : Blk → Blk
  | .row z p im xs => if p then .row z p im xs else .row z p im (xs.map (renL f))
  | .map es => .map es
def AV.cells? : AV → Option (List AV)
  | .agg cs => some cs
  | .u | .tup _ | .mv _ => none
  | v => some [v]
def chunks (k : Nat) : Nat → List AV → List (List AV)
  | 0, _ => []
  | n + 1, cs => cs.take k :: chunks k n (cs.drop k)
abbrev Loc := List Blk
def rd (loc : Loc) : AV → Option (List (List AV))
  | .lst _ _ _ xs => some xs
  | .sl id n _ lo len => match loc[id]? with
    | some (.row _ _ _ xs) => if xs.length = n then some ((xs.drop lo).take len) else none
    | _ => none
  | .as id n _ x o k len => match loc[id]? with
    | some (.row _ _ _ xs) => if xs.length = n then (match xs[x]? with | some e => some (chunks k len (e.drop o)) | none => none) else none
    | _ => none
  | _ => none
mutual
def AV.frz (loc : Loc) : AV → Option AV
  | .ptr id n _ x o => match loc[id]? with
    | some (.row _ p _ xs) => if xs.length = n ∧ p = true then (match xs[x]? with | some e => some (.ref e o) | none => none) else none
    | _ => none
  | .sl id n z lo len => match loc[id]? with
    | some (.row _ p _ xs) => if xs.length = n ∧ p = true then some (.lst false false z ((xs.drop lo).take len)) else none
    | _ => none
  | .as .. | .mp _ | .mv _ => none
  | .agg cs => match frzN loc cs with | some cs => some (.agg cs) | none => none
  | .tup cs => match frzN loc cs with | some cs => some (.tup cs) | none => none
  | .fn f cs => match frzN loc cs with | some cs => some (.fn f cs) | none => none
  | v => some v
def frzN (loc : Loc) : List AV → Option (List AV)
  | [] => some []
  | v :: r => match v.frz loc with
    | some v => match frzN loc r with | some r => some (v :: r) | none => none
    | none => none
end
def frzA (loc : Loc) : AV → Option AV
  | .mp id => match loc[id]? with
    | some (.map es) => some (.mv es)
    | _ => none
  | v => v.frz loc
def frzL (loc : Loc) : List AV → Option (List AV)
  | [] => some []
  | v :: r => match frzA loc v with
    | some v => match frzL loc r with | some r => some (v :: r) | none => none
    | none => none
inductive Kd where
  | b | i | s
  deriving DecidableEq, Inhabited
inductive Ar where
  | t (n : Nat)
  | k (v : AV)
  deriving Inhabited
inductive I where
  | mv (x : Ar)
  | pick (c a b : Ar)
  | alloc (zero : List AV)
  | box (x : Ar)
  | build (zero : List AV) (parts : List (Nat × Nat × Ar))
  | mkrow (zero : List AV) (len cap : Ar)
  | bsl (zero : List AV) (n : Nat) (parts : List (Nat × Ar))
  | load (ag : Bool) (n : Nat) (a : Ar)
  | store (n : Nat) (a x : Ar)
  | bin (op : BinOp) (x y : Ar)
  | eq (neg ag : Bool) (sh : List Kd) (x y : Ar)
  | eqn (neg : Bool) (x : Ar)
  | un (op : UnOp) (x : Ar)
  | conv (k : IntKind) (x : Ar)
  | faddr (o : Nat) (x : Ar)
  | fld (ag : Bool) (o n : Nat) (x : Ar)
  | iaddr (z : Nat) (x ix : Ar)
  | iaddrA (len z : Nat) (x ix : Ar)
  | slc (z : Nat) (x : Ar) (lo hi mx : Option Ar)
  | slcA (len z : Nat) (x : Ar) (lo hi : Option Ar)
  | ext (x : Ar) (n : Nat)
  | call (f : Nat) (args : List Ar)
  | callv (f : Ar) (args : List Ar)
  | append (z : Nat) (x y : Ar)
  | copy (z : Nat) (x y : Ar)
  | len (str : Bool) (x : Ar)
  | mxn (mx : Bool) (x : Ar) (l : List Ar)
  | mkfn (f : Nat) (caps : List Ar)
  | mkmap
  | look (zero : AV) (ok : Bool) (m k : Ar)
  | mset (m k x : Ar)
  deriving Inhabited
def optAr : Option Ar → List Ar
  | none => []
  | some a => [a]
def I.ars : I → List Ar
  | .mv x => [x]
  | .pick c a b => [c, a, b]
  | .alloc _ => []
  | .box x => [x]
  | .build _ ps => ps.map (·.2.2)
  | .mkrow _ a b => [a, b]
  | .bsl _ _ ps => ps.map (·.2)
  | .load _ _ a => [a]
  | .store _ a x => [a, x]
  | .bin _ x y => [x, y]
  | .eq _ _ _ x y => [x, y]
  | .eqn _ x => [x]
  | .un _ x => [x]
  | .conv _ x => [x]
  | .faddr _ x => [x]
  | .fld _ _ _ x => [x]
  | .iaddr _ x y => [x, y]
  | .iaddrA _ _ x y => [x, y]
  | .slc _ x lo hi mx => x :: (optAr lo ++ optAr hi ++ optAr mx)
  | .slcA _ _ x lo hi => x :: (optAr lo ++ optAr hi)
  | .ext x _ => [x]
  | .call _ l => l
  | .callv f l => f :: l
  | .append _ x y => [x, y]
  | .copy _ x y => [x, y]
  | .len _ x => [x]
  | .mxn _ x l => x :: l
  | .mkfn _ l => l
  | .mkmap => []
  | .look _ _ m k => [m, k]
  | .mset m k x => [m, k, x]
def I.mem : I → Bool
  | .alloc _ | .box _ | .mkrow .. | .bsl .. | .load .. | .store .. | .call .. | .callv .. | .append .. | .copy .. | .mkmap | .look .. | .mset .. => true
  | _ => false
structure MO where
  dst : Option Nat
  op : I
  guard : Option (Nat × Bool) := none
  uno : List Nat := []          -- which operations of its region may come ahead or behind
  deriving Inhabited
def MO.reads (o : MO) : List Nat := (o.op.ars.filterMap fun | .t n => some n | .k _ => none) ++ (match o.guard with | some (g, _) => [g] | none => [])
inductive MC where
  | skip
  | reg (ops : List MO) (draw : Bool) (kill : List Nat)   -- kill: temporaries that nobody looks at behind it
  | seq (a b : MC)
  | cond (c : Ar) (a b : MC)
  | block (id : Nat) (c : MC)
  | loop (key : Nat) (live out : List Nat) (c : MC)      -- live: what is looked at in the next round; out: behind the loop
  | exit (id : Nat)
  | ret
  | bad
  deriving Inhabited
abbrev Fr := List (Nat × AV)
def Fr.get : Fr → Nat → AV
  | [], _ => .u
  | (t, v) :: r, n => if t = n then v else Fr.get r n
def Fr.drop (fr : Fr) (l : List Nat) : Fr := fr.filter fun p => !l.contains p.1
structure St where
  fr : Fr
  loc : Loc
  deriving Inhabited
inductive RV where
  | tmp (t : Nat)
  | cell (ag : Bool) (n : Nat) (t : Nat)
  | fz (zs : List (List Nat))       -- ahead of the others: own slices are handed back as memory that stays; what nil slices hold
  deriving Inhabited
inductive MF where
  | code (nparams : Nat) (body : MC) (results : List RV)
  | law (g : List AV → Option AV)        -- a function whose answer is known otherwise
structure Res where
  v : AV
  new : Loc
  outs : List (List (AV × AV))
  deriving Inhabited
def ev1 (fr : Fr) : Ar → AV
  | .t n => fr.get n
  | .k v => v
def intBin (op : BinOp) (k : IntKind) (a b : Int) : Option AV :=
  match op with
  | .add => some (.i k (k.wrap (a + b)))
  | .sub => some (.i k (k.wrap (a - b)))
  | .mul => some (.i k (k.wrap (a * b)))
  | .quo => if b = 0 then none else some (.i k (k.wrap (a.tdiv b)))
  | .rem => if b = 0 then none else some (.i k (a.tmod b))
  | .and => some (.i k (k.wrap (BitVec.ofInt k.bits a &&& BitVec.ofInt k.bits b).toNat))
  | .or => some (.i k (k.wrap (BitVec.ofInt k.bits a ||| BitVec.ofInt k.bits b).toNat))
  | .xor => some (.i k (k.wrap (BitVec.ofInt k.bits a ^^^ BitVec.ofInt k.bits b).toNat))
  | .andNot => some (.i k (k.wrap (BitVec.ofInt k.bits a &&& ~~~ BitVec.ofInt k.bits b).toNat))
  | .eql => some (.b (a == b))
  | .neq => some (.b (a != b))
  | .lss => some (.b (decide (a < b)))
  | .leq => some (.b (decide (a ≤ b)))
  | .gtr => some (.b (decide (a > b)))
  | .geq => some (.b (decide (a ≥ b)))
  | .shl | .shr => none
def shiftBin (op : BinOp) (k : IntKind) (a : Int) (b : Int) : Option AV :=
  if b < 0 then none else
  match op with
  | .shl => some (.i k (k.wrap (a * 2 ^ (min b.toNat k.bits))))
  | .shr => some (.i k (a.fdiv (2 ^ (min b.toNat k.bits))))
  | _ => none
def binV (op : BinOp) : AV → AV → Option AV
  | .i k a, .i k' b => match op with
    | .shl => shiftBin .shl k a b
    | .shr => shiftBin .shr k a b
    | op => if k = k' then intBin op k a b else none
  | .s a, .s b => match op with
    | .eql => some (.b (a == b))
    | .neq => some (.b (a != b))
    | _ => none
  | _, _ => none
def eq1 : Kd → AV → AV → Option Bool
  | .b, .b x, .b y => some (x == y)
  | .i, .i k a, .i k' b => if k = k' then some (a == b) else none
  | .s, .s a, .s b => some (a == b)
  | _, _, _ => none
def eqL : List Kd → List AV → List AV → Option Bool
  | [], [], [] => some true
  | k :: q, a :: r, b :: s => match eq1 k a b with
    | some x => match eqL q r s with
      | some y => some (x && y)
      | none => none
    | none => none
  | _, _, _ => none
def eqV (ag : Bool) (sh : List Kd) (x y : AV) : Option Bool :=
  if ag then (match x, y with | .agg a, .agg b => eqL sh a b | _, _ => none)
  else match sh with | [k] => eq1 k x y | _ => none
def nilV : AV → Option Bool
  | .lst nl _ _ _ => some nl
  | _ => none
def unV (op : UnOp) : AV → Option AV
  | .b x => match op with | .not => some (.b !x) | _ => none
  | .i k n => match op with
    | .neg => some (.i k (k.wrap (0 - n)))
    | .xor => some (.i k (k.wrap (BitVec.ofInt k.bits (if k.signed then -1 else k.max) ^^^ BitVec.ofInt k.bits n).toNat))
    | _ => none
  | _ => none
def convV (k : IntKind) : AV → Option AV
  | .i _ n => some (.i k (k.wrap n))
  | _ => none
def setCells : List AV → Nat → List AV → List AV
  | cs, _, [] => cs
  | cs, o, v :: r => setCells (cs.set o v) (o + 1) r
def buildGo (fr : Fr) (cs : List AV) : List (Nat × Nat × Ar) → Option (List AV)
  | [] => some cs
  | (o, n, x) :: r =>
    match (ev1 fr x).cells? with
    | some v => if v.length = n ∧ o + n ≤ cs.length then buildGo fr (setCells cs o v) r else none
    | none => none
def bslGo (fr : Fr) (z : Nat) (xs : List (List AV)) : List (Nat × Ar) → Option (List (List AV))
  | [] => some xs
  | (j, x) :: r =>
    match (ev1 fr x).cells? with
    | some v => if v.length = z ∧ j < xs.length then bslGo fr z (xs.set j v) r else none
    | none => none
def ldCells (loc : Loc) : AV → Nat → Option (List AV)
  | .ptr id n _ x o, m => match loc[id]? with
    | some (.row _ _ _ xs) => if xs.length = n then (match xs[x]? with
      | some e => if o + m ≤ e.length then some ((e.drop o).take m) else none
      | none => none) else none
    | _ => none
  | .ref cs o, m => if o + m ≤ cs.length then some ((cs.drop o).take m) else none
  | _, _ => none
def pack (ag : Bool) : List AV → Option AV
  | cs => if ag then some (.agg cs) else match cs with | [v] => some v | _ => none
def stCells (loc : Loc) : AV → List AV → Option Loc
  | .ptr id n _ x o, cs => match loc[id]? with
    | some (.row z p im xs) => if xs.length = n ∧ im = false then (match xs[x]? with
      | some e => if o + cs.length ≤ e.length then some (loc.set id (.row z (p && !ownL cs) im (xs.set x (setCells e o cs)))) else none
      | none => none) else none
    | _ => none
  | _, _ => none
def faddrV (k : Nat) : AV → Option AV
  | .ptr id n z x o => some (.ptr id n z x (o + k))
  | .ref cs o => some (.ref cs (o + k))
  | _ => none
def iaddrV (z : Nat) : AV → Int → Option AV
  | .lst _ _ z' xs, ix => if z' = z ∧ 0 ≤ ix then (match xs[ix.toNat]? with | some e => some (.ref e 0) | none => none) else none
  | .sl id n z' lo len, ix => if z' = z ∧ 0 ≤ ix ∧ ix < len then some (.ptr id n z' (lo + ix.toNat) 0) else none
  | _, _ => none
def iaddrAV (len z : Nat) : AV → Int → Option AV
  | .ptr id n zz x o, ix => if 0 ≤ ix ∧ ix < len then some (.ptr id n zz x (o + ix.toNat * z)) else none
  | .ref cs o, ix => if 0 ≤ ix ∧ ix < len then some (.ref cs (o + ix.toNat * z)) else none
  | _, _ => none
def lenV (str : Bool) : AV → Option Nat
  | .lst _ _ _ xs => if str then none else some xs.length
  | .sl _ _ _ _ len => if str then none else some len
  | .s x => if str then some x.length else none
  | _ => none
def slcV (z : Nat) (x : AV) (lo hi mx : Option Int) : Option AV :=
  match x with
  | .lst nl ti z' xs =>
    let h := hi.getD xs.length
    let l := lo.getD 0
    if z' = z ∧ 0 ≤ l ∧ l ≤ h ∧ h ≤ xs.length then
      match mx with
      | none => some (.lst nl (ti && h == xs.length) z ((xs.drop l.toNat).take (h - l).toNat))
      | some m => if m = h then some (.lst nl true z ((xs.drop l.toNat).take (h - l).toNat)) else none
    else none
  | .sl id n z' lo0 len =>
    let h := hi.getD len
    let l := lo.getD 0
    if z' = z ∧ 0 ≤ l ∧ l ≤ h ∧ h ≤ len ∧ mx = none ∧ (l < len ∨ l = 0) then some (.sl id n z (lo0 + l.toNat) (h - l).toNat) else none
  | _ => none
def slcAV (len z : Nat) (x : AV) (lo hi : Option Int) : Option AV :=
  let h := hi.getD len
  let l := lo.getD 0
  if 0 ≤ l ∧ l ≤ h ∧ h ≤ len ∧ (l < len ∨ l = 0) then
    match x with
    | .ptr id n zz e o => if o + len * z ≤ zz then some (.as id n zz e (o + l.toNat * z) z (h - l).toNat) else none
    | .ref cs o => if o + len * z ≤ cs.length then some (.lst false false z (chunks z (h - l).toNat (cs.drop (o + l.toNat * z)))) else none
    | _ => none
  else none
def most : Nat := 16777216
def appendV (loc : Loc) (z : Nat) (x : AV) (ys : List (List AV)) : Option (AV × Loc) :=
  if ys.all (fun e => e.length == z) then
    match x with
    | .lst nl true z' xs =>
      if ys.length = 0 then some (.lst nl true z' xs, loc) else
      if xs.length + ys.length ≤ most ∧ xs.all (fun e => e.length == z) then
        some (.sl loc.length (xs.length + ys.length) z 0 (xs.length + ys.length), loc ++ [.row z (ys.all fun e => !ownL e) false (xs ++ ys)])
      else none
    | .sl id n z' lo len => match loc[id]? with
      | some (.row z'' p im xs) =>
        if xs.length = n ∧ im = false ∧ lo = 0 ∧ len = n ∧ z' = z ∧ n + ys.length ≤ most then
          some (.sl id (n + ys.length) z 0 (n + ys.length), loc.set id (.row z'' (p && ys.all fun e => !ownL e) im (xs ++ ys)))
        else none
      | _ => none
    | _ => none
  else none
def copyV (loc : Loc) (z : Nat) (x : AV) (ys : List (List AV)) : Option (AV × Loc) :=
  if ys.all (fun e => e.length == z) then
    match x with
    | .sl id n z' lo len => match loc[id]? with
      | some (.row z'' p im xs) =>
        if xs.length = n ∧ im = false ∧ z' = z then
          some (.i .i64 ((min ys.length len : Nat) : Int), loc.set id (.row z'' (p && ys.all fun e => !ownL e) im (xs.take lo ++ ys.take (min ys.length len) ++ xs.drop (lo + min ys.length len))))
        else none
      | _ => none
    | .as id n _ e o k len => match loc[id]? with
      | some (.row z'' p im xs) =>
        if xs.length = n ∧ im = false ∧ k = z then
          match xs[e]? with
          | some cs =>
            if o + min ys.length len * k ≤ cs.length then
              some (.i .i64 ((min ys.length len : Nat) : Int), loc.set id (.row z'' (p && ys.all fun e => !ownL e) im (xs.set e (setCells cs o (ys.take (min ys.length len)).flatten))))
            else none
          | none => none
        else none
      | _ => none
    | _ => none
  else none
def mxnV (mx : Bool) : AV → AV → Option AV
  | .i k a, .i k' b => if k = k' then some (.i k (if mx then (if b > a then b else a) else (if b < a then b else a))) else none
  | _, _ => none
def mxnL (mx : Bool) : AV → List AV → Option AV
  | v, [] => some v
  | v, w :: r => match mxnV mx v w with | some x => mxnL mx x r | none => none
def mapFind (k : AV) : List (AV × AV) → Option (Option AV)
  | [] => some none
  | (a, v) :: r => match eq1 .i k a with
    | some true => some (some v)
    | some false => mapFind k r
    | none => none
def mapSet (k v : AV) : List (AV × AV) → Option (List (AV × AV))
  | [] => some [(k, v)]
  | (a, w) :: r => match eq1 .i k a with
    | some true => some ((a, v) :: r)
    | some false => match mapSet k v r with | some r => some ((a, w) :: r) | none => none
    | none => none
def mids (args : List AV) : List Nat := args.filterMap fun | .mp id => some id | _ => none
def stayR (r : Res) : Bool := r.v.stays || r.new.any (fun | .row _ _ _ xs => xs.any staysL | .map _ => false)
def putMaps : Loc → List Nat → List (List (AV × AV)) → Loc
  | loc, id :: l, es :: r => putMaps (loc.set id (.map es)) l r
  | loc, _, _ => loc
def markIm : Loc → List Nat → Loc
  | loc, [] => loc
  | loc, id :: l => markIm (match loc[id]? with | some (.row z p _ xs) => loc.set id (.row z p true xs) | _ => loc) l
def settle (loc : Loc) (args : List AV) (r : Res) : Option (AV × Loc) :=
  if (mids args).length = r.outs.length ∧ (mids args).Nodup then
    let loc := putMaps loc (mids args) r.outs
    let loc := if stayR r then markIm loc (idsL args) else loc
    some (r.v.ren (fun j => some (loc.length + j)), loc ++ r.new)
  else none
abbrev CallF := Nat → List AV → Option Res
def doCall (call : CallF) (loc : Loc) (f : Nat) (args : List AV) : Option (AV × Loc) :=
  match frzL loc args with
  | none => none
  | some fargs => match call f fargs with
    | none => none
    | some r => settle loc args r
def numV (fr : Fr) (a : Option Ar) : Option (Option Int) := match a with
  | none => some none
  | some a => match ev1 fr a with | .i _ n => some (some n) | _ => none
def evOp (call : CallF) (fr : Fr) (loc : Loc) : I → Option (AV × Loc)
  | .mv x => some (ev1 fr x, loc)
  | .pick c a b => match ev1 fr c with | .b t => some (if t then ev1 fr a else ev1 fr b, loc) | _ => none
  | .alloc zero => some (.ptr loc.length 1 zero.length 0 0, loc ++ [.row zero.length (!ownL zero) false [zero]])
  | .box x => match (ev1 fr x).cells? with
    | some cs => if cs.length = 0 then none else some (.ptr loc.length 1 cs.length 0 0, loc ++ [.row cs.length (!ownL cs) false [cs]])
    | none => none
  | .build zero parts => match buildGo fr zero parts with | some cs => some (.agg cs, loc) | none => none
  | .mkrow zero l c => match ev1 fr l, ev1 fr c with
    | .i _ n, .i _ m => if 0 ≤ n ∧ n ≤ m ∧ m ≤ most then
        some (.sl loc.length n.toNat zero.length 0 n.toNat, loc ++ [.row zero.length (!ownL zero) false (List.replicate n.toNat zero)]) else none
    | _, _ => none
  | .bsl zero n parts => match bslGo fr zero.length (List.replicate n zero) parts with
    | some xs => some (.sl loc.length n zero.length 0 n, loc ++ [.row zero.length (xs.all fun e => !ownL e) false xs])
    | none => none
  | .load ag n a => match ldCells loc (ev1 fr a) n with
    | some cs => match pack ag cs with | some v => some (v, loc) | none => none
    | none => none
  | .store n a x => match (ev1 fr x).cells? with
    | some cs => if cs.length = n then (match stCells loc (ev1 fr a) cs with | some loc => some (.tup [], loc) | none => none) else none
    | none => none
  | .bin op x y => match binV op (ev1 fr x) (ev1 fr y) with | some v => some (v, loc) | none => none
  | .eq neg ag sh x y => match eqV ag sh (ev1 fr x) (ev1 fr y) with | some t => some (.b (if neg then !t else t), loc) | none => none
  | .eqn neg x => match nilV (ev1 fr x) with | some t => some (.b (if neg then !t else t), loc) | none => none
  | .un op x => match unV op (ev1 fr x) with | some v => some (v, loc) | none => none
  | .conv k x => match convV k (ev1 fr x) with | some v => some (v, loc) | none => none
  | .faddr o x => match faddrV o (ev1 fr x) with | some v => some (v, loc) | none => none
  | .fld ag o n x => match ev1 fr x with
    | .agg cs => if o + n ≤ cs.length then (match pack ag ((cs.drop o).take n) with | some v => some (v, loc) | none => none) else none
    | _ => none
  | .iaddr z x ix => match ev1 fr ix with
    | .i _ n => match iaddrV z (ev1 fr x) n with | some v => some (v, loc) | none => none
    | _ => none
  | .iaddrA len z x ix => match ev1 fr ix with
    | .i _ n => match iaddrAV len z (ev1 fr x) n with | some v => some (v, loc) | none => none
    | _ => none
  | .slc z x lo hi mx =>
    match numV fr lo, numV fr hi, numV fr mx with
    | some lo, some hi, some mx => match slcV z (ev1 fr x) lo hi mx with | some v => some (v, loc) | none => none
    | _, _, _ => none
  | .slcA len z x lo hi =>
    match numV fr lo, numV fr hi with
    | some lo, some hi => match slcAV len z (ev1 fr x) lo hi with | some v => some (v, loc) | none => none
    | _, _ => none
  | .ext x n => match ev1 fr x with
    | .tup vs => match vs[n]? with | some v => some (v, loc) | none => none
    | _ => none
  | .call f args => doCall call loc f (args.map (ev1 fr))
  | .callv f args => match ev1 fr f with
    | .fn g caps => doCall call loc g (args.map (ev1 fr) ++ caps)
    | _ => none
  | .append z x y => match rd loc (ev1 fr y) with
    | some ys => appendV loc z (ev1 fr x) ys
    | none => none
  | .copy z x y => match rd loc (ev1 fr y) with
    | some ys => copyV loc z (ev1 fr x) ys
    | none => none
  | .len str x => match lenV str (ev1 fr x) with | some n => some (.i .i64 n, loc) | none => none
  | .mxn mx x l => match mxnL mx (ev1 fr x) (l.map (ev1 fr)) with | some v => some (v, loc) | none => none
  | .mkfn f caps => some (.fn f (caps.map (ev1 fr)), loc)
  | .mkmap => some (.mp loc.length, loc ++ [.map []])
  | .look zero ok m k => match ev1 fr m with
    | .mp id => match loc[id]? with
      | some (.map es) => match mapFind (ev1 fr k) es with
        | some r => some (if ok then .tup [r.getD zero, .b r.isSome] else r.getD zero, loc)
        | none => none
      | _ => none
    | _ => none
  | .mset m k x => match ev1 fr m with
    | .mp id => match loc[id]? with
      | some (.map es) => match (match ev1 fr k, ev1 fr x with | .i a n, .b t => mapSet (.i a n) (.b t) es | _, _ => none) with
        | some es => some (.tup [], loc.set id (.map es))
        | none => none
      | _ => none
    | _ => none
def footCall (call : CallF) (loc : Loc) (f : Nat) (args : List AV) : List Nat × List Nat :=
  match frzL loc args with
  | none => ([], [])
  | some fargs => match call f fargs with
    | none => ([], [])
    | some r => (idsL args, if stayR r then idsL args else mids args)
def foot (call : CallF) (fr : Fr) (loc : Loc) : I → List Nat × List Nat
  | .load _ _ a => ((ev1 fr a).ids, [])
  | .store _ a _ => ([], (ev1 fr a).ids)
  | .look _ _ m _ => ((ev1 fr m).ids, [])
  | .mset m _ _ => ([], (ev1 fr m).ids)
  | .append _ x y => ((ev1 fr y).ids, (ev1 fr x).ids)
  | .call f args => footCall call loc f (args.map (ev1 fr))
  | .callv f args => match ev1 fr f with
    | .fn g caps => footCall call loc g (args.map (ev1 fr) ++ caps)
    | _ => ([], [])
  | .copy _ x y => ((ev1 fr y).ids, (ev1 fr x).ids)
  | _ => ([], [])
inductive Ex where
  | nrm
  | exit (id : Nat)
  | ret
  deriving Inhabited, DecidableEq
def putD (fr : Fr) (dst : Option Nat) (v : AV) : Fr :=
  match dst with
  | some d => (d, v) :: fr
  | none => fr
def evMO (call : CallF) (o : MO) (st : St) : Option St :=
  match o.guard with
  | none => match evOp call st.fr st.loc o.op with
    | some (v, loc) => some ⟨putD st.fr o.dst v, loc⟩
    | none => none
  | some (g, want) => match st.fr.get g with
    | .b t => if t = want then (match evOp call st.fr st.loc o.op with
        | some (v, loc) => some ⟨putD st.fr o.dst v, loc⟩
        | none => none)
      else some ⟨putD st.fr o.dst (.tup []), st.loc⟩
    | .tup [] => some ⟨putD st.fr o.dst (.tup []), st.loc⟩
    | _ => none
def evOps (call : CallF) : List MO → St → Option St
  | [], st => some st
  | o :: r, st => match evMO call o st with
    | some st => evOps call r st
    | none => none
structure Foot where
  rds : List Nat
  wrs : List Nat
  deriving Inhabited
def footMO (call : CallF) (o : MO) (st st' : St) : Foot :=
  let run := match o.guard with
    | none => true
    | some (g, want) => match st.fr.get g with | .b t => t == want | _ => false
  if run then
    let f := foot call st.fr st.loc o.op
    ⟨f.1, f.2 ++ (if st.loc.length < st'.loc.length then (List.range st'.loc.length).drop st.loc.length else [])⟩
  else ⟨[], []⟩
def evFeet (call : CallF) : List MO → St → Option (St × List Foot)
  | [], st => some (st, [])
  | o :: r, st => match evMO call o st with
    | some st' => match evFeet call r st' with
      | some (st'', fs) => some (st'', footMO call o st st' :: fs)
      | none => none
    | none => none
def apartFeet (ops : List MO) (fs : List Foot) : Bool :=
  (ops.zip fs).all fun (o, f) => f.wrs.isEmpty || o.uno.all fun j => match fs[j]? with
    | some g => f.wrs.all fun x => !g.rds.contains x && !g.wrs.contains x
    | none => true
def evDraw (call : CallF) (ops : List MO) (st : St) : Option St :=
  match evFeet call ops st with
  | some (st', fs) => if apartFeet ops fs then some st' else none
  | none => none
def keep (l0 : Nat) (vs : List AV) (loc : Loc) : List Nat :=
  let old := (loc.take l0).flatMap fun | .row _ p _ xs => if p then [] else xs.flatMap idsL | .map _ => []
  let seen := idsL vs ++ old
  (List.range loc.length).filter fun j => decide (j < l0) || seen.contains j
def findIx (x : Nat) : List Nat → Nat → Option Nat
  | [], _ => none
  | a :: r, k => if a = x then some k else findIx x r (k + 1)
def compact (l0 : Nat) (live : List Nat) (st : St) : St :=
  let fr := live.map fun t => (t, st.fr.get t)
  let ks := keep l0 (fr.map (·.2)) st.loc
  if ks.length = st.loc.length then ⟨fr, st.loc⟩ else
  let f := fun x => findIx x ks 0
  ⟨fr.map fun p => (p.1, p.2.ren f), ks.filterMap fun j => (st.loc[j]?).map (Blk.ren f)⟩
def iter (step : St → Option (Ex × St)) (pre : St → St) : Nat → St → Option (Ex × St)
  | 0, _ => none
  | n + 1, st => match step (pre st) with
    | some (.nrm, st) => iter step pre n st
    | r => r
def evC (call : CallF) (m : Nat) : MC → St → Option (Ex × St)
  | .skip, st => some (.nrm, st)
  | .reg ops draw kill, st => match (if draw then evDraw call ops st else evOps call ops st) with
    | some st => some (.nrm, ⟨st.fr.drop kill, st.loc⟩)
    | none => none
  | .seq a b, st => match evC call m a st with
    | some (.nrm, st) => evC call m b st
    | r => r
  | .cond c a b, st => match ev1 st.fr c with
    | .b t => if t then evC call m a st else evC call m b st
    | _ => none
  | .block id c, st => match evC call m c st with
    | some (.exit j, st) => if j = id then some (.nrm, st) else some (.exit j, st)
    | r => r
  | .loop _ live out c, st => match iter (evC call m c) (compact st.loc.length live) m st with
    | some (ex, st') => some (ex, compact st.loc.length out st')
    | none => none
  | .exit id, st => some (.exit id, st)
  | .ret, st => some (.ret, st)
  | .bad, _ => none
def resV (st : St) : RV → Option AV
  | .tmp t => some (st.fr.get t)
  | .cell ag n t => match ldCells st.loc (st.fr.get t) n with
    | some cs => pack ag cs
    | none => none
  | .fz _ => none
def resL (st : St) : List RV → Option (List AV)
  | [] => some []
  | r :: l => match resV st r with
    | some v => match resL st l with | some vs => some (v :: vs) | none => none
    | none => none
def one : List AV → AV
  | [v] => v
  | vs => .tup vs
def enter : List AV → Nat → Nat → Fr × Loc
  | [], _, _ => ([], [])
  | .mv es :: r, t, m => let (fr, loc) := enter r (t + 1) (m + 1); ((t, .mp m) :: fr, .map es :: loc)
  | v :: r, t, m => let (fr, loc) := enter r (t + 1) m; ((t, v) :: fr, loc)
def zfC (z : Nat) : AV → AV
  | .lst nl ti z' xs => match z' == z with
    | true => .lst nl ti z' xs
    | false => match nl, xs with
      | true, [] => .lst true ti z []
      | nl, xs => .lst nl ti z' xs
  | v => v
def zipZ : List Nat → List AV → List AV
  | z :: zs, c :: r => zfC z c :: zipZ zs r
  | _, l => l
def zf1 : List Nat → AV → AV
  | z :: _, .lst nl ti z' xs => zfC z (.lst nl ti z' xs)
  | zs, .agg cs => .agg (zipZ zs cs)
  | _, v => v
def zfT : List (List Nat) → List AV → List AV
  | zs :: r, v :: l => zf1 zs v :: zfT r l
  | _, l => l
def zfix (zss : List (List Nat)) : AV → AV
  | .tup vs => .tup (zfT zss vs)
  | v => zf1 (zss.headD []) v
def leaveO (lent : Nat) (st : St) (rs : List RV) : Option Res :=
  match resL st rs with
  | none => none
  | some vs =>
    let v := one vs
    let outs := (st.loc.take lent).filterMap fun | .map es => some es | _ => none
    if outs.length = lent then
      let ks := (List.range st.loc.length).filter fun j => v.ids.contains j
      let new := ks.filterMap fun j => st.loc[j]?
      if new.all (fun | .row _ p _ _ => p | .map _ => false) && ks.all (fun j => decide (lent ≤ j)) then
        some ⟨v.ren (fun x => findIx x ks 0), new, outs⟩
      else none
    else none
def leaveF (lent : Nat) (st : St) (zss : List (List Nat)) (rs : List RV) : Option Res :=
  match resL st rs with
  | none => none
  | some vs => match (one vs).frz st.loc with
    | none => none
    | some v =>
      let outs := (st.loc.take lent).filterMap fun | .map es => some es | _ => none
      if outs.length = lent then some ⟨zfix zss v, [], outs⟩ else none
def leave (lent : Nat) (st : St) : List RV → Option Res
  | .fz zss :: rs => leaveF lent st zss rs
  | rs => leaveO lent st rs
abbrev Tab := Nat → Option MF
def evF (T : Tab) : Nat → CallF
  | 0, _, _ => none
  | n + 1, f, args => match T f with
    | none => none
    | some (.law g) => match g args with
      | some v => some ⟨v, [], []⟩
      | none => none
    | some (.code np body rs) =>
      if args.length = np then
        match evC (evF T n) n body ⟨(enter args 0 0).1, (enter args 0 0).2⟩ with
        | some (.exit _, _) => none
        | some (_, st) => leave (enter args 0 0).2.length st rs
        | none => none
      else none
end Go.Rv
namespace Go.Rv
mutual
def ofVal : Nat → Value → Option AV
  | 0, _ => none
  | _ + 1, .bool x => some (.b x)
  | _ + 1, .int k n => some (.i k n)
  | _ + 1, .string s => some (.s s.data.toList)
  | _ + 1, .complex .f64 0 0 => some (.cx 0 0)
  | _ + 1, .pointer none => some .np
  | _ + 1, .slice none 0 0 => some (.lst true true 0 [])
  | d + 1, .agg cs => if cs.toList.all (fun v => match v with | .agg _ | .tuple _ => false | _ => true) then
      (match ofVals d cs.toList with | some l => some (.agg l) | none => none) else none
  | d + 1, .tuple cs => match ofVals d cs.toList with | some l => some (.tup l) | none => none
  | _, _ => none
def ofVals : Nat → List Value → Option (List AV)
  | _, [] => some []
  | 0, _ => none
  | d + 1, v :: r => match ofVal d v with
    | some v => match ofVals d r with | some r => some (v :: r) | none => none
    | none => none
end
def valDepth : Nat := 4000
abbrev Num := FuncId → Option Nat
def trAr (σ : Num) : Operand → Option Ar
  | .tmp t => some (.t t)
  | .const v => (ofVal valDepth v).map .k
  | .func f => (σ f).map fun g => .k (.fn g [])
  | .global _ => none
def trArs (σ : Num) : List Operand → Option (List Ar)
  | [] => some []
  | o :: r => match trAr σ o with
    | some a => match trArs σ r with | some l => some (a :: l) | none => none
    | none => none
def isAg (P : Program) (t : TypeId) : Option Bool :=
  match P.underlying t with
  | some (.struct _) | some (.array _ _) => some true
  | some _ => some false
  | none => none
def zeroOf (P : Program) (t : TypeId) : Option (List AV) :=
  match (P.info? t).bind (·.zero) with
  | some v => match ofVal valDepth v with
    | some a => match a.cells? with
      | some cs => if cs.length = P.cellsOf t ∧ 0 < P.cellsOf t then some cs else none
      | none => none
    | none => none
  | none => none
def shapeFs (P : Program) (sh : TypeId → Option (List Kd)) : List Field → Nat → Option (List Kd)
  | [], _ => some []
  | f :: r, o => match sh f.type with
    | some l => if f.name ≠ "_" ∧ f.offset = o ∧ P.cellsOf f.type = l.length ∧ 0 < l.length then
        (match shapeFs P sh r (o + l.length) with | some m => some (l ++ m) | none => none) else none
    | none => none
def shapeOf (P : Program) : Nat → TypeId → Option (List Kd)
  | 0, _ => none
  | d + 1, t => match P.underlying t with
    | some .bool => some [.b]
    | some (.int _) => some [.i]
    | some .string => some [.s]
    | some (.struct fs) => if P.stoodInHeld t then none else shapeFs P (shapeOf P d) fs.toList 0
    | some (.array n e) => match shapeOf P d e with
      | some l => if P.cellsOf e = l.length ∧ 0 < l.length then some ((List.replicate n l).flatten) else none
      | none => none
    | _ => none
def smallBytes (P : Program) (t : TypeId) : Bool := decide (0 < P.bytesOf t ∧ P.bytesOf t ≤ 65536)
def elemTy (P : Program) (t : TypeId) : Option TypeId :=
  match P.underlying t with
  | some (.slice e) => some e
  | _ => none
def trParts (σ : Num) (P : Program) (place : Nat → Option (Nat × Nat)) : List (Nat × Operand) → Option (List (Nat × Nat × Ar))
  | [] => some []
  | (j, x) :: r => match place j, trAr σ x, trParts σ P place r with
    | some (o, n), some a, some l => some ((o, n, a) :: l)
    | _, _, _ => none
def trSParts (σ : Num) : List (Nat × Operand) → Option (List (Nat × Ar))
  | [] => some []
  | (j, x) :: r => match trAr σ x, trSParts σ r with
    | some a, some l => some ((j, a) :: l)
    | _, _ => none
def trO (σ : Num) (o : Option Operand) : Option (Option Ar) :=
  match o with
  | none => some none
  | some x => (trAr σ x).map some
def trCall (σ : Num) (P : Program) (c : Call) : Option I :=
  match c.callee with
  | .builtin b =>
    match b, c.args.toList with
    | .len, [x] => match trAr σ x, (c.argTypes[0]?).bind P.underlying with
      | some a, some .string => some (.len true a)
      | some a, some (.slice _) => some (.len false a)
      | _, _ => none
    | .append, [x, y] => match c.argTypes.toList with
      | [t, u] => match elemTy P t, trAr σ x, trAr σ y with
        | some e, some a, some b =>
          if t = u ∧ smallBytes P e = true ∧ (zeroOf P e).isSome then some (.append (P.cellsOf e) a b) else none
        | _, _, _ => none
      | _ => none
    | .copy, [x, y] => match c.argTypes.toList with
      | [t, _] => match elemTy P t, trAr σ x, trAr σ y with
        | some e, some a, some b => if 0 < P.cellsOf e then some (.copy (P.cellsOf e) a b) else none
        | _, _, _ => none
      | _ => none
    | .max, x :: r => match trAr σ x, trArs σ r with
      | some a, some l => some (.mxn true a l)
      | _, _ => none
    | .min, x :: r => match trAr σ x, trArs σ r with
      | some a, some l => some (.mxn false a l)
      | _, _ => none
    | _, _ => none
  | .value (.func f) => match σ f, trArs σ c.args.toList with
    | some g, some l => some (.call g l)
    | _, _ => none
  | .value f => match trAr σ f, trArs σ c.args.toList with
    | some a, some l => some (.callv a l)
    | _, _ => none
  | .invoke .. => none
def trOp (σ : Num) (P : Program) (o : Oper) : Option I :=
  match o.op with
  | .move x | .assign x => (trAr σ x).map .mv
  | .pick c a b => match trAr σ c, trAr σ a, trAr σ b with
    | some c, some a, some b => some (.pick c a b)
    | _, _, _ => none
  | .alloc t => (zeroOf P t).map .alloc
  | .box t x => match trAr σ x with
    | some a => if 0 < P.cellsOf t then some (.box a) else none
    | none => none
  | .build t parts => match zeroOf P t, P.underlying t with
    | some z, some (.struct fs) => if !fs.toList.all (fun f => (P.info? f.type).isSome) then none else
      (trParts σ P (fun j => (fs[j]?).map fun f => (f.offset, P.cellsOf f.type)) parts.toList).map (.build z)
    | some z, some (.array _ e) => if P.cellsOf e = 0 then none else
      (trParts σ P (fun j => some (j * P.cellsOf e, P.cellsOf e)) parts.toList).map (.build z)
    | _, _ => none
  | .buildSlice t len parts => match elemTy P t with
    | some e => match zeroOf P e with
      | some z => if len * P.cellsOf e ≤ 65536 then (trSParts σ parts.toList).map (.bsl z len) else none
      | none => none
    | none => none
  | .load t a => match isAg P t, trAr σ a with
    | some ag, some a => if 0 < P.cellsOf t ∧ (ag = true ∨ P.cellsOf t = 1) then some (.load ag (P.cellsOf t) a) else none
    | _, _ => none
  | .store t a x => match trAr σ a, trAr σ x with
    | some a, some x => if 0 < P.cellsOf t then some (.store (P.cellsOf t) a x) else none
    | _, _ => none
  | .binOp op t x y _ => match trAr σ x, P.underlying t with
    | some a, some (.int _) => (trAr σ y).map (.bin op a)
    | some a, some .string => (trAr σ y).map (.bin op a)
    | some a, some (.slice _) => match y with
      | .const (.slice none 0 0) => if op = BinOp.eql then some (.eqn false a) else if op = BinOp.neq then some (.eqn true a) else none
      | _ => none
    | some a, some _ => match trAr σ y, shapeOf P 8 t, isAg P t with
      | some b, some sh, some ag =>
        if P.eqGuardType P.depth t then none else
        if op = BinOp.eql then some (.eq false ag sh a b) else if op = BinOp.neq then some (.eq true ag sh a b) else none
      | _, _, _ => none
    | _, _ => none
  | .unOp op _ x => (trAr σ x).map (.un op)
  | .convert src dst x => match P.underlying src, P.underlying dst, trAr σ x with
    | some (.int _), some (.int k), some a => some (.conv k a)
    | _, _, _ => none
  | .makeFunc (.func f) first captured => match σ f, trArs σ captured.toList with
    | some g, some l => if first.isEmpty then some (.mkfn g l) else none
    | _, _ => none
  | .makeMap _t none => some .mkmap
  | .makeSlice t l c => match elemTy P t with
    | some e => match zeroOf P e, trAr σ l, trAr σ c with
      | some z, some a, some b => if smallBytes P e then some (.mkrow z a b) else none
      | _, _, _ => none
    | none => none
  | .slice t x lo hi mx => match P.underlying t, trAr σ x, trO σ lo, trO σ hi, trO σ mx with
    | some (.array n e), some a, some lo, some hi, some none => if P.cellsOf e = 0 then none else some (.slcA n (P.cellsOf e) a lo hi)
    | some (.slice e), some a, some lo, some hi, some mx => if 0 < P.cellsOf e ∧ (mx.isNone ∨ hi.isSome) then some (.slc (P.cellsOf e) a lo hi mx) else none
    | _, _, _, _, _ => none
  | .fieldAddr t x f => match P.underlying t, trAr σ x with
    | some (.struct fs), some a => match fs[f]? with
      | some fd => if P.cellsOf fd.type = 0 then none else some (.faddr fd.offset a)
      | none => none
    | _, _ => none
  | .field t x f => match P.underlying t, trAr σ x with
    | some (.struct fs), some a => match fs[f]? with
      | some fd => match isAg P fd.type with
        | some ag => if 0 < P.cellsOf fd.type ∧ (ag = true ∨ P.cellsOf fd.type = 1) then some (.fld ag fd.offset (P.cellsOf fd.type) a) else none
        | none => none
      | none => none
    | _, _ => none
  | .indexAddr t x ix => match P.underlying t, trAr σ x, trAr σ ix with
    | some (.array n e), some a, some b => if 0 < P.cellsOf e then some (.iaddrA n (P.cellsOf e) a b) else none
    | some (.slice e), some a, some b => if 0 < P.cellsOf e then some (.iaddr (P.cellsOf e) a b) else none
    | _, _, _ => none
  | .lookup t m k ok => match P.underlying t, trAr σ m, trAr σ k with
    | some (.map kt e), some a, some b => match P.underlying kt, ((P.info? e).bind (·.zero)).bind (ofVal valDepth) with
      | some (.int _), some z => some (.look z ok a b)
      | _, _ => none
    | _, _, _ => none
  | .mapUpdate t m k x => match P.underlying t, trAr σ m, trAr σ k, trAr σ x with
    | some (.map kt _), some a, some b, some c => match P.underlying kt with
      | some (.int _) => some (.mset a b c)
      | _ => none
    | _, _, _, _ => none
  | .extract x n => (trAr σ x).map (.ext · n)
  | .call c => trCall σ P c
  | _ => none
def trMO (σ : Num) (P : Program) (nt : Nat) (ops : Array Oper) (o : Oper) (uno : List Nat) : Option MO :=
  if !o.dst.all (· < nt) then none else
  match trOp σ P o with
  | some op => match o.guard with
    | none => some { dst := o.dst, op, uno }
    | some (j, want) => match (ops[j]?).bind (·.dst) with
      | some t => some { dst := o.dst, op, guard := some (t, want), uno }
      | none => none
  | none => none
def trOps (σ : Num) (P : Program) (nt : Nat) (ops : Array Oper) (uno : Nat → List Nat) : Nat → List Oper → Option (List MO)
  | _, [] => some []
  | j, o :: r => match trMO σ P nt ops o (uno j), trOps σ P nt ops uno (j + 1) r with
    | some m, some l => some (m :: l)
    | _, _ => none
def edgesOf (o : Oper) : List Nat := o.after.toList.filterMap fun e => if Region.binds .any e then some e.on else none
def ancGo : List Oper → List Nat → List Nat
  | [], acc => acc
  | o :: r, acc => ancGo r (acc ++ [(edgesOf o).foldl (fun s k => s ||| 2 ^ k ||| acc.getD k 0) 0])
def pairOK (A : List Nat) (x y : MO) (i j : Nat) : Bool :=
  i == j || (
    (match x.dst with | none => true | some d => y.dst != some d && (!(y.reads.contains d) || (A.getD j 0).testBit i || (A.getD i 0).testBit j)) &&
    (!(x.op.mem && y.op.mem) || x.uno.contains j || (A.getD j 0).testBit i || (A.getD i 0).testBit j))
def drawOK (ops : List Oper) (mos : List MO) : Bool :=
  let A := ancGo ops []
  (ops.zipIdx.all fun (o, i) => (edgesOf o).all (· < i)) &&
  (mos.zipIdx.all fun (x, i) => mos.zipIdx.all fun (y, j) => pairOK A x y i j)
def firstReg : Code → Nat
  | .region id _ _ => id
  | .seq a _ => firstReg a
  | .cond _ a _ => firstReg a
  | .block _ c => firstReg c
  | .loop c => firstReg c
  | .scope c => firstReg c
  | _ => 0
def trC (σ : Num) (P : Program) (nt : Nat) (kill : Nat → List Nat) (uno : Nat → Nat → List Nat) (live : Nat → List Nat × List Nat) : Code → Option MC
  | .skip => some .skip
  | .region id ops draw => match trOps σ P nt ops (uno id) 0 ops.toList with
    | some l => if draw && !drawOK ops.toList l then none else some (.reg l draw (kill id))
    | none => none
  | .seq a b => match trC σ P nt kill uno live a, trC σ P nt kill uno live b with
    | some x, some y => some (.seq x y)
    | _, _ => none
  | .cond c a b => match trAr σ c, trC σ P nt kill uno live a, trC σ P nt kill uno live b with
    | some c, some x, some y => some (.cond c x y)
    | _, _, _ => none
  | .block id c => (trC σ P nt kill uno live c).map (.block id)
  | .loop c => (trC σ P nt kill uno live c).map (.loop (firstReg c) (live (firstReg c)).1 (live (firstReg c)).2)
  | .exit id => some (.exit id)
  | .ret => some .ret
  | .refuse _ => some .bad
  | _ => none
def trRV (P : Program) : ResultVar → Option RV
  | .tmp t => some (.tmp t)
  | .cell a t => match isAg P t with
    | some ag => if 0 < P.cellsOf t ∧ (ag = true ∨ P.cellsOf t = 1) then some (.cell ag (P.cellsOf t) a) else none
    | none => none
def trRVs (P : Program) : List ResultVar → Option (List RV)
  | [] => some []
  | r :: l => match trRV P r, trRVs P l with
    | some x, some y => some (x :: y)
    | _, _ => none
def trF (σ : Num) (P : Program) (kill : Nat → List Nat) (uno : Nat → Nat → List Nat) (live : Nat → List Nat × List Nat) (fz : Option (List (List Nat))) (fn : Func) : Option MF :=
  match fn.body with
  | none => none
  | some c => match trC σ P fn.ntmps kill uno live c, trRVs P fn.results.toList with
    | some m, some rs => if fn.nfree + fn.params.size ≤ fn.ntmps then some (.code (fn.params.size + fn.nfree) m (match fz with | some z => .fz z :: rs | none => rs)) else none
    | _, _ => none
end Go.Rv
namespace Go.Rv
def lawContains : List AV → Option AV
  | [.s a, .s [c]] => some (.b (decide (0 ≤ Lib.indexByte a c)))
  | _ => none
def lawContainsAny : List AV → Option AV
  | [.s a, .s b] => bif a.all (fun x => decide (x.toNat < 128)) && decide (a.length ≤ 8) && decide (2 ≤ b.length) then some (.b (Lib.containsAny a b)) else none
  | _ => none
def lawCut : List AV → Option AV
  | [.s a, .s [c]] => bif decide (a.length < 1000000) then (bif decide (0 ≤ Lib.indexByte a c) then some (.tup [.s (a.take (Lib.indexByte a c).toNat), .s (a.drop ((Lib.indexByte a c).toNat + 1)), .b true]) else some (.tup [.s a, .s [], .b false])) else none
  | _ => none
end Go.Rv
namespace Go.Rv
def hcell (h : Array Obj) (b o : Nat) : Option Value :=
  match h[b]? with
  | some (.cells c _ _) => c[o]?
  | _ => none
theorem cell?_eq (w : World) (b o : Nat) : w.cell? ⟨b, o, none⟩ = hcell w.heap b o := by
  unfold World.cell? hcell; simp; split <;> simp_all
def cxBits (a : Int) : Nat := match (Conv.intToFloat .f64 a).run default default with
  | .ok (.float _ b) _ => b
  | _ => 0
inductive VI (σ : Num) (im : Nat → Prop) (h : Array Obj) : AV → Value → Prop
  | u {v : Value} : VI σ im h .u v
  | b {x : Bool} : VI σ im h (.b x) (.bool x)
  | i {k : IntKind} {n : Int} : VI σ im h (.i k n) (.int k n)
  | s {x : ByteArray} {l : List UInt8} : l = x.data.toList → VI σ im h (.s l) (.string x)
  | cx {a b : Int} : VI σ im h (.cx a b) (.complex .f64 (cxBits a) (cxBits b))
  | np : VI σ im h .np (.pointer none)
  | ref {cs : List AV} {o b off : Nat} : im b →
      (∀ j, j < cs.length → ∃ v, hcell h b (off + j) = some v ∧ v.oneCell' = true) →
      (∀ j c v, cs[j]? = some c → hcell h b (off + j) = some v → VI σ im h c v) →
      VI σ im h (.ref cs o) (.pointer (some ⟨b, off + o, none⟩))
  | nil {ti : Bool} {z : Nat} : VI σ im h (.lst true ti z []) (.slice none 0 0)
  | lst {ti : Bool} {z b off cap : Nat} {xs : List (List AV)} : (xs ≠ [] → im b) →
      (∀ (x : Nat) (e : List AV), xs[x]? = some e → e.length = z) →
      (∀ (x o : Nat), x < xs.length → o < z → ∃ v, hcell h b (off + (x * z + o)) = some v ∧ v.oneCell' = true) →
      (∀ (x : Nat) (e : List AV) (o : Nat) (c : AV) (v : Value), xs[x]? = some e → e[o]? = some c → hcell h b (off + (x * z + o)) = some v → VI σ im h c v) →
      xs.length ≤ cap → (ti = true → cap = xs.length) →
      VI σ im h (.lst false ti z xs) (.slice (some ⟨b, off, none⟩) xs.length cap)
  | agg {cs : List AV} {vs : Array Value} : cs.length = vs.size → (∀ (j : Nat) (v : Value), vs[j]? = some v → v.oneCell' = true) →
      (∀ (j : Nat) (c : AV) (v : Value), cs[j]? = some c → vs[j]? = some v → VI σ im h c v) →
      VI σ im h (.agg cs) (.agg vs)
  | tup {cs : List AV} {vs : Array Value} : cs.length = vs.size →
      (∀ (j : Nat) (c : AV) (v : Value), cs[j]? = some c → vs[j]? = some v → VI σ im h c v) →
      VI σ im h (.tup cs) (.tuple vs)
  | fn {cs : List AV} {vs : Array Value} {f g : Nat} : σ f = some g → cs.length = vs.size →
      (∀ (j : Nat) (c : AV) (v : Value), cs[j]? = some c → vs[j]? = some v → VI σ im h c v) →
      VI σ im h (.fn g cs) (.func (.func f) #[] vs)
structure OB where
  b : Nat
  m : Nat
  s : Nat
  z : Nat
abbrev Own := Nat → Option OB
inductive VR (σ : Num) (im : Nat → Prop) (h : Array Obj) (own : Own) : AV → Value → Prop
  | imm {a : AV} {v : Value} : VI σ im h a v → VR σ im h own a v
  | ptr {id n z x o b : Nat} {ob : OB} : own id = some ob → ob.z = z → 0 < z → n ≤ ob.m → (n = ob.m → b = ob.b) →
      VR σ im h own (.ptr id n z x o) (.pointer (some ⟨b, x * z + o, none⟩))
  | sl {id n z lo len b cap : Nat} {ob : OB} : own id = some ob → ob.z = z → 0 < z → n ≤ ob.m → lo + len ≤ n → len ≤ cap →
      (n = ob.m → b = ob.b ∧ (lo + cap) * z ≤ ob.s) →
      VR σ im h own (.sl id n z lo len) (.slice (some ⟨b, lo * z, none⟩) len cap)
  | as {id n z x o k len b cap : Nat} {ob : OB} : own id = some ob → ob.z = z → 0 < z → n ≤ ob.m → o + len * k ≤ z → len ≤ cap → (n = ob.m → b = ob.b) →
      VR σ im h own (.as id n z x o k len) (.slice (some ⟨b, x * z + o, none⟩) len cap)
  | mp {id : Nat} {ob : OB} : own id = some ob → ob.z = 0 → VR σ im h own (.mp id) (.map (some ob.b))
  | agg {cs : List AV} {vs : Array Value} : cs.length = vs.size → (∀ (j : Nat) (v : Value), vs[j]? = some v → v.oneCell' = true) →
      (∀ (j : Nat) (c : AV) (v : Value), cs[j]? = some c → vs[j]? = some v → VR σ im h own c v) →
      VR σ im h own (.agg cs) (.agg vs)
  | tup {cs : List AV} {vs : Array Value} : cs.length = vs.size →
      (∀ (j : Nat) (c : AV) (v : Value), cs[j]? = some c → vs[j]? = some v → VR σ im h own c v) →
      VR σ im h own (.tup cs) (.tuple vs)
  | fn {cs : List AV} {vs : Array Value} {f g : Nat} : σ f = some g → cs.length = vs.size →
      (∀ (j : Nat) (c : AV) (v : Value), cs[j]? = some c → vs[j]? = some v → VR σ im h own c v) →
      VR σ im h own (.fn g cs) (.func (.func f) #[] vs)
def Own.le (own own' : Own) : Prop :=
  ∀ id ob, own id = some ob → ∃ ob', own' id = some ob' ∧ ob'.z = ob.z ∧ ob.m ≤ ob'.m ∧ (ob.m = ob'.m → ob'.b = ob.b ∧ ob'.s = ob.s) ∧ (ob.z = 0 → ob'.b = ob.b)
theorem Own.le_refl (own : Own) : own.le own := fun _ ob h => ⟨ob, h, rfl, Nat.le_refl _, fun _ => ⟨rfl, rfl⟩, fun _ => rfl⟩
theorem Own.le_trans {a b c : Own} (h : a.le b) (k : b.le c) : a.le c := fun id ob e => by
  obtain ⟨o1, e1, z1, m1, s1, q1⟩ := h id ob e
  obtain ⟨o2, e2, z2, m2, s2, q2⟩ := k id o1 e1
  refine ⟨o2, e2, z2.trans z1, Nat.le_trans m1 m2, fun hm => ?_, fun hz => (q2 (z1.trans hz)).trans (q1 hz)⟩
  have h1 : ob.m = o1.m := by omega
  have h2 : o1.m = o2.m := by omega
  exact ⟨(s2 h2).1.trans (s1 h1).1, (s2 h2).2.trans (s1 h1).2⟩
section
variable {σ : Num} {im im' : Nat → Prop} {h h' : Array Obj} {own own' : Own}
theorem hcell_same {b : Nat} (e : h'[b]? = h[b]?) (o : Nat) : hcell h' b o = hcell h b o := by unfold hcell; rw [e]
theorem VI.mono (hi : ∀ b, im b → im' b) (hh : ∀ b, im b → h'[b]? = h[b]?) {a : AV} {v : Value} (r : VI σ im h a v) : VI σ im' h' a v := by
  induction r with
  | u => exact .u
  | b => exact .b
  | i => exact .i
  | s e => exact .s e
  | cx => exact .cx
  | np => exact .np
  | nil => exact .nil
  | ref hb hx _ ih =>
    refine .ref (hi _ hb) (fun j hj => ?_) fun j c v hj hv => ?_
    · rw [hcell_same (hh _ hb)]; exact hx j hj
    · rw [hcell_same (hh _ hb)] at hv; exact ih j c v hj hv
  | lst hb hz hx _ hc ht ih =>
    refine .lst (fun hx => hi _ (hb hx)) hz (fun x o hl ho => ?_) (fun x e o c v he hc hv => ?_) hc ht
    · rw [hcell_same (hh _ (hb (by intro e0; simp [e0] at hl)))]; exact hx x o hl ho
    · rw [hcell_same (hh _ (hb (by intro e0; simp [e0] at he)))] at hv; exact ih x e o c v he hc hv
  | agg hl h1 _ ih => exact .agg hl h1 ih
  | tup hl _ ih => exact .tup hl ih
  | fn hf hl _ ih => exact .fn hf hl ih
theorem VR.mono (hi : ∀ b, im b → im' b) (hh : ∀ b, im b → h'[b]? = h[b]?) (ho : own.le own') {a : AV} {v : Value} (r : VR σ im h own a v) :
    VR σ im' h' own' a v := by
  induction r with
  | imm r => exact .imm (r.mono hi hh)
  | ptr e ez hz hn hv =>
    obtain ⟨o', e', z', m', s', q'⟩ := ho _ _ e
    exact .ptr e' (z'.trans ez) hz (Nat.le_trans hn m') fun hm => by rw [(s' (by omega)).1]; exact hv (by omega)
  | sl e ez hz hn hl hc hv =>
    obtain ⟨o', e', z', m', s', q'⟩ := ho _ _ e
    exact .sl e' (z'.trans ez) hz (Nat.le_trans hn m') hl hc fun hm => by rw [(s' (by omega)).1, (s' (by omega)).2]; exact hv (by omega)
  | as e ez hz hn hl hc hv =>
    obtain ⟨o', e', z', m', s', q'⟩ := ho _ _ e
    exact .as e' (z'.trans ez) hz (Nat.le_trans hn m') hl hc fun hm => by rw [(s' (by omega)).1]; exact hv (by omega)
  | mp e ez =>
    obtain ⟨o', e', z', m', s', q'⟩ := ho _ _ e
    rw [← q' ez]; exact .mp e' (z'.trans ez)
  | agg hl h1 _ ih => exact .agg hl h1 ih
  | tup hl _ ih => exact .tup hl ih
  | fn hf hl _ ih => exact .fn hf hl ih
theorem VR.b_inv {x : Bool} {v : Value} (r : VR σ im h own (.b x) v) : v = .bool x := by cases r with | imm r => cases r; rfl
theorem VR.i_inv {k : IntKind} {n : Int} {v : Value} (r : VR σ im h own (.i k n) v) : v = .int k n := by cases r with | imm r => cases r; rfl
theorem VR.s_inv {l : List UInt8} {v : Value} (r : VR σ im h own (.s l) v) : ∃ x : ByteArray, v = .string x ∧ l = x.data.toList := by
  cases r with | imm r => cases r with | s e => exact ⟨_, rfl, e⟩
theorem VR.agg_inv {cs : List AV} {v : Value} (r : VR σ im h own (.agg cs) v) : ∃ vs, v = .agg vs ∧ cs.length = vs.size ∧ (∀ (j : Nat) (v : Value), vs[j]? = some v → v.oneCell' = true) ∧
    ∀ (j : Nat) (c : AV) (v : Value), cs[j]? = some c → vs[j]? = some v → VR σ im h own c v := by
  cases r with
  | imm r => cases r with | agg hl h1 hc => exact ⟨_, rfl, hl, h1, fun j c v a b => .imm (hc j c v a b)⟩
  | agg hl h1 hc => exact ⟨_, rfl, hl, h1, hc⟩
theorem VR.tup_inv {cs : List AV} {v : Value} (r : VR σ im h own (.tup cs) v) : ∃ vs, v = .tuple vs ∧ cs.length = vs.size ∧
    ∀ (j : Nat) (c : AV) (v : Value), cs[j]? = some c → vs[j]? = some v → VR σ im h own c v := by
  cases r with
  | imm r => cases r with | tup hl hc => exact ⟨_, rfl, hl, fun j c v a b => .imm (hc j c v a b)⟩
  | tup hl hc => exact ⟨_, rfl, hl, hc⟩
theorem VR.fn_inv {g : Nat} {cs : List AV} {v : Value} (r : VR σ im h own (.fn g cs) v) : ∃ f vs, v = .func (.func f) #[] vs ∧ σ f = some g ∧ cs.length = vs.size ∧
    ∀ (j : Nat) (c : AV) (v : Value), cs[j]? = some c → vs[j]? = some v → VR σ im h own c v := by
  cases r with
  | imm r => cases r with | fn hf hl hc => exact ⟨_, _, rfl, hf, hl, fun j c v a b => .imm (hc j c v a b)⟩
  | fn hf hl hc => exact ⟨_, _, rfl, hf, hl, hc⟩
theorem VR.lst_inv {nl ti : Bool} {z : Nat} {xs : List (List AV)} {v : Value} (r : VR σ im h own (.lst nl ti z xs) v) : VI σ im h (.lst nl ti z xs) v := by
  cases r with | imm r => exact r
theorem VR.ref_inv {cs : List AV} {o : Nat} {v : Value} (r : VR σ im h own (.ref cs o) v) : VI σ im h (.ref cs o) v := by
  cases r with | imm r => exact r
theorem VR.cx_inv {a b : Int} {v : Value} (r : VR σ im h own (.cx a b) v) : v = .complex .f64 (cxBits a) (cxBits b) := by
  cases r with | imm r => cases r; rfl
theorem VR.ptr_inv {id n z x o : Nat} {v : Value} (r : VR σ im h own (.ptr id n z x o) v) : ∃ ob b, own id = some ob ∧ ob.z = z ∧ 0 < z ∧ n ≤ ob.m ∧
    (n = ob.m → b = ob.b) ∧ v = .pointer (some ⟨b, x * z + o, none⟩) := by
  cases r with
  | imm r => cases r
  | ptr e ez hz hn hv => exact ⟨_, _, e, ez, hz, hn, hv, rfl⟩
theorem VR.sl_inv {id n z lo len : Nat} {v : Value} (r : VR σ im h own (.sl id n z lo len) v) : ∃ ob b cap, own id = some ob ∧ ob.z = z ∧ 0 < z ∧ n ≤ ob.m ∧ lo + len ≤ n ∧ len ≤ cap ∧
    (n = ob.m → b = ob.b ∧ (lo + cap) * z ≤ ob.s) ∧ v = .slice (some ⟨b, lo * z, none⟩) len cap := by
  cases r with
  | imm r => cases r
  | sl e ez hz hn hl hc hv => exact ⟨_, _, _, e, ez, hz, hn, hl, hc, hv, rfl⟩
theorem VR.as_inv {id n z x o k len : Nat} {v : Value} (r : VR σ im h own (.as id n z x o k len) v) : ∃ ob b cap, own id = some ob ∧ ob.z = z ∧ 0 < z ∧ n ≤ ob.m ∧ o + len * k ≤ z ∧ len ≤ cap ∧
    (n = ob.m → b = ob.b) ∧ v = .slice (some ⟨b, x * z + o, none⟩) len cap := by
  cases r with
  | imm r => cases r
  | as e ez hz hn hl hc hv => exact ⟨_, _, _, e, ez, hz, hn, hl, hc, hv, rfl⟩
theorem VR.mp_inv {id : Nat} {v : Value} (r : VR σ im h own (.mp id) v) : ∃ ob, own id = some ob ∧ ob.z = 0 ∧ v = .map (some ob.b) := by
  cases r with
  | imm r => cases r
  | mp e ez => exact ⟨_, e, ez, rfl⟩
theorem VR.cells {a : AV} {cs : List AV} {v : Value} (hc : a.cells? = some cs) (r : VR σ im h own a v) :
    cs.length = v.cells.size ∧ (∀ (j : Nat) (v' : Value), v.cells[j]? = some v' → v'.oneCell' = true) ∧
      ∀ (j : Nat) (c : AV) (v' : Value), cs[j]? = some c → v.cells[j]? = some v' → VR σ im h own c v' := by
  have one : ∀ (hv : v.oneCell' = true) (e : cs = [a]), cs.length = v.cells.size ∧ (∀ (j : Nat) (v' : Value), v.cells[j]? = some v' → v'.oneCell' = true) ∧
      ∀ (j : Nat) (c : AV) (v' : Value), cs[j]? = some c → v.cells[j]? = some v' → VR σ im h own c v' := by
    intro hv e
    have hcv : v.cells = #[v] := by cases v <;> first | rfl | simp [Value.oneCell'] at hv
    subst e
    refine ⟨by simp [hcv], fun j v' hj => ?_, fun j c v' hj hv' => ?_⟩
    · rw [hcv] at hj; cases j with
      | zero => simp at hj; exact hj ▸ hv
      | succ j => simp at hj
    · rw [hcv] at hv'; cases j with
      | zero => simp at hj hv'; exact hj ▸ hv' ▸ r
      | succ j => simp at hj
  cases a with
  | agg cs' =>
    simp only [AV.cells?, Option.some.injEq] at hc; subst hc
    obtain ⟨vs, rfl, hl, h1, hc⟩ := r.agg_inv
    exact ⟨hl, h1, hc⟩
  | u => simp [AV.cells?] at hc
  | tup => simp [AV.cells?] at hc
  | mv => simp [AV.cells?] at hc
  | b x => exact one (by rw [r.b_inv]; rfl) (by simpa [AV.cells?] using hc.symm)
  | i k n => exact one (by rw [r.i_inv]; rfl) (by simpa [AV.cells?] using hc.symm)
  | s l => obtain ⟨x, rfl, _⟩ := r.s_inv; exact one rfl (by simpa [AV.cells?] using hc.symm)
  | cx a b => exact one (by rw [r.cx_inv]; rfl) (by simpa [AV.cells?] using hc.symm)
  | np => cases r with | imm r => cases r; exact one rfl (by simpa [AV.cells?] using hc.symm)
  | ptr => obtain ⟨_, _, _, _, _, _, _, rfl⟩ := r.ptr_inv; exact one rfl (by simpa [AV.cells?] using hc.symm)
  | ref => have := r.ref_inv; cases this; exact one rfl (by simpa [AV.cells?] using hc.symm)
  | lst => have := r.lst_inv; cases this <;> exact one rfl (by simpa [AV.cells?] using hc.symm)
  | sl => obtain ⟨_, _, _, _, _, _, _, _, _, _, rfl⟩ := r.sl_inv; exact one rfl (by simpa [AV.cells?] using hc.symm)
  | as => obtain ⟨_, _, _, _, _, _, _, _, _, _, rfl⟩ := r.as_inv; exact one rfl (by simpa [AV.cells?] using hc.symm)
  | fn => obtain ⟨_, _, rfl, _⟩ := r.fn_inv; exact one rfl (by simpa [AV.cells?] using hc.symm)
  | mp => obtain ⟨_, _, _, rfl⟩ := r.mp_inv; exact one rfl (by simpa [AV.cells?] using hc.symm)
end
end Go.Rv
namespace Go.Rv
def Blk.len : Blk → Nat
  | .row _ _ _ xs => xs.length
  | .map _ => 0
def Blk.sz : Blk → Nat
  | .row z _ _ _ => z
  | .map _ => 0
def isRow : Blk → Bool
  | .row .. => true
  | .map _ => false
inductive PR : AV → Value → Prop
  | b {x : Bool} : PR (.b x) (.bool x)
  | i {k : IntKind} {n : Int} : PR (.i k n) (.int k n)
def BR (σ : Num) (im : Nat → Prop) (h : Array Obj) (own : Own) (ob : OB) : Blk → Prop
  | .row z p imf xs => ob.m = xs.length ∧ ob.z = z ∧ 0 < z ∧ (∀ (x : Nat) (e : List AV), xs[x]? = some e → e.length = z) ∧
      (p = true → ∀ e ∈ xs, ownL e = false) ∧ (im ob.b ↔ imf = true) ∧
      ∃ cells ty, h[ob.b]? = some (.cells cells ty (0, 0)) ∧ cells.size = ob.s ∧ xs.length * z ≤ ob.s ∧
        (∀ (j : Nat) (v : Value), j < xs.length * z → cells[j]? = some v → v.oneCell' = true) ∧
        (∀ (x : Nat) (e : List AV) (o : Nat) (c : AV) (v : Value), xs[x]? = some e → e[o]? = some c → cells[x * z + o]? = some v → VR σ im h own c v)
  | .map es => ob.m = 0 ∧ ob.z = 0 ∧ ¬ im ob.b ∧ ∃ ents clk, h[ob.b]? = some (.map ents clk) ∧ es.length = ents.size ∧
      ∀ (j : Nat) (k v : AV) (e : MapEntry), es[j]? = some (k, v) → ents[j]? = some e → PR k e.key ∧ PR v e.val
structure KeepX (lm : Nat → Prop) (B : Nat) (w w' : World) : Prop where
  os : w'.os = w.os
  tape : w'.tape = w.tape
  output : w'.output = w.output
  size : w.heap.size ≤ w'.heap.size
  block : ∀ k, k < B → ¬ lm k → w'.heap[k]? = w.heap[k]?
theorem KeepX.refl (lm : Nat → Prop) (B : Nat) (w : World) : KeepX lm B w w := ⟨rfl, rfl, rfl, Nat.le_refl _, fun _ _ _ => rfl⟩
theorem KeepX.trans {lm : Nat → Prop} {B : Nat} {a b c : World} (h : KeepX lm B a b) (k : KeepX lm B b c) : KeepX lm B a c :=
  ⟨k.os.trans h.os, k.tape.trans h.tape, k.output.trans h.output, Nat.le_trans h.size k.size, fun i hi hl => (k.block i hi hl).trans (h.block i hi hl)⟩
structure GS (σ : Num) (im lm : Nat → Prop) (B : Nat) (w0 : World) (own : Own) (bs : Nat → Option Blk) (w : World) : Prop where
  some_ : ∀ id b, bs id = some b → ∃ ob, own id = some ob ∧ BR σ im w.heap own ob b
  none_ : ∀ id, bs id = none → own id = none
  inj : ∀ i j a b, own i = some a → own j = some b → a.b = b.b → i = j
  lt : ∀ id ob, own id = some ob → ob.b < w.heap.size
  base : ∀ id ob, own id = some ob → B ≤ ob.b ∨ lm ob.b
  rows : ∀ id ob blk, own id = some ob → bs id = some blk → isRow blk = true → B ≤ ob.b
  imlt : ∀ b, im b → b < w.heap.size
  hB : B ≤ w0.heap.size
  keep : KeepX lm B w0 w
def upd {α : Type} (f : Nat → Option α) (id : Nat) (x : α) : Nat → Option α := fun j => if j = id then some x else f j
@[simp] theorem upd_same {α : Type} (f : Nat → Option α) (id : Nat) (x : α) : upd f id x id = some x := by simp [upd]
theorem upd_ne {α : Type} (f : Nat → Option α) {id j : Nat} (x : α) (h : j ≠ id) : upd f id x j = f j := by simp [upd, h]
section
variable {σ : Num} {im im' lm : Nat → Prop} {h h' : Array Obj} {own own' : Own} {B : Nat} {w0 w w' : World} {bs : Nat → Option Blk}
theorem BR.mono {ob : OB} {b : Blk} (hi : ∀ b, im b → im' b) (hh : ∀ b, im b → h'[b]? = h[b]?) (ho : own.le own') (hb : h'[ob.b]? = h[ob.b]?) (hm : im' ob.b → im ob.b)
    (r : BR σ im h own ob b) : BR σ im' h' own' ob b := by
  cases b with
  | row z p imf xs =>
    obtain ⟨h1, h2, h3, h4, h5, h6, cells, ty, h7, h8, h9, h10, h11⟩ := r
    exact ⟨h1, h2, h3, h4, h5, ⟨fun x => h6.1 (hm x), fun x => hi _ (h6.2 x)⟩, cells, ty, hb.trans h7, h8, h9, h10, fun x e o c v a b d => (h11 x e o c v a b d).mono hi hh ho⟩
  | map es =>
    obtain ⟨h1, h2, h3, ents, clk, h4, h5, h6⟩ := r
    exact ⟨h1, h2, fun x => h3 (hm x), ents, clk, hb.trans h4, h5, h6⟩
theorem GS.set1 (g : GS σ im lm B w0 own bs w) {id : Nat} {ob' : OB} {b' : Blk} (hsize : w.heap.size ≤ w'.heap.size) (hlt : ob'.b < w'.heap.size)
    (hother : ∀ b, b < w.heap.size → b ≠ ob'.b → w'.heap[b]? = w.heap[b]?)
    (hat : w.heap.size ≤ ob'.b ∨ ∃ ob blk, own id = some ob ∧ ob.b = ob'.b ∧ bs id = some blk ∧ isRow blk = isRow b')
    (hle : own.le (upd own id ob')) (him : ¬ im ob'.b) (hbr : BR σ im w'.heap (Rv.upd own id ob') ob' b')
    (hos : w'.os = w.os) (htape : w'.tape = w.tape) (hout : w'.output = w.output) :
    GS σ im lm B w0 (Rv.upd own id ob') (Rv.upd bs id b') w' := by
  have himh : ∀ b, im b → w'.heap[b]? = w.heap[b]? := fun b hb => hother b (g.imlt b hb) (fun e => him (e ▸ hb))
  have hne : ∀ j a, own j = some a → j ≠ id → a.b ≠ ob'.b := by
    intro j a hj hji e
    rcases hat with h1 | ⟨ob, blk, h1, h2, h3, h4⟩
    · have := g.lt j a hj; omega
    · exact hji (g.inj j id a ob hj h1 (e.trans h2.symm))
  refine ⟨fun j b hj => ?_, fun j hj => ?_, fun i j a b hi hj e => ?_, fun j ob hj => ?_, fun j ob hj => ?_, fun j ob blk hj hb hr => ?_, fun b hb => Nat.lt_of_lt_of_le (g.imlt b hb) hsize, g.hB, ?_⟩
  · by_cases e : j = id
    · subst e; simp only [upd_same, Option.some.injEq] at hj; subst hj
      exact ⟨ob', by simp, hbr⟩
    · rw [upd_ne _ _ e] at hj
      obtain ⟨ob, h1, h2⟩ := g.some_ j b hj
      refine ⟨ob, by rw [upd_ne _ _ e]; exact h1, h2.mono (fun _ x => x) himh hle (hother _ (g.lt _ _ h1) (hne j ob h1 e)) (fun x => x)⟩
  · by_cases e : j = id
    · subst e; simp at hj
    · rw [upd_ne _ _ e] at hj ⊢; exact g.none_ j hj
  · by_cases ei : i = id <;> by_cases ej : j = id
    · exact ei.trans ej.symm
    · subst ei; simp only [upd_same, Option.some.injEq] at hi; subst hi
      rw [upd_ne _ _ ej] at hj
      exact absurd e.symm (hne j b hj ej)
    · subst ej; simp only [upd_same, Option.some.injEq] at hj; subst hj
      rw [upd_ne _ _ ei] at hi
      exact absurd e (hne i a hi ei)
    · rw [upd_ne _ _ ei] at hi; rw [upd_ne _ _ ej] at hj
      exact g.inj i j a b hi hj e
  · by_cases e : j = id
    · subst e; simp only [upd_same, Option.some.injEq] at hj; subst hj; exact hlt
    · rw [upd_ne _ _ e] at hj; exact Nat.lt_of_lt_of_le (g.lt j ob hj) hsize
  · by_cases e : j = id
    · subst e; simp only [upd_same, Option.some.injEq] at hj; subst hj
      rcases hat with h1 | ⟨ob, blk, h1, h2, h3, h4⟩
      · left; have := g.hB; have := g.keep.size; omega
      · rw [← h2]; exact g.base j ob h1
    · rw [upd_ne _ _ e] at hj; exact g.base j ob hj
  · by_cases e : j = id
    · subst e; simp only [upd_same, Option.some.injEq] at hj hb; subst hj hb
      rcases hat with h1 | ⟨ob, blk, h1, h2, h3, h4⟩
      · have := g.hB; have := g.keep.size; omega
      · rw [← h2]; exact g.rows j ob blk h1 h3 (h4.trans hr)
    · rw [upd_ne _ _ e] at hj hb; exact g.rows j ob blk hj hb hr
  · refine g.keep.trans ⟨hos, htape, hout, hsize, fun k hk hl => hother k ?_ ?_⟩
    · have := g.hB; have := g.keep.size; omega
    · intro e
      rcases hat with h1 | ⟨ob, blk, h1, h2, h3, h4⟩
      · have := g.hB; have := g.keep.size; omega
      · rcases g.base id ob h1 with h5 | h5
        · omega
        · exact hl (e ▸ h2 ▸ h5)
theorem Own.le_new {id : Nat} {ob : OB} (h : own id = none) : own.le (upd own id ob) := fun j o hj => by
  have : j ≠ id := by intro e; subst e; rw [h] at hj; cases hj
  exact ⟨o, by rw [upd_ne _ _ this]; exact hj, rfl, Nat.le_refl _, fun _ => ⟨rfl, rfl⟩, fun _ => rfl⟩
theorem Own.le_self {id : Nat} {ob : OB} (h : own id = some ob) : own.le (upd own id ob) := fun j o hj => by
  by_cases e : j = id
  · subst e; rw [h] at hj; cases hj
    exact ⟨ob, by simp, rfl, Nat.le_refl _, fun _ => ⟨rfl, rfl⟩, fun _ => rfl⟩
  · exact ⟨o, by rw [upd_ne _ _ e]; exact hj, rfl, Nat.le_refl _, fun _ => ⟨rfl, rfl⟩, fun _ => rfl⟩
theorem Own.le_grow {id : Nat} {ob ob' : OB} (h : own id = some ob) (hz : ob'.z = ob.z) (h0 : 0 < ob.z) (hm : ob.m < ob'.m) : own.le (upd own id ob') := fun j o hj => by
  by_cases e : j = id
  · subst e; rw [h] at hj; cases hj
    exact ⟨ob', by simp, hz, Nat.le_of_lt hm, fun e => by omega, fun e => by omega⟩
  · exact ⟨o, by rw [upd_ne _ _ e]; exact hj, rfl, Nat.le_refl _, fun _ => ⟨rfl, rfl⟩, fun _ => rfl⟩
theorem upd_self {α : Type} {f : Nat → Option α} {id : Nat} {x : α} (h : f id = some x) : Rv.upd f id x = f := by
  funext j; by_cases e : j = id
  · subst e; simp [h]
  · exact upd_ne _ _ e
theorem GS.new (g : GS σ im lm B w0 own bs w) {id : Nat} (hid : bs id = none) {o : Obj} {s : Nat} {b' : Blk}
    (hbr : BR σ im (w.heap.push o) (Rv.upd own id ⟨w.heap.size, b'.len, s, b'.sz⟩) ⟨w.heap.size, b'.len, s, b'.sz⟩ b') :
    GS σ im lm B w0 (Rv.upd own id ⟨w.heap.size, b'.len, s, b'.sz⟩) (Rv.upd bs id b') (w.alloc o) :=
  g.set1 (by simp) (by simp) (fun b hb hne => by show (w.heap.push o)[b]? = _; rw [Array.getElem?_push, if_neg (Nat.ne_of_lt hb)]) (.inl (Nat.le_refl _)) (Own.le_new (g.none_ id hid))
    (fun hi => Nat.lt_irrefl _ (g.imlt _ hi)) hbr rfl rfl rfl
theorem GS.im_push (g : GS σ im lm B w0 own bs w) (o : Obj) : ∀ b, im b → (w.heap.push o)[b]? = w.heap[b]? := fun b hb => by
  simp [Array.getElem?_push, Nat.ne_of_lt (g.imlt b hb)]
theorem GS.drew (g : GS σ im lm B w0 own bs w) : GS σ im lm B w0 own bs { w with drawn := w.drawn + 1 } :=
  ⟨g.some_, g.none_, g.inj, g.lt, g.base, g.rows, g.imlt, g.hB, g.keep.trans ⟨rfl, rfl, rfl, Nat.le_refl _, fun _ _ _ => rfl⟩⟩
end
end Go.Rv
namespace Go.Rv
section types
variable {P : Program} {w : World} {t : TypeId}
theorem run_und {d : TypeDesc} (h : P.underlying t = some d) : (underlying t).run P w = .ok d w := by simp [underlying, h]
theorem run_ti {i : TypeInfo} (h : P.info? t = some i) : (typeInfo t).run P w = .ok i w := by simp [typeInfo, h]
theorem info_of_cells (h : 0 < P.cellsOf t) : ∃ i, P.info? t = some i ∧ i.size = P.cellsOf t := by
  unfold Program.cellsOf at *
  cases hi : P.info? t with
  | none => simp [hi] at h
  | some i => exact ⟨i, rfl, by simp⟩
theorem run_size (h : 0 < P.cellsOf t) : (sizeOf t).run P w = .ok (P.cellsOf t) w := by
  obtain ⟨i, hi, hs⟩ := info_of_cells h
  simp [sizeOf, run_ti hi, hs]
theorem run_isAg {ag : Bool} (h : isAg P t = some ag) : (isAgg t).run P w = .ok ag w := by
  unfold isAg at h
  cases hu : P.underlying t with
  | none => simp [hu] at h
  | some d => cases d <;> simp [hu] at h <;> subst h <;> simp [isAgg, run_und hu]
end types
theorem cxBits_zero : cxBits 0 = 0 := by kernel_rfl
section
variable {σ : Num} {im : Nat → Prop} {h : Array Obj} {own : Own}
theorem oneCell_eq (v : Value) : (match v with | .agg _ | .tuple _ => false | _ => true) = v.oneCell' := by cases v <;> rfl
mutual
theorem ofVal_ok : ∀ (d : Nat) (v : Value) (a : AV), ofVal d v = some a → VI σ im h a v
  | 0, v, a, e => by simp [ofVal] at e
  | d + 1, v, a, e => by
    cases v with
    | bool x => simp [ofVal] at e; subst e; exact .b
    | int k n => simp [ofVal] at e; subst e; exact .i
    | float => simp [ofVal] at e
    | complex k x y =>
      cases k with
      | f32 => simp [ofVal] at e
      | f64 =>
        unfold ofVal at e
        split at e <;> simp_all
        · obtain ⟨rfl, rfl⟩ := ‹_ ∧ _›
          subst e
          have := @VI.cx σ im h 0 0
          rw [cxBits_zero] at this; exact this
    | string s => simp [ofVal] at e; subst e; exact .s rfl
    | pointer p => cases p with
      | none => simp [ofVal] at e; subst e; exact .np
      | some => simp [ofVal] at e
    | slice p l c =>
      unfold ofVal at e
      split at e <;> simp_all
      · obtain ⟨rfl, rfl, rfl⟩ := ‹_ ∧ _ ∧ _›
        subst e; exact .nil
    | map => simp [ofVal] at e
    | chan => simp [ofVal] at e
    | func => simp [ofVal] at e
    | nilFunc => simp [ofVal] at e
    | iface => simp [ofVal] at e
    | nilIface => simp [ofVal] at e
    | agg cs =>
      simp only [ofVal] at e
      split at e
      · rename_i hall
        cases hl : ofVals d cs.toList with
        | none => simp [hl] at e
        | some l =>
          simp [hl] at e; subst e
          obtain ⟨h1, h2⟩ := ofVals_ok d cs.toList l hl
          refine .agg (by simpa using h1) (fun j v hj => ?_) fun j c v hj hv => h2 j c v hj (by simpa using hv)
          have hm : v ∈ cs.toList := List.mem_of_getElem? (by simpa using hj)
          have := List.all_eq_true.1 hall v hm
          rw [← oneCell_eq]; exact this
      · simp at e
    | tuple cs =>
      simp only [ofVal] at e
      cases hl : ofVals d cs.toList with
      | none => simp [hl] at e
      | some l =>
        simp [hl] at e; subst e
        obtain ⟨h1, h2⟩ := ofVals_ok d cs.toList l hl
        exact .tup (by simpa using h1) fun j c v hj hv => h2 j c v hj (by simpa using hv)
theorem ofVals_ok : ∀ (d : Nat) (vs : List Value) (l : List AV), ofVals d vs = some l → l.length = vs.length ∧ ∀ (j : Nat) (c : AV) (v : Value), l[j]? = some c → vs[j]? = some v → VI σ im h c v
  | d, [], l, e => by
    have : l = [] := by cases d <;> simpa [ofVals] using e.symm
    subst this; simp
  | 0, v :: r, l, e => by simp [ofVals] at e
  | d + 1, v :: r, l, e => by
    simp only [ofVals] at e
    cases h1 : ofVal d v with
    | none => simp [h1] at e
    | some a =>
      cases h2 : ofVals d r with
      | none => simp [h1, h2] at e
      | some l' =>
        simp [h1, h2] at e; subst e
        obtain ⟨h3, h4⟩ := ofVals_ok d r l' h2
        refine ⟨by simp [h3], fun j c v' hj hv => ?_⟩
        cases j with
        | zero => simp at hj hv; subst hj; subst hv; exact ofVal_ok d v a h1
        | succ j => exact h4 j c v' (by simpa using hj) (by simpa using hv)
end
def FR (σ : Num) (im : Nat → Prop) (h : Array Obj) (own : Own) (fr : Fr) (tmps : Array Value) : Prop := ∀ t, VR σ im h own (fr.get t) (tmps.getD t undef)
variable {fr : Fr} {a : Act}
theorem ar_ok (hf : FR σ im h own fr a.tmps) {x : Operand} {r : Ar} (e : trAr σ x = some r) : VR σ im h own (ev1 fr r) (a.eval x) := by
  cases x with
  | tmp t => simp [trAr] at e; subst e; exact hf t
  | const v =>
    simp only [trAr, Option.map_eq_some_iff] at e
    obtain ⟨av, h1, rfl⟩ := e
    exact .imm (ofVal_ok _ _ _ h1)
  | global g => simp [trAr] at e
  | func f =>
    simp only [trAr, Option.map_eq_some_iff] at e
    obtain ⟨g, h1, rfl⟩ := e
    exact .imm (.fn h1 rfl (by simp))
theorem ars_ok (hf : FR σ im h own fr a.tmps) : ∀ {xs : List Operand} {rs : List Ar}, trArs σ xs = some rs →
    rs.length = xs.length ∧ ∀ (j : Nat) (c : AV) (v : Value), (rs.map (ev1 fr))[j]? = some c → (xs.map a.eval)[j]? = some v → VR σ im h own c v
  | [], rs, e => by simp [trArs] at e; subst e; simp
  | x :: r, rs, e => by
    simp only [trArs] at e
    cases h1 : trAr σ x with
    | none => simp [h1] at e
    | some y =>
      cases h2 : trArs σ r with
      | none => simp [h1, h2] at e
      | some l =>
        simp [h1, h2] at e; subst e
        obtain ⟨h3, h4⟩ := ars_ok hf h2
        refine ⟨by simp [h3], fun j c v hj hv => ?_⟩
        cases j with
        | zero => simp at hj hv; subst hj; subst hv; exact ar_ok hf h1
        | succ j => exact h4 j c v (by simpa using hj) (by simpa using hv)
end
end Go.Rv
namespace Go.Rv
section
variable {P : Program} {σ : Num} {im : Nat → Prop} {h : Array Obj} {own : Own} {o : Oper} {a : Act} {fr : Fr}
def PureR (P : Program) (σ : Num) (im : Nat → Prop) (h : Array Obj) (own : Own) (o : Oper) (a : Act) (v : AV) : Prop :=
  ∃ cv, (∀ w, (execOp a.eval o).run P w = .ok (.value cv) w) ∧ VR σ im h own v cv
theorem p_mv (hf : FR σ im h own fr a.tmps) {x : Operand} {r : Ar} (ho : o.op = .move x ∨ o.op = .assign x) (e : trAr σ x = some r) : PureR P σ im h own o a (ev1 fr r) :=
  ⟨a.eval x, fun w => by rcases ho with ho | ho <;> simp [execOp, ho], ar_ok hf e⟩
theorem p_pick (hf : FR σ im h own fr a.tmps) {c x y : Operand} {c' x' y' : Ar} (ho : o.op = .pick c x y) (e1 : trAr σ c = some c') (e2 : trAr σ x = some x') (e3 : trAr σ y = some y')
    {t : Bool} (hc : ev1 fr c' = .b t) : PureR P σ im h own o a (if t then ev1 fr x' else ev1 fr y') := by
  have hc' := (hc ▸ ar_ok hf e1).b_inv
  cases t
  · exact ⟨a.eval y, fun w => by simp [execOp, ho, hc', asBool], ar_ok hf e3⟩
  · exact ⟨a.eval x, fun w => by simp [execOp, ho, hc', asBool], ar_ok hf e2⟩
theorem p_ext (hf : FR σ im h own fr a.tmps) {x : Operand} {r : Ar} {n : Nat} (ho : o.op = .extract x n) (e : trAr σ x = some r) {vs : List AV} {v : AV}
    (h1 : ev1 fr r = .tup vs) (h2 : vs[n]? = some v) : PureR P σ im h own o a v := by
  obtain ⟨cvs, hv, hl, hc⟩ := (h1 ▸ ar_ok hf e).tup_inv
  have hn : n < vs.length := (List.getElem?_eq_some_iff.1 h2).1
  refine ⟨cvs[n]'(by omega), fun w => ?_, hc n v _ h2 (by simp [show n < cvs.size by omega])⟩
  simp [execOp, ho, hv, Instr.extract, show n < cvs.size by omega]
theorem p_un (hf : FR σ im h own fr a.tmps) {x : Operand} {r : Ar} {op : UnOp} {t : TypeId} (ho : o.op = .unOp op t x) (e : trAr σ x = some r) {v : AV}
    (h1 : unV op (ev1 fr r) = some v) : PureR P σ im h own o a v := by
  have hr := ar_ok hf e
  generalize ev1 fr r = rv at *
  cases rv <;> simp [unV] at h1
  · have hb := hr.b_inv
    cases op <;> simp at h1
    subst h1
    exact ⟨_, fun w => by simp [execOp, ho, hb, Op.unary], .imm .b⟩
  · have hi := hr.i_inv
    cases op <;> simp at h1 <;> subst h1
    · exact ⟨_, fun w => by simp [execOp, ho, hi, Op.unary, Op.intArith], .imm .i⟩
    · exact ⟨_, fun w => by simp [execOp, ho, hi, Op.unary, Op.intBits], .imm .i⟩
theorem p_conv (hf : FR σ im h own fr a.tmps) {x : Operand} {r : Ar} {src dst : TypeId} (ho : o.op = .convert src dst x) {k0 k : IntKind} (hs : P.underlying src = some (.int k0))
    (hd : P.underlying dst = some (.int k)) (e : trAr σ x = some r) {v : AV} (h1 : convV k (ev1 fr r) = some v) : PureR P σ im h own o a v := by
  have hr := ar_ok hf e
  generalize ev1 fr r = rv at *
  cases rv <;> simp [convV] at h1
  subst h1
  exact ⟨_, fun w => by simp [execOp, ho, hr.i_inv, convert, run_und hs, run_und hd, Conv.intToInt], .imm .i⟩
theorem p_mkfn (hf : FR σ im h own fr a.tmps) {f g : Nat} {first caps : Array Operand} {rs : List Ar} (ho : o.op = .makeFunc (.func f) first caps) (h0 : first.isEmpty = true) (hg : σ f = some g)
    (e : trArs σ caps.toList = some rs) : PureR P σ im h own o a (.fn g (rs.map (ev1 fr))) := by
  obtain ⟨hl, hc⟩ := ars_ok hf e
  have h0' : first = #[] := by simpa using h0
  refine ⟨.func (.func f) #[] (caps.map a.eval), fun w => by simp [execOp, ho, h0', Instr.makeFunc], .fn hg (by simpa using hl) fun j c v hj hv => hc j c v hj (by simpa using hv)⟩
theorem p_bin (hf : FR σ im h own fr a.tmps) {x y : Operand} {r q : Ar} {op : BinOp} {t u : TypeId} (ho : o.op = .binOp op t x y u) (e : trAr σ x = some r) (e' : trAr σ y = some q) {v : AV}
    (h1 : binV op (ev1 fr r) (ev1 fr q) = some v) : PureR P σ im h own o a v := by
  have hr := ar_ok hf e
  have hq := ar_ok hf e'
  generalize ev1 fr r = rv at *
  generalize ev1 fr q = qv at *
  cases rv <;> cases qv <;> simp only [binV] at h1 <;> try (cases h1; done)
  · rename_i k n k' n'
    have hx := hr.i_inv
    have hy := hq.i_inv
    have hg : ∀ w, (eqGuard op t x y (.int k n) (.int k' n')).run P w = .ok () w := fun w => by cases op <;> simp [eqGuard]
    cases op
    case shl =>
      simp only [shiftBin] at h1
      split at h1 <;> simp at h1
      subst h1
      rename_i hn
      exact ⟨_, fun w => by simp [execOp, ho, hx, hy, hg, binOp, Op.shift, hn], .imm .i⟩
    case shr =>
      simp only [shiftBin] at h1
      split at h1 <;> simp at h1
      subst h1
      rename_i hn
      exact ⟨_, fun w => by simp [execOp, ho, hx, hy, hg, binOp, Op.shift, hn], .imm .i⟩
    all_goals
      simp only at h1
      split at h1
      case isFalse => simp at h1
      rename_i hk
      subst hk
      simp only [intBin] at h1
      first
        | (split at h1 <;> simp at h1
           subst h1
           rename_i hn
           exact ⟨_, fun w => by simp [execOp, ho, hx, hy, hg, binOp, Op.intDiv, hn], .imm .i⟩)
        | (simp only [Option.some.injEq] at h1
           subst h1
           first
             | exact ⟨_, fun w => by simp [execOp, ho, hx, hy, hg, binOp, Op.intArith, Op.intBits, Op.intCmp], .imm .i⟩
             | exact ⟨_, fun w => by simp [execOp, ho, hx, hy, hg, binOp, Op.intCmp], .imm .b⟩)
  · obtain ⟨x', hx, rfl⟩ := hr.s_inv
    obtain ⟨y', hy, rfl⟩ := hq.s_inv
    have hg : ∀ w, (eqGuard op t x y (.string x') (.string y')).run P w = .ok () w := fun w => by cases op <;> simp [eqGuard]
    cases op <;> simp at h1 <;> subst h1
    · exact ⟨_, fun w => by simp [execOp, ho, hx, hy, hg, binOp, Op.stringOp, ByteArray.toList_eq], .imm .b⟩
    · exact ⟨_, fun w => by simp [execOp, ho, hx, hy, hg, binOp, Op.stringOp, ByteArray.toList_eq, bne], .imm .b⟩
theorem p_faddr (hf : FR σ im h own fr a.tmps) {x : Operand} {r : Ar} {t : TypeId} {j : Nat} {fs : Array Field} {fd : Field} (ho : o.op = .fieldAddr t x j) (hu : P.underlying t = some (.struct fs))
    (hj : fs[j]? = some fd) (hz : ¬ P.cellsOf fd.type = 0) (e : trAr σ x = some r) {v : AV} (h1 : faddrV fd.offset (ev1 fr r) = some v) : PureR P σ im h own o a v := by
  have hr := ar_ok hf e
  have run : ∀ (b n : Nat) (w : World), a.eval x = .pointer (some ⟨b, n, none⟩) → (execOp a.eval o).run P w = .ok (.value (.pointer (some ⟨b, n + fd.offset, none⟩))) w := by
    intro b n w hx
    simp [execOp, ho, hx, Instr.fieldAt, run_und hu, hj, Instr.sureAddr, fieldPlace, run_size (Nat.pos_of_ne_zero hz), hz, Addr.add]
  generalize ev1 fr r = rv at *
  obtain ⟨xv, hx⟩ : ∃ xv, a.eval x = xv := ⟨_, rfl⟩
  rw [hx] at hr
  cases rv <;> simp [faddrV] at h1 <;> subst h1
  · obtain ⟨ob, b, h1, h2, h3, h4, h5, rfl⟩ := hr.ptr_inv
    exact ⟨_, fun w => run _ _ w hx, by rw [Nat.add_assoc]; exact .ptr h1 h2 h3 h4 h5⟩
  · have := hr.ref_inv
    cases this with
    | ref hb hx' hc => exact ⟨_, fun w => run _ _ w hx, .imm (by rw [Nat.add_assoc]; exact .ref hb hx' hc)⟩
end
end Go.Rv
namespace Go.Rv
section
variable {P : Program} {σ : Num} {im : Nat → Prop} {h : Array Obj} {own : Own} {o : Oper} {a : Act} {fr : Fr}
theorem addr_add (b o n : Nat) : (⟨b, o, none⟩ : Addr).add n = ⟨b, o + n, none⟩ := by
  unfold Addr.add; split <;> simp_all
theorem p_fld (hf : FR σ im h own fr a.tmps) {x : Operand} {r : Ar} {t : TypeId} {j : Nat} {fs : Array Field} {fd : Field} {ag : Bool} (ho : o.op = .field t x j) (hu : P.underlying t = some (.struct fs))
    (hj : fs[j]? = some fd) (hag : isAg P fd.type = some ag) (hz : 0 < P.cellsOf fd.type) (h1c : ag = true ∨ P.cellsOf fd.type = 1) (e : trAr σ x = some r) {cs : List AV} {v : AV} (h1 : ev1 fr r = .agg cs)
    (hlen : fd.offset + P.cellsOf fd.type ≤ cs.length) (h2 : pack ag ((cs.drop fd.offset).take (P.cellsOf fd.type)) = some v) : PureR P σ im h own o a v := by
  obtain ⟨vs, hx, hl, hone, hc⟩ := (h1 ▸ ar_ok hf e).agg_inv
  cases ag with
  | true =>
    simp only [pack, if_true, Option.some.injEq] at h2
    subst h2
    refine ⟨.agg (vs.extract fd.offset (fd.offset + P.cellsOf fd.type)), fun w => by simp [execOp, ho, hx, Instr.field, run_und hu, hj, asAgg, part, run_isAg hag, run_size hz], .agg ?_ (fun j v hj => ?_) fun j c v hj hv => ?_⟩
    · simp; omega
    · simp only [Array.getElem?_extract] at hj
      split at hj
      · exact hone _ _ hj
      · cases hj
    · simp only [Array.getElem?_extract] at hv
      split at hv
      · rename_i hlt
        simp only [List.getElem?_take, List.getElem?_drop] at hj
        split at hj
        · exact hc _ c v hj hv
        · cases hj
      · cases hv
  | false =>
    have h1' : P.cellsOf fd.type = 1 := by simpa using h1c
    rw [h1'] at h2 hlen
    have hlt : fd.offset < cs.length := by omega
    have : (cs.drop fd.offset).take 1 = [cs[fd.offset]] := by rw [List.drop_eq_getElem_cons hlt]; rfl
    rw [this] at h2
    simp only [pack, Bool.false_eq_true, if_false, Option.some.injEq] at h2
    subst h2
    have hlt' : fd.offset < vs.size := by omega
    refine ⟨vs[fd.offset], fun w => by simp [execOp, ho, hx, Instr.field, run_und hu, hj, asAgg, part, run_isAg hag, hlt'], hc fd.offset _ _ (by simp [hlt]) (by simp [hlt'])⟩
theorem p_iaddr (hf : FR σ im h own fr a.tmps) {x ix : Operand} {r q : Ar} {t e : TypeId} (ho : o.op = .indexAddr t x ix) (hu : P.underlying t = some (.slice e)) (hz : 0 < P.cellsOf e)
    (ex : trAr σ x = some r) (eq : trAr σ ix = some q) {k : IntKind} {n : Int} (h1 : ev1 fr q = .i k n) {v : AV} (h2 : iaddrV (P.cellsOf e) (ev1 fr r) n = some v) : PureR P σ im h own o a v := by
  have hr := ar_ok hf ex
  have hq := (h1 ▸ ar_ok hf eq).i_inv
  have run : ∀ (b off len cap : Nat) (w : World), a.eval x = .slice (some ⟨b, off, none⟩) len cap → 0 ≤ n → n < len →
      (execOp a.eval o).run P w = .ok (.value (.pointer (some ⟨b, off + n.toNat * P.cellsOf e, none⟩))) w := by
    intro b off len cap w hx h0 hn
    simp [execOp, ho, hx, hq, Instr.indexAt, run_und hu, asIntOf, run_size hz, h0, hn, addr_add]
  generalize ev1 fr r = rv at *
  obtain ⟨xv, hx⟩ : ∃ xv, a.eval x = xv := ⟨_, rfl⟩
  rw [hx] at hr
  cases rv <;> simp only [iaddrV] at h2 <;> try (cases h2; done)
  · rename_i nl ti z xs
    split at h2
    case isFalse => cases h2
    rename_i hc
    split at h2
    case h_2 => cases h2
    rename_i el hel
    simp only [Option.some.injEq] at h2
    subst h2
    have hl : n.toNat < xs.length := (List.getElem?_eq_some_iff.1 hel).1
    cases hr.lst_inv with
    | nil => simp at hel
    | lst hb he hcell hrel hcap hti =>
      have hlen := he _ _ hel
      refine ⟨_, fun w => run _ _ _ _ w hx hc.2 (by omega), .imm (.ref (off := _ + n.toNat * P.cellsOf e) (o := 0) (hb (by intro e0; simp [e0] at hel)) (fun j hj => ?_) fun j c v hj hv => ?_)⟩
      · have := hcell n.toNat j hl (by omega)
        rw [hc.1] at this
        simpa [Nat.add_assoc] using this
      · exact hrel n.toNat el j c v hel hj (by rw [hc.1]; simpa [Nat.add_assoc] using hv)
  · rename_i id m z lo len
    split at h2
    case isFalse => cases h2
    rename_i hc
    simp only [Option.some.injEq] at h2
    subst h2
    obtain ⟨ob, b, cap, g1, g2, g3, g4, g5, g6, g7, rfl⟩ := hr.sl_inv
    refine ⟨_, fun w => run _ _ _ _ w hx hc.2.1 hc.2.2, ?_⟩
    have : lo * z + n.toNat * P.cellsOf e = (lo + n.toNat) * z + 0 := by rw [hc.1, Nat.add_mul]; rfl
    rw [this]
    exact .ptr g1 g2 g3 g4 fun hm => (g7 hm).1
theorem p_iaddrA (hf : FR σ im h own fr a.tmps) {x ix : Operand} {r q : Ar} {t e : TypeId} {len : Nat} (ho : o.op = .indexAddr t x ix) (hu : P.underlying t = some (.array len e)) (hz : 0 < P.cellsOf e)
    (ex : trAr σ x = some r) (eq : trAr σ ix = some q) {k : IntKind} {n : Int} (h1 : ev1 fr q = .i k n) {v : AV} (h2 : iaddrAV len (P.cellsOf e) (ev1 fr r) n = some v) : PureR P σ im h own o a v := by
  have hr := ar_ok hf ex
  have hq := (h1 ▸ ar_ok hf eq).i_inv
  have run : ∀ (b off : Nat) (w : World), a.eval x = .pointer (some ⟨b, off, none⟩) → 0 ≤ n → n < len →
      (execOp a.eval o).run P w = .ok (.value (.pointer (some ⟨b, off + n.toNat * P.cellsOf e, none⟩))) w := by
    intro b off w hx h0 hn
    simp [execOp, ho, hx, hq, Instr.indexAt, run_und hu, asIntOf, Instr.sureAddr, run_size hz, h0, hn, addr_add]
  generalize ev1 fr r = rv at *
  obtain ⟨xv, hx⟩ : ∃ xv, a.eval x = xv := ⟨_, rfl⟩
  rw [hx] at hr
  cases rv <;> simp only [iaddrAV] at h2 <;> try (cases h2; done)
  · split at h2
    case isFalse => cases h2
    rename_i hc
    simp only [Option.some.injEq] at h2
    subst h2
    obtain ⟨ob, b, g1, g2, g3, g4, g5, rfl⟩ := hr.ptr_inv
    refine ⟨_, fun w => run _ _ w hx hc.1 hc.2, ?_⟩
    rw [Nat.add_assoc]
    exact .ptr g1 g2 g3 g4 g5
  · split at h2
    case isFalse => cases h2
    rename_i hc
    simp only [Option.some.injEq] at h2
    subst h2
    cases hr.ref_inv with
    | ref hb hx' hcell =>
      refine ⟨_, fun w => run _ _ w hx hc.1 hc.2, ?_⟩
      rw [Nat.add_assoc]
      exact .imm (.ref hb hx' hcell)
theorem p_len (hf : FR σ im h own fr a.tmps) {x : Operand} {r : Ar} {c : Call} {t : TypeId} {d : TypeDesc} {str : Bool} (ho : o.op = .call c) (hc : c.callee = .builtin .len) (hargs : c.args.toList = [x])
    (ht : c.argTypes[0]? = some t) (hu : P.underlying t = some d) (hd : if str then d = .string else ∃ e, d = .slice e)
    (ex : trAr σ x = some r) {n : Nat} (h2 : lenV str (ev1 fr r) = some n) : PureR P σ im h own o a (.i .i64 n) := by
  have hr := ar_ok hf ex
  have ha : c.args = #[x] := by apply Array.toList_inj.1; simpa using hargs
  generalize ev1 fr r = rv at *
  obtain ⟨xv, hx⟩ : ∃ xv, a.eval x = xv := ⟨_, rfl⟩
  rw [hx] at hr
  cases str <;> cases rv <;> simp [lenV] at h2 hd <;> subst h2
  · obtain ⟨e, rfl⟩ := hd
    cases hr.lst_inv with
    | nil => exact ⟨_, fun w => by simp [execOp, ho, resolve, hc, invoke, builtin, Builtin.len_, ha, ht, hx, run_und hu, goInt], .imm .i⟩
    | lst => exact ⟨_, fun w => by simp [execOp, ho, resolve, hc, invoke, builtin, Builtin.len_, ha, ht, hx, run_und hu, goInt], .imm .i⟩
  · obtain ⟨e, rfl⟩ := hd
    obtain ⟨ob, b, cap, g1, g2, g3, g4, g5, g6, g7, rfl⟩ := hr.sl_inv
    exact ⟨_, fun w => by simp [execOp, ho, resolve, hc, invoke, builtin, Builtin.len_, ha, ht, hx, run_und hu, goInt], .imm .i⟩
  · obtain ⟨x', rfl, hl⟩ := hr.s_inv
    subst hd
    refine ⟨.int .i64 x'.size, fun w => by simp [execOp, ho, resolve, hc, invoke, builtin, Builtin.len_, ha, ht, hx, run_und hu, goInt], ?_⟩
    rw [hl]; exact .imm .i
end
end Go.Rv
namespace Go.Rv
section
variable {P : Program} {σ : Num} {im : Nat → Prop} {h : Array Obj} {own : Own} {o : Oper} {a : Act} {fr : Fr}
def NV (v : Option Value) (n : Option Int) : Prop := (v = none ∧ n = none) ∨ ∃ k i, v = some (.int k i) ∧ n = some i
def capOf : Option Int → Nat → Nat
  | none, cap => cap
  | some m, _ => m.toNat
theorem num_ok (hf : FR σ im h own fr a.tmps) {x : Option Operand} {q : Option Ar} {n : Option Int} (e : trO σ x = some q) (h1 : numV fr q = some n) : NV (x.map a.eval) n := by
  cases x with
  | none => simp [trO] at e; subst e; simp [numV] at h1; exact .inl ⟨rfl, h1.symm⟩
  | some x =>
    simp only [trO, Option.map_eq_some_iff] at e
    obtain ⟨r, hr, rfl⟩ := e
    have := ar_ok hf hr
    simp only [numV] at h1
    split at h1
    · rename_i k i hk
      simp at h1
      exact .inr ⟨k, i, by simp [(hk ▸ this).i_inv], h1.symm⟩
    · cases h1
theorem run_sbound {k : IntKind} {i : Int} {y : Nat} {c : BoundsCode} {w : World} (h0 : 0 ≤ i) (h1 : i ≤ y) : (Instr.sliceBound (.int k i) y c).run P w = .ok i.toNat w := by
  simp [Instr.sliceBound, asIntOf, h0, h1]
theorem run_bounds {sl : Bool} {len cap : Nat} {lo hi mx : Option Value} {L H M : Option Int} {w : World} (hl : NV lo L) (hh : NV hi H) (hm : NV mx M) (hc : len ≤ cap)
    (h0 : 0 ≤ L.getD 0) (h1 : L.getD 0 ≤ H.getD len) (h2 : H.getD len ≤ len) (h3 : M = none ∨ M = some (H.getD len)) (h4 : M = none ∨ hi ≠ none) :
    (Instr.sliceBounds sl len cap lo hi mx).run P w = .ok ((L.getD 0).toNat, (H.getD len).toNat, capOf M cap) w := by
  rcases hm with ⟨rfl, rfl⟩ | ⟨km, m, rfl, rfl⟩
  · rcases hl with ⟨rfl, rfl⟩ | ⟨kl, l, rfl, rfl⟩ <;> rcases hh with ⟨rfl, rfl⟩ | ⟨kh, x, rfl, rfl⟩ <;> simp at h0 h1 h2 ⊢
    · simp [Instr.sliceBounds, capOf]
    · simp only [Instr.sliceBounds, Sem.run_bind, Sem.run_pure, Result.andThen_ok]
      rw [run_sbound h1 (by omega)]; simp [capOf]
    · simp only [Instr.sliceBounds, Sem.run_bind, Sem.run_pure, Result.andThen_ok]
      rw [run_sbound h0 (by omega)]; simp [capOf]
    · simp only [Instr.sliceBounds, Sem.run_bind, Sem.run_pure, Result.andThen_ok]
      rw [run_sbound (by omega) (by omega)]; simp only [Result.andThen_ok]
      rw [run_sbound h0 (by omega)]; simp [capOf]
  · rcases hh with ⟨rfl, rfl⟩ | ⟨kh, x, rfl, rfl⟩
    · simp at h4
    · simp at h3
      subst h3
      rcases hl with ⟨rfl, rfl⟩ | ⟨kl, l, rfl, rfl⟩ <;> simp at h0 h1 h2 ⊢
      · simp only [Instr.sliceBounds, Sem.run_bind, Sem.run_pure, Result.andThen_ok]
        rw [run_sbound h1 (by omega)]; simp only [Result.andThen_ok]
        rw [run_sbound h1 (by omega)]; simp [capOf]
      · simp only [Instr.sliceBounds, Sem.run_bind, Sem.run_pure]
        rw [run_sbound (by omega) (by omega)]; simp only [Result.andThen_ok]
        rw [run_sbound (by omega) (by omega)]; simp only [Result.andThen_ok]
        rw [run_sbound h0 (by omega)]; simp [capOf]
theorem lst_sub {ti : Bool} {z b off cap : Nat} {xs : List (List AV)} {l n : Nat} (hb : xs ≠ [] → im b) (he : ∀ (x : Nat) (e : List AV), xs[x]? = some e → e.length = z)
    (hcell : ∀ (x o : Nat), x < xs.length → o < z → ∃ v, hcell h b (off + (x * z + o)) = some v ∧ v.oneCell' = true)
    (hrel : ∀ (x : Nat) (e : List AV) (o : Nat) (c : AV) (v : Value), xs[x]? = some e → e[o]? = some c → Rv.hcell h b (off + (x * z + o)) = some v → VI σ im h c v)
    (hln : l + n ≤ xs.length) (hcap : n ≤ cap) (hti : ti = true → cap = n) (off' : Nat) (hoff : 0 < n → off' = off + l * z) :
    VI σ im h (.lst false ti z ((xs.drop l).take n)) (.slice (some ⟨b, off', none⟩) n cap) := by
  have hlen : ((xs.drop l).take n).length = n := by simp; omega
  have := @VI.lst σ im h ti z b off' cap ((xs.drop l).take n) (fun h0 => hb (by intro e; simp [e] at h0)) (fun x e hx => ?_) (fun x o hx ho => ?_) (fun x e o c v hx ho hv => ?_) (by omega) (by rw [hlen]; exact hti)
  · rwa [hlen] at this
  · simp only [List.getElem?_take, List.getElem?_drop] at hx
    split at hx
    · exact he _ _ hx
    · cases hx
  · rw [hlen] at hx
    have := hcell (l + x) o (by omega) ho
    rw [hoff (by omega), show off + l * z + (x * z + o) = off + ((l + x) * z + o) by rw [Nat.add_mul]; omega]
    exact this
  · simp only [List.getElem?_take, List.getElem?_drop] at hx
    split at hx
    · rw [hoff (by omega), show off + l * z + (x * z + o) = off + ((l + x) * z + o) by rw [Nat.add_mul]; omega] at hv
      exact hrel _ e o c v hx ho hv
    · cases hx
theorem p_slc (hf : FR σ im h own fr a.tmps) {x : Operand} {lo hi mx : Option Operand} {r : Ar} {qlo qhi qmx : Option Ar} {t e : TypeId} (ho : o.op = .slice t x lo hi mx) (hu : P.underlying t = some (.slice e)) (hz : 0 < P.cellsOf e)
    (ex : trAr σ x = some r) (e1 : trO σ lo = some qlo) (e2 : trO σ hi = some qhi) (e3 : trO σ mx = some qmx) {L H M : Option Int} (n1 : numV fr qlo = some L) (n2 : numV fr qhi = some H) (n3 : numV fr qmx = some M)
    (hmx : mx = none ∨ hi ≠ none) {v : AV} (h2 : slcV (P.cellsOf e) (ev1 fr r) L H M = some v) : PureR P σ im h own o a v := by
  have hr := ar_ok hf ex
  have nl := num_ok hf e1 n1
  have nh := num_ok hf e2 n2
  have nm := num_ok hf e3 n3
  have hmx' : M = none ∨ hi.map a.eval ≠ none := by
    rcases hmx with h0 | h0
    · subst h0; rcases nm with ⟨_, h⟩ | ⟨_, _, h, _⟩
      · exact .inl h
      · simp at h
    · exact .inr (by simpa using h0)
  have run : ∀ (b : Option Addr) (len cap : Nat) (w : World), a.eval x = .slice b len cap → len ≤ cap → 0 ≤ L.getD 0 → L.getD 0 ≤ H.getD len → H.getD len ≤ len → (M = none ∨ M = some (H.getD len)) →
      (execOp a.eval o).run P w = .ok (.value (.slice (if (capOf M cap) = (L.getD 0).toNat then b else b.map (·.add ((L.getD 0).toNat * P.cellsOf e)))
        ((H.getD len).toNat - (L.getD 0).toNat) ((capOf M cap) - (L.getD 0).toNat))) w := by
    intro b len cap w hx hc h0 h1 h2 h3
    simp only [execOp, ho, hx, Instr.sliceAt, Sem.run_bind, run_und hu, Result.andThen_ok, Instr.slice, run_bounds nl nh nm hc h0 h1 h2 h3 hmx', run_size hz, Sem.run_pure]
  generalize ev1 fr r = rv at *
  obtain ⟨xv, hx⟩ : ∃ xv, a.eval x = xv := ⟨_, rfl⟩
  rw [hx] at hr
  cases rv <;> simp only [slcV] at h2 <;> try (cases h2; done)
  · rename_i nl' ti z xs
    split at h2
    case isFalse => cases h2
    rename_i hc
    obtain ⟨hz', hc0, hc1, hc2⟩ := hc
    subst hz'
    cases hr.lst_inv with
    | nil =>
      simp at hc0 hc1 hc2 h2
      have hL : L.getD 0 = 0 := by omega
      have hH : H.getD 0 = 0 := by omega
      split at h2
      · simp at h2; subst h2
        refine ⟨.slice none 0 0, fun w => ?_, .imm .nil⟩
        rw [run _ _ _ w hx (Nat.le_refl _) (by omega) (by simp; omega) (by simp; omega) (.inl rfl)]
        simp [hL, hH, capOf]
      · split at h2
        · rename_i hm; simp at h2; subst h2
          refine ⟨.slice none 0 0, fun w => ?_, .imm .nil⟩
          rw [run _ _ _ w hx (Nat.le_refl _) (by omega) (by simp; omega) (by simp; omega) (.inr (by rw [hm]; rfl))]
          simp [hL, hH, hm, capOf]
        · cases h2
    | lst hb he hcell hrel hcap hti =>
      rename_i b off cap
      have hd : (H.getD xs.length - L.getD 0).toNat = (H.getD xs.length).toNat - (L.getD 0).toNat := by omega
      split at h2
      · simp only [Option.some.injEq] at h2; subst h2
        by_cases hcl : cap = (L.getD 0).toNat
        · refine ⟨.slice (some ⟨b, off, none⟩) ((H.getD xs.length).toNat - (L.getD 0).toNat) (cap - (L.getD 0).toNat), fun w => ?_, .imm ?_⟩
          · rw [run _ _ _ w hx hcap hc0 hc1 hc2 (.inl rfl)]; simp [capOf, hcl]
          · rw [hd]
            refine lst_sub hb he hcell hrel (by omega) (by omega) (fun h0 => ?_) _ (fun h0 => by omega)
            simp at h0; have := hti h0.1; omega
        · refine ⟨.slice (some ⟨b, off + (L.getD 0).toNat * P.cellsOf e, none⟩) ((H.getD xs.length).toNat - (L.getD 0).toNat) (cap - (L.getD 0).toNat), fun w => ?_, .imm ?_⟩
          · rw [run _ _ _ w hx hcap hc0 hc1 hc2 (.inl rfl)]; simp [capOf, hcl, addr_add]
          · rw [hd]
            refine lst_sub hb he hcell hrel (by omega) (by omega) (fun h0 => ?_) _ (fun h0 => rfl)
            simp at h0; have := hti h0.1; omega
      · split at h2
        · rename_i m hm
          simp only [Option.some.injEq] at h2; subst h2
          by_cases hcl : m.toNat = (L.getD 0).toNat
          · refine ⟨.slice (some ⟨b, off, none⟩) ((H.getD xs.length).toNat - (L.getD 0).toNat) (m.toNat - (L.getD 0).toNat), fun w => ?_, .imm ?_⟩
            · rw [run _ _ _ w hx hcap hc0 hc1 hc2 (.inr (by rw [hm]))]; simp [capOf, hcl]
            · rw [hd]
              exact lst_sub hb he hcell hrel (by omega) (by omega) (fun h0 => by omega) _ (fun h0 => by omega)
          · refine ⟨.slice (some ⟨b, off + (L.getD 0).toNat * P.cellsOf e, none⟩) ((H.getD xs.length).toNat - (L.getD 0).toNat) (m.toNat - (L.getD 0).toNat), fun w => ?_, .imm ?_⟩
            · rw [run _ _ _ w hx hcap hc0 hc1 hc2 (.inr (by rw [hm]))]; simp [capOf, hcl, addr_add]
            · rw [hd]
              exact lst_sub hb he hcell hrel (by omega) (by omega) (fun h0 => by omega) _ (fun h0 => rfl)
        · cases h2
  · rename_i id n z lo0 len
    split at h2
    case isFalse => cases h2
    rename_i hc
    obtain ⟨hz', hc0, hc1, hc2, hm, hc3⟩ := hc
    subst hz' hm
    simp only [Option.some.injEq] at h2; subst h2
    obtain ⟨ob, b, cap, g1, g2, g3, g4, g5, g6, g7, rfl⟩ := hr.sl_inv
    refine ⟨.slice (some ⟨b, (lo0 + (L.getD 0).toNat) * P.cellsOf e, none⟩) ((H.getD len).toNat - (L.getD 0).toNat) (cap - (L.getD 0).toNat), fun w => ?_, ?_⟩
    · rw [run _ _ _ w hx g6 hc0 hc1 hc2 (.inl rfl)]
      by_cases hcl : cap = (L.getD 0).toNat
      · have : (L.getD 0).toNat = 0 := by omega
        simp [capOf, hcl, this]
      · simp [capOf, hcl, addr_add, Nat.add_mul]
    · rw [show (H.getD len - L.getD 0).toNat = (H.getD len).toNat - (L.getD 0).toNat by omega]
      refine .sl g1 g2 g3 g4 (by omega) (by omega) fun hm => ⟨(g7 hm).1, ?_⟩
      have := (g7 hm).2
      rw [show lo0 + (L.getD 0).toNat + (cap - (L.getD 0).toNat) = lo0 + cap by omega]
      exact this
end
end Go.Rv
namespace Go.Rv
theorem length_setCells : ∀ (cs l : List AV) (o : Nat), (setCells cs o l).length = cs.length
  | _, [], _ => rfl
  | cs, v :: r, o => by simp [setCells, length_setCells _ r]
theorem getElem?_setCells : ∀ (l cs : List AV) (o k : Nat), o + l.length ≤ cs.length →
    (setCells cs o l)[k]? = if o ≤ k ∧ k < o + l.length then l[k - o]? else cs[k]?
  | [], cs, o, k, _ => by simp [setCells]; omega
  | v :: r, cs, o, k, h => by
    simp only [List.length_cons] at h
    rw [setCells, getElem?_setCells r _ _ _ (by simp; omega)]
    by_cases h1 : k = o
    · subst h1
      rw [if_neg (by omega), if_pos (by simp), List.getElem?_set_self (by omega)]
      simp
    · by_cases h2 : o + 1 ≤ k ∧ k < o + 1 + r.length
      · rw [if_pos h2, if_pos (by simp; omega), show k - o = k - (o + 1) + 1 by omega]; simp
      · rw [if_neg h2, if_neg (by simp; omega), List.getElem?_set_ne (by omega)]
theorem fold_set : ∀ (l : List Value) (arr : Array Value) (o i : Nat), o + i + l.length ≤ arr.size →
    ((l.zipIdx i).foldl (fun cs (x : Value × Nat) => cs.setIfInBounds (o + x.2) x.1) arr).size = arr.size ∧
    ∀ k, ((l.zipIdx i).foldl (fun cs (x : Value × Nat) => cs.setIfInBounds (o + x.2) x.1) arr)[k]? = if o + i ≤ k ∧ k < o + i + l.length then l[k - (o + i)]? else arr[k]?
  | [], arr, o, i, _ => by simp; omega
  | v :: r, arr, o, i, h => by
    simp only [List.length_cons] at h
    simp only [List.zipIdx_cons, List.foldl_cons]
    obtain ⟨h1, h2⟩ := fold_set r (arr.setIfInBounds (o + i) v) o (i + 1) (by simp; omega)
    refine ⟨by rw [h1]; simp, fun k => ?_⟩
    rw [h2]
    by_cases hk : k = o + i
    · subst hk
      rw [if_neg (by omega), if_pos (by simp), Array.getElem?_setIfInBounds_self_of_lt (by omega)]
      simp
    · by_cases h3 : o + (i + 1) ≤ k ∧ k < o + (i + 1) + r.length
      · rw [if_pos h3, if_pos (by simp; omega), show k - (o + i) = k - (o + (i + 1)) + 1 by omega]; simp
      · rw [if_neg h3, if_neg (by simp; omega), Array.getElem?_setIfInBounds_ne (by omega)]
section
variable {P : Program} {σ : Num} {im : Nat → Prop} {h : Array Obj} {own : Own} {o : Oper} {a : Act} {fr : Fr}
structure CR (σ : Num) (im : Nat → Prop) (h : Array Obj) (own : Own) (cs : List AV) (vs : Array Value) : Prop where
  len : cs.length = vs.size
  one : ∀ (j : Nat) (v : Value), vs[j]? = some v → v.oneCell' = true
  rel : ∀ (j : Nat) (c : AV) (v : Value), cs[j]? = some c → vs[j]? = some v → VR σ im h own c v
theorem CR.lay {cs : List AV} {vs : Array Value} {l : List AV} {v : Value} (r : CR σ im h own cs vs) {x : AV} (hx : x.cells? = some l) (rv : VR σ im h own x v) {off : Nat} (hl : off + l.length ≤ cs.length) :
    CR σ im h own (setCells cs off l) (v.cells.zipIdx.foldl (fun cs (c, j) => cs.setIfInBounds (off + j) c) vs) := by
  obtain ⟨h1, h2, h3⟩ := rv.cells hx
  have e : v.cells.zipIdx.foldl (fun cs (c, j) => cs.setIfInBounds (off + j) c) vs = (v.cells.toList.zipIdx 0).foldl (fun cs (x : Value × Nat) => cs.setIfInBounds (off + x.2) x.1) vs := by
    rw [← Array.foldl_toList]; simp [Array.toList_zipIdx]
  have hf := fold_set v.cells.toList vs off 0 (by simp; have := r.len; omega)
  simp only [Array.length_toList, Nat.add_zero, Array.getElem?_toList] at hf
  rw [e]
  refine ⟨by rw [length_setCells, hf.1]; exact r.len, fun j v' hj => ?_, fun j c v' hj hv => ?_⟩
  · rw [hf.2] at hj
    split at hj
    · exact h2 _ _ hj
    · exact r.one _ _ hj
  · rw [hf.2] at hv
    rw [getElem?_setCells _ _ _ _ hl] at hj
    rw [h1] at hj
    split at hv
    · rename_i hk; rw [if_pos hk] at hj; exact h3 _ _ _ hj hv
    · rename_i hk; rw [if_neg hk] at hj; exact r.rel _ _ _ hj hv
theorem build_go (hf : FR σ im h own fr a.tmps) (place : Nat → Option (Nat × Nat)) : ∀ (ps : List (Nat × Operand)) (qs : List (Nat × Nat × Ar)) (cs cs' : List AV) (vs : Array Value),
    trParts σ P place ps = some qs → buildGo fr cs qs = some cs' → CR σ im h own cs vs →
    ∃ vs', Instr.fill place vs (ps.map fun p => (p.1, a.eval p.2)) = some vs' ∧ CR σ im h own cs' vs'
  | [], qs, cs, cs', vs, e, e', r => by
    simp [trParts] at e; subst e; simp [buildGo] at e'; subst e'
    exact ⟨vs, rfl, r⟩
  | (j, x) :: ps, qs, cs, cs', vs, e, e', r => by
    simp only [trParts] at e
    split at e
    case h_2 => cases e
    rename_i off n q l hp hq hl
    simp at e; subst e
    simp only [buildGo] at e'
    split at e'
    case h_2 => cases e'
    rename_i cl hcl
    split at e'
    case isFalse => cases e'
    rename_i hc
    have rv := ar_ok hf hq
    obtain ⟨h1, h2, h3⟩ := rv.cells hcl
    have r' := r.lay hcl rv (off := off) (by omega)
    obtain ⟨vs', g1, g2⟩ := build_go hf place ps l _ cs' _ hl e' r'
    refine ⟨vs', ?_, g2⟩
    have hlen := r.len
    simp only [List.map_cons, Instr.fill, hp]
    rw [if_neg (by simp; omega)]
    exact g1
theorem run_places (P : Program) (w : World) : ∀ (fs : List Field), (∀ f ∈ fs, (P.info? f.type).isSome) →
    (fs.mapM (fun f => do pure (f.offset, ← sizeOf f.type)) : Sem (List (Nat × Nat))).run P w = .ok (fs.map fun f => (f.offset, P.cellsOf f.type)) w
  | [], _ => by simp
  | f :: r, hs => by
    have h1 := hs f (by simp)
    obtain ⟨i, hi⟩ := Option.isSome_iff_exists.1 h1
    have hsz : (sizeOf f.type).run P w = .ok (P.cellsOf f.type) w := by simp [sizeOf, run_ti hi, Program.cellsOf, hi]
    simp only [List.mapM_cons, Sem.run_bind, hsz, Result.andThen_ok, Sem.run_pure, run_places P w r (fun g hg => hs g (by simp [hg])), List.map_cons]
theorem zero_ok {t : TypeId} {z : List AV} (e : zeroOf P t = some z) (w : World) : ∃ v, (zeroValue t).run P w = .ok v w ∧ CR σ im h own z v.cells ∧ z.length = P.cellsOf t ∧ 0 < P.cellsOf t := by
  unfold zeroOf at e
  cases hi : P.info? t with
  | none => simp [hi] at e
  | some i =>
    simp only [hi, Option.bind_some] at e
    cases hz : i.zero with
    | none => simp [hz] at e
    | some v =>
      simp only [hz] at e
      split at e
      case h_2 => cases e
      rename_i av hav
      split at e
      case h_2 => cases e
      rename_i cs hcs
      split at e
      case isFalse => cases e
      rename_i hc
      simp at e; subst e
      have rv : VR σ im h own av v := .imm (ofVal_ok _ _ _ hav)
      obtain ⟨h1, h2, h3⟩ := rv.cells hcs
      exact ⟨v, by simp [zeroValue, run_ti hi, hz], ⟨h1, h2, h3⟩, hc.1, hc.2⟩
theorem p_buildS (hf : FR σ im h own fr a.tmps) {t : TypeId} {parts : Array (Nat × Operand)} {fs : Array Field} {z : List AV} {qs : List (Nat × Nat × Ar)} (ho : o.op = .build t parts) (hz : zeroOf P t = some z)
    (hu : P.underlying t = some (.struct fs)) (hfs : ∀ f ∈ fs.toList, (P.info? f.type).isSome) (e : trParts σ P (fun j => (fs[j]?).map fun f => (f.offset, P.cellsOf f.type)) parts.toList = some qs) {cs : List AV}
    (h1 : buildGo fr z qs = some cs) : PureR P σ im h own o a (.agg cs) := by
  obtain ⟨v, g1, g2, _, _⟩ := zero_ok (σ := σ) (im := im) (h := h) (own := own) hz default
  have g1' : ∀ w, (zeroValue t).run P w = .ok v w := fun w => by
    obtain ⟨v', k1, _⟩ := zero_ok (σ := σ) (im := im) (h := h) (own := own) hz w
    unfold zeroOf at hz
    cases hi : P.info? t with
    | none => simp [hi] at hz
    | some i =>
      cases hzz : i.zero with
      | none => simp [hi, hzz] at hz
      | some u =>
        simp [zeroValue, run_ti hi, hzz] at g1 ⊢
        exact g1
  obtain ⟨vs, k1, k2⟩ := build_go hf _ parts.toList qs z cs v.cells e h1 g2
  refine ⟨.agg vs, fun w => ?_, .agg k2.len k2.one k2.rel⟩
  have hpl : (fs.mapM (fun f => do pure (f.offset, ← sizeOf f.type)) : Sem (Array (Nat × Nat))).run P w = .ok (fs.map fun f => (f.offset, P.cellsOf f.type)) w := by
    rw [Array.mapM_eq_mapM_toList, Sem.run_map, run_places P w _ hfs]
    simp only [Result.andThen_ok]
    rw [← Array.toList_map, Array.toArray_toList]
  simp only [execOp, ho, Instr.build, Sem.run_bind, g1', Result.andThen_ok, run_und hu, hpl]
  have : (fun (i : Nat) => (fs.map fun f => (f.offset, P.cellsOf f.type))[i]?) = fun j => (fs[j]?).map fun f => (f.offset, P.cellsOf f.type) := by funext j; simp
  rw [this, Array.toList_map, k1]
  simp
theorem zero_run {t : TypeId} {z : List AV} (hz : zeroOf P t = some z) : ∃ v, (∀ w, (zeroValue t).run P w = .ok v w) ∧ CR σ im h own z v.cells ∧ z.length = P.cellsOf t ∧ 0 < P.cellsOf t := by
  obtain ⟨v, g1, g2, g3, g4⟩ := zero_ok (σ := σ) (im := im) (h := h) (own := own) hz default
  refine ⟨v, fun w => ?_, g2, g3, g4⟩
  unfold zeroOf at hz
  cases hi : P.info? t with
  | none => simp [hi] at hz
  | some i =>
    cases hzz : i.zero with
    | none => simp [hi, hzz] at hz
    | some u =>
      simp [zeroValue, run_ti hi, hzz] at g1 ⊢
      exact g1
theorem p_buildA (hf : FR σ im h own fr a.tmps) {t e0 : TypeId} {n : Nat} {parts : Array (Nat × Operand)} {z : List AV} {qs : List (Nat × Nat × Ar)} (ho : o.op = .build t parts) (hz : zeroOf P t = some z)
    (hu : P.underlying t = some (.array n e0)) (he : ¬ P.cellsOf e0 = 0) (e : trParts σ P (fun j => some (j * P.cellsOf e0, P.cellsOf e0)) parts.toList = some qs) {cs : List AV}
    (h1 : buildGo fr z qs = some cs) : PureR P σ im h own o a (.agg cs) := by
  obtain ⟨v, g1, g2, _, _⟩ := zero_run (σ := σ) (im := im) (h := h) (own := own) hz
  obtain ⟨vs, k1, k2⟩ := build_go hf _ parts.toList qs z cs v.cells e h1 g2
  refine ⟨.agg vs, fun w => ?_, .agg k2.len k2.one k2.rel⟩
  simp only [execOp, ho, Instr.build, Sem.run_bind, g1, Result.andThen_ok, run_und hu, run_size (Nat.pos_of_ne_zero he)]
  rw [Array.toList_map, k1]
  simp
theorem getElem?_chunks : ∀ (n : Nat) (k : Nat) (cs : List AV) (x : Nat), (chunks k n cs)[x]? = if x < n then some ((cs.drop (x * k)).take k) else none
  | 0, k, cs, x => by simp [chunks]
  | n + 1, k, cs, x => by
    cases x with
    | zero => simp [chunks]
    | succ x =>
      simp only [chunks, List.getElem?_cons_succ, getElem?_chunks n k _ x, List.drop_drop]
      simp only [Nat.add_lt_add_iff_right]
      rw [show k + x * k = (x + 1) * k by rw [Nat.add_mul]; omega]
theorem length_chunks (n k : Nat) (cs : List AV) : (chunks k n cs).length = n := by
  induction n generalizing cs with
  | zero => rfl
  | succ n ih => simp [chunks, ih]
theorem p_slcA (hf : FR σ im h own fr a.tmps) {x : Operand} {lo hi mx : Option Operand} {r : Ar} {qlo qhi : Option Ar} {t e : TypeId} {n : Nat} (ho : o.op = .slice t x lo hi mx) (hu : P.underlying t = some (.array n e))
    (he : ¬ P.cellsOf e = 0) (ex : trAr σ x = some r) (e1 : trO σ lo = some qlo) (e2 : trO σ hi = some qhi) (e3 : trO σ mx = some none) {L H : Option Int} (n1 : numV fr qlo = some L) (n2 : numV fr qhi = some H)
    {v : AV} (h2 : slcAV n (P.cellsOf e) (ev1 fr r) L H = some v) : PureR P σ im h own o a v := by
  have hr := ar_ok hf ex
  have nl := num_ok hf e1 n1
  have nh := num_ok hf e2 n2
  have hmx : mx = none := by
    cases mx with
    | none => rfl
    | some m => simp [trO] at e3
  subst hmx
  simp only [slcAV] at h2
  split at h2
  case isFalse => cases h2
  rename_i hc
  obtain ⟨h0, h1, hn, hz⟩ := hc
  have run : ∀ (b off : Nat) (w : World), a.eval x = .pointer (some ⟨b, off, none⟩) →
      (execOp a.eval o).run P w = .ok (.value (.slice (some ⟨b, off + (L.getD 0).toNat * P.cellsOf e, none⟩) ((H.getD n).toNat - (L.getD 0).toNat) (n - (L.getD 0).toNat))) w := by
    intro b off w hx
    simp only [execOp, ho, hx, Instr.sliceAt, Sem.run_bind, run_und hu, Result.andThen_ok, Instr.sureAddr, Sem.run_pure, Option.map_none,
      run_bounds nl nh (.inl ⟨rfl, rfl⟩ : NV none none) (Nat.le_refl n) h0 h1 hn (.inl rfl) (.inl rfl), run_size (Nat.pos_of_ne_zero he), capOf]
    by_cases hm : n = (L.getD 0).toNat
    · have : (L.getD 0).toNat = 0 := by omega
      simp [hm, this]
    · simp [hm, addr_add]
  generalize ev1 fr r = rv at *
  obtain ⟨xv, hx⟩ : ∃ xv, a.eval x = xv := ⟨_, rfl⟩
  rw [hx] at hr
  have hd : (H.getD n - L.getD 0).toNat = (H.getD n).toNat - (L.getD 0).toNat := by omega
  have hmul : (L.getD 0).toNat * P.cellsOf e + ((H.getD n).toNat - (L.getD 0).toNat) * P.cellsOf e ≤ n * P.cellsOf e := by
    rw [← Nat.add_mul]; exact Nat.mul_le_mul_right _ (by omega)
  cases rv <;> try (cases h2; done)
  · simp only at h2
    split at h2
    case isFalse => cases h2
    rename_i hfit
    simp at h2; subst h2
    obtain ⟨ob, b, g1, g2, g3, g4, g5, rfl⟩ := hr.ptr_inv
    refine ⟨_, fun w => run _ _ w hx, ?_⟩
    rw [hd, Nat.add_assoc]
    exact .as g1 g2 g3 g4 (by omega) (by omega) g5
  · rename_i cs oo
    simp only at h2
    split at h2
    case isFalse => cases h2
    rename_i hfit
    simp at h2; subst h2
    cases hr.ref_inv with
    | ref hb hxc hcell =>
      rename_i b off
      have hsub : ∀ x, x < (H.getD n).toNat - (L.getD 0).toNat → (L.getD 0).toNat * P.cellsOf e + x * P.cellsOf e + P.cellsOf e ≤ n * P.cellsOf e := by
        intro x hx
        have : (L.getD 0).toNat * P.cellsOf e + x * P.cellsOf e + P.cellsOf e = ((L.getD 0).toNat + x + 1) * P.cellsOf e := by rw [Nat.add_mul, Nat.add_mul, Nat.one_mul]
        rw [this]; exact Nat.mul_le_mul_right _ (by omega)
      refine ⟨_, fun w => run _ _ w hx, .imm ?_⟩
      have := @VI.lst σ im h false (P.cellsOf e) b (off + oo + (L.getD 0).toNat * P.cellsOf e) (n - (L.getD 0).toNat)
        (chunks (P.cellsOf e) (H.getD n - L.getD 0).toNat (cs.drop (oo + (L.getD 0).toNat * P.cellsOf e))) (fun _ => hb) (fun x el hx => ?_) (fun x k hx hk => ?_) (fun x el k c v hx hk hv => ?_)
        (by rw [length_chunks]; omega) (by simp)
      · rw [length_chunks] at this; rw [hd] at this ⊢; exact this
      · rw [getElem?_chunks] at hx
        split at hx
        · rename_i hlt
          simp at hx; subst hx
          have := hsub x (by omega)
          simp; omega
        · cases hx
      · rw [length_chunks] at hx
        have := hsub x (by omega)
        obtain ⟨v, hv1, hv2⟩ := hxc (oo + (L.getD 0).toNat * P.cellsOf e + (x * P.cellsOf e + k)) (by omega)
        exact ⟨v, by rw [show off + oo + (L.getD 0).toNat * P.cellsOf e + (x * P.cellsOf e + k) = off + (oo + (L.getD 0).toNat * P.cellsOf e + (x * P.cellsOf e + k)) by omega]; exact hv1, hv2⟩
      · rw [getElem?_chunks] at hx
        split at hx
        · rename_i hlt
          simp at hx; subst hx
          simp only [List.getElem?_take, List.getElem?_drop] at hk
          split at hk
          · refine hcell (oo + (L.getD 0).toNat * P.cellsOf e + (x * P.cellsOf e + k)) c v ?_ ?_
            · rw [← hk]; congr 1; omega
            · rw [← hv]; congr 1; omega
          · cases hk
        · cases hx
theorem p_eqn (hf : FR σ im h own fr a.tmps) {x : Operand} {r : Ar} {op : BinOp} {t e u : TypeId} {neg : Bool} (ho : o.op = .binOp op t x (.const (.slice none 0 0)) u) (hu : P.underlying t = some (.slice e))
    (hop : op = if neg then .neq else .eql) (ex : trAr σ x = some r) {b : Bool} (h1 : nilV (ev1 fr r) = some b) : PureR P σ im h own o a (.b (if neg then !b else b)) := by
  have hr := ar_ok hf ex
  generalize ev1 fr r = rv at *
  obtain ⟨xv, hx⟩ : ∃ xv, a.eval x = xv := ⟨_, rfl⟩
  rw [hx] at hr
  cases rv <;> simp [nilV] at h1
  subst h1
  have key : ∀ (b : Option Addr) (l c : Nat) (w : World), a.eval x = .slice b l c → (execOp a.eval o).run P w = .ok (.value (.bool (if neg then !b.isNone else b.isNone))) w := by
    intro b l c w hx
    have he : (Op.equal t (.slice b l c) (.slice none 0 0)).run P w = .ok b.isNone w := by
      show (Op.equalIn (9999 + 1) t (.slice b l c) (.slice none 0 0)).run P w = _
      unfold Op.equalIn
      rw [Sem.run_bind, run_und hu]
      cases b <;> rfl
    have hg : (eqGuard op t x (.const (.slice none 0 0)) (.slice b l c) (.slice none 0 0)).run P w = .ok () w := by
      unfold eqGuard
      cases op <;> rfl
    have hb1 : binOp .eql t (.slice b l c) (.slice none 0 0) = (do pure (.bool (← Op.equal t (.slice b l c) (.slice none 0 0)))) := rfl
    have hb2 : binOp .neq t (.slice b l c) (.slice none 0 0) = (do pure (.bool (!(← Op.equal t (.slice b l c) (.slice none 0 0))))) := rfl
    have ey : a.eval (.const (.slice none 0 0)) = .slice none 0 0 := rfl
    unfold execOp
    rw [ho]
    simp only [hx, ey, Sem.run_bind, hg, Result.andThen_ok]
    cases neg <;> simp only [hop, if_true, if_false, Bool.false_eq_true, hb1, hb2, Sem.run_bind, he, Result.andThen_ok, Sem.run_pure]
  cases hr.lst_inv with
  | nil => exact ⟨_, fun w => key _ _ _ w hx, .imm .b⟩
  | lst => exact ⟨_, fun w => key _ _ _ w hx, .imm .b⟩
theorem mxn_go (hf : FR σ im h own fr a.tmps) (mx : Bool) : ∀ (xs : List Operand) (rs : List Ar) (v0 v : AV) (c0 : Value), trArs σ xs = some rs → mxnL mx v0 (rs.map (ev1 fr)) = some v → VR σ im h own v0 c0 →
    ∃ c, (∀ w, ((xs.map a.eval).foldlM (if mx then Builtin.max2 else Builtin.min2) c0 : Sem Value).run P w = .ok c w) ∧ VR σ im h own v c
  | [], rs, v0, v, c0, e, e', r => by
    simp [trArs] at e; subst e; simp [mxnL] at e'; subst e'
    exact ⟨c0, by simp, r⟩
  | x :: xs, rs, v0, v, c0, e, e', r => by
    simp only [trArs] at e
    cases h1 : trAr σ x with
    | none => simp [h1] at e
    | some y =>
      cases h2 : trArs σ xs with
      | none => simp [h1, h2] at e
      | some l =>
        simp [h1, h2] at e; subst e
        simp only [List.map_cons, mxnL] at e'
        split at e'
        case h_2 => cases e'
        rename_i v1 hv1
        have hy := ar_ok hf h1
        generalize ev1 fr y = yv at *
        obtain ⟨cy, hcy⟩ : ∃ cy, a.eval x = cy := ⟨_, rfl⟩
        rw [hcy] at hy
        cases v0 <;> cases yv <;> simp [mxnV] at hv1
        rename_i k n k' n'
        obtain ⟨hk, hv1⟩ := hv1
        subst hk hv1
        have e1 := r.i_inv
        have e2 := hy.i_inv
        subst e1 e2
        obtain ⟨c, g1, g2⟩ := mxn_go hf mx xs l _ v (.int k (if mx then (if n' > n then n' else n) else (if n' < n then n' else n))) h2 e' (.imm .i)
        refine ⟨c, fun w => ?_, g2⟩
        have g1 := g1 w
        simp only [List.map_cons, List.foldlM_cons, Sem.run_bind, hcy]
        cases mx <;> simp [Builtin.max2, Builtin.min2] at g1 ⊢ <;> exact g1
theorem p_mxn (hf : FR σ im h own fr a.tmps) {x : Operand} {xs : List Operand} {r : Ar} {rs : List Ar} {c : Call} {mx : Bool} (ho : o.op = .call c) (hc : c.callee = .builtin (if mx then .max else .min)) (hargs : c.args.toList = x :: xs)
    (e : trAr σ x = some r) (e' : trArs σ xs = some rs) {v : AV} (h1 : mxnL mx (ev1 fr r) (rs.map (ev1 fr)) = some v) : PureR P σ im h own o a v := by
  have ha : c.args = (x :: xs).toArray := by apply Array.toList_inj.1; simpa using hargs
  obtain ⟨cv, g1, g2⟩ := mxn_go (P := P) hf mx xs rs _ v (a.eval x) e' h1 (ar_ok hf e)
  refine ⟨cv, fun w => ?_, g2⟩
  have g1 := g1 w
  cases mx <;> simp at hc g1 <;> simp [execOp, ho, resolve, hc, invoke, builtin, Builtin.max_, Builtin.min_, ha, g1]
end
end Go.Rv
namespace Go.Rv
section
variable {P : Program} {σ : Num} {im : Nat → Prop} {h : Array Obj} {own : Own} {o : Oper} {a : Act} {fr : Fr}
theorem eqL_len : ∀ {sh : List Kd} {A B : List AV} {r : Bool}, eqL sh A B = some r → A.length = sh.length ∧ B.length = sh.length
  | [], A, B, r, e => by
    cases A <;> cases B <;> simp [eqL] at e ⊢
  | k :: sh, A, B, r, e => by
    cases A with
    | nil => simp [eqL] at e
    | cons x A =>
      cases B with
      | nil => simp [eqL] at e
      | cons y B =>
        simp only [eqL] at e
        split at e
        case h_2 => cases e
        split at e
        case h_2 => cases e
        rename_i h1
        have := eqL_len h1
        simp [this]
theorem eqL_append : ∀ {l m : List Kd} {A B : List AV} {r : Bool}, eqL (l ++ m) A B = some r →
    ∃ r1 r2, eqL l (A.take l.length) (B.take l.length) = some r1 ∧ eqL m (A.drop l.length) (B.drop l.length) = some r2 ∧ r = (r1 && r2)
  | [], m, A, B, r, e => ⟨true, r, by simp [eqL], by simpa using e, by simp⟩
  | k :: l, m, A, B, r, e => by
    cases A with
    | nil => simp [eqL] at e
    | cons x A =>
      cases B with
      | nil => simp [eqL] at e
      | cons y B =>
        simp only [List.cons_append, eqL] at e
        split at e
        case h_2 => cases e
        rename_i q hq
        split at e
        case h_2 => cases e
        rename_i r' hr
        obtain ⟨r1, r2, h1, h2, h3⟩ := eqL_append hr
        simp at e
        refine ⟨q && r1, r2, by simp [eqL, hq, h1], by simpa using h2, ?_⟩
        rw [← e, h3, Bool.and_assoc]
def agD : TypeDesc → Bool
  | .struct _ | .array _ _ => true
  | _ => false
theorem isAg_of {t : TypeId} {d : TypeDesc} (hu : P.underlying t = some d) : isAg P t = some (agD d) := by
  unfold isAg; rw [hu]; cases d <;> rfl
theorem CR.sub {cs : List AV} {vs : Array Value} (r : CR σ im h own cs vs) (o n : Nat) : CR σ im h own ((cs.drop o).take n) (vs.extract o (o + n)) := by
  refine ⟨by simp [r.len]; omega, fun j v hj => ?_, fun j c v hj hv => ?_⟩
  · simp only [Array.getElem?_extract] at hj
    split at hj
    · exact r.one _ _ hj
    · cases hj
  · simp only [Array.getElem?_extract] at hv
    split at hv
    · simp only [List.getElem?_take, List.getElem?_drop] at hj
      split at hj
      · exact r.rel _ _ _ hj hv
      · cases hj
    · cases hv
def VX (P : Program) (σ : Num) (im : Nat → Prop) (h : Array Obj) (own : Own) (t : TypeId) (cs : List AV) (x : Value) : Prop :=
  (isAg P t = some true ∧ ∃ vs, x = .agg vs ∧ CR σ im h own cs vs) ∨ (isAg P t = some false ∧ ∃ c, cs = [c] ∧ VR σ im h own c x)
theorem part_ok {t : TypeId} {ag : Bool} {cs : List AV} {vs : Array Value} {n off : Nat} (r : CR σ im h own cs vs) (hag : isAg P t = some ag) (hn : P.cellsOf t = n) (h0 : 0 < n) (h1 : ag = false → n = 1) (hl : off + n ≤ cs.length) :
    ∃ x, (∀ w, (part t vs off).run P w = .ok x w) ∧ VX P σ im h own t ((cs.drop off).take n) x := by
  cases ag with
  | true =>
    refine ⟨.agg (vs.extract off (off + n)), fun w => by simp [part, run_isAg hag, run_size (show 0 < P.cellsOf t by omega), hn], .inl ⟨hag, _, rfl, r.sub off n⟩⟩
  | false =>
    have h1 := h1 rfl
    subst h1
    have hlt : off < vs.size := by have := r.len; omega
    have hlt' : off < cs.length := by omega
    refine ⟨vs[off], fun w => by simp [part, run_isAg hag, hlt], .inr ⟨hag, cs[off], ?_, r.rel off _ _ (by simp [hlt']) (by simp [hlt])⟩⟩
    rw [List.drop_eq_getElem_cons hlt']; rfl
theorem shape_ag {d : Nat} {t : TypeId} {sh : List Kd} (e : shapeOf P d t = some sh) : ∃ ag, isAg P t = some ag ∧ (ag = false → sh.length = 1) := by
  cases d with
  | zero => simp [shapeOf] at e
  | succ d =>
    unfold shapeOf at e
    split at e
    · rename_i hu; simp at e; subst e; exact ⟨_, isAg_of hu, fun _ => rfl⟩
    · rename_i hu; simp at e; subst e; exact ⟨_, isAg_of hu, fun _ => rfl⟩
    · rename_i hu; simp at e; subst e; exact ⟨_, isAg_of hu, fun _ => rfl⟩
    · rename_i hu; exact ⟨_, isAg_of hu, fun h => by simp [agD] at h⟩
    · rename_i hu; exact ⟨_, isAg_of hu, fun h => by simp [agD] at h⟩
    · cases e
theorem eq_run (d : Nat) : ∀ (t : TypeId) (sh : List Kd), shapeOf P d t = some sh → ∀ (D : Nat), d ≤ D → ∀ (x y : Value) (A B : List AV) (r : Bool),
    VX P σ im h own t A x → VX P σ im h own t B y → eqL sh A B = some r → ∀ w, (Op.equalIn D t x y).run P w = .ok r w := by
  induction d with
  | zero => intro t sh e; simp [shapeOf] at e
  | succ d ih =>
    intro t sh e D hD x y A B r hx hy he w
    obtain ⟨D, rfl⟩ : ∃ m, D = m + 1 := ⟨D - 1, by omega⟩
    unfold shapeOf at e
    have scalar : isAg P t = some false → ∃ c c', A = [c] ∧ B = [c'] ∧ VR σ im h own c x ∧ VR σ im h own c' y := by
      intro hag
      rcases hx with ⟨h1, _⟩ | ⟨_, c, h2, h3⟩
      · rw [h1] at hag; cases hag
      rcases hy with ⟨h1, _⟩ | ⟨_, c', h2', h3'⟩
      · rw [h1] at hag; cases hag
      exact ⟨c, c', h2, h2', h3, h3'⟩
    have aggr : isAg P t = some true → ∃ xs ys, x = .agg xs ∧ y = .agg ys ∧ CR σ im h own A xs ∧ CR σ im h own B ys := by
      intro hag
      rcases hx with ⟨_, xs, h2, h3⟩ | ⟨h1, _⟩
      · rcases hy with ⟨_, ys, h2', h3'⟩ | ⟨h1, _⟩
        · exact ⟨xs, ys, h2, h2', h3, h3'⟩
        · rw [h1] at hag; cases hag
      · rw [h1] at hag; cases hag
    split at e
    · rename_i hu
      simp at e; subst e
      obtain ⟨c, c', rfl, rfl, h1, h2⟩ := scalar (isAg_of hu)
      cases c <;> cases c' <;> simp [eqL, eq1] at he
      subst he
      rw [h1.b_inv, h2.b_inv]
      simp [Op.equalIn, run_und hu]
    · rename_i hu
      simp at e; subst e
      obtain ⟨c, c', rfl, rfl, h1, h2⟩ := scalar (isAg_of hu)
      cases c <;> cases c' <;> simp [eqL, eq1] at he
      rw [h1.i_inv, h2.i_inv]
      split at he
      · rename_i q hq
        simp at hq
        simp at he
        obtain ⟨rfl, rfl⟩ := hq
        subst he
        simp [Op.equalIn, run_und hu]
      · cases he
    · rename_i hu
      simp at e; subst e
      obtain ⟨c, c', rfl, rfl, h1, h2⟩ := scalar (isAg_of hu)
      cases c <;> cases c' <;> simp [eqL, eq1] at he
      subst he
      obtain ⟨s, rfl, rfl⟩ := h1.s_inv
      obtain ⟨s', rfl, rfl⟩ := h2.s_inv
      have := run_equalIn_string (P := P) w D t s s' hu
      simpa [ByteArray.toList_eq] using this
    · rename_i fs hu
      split at e
      · cases e
      rename_i hst
      obtain ⟨xs, ys, rfl, rfl, h1, h2⟩ := aggr (isAg_of hu)
      have hfs : P.fieldsOf t = fs := by unfold Program.fieldsOf; rw [hu]
      rw [run_equalIn_struct w D t xs ys (by rw [hfs]; exact hu) (by simpa using hst), hfs]
      have key : ∀ (l : List Field) (off : Nat) (sh : List Kd) (r : Bool), shapeFs P (shapeOf P d) l off = some sh → eqL sh (A.drop off) (B.drop off) = some r →
          (Op.eqFields D xs ys l).run P w = .ok r w := by
        intro l
        induction l with
        | nil =>
          intro off sh r e he
          simp [shapeFs] at e; subst e
          cases hA : A.drop off <;> cases hB : B.drop off <;> simp [hA, hB, eqL] at he
          subst he
          simp [Op.eqFields]
        | cons f l ihl =>
          intro off sh r e he
          simp only [shapeFs] at e
          split at e
          case h_2 => cases e
          rename_i s1 hs1
          split at e
          case isFalse => cases e
          rename_i hc
          obtain ⟨hn, hoff, hcells, hpos⟩ := hc
          split at e
          case h_2 => cases e
          rename_i s2 hs2
          simp at e; subst e
          obtain ⟨r1, r2, g1, g2, rfl⟩ := eqL_append he
          obtain ⟨ag, hag, hag1⟩ := shape_ag hs1
          have hlen := eqL_len g1
          simp only [List.length_take, List.length_drop] at hlen
          obtain ⟨px, hpx, vx⟩ := part_ok (n := s1.length) (off := off) h1 hag hcells hpos hag1 (by omega)
          obtain ⟨py, hpy, vy⟩ := part_ok (n := s1.length) (off := off) h2 hag hcells hpos hag1 (by omega)
          have hrun := ih f.type s1 hs1 D (by omega) px py _ _ r1 vx vy g1 w
          simp only [List.drop_drop] at g2
          have hrest := ihl (off + s1.length) s2 r2 hs2 g2
          simp only [Op.eqFields, hn, ne_eq, not_false_eq_true, if_true, hoff, Sem.run_bind, hpx, hpy, Result.andThen_ok, hrun]
          cases r1
          · simp
          · simp [hrest]
      exact key fs.toList 0 sh r e (by simpa using he)
    · rename_i n e0 hu
      split at e
      case h_2 => cases e
      rename_i l hl
      split at e
      case isFalse => cases e
      rename_i hc
      simp at e; subst e
      obtain ⟨xs, ys, rfl, rfl, h1, h2⟩ := aggr (isAg_of hu)
      obtain ⟨ag, hag, hag1⟩ := shape_ag hl
      have key : ∀ (m k : Nat) (r : Bool), eqL ((List.replicate m l).flatten) (A.drop (k * l.length)) (B.drop (k * l.length)) = some r →
          ((forIn (List.range' k m) ((none, ()) : Option Bool × Unit) fun i (_ : Option Bool × Unit) => do
              if !(← Op.equalIn D e0 (← part e0 xs (i * l.length)) (← part e0 ys (i * l.length))) then pure (ForInStep.done (some false, ())) else pure (ForInStep.yield (none, ()))) : Sem (Option Bool × Unit)).run P w
            = .ok (if r then (none, ()) else (some false, ())) w := by
        intro m
        induction m with
        | zero =>
          intro k r he
          simp at he
          cases hA : A.drop (k * l.length) <;> cases hB : B.drop (k * l.length) <;> simp [hA, hB, eqL] at he
          subst he
          simp
        | succ m ihm =>
          intro k r he
          simp only [List.replicate_succ, List.flatten_cons] at he
          obtain ⟨r1, r2, g1, g2, rfl⟩ := eqL_append he
          have hlen := eqL_len g1
          simp only [List.length_take, List.length_drop] at hlen
          obtain ⟨px, hpx, vx⟩ := part_ok (n := l.length) (off := k * l.length) h1 hag hc.1 hc.2 hag1 (by omega)
          obtain ⟨py, hpy, vy⟩ := part_ok (n := l.length) (off := k * l.length) h2 hag hc.1 hc.2 hag1 (by omega)
          have hrun := ih e0 l hl D (by omega) px py _ _ r1 vx vy g1 w
          simp only [List.drop_drop] at g2
          rw [show k * l.length + l.length = (k + 1) * l.length by rw [Nat.add_mul, Nat.one_mul]] at g2
          have hrest := ihm (k + 1) r2 g2
          rw [List.range'_succ, List.forIn_cons]
          simp only [Sem.run_bind, hpx, hpy, Result.andThen_ok, hrun]
          cases r1
          · simp
          · simp only [Bool.not_true, Bool.false_eq_true, if_false, Sem.run_pure, Result.andThen_ok, Bool.true_and]
            exact hrest
      have := key n 0 r (by simpa using he)
      simp only [Op.equalIn, Sem.run_bind, run_und hu, Result.andThen_ok, run_size (show 0 < P.cellsOf e0 by omega), hc.1]
      rw [Std.Legacy.Range.forIn_eq_forIn_range']
      simp only [Std.Legacy.Range.size, Nat.sub_zero, Nat.add_sub_cancel, Nat.div_one]
      rw [this]
      cases r <;> rfl
    · cases e
theorem shape_b {d : Nat} {t : TypeId} {sh : List Kd} (e : shapeOf P (d + 1) t = some sh) (hag : isAg P t = some false) (h1 : ∀ k, P.underlying t ≠ some (.int k)) (h2 : P.underlying t ≠ some .string) : sh = [.b] := by
  unfold shapeOf at e
  split at e
  · simp at e; exact e.symm
  · rename_i hu; exact (h1 _ hu).elim
  · rename_i hu; exact (h2 hu).elim
  · rename_i hu; rw [isAg_of hu] at hag; simp [agD] at hag
  · rename_i hu; rw [isAg_of hu] at hag; simp [agD] at hag
  · cases e
theorem p_eq (hf : FR σ im h own fr a.tmps) {x y : Operand} {r q : Ar} {op : BinOp} {t u : TypeId} {neg ag : Bool} {sh : List Kd} (ho : o.op = .binOp op t x y u) (hsh : shapeOf P 8 t = some sh) (hag : isAg P t = some ag)
    (hg : P.eqGuardType P.depth t = false) (hop : op = if neg then .neq else .eql) (hns : ∀ k, P.underlying t ≠ some (.int k)) (hns' : P.underlying t ≠ some .string) (e : trAr σ x = some r) (e' : trAr σ y = some q) {b : Bool} (h1 : eqV ag sh (ev1 fr r) (ev1 fr q) = some b) :
    PureR P σ im h own o a (.b (if neg then !b else b)) := by
  have hr := ar_ok hf e
  have hq := ar_ok hf e'
  have hv : ∃ A B, VX P σ im h own t A (a.eval x) ∧ VX P σ im h own t B (a.eval y) ∧ eqL sh A B = some b ∧
      ((∃ xs ys, a.eval x = .agg xs ∧ a.eval y = .agg ys) ∨ (∃ p p', a.eval x = .bool p ∧ a.eval y = .bool p')) := by
    generalize ev1 fr r = rv at *
    generalize ev1 fr q = qv at *
    cases ag with
    | true =>
      simp only [eqV, if_true] at h1
      split at h1
      case h_2 => cases h1
      rename_i A B
      obtain ⟨xs, hx, g1, g2, g3⟩ := hr.agg_inv
      obtain ⟨ys, hy, k1, k2, k3⟩ := hq.agg_inv
      exact ⟨A, B, .inl ⟨hag, xs, hx, ⟨g1, g2, g3⟩⟩, .inl ⟨hag, ys, hy, ⟨k1, k2, k3⟩⟩, h1, .inl ⟨xs, ys, hx, hy⟩⟩
    | false =>
      simp only [eqV, Bool.false_eq_true, if_false] at h1
      split at h1
      case h_2 => cases h1
      rename_i k
      refine ⟨[rv], [qv], .inr ⟨hag, rv, rfl, hr⟩, .inr ⟨hag, qv, rfl, hq⟩, by simp [eqL, h1], .inr ?_⟩
      have hk := shape_b hsh hag hns hns'
      simp at hk
      subst hk
      cases rv <;> cases qv <;> simp [eq1] at h1
      exact ⟨_, _, hr.b_inv, hq.b_inv⟩
  obtain ⟨A, B, vx, vy, he, hcase⟩ := hv
  have hrun := eq_run (P := P) 8 t sh hsh 10000 (by omega) _ _ A B b vx vy he
  refine ⟨.bool (if neg then !b else b), fun w => ?_, .imm .b⟩
  have hrun' : (Op.equal t (a.eval x) (a.eval y)).run P w = .ok b w := hrun w
  have hguard : (eqGuard op t x y (a.eval x) (a.eval y)).run P w = .ok () w := by
    rcases hcase with ⟨xs, ys, h1, h2⟩ | ⟨p, p', h1, h2⟩ <;> rw [h1, h2]
    · exact run_eqGuard_agg w op t x y xs ys hg
    · unfold eqGuard; cases op <;> rfl
  have hbin : (binOp op t (a.eval x) (a.eval y)).run P w = .ok (.bool (if neg then !b else b)) w := by
    rcases hcase with ⟨xs, ys, h1, h2⟩ | ⟨p, p', h1, h2⟩ <;> rw [h1, h2] at hrun' ⊢ <;> cases neg <;> simp only [hop, if_true, if_false, Bool.false_eq_true]
    · show (do pure (.bool (← Op.equal t (.agg xs) (.agg ys))) : Sem Value).run P w = _
      rw [Sem.run_bind, hrun']; rfl
    · show (do pure (.bool (!(← Op.equal t (.agg xs) (.agg ys)))) : Sem Value).run P w = _
      rw [Sem.run_bind, hrun']; rfl
    · show (do pure (.bool (← Op.equal t (.bool p) (.bool p'))) : Sem Value).run P w = _
      rw [Sem.run_bind, hrun']; rfl
    · show (do pure (.bool (!(← Op.equal t (.bool p) (.bool p')))) : Sem Value).run P w = _
      rw [Sem.run_bind, hrun']; rfl
  unfold execOp
  rw [ho]
  simp only [Sem.run_bind, hguard, Result.andThen_ok, hbin, Sem.run_pure]
end
end Go.Rv
namespace Go.Rv
section
variable {P : Program} {σ : Num} {im lm : Nat → Prop} {B : Nat} {w0 w : World} {own : Own} {bs : Nat → Option Blk} {o : Oper} {a : Act} {fr : Fr} {loc : Loc}
def OpR (P : Program) (σ : Num) (im lm : Nat → Prop) (B : Nat) (w0 : World) (own : Own) (w : World) (o : Oper) (a : Act) (v : AV) (bs' : Nat → Option Blk) : Prop :=
  ∃ own' w' r cv, (execOp a.eval o).run P w = .ok r w' ∧ (r = .value cv ∨ r = .skip ∧ cv = undef) ∧ own.le own' ∧ (∀ b, im b → w'.heap[b]? = w.heap[b]?) ∧
    GS σ im lm B w0 own' bs' w' ∧ VR σ im w'.heap own' v cv
theorem pure_op {v : AV} (g : GS σ im lm B w0 own bs w) (hp : PureR P σ im w.heap own o a v) : OpR P σ im lm B w0 own w o a v bs := by
  obtain ⟨cv, h1, h2⟩ := hp
  exact ⟨own, w, _, cv, h1 w, .inl rfl, own.le_refl, fun _ _ => rfl, g, h2⟩
theorem GS.newRow (g : GS σ im lm B w0 own bs w) {id : Nat} (hid : bs id = none) {xs : List (List AV)} {z : Nat} {p : Bool} {cells : Array Value} {ty : TypeId} (hz : 0 < z)
    (hel : ∀ (x : Nat) (e : List AV), xs[x]? = some e → e.length = z) (hp : p = true → ∀ e ∈ xs, ownL e = false) (hsz : xs.length * z ≤ cells.size)
    (hone : ∀ (j : Nat) (v : Value), j < xs.length * z → cells[j]? = some v → v.oneCell' = true)
    (hrel : ∀ (x : Nat) (e : List AV) (o : Nat) (c : AV) (v : Value), xs[x]? = some e → e[o]? = some c → cells[x * z + o]? = some v → VR σ im w.heap own c v) :
    own.le (upd own id ⟨w.heap.size, xs.length, cells.size, z⟩) ∧ (∀ b, im b → (w.alloc (.cells cells ty)).heap[b]? = w.heap[b]?) ∧
      GS σ im lm B w0 (upd own id ⟨w.heap.size, xs.length, cells.size, z⟩) (upd bs id (.row z p false xs)) (w.alloc (.cells cells ty)) := by
  have hle : own.le (upd own id ⟨w.heap.size, xs.length, cells.size, z⟩) := Own.le_new (g.none_ id hid)
  refine ⟨hle, g.im_push _, ?_⟩
  refine g.new (o := .cells cells ty) (s := cells.size) (b' := .row z p false xs) hid ?_
  refine ⟨rfl, rfl, hz, hel, hp, ⟨fun hi => absurd (g.imlt _ hi) (Nat.lt_irrefl _), fun hi => by cases hi⟩, cells, ty, by simp, rfl, hsz, hone, fun x e o c v hx ho hv => ?_⟩
  exact (hrel x e o c v hx ho hv).mono (fun _ x => x) (g.im_push _) hle
theorem m_alloc (g : GS σ im lm B w0 own bs w) {t : TypeId} {z : List AV} (ho : o.op = .alloc t) (hz : zeroOf P t = some z) {id : Nat} (hid : bs id = none) :
    OpR P σ im lm B w0 own w o a (.ptr id 1 z.length 0 0) (upd bs id (.row z.length (!ownL z) false [z])) := by
  obtain ⟨v, h1, h2, h3, h4⟩ := zero_run (σ := σ) (im := im) (h := w.heap) (own := own) hz
  obtain ⟨k1, k2, k3⟩ := g.newRow (id := id) (ty := t) hid (xs := [z]) (z := z.length) (p := !ownL z) (cells := v.cells) (by omega) (by intro x e hx; cases x <;> simp at hx; rw [hx]) (by simp) (by simp [h2.len])
    (fun j v _ hj => h2.one j v hj) (fun x e o c v hx ho hv => by
      cases x with
      | zero => simp at hx hv; subst hx; exact h2.rel o c v ho hv
      | succ x => simp at hx)
  refine ⟨_, _, .value (.pointer (some ⟨w.heap.size, 0, none⟩)), _, ?_, .inl rfl, k1, k2, k3, ?_⟩
  · simp [execOp, ho, Instr.alloc, h1, newVar, newRow]
  · have := @VR.ptr σ im (w.alloc (.cells v.cells t)).heap (upd own id ⟨w.heap.size, [z].length, v.cells.size, z.length⟩) id 1 z.length 0 0 w.heap.size _ (by simp; rfl) rfl (by omega) (by simp) (fun _ => rfl)
    simpa using this
theorem m_box (g : GS σ im lm B w0 own bs w) (hf : FR σ im w.heap own fr a.tmps) {t : TypeId} {x : Operand} {r : Ar} {cs : List AV} (ho : o.op = .box t x) (e : trAr σ x = some r) (hc : (ev1 fr r).cells? = some cs) (h0 : cs.length ≠ 0)
    {id : Nat} (hid : bs id = none) : OpR P σ im lm B w0 own w o a (.ptr id 1 cs.length 0 0) (upd bs id (.row cs.length (!ownL cs) false [cs])) := by
  obtain ⟨h1, h2, h3⟩ := (ar_ok hf e).cells hc
  obtain ⟨k1, k2, k3⟩ := g.newRow (id := id) (ty := t) hid (xs := [cs]) (z := cs.length) (p := !ownL cs) (cells := (a.eval x).cells) (by omega) (by intro x e hx; cases x <;> simp at hx; rw [hx]) (by simp) (by simp [h1])
    (fun j v _ hj => h2 j v hj) (fun x e o c v hx ho hv => by
      cases x with
      | zero => simp at hx hv; subst hx; exact h3 o c v ho hv
      | succ x => simp at hx)
  refine ⟨_, _, .value (.pointer (some ⟨w.heap.size, 0, none⟩)), _, ?_, .inl rfl, k1, k2, k3, ?_⟩
  · simp [execOp, ho, Instr.box, newVar, newRow]
  · have := @VR.ptr σ im (w.alloc (.cells (a.eval x).cells t)).heap (upd own id ⟨w.heap.size, [cs].length, (a.eval x).cells.size, cs.length⟩) id 1 cs.length 0 0 w.heap.size _ (by simp; rfl) rfl (by omega) (by simp) (fun _ => rfl)
    simpa using this
theorem ld_ok (g : GS σ im lm B w0 own bs w) {x : AV} {v : Value} (r : VR σ im w.heap own x v) (hid : ∀ id ∈ x.ids, bs id = loc[id]?) {n : Nat} {cs : List AV} (h0 : 0 < n) (e : ldCells loc x n = some cs) :
    ∃ (b off : Nat) (vs : List Value), v = .pointer (some ⟨b, off, none⟩) ∧ vs.length = n ∧ cs.length = n ∧ (∀ (j : Nat) (u : Value), vs[j]? = some u → hcell w.heap b (off + j) = some u ∧ u.oneCell' = true) ∧
      ∀ (j : Nat) (c : AV) (u : Value), cs[j]? = some c → vs[j]? = some u → VR σ im w.heap own c u := by
  have mk : ∀ (b off : Nat) (cs : List AV), cs.length = n → (∀ j, j < n → ∃ u, hcell w.heap b (off + j) = some u ∧ u.oneCell' = true) →
      (∀ (j : Nat) (c : AV) (u : Value), cs[j]? = some c → hcell w.heap b (off + j) = some u → VR σ im w.heap own c u) → v = .pointer (some ⟨b, off, none⟩) →
      ∃ (b off : Nat) (vs : List Value), v = .pointer (some ⟨b, off, none⟩) ∧ vs.length = n ∧ cs.length = n ∧ (∀ (j : Nat) (u : Value), vs[j]? = some u → hcell w.heap b (off + j) = some u ∧ u.oneCell' = true) ∧
      ∀ (j : Nat) (c : AV) (u : Value), cs[j]? = some c → vs[j]? = some u → VR σ im w.heap own c u := by
    intro b off cs hl hc hr hv
    have hvs : ∀ (j : Nat) (u : Value), ((List.range n).map fun j => (hcell w.heap b (off + j)).getD undef)[j]? = some u → hcell w.heap b (off + j) = some u ∧ u.oneCell' = true := by
      intro j u hu
      simp only [List.getElem?_map] at hu
      by_cases hj : j < n
      · obtain ⟨u', h1, h2⟩ := hc j hj
        simp [hj, h1] at hu
        subst hu; exact ⟨h1, h2⟩
      · simp [hj] at hu
    refine ⟨b, off, (List.range n).map fun j => (hcell w.heap b (off + j)).getD undef, hv, by simp, hl, hvs, fun j c u hj hu => hr j c u hj (hvs j u hu).1⟩
  cases x <;> simp only [ldCells] at e <;> try (cases e; done)
  · rename_i id m z x oo
    split at e
    case h_2 => cases e
    rename_i z' p imf xs hb
    split at e
    case isFalse => cases e
    rename_i hm
    split at e
    case h_2 => cases e
    rename_i el hel
    split at e
    case isFalse => cases e
    rename_i hfit
    simp at e; subst e
    obtain ⟨ob, b, g1, g2, g3, g4, g5, rfl⟩ := r.ptr_inv
    have hbs : bs id = some (.row z' p imf xs) := by rw [hid id (by simp [AV.ids])]; exact hb
    obtain ⟨ob', q1, q2⟩ := g.some_ _ _ hbs
    rw [g1] at q1; cases q1
    obtain ⟨p1, p2, p3, p4, p5, p6, cells, ty, p7, p8, p9, p10, p11⟩ := q2
    have hz : z = z' := by omega
    subst hz
    have hbb : b = ob.b := g5 (by omega)
    subst hbb
    have hlen := p4 _ _ hel
    have hxl : x < xs.length := (List.getElem?_eq_some_iff.1 hel).1
    have hle : x * z + z ≤ xs.length * z := by
      have : x * z + z = (x + 1) * z := by rw [Nat.add_mul, Nat.one_mul]
      rw [this]; exact Nat.mul_le_mul_right _ hxl
    refine mk _ _ _ (by simp; omega) (fun j hj => ?_) (fun j c u hj hu => ?_) rfl
    · have hlt : x * z + oo + j < cells.size := by omega
      refine ⟨cells[x * z + oo + j], by simp [hcell, p7, hlt], p10 (x * z + oo + j) _ (by omega) (by simp [hlt])⟩
    · simp only [hcell, p7] at hu
      simp only [List.getElem?_take, List.getElem?_drop] at hj
      split at hj
      · exact p11 x el (oo + j) c u hel hj (by rw [← hu]; congr 1; omega)
      · cases hj
  · rename_i cs' oo
    split at e
    case isFalse => cases e
    rename_i hfit
    simp at e; subst e
    cases r.ref_inv with
    | ref hb hx hc =>
      rename_i b off
      refine mk b (off + oo) _ (by simp; omega) (fun j hj => ?_) (fun j c u hj hu => ?_) rfl
      · have := hx (oo + j) (by omega)
        rw [show off + oo + j = off + (oo + j) by omega]; exact this
      · simp only [List.getElem?_take, List.getElem?_drop] at hj
        split at hj
        · exact .imm (hc (oo + j) c u hj (by rw [← hu]; congr 1; omega))
        · cases hj
theorem m_load (g : GS σ im lm B w0 own bs w) (hf : FR σ im w.heap own fr a.tmps) {t : TypeId} {x : Operand} {r : Ar} {ag : Bool} (ho : o.op = .load t x) (hag : isAg P t = some ag) (h0 : 0 < P.cellsOf t)
    (e : trAr σ x = some r) (hid : ∀ id ∈ (ev1 fr r).ids, bs id = loc[id]?) {cs : List AV} {v : AV} (h1 : ldCells loc (ev1 fr r) (P.cellsOf t) = some cs) (h2 : pack ag cs = some v) : OpR P σ im lm B w0 own w o a v bs := by
  obtain ⟨b, off, vs, hx, hl, hl', hc, hr⟩ := ld_ok g (ar_ok hf e) hid h0 h1
  have hload : ∀ j u, vs[j]? = some u → w.cell? ((⟨b, off, none⟩ : Addr).add j) = some u := fun j u hj => by rw [addr_add, cell?_eq]; exact (hc j u hj).1
  cases ag with
  | true =>
    simp only [pack, if_true, Option.some.injEq] at h2; subst h2
    refine ⟨own, w, .value (.agg vs.toArray), .agg vs.toArray, ?_, .inl rfl, own.le_refl, fun _ _ => rfl, g, .agg (by simp; omega) (fun j u hj => (hc j u (by simpa using hj)).2) fun j c u hj hu => hr j c u hj (by simpa using hu)⟩
    have := run_loadCells_list (P := P) w ⟨b, off, none⟩ vs hload
    rw [hl] at this
    simp [execOp, ho, hx, Instr.loadAt, Instr.sureAddr, loadVar, run_isAg hag, run_size h0, this]
  | false =>
    simp only [pack, Bool.false_eq_true, if_false] at h2
    split at h2
    case h_2 => cases h2
    rename_i c
    simp at h2; subst h2
    have hn : P.cellsOf t = 1 := by simpa using hl'.symm
    obtain ⟨u, rfl⟩ : ∃ u, vs = [u] := by
      cases vs with
      | nil => simp at hl; omega
      | cons u r => cases r with
        | nil => exact ⟨u, rfl⟩
        | cons => simp at hl; omega
    have hu := (hc 0 u rfl).1
    refine ⟨own, w, .value u, u, ?_, .inl rfl, own.le_refl, fun _ _ => rfl, g, hr 0 c u rfl rfl⟩
    have : w.cell? ⟨b, off, none⟩ = some u := by rw [cell?_eq]; exact hu
    simp [execOp, ho, hx, Instr.loadAt, Instr.sureAddr, loadVar, run_isAg hag, this]
end
end Go.Rv
namespace Go.Rv
section
variable {P : Program} {σ : Num} {im lm : Nat → Prop} {B : Nat} {w0 w : World} {own : Own} {bs : Nat → Option Blk} {o : Oper} {a : Act} {fr : Fr} {loc : Loc}
theorem GS.write (g : GS σ im lm B w0 own bs w) {id : Nat} {ob : OB} {z : Nat} {p p' : Bool} {xs xs' : List (List AV)} {cells cells' : Array Value} {ty : TypeId} (hown : own id = some ob) (hbs : bs id = some (.row z p false xs))
    (hcells : w.heap[ob.b]? = some (.cells cells ty (0, 0))) (hsz : cells'.size = ob.s) (hlen : xs'.length = xs.length) (hel : ∀ (x : Nat) (e : List AV), xs'[x]? = some e → e.length = z)
    (hp : p' = true → ∀ e ∈ xs', ownL e = false) (hone : ∀ (j : Nat) (v : Value), j < xs.length * z → cells'[j]? = some v → v.oneCell' = true)
    (hrel : ∀ (x : Nat) (e : List AV) (o : Nat) (c : AV) (v : Value), xs'[x]? = some e → e[o]? = some c → cells'[x * z + o]? = some v → VR σ im w.heap own c v) :
    (∀ b, im b → (w.setRow ob.b cells').heap[b]? = w.heap[b]?) ∧ GS σ im lm B w0 own (upd bs id (.row z p' false xs')) (w.setRow ob.b cells') := by
  obtain ⟨ob', q1, q2⟩ := g.some_ _ _ hbs
  rw [hown] at q1; cases q1
  obtain ⟨p1, p2, p3, p4, p5, p6, cells0, ty0, p7, p8, p9, p10, p11⟩ := q2
  have him : ¬ im ob.b := fun h => by have := p6.1 h; cases this
  have himh : ∀ b, im b → (w.setRow ob.b cells').heap[b]? = w.heap[b]? := fun b hb => setRow_other w ob.b b cells' (fun e => him (e ▸ hb))
  refine ⟨himh, ?_⟩
  have := g.set1 (w' := w.setRow ob.b cells') (id := id) (ob' := ob) (b' := .row z p' false xs') (by simp) (by simpa using g.lt _ _ hown) (fun b _ hne => setRow_other w ob.b b cells' hne) (.inr ⟨ob, _, hown, rfl, hbs, rfl⟩) (Own.le_self hown) him
    ⟨by rw [p1, hlen], p2, p3, hel, hp, ⟨fun h => absurd h him, fun h => by cases h⟩, cells', ty, setRow_heap w ob.b cells cells' ty (0, 0) hcells, hsz, by rw [hlen]; exact p9, by rw [hlen]; exact hone,
      fun x e o c v hx ho hv => (hrel x e o c v hx ho hv).mono (fun _ x => x) himh (Own.le_self hown)⟩ rfl rfl rfl
  rwa [upd_self hown] at this
theorem ownL_set : ∀ {cs : List AV} {o : Nat} {v : AV}, ownL cs = false → v.own = false → ownL (cs.set o v) = false
  | [], _, _, _, _ => rfl
  | c :: r, 0, v, h, hv => by simp [ownL] at h ⊢; exact ⟨hv, h.2⟩
  | c :: r, o + 1, v, h, hv => by simp [ownL] at h ⊢; exact ⟨h.1, ownL_set h.2 hv⟩
theorem ownL_setCells : ∀ {l cs : List AV} {o : Nat}, ownL cs = false → ownL l = false → ownL (setCells cs o l) = false
  | [], cs, o, h, _ => h
  | v :: r, cs, o, h, hl => by
    simp [ownL] at hl
    show ownL (setCells (cs.set o v) (o + 1) r) = false
    exact ownL_setCells (ownL_set h hl.1) hl.2
theorem seg_get (L : List Value) (off : Nat) (cs : List Value) (h : off + cs.length ≤ L.length) (k : Nat) :
    (L.take off ++ cs ++ L.drop (off + cs.length))[k]? = if off ≤ k ∧ k < off + cs.length then cs[k - off]? else L[k]? := by
  have ht : (L.take off).length = off := by simp; omega
  by_cases h1 : k < off
  · rw [if_neg (by omega), List.append_assoc, List.getElem?_append_left (by omega), List.getElem?_take, if_pos h1]
  · by_cases h2 : k < off + cs.length
    · rw [if_pos ⟨by omega, h2⟩, List.append_assoc, List.getElem?_append_right (by omega), ht, List.getElem?_append_left (by omega)]
    · rw [if_neg (by omega), List.append_assoc, List.getElem?_append_right (by omega), ht, List.getElem?_append_right (by omega), List.getElem?_drop]
      congr 1; omega
theorem seg_len (L : List Value) (off : Nat) (cs : List Value) (h : off + cs.length ≤ L.length) : (L.take off ++ cs ++ L.drop (off + cs.length)).length = L.length := by
  simp; omega
theorem run_store_at (w : World) (t : TypeId) (b off : Nat) (v : Value) (cells : Array Value) (ty : TypeId) (h0 : 0 < P.cellsOf t) (hv : v.cells.size = P.cellsOf t) (hb : w.heap[b]? = some (.cells cells ty (0, 0)))
    (hfit : off + v.cells.size ≤ cells.size) (hone : ∀ (j : Nat) (u : Value), v.cells[j]? = some u → u.oneCell' = true) :
    (storeVar t ⟨b, off, none⟩ v).run P w = .ok () (w.setRow b (cells.toList.take off ++ v.cells.toList ++ cells.toList.drop (off + v.cells.toList.length)).toArray) := by
  have := run_storeCells_at P b off ty v.cells.toList 0 cells w hb (by simpa using hfit) (fun u hu => by
    obtain ⟨j, hj⟩ := List.mem_iff_getElem?.1 hu
    exact hone j u (by simpa using hj))
  simp only [Nat.add_zero] at this
  unfold storeVar
  rw [Sem.run_bind, run_size h0]
  simp only [Result.andThen_ok]
  rw [if_neg (by simp [hv])]
  exact this
theorem m_store (g : GS σ im lm B w0 own bs w) (hf : FR σ im w.heap own fr a.tmps) {t : TypeId} {x y : Operand} {r q : Ar} (ho : o.op = .store t x y) (h0 : 0 < P.cellsOf t) (ex : trAr σ x = some r) (ey : trAr σ y = some q)
    (hid : ∀ id ∈ (ev1 fr r).ids, bs id = loc[id]?) {cs : List AV} (hc : (ev1 fr q).cells? = some cs) (hn : cs.length = P.cellsOf t) {loc' : Loc} (h1 : stCells loc (ev1 fr r) cs = some loc') :
    ∃ id b', (ev1 fr r).ids = [id] ∧ id < loc.length ∧ loc' = loc.set id b' ∧ OpR P σ im lm B w0 own w o a (.tup []) (upd bs id b') := by
  have hr := ar_ok hf ex
  obtain ⟨c1, c2, c3⟩ := (ar_ok hf ey).cells hc
  generalize ev1 fr r = rv at *
  obtain ⟨xv, hx⟩ : ∃ xv, a.eval x = xv := ⟨_, rfl⟩
  rw [hx] at hr
  cases rv <;> simp only [stCells] at h1 <;> try (cases h1; done)
  rename_i id m z x oo
  split at h1
  case h_2 => cases h1
  rename_i z' p imf xs hb
  split at h1
  case isFalse => cases h1
  rename_i hm
  obtain ⟨hm, himf⟩ := hm
  subst himf
  split at h1
  case h_2 => cases h1
  rename_i el hel
  split at h1
  case isFalse => cases h1
  rename_i hfit
  simp at h1; subst h1
  refine ⟨id, _, rfl, (List.getElem?_eq_some_iff.1 hb).1, rfl, ?_⟩
  obtain ⟨ob, b, g1, g2, g3, g4, g5, rfl⟩ := hr.ptr_inv
  have hbs : bs id = some (.row z' p false xs) := by rw [hid id (by simp [AV.ids])]; exact hb
  obtain ⟨ob', q1, q2⟩ := g.some_ _ _ hbs
  rw [g1] at q1; cases q1
  obtain ⟨p1, p2, p3, p4, p5, p6, cells, ty, p7, p8, p9, p10, p11⟩ := q2
  have hz : z = z' := by omega
  subst hz
  have hbb : b = ob.b := g5 (by omega)
  subst hbb
  have hlen := p4 _ _ hel
  have hxl : x < xs.length := (List.getElem?_eq_some_iff.1 hel).1
  have hle : x * z + z ≤ xs.length * z := by
    have : x * z + z = (x + 1) * z := by rw [Nat.add_mul, Nat.one_mul]
    rw [this]; exact Nat.mul_le_mul_right _ hxl
  have hfit' : x * z + oo + (a.eval y).cells.toList.length ≤ cells.toList.length := by simp; omega
  have hrun := run_store_at (P := P) w t ob.b (x * z + oo) (a.eval y) cells ty h0 (by omega) p7 (by omega) c2
  obtain ⟨N, hN, hNl, hget⟩ : ∃ N : List Value, cells.toList.take (x * z + oo) ++ (a.eval y).cells.toList ++ cells.toList.drop (x * z + oo + (a.eval y).cells.toList.length) = N ∧ N.length = cells.size ∧
      ∀ k, N[k]? = if x * z + oo ≤ k ∧ k < x * z + oo + (a.eval y).cells.size then (a.eval y).cells[k - (x * z + oo)]? else cells[k]? :=
    ⟨_, rfl, by rw [seg_len _ _ _ hfit']; simp, fun k => by rw [seg_get _ _ _ hfit']; simp only [Array.length_toList, Array.getElem?_toList]⟩
  rw [hN] at hrun
  obtain ⟨k1, k2⟩ := g.write (p' := p && !ownL cs) (xs' := xs.set x (setCells el oo cs)) (cells' := N.toArray)
    g1 hbs p7 (by rw [List.size_toArray, hNl]; exact p8) (by simp)
    (fun k e he => by
      rw [List.getElem?_set] at he
      by_cases hk : x = k
      · subst hk; simp [hxl] at he; subst he; rw [length_setCells]; exact hlen
      · rw [if_neg hk] at he; exact p4 k e he)
    (fun hp e he => by
      simp at hp
      rcases List.mem_or_eq_of_mem_set he with he | he
      · exact p5 hp.1 e he
      · subst he; exact ownL_setCells (p5 hp.1 el (List.mem_of_getElem? hel)) hp.2)
    (fun j v hj hv => by
      simp only [List.getElem?_toArray, hget] at hv
      split at hv
      · exact c2 _ _ hv
      · exact p10 j v hj hv)
    (fun k e j c v he hj hv => by
      simp only [List.getElem?_toArray, hget] at hv
      rw [List.getElem?_set] at he
      by_cases hk : x = k
      · subst hk
        simp [hxl] at he
        subst he
        rw [getElem?_setCells _ _ _ _ hfit] at hj
        by_cases hj2 : oo ≤ j ∧ j < oo + cs.length
        · rw [if_pos hj2] at hj
          rw [if_pos (by omega)] at hv
          exact c3 (j - oo) c v hj (by rw [← hv]; congr 1; omega)
        · rw [if_neg hj2] at hj
          rw [if_neg (by omega)] at hv
          exact p11 x el j c v hel hj hv
      · rw [if_neg hk] at he
        have hjl : j < z := by have := p4 k e he; have := (List.getElem?_eq_some_iff.1 hj).1; omega
        have hne : ¬ (x * z + oo ≤ k * z + j ∧ k * z + j < x * z + oo + (a.eval y).cells.size) := by
          intro hh
          rcases Nat.lt_or_gt_of_ne hk with h | h
          · have : (x + 1) * z ≤ k * z := Nat.mul_le_mul_right _ h
            rw [Nat.add_mul, Nat.one_mul] at this; omega
          · have : (k + 1) * z ≤ x * z := Nat.mul_le_mul_right _ h
            rw [Nat.add_mul, Nat.one_mul] at this; omega
        rw [if_neg hne] at hv
        exact p11 k e j c v he hj hv)
  refine ⟨own, _, .skip, undef, ?_, .inr ⟨rfl, rfl⟩, own.le_refl, k1, k2, .imm (.tup rfl (by simp))⟩
  simp [execOp, ho, hx, Instr.storeAt, Instr.sureAddr, hrun]
end
end Go.Rv
namespace Go.Rv
section
variable {P : Program} {σ : Num} {im lm : Nat → Prop} {B : Nat} {w0 w : World} {own : Own} {bs : Nat → Option Blk} {o : Oper} {a : Act} {fr : Fr} {loc : Loc} {h : Array Obj}
structure RC (σ : Num) (im : Nat → Prop) (h : Array Obj) (own : Own) (z : Nat) (xs : List (List AV)) (cells : Array Value) : Prop where
  len : xs.length * z ≤ cells.size
  el : ∀ (x : Nat) (e : List AV), xs[x]? = some e → e.length = z
  one : ∀ (j : Nat) (v : Value), j < xs.length * z → cells[j]? = some v → v.oneCell' = true
  rel : ∀ (x : Nat) (e : List AV) (o : Nat) (c : AV) (v : Value), xs[x]? = some e → e[o]? = some c → cells[x * z + o]? = some v → VR σ im h own c v
theorem idx_lt {x z o n : Nat} (hx : x < n) (ho : o < z) : x * z + o < n * z := by
  have : (x + 1) * z ≤ n * z := Nat.mul_le_mul_right _ hx
  rw [Nat.add_mul, Nat.one_mul] at this; omega
theorem made_ok {zs : List AV} {zv : Array Value} (r : CR σ im h own zs zv) (h0 : 0 < zs.length) (n m : Nat) (hnm : n ≤ m) :
    RC σ im h own zs.length (List.replicate n zs) (madeCells zv (m * zs.length)) := by
  have hl := r.len
  have hget : ∀ (k : Nat) (v : Value), (madeCells zv (m * zs.length))[k]? = some v → zv[k % zs.length]? = some v := by
    intro k v hk
    simp only [madeCells, Array.getElem?_map, Array.getElem?_range] at hk
    by_cases hkl : k < m * zs.length
    · have hmod : k % zv.size < zv.size := Nat.mod_lt _ (by omega)
      simp [hkl, getElem!_def, hmod] at hk
      rw [hl]
      simp [hmod, hk]
    · simp [hkl] at hk
  refine ⟨by rw [size_madeCells, List.length_replicate]; exact Nat.mul_le_mul_right _ hnm, fun x e hx => ?_, fun j v _ hj => r.one _ v (hget j v hj), fun x e k c v hx hk hv => ?_⟩
  · rw [List.getElem?_replicate] at hx; split at hx <;> simp at hx; rw [← hx]
  · rw [List.getElem?_replicate] at hx; split at hx <;> simp at hx; subst hx
    have hkl : k < zs.length := (List.getElem?_eq_some_iff.1 hk).1
    have := hget _ v hv
    rw [Nat.mul_comm, Nat.mul_add_mod, Nat.mod_eq_of_lt hkl] at this
    exact r.rel k c v hk this
theorem bsl_go (hf : FR σ im h own fr a.tmps) {z : Nat} : ∀ (ps : List (Nat × Operand)) (qs : List (Nat × Ar)) (xs xs' : List (List AV)) (cells : Array Value),
    trSParts σ ps = some qs → bslGo fr z xs qs = some xs' → RC σ im h own z xs cells →
    ∃ cells', Instr.fill (fun i => some (i * z, z)) cells (ps.map fun p => (p.1, a.eval p.2)) = some cells' ∧ cells'.size = cells.size ∧ xs'.length = xs.length ∧ RC σ im h own z xs' cells'
  | [], qs, xs, xs', cells, e, e', r => by
    simp [trSParts] at e; subst e; simp [bslGo] at e'; subst e'
    exact ⟨cells, rfl, rfl, rfl, r⟩
  | (j, x) :: ps, qs, xs, xs', cells, e, e', r => by
    simp only [trSParts] at e
    split at e
    case h_2 => cases e
    rename_i q l hq hl
    simp at e; subst e
    simp only [bslGo] at e'
    split at e'
    case h_2 => cases e'
    rename_i cl hcl
    split at e'
    case isFalse => cases e'
    rename_i hc
    obtain ⟨h1, h2, h3⟩ := (ar_ok hf hq).cells hcl
    have hjl : (j + 1) * z ≤ xs.length * z := Nat.mul_le_mul_right _ hc.2
    rw [Nat.add_mul, Nat.one_mul] at hjl
    have hlen := r.len
    have hfs := fold_set (a.eval x).cells.toList cells (j * z) 0 (by simp; omega)
    simp only [Array.length_toList, Nat.add_zero, Array.getElem?_toList] at hfs
    have ef : (a.eval x).cells.zipIdx.foldl (fun cs (c, k) => cs.setIfInBounds (j * z + k) c) cells = ((a.eval x).cells.toList.zipIdx 0).foldl (fun cs (x : Value × Nat) => cs.setIfInBounds (j * z + x.2) x.1) cells := by
      rw [← Array.foldl_toList]; simp [Array.toList_zipIdx]
    have r' : RC σ im h own z (xs.set j cl) ((a.eval x).cells.zipIdx.foldl (fun cs (c, k) => cs.setIfInBounds (j * z + k) c) cells) := by
      rw [ef]
      refine ⟨by rw [hfs.1, List.length_set]; exact hlen, fun k e he => ?_, fun k v hk hv => ?_, fun k e m c v he hm hv => ?_⟩
      · rw [List.getElem?_set] at he
        by_cases hk : j = k
        · subst hk; simp [hc.2] at he; subst he; exact hc.1
        · rw [if_neg hk] at he; exact r.el k e he
      · rw [hfs.2] at hv
        split at hv
        · exact h2 _ v hv
        · exact r.one k v (by simpa using hk) hv
      · rw [hfs.2] at hv
        rw [List.getElem?_set] at he
        by_cases hk : j = k
        · subst hk
          simp [hc.2] at he; subst he
          have hml : m < cl.length := (List.getElem?_eq_some_iff.1 hm).1
          rw [if_pos (by omega)] at hv
          exact h3 m c v hm (by rw [← hv]; congr 1; omega)
        · rw [if_neg hk] at he
          have hml : m < z := by have := r.el k e he; have := (List.getElem?_eq_some_iff.1 hm).1; omega
          have hne : ¬ (j * z ≤ k * z + m ∧ k * z + m < j * z + (a.eval x).cells.size) := by
            intro hh
            rcases Nat.lt_or_gt_of_ne hk with hlt | hlt
            · have : (j + 1) * z ≤ k * z := Nat.mul_le_mul_right _ hlt
              rw [Nat.add_mul, Nat.one_mul] at this; omega
            · have : (k + 1) * z ≤ j * z := Nat.mul_le_mul_right _ hlt
              rw [Nat.add_mul, Nat.one_mul] at this; omega
          rw [if_neg hne] at hv
          exact r.rel k e m c v he hm hv
    obtain ⟨cells', g1, g2, g3, g4⟩ := bsl_go hf ps l _ xs' _ hl e' r'
    refine ⟨cells', ?_, by rw [g2, ef, hfs.1], by rw [g3, List.length_set], g4⟩
    simp only [List.map_cons, Instr.fill]
    rw [if_neg (by simp; omega)]
    exact g1
theorem new_sl (g : GS σ im lm B w0 own bs w) {id : Nat} (hid : bs id = none) {xs : List (List AV)} {z cap : Nat} {p : Bool} {cells : Array Value} {ty : TypeId} (hz : 0 < z) (hp : p = true → ∀ e ∈ xs, ownL e = false) (r : RC σ im w.heap own z xs cells) (hcap : xs.length ≤ cap) (hsz : cap * z ≤ cells.size)
    {o : Oper} {a : Act} (hrun : (execOp a.eval o).run P w = .ok (.value (.slice (some ⟨w.heap.size, 0, none⟩) xs.length cap)) (w.alloc (.cells cells ty))) (n : Nat) (hn : xs.length = n) :
    OpR P σ im lm B w0 own w o a (.sl id n z 0 n) (upd bs id (.row z p false xs)) := by
  subst hn
  obtain ⟨k1, k2, k3⟩ := g.newRow (id := id) (ty := ty) hid (xs := xs) (z := z) (p := p) (cells := cells) hz r.el hp r.len r.one r.rel
  refine ⟨_, _, _, _, hrun, .inl rfl, k1, k2, k3, ?_⟩
  have := @VR.sl σ im (w.alloc (.cells cells ty)).heap (upd own id ⟨w.heap.size, xs.length, cells.size, z⟩) id xs.length z 0 xs.length w.heap.size cap _ (by simp; rfl) rfl hz (Nat.le_refl _) (by omega) hcap (fun _ => ⟨rfl, by simpa using hsz⟩)
  simpa using this
theorem m_bsl (g : GS σ im lm B w0 own bs w) (hf : FR σ im w.heap own fr a.tmps) {t e : TypeId} {len : Nat} {parts : Array (Nat × Operand)} {qs : List (Nat × Ar)} {z : List AV} (ho : o.op = .buildSlice t len parts) (he : elemTy P t = some e) (hz : zeroOf P e = some z)
    (hsz : len * P.cellsOf e ≤ 65536) (hq : trSParts σ parts.toList = some qs) {xs : List (List AV)} (h1 : bslGo fr z.length (List.replicate len z) qs = some xs) {id : Nat} (hid : bs id = none) :
    OpR P σ im lm B w0 own w o a (.sl id len z.length 0 len) (upd bs id (.row z.length (xs.all fun e => !ownL e) false xs)) := by
  obtain ⟨v, z1, z2, z3, z4⟩ := zero_run (σ := σ) (im := im) (h := w.heap) (own := own) hz
  have hu : P.underlying t = some (.slice e) := by
    unfold elemTy at he
    split at he
    · rename_i hu; simp at he; subst he; exact hu
    · cases he
  have hm := made_ok z2 (by omega) len len (Nat.le_refl _)
  obtain ⟨cells, g1, g2, g3, g4⟩ := bsl_go hf parts.toList qs _ xs _ hq h1 hm
  simp only [List.length_replicate] at g3
  rw [size_madeCells] at g2
  have hvs : v.cells.size = z.length := z2.len.symm
  refine new_sl (ty := e) g hid (by omega) (by simp) g4 (cap := len) (by omega) (by rw [g2]; exact Nat.le_refl _) ?_ len g3
  have hfill : Instr.fill (fun i => some (i * P.cellsOf e, P.cellsOf e)) ((Array.range (len * P.cellsOf e)).map fun x => (if len * P.cellsOf e = 0 then #[] else v.cells)[x % (if len * P.cellsOf e = 0 then #[] else v.cells).size]!) (parts.map fun p => (p.1, a.eval p.2)).toList = some cells := by
    rw [← z3, Array.toList_map]
    by_cases h0 : len * z.length = 0
    · have : len = 0 := by
        rcases Nat.mul_eq_zero.1 h0 with h | h
        · exact h
        · omega
      subst this
      have e1 : (Array.range (0 * z.length)).map (fun x => (if 0 * z.length = 0 then #[] else v.cells)[x % (if 0 * z.length = 0 then #[] else v.cells).size]!) = madeCells v.cells (0 * z.length) := by
        apply Array.ext
        · simp [madeCells]
        · intro i hi _; simp at hi
      rw [e1]
      simpa using g1
    · simp only [h0, if_false]
      simpa [madeCells] using g1
  have hrun : (Instr.buildSlice t len (parts.map fun p => (p.1, a.eval p.2))).run P w = .ok (.slice (some ⟨w.heap.size, 0, none⟩) len len) (w.alloc (.cells cells e)) := by
    unfold Instr.buildSlice
    simp only [Sem.run_bind, run_und hu, Result.andThen_ok, run_size z4]
    rw [if_neg (by omega)]
    by_cases h0 : len * P.cellsOf e = 0
    · simp only [h0, if_true] at hfill
      simp only [h0, if_true, Sem.run_bind, Sem.run_pure, Result.andThen_ok, hfill]
      simp [newRow]
    · simp only [h0, if_false] at hfill
      simp only [h0, if_false, Sem.run_bind, Sem.run_pure, Result.andThen_ok, z1, hfill]
      simp [newRow]
  rw [g3]
  simp [execOp, ho, hrun]
theorem m_mkrow (g : GS σ im lm B w0 own bs w) (hf : FR σ im w.heap own fr a.tmps) {t e : TypeId} {x y : Operand} {r q : Ar} {z : List AV} (ho : o.op = .makeSlice t x y) (he : elemTy P t = some e) (hz : zeroOf P e = some z)
    (hsm : smallBytes P e = true) (ex : trAr σ x = some r) (ey : trAr σ y = some q) {k k' : IntKind} {n m : Int} (h1 : ev1 fr r = .i k n) (h2 : ev1 fr q = .i k' m) (h0 : 0 ≤ n) (hnm : n ≤ m) (hm : m ≤ most) {id : Nat} (hid : bs id = none) :
    OpR P σ im lm B w0 own w o a (.sl id n.toNat z.length 0 n.toNat) (upd bs id (.row z.length (!ownL z) false (List.replicate n.toNat z))) := by
  obtain ⟨v, z1, z2, z3, z4⟩ := zero_run (σ := σ) (im := im) (h := w.heap) (own := own) hz
  have hu : P.underlying t = some (.slice e) := by
    unfold elemTy at he
    split at he
    · rename_i hu; simp at he; subst he; exact hu
    · cases he
  obtain ⟨i, hi, hisz⟩ := info_of_cells z4
  have hzi : i.zero = some v := by
    have := z1 w
    cases hzz : i.zero with
    | none => simp [zeroValue, run_ti hi, hzz] at this
    | some u => simp [zeroValue, run_ti hi, hzz] at this; rw [this]
  have hb : i.bytes ≤ 65536 := by
    simp [smallBytes, Program.bytesOf, hi] at hsm; exact hsm.2
  have hx := (h1 ▸ ar_ok hf ex).i_inv
  have hy := (h2 ▸ ar_ok hf ey).i_inv
  have hbm : (i.bytes : Int) * m ≤ 281474976710656 := by
    have : (i.bytes : Int) * m ≤ 65536 * 16777216 := Int.mul_le_mul (by omega) (by simpa [most] using hm) (by omega) (by omega)
    omega
  have hrun := run_make (P := P) w t e i v hu hi hzi k k' n m h0 hnm hbm (by simp [most] at hm; omega)
  have hmade := made_ok z2 (by omega) n.toNat m.toNat (by omega)
  refine new_sl (P := P) (o := o) (a := a) (cap := m.toNat) (ty := e) g hid (by omega) (fun hp e he => by rw [List.eq_of_mem_replicate he]; simpa using hp) hmade (by simp; omega) (by rw [size_madeCells]; exact Nat.le_refl _) (by
    rw [List.length_replicate]
    simp only [execOp, ho, hx, hy, Sem.run_bind, hrun, Result.andThen_ok, Sem.run_pure]
    rw [hisz, z3]) n.toNat (by simp)
end
end Go.Rv
