import PyProof.Rows.All
import Wide.All
import OpenK.AllK
import Wide.FinOn
import KE.KSortTup
import Lean
import PySem.Challenge.RW_pb0196_02
set_option Elab.async false
set_option maxRecDepth 100000
set_option linter.all false
set_option maxHeartbeats 4000000
set_option autoImplicit false
namespace Lig

-- V1
section
open PySem PySem.Calls PySem.W PyProof.Rows

/-! Values, as plain trees; the objects that the run owns, by their places. -/
inductive AV where
  | none
  | bool (b : Bool)
  | int (i : Int)
  | bytes (b : List UInt8)
  | tup (l : List AV)
  | lst (l : List AV)
  | dct (ks : List Int) (vs : List AV)
  | ins (C : Addr) (ns : List Str) (vs : List AV)
  | rng (a b c : Int)
  | enm (v : AV)
  | obj (i : Nat)
  | fn (a : Addr)
  | cls (a : Addr)
  | bi (v : Value)

inductive AO where
  | list (l : List AV)
  | edict
  | idict (ks : List Int) (vs : List AV)
  | bdict (ks : List (List UInt8)) (vs : List AV)
  | barr (b : List UInt8)
  | inst (C : Addr) (d : Nat)
  | ns (ks : List Str) (vs : List AV)

abbrev Loc := List (Str × AV)
abbrev HH := List AO

noncomputable def put (x : Str) (v : AV) (m : Loc) : Loc := (x, v) :: m
noncomputable def get (x : Str) : Loc → Option AV
  | [] => none
  | (y, w) :: r => bif x == y then some w else get x r

/-- what a call of a function, and a class's making, give: told of what is to hold behind it -/
structure Cx where
  glob : Str → Option AV
  call : Addr → List AV → HH → (AV → HH → Prop) → Prop
  init : Addr → List AV → HH → (HH → Prop) → Prop
  meth : Addr → Str → Option Addr
  attr : Addr → Str → Bool

noncomputable def optP {α : Type} (o : Option α) (Q : α → Prop) : Prop := match o with
  | some x => Q x
  | none => False
noncomputable def ifP (c : Bool) (A B : Prop) : Prop := match c with
  | true => A
  | false => B

/-- the two ways behind a test -/
noncomputable def selP (c : Bool) (A B : Prop) : Prop := (c = true → A) ∧ (c = false → B)

noncomputable def AV.bool? : AV → Option Bool
  | .bool b => Option.some b
  | _ => Option.none
noncomputable def AV.int? : AV → Option Int
  | .int i => Option.some i
  | _ => Option.none
noncomputable def AV.bytes? : AV → Option (List UInt8)
  | .bytes b => Option.some b
  | _ => Option.none
noncomputable def AV.tup? : AV → Option (List AV)
  | .tup l => Option.some l
  | _ => Option.none
noncomputable def AV.lst? : AV → Option (List AV)
  | .lst l => Option.some l
  | _ => Option.none
noncomputable def AO.list? : AO → Option (List AV)
  | .list l => Option.some l
  | _ => Option.none
noncomputable def AO.barr? : AO → Option (List UInt8)
  | .barr l => Option.some l
  | _ => Option.none
noncomputable def isNone : AV → Bool
  | .none => true
  | _ => false
noncomputable def isBi : AV → Bool
  | .bi _ => true
  | _ => false

noncomputable def onO {α : Type} (o : Option α) (f : α → Bool) : Bool := match o with
  | some x => f x
  | none => false
mutual
noncomputable def eqB : AV → AV → Bool
  | .none, b => isNone b
  | .bool a, b => onO b.bool? fun b => a == b
  | .int a, b => onO b.int? fun b => a == b
  | .bytes a, b => onO b.bytes? fun b => a == b
  | .tup l, b => onO b.tup? fun r => eqsB l r
  | .lst l, b => onO b.lst? fun r => eqsB l r
  | _, _ => false
noncomputable def eqsB : List AV → List AV → Bool
  | [], r => r.isEmpty
  | x :: l, [] => false
  | x :: l, y :: r => eqB x y && eqsB l r
end
mutual
/-- the two may be held against each other, k deep -/
noncomputable def okB : AV → Nat → AV → Bool
  | .bool _, _, b => b.bool?.isSome
  | .int _, _, b => b.int?.isSome
  | .bytes _, _, b => b.bytes?.isSome
  | .tup l, k, b => onO b.tup? fun r => k != 0 && oksB l (k - 1) r
  | .lst l, k, b => onO b.lst? fun r => k != 0 && (l.length != r.length || oksB l (k - 1) r)
  | _, _, _ => false
noncomputable def oksB : List AV → Nat → List AV → Bool
  | [], _, _ => true
  | x :: l, k, [] => true
  | x :: l, k, y :: r => okB x k y && oksB l k r
end

noncomputable def viewP (H : HH) (v : AV) (Q : List AV → Prop) : Prop := match v with
  | .lst l => Q l
  | .obj i => optP H[i]? fun o => optP o.list? Q
  | _ => False
/-- an owned list as the plain list that it is now -/
noncomputable def seenP (H : HH) (v : AV) (Q : AV → Prop) : Prop := match v with
  | .obj i => optP H[i]? fun o => optP o.list? fun l => Q (.lst l)
  | v => Q v

noncomputable def rangeL (a c : Int) : Nat → List AV
  | 0 => []
  | n + 1 => .int a :: rangeL (a + c) c n
noncomputable def rangeN (a b c : Int) : Nat := (Builtin.Range.rangeSize a b c).toNat
noncomputable def smallI (x : Int) : Bool := decide (-4611686018427387904 < x ∧ x < 4611686018427387904)
noncomputable def fits (n : Nat) : Prop := n ≤ 1048576

/-- what a loop goes over, and the items -/
noncomputable def enumL (i : Nat) : List AV → List AV
  | [] => []
  | x :: r => .tup [.int i, x] :: enumL (i + 1) r
noncomputable def srcP (H : HH) (v : AV) (Q : List AV → Prop) : Prop := match v with
  | .tup l => fits l.length ∧ Q l
  | .dct ks _ => fits ks.length ∧ Q (ks.map .int)
  | .bytes b => fits b.length ∧ Q (b.map fun x => .int x.toNat)
  | .rng a b c => (smallI a = true ∧ smallI b = true ∧ (c = 1 ∨ c = -1) ∧ fits (rangeN a b c)) ∧ Q (rangeL a c (rangeN a b c))
  | .enm v => viewP H v fun l => fits l.length ∧ Q (enumL 0 l)
  | v => viewP H v fun l => fits l.length ∧ Q l
/-- what is watched while a loop goes -/
noncomputable def watch : AV → AV
  | .enm v => v
  | v => v
/-- a source's items stand as they stood -/
noncomputable def still (H : HH) (v : AV) (H' : HH) : Prop := match v with
  | .obj i => H'[i]? = H[i]?
  | _ => True

noncomputable def truthP (H : HH) (v : AV) (Q : Bool → Prop) : Prop := match v with
  | .bool b => Q b
  | v => viewP H v fun l => fits l.length ∧ Q (!l.isEmpty)

noncomputable def intP (op : Operator) (a b : Int) (Q : Int → Prop) : Prop := match op with
  | .Add => Q (a + b)
  | .Sub => Q (a - b)
  | .Mult => smallI a = true ∧ Q (a * b)
  | .FloorDiv => (0 < b ∧ b < 1073741824) ∧ Q (a.fdiv b)
  | .Mod => (0 < b ∧ b < 1073741824) ∧ Q (a.fmod b)
  | .LShift => (smallI a = true ∧ 0 ≤ b ∧ b ≤ 64) ∧ Q (a * 2 ^ b.toNat)
  | .RShift => 0 ≤ b ∧ Q (a.fdiv (2 ^ b.toNat))
  | .BitOr => Q (Builtin.bitOr a b)
  | .BitAnd => Q (Builtin.bitAnd a b)
  | _ => False
noncomputable def isAdd : Operator → Bool
  | .Add => true
  | _ => false
noncomputable def binP (H : HH) (op : Operator) (a b : AV) (Q : AV → Prop) : Prop := match a with
  | .int a => optP b.int? fun b => intP op a b fun i => Q (.int i)
  | .tup a => ifP (isAdd op) (optP b.tup? fun b => fits (a ++ b).length ∧ Q (.tup (a ++ b))) False
  | .bytes a => ifP (isAdd op) (optP b.bytes? fun b => fits (a ++ b).length ∧ Q (.bytes (a ++ b))) False
  | a => ifP (isAdd op) (viewP H a fun a => viewP H b fun b => fits (a ++ b).length ∧ Q (.lst (a ++ b))) False

noncomputable def ints? : List AV → Option (List Int)
  | [] => some []
  | x :: r => x.int?.bind fun i => (ints? r).map (i :: ·)
noncomputable def bytess? : List AV → Option (List (List UInt8))
  | [] => some []
  | x :: r => x.bytes?.bind fun i => (bytess? r).map (i :: ·)

noncomputable def eqP (H : HH) (a b : AV) (Q : Bool → Prop) : Prop := match a with
  | .int i => optP b.int? fun j => Q (i == j)
  | a => seenP H a fun a => seenP H b fun b => ifP (okB a 9 b) (Q (eqB a b)) False
noncomputable def int2 (a b : AV) (Q : Int → Int → Prop) : Prop := optP a.int? fun i => optP b.int? fun j => Q i j
noncomputable def inP (H : HH) (a v : AV) (Q : Bool → Prop) : Prop := match a with
  | .int x => viewP H v fun l => optP (ints? l) fun r => Q (r.any (· == x))
  | .bytes x => match v with
    | .lst l => optP (bytess? l) fun r => Q (r.any (· == x))
    | .obj i => optP H[i]? fun o => match o with
      | .list l => optP (bytess? l) fun r => Q (r.any (· == x))
      | .edict => Q false
      | .bdict ks _ => Q (ks.any (· == x))
      | _ => False
    | _ => False
  | _ => False
noncomputable def cmpP (H : HH) (op : CmpOp) (a b : AV) (Q : Bool → Prop) : Prop := match op with
  | .Lt => int2 a b fun i j => Q (decide (i < j))
  | .LtE => int2 a b fun i j => Q (decide (i ≤ j))
  | .Gt => int2 a b fun i j => Q (decide (j < i))
  | .GtE => int2 a b fun i j => Q (decide (j ≤ i))
  | .Eq => eqP H a b Q
  | .NotEq => eqP H a b fun c => Q (!c)
  | .Is => optP a.bytes? fun _ => ifP (isNone b) (Q false) False
  | .In => inP H a b Q
  | _ => False

noncomputable def cut {α : Type} (l : List α) (lo hi : Option Int) : List α :=
  (l.drop (lo.elim 0 (clipAt l.length))).take (hi.elim l.length (clipAt l.length) - lo.elim 0 (clipAt l.length))

section
variable {κ : Type} [DecidableEq κ]
noncomputable def findK (k : κ) : List κ → List AV → Option AV
  | [], _ => none
  | x :: ks, [] => none
  | x :: ks, v :: vs => if x = k then some v else findK k ks vs
noncomputable def storeK (k : κ) (w : AV) : List κ → List AV → List κ × List AV
  | [], _ => ([k], [w])
  | x :: ks, [] => ([k], [w])
  | x :: ks, v :: vs => if x = k then (x :: ks, w :: vs) else ((x :: (storeK k w ks vs).1), (v :: (storeK k w ks vs).2))
end

noncomputable def pick (l : List AV) (k : Int) : Option AV := if 0 ≤ k then l[k.toNat]? else if 0 ≤ k + l.length then l[(k + l.length).toNat]? else none
noncomputable def pickP (l : List AV) (i : AV) (Q : AV → Prop) : Prop := optP i.int? fun k => smallI k = true ∧ optP (pick l k) Q
noncomputable def itemP (H : HH) (o i : AV) (Q : AV → Prop) : Prop := match o with
  | .dct ks vs => optP i.int? fun k => optP (findK k ks vs) Q
  | .tup l => optP i.int? fun k => (0 ≤ k ∧ smallI k = true) ∧ optP l[k.toNat]? Q
  | .lst l => pickP l i Q
  | .obj j => optP H[j]? fun o => match o with
    | .list l => pickP l i Q
    | .idict ks vs => optP i.int? fun k => optP (findK k ks vs) Q
    | .bdict ks vs => optP i.bytes? fun k => optP (findK k ks vs) Q
    | _ => False
  | _ => False

noncomputable def cutP (H : HH) (o : AV) (lo hi : Option Int) (Q : AV → Prop) : Prop := match o with
  | .tup l => (fits l.length ∧ lo = none) ∧ optP hi fun i => 0 ≤ i ∧ Q (.tup (l.take i.toNat))
  | .bytes l => fits l.length ∧ Q (.bytes (cut l lo hi))
  | v => viewP H v fun l => fits l.length ∧ Q (.lst (cut l lo hi))

noncomputable def setP (H : HH) (i : Nat) (o : AO) (Q : HH → Prop) : Prop := ∃ H', H.set i o = H' ∧ Q H'
noncomputable def newP (H : HH) (o : AO) (Q : Nat → HH → Prop) : Prop := ∃ n, H.length = n ∧ ∃ H', H ++ [o] = H' ∧ Q n H'

/-- where a list's place is -/
noncomputable def placeO (n : Nat) (k : Int) : Option Nat := if 0 ≤ k then some k.toNat else if 0 ≤ k + n then some (k + n).toNat else none
noncomputable def setItemP (H : HH) (o i v : AV) (Q : HH → Prop) : Prop := match o with
  | .obj j => optP H[j]? fun o => match o with
    | .list l => optP i.int? fun k => smallI k = true ∧ optP (placeO l.length k) fun p => p < l.length ∧ setP H j (.list (l.set p v)) Q
    | .edict => (match i with
      | .int k => setP H j (.idict [k] [v]) Q
      | .bytes k => setP H j (.bdict [k] [v]) Q
      | _ => False)
    | .idict ks vs => optP i.int? fun k => fits ks.length ∧ setP H j (.idict (storeK k v ks vs).1 (storeK k v ks vs).2) Q
    | .bdict ks vs => optP i.bytes? fun k => fits ks.length ∧ setP H j (.bdict (storeK k v ks vs).1 (storeK k v ks vs).2) Q
    | _ => False
  | _ => False

noncomputable def AO.ns? : AO → Option (List Str × List AV)
  | .ns ks vs => Option.some (ks, vs)
  | _ => Option.none
noncomputable def AO.inst? : AO → Option (Addr × Nat)
  | .inst K d => Option.some (K, d)
  | _ => Option.none
noncomputable def ownP (C : Cx) (K : Addr) (x : Str) (ks : List Str) (vs : List AV) (Q : AV → Prop) : Prop := ifP (C.attr K x) (optP (findK x ks vs) fun v => ifP (isBi v) False (Q v)) False
noncomputable def attrP (C : Cx) (H : HH) (o : AV) (x : Str) (Q : AV → Prop) : Prop := match o with
  | .obj i => optP H[i]? fun o => optP o.inst? fun c => optP H[c.2]? fun d => optP d.ns? fun n => ownP C c.1 x n.1 n.2 Q
  | .ins K ks vs => ownP C K x ks vs Q
  | _ => False
noncomputable def storeC (k : Str) (w : AV) : List Str → List AV → (List Str → List AV → Prop) → Prop
  | [], _, Q => Q [k] [w]
  | x :: ks, [], Q => Q [k] [w]
  | x :: ks, v :: vs, Q => ifP (x == k) (Q (x :: ks) (w :: vs)) (storeC k w ks vs fun ks' vs' => Q (x :: ks') (v :: vs'))
noncomputable def setAttrP (C : Cx) (H : HH) (o : AV) (x : Str) (v : AV) (Q : HH → Prop) : Prop := match o with
  | .obj i => optP H[i]? fun o => optP o.inst? fun c => optP H[c.2]? fun d => optP d.ns? fun n => ifP (C.attr c.1 x && decide (n.1.length ≤ 100)) (storeC x v n.1 n.2 fun ks vs => setP H c.2 (.ns ks vs) Q) False
  | _ => False

noncomputable def insertI (x : Int) : List Int → List Int
  | [] => [x]
  | y :: r => if x ≤ y then x :: y :: r else y :: insertI x r
noncomputable def sortI : List Int → List Int
  | [] => []
  | x :: r => insertI x (sortI r)

/-- rows (tuple of ints, int) -/
abbrev Row := List Int × Int
noncomputable def two? (v : AV) : Option (AV × AV) := v.tup?.bind fun l => match l with
  | [a, b] => some (a, b)
  | _ => none
noncomputable def row? (v : AV) : Option Row := (two? v).bind fun p => p.1.tup?.bind fun l => (ints? l).bind fun l => p.2.int?.map fun i => (l, i)
noncomputable def rows? : List AV → Option (List Row)
  | [] => some []
  | x :: r => (row? x).bind fun y => (rows? r).map (y :: ·)
noncomputable def rowA (r : Row) : AV := .tup [.tup (r.1.map .int), .int r.2]
noncomputable def ltL : List Int → List Int → Bool
  | l, [] => false
  | [], y :: r => true
  | x :: l, y :: r => decide (x < y) || (decide (x = y) && ltL l r)
noncomputable def ltR (a b : Row) : Bool := ltL a.1 b.1 || (decide (a.1 = b.1) && decide (a.2 < b.2))
/-- the sort's asks, answered -/
noncomputable def kasRun {α : Type} (lt : Nat → Nat → Bool) : KasT α → α
  | .ret a => a
  | .ask i j k => kasRun lt (k (lt i j))
noncomputable def kasSort {α : Type} (d : α) (lt : α → α → Bool) (l : List α) : List α :=
  if l.length < 2 then l else (kasRun (fun i j => lt (l.getD i d) (l.getD j d)) (kas_sort l.length)).toList.map fun i => l.getD i d

noncomputable def sortP (l : List AV) (Q : List AV → Prop) : Prop := (optP (ints? l) fun is => Q ((sortI is).map .int)) ∨ (optP (rows? l) fun rs => Q ((kasSort ([], 0) ltR rs).map rowA))
/-- what is sorted: a list, a table's keys -/
noncomputable def sortedP (H : HH) (v : AV) (Q : List AV → Prop) : Prop := match v with
  | .dct ks _ => ks.length < 64 ∧ Q ((sortI ks).map .int)
  | .lst l => l.length < 64 ∧ sortP l Q
  | .obj i => optP H[i]? fun o => match o with
    | .idict ks _ => ks.length < 64 ∧ Q ((sortI ks).map .int)
    | .list l => l.length < 64 ∧ sortP l Q
    | _ => False
  | _ => False
noncomputable def isByte (i : Int) : Bool := decide (0 ≤ i ∧ i < 256)

noncomputable def arg1 (as : List AV) (Q : AV → Prop) : Prop := match as with
  | [] => False
  | v :: r => match r with
    | [] => Q v
    | _ => False
noncomputable def lenP (H : HH) (v : AV) (Q : Nat → Prop) : Prop := match v with
  | .bytes b => Q b.length
  | .tup l => Q l.length
  | .lst l => Q l.length
  | .obj i => optP H[i]? fun o => match o with
    | .list l => Q l.length
    | .barr b => Q b.length
    | _ => False
  | _ => False
noncomputable def rangeP (as : List AV) (Q : AV → Prop) : Prop := match as with
  | [] => False
  | a :: r => optP a.int? fun a => match r with
    | [] => smallI a = true ∧ Q (.rng 0 a 1)
    | b :: r => optP b.int? fun b => match r with
      | [] => False
      | c :: r => optP c.int? fun c => ifP (c == -1 && r.isEmpty) ((smallI a = true ∧ smallI b = true) ∧ Q (.rng a b (-1))) False
/-- built-in functions and types -/
noncomputable def builtinP (H : HH) (n : String) (v : AV) (Q : AV → HH → Prop) : Prop :=
  ifP (n == "len") (lenP H v fun k => fits k ∧ Q (.int k) H) <|
  ifP (n == "abs") (optP v.int? fun i => Q (.int i.natAbs) H) <|
  ifP (n == "sorted") (sortedP H v fun l => Q (.lst l) H) False
noncomputable def typeP (H : HH) (n : String) (as : List AV) (Q : AV → HH → Prop) : Prop :=
  ifP (n == "int") (arg1 as fun v => optP v.int? fun i => Q (.int i) H) <|
  ifP (n == "range") (rangeP as fun v => Q v H) <|
  ifP (n == "tuple") (arg1 as fun v => match v with
    | .tup l => Q (.tup l) H
    | v => viewP H v fun l => fits l.length ∧ Q (.tup l) H) <|
  ifP (n == "list") (arg1 as fun v => match v with
    | .tup l => fits l.length ∧ Q (.lst l) H
    | v => viewP H v fun l => fits l.length ∧ Q (.lst l) H) <|
  ifP (n == "bytearray") (ifP as.isEmpty (newP H (.barr []) fun n H' => Q (.obj n) H') False) <|
  ifP (n == "bytes") (arg1 as fun v => match v with
    | .obj i => optP H[i]? fun o => optP o.barr? fun b => fits b.length ∧ Q (.bytes b) H
    | .lst l => optP (ints? l) fun is => (is.all isByte = true ∧ fits is.length) ∧ Q (.bytes (is.map fun i => UInt8.ofNat i.toNat)) H
    | _ => False) False
noncomputable def callB (H : HH) (f : Value) (as : List AV) (Q : AV → HH → Prop) : Prop := match f with
  | .builtin n => arg1 as fun v => builtinP H n v Q
  | .type n => typeP H n as Q
  | _ => False

noncomputable def indexP (l : List AV) (v : AV) (Q : Nat → Prop) : Prop := optP v.bytes? fun b => optP (bytess? l) fun ls => (ls.any (· == b) = true ∧ fits ls.length) ∧ Q (ls.findIdx (· == b))
/-- methods of the built-in types -/
noncomputable def methB (H : HH) (o : AV) (x : Str) (v : AV) (Q : AV → HH → Prop) : Prop := match o with
  | .obj i => optP H[i]? fun ao => match ao with
    | .list l => ifP (x == "append") (fits l.length ∧ setP H i (.list (l ++ [v])) fun H' => Q .none H') (ifP (x == "index") (indexP l v fun k => Q (.int k) H) False)
    | .barr b => ifP (x == "extend") (optP v.bytes? fun c => fits (b ++ c).length ∧ setP H i (.barr (b ++ c)) fun H' => Q .none H') False
    | _ => False
  | .lst l => ifP (x == "index") (indexP l v fun k => Q (.int k) H) False
  | .bytes b => ifP (b.isEmpty && x == "join") (optP v.lst? fun l => optP (bytess? l) fun ls => (fits ls.flatten.length ∧ fits ls.length) ∧ Q (.bytes ls.flatten) H) False
  | _ => False

noncomputable def callV (C : Cx) (H : HH) (f : AV) (as : List AV) (Q : AV → HH → Prop) : Prop := match f with
  | .fn a => C.call a as H Q
  | .cls K => optP (C.meth K "__init__") fun i => newP H (.ns [] []) fun d H1 => newP H1 (.inst K d) fun o H2 => C.init i (.obj o :: as) H2 fun H' => Q (.obj o) H'
  | .bi v => callB H v as Q
  | _ => False

/-- what a method's name leads to: an own def, or a built-in's method -/
noncomputable def bindP (C : Cx) (H : HH) (o : AV) (x : Str) (Q : Option Addr → Prop) : Prop := match o with
  | .ins K ks _ => ifP (ks.any (· == x)) False (optP (C.meth K x) fun f => Q (some f))
  | .obj i => optP H[i]? fun ao => match ao with
    | .inst K d => optP H[d]? fun o => optP o.ns? fun n => ifP (n.1.any (· == x)) False (optP (C.meth K x) fun f => Q (some f))
    | .list _ => ifP (x == "append" || x == "index") (Q none) False
    | .barr _ => ifP (x == "extend") (Q none) False
    | _ => False
  | .lst _ => ifP (x == "index") (Q none) False
  | .bytes _ => ifP (x == "join") (Q none) False
  | _ => False
noncomputable def applyP (C : Cx) (H : HH) (t : Option Addr) (o : AV) (x : Str) (as : List AV) (Q : AV → HH → Prop) : Prop := match t with
  | some f => C.call f (o :: as) H Q
  | none => arg1 as fun v => methB H o x v Q

/-- no «super()» -/
noncomputable def plainBase : Expr → Bool
  | .Call f as ks _ => (match f with
    | .Name _ _ => !(as.isEmpty && ks.isEmpty)
    | _ => true)
  | _ => true

abbrev Names := List (Str × NameKind)

noncomputable def nameP (C : Cx) (sc : Names) (m : Loc) (x : Str) (Q : AV → Prop) : Prop := optP (sc.lookup x) fun k => match k with
  | .local => optP (get x m) Q
  | .cell => optP (get x m) Q
  | .free => optP (get x m) Q
  | .globalImplicit => optP (C.glob x) Q
  | _ => False

noncomputable def constO : Const → Option AV
  | .none => some .none
  | .bool b => some (.bool b)
  | .int i => some (.int i)
  | .bytes b => some (.bytes b)
  | _ => none

noncomputable def captured (sc : Names) (m : Loc) : Loc := sc.filterMap fun p => bif p.2 == .free then (get p.1 m).map fun v => (p.1, v) else none

/-- a loop's turns -/
noncomputable def loopP {σ : Type} (chk : σ → Prop) (f : AV → σ → (σ → Prop) → Prop) : List AV → σ → (σ → Prop) → Prop
  | [], st, N => N st
  | x :: r, st, N => f x st fun st' => chk st' ∧ loopP chk f r st' N
end

-- V2
section
open PySem PySem.Calls PySem.W PyProof.Rows

noncomputable def bindN (sc : Names) (x : Str) (v : AV) (m : Loc) (Q : Loc → Prop) : Prop := optP (sc.lookup x) fun k => match k with
  | .local => Q (put x v m)
  | .cell => Q (put x v m)
  | _ => False
noncomputable def isNameE : Expr → Option Str
  | .Name x _ => some x
  | _ => none
noncomputable def bindAll (sc : Names) : List Expr → List AV → Loc → (Loc → Prop) → Prop
  | [], vs, m, Q => ifP vs.isEmpty (Q m) False
  | e :: es, vs, m, Q => match e with
    | .Name x _ => match vs with
      | v :: vs => bindN sc x v m fun m => bindAll sc es vs m Q
      | [] => False
    | _ => False
noncomputable def bindT (sc : Names) (t : Expr) (v : AV) (m : Loc) (Q : Loc → Prop) : Prop := match t with
  | .Name x _ => bindN sc x v m Q
  | .Tuple es _ _ => optP v.tup? fun vs => ifP (es.all (fun e => (isNameE e).isSome) && es.length == vs.length) (bindAll sc es vs m Q) False
  | _ => False

noncomputable def constKeys : List (Option Expr) → Option (List Int)
  | [] => some []
  | k :: r => k.bind fun e => match e with
    | .Constant (.int i) _ _ => (constKeys r).map (i :: ·)
    | _ => none

noncomputable def ltK (a b : Int × Row) : Bool := decide (a.1 < b.1) || (decide (a.1 = b.1) && ltR a.2 b.2)
noncomputable def isEnum : AV → Bool
  | .bi (.type n) => n == "enumerate"
  | _ => false
noncomputable def isSorted : AV → Bool
  | .bi (.builtin n) => n == "sorted"
  | _ => false
noncomputable def isLC : Expr → Bool
  | .ListComp _ _ _ _ => true
  | _ => false
noncomputable def isTup : Expr → Bool
  | .Tuple _ _ _ => true
  | _ => false
noncomputable def enumP (as : List AV) (H : HH) (Q : AV → HH → Prop) : Prop := arg1 as fun v => viewP H v fun _ => Q (.enm v) H
/-- two names against two displays: the one shape of an assignment with a code of its own -/
noncomputable def swapT (sc : Names) (t e : Expr) : Bool := match t with
  | .Tuple ts _ _ => (match e with
    | .Tuple vs _ _ => (match ts, vs with
      | [x, y], [a, b] => onO (isNameE x) fun x => onO (isNameE y) fun y => !(x == y) && sc.lookup x == some .local && sc.lookup y == some .local && !(constantsAlone 8 a && constantsAlone 8 b)
      | _, _ => false)
    | _ => true)
  | .Name _ _ => true
  | .Attribute _ _ _ => true
  | .Subscript _ _ _ => true
  | _ => false
/-- a comprehension's own names -/
noncomputable def compScope (sc : Names) (scope : Scope) : Bool := scope.kind == .function && decide ((scope.names.map (·.1)).Nodup) && scope.names.all fun p => p.2 != .cell && (p.2 != .free || sc.lookup p.1 == some .cell || sc.lookup p.1 == some .free) && !(p.1 == ("__debug__" : Str)) && !(p.1 == ("__classdict__" : Str))

noncomputable def notStar : Expr → Bool
  | .Starred _ _ => false
  | _ => true
/-- one comparison alone -/
noncomputable def onlyP (ops : List CmpOp) (rs : List Expr) (Q : CmpOp → Prop) : Prop := match ops with
  | [] => False
  | op :: ops => ifP (ops.isEmpty && rs.isEmpty) (Q op) False

/-- the state of a loop; that of a comprehension -/
abbrev St := Loc × HH
abbrev Sc := Loc × HH × List AV

mutual
noncomputable def ev (C : Cx) (sc : Names) (src : Bool) : Expr → Loc → HH → (AV → HH → Prop) → Prop
  | .Constant c _ _, m, H, Q => optP (constO c) fun v => Q v H
  | .Name x _, m, H, Q => nameP C sc m x fun v => Q v H
  | .Tuple es _ _, m, H, Q => evs C sc es m H fun l H => fits l.length ∧ Q (.tup l) H
  | .List es _, m, H, Q => evs C sc es m H fun l H => fits l.length ∧ Q (.lst l) H
  | .Dict ks vs _, m, H, Q => optP (constKeys ks) fun is => ifP (is.length == vs.length && decide is.Nodup && decide (is.length ≤ 15)) (evs C sc vs m H fun l H => Q (.dct is l) H) False
  | .BoolOp op es _, m, H, Q => evb C sc op es m H Q
  | .BinOp l op r _, m, H, Q => ev C sc false l m H fun a H => ev C sc false r m H fun b H => binP H op a b fun v => Q v H
  | .UnaryOp op x _, m, H, Q => (match op with
    | .USub => ev C sc false x m H fun a H => optP a.int? fun i => Q (.int (-i)) H
    | _ => False)
  | .IfExp t b o _, m, H, Q => tst C sc t m H fun c H => selP c (ev C sc false b m H Q) (ev C sc false o m H Q)
  | .Compare l ops rs _, m, H, Q => (match rs with
    | r :: rs => onlyP ops rs fun op => ev C sc false l m H fun a H => ev C sc false r m H fun b H => cmpP H op a b fun c => Q (.bool c) H
    | [] => False)
  | .Call f as ks p, m, H, Q => (match ks with
    | [] => match f with
      | .Attribute o x ap => ifP (ap.endLine == p.line && decide (as.length < 30) && plainBase o && as.all notStar) (ev C sc false o m H fun a H => bindP C H a x fun t => evs C sc as m H fun us H => applyP C H t a x us Q) False
      | .Name f _ => ifP (as.all notStar) (nameP C sc m f fun f => evs C sc as m H fun us H => ifP (src && isEnum f) (enumP us H Q) (callV C H f us Q)) False
      | _ => False
    | _ => False)
  | .Attribute o x _, m, H, Q => (match o with
    | .Name o _ => nameP C sc m o fun a => attrP C H a x fun v => Q v H
    | _ => False)
  | .Subscript o i _, m, H, Q => (match i with
    | .Slice lo hi st _ => ifP st.isNone (ev C sc false o m H fun a H => evo C sc lo m H fun l H => evo C sc hi m H fun h H => cutP H a l h fun v => Q v H) False
    | i => ev C sc false o m H fun a H => ev C sc false i m H fun k H => itemP H a k fun v => Q v H)
  | .ListComp elt gens scope _, m, H, Q => (match gens with
    | [] => False
    | ⟨t, it, ifs, a⟩ :: gs => ifP (a == 0 && compScope sc scope && gs.all fun g => g.is_async == 0) (ev C sc false it m H fun v H0 => srcP H0 v fun l =>
        loopP (fun s : Sc => still H0 (watch v) s.2.1)
          (fun x s N => bindT scope.names t x s.1 fun m => evt C scope.names ifs m s.2.1 fun b H => ifP b (evc C scope.names (fun m H Q => ev C scope.names false elt m H Q) gs m H s.2.2 N) (N (m, H, s.2.2)))
          l (captured scope.names m, H0, []) fun s => Q (.lst s.2.2) s.2.1) False)
  | _, _, _, _ => False

noncomputable def evs (C : Cx) (sc : Names) : List Expr → Loc → HH → (List AV → HH → Prop) → Prop
  | [], m, H, Q => Q [] H
  | e :: es, m, H, Q => ev C sc false e m H fun a H => evs C sc es m H fun r H => Q (a :: r) H

noncomputable def evo (C : Cx) (sc : Names) : Option Expr → Loc → HH → (Option Int → HH → Prop) → Prop
  | none, m, H, Q => Q none H
  | some e, m, H, Q => ev C sc false e m H fun a H => optP a.int? fun i => smallI i = true ∧ Q (some i) H

/-- the value of «and», «or» -/
noncomputable def evb (C : Cx) (sc : Names) : BoolOp → List Expr → Loc → HH → (AV → HH → Prop) → Prop
  | op, [], m, H, Q => False
  | op, e :: es, m, H, Q => match es with
    | [] => ev C sc false e m H Q
    | es => ev C sc false e m H fun a H1 => truthP H1 a fun t => match op with
      | .And => selP t (evb C sc op es m H1 Q) (Q a H1)
      | .Or => selP t (Q a H1) (evb C sc op es m H1 Q)

noncomputable def tst (C : Cx) (sc : Names) : Expr → Loc → HH → (Bool → HH → Prop) → Prop
  | .UnaryOp op x _, m, H, Q => (match op with
    | .Not => tst C sc x m H fun c H => Q (!c) H
    | _ => False)
  | .BoolOp op es _, m, H, Q => eva C sc op es m H Q
  | .IfExp t b o _, m, H, Q => tst C sc t m H fun c H => selP c (tst C sc b m H Q) (tst C sc o m H Q)
  | .Compare l ops rs _, m, H, Q => (match rs with
    | r :: rs => onlyP ops rs fun op => ev C sc false l m H fun a H => ev C sc false r m H fun b H => cmpP H op a b fun c => Q c H
    | [] => False)
  | .Name x _, m, H, Q => nameP C sc m x fun v => truthP H v fun t => Q t H
  | .Call f as ks _, m, H, Q => (match ks with
    | [] => match f with
      | .Name f _ => ifP (as.all notStar) (nameP C sc m f fun f => evs C sc as m H fun us H => callV C H f us fun v H => truthP H v fun t => Q t H) False
      | _ => False
    | _ => False)
  | _, _, _, _ => False

noncomputable def eva (C : Cx) (sc : Names) : BoolOp → List Expr → Loc → HH → (Bool → HH → Prop) → Prop
  | op, [], m, H, Q => match op with
    | .And => Q true H
    | .Or => Q false H
  | op, e :: es, m, H, Q => tst C sc e m H fun c H => match op with
    | .And => selP c (eva C sc op es m H Q) (Q false H)
    | .Or => selP c (Q true H) (eva C sc op es m H Q)

noncomputable def evt (C : Cx) (sc : Names) : List Expr → Loc → HH → (Bool → HH → Prop) → Prop
  | [], m, H, Q => Q true H
  | e :: es, m, H, Q => tst C sc e m H fun c H => selP c (evt C sc es m H Q) (Q false H)

/-- the further clauses of a comprehension -/
noncomputable def evc (C : Cx) (sc : Names) (fe : Loc → HH → (AV → HH → Prop) → Prop) : List Comprehension → Loc → HH → List AV → (Sc → Prop) → Prop
  | [], m, H, l, N => fits l.length ∧ fe m H fun v H => N (m, H, l ++ [v])
  | ⟨t, it, ifs, a⟩ :: gs, m, H, l, N => ifP (a == 0) (ev C sc false it m H fun v H0 => srcP H0 v fun xs =>
      loopP (fun s : Sc => still H0 (watch v) s.2.1)
        (fun x s N => bindT sc t x s.1 fun m => evt C sc ifs m s.2.1 fun b H => ifP b (evc C sc fe gs m H s.2.2 N) (N (m, H, s.2.2)))
        xs (m, H0, l) N) False
end

noncomputable def asgP (C : Cx) (sc : Names) (t : Expr) (v : AV) (m : Loc) (H : HH) (N : Loc → HH → Prop) : Prop := match t with
  | .Attribute o x _ => ev C sc false o m H fun a H => setAttrP C H a x v fun H => N m H
  | .Subscript o i _ => ev C sc false o m H fun a H => ev C sc false i m H fun k H => setItemP H a k v fun H => N m H
  | t => bindT sc t v m fun m => N m H
/-- is the display one that the statement stores under a name: an owned object -/
noncomputable def fresh? (e : Expr) (v : AV) : Option AO := match e with
  | .List _ _ => v.lst?.map .list
  | .Dict ks _ _ => if ks.isEmpty then some .edict else none
  | _ => none
noncomputable def storeP (C : Cx) (sc : Names) (t e : Expr) (v : AV) (m : Loc) (H : HH) (N : Loc → HH → Prop) : Prop := match t with
  | .Name x _ => (match fresh? e v with
    | some ao => newP H ao fun i H => bindN sc x (.obj i) m fun m => N m H
    | none => bindN sc x v m fun m => N m H)
  | t => asgP C sc t v m H N

mutual
noncomputable def runS (C : Cx) (sc : Names) : Stmt → Loc → HH → (Loc → HH → Prop) → (AV → HH → Prop) → Prop
  | .Expr e _, m, H, N, R => ifP (isLC e) False (ev C sc false e m H fun _ H => N m H)
  | .Return e _, m, H, N, R => optP e fun e => ev C sc false e m H R
  | .Assign ts e _, m, H, N, R => (match ts with
    | [t] => ifP (swapT sc t e) (ev C sc false e m H fun v H => storeP C sc t e v m H N) False
    | _ => False)
  | .If t b o _, m, H, N, R => tst C sc t m H fun c H => selP c (runSs C sc b m H N R) (runSs C sc o m H N R)
  | .For t it body els _, m, H, N, R => (match els with
    | [] => ev C sc (isTup t) it m H fun v H0 => srcP H0 v fun l =>
      loopP (fun s : St => still H0 (watch v) s.2) (fun x s N => bindT sc t x s.1 fun m => runSs C sc body m s.2 (fun m H => N (m, H)) R) l (m, H0) fun s => N s.1 s.2
    | _ => False)
  | _, _, _, _, _ => False
noncomputable def runSs (C : Cx) (sc : Names) : List Stmt → Loc → HH → (Loc → HH → Prop) → (AV → HH → Prop) → Prop
  | [], m, H, N, R => N m H
  | s :: r, m, H, N, R => runS C sc s m H (fun m H => runSs C sc r m H N R) R
end

mutual
noncomputable def below (n : Nat) : AV → Bool
  | .obj i => decide (i < n)
  | .tup l => belows n l
  | .lst l => belows n l
  | .dct _ l => belows n l
  | .ins _ _ l => belows n l
  | .enm _ => false
  | _ => true
noncomputable def belows (n : Nat) : List AV → Bool
  | [] => true
  | x :: r => below n x && belows n r
end
noncomputable def belowO (n : Nat) : AO → Bool
  | .list l => belows n l
  | .idict _ l => belows n l
  | .bdict _ l => belows n l
  | .inst _ d => decide (d < n)
  | .ns _ l => belows n l
  | _ => true

noncomputable def allM (f : AV → Option AV) : List AV → Option (List AV)
  | [] => some []
  | x :: r => (f x).bind fun y => (allM f r).map (y :: ·)

/-- a value that is handed back: what the frame alone owned becomes plain -/
noncomputable def freezeO (f : AV → Option AV) (H : HH) (n : Nat) : AO → Option AV
  | .list l => (allM f l).map .lst
  | .edict => some (.dct [] [])
  | .idict ks vs => (allM f vs).map (.dct ks)
  | .inst C d => if d < n then none else H[d]?.bind fun o => match o with
    | .ns ks vs => (allM f vs).map (.ins C ks)
    | _ => none
  | _ => none
noncomputable def freeze (H : HH) (n : Nat) : Nat → AV → Option AV
  | 0, _ => none
  | k + 1, v => bif below n v then some v else match v with
    | .tup l => (allM (freeze H n k) l).map .tup
    | .lst l => (allM (freeze H n k) l).map .lst
    | .obj i => H[i]?.bind (freezeO (freeze H n k) H n)
    | _ => none

structure Fn where
  params : List Str
  dflt : List AV
  body : List Stmt
  names : Names
noncomputable def bindA (f : Fn) (as : List AV) : Option Loc :=
  if as.length ≤ f.params.length ∧ f.params.length - as.length ≤ f.dflt.length then some (f.params.zip (as ++ f.dflt.drop (f.dflt.length - (f.params.length - as.length)))) else none

noncomputable def keptO (n : Nat) (H H' : HH) : Prop := ∀ i, i < n → ∃ o, H'[i]? = some o ∧ (H[i]? = some o ∨ belowO n o = true)
/-- what a frame hands back -/
noncomputable def finP (H : HH) (Q : AV → HH → Prop) (v : AV) (H1 : HH) : Prop := ∃ v' G X, H1 = G ++ X ∧ G.length = H.length ∧ keptO H.length H H1 ∧ freeze H1 H.length 4 v = some v' ∧ Q v' G
noncomputable def callF (C : Cx) (f : Fn) (as : List AV) (H : HH) (Q : AV → HH → Prop) : Prop :=
  optP (bindA f as) fun m => runSs C f.names f.body m H (fun _ H1 => finP H Q .none H1) (finP H Q)
noncomputable def initF (C : Cx) (f : Fn) (as : List AV) (H : HH) (Q : HH → Prop) : Prop :=
  optP (bindA f as) fun m => runSs C f.names f.body m H (fun _ H1 => Q H1) fun v H1 => ifP (isNone v) (Q H1) False

/-- the text's own functions and classes, by their addresses -/
structure Tab where
  glob : Str → Option AV
  fns : Addr → Option Fn
  meth : Addr → Str → Option Addr
  attr : Addr → Str → Bool
structure Cl where
  call : Addr → List AV → HH → (AV → HH → Prop) → Prop
  init : Addr → List AV → HH → (HH → Prop) → Prop
noncomputable def Tab.cx (T : Tab) (c : Cl) : Cx := ⟨T.glob, c.call, c.init, T.meth, T.attr⟩
noncomputable def calls (T : Tab) : Nat → Cl
  | 0 => ⟨fun _ _ _ _ => False, fun _ _ _ _ => False⟩
  | d + 1 => ⟨fun a as H Q => optP (T.fns a) fun f => callF (T.cx (calls T d)) f as H Q, fun a as H Q => optP (T.fns a) fun f => initF (T.cx (calls T d)) f as H Q⟩
end

-- V3
section
open PySem PySem.Calls PySem.W PyProof.Rows

noncomputable def Ents : List Str → List Value → List DictEntry → Prop
  | [], [], [] => True
  | k :: ks, v :: vs, e :: es => (∃ t, e.key = .str k t) ∧ e.val = v ∧ Ents ks vs es
  | _, _, _ => False
noncomputable def NsIs (h : Heap) (dx : Addr) (ks : List Str) (vs : List Value) : Prop := ∃ es n, h.get? dx = some (dictOf es n) ∧ Ents ks vs es ∧ ks.Nodup

noncomputable def bytesIs (b : List UInt8) (v : Value) : Bool := match v with
  | .bytes a _ => a == b.toArray
  | _ => false
theorem bytesIs_shape {b : List UInt8} {v : Value} (h : bytesIs b v = true) : ∃ t, v = .bytes b.toArray t := by
  cases v <;> simp [bytesIs] at h ⊢
  exact h
theorem bytesIs_self (b : List UInt8) (t : Tok) : bytesIs b (.bytes b.toArray t) = true := by simp [bytesIs]

theorem eqBool_bytes {prog : Program} {w : World} {A : Around} {E : Value → Shared → Prop} {s : Shared} {a b : List UInt8} {t u : Tok} {Q : Bool → Shared → Prop} (h : Q (decide (a = b)) s) :
    wpAny (model prog w) A (eqBool (.bytes a.toArray t) (.bytes b.toArray u)) Q E s := by
  unfold eqBool
  show wpAny _ _ (if (Value.bytes a.toArray t == Value.bytes b.toArray u) = true then _ else _) Q E s
  by_cases hab : (Value.bytes a.toArray t == Value.bytes b.toArray u) = true
  · rw [if_pos hab]
    have e : a = b := by
      have := eq_of_beq hab
      injection this with h1
      have := congrArg Array.toList h1
      simpa using this
    subst e
    exact wpAny_bind (wpAny_rule (wpAny_pure (by simpa using h)))
  · rw [if_neg hab]
    refine wpAny_bind (richCompare_gives (op := .Eq) (T := "bytes") rfl rfl FB.slot_bytes_eq FB.entry_bytes_eq (FB.args_bytes_eq_2 _ _) (gives_bytes_eq a.toArray b.toArray t u) (fun x => nomatch x) (wpAny_truthy_bool ?_))
    have e : (a.toArray.toList == b.toArray.toList) = decide (a = b) := by
      by_cases hne : a = b <;> simp [hne]
    rw [e]; exact h

theorem pyHash_bytes {prog : Program} {w : World} {A : Around} {E : Value → Shared → Prop} {s : Shared} {b : List UInt8} {t : Tok} {Q : Int → Shared → Prop}
    (h : Q (hashW w.params (.bytes b)) { s with toks := s.toks + 1 }) :
    wpAny (model prog w) A (pyHash (.bytes b.toArray t)) Q E s := by
  refine pyHash_slot (T := "bytes") rfl FB.slot_bytes_hash FB.entry_bytes_hash (FB.args_bytes_hash_1 _) (beq_builtin_none _) (.inl rfl) ?_
  show wpAny _ _ (strHash ⟨b.toArray.map (·.toNat)⟩ >>= fun i => (do ret (← mkInt i))) _ _ s
  unfold strHash
  exact wpAny_bind (wpAny_bind (wpAny_askSetting (wpAny_pure (wpAny_bind (wpAny_mkInt (wpAny_pure ⟨_, _, rfl, h⟩))))))

noncomputable def bytesKind (prog : Program) (w : World) : KeyKind prog w (List UInt8) where
  is := bytesIs
  hash := fun b => hashW w.params (.bytes b)
  inj := fun v a b ha hb => by
    obtain ⟨t, rfl⟩ := bytesIs_shape ha
    obtain ⟨u, hu⟩ := bytesIs_shape hb
    injection hu with h1
    have := congrArg Array.toList h1
    simpa using this
  byValue := fun k v h => by obtain ⟨t, rfl⟩ := bytesIs_shape h; rfl
  pyHash := fun hv h => by obtain ⟨t, rfl⟩ := bytesIs_shape hv; exact pyHash_bytes h
  eqBool := fun hu hv h => by
    obtain ⟨t, rfl⟩ := bytesIs_shape hu
    obtain ⟨u, rfl⟩ := bytesIs_shape hv
    exact eqBool_bytes h
  «strs» := fun k x t v h => by simp [bytesIs] at h

section
variable (prog : Program) (w : World) (h : Heap) (ρ Φ : List Addr)

/-- an address that nobody owns -/
noncomputable def Free (ρ Φ : List Addr) (a : Addr) : Prop := a ∉ ρ ∧ a ∉ Φ

mutual
noncomputable def RV : AV → Value → Prop
  | .none, v => v = .none
  | .bool b, v => v = .bool b
  | .int i, v => ∃ t, v = .int i t
  | .bytes b, v => ∃ t, v = .bytes b.toArray t
  | .tup l, v => ∃ a vs, v = .ref a ∧ Free ρ Φ a ∧ (∃ n, IsT h a vs.toArray n) ∧ RVs l vs
  | .lst l, v => ∃ a vs, v = .ref a ∧ Free ρ Φ a ∧ h.PlainList a vs.toArray ∧ RVs l vs
  | .dct ks l, v => ∃ a vs, v = .ref a ∧ Free ρ Φ a ∧ h.DictOf (intKind prog w) a (ks.zip vs) ∧ ks.length = l.length ∧ RVs l vs ∧ (a == sysModules) = false
  | .ins C ks l, v => ∃ a dx vs, v = .ref a ∧ Free ρ Φ a ∧ Free ρ Φ dx ∧ h.get? a = some (instObj C dx) ∧ NsIs h dx ks vs ∧ RVs l vs
  | .rng a b c, v => ∃ r t u x, v = .ref r ∧ Free ρ Φ r ∧ IsRange h r a b c t u x
  | .enm _, _ => False
  | .obj i, v => ∃ a, ρ[i]? = some a ∧ v = .ref a
  | .fn a, v => v = .ref a
  | .cls a, v => v = .ref a
  | .bi u, v => v = u
noncomputable def RVs : List AV → List Value → Prop
  | [], vs => vs = []
  | x :: l, vs => ∃ v r, vs = v :: r ∧ RV x v ∧ RVs l r
end

noncomputable def RO : AO → Addr → Prop
  | .list l, a => ∃ vs : List Value, h.PlainList a vs.toArray ∧ RVs prog w h ρ Φ l vs
  | .edict, a => ∃ n, h.get? a = some (dictOf [] n)
  | .idict ks l, a => ∃ vs, h.DictOf (intKind prog w) a (ks.zip vs) ∧ ks.length = l.length ∧ RVs prog w h ρ Φ l vs
  | .bdict ks l, a => ∃ vs, h.DictOf (bytesKind prog w) a (ks.zip vs) ∧ ks.length = l.length ∧ RVs prog w h ρ Φ l vs
  | .barr b, a => h.get? a = some { cls := .type "bytearray", data := .bytearray b.toArray 0 }
  | .inst C d, a => ∃ dx, ρ[d]? = some dx ∧ h.get? a = some (instObj C dx)
  | .ns ks l, a => ∃ vs, NsIs h a ks vs ∧ RVs prog w h ρ Φ l vs
end

structure Ext (ρ Φ : List Addr) (h : Heap) (ρ' Φ' : List Addr) (h' : Heap) : Prop where
  keep : ∀ a o, h.get? a = some o → Free ρ Φ a → h'.get? a = some o
  rho : ∀ (i : Nat) (a : Addr), ρ[i]? = some a → ρ'[i]? = some a
  res : ∀ a o, h.get? a = some o → Free ρ Φ a → Free ρ' Φ' a

variable {prog : Program} {w : World} {h h' h'' : Heap} {ρ ρ' ρ'' Φ Φ' Φ'' : List Addr}

theorem Ext.refl : Ext ρ Φ h ρ Φ h := ⟨fun _ _ e _ => e, fun _ _ e => e, fun _ _ _ f => f⟩
theorem Ext.trans (x : Ext ρ Φ h ρ' Φ' h') (y : Ext ρ' Φ' h' ρ'' Φ'' h'') : Ext ρ Φ h ρ'' Φ'' h'' :=
  ⟨fun a o e f => y.keep a o (x.keep a o e f) (x.res a o e f), fun i a e => y.rho i a (x.rho i a e), fun a o e f => y.res a o (x.keep a o e f) (x.res a o e f)⟩

theorem DictOf.at' {K : Type} [DecidableEq K] {knd : KeyKind prog w K} {a : Addr} {kvs : List (K × Value)} (x : h.DictOf knd a kvs) (k : ∀ o, h.get? a = some o → h'.get? a = some o) : h'.DictOf knd a kvs := let ⟨o, es, ep, e, r⟩ := x; ⟨o, es, ep, k o e, r⟩
theorem NsIs.at' {a : Addr} {ks : List Str} {vs : List Value} (x : NsIs h a ks vs) (k : ∀ o, h.get? a = some o → h'.get? a = some o) : NsIs h' a ks vs := let ⟨es, n, e, r⟩ := x; ⟨es, n, k _ e, r⟩

theorem RV.below : ∀ (x : AV) (v : Value), RV prog w h ρ Φ x v → below ρ.length x = true := by
  intro x
  refine AV.rec (motive_1 := fun x => ∀ v, RV prog w h ρ Φ x v → Lig.below ρ.length x = true) (motive_2 := fun l => ∀ vs, RVs prog w h ρ Φ l vs → belows ρ.length l = true)
    (fun _ _ => rfl) (fun _ _ _ => rfl) (fun _ _ _ => rfl) (fun _ _ _ => rfl) (fun l ih v r => r.elim fun a r => r.elim fun vs r => ih vs r.2.2.2) (fun l ih v r => r.elim fun a r => r.elim fun vs r => ih vs r.2.2.2)
    (fun ks l ih v r => r.elim fun a r => r.elim fun vs r => ih vs r.2.2.2.2.1) (fun C ks l ih v r => r.elim fun a r => r.elim fun d r => r.elim fun vs r => ih vs r.2.2.2.2.2) (fun _ _ _ _ _ => rfl) (fun _ _ _ r => r.elim)
    (fun i v r => r.elim fun a r => decide_eq_true (List.getElem?_eq_some_iff.mp r.1).1) (fun _ _ _ => rfl) (fun _ _ _ => rfl) (fun _ _ _ => rfl) (fun _ _ => rfl) (fun x l h1 h2 vs r => r.elim fun v r => r.elim fun vs r => (Bool.and_eq_true ..).mpr ⟨h1 v r.2.1, h2 vs r.2.2⟩) x
/-- a value, seen in a later heap -/
theorem RV.tr (n : Nat) (kp : ∀ a o, h.get? a = some o → Free ρ Φ a → h'.get? a = some o ∧ Free ρ' Φ' a) (hr : ∀ (i : Nat) (a : Addr), i < n → ρ[i]? = some a → ρ'[i]? = some a) :
    ∀ (x : AV) (v : Value), Lig.below n x = true → RV prog w h ρ Φ x v → RV prog w h' ρ' Φ' x v := by
  intro x
  refine AV.rec (motive_1 := fun x => ∀ v, Lig.below n x = true → RV prog w h ρ Φ x v → RV prog w h' ρ' Φ' x v) (motive_2 := fun l => ∀ vs, belows n l = true → RVs prog w h ρ Φ l vs → RVs prog w h' ρ' Φ' l vs)
    (fun _ _ r => r) (fun _ _ _ r => r) (fun _ _ _ r => r) (fun _ _ _ r => r) (fun l ih v b r => ?_) (fun l ih v b r => ?_) (fun ks l ih v b r => ?_) (fun C ks l ih v b r => ?_) (fun _ _ _ v b r => ?_) (fun _ _ _ _ r => r.elim)
    (fun i v b r => ?_) (fun _ _ _ r => r) (fun _ _ _ r => r) (fun _ _ _ r => r) (fun _ _ r => r) (fun x l h1 h2 vs b r => ?_) x
  · obtain ⟨a, vs, e, f, ⟨n, g⟩, r⟩ := r
    exact ⟨a, vs, e, (kp a _ g f).2, ⟨n, (kp a _ g f).1⟩, ih vs b r⟩
  · obtain ⟨a, vs, e, f, ⟨n, g⟩, r⟩ := r
    exact ⟨a, vs, e, (kp a _ g f).2, ⟨n, (kp a _ g f).1⟩, ih vs b r⟩
  · obtain ⟨a, vs, e, f, ⟨o, es, ep, g, c⟩, hl, r, ns⟩ := r
    exact ⟨a, vs, e, (kp a o g f).2, ⟨o, es, ep, (kp a o g f).1, c⟩, hl, ih vs b r, ns⟩
  · obtain ⟨a, dx, vs, e, f, fd, g, ⟨es, n, gd, c⟩, r⟩ := r
    exact ⟨a, dx, vs, e, (kp a _ g f).2, (kp dx _ gd fd).2, (kp a _ g f).1, ⟨es, n, (kp dx _ gd fd).1, c⟩, ih vs b r⟩
  · obtain ⟨a, t, u, x, e, f, g⟩ := r
    exact ⟨a, t, u, x, e, (kp a _ g f).2, (kp a _ g f).1⟩
  · obtain ⟨a, e, r⟩ := r
    exact ⟨a, hr i a (of_decide_eq_true b) e, r⟩
  · obtain ⟨v, r, e, hv, q⟩ := r
    have b := (Bool.and_eq_true ..).mp b
    exact ⟨v, r, e, h1 v b.1 hv, h2 r b.2 q⟩
theorem RV.mono (E : Ext ρ Φ h ρ' Φ' h') (x : AV) (v : Value) (r : RV prog w h ρ Φ x v) : RV prog w h' ρ' Φ' x v := RV.tr ρ.length (fun a o e f => ⟨E.keep a o e f, E.res a o e f⟩) (fun i a _ e => E.rho i a e) x v (RV.below x v r) r
theorem RVs.each (hf : ∀ x v, RV prog w h ρ Φ x v → RV prog w h' ρ' Φ' x v) (l : List AV) : ∀ (vs : List Value), RVs prog w h ρ Φ l vs → RVs prog w h' ρ' Φ' l vs := by
  induction l with
  | nil => exact fun _ r => r
  | cons x l ih => exact fun vs r => r.elim fun v r => r.elim fun vs r => ⟨v, vs, r.1, hf x v r.2.1, ih vs r.2.2⟩
theorem RVs.mono (E : Ext ρ Φ h ρ' Φ' h') (l : List AV) (vs : List Value) (r : RVs prog w h ρ Φ l vs) : RVs prog w h' ρ' Φ' l vs := RVs.each (RV.mono E) l vs r

theorem RVs.cons {x : AV} {l : List AV} {v : Value} {vs : List Value} (hv : RV prog w h ρ Φ x v) (hr : RVs prog w h ρ Φ l vs) : RVs prog w h ρ Φ (x :: l) (v :: vs) := ⟨v, vs, rfl, hv, hr⟩
/-- two lists, item for item -/
theorem RVs.rec' {P : List AV → List Value → Prop} (h0 : P [] []) (h1 : ∀ x l v vs, RV prog w h ρ Φ x v → RVs prog w h ρ Φ l vs → P l vs → P (x :: l) (v :: vs)) : ∀ {l : List AV} {vs : List Value}, RVs prog w h ρ Φ l vs → P l vs := by
  intro l
  induction l with
  | nil => intro vs r; cases r; exact h0
  | cons x l ih => intro vs r; obtain ⟨v, vs, rfl, hv, hr⟩ := r; exact h1 x l v vs hv hr (ih hr)
theorem RVs.length {l : List AV} {vs : List Value} (r : RVs prog w h ρ Φ l vs) : vs.length = l.length := RVs.rec' (P := fun l vs => vs.length = l.length) rfl (fun _ _ _ _ _ _ ih => congrArg (· + 1) ih) r
theorem RVs.append {l l' : List AV} {vs vs' : List Value} (r : RVs prog w h ρ Φ l vs) (r' : RVs prog w h ρ Φ l' vs') : RVs prog w h ρ Φ (l ++ l') (vs ++ vs') := RVs.rec' (P := fun l vs => RVs prog w h ρ Φ (l ++ l') (vs ++ vs')) r' (fun _ _ _ _ hv _ ih => ih.cons hv) r
theorem RVs.one {x : AV} {v : Value} (r : RV prog w h ρ Φ x v) : RVs prog w h ρ Φ [x] [v] := ⟨v, [], rfl, r, rfl⟩
theorem RVs.get {l : List AV} {vs : List Value} (r : RVs prog w h ρ Φ l vs) : ∀ {i : Nat} {x : AV}, l[i]? = some x → ∃ v, vs[i]? = some v ∧ RV prog w h ρ Φ x v :=
  RVs.rec' (P := fun l vs => ∀ {i : Nat} {x : AV}, l[i]? = some x → ∃ v, vs[i]? = some v ∧ RV prog w h ρ Φ x v) (fun e => nomatch e)
    (fun x l v vs hv _ ih {i y} e => by
      cases i with
      | zero => exact ⟨v, rfl, Option.some.inj (show some x = some y from e) ▸ hv⟩
      | succ i => exact ih (i := i) e) r
theorem RVs.get' {l : List AV} {vs : List Value} (r : RVs prog w h ρ Φ l vs) : ∀ {i : Nat} {v : Value}, vs[i]? = some v → ∃ x, l[i]? = some x ∧ RV prog w h ρ Φ x v :=
  RVs.rec' (P := fun l vs => ∀ {i : Nat} {v : Value}, vs[i]? = some v → ∃ x, l[i]? = some x ∧ RV prog w h ρ Φ x v) (fun e => nomatch e)
    (fun x l v vs hv _ ih {i y} e => by
      cases i with
      | zero => exact ⟨x, rfl, Option.some.inj (show some v = some y from e) ▸ hv⟩
      | succ i => exact ih (i := i) e) r
theorem RVs.take {l : List AV} {vs : List Value} (r : RVs prog w h ρ Φ l vs) : ∀ n, RVs prog w h ρ Φ (l.take n) (vs.take n) :=
  RVs.rec' (P := fun l vs => ∀ n, RVs prog w h ρ Φ (l.take n) (vs.take n)) (fun n => by rw [List.take_nil, List.take_nil]; rfl)
    (fun x l v vs hv _ ih n => by
      cases n with
      | zero => exact rfl
      | succ n => exact (ih n).cons hv) r
theorem RVs.drop {l : List AV} {vs : List Value} (r : RVs prog w h ρ Φ l vs) : ∀ n, RVs prog w h ρ Φ (l.drop n) (vs.drop n) :=
  RVs.rec' (P := fun l vs => ∀ n, RVs prog w h ρ Φ (l.drop n) (vs.drop n)) (fun n => by rw [List.drop_nil, List.drop_nil]; rfl)
    (fun x l v vs hv hr ih n => by
      cases n with
      | zero => exact hr.cons hv
      | succ n => exact ih n) r
theorem RVs.set {x : AV} {v : Value} (hx : RV prog w h ρ Φ x v) {l : List AV} {vs : List Value} (r : RVs prog w h ρ Φ l vs) : ∀ n : Nat, RVs prog w h ρ Φ (l.set n x) (vs.set n v) :=
  RVs.rec' (P := fun l vs => ∀ n, RVs prog w h ρ Φ (l.set n x) (vs.set n v)) (fun n => rfl)
    (fun y l u vs hv hr ih n => by
      cases n with
      | zero => exact hr.cons hx
      | succ n => exact (ih n).cons hv) r
theorem nos {α : Type} {x : α} {P : Prop} (h : (none : Option α) = some x) : P := nomatch h
theorem int?_some {x : AV} {i : Int} (h : x.int? = some i) : x = .int i := by cases x <;> first | exact nos h | (cases Option.some.inj h; rfl)
theorem bool?_some {x : AV} {i : Bool} (h : x.bool? = some i) : x = .bool i := by cases x <;> first | exact nos h | (cases Option.some.inj h; rfl)
theorem bytes?_some {x : AV} {i : List UInt8} (h : x.bytes? = some i) : x = .bytes i := by cases x <;> first | exact nos h | (cases Option.some.inj h; rfl)
theorem tup?_some {x : AV} {i : List AV} (h : x.tup? = some i) : x = .tup i := by cases x <;> first | exact nos h | (cases Option.some.inj h; rfl)
theorem lst?_some {x : AV} {i : List AV} (h : x.lst? = some i) : x = .lst i := by cases x <;> first | exact nos h | (cases Option.some.inj h; rfl)
theorem list?_some {x : AO} {i : List AV} (h : x.list? = some i) : x = .list i := by cases x <;> first | exact nos h | (cases Option.some.inj h; rfl)
theorem barr?_some {x : AO} {i : List UInt8} (h : x.barr? = some i) : x = .barr i := by cases x <;> first | exact nos h | (cases Option.some.inj h; rfl)
theorem ns?_some {x : AO} {i : List Str × List AV} (h : x.ns? = some i) : x = .ns i.1 i.2 := by cases x <;> first | exact nos h | (cases Option.some.inj h; rfl)
theorem inst?_some {x : AO} {i : Addr × Nat} (h : x.inst? = some i) : x = .inst i.1 i.2 := by cases x <;> first | exact nos h | (cases Option.some.inj h; rfl)
section
variable {α : Type}
/-- the ways out of the evaluator's words -/
theorem optP_e {o : Option α} {P : α → Prop} {G : Prop} (h : optP o P) (k : ∀ x, o = some x → P x → G) : G := by
  cases o with
  | none => exact h.elim
  | some x => exact k x rfl h
theorem optP_i {o : Option α} {x : α} {P : α → Prop} (e : o = some x) (h : P x) : optP o P := e ▸ h
theorem ifP_e {c : Bool} {P P' : Prop} {G : Prop} (h : ifP c P P') (k : c = true → P → G) (k' : c = false → P' → G) : G := by
  cases c with
  | true => exact k rfl h
  | false => exact k' rfl h
theorem ifT_e {c : Bool} {P : Prop} {G : Prop} (h : ifP c P False) (k : c = true → P → G) : G := ifP_e h k fun _ f => f.elim
theorem ifF_e {c : Bool} {P : Prop} {G : Prop} (h : ifP c False P) (k : c = false → P → G) : G := ifP_e h (fun _ f => f.elim) k
theorem onO_e {o : Option α} {f : α → Bool} {G : Prop} (h : onO o f = true) (k : ∀ x, o = some x → f x = true → G) : G := by
  cases o with
  | none => cases h
  | some x => exact k x rfl h
end
theorem and_e {a b : Bool} (h : (a && b) = true) : a = true ∧ b = true := (Bool.and_eq_true ..).mp h
theorem ints_e {x : AV} {l : List AV} {is : List Int} (e : ints? (x :: l) = some is) : ∃ i js, x = .int i ∧ ints? l = some js ∧ is = i :: js := by
  obtain ⟨i, e1, e⟩ := Option.bind_eq_some_iff.mp e
  obtain ⟨js, e2, e⟩ := Option.map_eq_some_iff.mp e
  exact ⟨i, js, int?_some e1, e2, e.symm⟩
theorem RVs.ints {l : List AV} {vs : List Value} (r : RVs prog w h ρ Φ l vs) : ∀ {is : List Int}, ints? l = some is → IntsAre vs is :=
  RVs.rec' (P := fun l vs => ∀ {is : List Int}, ints? l = some is → IntsAre vs is) (fun e => by cases e; exact .nil)
    (fun x l v vs hv _ ih is e => by
      obtain ⟨i, js, rfl, e2, rfl⟩ := ints_e e
      obtain ⟨t, rfl⟩ := hv
      exact .cons _ _ (ih e2)) r
theorem RVs.of_ints {vs : List Value} {is : List Int} (h : IntsAre vs is) : RVs prog w h' ρ Φ (is.map .int) vs := by
  induction h with
  | nil => rfl
  | cons a u _ ih => exact ih.cons ⟨u, rfl⟩

/-- the object at an owned address stands, the rest goes on -/
theorem RO.mono (E : Ext ρ Φ h ρ' Φ' h') {o : AO} {a : Addr} (k : ∀ ob, h.get? a = some ob → h'.get? a = some ob) (r : RO prog w h ρ Φ o a) : RO prog w h' ρ' Φ' o a := by
  cases o with
  | list l => obtain ⟨vs, ⟨n, g⟩, r⟩ := r; exact ⟨vs, ⟨n, k _ g⟩, r.mono E⟩
  | edict => obtain ⟨n, g⟩ := r; exact ⟨n, k _ g⟩
  | idict ks l => obtain ⟨vs, g, hl, r⟩ := r; exact ⟨vs, DictOf.at' g k, hl, r.mono E⟩
  | bdict ks l => obtain ⟨vs, g, hl, r⟩ := r; exact ⟨vs, DictOf.at' g k, hl, r.mono E⟩
  | barr b => exact k _ r
  | inst C d => obtain ⟨dx, e, g⟩ := r; exact ⟨dx, E.rho _ _ e, k _ g⟩
  | ns ks l => obtain ⟨vs, g, r⟩ := r; exact ⟨vs, g.at' k, r.mono E⟩

theorem RO.live {o : AO} {a : Addr} (r : RO prog w h ρ Φ o a) : ∃ ob, h.get? a = some ob := by
  cases o with
  | list l => obtain ⟨vs, ⟨n, g⟩, r⟩ := r; exact ⟨_, g⟩
  | edict => obtain ⟨n, g⟩ := r; exact ⟨_, g⟩
  | idict ks l => obtain ⟨vs, ⟨o, es, ep, g, r⟩, _⟩ := r; exact ⟨_, g⟩
  | bdict ks l => obtain ⟨vs, ⟨o, es, ep, g, r⟩, _⟩ := r; exact ⟨_, g⟩
  | barr b => exact ⟨_, r⟩
  | inst C d => obtain ⟨dx, e, g⟩ := r; exact ⟨_, g⟩
  | ns ks l => obtain ⟨vs, ⟨es, n, g, _⟩, r⟩ := r; exact ⟨_, g⟩

variable (prog w) in
structure Sim (bs : Heap) (ρ Φ : List Addr) (H : HH) (h : Heap) : Prop where
  len : ρ.length = H.length
  nodup : ρ.Nodup
  apart : ∀ a ∈ ρ, a ∉ Φ
  live : ∀ a ∈ Φ, ∃ o, h.get? a = some o
  base : ∀ b o, bs.get? b = some o → h.get? b = some o ∧ Free ρ Φ b
  sysm : (∃ b o, sysModules < b ∧ bs.get? b = some o) ∧ sysModules ∉ ρ
  rep : ∀ (i : Nat) (a : Addr) (o : AO), ρ[i]? = some a → H[i]? = some o → RO prog w h ρ Φ o a

structure Step (ρ ρ' fp : List Addr) (h h' : Heap) : Prop where
  lives : ∀ a o, h.get? a = some o → ∃ o', h'.get? a = some o'
  keep : ∀ a o, h.get? a = some o → a ∉ ρ → a ∉ fp → h'.get? a = some o
  grow : ∃ new, ρ' = ρ ++ new ∧ ∀ a ∈ new, h.get? a = none

variable {base : Heap} {H H' : HH} {fp : List Addr}

theorem Step.refl : Step ρ ρ fp h h := ⟨fun _ o e => ⟨o, e⟩, fun _ _ e _ _ => e, [], by simp, fun _ m => nomatch m⟩
theorem Step.trans (x : Step ρ ρ' fp h h') (y : Step ρ' ρ'' fp h' h'') : Step ρ ρ'' fp h h'' := by
  obtain ⟨n1, rfl, g1⟩ := x.grow
  obtain ⟨n2, rfl, g2⟩ := y.grow
  refine ⟨fun a o e => let ⟨o', e'⟩ := x.lives a o e; y.lives a o' e', fun a o e f g => y.keep a o (x.keep a o e f g) ?_ g, n1 ++ n2, by simp, fun a m => ?_⟩
  · intro m
    rcases List.mem_append.mp m with m | m
    · exact f m
    · rw [g1 a m] at e; cases e
  · rcases List.mem_append.mp m with m | m
    · exact g1 a m
    · cases e : h.get? a with
      | none => rfl
      | some o =>
        obtain ⟨o', e'⟩ := x.lives a o e
        rw [g2 a m] at e'; cases e'
theorem Step.wider {fp' : List Addr} (x : Step ρ ρ' fp h h') (k : ∀ a ∈ fp, a ∈ fp') : Step ρ ρ' fp' h h' := ⟨x.lives, fun a o e f g => x.keep a o e f fun m => g (k a m), x.grow⟩
theorem Step.of_keep (k : ∀ a o, h.get? a = some o → h'.get? a = some o) : Step ρ ρ fp h h' := ⟨fun a o e => ⟨o, k a o e⟩, fun a o e _ _ => k a o e, [], by simp, fun _ m => nomatch m⟩

theorem Step.ext (x : Step ρ ρ' fp h h') (k : ∀ a ∈ fp, a ∈ Φ) : Ext ρ Φ h ρ' Φ h' := by
  obtain ⟨new, rfl, g⟩ := x.grow
  refine ⟨fun a o e f => x.keep a o e f.1 fun m => f.2 (k a m), fun i a e => ?_, fun a o e f => ⟨fun m => ?_, f.2⟩⟩
  · rw [List.getElem?_append_left (List.getElem?_eq_some_iff.mp e).1]; exact e
  · rcases List.mem_append.mp m with m | m
    · exact f.1 m
    · rw [g a m] at e; cases e

theorem Sim.lt (S : Sim prog w base ρ Φ H h) {a : Addr} (m : a ∈ ρ) : a < h.objs.size := by
  obtain ⟨i, hi, e⟩ := List.mem_iff_getElem.mp m
  have hi' : i < H.length := S.len ▸ hi
  obtain ⟨ob, g⟩ := (S.rep i a H[i] (by rw [List.getElem?_eq_getElem hi, e]) (List.getElem?_eq_getElem hi')).live
  exact Heap.lt_size g

/-- nothing that anybody owns has changed -/
theorem Sim.keeps (S : Sim prog w base ρ Φ H h) (hs : ∀ a ∈ Φ, ∃ o, h'.get? a = some o) (k : ∀ a o, h.get? a = some o → a ∉ Φ → h'.get? a = some o) : Sim prog w base ρ Φ H h' :=
  have E : Ext ρ Φ h ρ Φ h' := ⟨fun a o e f => k a o e f.2, fun _ _ e => e, fun _ _ _ f => f⟩
  ⟨S.len, S.nodup, S.apart, hs, fun b o e => ⟨k b o (S.base b o e).1 (S.base b o e).2.2, (S.base b o e).2⟩, S.sysm,
    fun i a o e1 e2 => (S.rep i a o e1 e2).mono E fun ob g => k a ob g (S.apart a (List.mem_of_getElem? e1))⟩

/-- a new owned object -/
theorem Sim.push (S : Sim prog w base ρ Φ H h) {o : Obj} {ao : AO} (hr : RO prog w (h.push o) (ρ ++ [h.objs.size]) Φ ao h.objs.size) :
    Sim prog w base (ρ ++ [h.objs.size]) Φ (H ++ [ao]) (h.push o) := by
  have hsz : (h.push o).objs.size = h.objs.size + 1 := Heap.size_push ..
  have nΦ : h.objs.size ∉ Φ := fun m => let ⟨_, e⟩ := S.live _ m; absurd (Heap.lt_size e) (Nat.lt_irrefl _)
  have nρ : h.objs.size ∉ ρ := fun m => absurd (S.lt m) (Nat.lt_irrefl _)
  have E : Ext ρ Φ h (ρ ++ [h.objs.size]) Φ (h.push o) := ⟨fun a ob e _ => Heap.get?_push_of_some _ e, fun i a e => by rw [List.getElem?_append_left (List.getElem?_eq_some_iff.mp e).1]; exact e,
    fun a ob e f => ⟨fun m => by
      rcases List.mem_append.mp m with m | m
      · exact f.1 m
      · rw [List.mem_singleton.mp m] at e; exact absurd (Heap.lt_size e) (Nat.lt_irrefl _), f.2⟩⟩
  refine ⟨by simp [S.len], ?_, fun a m => ?_, fun a m => let ⟨o', e⟩ := S.live a m; ⟨o', Heap.get?_push_of_some _ e⟩, fun b ob e => ⟨Heap.get?_push_of_some _ (S.base b ob e).1, E.res b ob (S.base b ob e).1 (S.base b ob e).2⟩, ⟨S.sysm.1, fun m => by
      obtain ⟨b, ob, hb, e⟩ := S.sysm.1
      have hlt := Heap.lt_size (S.base b ob e).1
      rcases List.mem_append.mp m with m | m
      · exact S.sysm.2 m
      · have q := List.mem_singleton.mp m
        rw [← q] at hlt
        exact absurd hlt (Nat.not_lt.mpr (Nat.le_of_lt hb))⟩, fun i a oo e1 e2 => ?_⟩
  · rw [List.nodup_append]
    exact ⟨S.nodup, by simp, fun a ha b hb => by rw [List.mem_singleton.mp hb]; exact fun e => nρ (e ▸ ha)⟩
  · rcases List.mem_append.mp m with m | m
    · exact S.apart a m
    · rw [List.mem_singleton.mp m]; exact nΦ
  · rcases Nat.lt_or_ge i ρ.length with hi | hi
    · rw [List.getElem?_append_left hi] at e1
      rw [List.getElem?_append_left (S.len ▸ hi)] at e2
      exact (S.rep i a oo e1 e2).mono E fun ob g => Heap.get?_push_of_some _ g
    · have hi' : H.length ≤ i := S.len ▸ hi
      rw [List.getElem?_append_right hi] at e1
      rw [List.getElem?_append_right hi'] at e2
      have h0 : i - ρ.length = 0 := by
        have := (List.getElem?_eq_some_iff.mp e1).1
        simp at this; (clear hi' hi nρ nΦ hsz; omega)
      have h1 : i - H.length = 0 := by rw [← S.len]; exact h0
      rw [h0] at e1
      rw [h1] at e2
      simp at e1 e2
      subst e1 e2
      exact hr

/-- an owned object turned -/
theorem Sim.change (S : Sim prog w base ρ Φ H h) {i : Nat} {a : Addr} {ao : AO} (hi : ρ[i]? = some a) (hs : Heap.SameBut a h h') (hr : RO prog w h' ρ Φ ao a) :
    Sim prog w base ρ Φ (H.set i ao) h' := by
  have ma : a ∈ ρ := List.mem_of_getElem? hi
  have E : Ext ρ Φ h ρ Φ h' := ⟨fun b o e f => (hs.2 b fun q => f.1 (q ▸ ma)).trans e, fun _ _ e => e, fun _ _ _ f => f⟩
  refine ⟨by simp [S.len], S.nodup, S.apart, fun b m => let ⟨o', e⟩ := S.live b m; ⟨o', (hs.2 b fun q => S.apart a ma (q ▸ m)).trans e⟩, fun b o e => ⟨E.keep b o (S.base b o e).1 (S.base b o e).2, (S.base b o e).2⟩, S.sysm, fun j b oo e1 e2 => ?_⟩
  by_cases hj : j = i
  · subst hj
    rw [hi] at e1; cases e1
    have hlt : j < H.length := S.len ▸ (List.getElem?_eq_some_iff.mp hi).1
    rw [List.getElem?_set_self hlt] at e2; cases e2
    exact hr
  · rw [List.getElem?_set_ne (Ne.symm hj)] at e2
    have hne : b ≠ a := fun e => hj (by
      subst e
      exact (List.getElem?_inj (List.getElem?_eq_some_iff.mp e1).1 S.nodup).mp (e1.trans hi.symm))
    exact (S.rep j b oo e1 e2).mono E fun ob g => (hs.2 b hne).trans g

theorem Sim.step_change (S : Sim prog w base ρ Φ H h) {i : Nat} {a : Addr} (hi : ρ[i]? = some a) (hs : Heap.SameBut a h h') (hl : ∃ o, h'.get? a = some o) : Step ρ ρ fp h h' :=
  ⟨fun b o e => by by_cases q : b = a; exact q ▸ hl; exact ⟨o, (hs.2 b q).trans e⟩, fun b o e f _ => (hs.2 b fun q => f (q ▸ List.mem_of_getElem? hi)).trans e, [], by simp, fun _ m => nomatch m⟩
theorem Step.push {o : Obj} : Step ρ (ρ ++ [h.objs.size]) fp h (h.push o) :=
  ⟨fun a ob e => ⟨ob, Heap.get?_push_of_some _ e⟩, fun a ob e _ _ => Heap.get?_push_of_some _ e, [h.objs.size], rfl, fun a m => by rw [List.mem_singleton.mp m]; exact Heap.get?_none_of_le (Nat.le_refl _)⟩
theorem Step.push0 {o : Obj} : Step ρ ρ fp h (h.push o) := .of_keep fun a ob e => Heap.get?_push_of_some _ e

theorem Sim.obj (S : Sim prog w base ρ Φ H h) {i : Nat} {o : AO} {v : Value} (r : RV prog w h ρ Φ (.obj i) v) (e : H[i]? = some o) : ∃ a, ρ[i]? = some a ∧ v = .ref a ∧ RO prog w h ρ Φ o a := by
  obtain ⟨a, ea, rfl⟩ := r
  exact ⟨a, ea, rfl, S.rep i a o ea e⟩
theorem Sim.fresh (S : Sim prog w base ρ Φ H h) : Free ρ Φ h.objs.size := ⟨fun m => absurd (S.lt m) (Nat.lt_irrefl _), fun m => let ⟨_, e⟩ := S.live _ m; absurd (Heap.lt_size e) (Nat.lt_irrefl _)⟩
theorem Sim.live' (S : Sim prog w base ρ Φ H h) {a : Addr} (m : a ∈ ρ) : ∃ o, h.get? a = some o := by
  obtain ⟨i, hi, e⟩ := List.mem_iff_getElem.mp m
  have hi' : i < H.length := S.len ▸ hi
  exact (S.rep i a H[i] (by rw [List.getElem?_eq_getElem hi, e]) (List.getElem?_eq_getElem hi')).live
/-- nothing that was there is free any more, what was not there is -/
theorem Sim.freshNone (S : Sim prog w base ρ Φ H h) {a : Addr} (ha : h.get? a = none) : Free ρ Φ a :=
  ⟨fun m => (by obtain ⟨o, e⟩ := S.live' m; rw [ha] at e; cases e), fun m => (by obtain ⟨o, e⟩ := S.live a m; rw [ha] at e; cases e)⟩
theorem Sim.kept (S : Sim prog w base ρ Φ H h) (k : ∀ a o, h.get? a = some o → h'.get? a = some o) : Sim prog w base ρ Φ H h' :=
  S.keeps (fun a m => let ⟨o, e⟩ := S.live a m; ⟨o, k a o e⟩) fun a o e _ => k a o e
end

-- Cl1
section
open PySem PySem.Calls PySem.W PyProof.Rows PySem.SeqAt
open Sem (wp)

/-- a code that may hold a bytearray's octets -/
noncomputable def dirty : Code → Bool
  | .builtin id _ => Builtin.Bytes.decodersThatHold.contains id
  | _ => false
noncomputable def CleanL (l : List (Code × Pos)) : Prop := ∀ x ∈ l, dirty x.1 = false

/-- as wpAny, but under clean stacks alone -/
noncomputable def wpC {α : Type} (M : Model) (A : Around) (t : Sem α) (Q : α → Shared → Prop) (E : Value → Shared → Prop) (s : Shared) : Prop :=
  ∀ Γ p, Γ.In A → dirty Γ.code = false → CleanL Γ.below → wp M Γ t (fun a _ s' => Q a s') (fun e _ s' => E e s') p s
noncomputable def codeC (M : Model) (A : Around) (c : Code) (R : Result → Shared → Prop) (s : Shared) : Prop :=
  ∀ Γ p, Γ.code = c → Γ.Below A → CleanL Γ.below → wpCode M Γ R p s

section
variable {α β : Type} {M : Model} {A : Around} {E : Value → Shared → Prop} {s : Shared}

theorem wpC_of_any {t : Sem α} {Q : α → Shared → Prop} (h : wpAny M A t Q E s) : wpC M A t Q E s := fun Γ p hΓ _ _ => h Γ p hΓ
theorem codeC_of_any {c : Code} {R : Result → Shared → Prop} (h : codeAny M A c R s) : codeC M A c R s := fun Γ p hc hΓ _ => h Γ p hc hΓ
theorem wpC_pure {a : α} {Q : α → Shared → Prop} (h : Q a s) : wpC M A (pure a) Q E s := fun _ _ _ _ _ => h
theorem wpC_mono {t : Sem α} {Q Q' : α → Shared → Prop} {E' : Value → Shared → Prop} (h : wpC M A t Q E s) (hQ : ∀ a s, Q a s → Q' a s) (hE : ∀ e s, E e s → E' e s) : wpC M A t Q' E' s :=
  fun Γ p hΓ h1 h2 => Sem.wp_mono M Γ t (fun a _ s => hQ a s) (fun e _ s => hE e s) p s (h Γ p hΓ h1 h2)
theorem wpC_bind {m : Sem α} {f : α → Sem β} {Q : β → Shared → Prop} (h : wpC M A m (fun a s' => wpC M A (f a) Q E s') E s) : wpC M A (m >>= f) Q E s := fun Γ p hΓ h1 h2 => by
  rw [Sem.wp_bind']
  exact Sem.wp_mono M Γ m (fun a p' s' h' => h' Γ p' hΓ h1 h2) (fun _ _ _ h' => h') p s (h Γ p hΓ h1 h2)
theorem wpC_onRaise {m : Sem α} {k : Value → Sem Unit} {Q : α → Shared → Prop} (h : wpC M A m Q (fun e s' => wpC M A (k e) (fun _ s'' => E e s'') E s') s) : wpC M A (m.onRaise k) Q E s := fun Γ p hΓ h1 h2 => by
  rw [Sem.wp_onRaise]
  exact Sem.wp_mono M Γ m (fun _ _ _ h' => h') (fun e p' s' h' => h' Γ p' hΓ h1 h2) p s (h Γ p hΓ h1 h2)
theorem wpC_attempt {m : Sem α} {Q : Except Value α → Shared → Prop} (h : wpC M A m (fun a => Q (.ok a)) (fun e => Q (.error e)) s) : wpC M A m.attempt Q E s := fun Γ p hΓ h1 h2 => by
  rw [Sem.wp_attempt]; exact h Γ p hΓ h1 h2
theorem wpC_tryCatch {m : Sem α} {k : Value → Sem α} {Q : α → Shared → Prop} (h : wpC M A m Q (fun e s' => wpC M A (k e) Q E s') s) : wpC M A (tryCatch m k) Q E s := fun Γ p hΓ h1 h2 => by
  rw [Sem.wp_tryCatch']
  exact Sem.wp_mono M Γ m (fun _ _ _ h' => h') (fun e p' s' h' => h' Γ p' hΓ h1 h2) p s (h Γ p hΓ h1 h2)
theorem wpC_holding {vs : List Value} {m : Sem α} {Q : α → Shared → Prop} (h : wpC M A m Q E s) : wpC M A (holding vs m) Q E s := fun Γ p hΓ h1 h2 => by rw [Sem.wp_holding]; exact h Γ p hΓ h1 h2
theorem wpC_standAt {pos : Pos} {Q : Unit → Shared → Prop} (h : Q () s) : wpC M A (standAt pos) Q E s := fun _ _ _ _ _ => h
theorem wpC_rule {tag : String} {Q : Unit → Shared → Prop} (h : Q () s) : wpC M A (rule tag) Q E s := fun _ _ _ _ _ => h
theorem wpC_point {Q : Unit → Shared → Prop} (h : Q () s) : wpC M A point Q E s := fun _ _ _ _ _ => h
theorem wpC_of_eq {t : Sem α} {a : α} {Q : α → Shared → Prop} (h : t = pure a) (hQ : Q a s) : wpC M A t Q E s := h ▸ wpC_pure hQ
/-- a leaf, then the rest -/
theorem wpC_then {m : Sem α} {f : α → Sem β} {Q : β → Shared → Prop} (h : wpAny M A m (fun a s' => wpC M A (f a) Q E s') E s) : wpC M A (m >>= f) Q E s := wpC_bind (wpC_of_any h)

theorem CleanL.cons {c : Code} {p : Pos} {l : List (Code × Pos)} (h1 : dirty c = false) (h2 : CleanL l) : CleanL ((c, p) :: l) := fun x hx => by
  rcases List.mem_cons.mp hx with rfl | hx
  · exact h1
  · exact h2 x hx

theorem codeC_mono {c : Code} {R R' : Result → Shared → Prop} (h : codeC M A c R s) (hR : ∀ r s, R r s → R' r s) : codeC M A c R' s := fun Γ p hc hΓ h2 => wpCode_mono hR (h Γ p hc hΓ h2)
theorem wpC_run {c : Code} {h : Option Value} {Q : Flow → Shared → Prop}
    (hc : codeC M (A.mark h) c (fun r s' => match r with | .ok f => Q f s' | .error e => E e s') s) (hnb : h ≠ some byPass) : wpC M A (run c h) Q E s :=
  fun Γ p hΓ h1 h2 => by rw [Sem.wp_run]; exact hc _ p rfl (hΓ.enter c h p hnb) (h2.cons h1)
theorem wpC_runValue {c : Code} {Q : Value → Shared → Prop}
    (hc : codeC M A c (fun r s' => match r with | .ok (.ret v) => Q v s' | .ok _ => False | .error e => E e s') s) : wpC M A (runValue c) Q E s :=
  fun Γ p hΓ h1 h2 => by rw [Sem.wp_runValue]; exact hc _ p rfl (hΓ.enter c none p (by intro x; cases x)) (h2.cons h1)
theorem wpC_call {f : Value} {pos : List Value} {kw : List (Str × Value)} {Q : Value → Shared → Prop}
    (hc : codeC M A (.call f ⟨pos, kw⟩) (fun r s' => match r with | .ok (.ret v) => Q v s' | .ok _ => False | .error e => E e s') s) : wpC M A (call f pos kw) Q E s := wpC_runValue hc

theorem codeC_of_tree {c : Code} {R : Result → Shared → Prop}
    (h : wpC M (A.under c) (M.den c) (fun fin s' => match fin with | .done f => R (.ok f) s' | .again c' => c'.quiet = true ∧ codeC M A c' R s') (fun e s' => R (.error e) s') s)
    (hd : dirty c = false) : codeC M A c R s := fun Γ p hc hΓ h2 => by
  rw [wpCode_iff_wp, hc]
  refine Sem.wp_mono M Γ _ (fun fin p' s' h' => ?_) (fun _ _ _ h' => h') p s (h Γ p (hc ▸ hΓ.in) (by rw [hc]; exact hd) h2)
  cases fin with
  | done f => exact h'
  | again c' => exact ⟨h'.1, h'.2 (Γ.goto c') p' rfl (hΓ.goto c') h2⟩

theorem codeC_loop {c : Code} {R : Result → Shared → Prop} (hq : c.quiet = true) (I : Nat → Shared → Prop)
    (turn : ∀ n s, I n s → wpC M (A.under c) (M.den c) (fun fin s' => match fin with | .done f => R (.ok f) s' | .again c' => (c' = c ∧ ∃ m, m < n ∧ I m s') ∨ (c'.quiet = true ∧ codeC M A c' R s')) (fun e s' => R (.error e) s') s)
    (n : Nat) (h : I n s) (hd : dirty c = false) : codeC M A c R s := by
  induction n using Nat.strongRecOn generalizing s with
  | ind n ih =>
    refine codeC_of_tree (wpC_mono (turn n s h) (fun fin s' hf => ?_) fun _ _ h' => h') hd
    cases fin with
    | done f => exact hf
    | again c' =>
      rcases hf with ⟨rfl, m, hm, hI⟩ | hf
      · exact ⟨hq, ih m hm hI⟩
      · exact hf
end

section
variable {prog : Program} {w : World} {A : Around} {E : Value → Shared → Prop} {s : Shared}
theorem codeC_func {R : Result → Shared → Prop} {body : List Stmt} {env : Env}
    (h : wpC (model prog w) (A.deeper env) (execs body env) (fun f s' => R (.ok (.ret (match f with | .ret v => v | _ => .none))) s') (fun _ _ => False) s) : codeC (model prog w) A (.func body env) R s := by
  refine codeC_of_tree ?_ rfl
  show wpC _ (A.deeper env) (do point; match ← (execs body env).onRaise (leaving env) with | .ret v => ret v | _ => ret .none) _ _ s
  refine wpC_bind (wpC_point (wpC_bind (wpC_onRaise (wpC_mono h (fun f s' h' => ?_) fun _ _ h' => h'.elim))))
  cases f <;> exact wpC_pure h'
theorem codeC_builtin {R : Result → Shared → Prop} {id : String} {args : Args} {b : Builtin} (hb : entryFor table id = some b)
    (h : wpC (model prog w) (A.under (.builtin id args)) (b args) (fun fin s' => match fin with | .done f => R (.ok f) s' | .again c' => c'.quiet = true ∧ codeC (model prog w) A c' R s') (fun e s' => R (.error e) s') s)
    (hd : dirty (.builtin id args) = false) : codeC (model prog w) A (.builtin id args) R s := by
  refine codeC_of_tree ?_ hd
  show wpC _ _ (match entryFor table id with | some b => b args | none => unsupported ((withoutEnding? id "#data").getD id)) _ _ s
  rw [hb]; exact h
/-- a built-in, called: its arguments looked at, its tree run -/
theorem codeC_call_builtin {R : Result → Shared → Prop} {id : String} {args : Args} {b : Builtin} (hq : (Code.builtin id args).quiet = true) (hb : entryFor table id = some b)
    (h : wpAny (model prog w) A.in1 (checkBuiltinCall id args) (fun _ s₁ => wpC (model prog w) (A.under (.builtin id args)) (b args)
      (fun fin s' => match fin with | .done f => R (.ok f) s' | .again c' => c'.quiet = true ∧ codeC (model prog w) A c' R s') (fun e s' => R (.error e) s') s₁) (fun e s' => R (.error e) s') s)
    (hd : dirty (.builtin id args) = false) : codeC (model prog w) A (.call (.builtin id) args) R s := by
  refine codeC_of_tree ?_ rfl
  show wpC _ A.in1 (do checkBuiltinCall id args; again (.builtin id args)) _ _ s
  exact wpC_then (wpAny_mono h (fun _ s₁ h₁ => wpC_pure (And.intro hq (codeC_builtin hb h₁ hd))) fun _ _ h' => h')

end
end

-- V4
section
open PySem PySem.Calls PySem.W PyProof.Rows

structure Ok (A : Around) (n : Nat) : Prop where
  handled : A.handled = none
  guards : A.guards = some []
  depth : A.depth + 4 * n ≤ 990
  units : A.units + 400 * n ≤ 9500
theorem Ok.less {A : Around} {n k : Nat} (x : Ok A n) (hk : k ≤ n) : Ok A k := ⟨x.handled, x.guards, by have := x.depth; omega, by have := x.units; omega⟩
theorem Ok.room {A : Around} {n : Nat} (x : Ok A n) : A.units < cLine := by have := x.units; unfold cLine; omega

/-- the same run but for the heap, the marks -/
structure Go (ρ ρ' fp : List Addr) (s s' : Shared) : Prop where
  step : Step ρ ρ' fp s.heap s'.heap
  os : s'.os = s.os
  gens : s'.gens = s.gens

section
variable {prog : Program} {w : World} {base : Heap} {ρ ρ' ρ'' Φ Φ' fp : List Addr} {s s' s'' : Shared} {H H' : HH} {h h' : Heap}

theorem Go.refl : Go ρ ρ fp s s := ⟨.refl, rfl, rfl⟩
theorem Go.trans (x : Go ρ ρ' fp s s') (y : Go ρ' ρ'' fp s' s'') : Go ρ ρ'' fp s s'' := ⟨x.step.trans y.step, y.os.trans x.os, y.gens.trans x.gens⟩
theorem Go.wider {fp' : List Addr} (x : Go ρ ρ' fp s s') (k : ∀ a ∈ fp, a ∈ fp') : Go ρ ρ' fp' s s' := ⟨x.step.wider k, x.os, x.gens⟩
theorem Go.nil {fp' : List Addr} (x : Go ρ ρ' [] s s') : Go ρ ρ' fp' s s' := x.wider fun _ m => nomatch m
theorem Go.toks (t : Nat) : Go ρ ρ fp s { s with toks := t } := ⟨.refl, rfl, rfl⟩
theorem Go.push0 (o : Obj) (t : Nat) : Go ρ ρ fp s { s with heap := s.heap.push o, toks := t } := ⟨.push0, rfl, rfl⟩
theorem Go.keep {h' : Heap} {t : Nat} (k : ∀ a o, s.heap.get? a = some o → h'.get? a = some o) : Go ρ ρ fp s { s with heap := h', toks := t } := ⟨.of_keep k, rfl, rfl⟩
theorem Go.ext (x : Go ρ ρ' fp s s') (k : ∀ a ∈ fp, a ∈ Φ) : Ext ρ Φ s.heap ρ' Φ s'.heap := x.step.ext k
theorem Go.ext0 (x : Go ρ ρ' [] s s') : Ext ρ Φ s.heap ρ' Φ s'.heap := x.step.ext fun _ m => nomatch m

noncomputable def OR (prog : Program) (w : World) (h : Heap) (ρ Φ : List Addr) (ov : Option Value) (ox : Option AV) : Prop := match ov, ox with
  | none, none => True
  | some v, some x => RV prog w h ρ Φ x v
  | _, _ => False
theorem OR.mono {ov : Option Value} {ox : Option AV} (E : Ext ρ Φ h ρ' Φ' h') (r : OR prog w h ρ Φ ov ox) : OR prog w h' ρ' Φ' ov ox := by
  cases ov <;> cases ox <;> first | exact r | exact RV.mono E _ _ r
theorem OR.some {ov : Option Value} {x : AV} (r : OR prog w h ρ Φ ov (some x)) : ∃ v, ov = some v ∧ RV prog w h ρ Φ x v := by
  cases ov with
  | none => exact r.elim
  | some v => exact ⟨v, rfl, r⟩

variable (prog w) in
structure EnvOk (h : Heap) (ρ Φ fp : List Addr) (env : Env) (sc : Names) (m : Loc) : Prop where
  kind : env.scope.kind = .function
  glob : env.globals = mainGlobals
  bi : env.builtins = builtinsNs
  kL : ∀ x, sc.lookup x = some .local → env.kindOf x = some .local
  kC : ∀ x, sc.lookup x = some .cell → env.kindOf x = some .cell
  kF : ∀ x, sc.lookup x = some .free → env.kindOf x = some .free ∨ env.kindOf x = some .cell
  kG : ∀ x, sc.lookup x = some .globalImplicit → env.kindOf x = some .globalImplicit
  ns : ∃ mc, h.Ns env.locals mc ∧ ∀ x, sc.lookup x = some .local → OR prog w h ρ Φ (mc x) (get x m)
  cells : ∀ x, sc.lookup x = some .cell ∨ sc.lookup x = some .free → ∃ c ov, env.cells.lookup x = some c ∧ h.IsCell c ov ∧ OR prog w h ρ Φ ov (get x m) ∧ c ∈ Φ ∧ c ≠ env.locals
  own : ∀ x c, sc.lookup x = some .cell → env.cells.lookup x = some c → c ∈ fp
  apart : ∀ x y c, env.cells.lookup x = some c → env.cells.lookup y = some c → sc.lookup x = some .cell → (sc.lookup y = some .cell ∨ sc.lookup y = some .free) → x = y
  loc : env.locals ∈ fp
  sub : ∀ a ∈ fp, a ∈ Φ
  tame : ∀ x ∈ sc, (x.1 == ("__debug__" : Str)) = false ∧ (x.1 == ("__classdict__" : Str)) = false

theorem EnvOk.mono {env : Env} {sc : Names} {m : Loc} (X : EnvOk prog w h ρ Φ fp env sc m) (E : Ext ρ Φ h ρ' Φ' h') (k : ∀ a ∈ Φ, ∀ o, h.get? a = some o → h'.get? a = some o) (hΦ : ∀ a ∈ Φ, a ∈ Φ') : EnvOk prog w h' ρ' Φ' fp env sc m := by
  obtain ⟨k1, k2, k3, k4, k5, k6, k7, ⟨mc, hn, hm⟩, hc, ho, ha, hl, hs, ht⟩ := X
  refine ⟨k1, k2, k3, k4, k5, k6, k7, ⟨mc, hn.at' (k _ (hs _ hl)), fun x hx => (hm x hx).mono E⟩, fun x hx => ?_, ho, ha, hl, fun a m => hΦ a (hs a m), ht⟩
  obtain ⟨c, ov, e1, ⟨o, g, d⟩, r, mΦ, ne⟩ := hc x hx
  exact ⟨c, ov, e1, ⟨o, k c mΦ o g, d⟩, r.mono E, hΦ c mΦ, ne⟩
theorem EnvOk.go {env : Env} {sc : Names} {m : Loc} (X : EnvOk prog w s.heap ρ Φ fp env sc m) (S : Sim prog w base ρ Φ H s.heap) (g : Go ρ ρ' [] s s') : EnvOk prog w s'.heap ρ' Φ fp env sc m :=
  X.mono g.ext0 (fun a m o e => g.step.keep a o e (fun q => S.apart a q m) fun q => nomatch q) fun _ m => m

noncomputable def StatV : AV → Value → Prop
  | .fn a, v => v = .ref a
  | .cls a, v => v = .ref a
  | .bi u, v => v = u
  | _, _ => False
theorem StatV.rv {x : AV} {v : Value} (r : StatV x v) : RV prog w h ρ Φ x v := by
  cases x <;> first | exact r | exact r.elim

/-- what a global name of the text, or a built-in's, is -/
noncomputable def GlobOk (base : Heap) (x : Str) (v : AV) : Prop :=
  ∃ mg u, base.Ns mainGlobals mg ∧ StatV v u ∧ (mg x = some u ∨ (mg x = none ∧ ∃ mb, base.Ns builtinsNs mb ∧ mb x = some u))

theorem Sim.ns (S : Sim prog w base ρ Φ H h) {a : Addr} {m : Str → Option Value} (hn : base.Ns a m) : h.Ns a m := hn.keeps fun b o e => (S.base b o e).1

/-- an attribute that lies in the object's own namespace alone -/
structure AttrOk (K : Frag) (Cl : Addr) (x : Str) : Prop where
  get : plainGet K Cl x = true
  dict : hasDictIn K Cl = true
  own : ∃ attr, findIn K (.ref Cl) x = some attr ∧ noGet K attr = true
  sets : findIn K (.ref Cl) "__setattr__" = some (some (.builtin "object.__setattr__"))
  over : plainOver K Cl = true
  taker : takerIn K Cl x = some none
structure MethOk (K : Frag) (Cl : Addr) (x : Str) (f : Addr) : Prop where
  get : plainGet K Cl x = true
  own : findIn K (.ref Cl) x = some (some (.ref f))
  fn : isFn K (.ref f) = true

/-- room for a class's making -/
structure Ok1 (A : Around) (n : Nat) : Prop where
  handled : A.handled = none
  guards : A.guards = some []
  depth : A.depth + 4 * n ≤ 992
  units : A.units + 400 * n ≤ 9600

variable (prog w) in
structure CxOk (K : Frag) (base : Heap) (n : Nat) (C : Cx) : Prop where
  kin : K.In base
  lim : base.NoLimit
  glob : ∀ x v, C.glob x = some v → GlobOk base x v
  attr : ∀ Cl x, C.attr Cl x = true → AttrOk K Cl x
  meth : ∀ Cl x f, C.meth Cl x = some f → MethOk K Cl x f
  makes : ∀ Cl f, C.meth Cl "__init__" = some f → makesIn K Cl = true ∧ keepIn K (.ref Cl) = true
  fn : ∀ a as H P, C.call a as H P → keepIn K (.ref a) = true
  call : ∀ {a : Addr} {as : List AV} {H : HH} {P : AV → HH → Prop}, C.call a as H P → ∀ {A : Around} {s : Shared} {ρ Φ : List Addr} {us : List Value} {R : Result → Shared → Prop}, Ok A n →
    Sim prog w base ρ Φ H s.heap → RVs prog w s.heap ρ Φ as us →
    (∀ v H' u s', P v H' → Go ρ ρ [] s s' → Sim prog w base ρ Φ H' s'.heap → RV prog w s'.heap ρ Φ v u → R (.ok (.ret u)) s') → codeC (model prog w) A (.call (.ref a) ⟨us, []⟩) R s
  init : ∀ {a : Addr} {as : List AV} {H : HH} {P : HH → Prop}, C.init a as H P → ∀ {A : Around} {s : Shared} {ρ Φ : List Addr} {us : List Value} {R : Result → Shared → Prop}, Ok1 A n →
    Sim prog w base ρ Φ H s.heap → RVs prog w s.heap ρ Φ as us →
    (∀ H' ρ' s', P H' → Go ρ ρ' [] s s' → Sim prog w base ρ' Φ H' s'.heap → R (.ok (.ret .none)) s') → codeC (model prog w) A (.call (.ref a) ⟨us, []⟩) R s

theorem Sim.kin {K : Frag} (S : Sim prog w base ρ Φ H h) (x : K.In base) : K.In h := fun b o e => (S.base b o (x b o e)).1

section
variable {K : Frag} {n : Nat} {C : Cx} {A : Around} {E : Value → Shared → Prop} {env : Env} {sc : Names} {m : Loc}

theorem get_put_self (x : Str) (v : AV) (m : Loc) : get x (put x v m) = some v := by
  show cond (x == x) _ _ = _
  rw [beq_self_eq_true]; rfl
theorem get_put_ne {x y : Str} (v : AV) (hne : y ≠ x) (m : Loc) : get y (put x v m) = get y m := by
  show cond (y == x) _ _ = _
  rw [beq_eq_false_iff_ne.mpr hne]; rfl

theorem lookup_mem : ∀ {l : Names} {x : Str} {k : NameKind}, l.lookup x = some k → (x, k) ∈ l := fun h => mem_of_lookup h

theorem load_name {x : Str} {P : AV → Prop} {Q : Value → Shared → Prop} (C0 : CxOk prog w K base n C) (X : EnvOk prog w s.heap ρ Φ fp env sc m) (S : Sim prog w base ρ Φ H s.heap)
    (e : nameP C sc m x P) (hQ : ∀ v u, P v → RV prog w s.heap ρ Φ v u → Q u s) : wpAny (model prog w) A (loadName env x) Q E s ∧ (x == ("__debug__" : Str)) = false := by
  refine optP_e e fun k hk e => ⟨?_, (X.tame _ (lookup_mem hk)).1⟩
  cases k with
  | «local» =>
    refine optP_e e fun v ev p => ?_
    obtain ⟨mc, hn, hm⟩ := X.ns
    obtain ⟨u, hu, r⟩ := (ev ▸ hm x hk).some
    exact wpAny_loadName_local X.kind (X.kL x hk) hn hu (hQ v u p r)
  | cell =>
    refine optP_e e fun v ev p => ?_
    obtain ⟨c, ov, hc, hcell, r, _⟩ := X.cells x (.inl hk)
    obtain ⟨u, rfl, r2⟩ := (ev ▸ r).some
    exact wpAny_loadName_cell X.kind (X.kC x hk) hc hcell (hQ v u p r2)
  | free =>
    refine optP_e e fun v ev p => ?_
    obtain ⟨c, ov, hc, hcell, r, _⟩ := X.cells x (.inr hk)
    obtain ⟨u, rfl, r2⟩ := (ev ▸ r).some
    rcases X.kF x hk with k | k
    · exact wpAny_loadName_free X.kind k hc hcell (hQ v u p r2) (X.tame _ (lookup_mem hk)).2
    · exact wpAny_loadName_cell X.kind k hc hcell (hQ v u p r2)
  | globalImplicit =>
    refine optP_e e fun v ev p => ?_
    obtain ⟨mg, u, hg, r, hu⟩ := C0.glob x v ev
    have fin : wpAny (model prog w) A (loadGlobal env x) Q E s := by
      rcases hu with hu | ⟨hu, mb, hb, hu'⟩
      · exact loadGlobal_global (X.glob ▸ S.ns hg) hu (hQ v u p r.rv)
      · exact loadGlobal_builtin (X.glob ▸ S.ns hg) hu (X.bi ▸ S.ns hb) hu' (hQ v u p r.rv)
    unfold loadName
    simp only [Env.blockKind, X.kind, X.kG x hk, ScopeKind.isAnnotationScope, Bool.false_and, Bool.false_eq_true, if_false]
    exact fin
  | _ => exact e.elim

theorem eval_name {x : Str} {pos : Pos} {P : AV → Prop} {Q : Value → Shared → Prop} (C0 : CxOk prog w K base n C) (X : EnvOk prog w s.heap ρ Φ fp env sc m) (S : Sim prog w base ρ Φ H s.heap)
    (e : nameP C sc m x P) (hQ : ∀ v u, P v → RV prog w s.heap ρ Φ v u → Q u s) : wpAny (model prog w) A (eval (.Name x pos) env) Q E s :=
  have z := load_name (A := A) (E := E) C0 X S e hQ
  wpAny_Name z.1 z.2

/-- one object, of the frame's own, turned -/
theorem turned {a : Addr} {h' : Heap} {t : Nat} (S : Sim prog w base ρ Φ H s.heap) (hs' : Heap.SameBut a s.heap h') (hl : ∃ o, h'.get? a = some o) (ma : a ∈ fp) (mΦ : a ∈ Φ) :
    Go ρ ρ fp s { s with heap := h', toks := t } ∧ Sim prog w base ρ Φ H h' ∧ Ext ρ Φ s.heap ρ Φ h' ∧ ∀ b o, s.heap.get? b = some o → b ∉ Φ → h'.get? b = some o := by
  have keep : ∀ b o, s.heap.get? b = some o → b ∉ Φ → h'.get? b = some o := fun b o e f => (hs'.2 b fun q => f (q ▸ mΦ)).trans e
  have lives : ∀ b o, s.heap.get? b = some o → ∃ o', h'.get? b = some o' := fun b o e => by
    by_cases q : b = a
    · exact q ▸ hl
    · exact ⟨o, (hs'.2 b q).trans e⟩
  exact ⟨⟨⟨lives, fun b o e _ f => (hs'.2 b fun q => f (q ▸ ma)).trans e, [], (List.append_nil _).symm, fun _ q => nomatch q⟩, rfl, rfl⟩, S.keeps (fun b m => let ⟨o, e⟩ := S.live b m; lives b o e) keep,
    ⟨fun b o e f => keep b o e f.2, fun _ _ e => e, fun _ _ _ f => f⟩, keep⟩

/-- a name stored -/
theorem store_name {x : Str} {v : AV} {u : Value} {P : Loc → Prop} {Q : Unit → Shared → Prop} (X : EnvOk prog w s.heap ρ Φ fp env sc m) (S : Sim prog w base ρ Φ H s.heap) (r : RV prog w s.heap ρ Φ v u)
    (e : bindN sc x v m P) (hQ : ∀ m' s', P m' → Go ρ ρ fp s s' → Sim prog w base ρ Φ H s'.heap → EnvOk prog w s'.heap ρ Φ fp env sc m' → (∀ a o, s.heap.get? a = some o → a ∉ Φ → s'.heap.get? a = some o) → Q () s') :
    wpAny (model prog w) A (storeName env x u) Q E s := by
  obtain ⟨k1, k2, k3, k4, k5, k6, k7, ⟨mc, hn, hm⟩, hc, ho, ha, hl, hs, ht⟩ := X
  refine optP_e e fun k hk e => ?_
  cases k with
  | «local» =>
    refine wpAny_storeName_local (k4 x hk) hn (fun h' hn' hs' => ?_) (by rw [k1]; rfl)
    obtain ⟨gg, S', EX, keep⟩ := turned (t := s.toks + 1) S hs' (let ⟨o, _, _, e, _⟩ := hn'; ⟨o, e⟩) hl (hs _ hl)
    refine hQ _ _ e gg S' ⟨k1, k2, k3, k4, k5, k6, k7, ⟨_, hn', fun y hy => ?_⟩, fun y hy => ?_, ho, ha, hl, hs, ht⟩ keep
    · by_cases hxy : y = x
      · subst hxy; rw [if_pos rfl, get_put_self]; exact RV.mono EX _ _ r
      · rw [if_neg hxy, get_put_ne v hxy]; exact (hm y hy).mono EX
    · obtain ⟨c, ov, e1, ⟨o, g, d⟩, rr, mΦ, ne⟩ := hc y hy
      have hxy : y ≠ x := by rintro rfl; rw [hk] at hy; rcases hy with hy | hy <;> cases hy
      exact ⟨c, ov, e1, ⟨o, (hs'.2 c ne).trans g, d⟩, by rw [get_put_ne v hxy]; exact rr.mono EX, mΦ, ne⟩
  | cell =>
    obtain ⟨c, ov, e1, hcell, rr, mΦ, ne⟩ := hc x (.inl hk)
    refine wpAny_storeName_cell k1 (k5 x hk) e1 hcell fun h' hcell' hs' => ?_
    obtain ⟨gg, S', EX, keep⟩ := turned (t := s.toks) S hs' (let ⟨o, e, _⟩ := hcell'; ⟨o, e⟩) (ho x c hk e1) mΦ
    refine hQ _ { s with heap := h' } e gg S' ⟨k1, k2, k3, k4, k5, k6, k7, ⟨mc, hn.sameBut hs' (Ne.symm ne), fun y hy => ?_⟩, fun y hy => ?_, ho, ha, hl, hs, ht⟩ keep
    · have hxy : y ≠ x := by rintro rfl; rw [hk] at hy; cases hy
      rw [get_put_ne v hxy]; exact (hm y hy).mono EX
    · by_cases hxy : y = x
      · subst hxy
        exact ⟨c, some u, e1, hcell', by rw [get_put_self]; exact RV.mono EX _ _ r, mΦ, ne⟩
      · obtain ⟨c2, ov2, e2, hc2, rr2, mΦ2, ne2⟩ := hc y hy
        have hcc : c2 ≠ c := by
          rintro rfl
          exact hxy (ha x y c2 e1 e2 hk hy).symm
        exact ⟨c2, ov2, e2, hc2.sameBut hs' hcc, by rw [get_put_ne v hxy]; exact rr2.mono EX, mΦ2, ne2⟩
  | _ => exact e.elim
end
end
end

-- V5
section
open PySem PySem.Calls PySem.W PyProof.Rows

theorem sizeLine_ge : 1048576 ≤ sizeLine := by unfold sizeLine; decide
theorem small_bounds {x : Int} (h : smallI x = true) : -(2 ^ 62) < x ∧ x < 2 ^ 62 := of_decide_eq_true h
theorem bits_small {x : Int} (h : smallI x = true) : Builtin.Int.intBits x ≤ 62 := by
  have h := small_bounds h
  unfold Builtin.Int.intBits
  split
  · (clear h; omega)
  · rename_i h0
    have h0' : x.natAbs ≠ 0 := by simpa using h0
    have : x.natAbs.log2 < 62 := (Nat.log2_lt h0').mpr (by (clear h0' h0; omega))
    (clear h0' h0 h; omega)

section
variable {prog : Program} {w : World} {base : Heap} {ρ ρ' Φ Φ' fp : List Addr} {s : Shared} {H : HH} {A : Around} {E : Value → Shared → Prop}

/-- int op int -/
theorem bin_int {op : Operator} {a b : Int} {t u : Tok} {Z : Int → Prop} {Q : Value → Shared → Prop} (e : intP op a b Z) (hQ : ∀ c, Z c → Q (.int c s.toks) { s with toks := s.toks + 1 }) :
    wpAny (model prog w) A (binaryOp op (.int a t) (.int b u)) Q E s := by
  cases op with
  | Add => exact add_int (hQ _ e)
  | Sub => exact sub_int (hQ _ e)
  | Mult => exact PyProof.Rows.mul_int (hQ _ e.2) (.of_left (Nat.le_trans (bits_small e.1) (by decide)))
  | FloorDiv => exact floordiv_int (Int.ne_of_gt e.1.1) (hQ _ e.2) (.inl (PyProof.noPylong_small (by have := e.1; omega)))
  | Mod => exact mod_int (Int.ne_of_gt e.1.1) (hQ _ e.2)
  | LShift => exact lshift_int e.1.2.1 (by have := bits_small e.1.1; have := e.1.2; omega) (hQ _ e.2)
  | RShift => exact rshift_int e.1 (hQ _ e.2)
  | BitOr => exact or_int (hQ _ e)
  | BitAnd => exact and_int (hQ _ e)
  | _ => exact e.elim

/-- what is seen as a list: its object, its items -/
theorem viewP_rv {v : AV} {u : Value} {Z : List AV → Prop} {G : Prop} (S : Sim prog w base ρ Φ H s.heap) (e : viewP H v Z) (r : RV prog w s.heap ρ Φ v u)
    (k : ∀ l a vs, Z l → u = .ref a → s.heap.PlainList a vs.toArray → RVs prog w s.heap ρ Φ l vs → G) : G := by
  cases v with
  | lst l => obtain ⟨a, vs, e2, f, g, r⟩ := r; exact k l a vs e e2 g r
  | obj i =>
      refine optP_e e fun o eo e => optP_e e fun l el p => ?_
      cases list?_some el
      obtain ⟨a, ea, e2, vs, g, r⟩ := S.obj r eo
      exact k l a vs p e2 g r
  | _ => exact e.elim

theorem rv_newList {vs : List Value} {l : List AV} (S : Sim prog w base ρ Φ H s.heap) (r : RVs prog w s.heap ρ Φ l vs) :
    RV prog w (s.heap.push { cls := .type "list", data := .seq vs.toArray }) ρ Φ (.lst l) (.ref s.heap.objs.size) :=
  ⟨_, vs, rfl, S.fresh, ⟨0, Heap.get?_push_size _ rfl⟩, r.mono (Step.push0 (fp := []) |>.ext fun _ m => nomatch m)⟩
theorem rv_newTuple {vs : List Value} {l : List AV} (S : Sim prog w base ρ Φ H s.heap) (r : RVs prog w s.heap ρ Φ l vs) :
    RV prog w (s.heap.push { cls := .type "tuple", data := .seq vs.toArray }) ρ Φ (.tup l) (.ref s.heap.objs.size) :=
  ⟨_, vs, rfl, S.fresh, ⟨0, Heap.get?_push_size _ rfl⟩, r.mono (Step.push0 (fp := []) |>.ext fun _ m => nomatch m)⟩
theorem Sim.push0 (S : Sim prog w base ρ Φ H s.heap) (o : Obj) : Sim prog w base ρ Φ H (s.heap.push o) :=
  S.kept fun _ _ e => Heap.get?_push_of_some _ e

theorem fits_line {n : Nat} (h : fits n) : n ≤ sizeLine := Nat.le_trans h sizeLine_ge
/-- a tree's length, and its object's -/
theorem fits_arr {l : List AV} {vs : List Value} (r : RVs prog w s.heap ρ Φ l vs) (h : fits l.length) : vs.toArray.size ≤ sizeLine := by
  rw [List.size_toArray, r.length]; exact fits_line h
theorem fits_two {l r : List AV} {vs us : List Value} (ra : RVs prog w s.heap ρ Φ l vs) (rb : RVs prog w s.heap ρ Φ r us) (h : fits (l ++ r).length) : vs.toArray.size + us.toArray.size ≤ sizeLine := by
  have := fits_line h
  rw [List.length_append, ← ra.length, ← rb.length] at this
  exact this
theorem nil_of {l : List AV} {vs : List Value} (r : RVs prog w s.heap ρ Φ l vs) (h : vs.toArray.isEmpty = true) : l = [] := by
  have hv : vs = [] := by simpa using h
  have := r.length
  rw [hv] at this
  exact List.length_eq_zero_iff.mp this.symm

theorem bin_tup {a b : List AV} {u v : Value} {Q : Value → Shared → Prop} (S : Sim prog w base ρ Φ H s.heap) (ra : RV prog w s.heap ρ Φ (.tup a) u) (rb : RV prog w s.heap ρ Φ (.tup b) v) (hf : fits (a ++ b).length)
    (hQ : ∀ x s', Go ρ ρ [] s s' → Sim prog w base ρ Φ H s'.heap → RV prog w s'.heap ρ Φ (.tup (a ++ b)) x → Q x s') : wpAny (model prog w) A (binaryOp .Add u v) Q E s := by
  have ra0 := ra
  have rb0 := rb
  obtain ⟨a, vs, rfl, fa, ⟨n, ga⟩, ra⟩ := ra
  obtain ⟨b, us, rfl, fb, ⟨n', gb⟩, rb⟩ := rb
  by_cases h1 : vs.toArray.isEmpty = true
  · cases nil_of ra h1
    exact concat_meets ⟨_, ga, rfl⟩ ⟨_, gb, rfl⟩ noFill_tuple_add seq_tuple_add F.slot_tuple_add F.entry_tuple_add (F.args_tuple_add_2 _ _) (AutoSeq1.tuple___add___tuple_tuple_0 a _ n b _ n' h1)
      ⟨ga, gb, hQ _ _ .refl S rb0⟩
  · by_cases h2 : us.toArray.isEmpty = true
    · cases nil_of rb h2
      rw [List.append_nil] at hQ
      exact concat_meets ⟨_, ga, rfl⟩ ⟨_, gb, rfl⟩ noFill_tuple_add seq_tuple_add F.slot_tuple_add F.entry_tuple_add (F.args_tuple_add_2 _ _) (AutoSeq1.tuple___add___tuple_tuple_1 a _ n b _ n' h1 h2)
        ⟨ga, gb, hQ _ _ .refl S ra0⟩
    · refine P.add_tuple ga gb h1 h2 ?_ (fits_two ra rb hf)
      rw [List.append_toArray]
      exact hQ _ _ (.push0 _ _) (S.push0 _) (rv_newTuple S (ra.append rb))
theorem isAdd_of {op : Operator} (h : isAdd op = true) : op = .Add := by cases op <;> first | rfl | cases h
theorem bin_list {op : Operator} {a b : AV} {u v : Value} {Z : AV → Prop} {Q : Value → Shared → Prop} (S : Sim prog w base ρ Φ H s.heap) (ra : RV prog w s.heap ρ Φ a u) (rb : RV prog w s.heap ρ Φ b v)
    (e : ifP (isAdd op) (viewP H a fun a => viewP H b fun b => fits (a ++ b).length ∧ Z (.lst (a ++ b))) False)
    (hQ : ∀ c x s', Z c → Go ρ ρ [] s s' → Sim prog w base ρ Φ H s'.heap → RV prog w s'.heap ρ Φ c x → Q x s') : wpAny (model prog w) A (binaryOp op u v) Q E s :=
  by
    refine ifT_e e fun hop e => isAdd_of hop ▸ viewP_rv S e ra fun a _ vs e e1 ga qa => viewP_rv S e rb fun b _ us e e2 gb qb => ?_
    subst e1 e2
    obtain ⟨_, ga⟩ := ga
    obtain ⟨_, gb⟩ := gb
    refine P.add_list ga gb ?_ (fits_two qa qb e.1)
    rw [List.append_toArray]
    exact hQ _ _ _ e.2 (.push0 _ _) (S.push0 _) (rv_newList S (qa.append qb))

theorem bin_ok {op : Operator} {a b : AV} {u v : Value} {Z : AV → Prop} {Q : Value → Shared → Prop} (S : Sim prog w base ρ Φ H s.heap) (ra : RV prog w s.heap ρ Φ a u) (rb : RV prog w s.heap ρ Φ b v) (e : binP H op a b Z)
    (hQ : ∀ c x s', Z c → Go ρ ρ [] s s' → Sim prog w base ρ Φ H s'.heap → RV prog w s'.heap ρ Φ c x → Q x s') : wpAny (model prog w) A (binaryOp op u v) Q E s := by
  cases a with
  | int i =>
      refine optP_e e fun j ej e => ?_
      cases int?_some ej
      obtain ⟨t, rfl⟩ := ra
      obtain ⟨t', rfl⟩ := rb
      exact bin_int (Z := fun c => Z (.int c)) e fun c p => hQ _ _ _ p (.toks _) S ⟨_, rfl⟩
  | tup l =>
      refine ifT_e e fun hop e => optP_e e fun r er e => ?_
      cases tup?_some er
      exact isAdd_of hop ▸ bin_tup S ra rb e.1 fun x s' => hQ _ x s' e.2
  | bytes l =>
      refine ifT_e e fun hop e => optP_e e fun r er e => ?_
      cases bytes?_some er
      cases isAdd_of hop
      obtain ⟨t, rfl⟩ := ra
      obtain ⟨t', rfl⟩ := rb
      refine KBy.add_bytes (by have := e.1; rw [List.length_append] at this; simp only [fits] at this; simp; omega) fun t' k => ?_
      rw [List.append_toArray]
      exact hQ _ _ _ e.2 (.toks _) S ⟨_, rfl⟩
  | _ => exact bin_list S ra rb e hQ
end
end

-- V6
section
open PySem PySem.Calls PySem.W PyProof.Rows PySem.SeqAt

section
variable {prog : Program} {w : World} {base h : Heap} {ρ ρ' Φ Φ' fp : List Addr} {s : Shared} {H : HH} {A : Around} {E : Value → Shared → Prop}

theorem isSome_e {α : Type} {o : Option α} (h : o.isSome = true) : ∃ x, o = some x := Option.isSome_iff_exists.mp h
theorem okK {k : Nat} {c : Bool} (h : (k != 0 && c) = true) : ∃ j, k = j + 1 ∧ c = true := by
  obtain ⟨h1, h2⟩ := and_e h
  cases k with
  | zero => cases h1
  | succ j => exact ⟨j, rfl, h2⟩

/-- one object seen as two values that may be held against each other: they are equal -/
theorem same_eq : ∀ (a : AV) (k : Nat) (b : AV) (u : Value), okB a k b = true → RV prog w h ρ Φ a u → RV prog w h ρ Φ b u → eqB a b = true := by
  intro a
  refine AV.rec (motive_1 := fun a => ∀ (k : Nat) (b : AV) (u : Value), okB a k b = true → RV prog w h ρ Φ a u → RV prog w h ρ Φ b u → eqB a b = true)
    (motive_2 := fun l => ∀ (k : Nat) (r : List AV) (us : List Value), oksB l k r = true → RVs prog w h ρ Φ l us → RVs prog w h ρ Φ r us → eqsB l r = true)
    (fun _ _ _ e => nomatch e) (fun x k b u e ra rb => ?_) (fun x k b u e ra rb => ?_) (fun x k b u e ra rb => ?_) (fun l ih k b u e ra rb => ?_) (fun l ih k b u e ra rb => ?_)
    (fun _ _ _ _ _ _ e => nomatch e) (fun _ _ _ _ _ _ _ e => nomatch e) (fun _ _ _ _ _ _ e => nomatch e) (fun _ _ _ _ _ e => nomatch e) (fun _ _ _ _ e => nomatch e) (fun _ _ _ _ e => nomatch e) (fun _ _ _ _ e => nomatch e) (fun _ _ _ _ e => nomatch e)
    (fun k r us _ ra rb => ?_) (fun x l h1 h2 k r us e ra rb => ?_) a
  · obtain ⟨y, e⟩ := isSome_e e
    cases bool?_some e
    cases ra; cases rb; exact beq_self_eq_true x
  · obtain ⟨y, e⟩ := isSome_e e
    cases int?_some e
    obtain ⟨t, rfl⟩ := ra
    obtain ⟨t', rb⟩ := rb
    cases rb; exact beq_self_eq_true x
  · obtain ⟨y, e⟩ := isSome_e e
    cases bytes?_some e
    obtain ⟨t, rfl⟩ := ra
    obtain ⟨t', rb⟩ := rb
    injection rb with h1
    cases congrArg Array.toList h1
    exact beq_self_eq_true x
  · refine onO_e e fun r er e => ?_
    cases tup?_some er
    obtain ⟨j, rfl, e⟩ := okK e
    obtain ⟨a, vs, rfl, _, ⟨n, ga⟩, ra⟩ := ra
    obtain ⟨b, us, eb, _, ⟨n', gb⟩, rb⟩ := rb
    cases eb
    cases Option.some.inj (Eq.trans (Eq.symm ga) gb)
    exact ih j r vs e ra rb
  · refine onO_e e fun r er e => ?_
    cases lst?_some er
    obtain ⟨j, rfl, e⟩ := okK e
    obtain ⟨a, vs, rfl, _, ⟨n, ga⟩, ra⟩ := ra
    obtain ⟨b, us, eb, _, ⟨n', gb⟩, rb⟩ := rb
    cases eb
    cases Option.some.inj (Eq.trans (Eq.symm ga) gb)
    rw [ra.length.symm.trans rb.length, bne_self_eq_false] at e
    exact ih j r vs e ra rb
  · cases ra
    cases r with
    | nil => rfl
    | cons y r => obtain ⟨_, _, e, _⟩ := rb; cases e
  · obtain ⟨v, us, rfl, hv, hr⟩ := ra
    cases r with
    | nil => cases rb
    | cons y r =>
      obtain ⟨v', us', e', hv', hr'⟩ := rb
      cases e'
      obtain ⟨e1, e2⟩ := and_e e
      exact (Bool.and_eq_true ..).mpr ⟨h1 k y v e1 hv hv', h2 k r us e2 hr hr'⟩

/-- the items' answers, by their places -/
noncomputable def eAt (l r : List AV) (j : Nat) : Bool := onO l[j]? fun x => onO r[j]? fun y => eqB x y
theorem eAt_all : ∀ (l r : List AV), ((List.range (min l.length r.length)).all (eAt l r) && (l.length == r.length)) = eqsB l r
  | [], [] => rfl
  | [], y :: r => by rw [List.length_nil, Nat.zero_min]; rfl
  | x :: l, [] => by rw [List.length_nil, Nat.min_zero]; rfl
  | x :: l, y :: r => by
    have ih := eAt_all l r
    rw [List.length_cons, List.length_cons, Nat.succ_min_succ, List.range_succ_eq_map, List.all_cons, List.all_map]
    show (eqB x y && (List.range _).all (eAt l r) && _) = (eqB x y && eqsB l r)
    rw [← ih, Bool.and_assoc]
    have : (l.length + 1 == r.length + 1) = (l.length == r.length) := by
      rw [Bool.eq_iff_iff]; simp
    rw [this]
theorem eAt_same (l r : List AV) (hl : l.length = r.length) : (List.range l.length).all (eAt l r) = eqsB l r := by
  have := eAt_all l r
  rw [hl, Nat.min_self, beq_self_eq_true, Bool.and_true] at this
  rw [hl]; exact this
theorem oksB_at (k : Nat) (l : List AV) : ∀ (r : List AV), oksB l k r = true → ∀ (j : Nat) (x y : AV), l[j]? = some x → r[j]? = some y → okB x k y = true := by
  induction l with
  | nil => exact fun _ _ _ _ _ e => nomatch e
  | cons x l ih =>
    intro r h j x' y e e'
    cases r with
    | nil => exact nomatch e'
    | cons y' r =>
      obtain ⟨h1, h2⟩ := and_e h
      cases j with
      | zero => cases Option.some.inj (show some x = some x' from e); cases Option.some.inj (show some y' = some y from e'); exact h1
      | succ j => exact ih r h2 j x' y e e'

theorem isTuple_of {a : Addr} {vs : List Value} {n : Nat} (g : IsT h a vs.toArray n) : h.IsTuple a vs.toArray := ⟨_, g, rfl, n, rfl⟩

theorem eqAt_bytes (a b : List UInt8) (t u : Tok) : EqAt A s (.bytes a.toArray t) (.bytes b.toArray u) (a == b) := fun prog w E Q h => eqBool_bytes (by
  have : decide (a = b) = (a == b) := by by_cases e : a = b <;> simp [e]
  rw [this]; exact h)

theorem items_at {l r : List AV} {vs us : List Value} {k : Nat} (ho : oksB l k r = true) (ra : RVs prog w s.heap ρ Φ l vs) (rb : RVs prog w s.heap ρ Φ r us)
    (ih : ∀ x y u v, okB x k y = true → RV prog w s.heap ρ Φ x u → RV prog w s.heap ρ Φ y v → EqAt A s u v (eqB x y)) :
    ∀ j (h1 : j < vs.toArray.size) (h2 : j < us.toArray.size), EqAt A s vs.toArray[j] us.toArray[j] (eAt l r j) := by
  intro j h1 h2
  rw [List.size_toArray] at h1 h2
  obtain ⟨x, ex, rx⟩ := ra.get' (List.getElem?_eq_getElem h1)
  obtain ⟨y, ey, ry⟩ := rb.get' (List.getElem?_eq_getElem h2)
  have : eAt l r j = eqB x y := by unfold eAt; rw [ex, ey]; rfl
  rw [this]
  exact ih x y _ _ (oksB_at k l r ho j x y ex ey) rx ry
/-- two tuples, two lists: what the walk of the items says -/
theorem tup_sum {l r : List AV} {vs us : List Value} (ra : RVs prog w h ρ Φ l vs) (rb : RVs prog w h ρ Φ r us) : ((List.range (min vs.toArray.size us.toArray.size)).all (eAt l r) && vs.toArray.size == us.toArray.size) = eqsB l r := by
  rw [List.size_toArray, List.size_toArray, ra.length, rb.length]; exact eAt_all l r
theorem lst_sum {l r : List AV} {vs us : List Value} (ra : RVs prog w h ρ Φ l vs) (hl : l.length = r.length) : (List.range vs.toArray.size).all (eAt l r) = eqsB l r := by
  rw [List.size_toArray, ra.length]; exact eAt_same l r hl
theorem lst_ne {l r : List AV} (hl : l.length ≠ r.length) : eqsB l r = false := by
  rw [← eAt_all l r, beq_eq_false_iff_ne.mpr hl, Bool.and_false]
theorem size_eq {l r : List AV} {vs us : List Value} (ra : RVs prog w h ρ Φ l vs) (rb : RVs prog w h ρ Φ r us) (hl : l.length = r.length) : vs.toArray.size = us.toArray.size := by
  rw [List.size_toArray, List.size_toArray, ra.length, rb.length, hl]
theorem size_ne {l r : List AV} {vs us : List Value} (ra : RVs prog w h ρ Φ l vs) (rb : RVs prog w h ρ Φ r us) (hl : l.length ≠ r.length) : (vs.toArray.size != us.toArray.size) = true := by
  rw [List.size_toArray, List.size_toArray, ra.length, rb.length]; exact bne_iff_ne.mpr hl
theorem okLen {l r : List AV} {c : Bool} (h : (l.length != r.length || c) = true) (hl : l.length = r.length) : c = true := by
  rw [hl, bne_self_eq_false, Bool.false_or] at h; exact h

theorem okTup {k : Nat} {l r : List AV} (h : okB (.tup l) (k + 1) (.tup r) = true) : oksB l k r = true := (and_e (a := k + 1 != 0) (b := oksB l k r) h).2
theorem okLst {k : Nat} {l r : List AV} (h : okB (.lst l) (k + 1) (.lst r) = true) : (l.length != r.length || oksB l k r) = true := (and_e (a := k + 1 != 0) (b := l.length != r.length || oksB l k r) h).2

theorem eqAt : ∀ (k : Nat) (A : Around) (a b : AV) (u v : Value), okB a k b = true → A.units + k < cLine → RV prog w s.heap ρ Φ a u → RV prog w s.heap ρ Φ b v → EqAt A s u v (eqB a b) := by
  intro k
  induction k with
  | zero =>
    intro A a b u v ho hu ra rb
    cases a with
    | bool x => obtain ⟨y, e⟩ := isSome_e ho; cases bool?_some e; cases ra; cases rb; exact EqAt.bool_bool _ _
    | int x => obtain ⟨y, e⟩ := isSome_e ho; cases int?_some e; obtain ⟨t, rfl⟩ := ra; obtain ⟨t', rfl⟩ := rb; exact (MeetsSeq.EqGives.int _ _ _ _).at _ _
    | bytes x => obtain ⟨y, e⟩ := isSome_e ho; cases bytes?_some e; obtain ⟨t, rfl⟩ := ra; obtain ⟨t', rfl⟩ := rb; exact eqAt_bytes _ _ _ _
    | tup l => exact onO_e ho fun r _ e => by cases e
    | lst l => exact onO_e ho fun r _ e => by cases e
    | _ => cases ho
  | succ k ih =>
    intro A a b u v ho hu ra rb
    by_cases huv : u = v
    · subst huv
      rw [same_eq a (k + 1) b u ho ra rb]
      exact .same u
    have ihA : ∀ x y u v, okB x k y = true → RV prog w s.heap ρ Φ x u → RV prog w s.heap ρ Φ y v → EqAt A.in1 s u v (eqB x y) := fun x y u v hxy rx ry => ih A.in1 x y u v hxy (by show A.units + 1 + k < cLine; (clear huv; omega)) rx ry
    have hu' : A.units < cLine := by (clear huv; omega)
    cases a with
    | bool x => obtain ⟨y, e⟩ := isSome_e ho; cases bool?_some e; cases ra; cases rb; exact EqAt.bool_bool _ _
    | int x => obtain ⟨y, e⟩ := isSome_e ho; cases int?_some e; obtain ⟨t, rfl⟩ := ra; obtain ⟨t', rfl⟩ := rb; exact (MeetsSeq.EqGives.int _ _ _ _).at _ _
    | bytes x => obtain ⟨y, e⟩ := isSome_e ho; cases bytes?_some e; obtain ⟨t, rfl⟩ := ra; obtain ⟨t', rfl⟩ := rb; exact eqAt_bytes _ _ _ _
    | tup l =>
      refine onO_e ho fun r er ho => ?_
      cases tup?_some er
      obtain ⟨a, vs, rfl, _, ⟨n, ga⟩, ra⟩ := ra
      obtain ⟨b, us, rfl, _, ⟨n', gb⟩, rb⟩ := rb
      have := RcAt.tuples (A := A) (e := eAt l r) (isTuple_of ga) (isTuple_of gb) (by (clear huv hu; omega)) (items_at (okTup ho) ra rb ihA)
      rw [tup_sum ra rb] at this
      exact .of_refs (fun e => huv (by rw [e])) this
    | lst l =>
      refine onO_e ho fun r er ho => ?_
      cases lst?_some er
      obtain ⟨a, vs, rfl, _, ga, ra⟩ := ra
      obtain ⟨b, us, rfl, _, gb, rb⟩ := rb
      refine .of_refs (fun e => huv (by rw [e])) ?_
      show RcAt A s _ _ (eqsB l r)
      by_cases hl : l.length = r.length
      · have := RcAt.lists (A := A) (e := eAt l r) ga.isList gb.isList (size_eq ra rb hl) (by (clear hl huv hu; omega)) (items_at (okLen (okLst ho) hl) ra rb ihA)
        rw [lst_sum (us := us) ra hl] at this
        exact this
      · rw [lst_ne hl]
        exact RcAt.lists_lengths ga.isList gb.isList (size_ne ra rb hl) (by (clear hl huv hu; omega))
    | _ => cases ho

/-- what is held against another at the head: a list may be owned -/
noncomputable def Seen (prog : Program) (w : World) (h : Heap) (ρ Φ : List Addr) (x : AV) (u : Value) : Prop := match x with
  | .lst l => ∃ a vs, u = .ref a ∧ h.PlainList a vs.toArray ∧ RVs prog w h ρ Φ l vs
  | x => RV prog w h ρ Φ x u
theorem Seen.of {v : AV} {u : Value} {Z : AV → Prop} {G : Prop} (S : Sim prog w base ρ Φ H s.heap) (e : seenP H v Z) (r : RV prog w s.heap ρ Φ v u) (k : ∀ x, Z x → Seen prog w s.heap ρ Φ x u → G) : G := by
  cases v with
  | obj i =>
    refine optP_e e fun o eo e => optP_e e fun l el z => ?_
    cases list?_some el
    obtain ⟨a, ea, rfl, vs, g, r⟩ := S.obj r eo
    exact k _ z ⟨a, vs, rfl, g, r⟩
  | lst l => obtain ⟨a, vs, e2, f, g, r⟩ := r; exact k _ e ⟨a, vs, e2, g, r⟩
  | _ => exact k _ e r

/-- == and != at the head -/
theorem rcAt {k : Nat} {a b : AV} {u v : Value} (ho : okB a (k + 1) b = true) (hu : A.units + k + 1 < cLine) (ra : Seen prog w s.heap ρ Φ a u) (rb : Seen prog w s.heap ρ Φ b v) :
    RcAt A s u v (eqB a b) ∧ RcNeAt A s u v (!eqB a b) := by
  have ihA : ∀ x y u v, okB x k y = true → RV prog w s.heap ρ Φ x u → RV prog w s.heap ρ Φ y v → EqAt A.in1 s u v (eqB x y) := fun x y u v hxy rx ry => eqAt k A.in1 x y u v hxy (by show A.units + 1 + k < cLine; omega) rx ry
  have hu' : A.units < cLine := by omega
  cases a with
  | bool x => obtain ⟨y, e⟩ := isSome_e ho; cases bool?_some e; cases ra; cases rb; exact ⟨.bool_bool _ _, .bool_bool _ _⟩
  | int x => obtain ⟨y, e⟩ := isSome_e ho; cases int?_some e; obtain ⟨t, rfl⟩ := ra; obtain ⟨t', rfl⟩ := rb; exact ⟨.int_int _ _ _ _, .int_int _ _ _ _⟩
  | bytes x =>
    obtain ⟨y, e⟩ := isSome_e ho
    cases bytes?_some e
    obtain ⟨t, rfl⟩ := ra
    obtain ⟨t', rfl⟩ := rb
    exact ⟨fun prog w E Q h => eq_bytes h, fun prog w E Q h => ne_bytes h⟩
  | tup l =>
    refine onO_e ho fun r er ho => ?_
    cases tup?_some er
    obtain ⟨a, vs, rfl, _, ⟨n, ga⟩, ra⟩ := ra
    obtain ⟨b, us, rfl, _, ⟨n', gb⟩, rb⟩ := rb
    have it := items_at (A := A.in1) (okTup ho) ra rb ihA
    show RcAt A s _ _ (eqsB l r) ∧ RcNeAt A s _ _ (!eqsB l r)
    rw [← tup_sum ra rb]
    exact ⟨.tuples (isTuple_of ga) (isTuple_of gb) (by (clear hu; omega)) it, .tuples (isTuple_of ga) (isTuple_of gb) (by (clear hu; omega)) it⟩
  | lst l =>
    refine onO_e ho fun r er ho => ?_
    cases lst?_some er
    obtain ⟨a, vs, rfl, ga, ra⟩ := ra
    obtain ⟨b, us, rfl, gb, rb⟩ := rb
    show RcAt A s _ _ (eqsB l r) ∧ RcNeAt A s _ _ (!eqsB l r)
    by_cases hl : l.length = r.length
    · have it := items_at (A := A.in1) (okLen (okLst ho) hl) ra rb ihA
      rw [← lst_sum (us := us) ra hl]
      exact ⟨.lists ga.isList gb.isList (size_eq ra rb hl) (by (clear hl hu; omega)) it, .lists ga.isList gb.isList (size_eq ra rb hl) (by (clear hl hu; omega)) it⟩
    · rw [lst_ne hl]
      exact ⟨.lists_lengths ga.isList gb.isList (size_ne ra rb hl) (by (clear hl hu; omega)), .lists_lengths ga.isList gb.isList (size_ne ra rb hl) (by (clear hl hu; omega))⟩
  | _ => cases ho

theorem bytess_e {x : AV} {l : List AV} {is : List (List UInt8)} (e : bytess? (x :: l) = some is) : ∃ i js, x = .bytes i ∧ bytess? l = some js ∧ is = i :: js := by
  obtain ⟨i, e1, e⟩ := Option.bind_eq_some_iff.mp e
  obtain ⟨js, e2, e⟩ := Option.map_eq_some_iff.mp e
  exact ⟨i, js, bytes?_some e1, e2, e.symm⟩
theorem RVs.bytess {l : List AV} {vs : List Value} (r : RVs prog w h ρ Φ l vs) : ∀ {bs : List (List UInt8)}, bytess? l = some bs → ∀ v ∈ vs, ∃ (b : List UInt8) (t : Tok), v = .bytes b.toArray t :=
  RVs.rec' (P := fun l vs => ∀ {bs : List (List UInt8)}, bytess? l = some bs → ∀ v ∈ vs, ∃ (b : List UInt8) (t : Tok), v = .bytes b.toArray t) (fun _ _ m => nomatch m)
    (fun x l v vs hv _ ih bs e u m => by
      obtain ⟨i, js, rfl, e2, rfl⟩ := bytess_e e
      obtain ⟨t, rfl⟩ := hv
      rcases List.mem_cons.mp m with rfl | m
      · exact ⟨_, t, rfl⟩
      · exact ih e2 u m) r
noncomputable def isInt (k : Int) : Value → Bool
  | .int i _ => i == k
  | _ => false
theorem any_ints (k : Int) {vs : List Value} {is : List Int} (h : IntsAre vs is) : vs.any (isInt k) = is.any (· == k) := by
  induction h with
  | nil => rfl
  | cons a u _ ih => exact congrArg (_ || ·) ih
theorem bytesIs_eq (a b : List UInt8) (t : Tok) : bytesIs b (.bytes a.toArray t) = (a == b) := by simp [bytesIs]
theorem RVs.any_bytes (b : List UInt8) {l : List AV} {vs : List Value} (r : RVs prog w h ρ Φ l vs) : ∀ {bs : List (List UInt8)}, bytess? l = some bs → vs.any (bytesIs b) = bs.any (· == b) :=
  RVs.rec' (P := fun l vs => ∀ {bs : List (List UInt8)}, bytess? l = some bs → vs.any (bytesIs b) = bs.any (· == b)) (fun e => by cases e; rfl)
    (fun x l v vs hv _ ih bs e => by
      obtain ⟨i, js, rfl, e2, rfl⟩ := bytess_e e
      obtain ⟨t, rfl⟩ := hv
      rw [List.any_cons, List.any_cons, ih e2, bytesIs_eq]) r
end
end

-- V7
section
open PySem PySem.Calls PySem.W PyProof.Rows PySem.SeqAt

section
variable {prog : Program} {w : World} {base h : Heap} {ρ ρ' Φ Φ' fp : List Addr} {s : Shared} {H : HH} {A : Around} {E : Value → Shared → Prop} {n : Nat}

theorem findK_valueAt {κ : Type} [DecidableEq κ] (k : κ) {l : List AV} {vs : List Value} (r : RVs prog w h ρ Φ l vs) : ∀ {ks : List κ} {x : AV}, findK k ks l = some x → ∃ v, valueAt (ks.zip vs) k = some v ∧ RV prog w h ρ Φ x v :=
  RVs.rec' (P := fun l vs => ∀ {ks : List κ} {x : AV}, findK k ks l = some x → ∃ v, valueAt (ks.zip vs) k = some v ∧ RV prog w h ρ Φ x v)
    (fun {ks} {x} e => by cases ks <;> exact nos e)
    (fun a l v vs hv _ ih ks x e => by
      cases ks with
      | nil => exact nos e
      | cons y ks =>
        unfold findK at e
        by_cases hy : y = k
        · rw [if_pos hy] at e
          cases e
          exact ⟨v, by simp [valueAt, hy], hv⟩
        · rw [if_neg hy] at e
          obtain ⟨u, hu, r⟩ := ih e
          refine ⟨u, ?_, r⟩
          simpa [valueAt, hy] using hu) r
theorem valueAt_isSome {κ : Type} [DecidableEq κ] (k : κ) : ∀ (ks : List κ) (vs : List Value), ks.length = vs.length → (valueAt (ks.zip vs) k).isSome = ks.any fun x => decide (x = k)
  | [], _, _ => rfl
  | y :: ks, [], e => by simp at e
  | y :: ks, v :: vs, e => by
    have ih := valueAt_isSome k ks vs (by simpa using e)
    by_cases hy : y = k
    · simp [valueAt, hy]
    · simp only [valueAt, List.zip_cons_cons, List.find?_cons, List.any_cons] at ih ⊢
      simp only [hy, decide_false, Bool.false_or]
      simpa using ih

theorem Sim.not_sys (S : Sim prog w base ρ Φ H h) {a : Addr} (m : a ∈ ρ) : (a == sysModules) = false := by
  have := S.sysm.2
  by_cases q : a = sysModules
  · rw [q] at m; exact absurd m this
  · simp [q]

theorem dictOf_nil_bytes {a : Addr} {n : Nat} (g : h.get? a = some (dictOf [] n)) : h.DictOf (bytesKind prog w) a [] := ⟨_, #[], n, g, ⟨rfl, rfl, rfl⟩, rfl, fun e m => by simp at m, .nil, .nil⟩
theorem dictOf_nil_int {a : Addr} {n : Nat} (g : h.get? a = some (dictOf [] n)) : h.DictOf (intKind prog w) a [] := ⟨_, #[], n, g, ⟨rfl, rfl, rfl⟩, rfl, fun e m => by simp at m, .nil, .nil⟩

theorem any_eq (ks : List (List UInt8)) (x : List UInt8) : (ks.any fun y => decide (y = x)) = ks.any (· == x) := by
  congr 1; funext y
  by_cases q : y = x <;> simp [q]

theorem in_octets {x : List UInt8} {t : Tok} {a : Addr} {l : List AV} {r : List (List UInt8)} {vs : List Value} {Q : Value → Shared → Prop} (g : s.heap.PlainList a vs.toArray) (rb : RVs prog w s.heap ρ Φ l vs) (e : bytess? l = some r)
    (hQ : Q (.bool (r.any (· == x))) s) : wpAny (model prog w) A (compareOp .In (.bytes x.toArray t) (.ref a)) Q E s := by
  refine in_listAt (bytesIs x) g.isList (fun y hy => ?_) ?_
  · obtain ⟨b, t', rfl⟩ := rb.bytess e y (List.mem_toArray.mp hy)
    rw [bytesIs_eq]
    exact eqAt_bytes _ _ _ _
  · have : vs.toArray.any (bytesIs x) = r.any (· == x) := by
      rw [← rb.any_bytes x e]; simp
    rw [this]
    exact hQ

theorem eq_ok {a b : AV} {u v : Value} {Z : Bool → Prop} {G : Prop} (hA : Ok A n) (S : Sim prog w base ρ Φ H s.heap) (ra : RV prog w s.heap ρ Φ a u) (rb : RV prog w s.heap ρ Φ b v) (e : eqP H a b Z)
    (k : ∀ c, Z c → RcAt A s u v c ∧ RcNeAt A s u v (!c) → G) : G := by
  have hu : A.units + 8 + 1 < cLine := by have := hA.units; have : cLine = 9900 := rfl; omega
  have gen : seenP H a (fun a => seenP H b fun b => ifP (okB a 9 b) (Z (eqB a b)) False) → G := fun e =>
    Seen.of S e ra fun x e rx => Seen.of S e rb fun y e ry => ifT_e e fun ho z => k _ z (rcAt (k := 8) ho hu rx ry)
  cases a with
  | int i =>
    refine optP_e e fun j ej z => ?_
    cases int?_some ej
    exact k _ z (rcAt (prog := prog) (w := w) (ρ := ρ) (Φ := Φ) (k := 8) (a := .int i) (b := .int j) rfl hu ra rb)
  | _ => exact gen e

theorem int2_e {a b : AV} {u v : Value} {Z : Int → Int → Prop} {G : Prop} (ra : RV prog w h ρ Φ a u) (rb : RV prog w h ρ Φ b v) (e : int2 a b Z) (k : ∀ i j t t', Z i j → u = .int i t → v = .int j t' → G) : G := by
  refine optP_e e fun i ei e => optP_e e fun j ej z => ?_
  cases int?_some ei
  cases int?_some ej
  obtain ⟨t, e1⟩ := ra
  obtain ⟨t', e2⟩ := rb
  exact k i j t t' z e1 e2

theorem in_ok {a b : AV} {u v : Value} {Z : Bool → Prop} {Q : Value → Shared → Prop} (S : Sim prog w base ρ Φ H s.heap) (ra : RV prog w s.heap ρ Φ a u) (rb : RV prog w s.heap ρ Φ b v) (e : inP H a b Z)
    (hQ : ∀ c t, Z c → Q (.bool c) { s with toks := t }) : wpAny (model prog w) A (compareOp .In u v) Q E s := by
  cases a with
  | int x =>
    obtain ⟨t, rfl⟩ := ra
    refine viewP_rv S e rb fun l a vs e e2 g qb => optP_e e fun r hr z => ?_
    subst e2
    have hI := qb.ints hr
    refine in_listAt (isInt x) g.isList (fun y hy => ?_) ?_
    · obtain ⟨j, t', rfl⟩ := hI.all y (List.mem_toArray.mp hy)
      exact (MeetsSeq.EqGives.int _ _ _ _).at _ _
    · have : vs.toArray.any (isInt x) = r.any (· == x) := by
        rw [← any_ints x hI]; simp
      rw [this]
      exact hQ _ s.toks z
  | bytes x =>
    obtain ⟨t, rfl⟩ := ra
    cases b with
    | lst l =>
      refine optP_e e fun r hr z => ?_
      obtain ⟨a, vs, rfl, f, g, rb⟩ := rb
      exact in_octets g rb hr (hQ _ s.toks z)
    | obj i =>
      refine optP_e e fun o ho e => ?_
      obtain ⟨a, ea, rfl, ro⟩ := S.obj rb ho
      cases o with
      | list l =>
        refine optP_e e fun r hr z => ?_
        obtain ⟨vs, g, rb⟩ := ro
        exact in_octets g rb hr (hQ _ s.toks z)
      | edict =>
        obtain ⟨n, g⟩ := ro
        exact wpAny_in_of (knd := bytesKind prog w) (bytesIs_self _ t) (S.not_sys (List.mem_of_getElem? ea)) (dictOf_nil_bytes g).mapOf (hQ _ _ e)
      | bdict ks l =>
        obtain ⟨vs, g, hl, rb⟩ := ro
        have q := hQ _ (s.toks + 1) e
        rw [← any_eq, ← valueAt_isSome x ks vs (by rw [hl, rb.length])] at q
        exact wpAny_in_of (knd := bytesKind prog w) (bytesIs_self _ t) (S.not_sys (List.mem_of_getElem? ea)) g.mapOf q
      | _ => exact e.elim
    | _ => exact e.elim
  | _ => exact e.elim

theorem cmp_ok {op : CmpOp} {a b : AV} {u v : Value} {Z : Bool → Prop} {Q : Value → Shared → Prop} (hA : Ok A n) (S : Sim prog w base ρ Φ H s.heap) (ra : RV prog w s.heap ρ Φ a u) (rb : RV prog w s.heap ρ Φ b v) (e : cmpP H op a b Z)
    (hQ : ∀ c t, Z c → Q (.bool c) { s with toks := t }) : wpAny (model prog w) A (compareOp op u v) Q E s := by
  cases op with
  | Lt => exact int2_e ra rb e fun i j t t' z e1 e2 => e1 ▸ e2 ▸ PyProof.Rows.lt_int (hQ _ s.toks z)
  | LtE => exact int2_e ra rb e fun i j t t' z e1 e2 => e1 ▸ e2 ▸ PyProof.Rows.le_int (hQ _ s.toks z)
  | Gt => exact int2_e ra rb e fun i j t t' z e1 e2 => e1 ▸ e2 ▸ PyProof.Rows.gt_int (hQ _ s.toks z)
  | GtE => exact int2_e ra rb e fun i j t t' z e1 e2 => e1 ▸ e2 ▸ PyProof.Rows.ge_int (hQ _ s.toks z)
  | Eq => exact eq_ok (Z := Z) hA S ra rb e fun c z k => k.1 prog w E Q (hQ c s.toks z)
  | NotEq => exact eq_ok (Z := fun c => Z (!c)) hA S ra rb e fun c z k => k.2 prog w E Q (hQ _ s.toks z)
  | Is =>
    refine optP_e e fun i ei e => ifT_e e fun hb z => ?_
    cases bytes?_some ei
    obtain ⟨t, rfl⟩ := ra
    cases b with
    | none => cases rb; exact is_bytes_none (hQ _ s.toks z)
    | _ => cases hb
  | In => exact in_ok S ra rb e hQ
  | _ => exact e.elim

theorem truth_ok {a : AV} {u : Value} {Z : Bool → Prop} {Q : Bool → Shared → Prop} (S : Sim prog w base ρ Φ H s.heap) (ra : RV prog w s.heap ρ Φ a u) (e : truthP H a Z)
    (hQ : ∀ c t, Z c → Q c { s with toks := t }) : wpAny (model prog w) A (truthy u) Q E s := by
  have gen : viewP H a (fun l => fits l.length ∧ Z (!l.isEmpty)) → wpAny (model prog w) A (truthy u) Q E s := fun e =>
    viewP_rv S e ra fun l a vs e e2 g r => by
      subst e2
      have hl := r.length
      refine wpAny_truthy_list g.isList ?_ ?_
      · have := e.1
        simp only [fits] at this
        simp only [List.size_toArray, hl]
        (clear e hl; omega)
      · have : (!vs.toArray.isEmpty) = !l.isEmpty := by
          cases l <;> cases vs <;> simp at hl ⊢
        first
          | (rw [this]; exact hQ _ _ e.2)
          | (have q := hQ _ s.toks e.2; rw [← this] at q; exact q)
  cases a with
  | bool b => cases ra; exact wpAny_truthy_bool (hQ _ s.toks e)
  | _ => exact gen e
end
end

-- V8
section
open PySem PySem.Calls PySem.W PyProof.Rows PySem.SeqAt

theorem subscripted_ops (slice : Expr) (o i : Value) : ∃ ops, subscripted slice false o i = operate ops (getItem o i) := by
  unfold subscripted
  split
  · exact ⟨_, rfl⟩
  · rename_i h; cases h
  · exact ⟨_, rfl⟩

section
variable {prog : Program} {w : World} {base h : Heap} {ρ ρ' Φ Φ' fp : List Addr} {s : Shared} {H : HH} {A : Around} {E : Value → Shared → Prop} {n : Nat}

theorem tail_ok {value slice : Expr} {o i : Value} {T id : String} {Q : Value → Shared → Prop} (hT : s.TypeIs o T)
    (hl : typeLookup (.type T) "__getitem__" = pure (some (.builtin id))) (hg : wpAny (model prog w) A (getItem o i) Q E s) : wpAny (model prog w) A (subscriptTail value slice o i) Q E s := by
  obtain ⟨ops, e⟩ := subscripted_ops slice o i
  exact tail_any hT hl hg e


theorem pick_ok {a : Addr} {vs : List Value} {l : List AV} {i : AV} {iu : Value} {Z : AV → Prop} {value slice : Expr} {Q : Value → Shared → Prop} (g : s.heap.PlainList a vs.toArray) (r : RVs prog w s.heap ρ Φ l vs) (ri : RV prog w s.heap ρ Φ i iu) (e : pickP l i Z)
    (hQ : ∀ x u t, Z x → RV prog w s.heap ρ Φ x u → Q u { s with toks := t }) : wpAny (model prog w) A (subscriptTail value slice (.ref a) iu) Q E s := by
  refine optP_e e fun k ek z1 => optP_e z1.2 fun x ex z => ?_
  have hb := small_bounds z1.1
  cases int?_some ek
  obtain ⟨t, rfl⟩ := ri
  unfold pick at ex
  · split at ex
    · rename_i h0
      obtain ⟨u, hu, rx⟩ := r.get ex
      exact tail_ok g.isList.typeIs slot_list_getitem.lookup (wpAny_getItem_list g.isList h0 (by (clear z1 h0; omega)) (by rw [List.getElem?_toArray]; exact hu) (hQ x u s.toks z rx))
    · split at ex
      · rename_i h0 h1
        obtain ⟨u, hu, rx⟩ := r.get ex
        have hl := r.length
        refine tail_ok g.isList.typeIs slot_list_getitem.lookup (wpAny_getItem_list_neg (x := u) g.isList (by (clear hl h1 z1 hb; omega)) (by rw [List.size_toArray, hl]; (clear h0 hb z1 hl; omega)) (by (clear hl h1 z1 h0; omega)) ?_ (hQ x u s.toks z rx))
        rw [List.size_toArray, hl, List.getElem?_toArray]
        exact hu
      · exact nos ex

theorem key_ok {κ : Type} [DecidableEq κ] {knd : KeyKind prog w κ} {a : Addr} {ks : List κ} {l : List AV} {vs : List Value} {k : κ} {kv : Value} {Z : AV → Prop} {value slice : Expr} {Q : Value → Shared → Prop} (hk : knd.is k kv = true)
    (g : s.heap.DictOf knd a (ks.zip vs)) (r : RVs prog w s.heap ρ Φ l vs) (e : optP (findK k ks l) Z) (hQ : ∀ x u t, Z x → RV prog w s.heap ρ Φ x u → Q u { s with toks := t }) : wpAny (model prog w) A (subscriptTail value slice (.ref a) kv) Q E s := by
  refine optP_e e fun x ex z => ?_
  obtain ⟨u, hu, rx⟩ := findK_valueAt _ r ex
  exact tail_ok g.typeIs slot_dict_getitem.lookup (wpAny_getItem_of (knd := knd) hk g.mapOf hu (hQ x u _ z rx))

theorem item_ok {o i : AV} {u v : Value} {Z : AV → Prop} {value slice : Expr} {Q : Value → Shared → Prop} (S : Sim prog w base ρ Φ H s.heap) (ro : RV prog w s.heap ρ Φ o u) (ri : RV prog w s.heap ρ Φ i v) (e : itemP H o i Z)
    (hQ : ∀ x u t, Z x → RV prog w s.heap ρ Φ x u → Q u { s with toks := t }) : wpAny (model prog w) A (subscriptTail value slice u v) Q E s := by
  have isK : ∀ (k : Int) (t : Tok), (intKind prog w).is k (.int k t) = true := fun k t => by simp [intKind, Value.isInt]
  cases o with
  | dct ks vs =>
    refine optP_e e fun k ek e => ?_
    cases int?_some ek
    obtain ⟨a, vs, rfl, f, g, hl, r, ns⟩ := ro
    obtain ⟨t, rfl⟩ := ri
    exact key_ok (isK k t) g r e hQ
  | tup l =>
    refine optP_e e fun k ek z1 => optP_e z1.2 fun x ex z => ?_
    obtain ⟨h0, hs⟩ := z1.1
    cases int?_some ek
    obtain ⟨a, vs, rfl, f, ⟨n, g⟩, r⟩ := ro
    obtain ⟨t, rfl⟩ := ri
    have hb := small_bounds hs
    obtain ⟨u, hu, rx⟩ := r.get ex
    have hlt : k.toNat < vs.length := (List.getElem?_eq_some_iff.mp hu).1
    refine tail_ok (isTuple_of g).typeIs slot_tuple_getitem.lookup (P.getItem_tuple (k := k.toNat) (y := u) g (by (clear hlt h0 hb; omega)) (by (clear hlt h0 z1; omega)) ?_ (by rw [List.getElem?_toArray]; exact hu) (hQ x u s.toks z rx))
    unfold seqIndex?
    have h1 : ¬ k < 0 := by (clear hlt h0 hb; omega)
    simp only [h1, if_false, List.size_toArray]
    have : 0 ≤ k ∧ k < (vs.length : Int) := by (clear h1 h0 hb; omega)
    simp [this]
  | lst l =>
    obtain ⟨a, vs, rfl, f, g, r⟩ := ro
    exact pick_ok g r ri e hQ
  | obj j =>
    refine optP_e e fun o ho e => ?_
    obtain ⟨a, ea, rfl, ro⟩ := S.obj ro ho
    cases o with
    | list l =>
      obtain ⟨vs, g, r⟩ := ro
      exact pick_ok g r ri e hQ
    | idict ks vs =>
      refine optP_e e fun k ek e => ?_
      cases int?_some ek
      obtain ⟨vs, g, hl, r⟩ := ro
      obtain ⟨t, rfl⟩ := ri
      exact key_ok (isK k t) g r e hQ
    | bdict ks vs =>
      refine optP_e e fun k ek e => ?_
      cases bytes?_some ek
      obtain ⟨vs, g, hl, r⟩ := ro
      obtain ⟨t, rfl⟩ := ri
      exact key_ok (knd := bytesKind prog w) (bytesIs_self _ t) g r e hQ
    | _ => exact e.elim
  | _ => exact e.elim

/-- a tuple's head: t[:k] -/
theorem adjust_upto (a n : Nat) : Builtin.Slice.sliceAdjust none (some (a : Int)) 1 (n : Int) = (0, ((min a n : Nat) : Int)) := by
  unfold Builtin.Slice.sliceAdjust
  have h1 : ¬ ((1 : Int) < 0) := by omega
  have h2 : ¬ ((a : Int) < 0) := by (clear h1; omega)
  simp only [h1, h2, if_false]
  congr 1
  (clear h2 h1; omega)
theorem places_upto (k : Nat) : Builtin.Slice.slicePlaces 0 (k : Int) 1 = k := by
  unfold Builtin.Slice.slicePlaces
  have h1 : (1 : Int) > 0 := by omega
  simp only [h1, if_true, Int.ediv_one]
  split <;> omega
theorem sliceApplied_upto {sl : Addr} {a n : Nat} {u : Tok} {Q : Int × Int × Nat → Shared → Prop} (hs : s.heap.IsSliceOf sl .none (.int a u) .none) (h : Q (0, 1, min a n) s) :
    wpAny (model prog w) A (Builtin.Slice.sliceApplied (.ref sl) (pure (n : Int))) Q E s := by
  obtain ⟨os, hos, hcs, hds⟩ := id hs
  unfold Builtin.Slice.sliceApplied Builtin.Slice.sliceFields
  refine wpAny_bind (wpAny_bind (wpAny_field hos hds (x := .none) rfl (wpAny_bind (wpAny_field hos hds (x := .int a u) rfl (wpAny_bind (wpAny_field hos hds (x := .none) rfl (wpAny_pure ?_)))))))
  refine wpAny_bind (slicePart_none ?_)
  show wpAny _ _ (if ((1 : Int) == 0) = true then _ else _) _ _ s
  rw [if_neg (by decide)]
  refine wpAny_bind (slicePart_none (wpAny_bind (slicePart_int (wpAny_bind (wpAny_pure ?_)))))
  show wpAny _ _ (match Builtin.Slice.sliceAdjust none (some (a : Int)) 1 (n : Int) with | (lo, hi) => pure (lo, (1 : Int), Builtin.Slice.slicePlaces lo hi 1)) _ _ s
  rw [adjust_upto a n]
  show wpAny _ _ (pure ((0 : Int), (1 : Int), Builtin.Slice.slicePlaces 0 ((min a n : Nat) : Int) 1)) _ _ s
  rw [places_upto]
  exact wpAny_pure h
theorem pick_upto (xs : Array Value) (k : Nat) : ((List.range k).filterMap fun (j : Nat) => xs[((0 : Int) + (j : Int) * 1).toNat]?).toArray = (xs.toList.take k).toArray := by
  have e : (fun (j : Nat) => xs[((0 : Int) + (j : Int) * 1).toNat]?) = fun j => xs[0 + j]? := by
    funext j
    have : ((0 : Int) + (j : Int) * 1).toNat = 0 + j := by omega
    rw [this]
  rw [e]
  have := pick_run xs 0 k
  rw [List.filterMap_map] at this
  have e2 : ((fun x => xs[x]?) ∘ fun x => 0 + x) = fun j => xs[0 + j]? := rfl
  rw [e2] at this
  rw [this, List.drop_zero]
theorem getItem_tuple_upto {t sl : Addr} {items : Array Value} {a : Nat} {u : Tok} {Q : Value → Shared → Prop} (ht : IsTup s.heap t items) (hs : s.heap.IsSliceOf sl .none (.int a u) .none)
    (h1 : items.size ≤ a → Q (.ref t) s)
    (h2 : Q (.ref s.heap.objs.size) { s with heap := s.heap.push { cls := .type "tuple", data := .seq (items.toList.take a).toArray } })
    (hsz : items.size ≤ sizeLine) : wpAny (model prog w) A (getItem (.ref t) (.ref sl)) Q E s := by
  have htake : sizeOk (.seq (items.toList.take a).toArray) := by
    show (items.toList.take a).toArray.size ≤ sizeLine
    rw [List.size_toArray, List.length_take, Array.length_toList]
    (clear h1; omega)
  obtain ⟨os, hos, hcs, hds⟩ := id hs
  have hTs : s.TypeIs (.ref sl) "slice" := ⟨os, hos, hcs⟩
  unfold getItem
  try with_reducible refine wpAny_holding ?_
  first | refine wpAny_bind (wpAny_pure ?_) | skip
  refine wpAny_bind (wpAny_sequenceKey ht.typeIs (by decide) ?_)
  refine wpAny_bind (wpAny_callSpecial?_slot (name := Str.ofString "__getitem__") ht.typeIs slot_tuple_getitem
    (wpAny_call_entry slot_tuple_getitem ht.typeIs entry_tuple_getitem ?_ (args_tuple_getitem _ _)))
  show wpAny _ _ (Builtin.Tuple.tupleItemsOf (.ref t) >>= _) _ _ s
  refine wpAny_bind (tupleItemsOf_ ht ?_)
  refine wpAny_bind (wpAny_typeOf hTs ?_)
  rw [if_pos (by decide)]
  refine wpAny_bind (sliceApplied_upto hs ?_)
  show wpAny _ _ (if ((0 : Int) == 0 && (1 : Int) == 1 && (min a items.size) == items.size) = true then _ else _) _ _ s
  have hex : wpAny (model prog w) A.in1 (Builtin.Tuple.tupleIsExact (.ref t)) (fun b s' => b = true ∧ s' = s) (fun _ _ => False) s := by
    unfold Builtin.Tuple.tupleIsExact
    exact wpAny_bind (wpAny_typeOf ht.typeIs (wpAny_pure ⟨by decide, rfl⟩))
  by_cases hw : items.size ≤ a
  · rw [if_pos (by simp [Nat.min_eq_right hw])]
    refine wpAny_bind (wpAny_mono hex (fun b s' hb => ?_) fun _ _ f => f.elim)
    obtain ⟨rfl, rfl⟩ := hb
    simp only [if_true]
    refine wpAny_bind (wpAny_rule (wpAny_bind (m := ret _) (wpAny_pure ?_)))
    first
      | exact wpAny_pure ⟨_, rfl, wpAny_pure (h1 hw)⟩
      | exact ⟨_, rfl, wpAny_pure (h1 hw)⟩
  · have hm : min a items.size = a := by (clear hsz h1; omega)
    rw [if_neg (by simp [hm]; (clear hsz h1 hm; omega)), hm, pick_upto]
    first
      | exact wpAny_bind (m := Builtin.Tuple.tupleExact _) (wpAny_newObj_type (wpAny_pure ⟨_, rfl, wpAny_pure h2⟩) htake)
      | exact wpAny_bind (m := Builtin.Tuple.tupleExact _) (wpAny_newObj_type (wpAny_bind (wpAny_pure (wpAny_pure ⟨_, rfl, wpAny_pure h2⟩))) htake)
      | exact wpAny_bind (wpAny_bind (m := Builtin.Tuple.tupleExact _) (wpAny_newObj_type (wpAny_pure (wpAny_pure ⟨_, rfl, wpAny_pure h2⟩)) htake))
      | exact wpAny_bind (wpAny_bind (m := Builtin.Tuple.tupleExact _) (wpAny_newObj_type (wpAny_pure ⟨_, rfl, wpAny_pure h2⟩) htake))

theorem RVs.cut {l : List AV} {vs : List Value} (r : RVs prog w h ρ Φ l vs) (lo hi : Option Int) : RVs prog w h ρ Φ (Lig.cut l lo hi) (Lig.cut vs lo hi) := by
  unfold Lig.cut
  rw [r.length]
  exact (r.drop _).take _

theorem cut_ok {o : AV} {u vl vu : Value} {lo hi : Option Int} {Z : AV → Prop} {value slice : Expr} {Q : Value → Shared → Prop} (S : Sim prog w base ρ Φ H s.heap) (ro : RV prog w s.heap ρ Φ o u) (pl : IsPart vl lo) (pu : IsPart vu hi) (e : cutP H o lo hi Z)
    (hQ : ∀ x u s', Z x → Go ρ ρ [] s s' → Sim prog w base ρ Φ H s'.heap → RV prog w s'.heap ρ Φ x u → Q u s') :
    wpAny (model prog w) A (subscriptTail value slice u (.ref s.heap.objs.size)) Q E { s with heap := s.heap.push { cls := .type "slice", data := .fields #[vl, vu, .none] } } := by
  have g0 : Go ρ ρ [] s { s with heap := s.heap.push { cls := .type "slice", data := .fields #[vl, vu, .none] } } := .push0 _ s.toks
  have S0 : Sim prog w base ρ Φ H ({ s with heap := s.heap.push { cls := .type "slice", data := .fields #[vl, vu, .none] } } : Shared).heap := S.push0 _
  have r0 := RV.mono g0.ext0 _ _ ro
  have sl : ({ s with heap := s.heap.push { cls := .type "slice", data := .fields #[vl, vu, .none] } } : Shared).heap.IsSliceOf s.heap.objs.size vl vu .none := .new ..
  generalize ({ s with heap := s.heap.push { cls := .type "slice", data := .fields #[vl, vu, .none] } } : Shared) = s0 at g0 S0 r0 sl
  replace hQ : ∀ x u s', Z x → Go ρ ρ [] s0 s' → Sim prog w base ρ Φ H s'.heap → RV prog w s'.heap ρ Φ x u → Q u s' := fun x u s' z g => hQ x u s' z (g0.trans g)
  clear ro S g0
  have gen : viewP H o (fun l => fits l.length ∧ Z (.lst (Lig.cut l lo hi))) → wpAny (model prog w) A (subscriptTail value slice u (.ref s.heap.objs.size)) Q E s0 := fun e =>
    viewP_rv S0 e r0 fun l a vs e e2 g r => by
      subst e2
      refine tail_ok g.isList.typeIs slot_list_getitem.lookup (wpAny_getItem_list_slice g.isList sl pl pu .none (by simp) ?_ (fits_arr r e.1))
      have e1 : slicePick vs.toArray lo hi none = (Lig.cut vs lo hi).toArray := by rw [slicePick_plain]; simp [Lig.cut]
      rw [e1]
      exact hQ _ _ _ e.2 (.push0 _ s0.toks) (S0.push0 _) (rv_newList S0 (r.cut lo hi))
  cases o with
  | tup l =>
    obtain ⟨⟨hf, rfl⟩, e⟩ := e
    cases hi with
    | none => exact e.elim
    | some i =>
      obtain ⟨h0, z⟩ := e
      obtain ⟨a, vs, rfl, f, ⟨n, g⟩, r⟩ := r0
      cases pl
      cases pu
      rename_i t
      obtain ⟨k, rfl⟩ := Int.eq_ofNat_of_zero_le h0
      have hl := r.length
      refine tail_ok (isTuple_of g).typeIs slot_tuple_getitem.lookup (getItem_tuple_upto (items := vs.toArray) (isTuple_of g) sl (fun hle => ?_) ?_ (fits_arr r hf))
      · refine hQ _ _ _ z .refl S0 ?_
        rw [Int.toNat_natCast, List.take_of_length_le (by rw [List.size_toArray, hl] at hle; exact hle)]
        exact ⟨a, vs, rfl, f, ⟨n, g⟩, r⟩
      · refine hQ _ _ _ z (.push0 _ s0.toks) (S0.push0 _) ?_
        rw [Int.toNat_natCast]
        exact rv_newTuple S0 (r.take k)
  | bytes l =>
    obtain ⟨t, rfl⟩ := r0
    have e1 : KBy.picked l.toArray lo hi = (Lig.cut l lo hi).toArray := by rw [KBc.picked_eq]; simp [Lig.cut]
    refine tail_ok (typeIs_bytes _ _ _) FB.slot_bytes_getitem.lookup (getItem_meets (typeIs_bytes _ _ _) (by decide) FB.slot_bytes_getitem FB.entry_bytes_getitem (FB.args_bytes_getitem_2 _ _) (KBc.meets_slice2 l.toArray t _ pl pu) ⟨sl, ?_, fun t' k => ?_⟩)
    · exact Nat.le_trans (KBc.size_picked_le _ lo hi) (by rw [List.size_toArray]; exact fits_line e.1)
    · refine hQ _ _ _ e.2 (.toks _) S0 ?_
      rw [e1]
      exact ⟨_, rfl⟩
  | _ => exact gen e
end
end

-- V9
section
open PySem PySem.Calls PySem.W PyProof.Rows PySem.SeqAt

section
variable {κ : Type} [DecidableEq κ]
theorem stored_nil (k : κ) (v : Value) : stored [] k v = [(k, v)] := by simp [stored]
theorem stored_cons (x k : κ) (u v : Value) (kvs : List (κ × Value)) (nd : ((x, u) :: kvs).map (·.1) |>.Nodup) : stored ((x, u) :: kvs) k v = if x = k then (x, v) :: kvs else (x, u) :: stored kvs k v := by
  by_cases hx : x = k
  · subst hx
    rw [if_pos rfl]
    have hn : ∀ p ∈ kvs, ¬ p.1 = x := fun p hp q => by
      have := (List.nodup_cons.mp nd).1
      exact this (List.mem_map.mpr ⟨p, hp, q⟩)
    have e2 : kvs.map (fun kv => if kv.1 = x then (kv.1, v) else kv) = kvs := by
      conv => rhs; rw [← List.map_id kvs]
      exact List.map_congr_left fun p hp => by simp [hn p hp]
    simp [stored, e2]
  · rw [if_neg hx]
    unfold stored
    simp only [List.any_cons, hx, decide_false, Bool.false_or, List.map_cons, if_false, List.cons_append]
    split <;> rfl
end

section
variable {prog : Program} {w : World} {base h : Heap} {ρ ρ' Φ Φ' fp : List Addr} {s : Shared} {H H' : HH} {A : Around} {E : Value → Shared → Prop} {n : Nat}

theorem storeK_rv {κ : Type} [DecidableEq κ] (k : κ) {x : AV} {v : Value} (hx : RV prog w h ρ Φ x v) {l : List AV} {vs : List Value} (r : RVs prog w h ρ Φ l vs) : ∀ {ks : List κ}, ks.length = l.length → ks.Nodup →
    ∃ vs', RVs prog w h ρ Φ (storeK k x ks l).2 vs' ∧ (storeK k x ks l).1.length = (storeK k x ks l).2.length ∧ (storeK k x ks l).1.zip vs' = stored (ks.zip vs) k v := by
  refine RVs.rec' (P := fun l vs => RVs prog w h ρ Φ l vs → ∀ {ks : List κ}, ks.length = l.length → ks.Nodup → ∃ vs', RVs prog w h ρ Φ (storeK k x ks l).2 vs' ∧ (storeK k x ks l).1.length = (storeK k x ks l).2.length ∧ (storeK k x ks l).1.zip vs' = stored (ks.zip vs) k v)
    (fun _ ks e _ => ?_) (fun a l u vs hu hr ih _ ks e nd => ?_) r r
  · cases List.length_eq_zero_iff.mp e
    exact ⟨[v], RVs.one hx, rfl, (stored_nil k v).symm⟩
  · cases ks with
    | nil => cases e
    | cons y ks =>
      have e' : ks.length = l.length := Nat.succ.inj e
      have nd' : (((y, u) :: ks.zip vs).map (·.1)).Nodup := by
        rw [List.map_cons]
        show (y :: (ks.zip vs).map Prod.fst).Nodup
        rw [List.map_fst_zip (by rw [hr.length, e']; exact Nat.le_refl _)]
        exact nd
      unfold storeK
      rw [List.zip_cons_cons, stored_cons _ _ _ _ _ nd']
      by_cases hy : y = k
      · rw [if_pos hy, if_pos hy]
        exact ⟨v :: vs, hr.cons hx, e, rfl⟩
      · rw [if_neg hy, if_neg hy]
        obtain ⟨vs', r', hl, hz⟩ := ih hr e' (List.nodup_cons.mp nd).2
        exact ⟨u :: vs', r'.cons hu, congrArg (· + 1) hl, congrArg ((y, u) :: ·) hz⟩

theorem DictOf.nodup {κ : Type} [DecidableEq κ] {knd : KeyKind prog w κ} {a : Addr} {ks : List κ} {vs : List Value} (d : h.DictOf knd a (ks.zip vs)) (e : ks.length = vs.length) : ks.Nodup := by
  obtain ⟨o, es, ep, g, c, dd, hk, hp, nd⟩ := d
  have : (ks.zip vs).map (·.1) = ks := List.map_fst_zip (by omega)
  rw [← this]; exact nd

theorem plain_set {a : Addr} {vs : List Value} {k : Nat} {v : Value} (g : h.PlainList a vs.toArray) : ∃ h', h.update a (Obj.mapSeq (·.setIfInBounds k v)) = h' ∧ h'.PlainList a (vs.set k v).toArray ∧ Heap.SameBut a h h' := by
  obtain ⟨n, g⟩ := g
  have q := PySem.IsL.update (g : IsL h a vs.toArray n) (·.setIfInBounds k v)
  rw [List.setIfInBounds_toArray] at q
  exact ⟨_, rfl, ⟨_, q⟩, Heap.SameBut.update ..⟩

variable (prog w base ρ Φ) in
/-- an owned object's store, told -/
noncomputable def Turns (H : HH) (s : Shared) (j : Nat) (ao : AO) (Q : Shared → Prop) : Prop := ∀ h' t (a : Addr), ρ[j]? = some a → Heap.SameBut a s.heap h' → (Ext ρ Φ s.heap ρ Φ h' → RO prog w h' ρ Φ ao a) → Q { s with heap := h', toks := t }
theorem turns_of {j : Nat} {ao : AO} {Z : HH → Prop} {Q : Unit → Shared → Prop} (S : Sim prog w base ρ Φ H s.heap) (e : setP H j ao Z)
    (hQ : ∀ H' s', Z H' → Go ρ ρ [] s s' → Sim prog w base ρ Φ H' s'.heap → Q () s') : Turns prog w ρ Φ H s j ao (Q ()) := by
  intro h' t a ea hs hr
  obtain ⟨H', rfl, z⟩ := e
  have hr := hr ⟨fun b o e f => (hs.2 b fun q => f.1 (q ▸ List.mem_of_getElem? ea)).trans e, fun _ _ e => e, fun _ _ _ f => f⟩
  exact hQ _ _ z ⟨S.step_change ea hs hr.live, rfl, rfl⟩ (S.change ea hs hr)

theorem set_list {j : Nat} {a : Addr} {l : List AV} {vs : List Value} {k : Int} {t : Tok} {p : Nat} {v : AV} {u : Value} {Q : Unit → Shared → Prop} (ea : ρ[j]? = some a) (g : s.heap.PlainList a vs.toArray) (r : RVs prog w s.heap ρ Φ l vs) (rv : RV prog w s.heap ρ Φ v u)
    (hk : smallI k = true) (e : placeO l.length k = some p) (hp : p < l.length) (hT : Turns prog w ρ Φ H s j (.list (l.set p v)) (Q ())) : wpAny (model prog w) A (setItem (.ref a) (.int k t) u) Q E s := by
  have hl := r.length
  obtain ⟨h', eh, g', hs⟩ := plain_set (k := p) (v := u) g
  have fin : Q () { s with heap := h' } := hT h' s.toks a ea hs fun X => ⟨_, g', RVs.set (RV.mono X _ _ rv) (r.mono X) _⟩
  have hsz : vs.toArray.size = l.length := by rw [List.size_toArray, hl]
  have hb := small_bounds hk
  unfold placeO at e
  · split at e
    · rename_i h0
      cases e
      refine ki_setAt (n := g.choose) g.choose_spec h0 (by (clear hp hsz hl h0; omega)) (by (clear hl h0 hb; omega)) ?_
      rw [eh]
      exact fin
    · split at e
      · rename_i h0 h1
        cases e
        refine ki_setBack (n := g.choose) g.choose_spec (by (clear hp h1 hsz hl hb; omega)) (by (clear hp h0 hb hl; omega)) (by (clear hp h1 hsz hl h0; omega)) ?_
        rw [hsz, eh]
        exact fin
      · exact nos e

theorem set_key {κ : Type} [DecidableEq κ] {knd : KeyKind prog w κ} {j : Nat} {a : Addr} {ks : List κ} {l : List AV} {vs : List Value} {k : κ} {kv : Value} {v : AV} {u : Value} {ao : AO} {Q : Unit → Shared → Prop} (hk : knd.is k kv = true) (ea : ρ[j]? = some a) (g : s.heap.DictOf knd a (ks.zip vs)) (hl : ks.length = l.length)
    (r : RVs prog w s.heap ρ Φ l vs) (rv : RV prog w s.heap ρ Φ v u) (hf : fits ks.length) (hT : Turns prog w ρ Φ H s j ao (Q ()))
    (hr : ∀ h' vs', h'.DictOf knd a ((storeK k v ks l).1.zip vs') → (storeK k v ks l).1.length = (storeK k v ks l).2.length → RVs prog w h' ρ Φ (storeK k v ks l).2 vs' → RO prog w h' ρ Φ ao a) : wpAny (model prog w) A (setItem (.ref a) kv u) Q E s := by
  have hlen : ks.length = vs.length := by rw [hl, r.length]
  refine wpAny_setItem_pairs (knd := knd) (k := k) hk g (fun h' d hs => ?_) (by rw [List.length_zip, ← hlen, Nat.min_self]; exact fits_line hf)
  refine hT h' (s.toks + 1) a ea hs fun X => ?_
  obtain ⟨vs', r', hl', hz⟩ := storeK_rv k (RV.mono X _ _ rv) (r.mono X) hl (DictOf.nodup g hlen)
  exact hr h' vs' (hz ▸ d) hl' r'

theorem set_ok {o i v : AV} {ou iu u : Value} {Z : HH → Prop} {Q : Unit → Shared → Prop} (S : Sim prog w base ρ Φ H s.heap) (ro : RV prog w s.heap ρ Φ o ou) (ri : RV prog w s.heap ρ Φ i iu) (rv : RV prog w s.heap ρ Φ v u) (e : setItemP H o i v Z)
    (hQ : ∀ H' s', Z H' → Go ρ ρ [] s s' → Sim prog w base ρ Φ H' s'.heap → Q () s') : wpAny (model prog w) A (setItem ou iu u) Q E s := by
  have isK : ∀ (k : Int) (t : Tok), (intKind prog w).is k (.int k t) = true := fun k t => by simp [intKind, Value.isInt]
  cases o with
  | obj j =>
    refine optP_e e fun o ho e => ?_
    obtain ⟨a, ea, rfl, ro⟩ := S.obj ro ho
    cases o with
    | list l =>
      refine optP_e e fun k ek z1 => optP_e z1.2 fun p ep z => ?_
      have hk := z1.1
      cases int?_some ek
      obtain ⟨vs, g, r⟩ := ro
      obtain ⟨t, rfl⟩ := ri
      exact set_list ea g r rv hk ep z.1 (turns_of S z.2 hQ)
    | edict =>
      obtain ⟨n, g⟩ := ro
      cases i with
      | int k =>
        obtain ⟨t, rfl⟩ := ri
        exact set_key (ks := []) (l := []) (vs := []) (isK k t) ea (dictOf_nil_int g) rfl rfl rv (Nat.zero_le _) (turns_of S e hQ) fun h' vs' d hl r => ⟨vs', d, hl, r⟩
      | bytes k =>
        obtain ⟨t, rfl⟩ := ri
        exact set_key (knd := bytesKind prog w) (ks := []) (l := []) (vs := []) (bytesIs_self _ t) ea (dictOf_nil_bytes g) rfl rfl rv (Nat.zero_le _) (turns_of S e hQ) fun h' vs' d hl r => ⟨vs', d, hl, r⟩
      | _ => exact e.elim
    | idict ks l =>
      refine optP_e e fun k ek z => ?_
      cases int?_some ek
      obtain ⟨vs, g, hl, r⟩ := ro
      obtain ⟨t, rfl⟩ := ri
      exact set_key (isK k t) ea g hl r rv z.1 (turns_of S z.2 hQ) fun h' vs' d hl r => ⟨vs', d, hl, r⟩
    | bdict ks l =>
      refine optP_e e fun k ek z => ?_
      cases bytes?_some ek
      obtain ⟨vs, g, hl, r⟩ := ro
      obtain ⟨t, rfl⟩ := ri
      exact set_key (knd := bytesKind prog w) (bytesIs_self _ t) ea g hl r rv z.1 (turns_of S z.2 hQ) fun h' vs' d hl r => ⟨vs', d, hl, r⟩
    | _ => exact e.elim
  | _ => exact e.elim
end
end

-- V10
section
open PySem PySem.Calls PySem.W PyProof.Rows PySem.SeqAt

section
variable {prog : Program} {w : World} {base h : Heap} {ρ ρ' Φ Φ' fp : List Addr} {s : Shared} {H H' : HH} {A : Around} {E : Value → Shared → Prop} {n : Nat} {K : Frag} {C : Cx}

theorem Ents.rec' {P : List Str → List Value → List DictEntry → Prop} (h0 : P [] [] []) (h1 : ∀ k ks v vs e es, (∃ t, e.key = .str k t) → e.val = v → Ents ks vs es → P ks vs es → P (k :: ks) (v :: vs) (e :: es)) : ∀ {ks : List Str} {vs : List Value} {es : List DictEntry}, Ents ks vs es → P ks vs es := by
  intro ks
  induction ks with
  | nil =>
    intro vs es r
    cases vs with
    | nil => cases es with
      | nil => exact h0
      | cons _ _ => exact r.elim
    | cons _ _ => cases es <;> exact r.elim
  | cons k ks ih =>
    intro vs es r
    cases vs with
    | nil => cases es <;> exact r.elim
    | cons v vs => cases es with
      | nil => exact r.elim
      | cons e es => exact h1 k ks v vs e es r.1 r.2.1 r.2.2 (ih r.2.2)
theorem ents_getL (x : Str) {ks : List Str} {vs : List Value} {es : List DictEntry} (r : Ents ks vs es) :
    (es.find? (·.key.isStr x)).map (·.val) = (ks.zip vs).lookup x ∧ es.any (·.refKey) = false ∧ ks.length = vs.length ∧ es.length = ks.length := by
  refine Ents.rec' (P := fun ks vs es => (es.find? (·.key.isStr x)).map (·.val) = (ks.zip vs).lookup x ∧ es.any (·.refKey) = false ∧ ks.length = vs.length ∧ es.length = ks.length) ⟨rfl, rfl, rfl, rfl⟩ (fun k ks v vs e es hk hv _ ih => ?_) r
  obtain ⟨t, hk⟩ := hk
  obtain ⟨i1, i2, i3, i4⟩ := ih
  have hs : e.key.isStr x = (k == x) := by rw [hk]; rfl
  have hr : e.refKey = false := by unfold DictEntry.refKey; rw [hk]
  refine ⟨?_, by rw [List.any_cons, hr, i2]; rfl, congrArg (· + 1) i3, congrArg (· + 1) i4⟩
  rw [List.find?_cons, hs, List.zip_cons_cons, List.lookup_cons]
  by_cases hx : k = x
  · subst hx; rw [beq_self_eq_true]; exact congrArg some hv
  · rw [beq_eq_false_iff_ne.mpr hx, beq_eq_false_iff_ne.mpr (Ne.symm hx)]; exact i1

theorem findK_lookup (x : Str) {l : List AV} {vs : List Value} (r : RVs prog w h ρ Φ l vs) : ∀ {ks : List Str} {y : AV}, findK x ks l = some y → ∃ v, (ks.zip vs).lookup x = some v ∧ RV prog w h ρ Φ y v := by
  refine RVs.rec' (P := fun l vs => ∀ {ks : List Str} {y : AV}, findK x ks l = some y → ∃ v, (ks.zip vs).lookup x = some v ∧ RV prog w h ρ Φ y v) (fun {ks} {y} e => by cases ks <;> exact nos e) (fun a l v vs hv _ ih ks y e => ?_) r
  cases ks with
  | nil => exact nos e
  | cons k ks =>
    unfold findK at e
    rw [List.zip_cons_cons, List.lookup_cons]
    by_cases hy : k = x
    · rw [if_pos hy] at e
      cases e
      subst hy
      rw [beq_self_eq_true]
      exact ⟨v, rfl, hv⟩
    · rw [if_neg hy] at e
      rw [beq_eq_false_iff_ne.mpr (Ne.symm hy)]
      exact ih e

theorem lookup_none_of (x : Str) {ks : List Str} : ∀ {vs : List Value}, x ∉ ks → (ks.zip vs).lookup x = none := by
  induction ks with
  | nil => intros; rfl
  | cons k ks ih =>
    intro vs hx
    cases vs with
    | nil => rfl
    | cons v vs =>
      rw [List.zip_cons_cons, List.lookup_cons, beq_eq_false_iff_ne.mpr fun e : x = k => hx (e ▸ List.mem_cons_self)]
      exact ih fun m => hx (List.mem_cons_of_mem _ m)

/-- an object of one of the text's own classes -/
structure InstOk (h : Heap) (x Cl dx : Addr) (ks : List Str) (vs : List Value) : Prop where
  at_ : h.get? x = some (instObj Cl dx)
  ns : NsIs h dx ks vs

theorem InstOk.inst {x Cl dx : Addr} {ks : List Str} {vs : List Value} (I : InstOk h x Cl dx ks vs) : ∃ es n, Ents ks vs es ∧ h.get? dx = some (dictOf es n) ∧ InstAt h x (instObj Cl dx) Cl (some (dictOf es n)) := by
  obtain ⟨ha, es, n, g, hE, hn⟩ := I
  exact ⟨es, n, hE, g, ha, rfl, rfl, g⟩

theorem get_attr {x Cl dx : Addr} {ks : List Str} {vs : List Value} {name : Str} {v : Value} {expr : Bool} {Q : Value → Shared → Prop} (X : K.In s.heap) (I : InstOk s.heap x Cl dx ks vs) (hA : AttrOk K Cl name)
    (hv : (ks.zip vs).lookup name = some v) (hh : handedIn v = true) (hQ : Q v { s with toks := s.toks + 1 }) : wpAny (model prog w) A (getAttr (.ref x) name expr) Q E s := by
  obtain ⟨es, n, hE, g, I⟩ := I.inst
  obtain ⟨attr, ha, hn⟩ := hA.own
  refine get_value X I (plainGet_of hA.get).1 (findObj_own hA.dict ha hn ?_) hh hQ
  rw [lookIn_dict]
  have := (ents_getL name hE).1
  rw [hv] at this
  unfold getL
  obtain ⟨e, he, hev⟩ := Option.map_eq_some_iff.mp this
  rw [he, ← hev]

theorem handed_rv {x : AV} {v : Value} (hb : isBi x = false) (r : RV prog w h ρ Φ x v) : handedIn v = true := by
  cases x with
  | none => cases r; rfl
  | bool _ => cases r; rfl
  | int _ => obtain ⟨t, rfl⟩ := r; rfl
  | bytes _ => obtain ⟨t, rfl⟩ := r; rfl
  | tup _ => obtain ⟨a, vs, rfl, _⟩ := r; rfl
  | lst _ => obtain ⟨a, vs, rfl, _⟩ := r; rfl
  | dct _ _ => obtain ⟨a, vs, rfl, _⟩ := r; rfl
  | ins _ _ _ => obtain ⟨a, d, vs, rfl, _⟩ := r; rfl
  | rng _ _ _ => obtain ⟨a, _, _, _, rfl, _⟩ := r; rfl
  | enm _ => exact r.elim
  | obj _ => obtain ⟨a, _, rfl⟩ := r; rfl
  | fn _ => cases r; rfl
  | cls _ => cases r; rfl
  | bi _ => cases hb

theorem own_attr {x : Addr} {Cl dx : Addr} {ks : List Str} {l : List AV} {vs : List Value} {name : Str} {expr : Bool} {Z : AV → Prop} {Q : Value → Shared → Prop} (C0 : CxOk prog w K base n C) (S : Sim prog w base ρ Φ H s.heap) (I : InstOk s.heap x Cl dx ks vs) (r : RVs prog w s.heap ρ Φ l vs)
    (e : ownP C Cl name ks l Z) (hQ : ∀ y v t, Z y → RV prog w s.heap ρ Φ y v → Q v { s with toks := t }) : wpAny (model prog w) A (getAttr (.ref x) name expr) Q E s := by
  refine ifT_e e fun hA e => optP_e e fun y ey e => ifF_e e fun hb z => ?_
  obtain ⟨v, hv, rv⟩ := findK_lookup _ r ey
  exact get_attr (S.kin C0.kin) I (C0.attr _ _ hA) hv (handed_rv hb rv) (hQ y v _ z rv)
theorem attr_ok {o : AV} {u : Value} {name : Str} {expr : Bool} {Z : AV → Prop} {Q : Value → Shared → Prop} (C0 : CxOk prog w K base n C) (S : Sim prog w base ρ Φ H s.heap) (ro : RV prog w s.heap ρ Φ o u) (e : attrP C H o name Z)
    (hQ : ∀ y v t, Z y → RV prog w s.heap ρ Φ y v → Q v { s with toks := t }) : wpAny (model prog w) A (getAttr u name expr) Q E s := by
  cases o with
  | obj i =>
    refine optP_e e fun o ho e => optP_e e fun c hc e => optP_e e fun d hd e => optP_e e fun q hq e => ?_
    cases inst?_some hc
    cases ns?_some hq
    obtain ⟨a, ea, rfl, dx, ed, g⟩ := S.obj ro ho
    obtain ⟨vs, hns, r⟩ := S.rep _ _ _ ed hd
    exact own_attr C0 S ⟨g, hns⟩ r e hQ
  | ins Cl ks l =>
    obtain ⟨a, dx, vs, rfl, f, fd, g, hns, r⟩ := ro
    exact own_attr C0 S ⟨g, hns⟩ r e hQ
  | _ => exact e.elim

theorem storeC_e {k : Str} {w : AV} {G : Prop} : ∀ {ks : List Str} {vs : List AV} {Z : List Str → List AV → Prop}, storeC k w ks vs Z → (Z (storeK k w ks vs).1 (storeK k w ks vs).2 → G) → G
  | [], _, _, e, f => f e
  | x :: ks, [], _, e, f => f e
  | x :: ks, v :: vs, Z, e, f => by
    unfold storeK at f
    refine ifP_e e (fun h e => ?_) fun h e => ?_
    · rw [if_pos (beq_iff_eq.mp h)] at f; exact f e
    · rw [if_neg (beq_eq_false_iff_ne.mp h)] at f; exact storeC_e e f
theorem storeK_put (x : Str) (hsh : Int) (t : Tok) (y : AV) (v : Value) (hv : RV prog w h ρ Φ y v) {ks : List Str} {vs : List Value} {es : List DictEntry} (r : Ents ks vs es) : ∀ {l : List AV}, RVs prog w h ρ Φ l vs →
    ∃ vs', Ents (storeK x y ks l).1 vs' (putL x hsh (.str x t) v es) ∧ RVs prog w h ρ Φ (storeK x y ks l).2 vs' ∧ (∀ z, z ∈ (storeK x y ks l).1 → z ∈ ks ∨ z = x) ∧ (putL x hsh (.str x t) v es).length ≤ es.length + 1 ∧ (ks.Nodup → (storeK x y ks l).1.Nodup) := by
  refine Ents.rec' (P := fun ks vs es => Ents ks vs es → ∀ {l : List AV}, RVs prog w h ρ Φ l vs → ∃ vs', Ents (storeK x y ks l).1 vs' (putL x hsh (.str x t) v es) ∧ RVs prog w h ρ Φ (storeK x y ks l).2 vs' ∧ (∀ z, z ∈ (storeK x y ks l).1 → z ∈ ks ∨ z = x) ∧ (putL x hsh (.str x t) v es).length ≤ es.length + 1 ∧ (ks.Nodup → (storeK x y ks l).1.Nodup))
    (fun _ l r => ?_) (fun k ks u vs e es hk hu _ ih rr l r => ?_) r r
  · exact ⟨[v], ⟨⟨t, rfl⟩, rfl, trivial⟩, RVs.one hv, fun z m => .inr (List.mem_singleton.mp m), Nat.le_refl 1, fun _ => (List.nodup_cons.mpr ⟨fun m => (nomatch m), List.nodup_nil⟩ : [x].Nodup)⟩
  · cases l with
    | nil => cases r
    | cons a l =>
    obtain ⟨_, _, q, ha, hr⟩ := r
    cases q
    obtain ⟨tk, hk⟩ := hk
    have hs : e.key.isStr x = (k == x) := by rw [hk]; rfl
    unfold storeK putL
    by_cases hx : k = x
    · subst hx
      rw [if_pos rfl, hs, beq_self_eq_true, if_pos rfl]
      exact ⟨v :: vs, ⟨⟨tk, hk⟩, rfl, rr.2.2⟩, hr.cons hv, fun z m => .inl m, Nat.le_succ _, id⟩
    · rw [if_neg hx, hs, beq_eq_false_iff_ne.mpr hx]
      obtain ⟨vs', i1, i2, i3, i4, i5⟩ := ih rr.2.2 hr
      refine ⟨u :: vs', ⟨⟨tk, hk⟩, hu, i1⟩, i2.cons ha, fun z m => ?_, Nat.succ_le_succ i4, fun nd => ?_⟩
      · rcases List.mem_cons.mp m with rfl | m
        · exact .inl List.mem_cons_self
        · exact (i3 z m).imp (List.mem_cons_of_mem _) id
      · obtain ⟨n1, n2⟩ := List.nodup_cons.mp nd
        exact List.nodup_cons.mpr ⟨fun m => (i3 k m).elim n1 hx, i5 n2⟩

/-- a store in the object's own namespace -/
theorem osa_own {x Cl dx : Addr} {name : Str} {tk : Tok} {v : Value} {es : List DictEntry} {n : Nat} {R : Result → Shared → Prop} (X : K.In s.heap)
    (I : InstAt s.heap x (instObj Cl dx) Cl (some (dictOf es n))) (hp : plainOver K Cl = true) (ht : takerIn K Cl name = some none) (hh : hasDictIn K Cl = true)
    (hr : es.any (·.refKey) = false) (hz : (putL name (PyData.keyHash w.params name) (.str name s.toks) v es).length ≤ 1000)
    (h : ∀ h', h'.get? dx = some (dictOf (putL name (PyData.keyHash w.params name) (.str name s.toks) v es) (putN name es n)) → Heap.SameBut dx s.heap h' → R (.ok (.ret .none)) { s with heap := h', toks := s.toks + 1 }) :
    codeAny (model prog w) A (.call (.builtin "object.__setattr__") ⟨[.ref x, .str name tk, v], []⟩) R s := by
  refine osa_open X I hp ht fun b => ?_
  obtain ⟨cd, hc, hd'⟩ := any_some hh
  have D : s.heap.get? dx = some (dictOf es n) := I.dict
  have hx := I.at_
  have put := putName_dict name (PyData.keyHash w.params name) (.str name s.toks) v es n
  have D' : (s.heap.update dx (Obj.putName name (PyData.keyHash w.params name) (.str name s.toks) v)).get? dx = some (dictOf (putL name (PyData.keyHash w.params name) (.str name s.toks) v es) (putN name es n)) := by
    rw [Heap.get?_update_self _ D (by rw [put]; rfl), put]
  refine wpAny_bind (wpAny_pure (wpAny_bind (wpAny_bind (wpAny_loadPart hx (wpAny_bind ((looks_clsIn X hc).here ?_))))))
  rw [hd']
  refine wpAny_pure (a := some dx) (wpAny_bind (wpAny_pure (wpAny_bind ?_)))
  unfold nsSet
  refine wpAny_bind (wpAny_bind (wpAny_askSetting (wpAny_pure (wpAny_bind (wpAny_mkText (wpAny_bind (wpAny_loadPart D ?_)))))))
  have c : aRefKeyMayBeTheName name es.toArray = false := by
    rw [aRefKeyMayBeTheName_at, ← Array.any_toList, ← Array.any_toList]
    show (!es.any (·.key.isStr name) && es.any (·.refKey)) = false
    rw [hr, Bool.and_false]
  dsimp only
  rw [c]
  refine wpAny_updatePart D ?_
  refine wpAny_bind (wpAny_lookBehind D' (pastItsLine_dict (by rw [List.size_toArray, sizeLine_eq]; omega)) ?_)
  exact wpAny_pure (h _ D' (Heap.SameBut.update ..))

theorem setattr_ok {o x : AV} {u v : Value} {name : Str} {Z : HH → Prop} {Q : Unit → Shared → Prop} (C0 : CxOk prog w K base n C) (S : Sim prog w base ρ Φ H s.heap) (ro : RV prog w s.heap ρ Φ o u) (rx : RV prog w s.heap ρ Φ x v) (e : setAttrP C H o name x Z)
    (hQ : ∀ H' s', Z H' → Go ρ ρ [] s s' → Sim prog w base ρ Φ H' s'.heap → Q () s') : wpAny (model prog w) A (setAttr u name v) Q E s := by
  cases o with
  | obj i =>
    refine optP_e e fun o ho e => optP_e e fun c hc e => optP_e e fun d hd e => optP_e e fun q hq e => ifT_e e fun hc2 e => storeC_e e fun z => ?_
    cases inst?_some hc
    cases ns?_some hq
    obtain ⟨hA, hl⟩ := and_e hc2
    have hA := C0.attr _ _ hA
    have hl := of_decide_eq_true hl
    obtain ⟨a, ea, rfl, dx, ed, g⟩ := S.obj ro ho
    obtain ⟨vs, hns, r⟩ := S.rep _ _ _ ed hd
    have nd := hns
    obtain ⟨_, _, _, _, nd⟩ := nd
    obtain ⟨es, m, hE, gd, I⟩ := (InstOk.mk g hns).inst
    obtain ⟨q1, q2, q3, q4⟩ := ents_getL name hE
    obtain ⟨vs', i1, i2, i3, i4, i5⟩ := storeK_put name (PyData.keyHash w.params name) (s.toks + 1) x v rx hE r
    refine set_plain (S.kin C0.kin) I hA.sets (osa_own (s := { s with toks := s.toks + 1 }) (S.kin C0.kin) I hA.over hA.taker hA.dict q2 (by show (putL name _ (.str name (s.toks + 1)) v es).length ≤ 1000; (clear i5 q3; omega)) fun h' g' hs => ?_)
    exact turns_of S z hQ h' _ dx ed hs fun EX => ⟨vs', ⟨_, _, g', i1, i5 nd⟩, i2.mono EX⟩
  | _ => exact e.elim

/-- a method of one of the text's own classes -/
theorem own_method {x Cl dx f : Addr} {ks : List Str} {vs : List Value} {name : Str} {pl : Sem Bool} {Q : Value × List Value → Shared → Prop} (X : K.In s.heap) (I : InstOk s.heap x Cl dx ks vs) (hM : MethOk K Cl name f) (hk : name ∉ ks)
    (hQ : Q (.ref f, [.ref x]) s) : wpAny (model prog w) A (getMethod (.ref x) name pl) Q E s := by
  obtain ⟨es, n, hE, g, I⟩ := I.inst
  refine method_fn X I (plainGet_of hM.get).1 (plainGet_of hM.get).2 hM.own (beq_iff_eq.mp hM.fn) ?_ hQ
  show (lookIn name (dictOf es n)).map _ = _
  obtain ⟨q1, q2, q3, q4⟩ := ents_getL name hE
  rw [lookup_none_of name hk] at q1
  rw [lookIn_dict]
  unfold getL
  rw [Option.map_eq_none_iff.mp q1]
  simp [q2]
end
end

-- Cl2
section
open PySem PySem.Calls PySem.W PyProof.Rows PySem.SeqAt
open Sem (wp)
theorem guard1 : guardIds.contains "bytearray.__contains__" = true := by decide +kernel
theorem guard2 : guardIds.contains "bytearray.__mod__" = true := by decide +kernel
theorem guard3 : guardIds.contains "bytearray.__rmod__" = true := by decide +kernel
theorem guard4 : guardIds.contains "_struct.pack_into.held" = true := by decide +kernel
theorem guard5 : guardIds.contains "bytearray.find.held" = true := by decide +kernel
theorem guard_ne {id : String} {g : String} (h : guardIds.contains id = false) (hg : guardIds.contains g = true) : id ≠ g := fun e => by rw [e, hg] at h; cases h

section
variable {prog : Program} {w : World} {A : Around} {E : Value → Shared → Prop} {s : Shared}
/-- nobody holds the octets -/
theorem wpC_exported {self : Value} {Q : Bool → Shared → Prop} (hg : A.guards = some []) (h : Q false s) : wpC (model prog w) A (Builtin.Bytes.exported self) Q E s := fun Γ p hΓ h1 h2 => by
  have hall : guardsOf ((Γ.code, p) :: Γ.below) = [] := by rw [guardsOf_cons]; exact hΓ.2.2.2.1 [] hg
  have hcl : CleanL ((Γ.code, p) :: Γ.below) := h2.cons h1
  unfold Builtin.Bytes.exported
  show Q (List.any ((Γ.code, p) :: Γ.below) _) s
  generalize (Γ.code, p) :: Γ.below = l at hall hcl
  have key : ∀ x ∈ l, x.1.isGuard = false ∧ dirty x.1 = false := fun x hx => ⟨by
      cases e : x.1.isGuard with
      | false => rfl
      | true =>
        have : x.1 ∈ guardsOf l := List.mem_filter.mpr ⟨List.mem_map.mpr ⟨x, hx, rfl⟩, e⟩
        rw [hall] at this; exact (List.not_mem_nil this).elim, hcl x hx⟩
  have fin : ∀ (f : Code × Pos → Bool), (∀ x, x.1.isGuard = false → dirty x.1 = false → f x = false) → l.any f = false := fun f hf => List.any_eq_false.mpr fun x hx => by
    rw [hf x (key x hx).1 (key x hx).2]; exact Bool.false_ne_true
  rw [fin _ ?_]
  · exact h
  · rintro ⟨c, q⟩ hx hd
    cases c with
    | builtin id args =>
      obtain ⟨pos, kw⟩ := args
      have hx : guardIds.contains id = false := hx
      have hd2 : Builtin.Bytes.decodersThatHold.contains id = false := hd
      have n1 := guard_ne hx guard1
      have n2 := guard_ne hx guard2
      have n3 := guard_ne hx guard3
      have n4 := guard_ne hx guard4
      have n5 := guard_ne hx guard5
      delta Builtin.Bytes.exported.match_1
      refine Eq.trans (dif_neg n1) ?_
      refine Eq.trans (dif_neg n2) ?_
      refine Eq.trans (dif_neg n3) ?_
      refine Eq.trans (dif_neg n4) ?_
      refine Eq.trans (dif_neg n5) ?_
      cases pos with
      | nil => rfl
      | cons v r =>
        show (_ && _) = false
        rw [hd2, Bool.and_false]
    | _ => rfl
theorem wpAny_exportsOf {a : Addr} {b : Array UInt8} {Q : Nat → Shared → Prop} (ho : s.heap.get? a = some { cls := .type "bytearray", data := .bytearray b 0 }) (h : Q 0 s) : wpAny (model prog w) A (Builtin.Bytes.exportsOf (.ref a)) Q E s :=
  wpAny_bind (wpAny_load ho (wpAny_pure h))
theorem wpC_checkResize {a : Addr} {b : Array UInt8} {Q : Unit → Shared → Prop} (hg : A.guards = some []) (ho : s.heap.get? a = some { cls := .type "bytearray", data := .bytearray b 0 }) (h : Q () s) :
    wpC (model prog w) A (Builtin.Bytes.checkResize (.ref a)) Q E s := by
  unfold Builtin.Bytes.checkResize
  refine wpC_bind (wpC_bind (wpC_exported hg ?_))
  show wpC _ _ (Builtin.Bytes.exportsOf (.ref a) >>= _) _ _ s
  exact wpC_then (wpAny_exportsOf ho (wpC_pure (wpC_pure h)))
end
end

-- HC
section
open PySem PySem.Calls PySem.W PyProof.Rows PySem.SeqAt
open Sem (wp)

theorem caller_clean : dirty (.builtin "claim.caller" {}) = false := by decide +kernel

theorem ends_clean {prog : Program} {w : World} {t : Sem Fin} {s : Shared} {R : Result → Shared → Prop} (hreg : s.asleep)
    (h : wpC (model prog w) callerA t (fun fin s' => ∃ f, fin = .done f ∧ (R (.ok f) s' ∧ leftWithCleanup s'.gens = false)) (fun _ _ => False) s) :
    ∃ n r s' s'', runN (denote table) prog w n s ⟨t, .builtin "claim.caller" {}, default, []⟩ = .halted (outcomeOf r) s' ∧
      schedN (denote table) prog w n (.single s ⟨t, .builtin "claim.caller" {}, default, []⟩) = .halted (outcomeOf r) s' ∧ s'.forget = s''.forget ∧ R r s'' := by
  have h0 := h ⟨.builtin "claim.caller" {}, none, none, [], none⟩ default caller_in caller_clean (fun _ m => nomatch m)
  obtain ⟨n, r, s₁, s₂, hs, hn, hfo, hR⟩ := wp_halts_full (M := model prog w) (R := R) hreg (Sem.wp_mono _ _ t (fun fin p' s' ⟨f, e, hf⟩ => by subst e; exact hf) (fun _ _ _ h' => h'.elim) default s h0)
  exact ⟨n, r, s₂, s₁, hn, hs, hfo, hR⟩

theorem from_clean {c : ClaimW} {tree : List Value → Sem Fin} {w : World} {s : Shared} {free : Addr → Prop} {gens : Prop} {kept : Heap → Prop} (hz : s.asleep) (hgens : s.gens = #[])
    (hspec : ∀ args, c.pre args = true → WData.layableAll args = true → ∀ ord : List DictEntry → List DictEntry, (∀ l, (ord l).Perm l) →
      ∃ vs s₁, layAllW c.records (classAt s.heap) w.params ord args s = some (vs, s₁) ∧
        wpC (model c.prog w) callerA (tree vs) (fun fin s' => ∃ f, fin = .done f ∧ (c.Ends s args vs s₁ (.ok f) s' ∧ s'.os = s.os ∧ AllBare s'.gens ∧ kept s'.heap)) (fun _ _ => False) s₁) :
    c.CallFrom (fun vs => ⟨tree vs, .builtin "claim.caller" {}, default, []⟩) w free gens kept s := by
  intro args hpre hlay ord hord
  obtain ⟨vs, s₁, hlaid, hcode⟩ := hspec args hpre hlay ord hord
  have hal := layAllW_rest _ _ _ hlaid
  obtain ⟨k, r, s', s'', hrun, hsched, hfo, hcase, hos, hkp⟩ := ends_clean (prog := c.prog) (w := w) (t := tree vs) (s := s₁) (R := fun r s' => c.Ends s args vs s₁ r s' ∧ s'.os = s.os ∧ kept s'.heap)
    (Shared.asleep_of_life hal.2.2.2 hz) (wpC_mono hcode (fun fin s' ⟨f, e, h1, h2, h3, h4⟩ => ⟨f, e, ⟨h1, h2, h4⟩, leftWithCleanup_false_of_bare h3⟩) fun _ _ h => h)
  obtain ⟨eh, _, _, eo, _⟩ := Shared.forget_eq hfo
  have hcase := hcase.congr eh
  have hkp : kept s'.heap := by rw [eh]; exact hkp
  rw [← eo] at hos
  have hlife : s'.heap.life = s.heap.life := (runN_life _ _ _ hrun).trans hal.2.2.2
  refine ⟨vs, s₁, hlaid, k, _, s', hsched, ?_, (fun _ i x hx => by rw [hgens] at hx; simp at hx), hkp, by rw [hlife], Shared.rest_eq hos⟩
  rcases hcase with ⟨v, rfl, d1, d2, d3, d4, d5⟩ | ⟨e, ob, cls, rfl, d1, d2, d3, d4, d5⟩
  · exact .inl ⟨v, rfl, d1, d2, d3, fun b o y _ => d4 b o y, d5⟩
  · exact .inr ⟨e, ob, cls, rfl, d1, d2, d3, d4, fun b o y _ => d5 b o y⟩

/-- the walk that is asked, under clean stacks -/
abbrev WalkC (q : Program) (loose : List Str) (XP : (Str → Option Value) → Heap → Prop) (YP : World → Heap → Prop) (r : RowW) (d : DefRec) (kwd : List (Str × Expr)) : Prop :=
  ∀ (w : World) (s₀ s₁ : Shared) (mg mb : Str → Option Value), Ground q loose r.records XP w s₀ mg mb s₁.heap → YP w s₁.heap → ∀ (a : Addr) (o : Obj) (pm cd doc dV kV : Value), s₁.heap.get? a = some o →
    o.data = .func { docDef d.name d.params d.body d.scope pm cd doc with defaults := dV, kwdefaults := kV } → s₁.heap.CodeRec cd d.name → Dflts mg s₁.heap d.params kwd dV kV → mg d.name = some (.ref a) → s₁.gens = #[] →
    ∀ (args : List WData) (vals : List Value) (as : List Addr), r.claim.pre args = true → WData.layableAll args = true → ReadsAllW r.records (classAt s₀.heap) s₁.heap vals args as → WellAll w.params s₁.heap vals args → (∀ a ∈ as, (a == sysModules) = false) →
      wpC (model r.prog w) callerA (PySem.call (.ref a) vals) (fun v s' => GoodWG r.claim (classAt s₀.heap) (ExcName.means s₀.heap) args s₁ (.ok (.ret v)) s') (fun _ _ => False) s₁

theorem head_clean {r : OpenRow} {q : Program} {loose : List Str} {Xt : Shared → Bool} {XP : (Str → Option Value) → Heap → Prop} {α : Type} {Yf : Shared → α} {Ya : World → α} {YP : World → Heap → Prop} {d : DefRec} {kwd : List (Str × Expr)} {N : Nat}
    (left : LeftO r.prog q loose Xt Yf Ya N) (hY : ∀ w s, Yf s = Ya w → YP w s.heap) (hYk : ∀ w h h', YP w h → (∀ b o, h.get? b = some o → h'.get? b = some o) → YP w h')
    (hX : ∀ s, Xt s = true → XP (s.heap.nsMap mainGlobals) s.heap) (hXk : ∀ mg h h', XP mg h → (∀ b o, h.get? b = some o → h'.get? b = some o) → XP mg h')
    (hdef : defOf q r.name = some (d, kwd)) (hp : r.prog.theDef r.name = some (d.params, d.body, d.scope)) (hk : kwWritten? d.params.kwonlyargs d.params.kw_defaults = some kwd) (hRf : ∀ s, Xt s = true → RecFacts r.records s.heap) (hwr : (!r.writes || r.records.isEmpty) = true)
    (k1 : r.wellSaid = true) (ok : (chainsOk q && opensWell r.prog && (frees r.toRowW && r.within.isEmpty)) = true) (hb : r.prog.bare) (hw : r.toRowW.promised)
    (call : WalkC q loose XP YP r.toRowW d kwd) : r.Holds := by
  obtain ⟨ok, k5⟩ := Bool.and_eq_true_iff.mp ok
  obtain ⟨hch, o1⟩ := Bool.and_eq_true_iff.mp ok
  obtain ⟨k5, k6⟩ := Bool.and_eq_true_iff.mp k5
  obtain ⟨hsame, hu, ha, hap, hm⟩ := frees_parts k5
  refine ⟨k1, hw, ⟨⟨hb, o1, by show r.makers.map _ = []; rw [hm]; rfl⟩, hw.witness, fun w => ⟨(left.behind hX hch w).1, fun s' hs' => ?_⟩⟩⟩
  obtain ⟨s₀, hf, hg0, s, hT, hz, hgens, hg, G00, y⟩ := (left.behind (XP := fun mg h => XP mg h ∧ RecFacts r.records h) (fun s hs => ⟨hX s hs, hRf s hs⟩) hch w).2 s' hs'
  have G0 : Ground q loose [] XP w s (s.heap.nsMap mainGlobals) (s.heap.nsMap builtinsNs) s.heap := ⟨G00.T, G00.B, G00.D, G00.TE, G00.TD, G00.W, G00.X.1, G00.cls, G00.has, G00.apart, G00.once, G00.K⟩
  have RF := G00.X.2
  have hT' := hT
  refine ⟨s₀, hf, hg0, s, hT, fun n hn => ?_, RF.1, RF.2.1, ?_⟩
  · obtain rfl : n = r.name := by split at hn <;> simp_all
    exact pinned_of_view hg G0 hdef hp hk
  have hgens : s.gens = #[] := Array.eq_empty_of_size_eq_zero (beq_iff_eq.mp hgens)
  have G : Ground q loose r.records XP w s _ _ s.heap := RF.ground G0
  refine from_clean (c := r.toRowW.claim) (tree := fun vs => do match ← nsGet mainNs r.name with
      | some f => do ret (← PySem.call f vs)
      | none => unsupported "claim.caller:no-such-global") hz hgens fun args hpre hlay ord hord => ?_
  obtain ⟨⟨vs, s₁⟩, hlaid⟩ := Option.isSome_iff_exists.mp (layAllW_isSome (P := w.params) (ord := ord) G.has args r.toRowW.args s (pre_splitW hpre).1)
  have keeps := layAllW_keeps _ _ _ hlaid
  have hal := layAllW_rest _ _ _ hlaid
  obtain ⟨as, hrd, hin, hold⟩ := reads_layAllW hord _ _ _ hlaid hlay s₁.heap (fun _ _ e => e)
  have L : Laid r.records w s s₁ args vs as := ⟨⟨ord, hord, hlaid⟩, hrd, hin, hold, keeps, hal.1.trans hgens, hal.2.2.1⟩
  have G₁ := G.keeps hXk keeps
  obtain ⟨a, o, pm, cd, doc, dV, kV, h1, h2, h3, h4, h5⟩ := G₁.fn hdef
  have h := call w s s₁ _ _ G₁ (hYk _ _ _ (hY w s y) keeps) a o pm cd doc dV kV h2 h3 h4 h5 (defOf_name hdef ▸ h1) L.gens args vs as hpre hlay L.reads L.well (L.low G.low)
  have hi := ident_freeW hu ha hap
  have hwi : r.toRowW.claim.within = [] := List.isEmpty_iff.mp k6
  refine ⟨vs, s₁, hlaid, wpC_then (wpAny_nsGet G₁.T.g ?_)⟩
  rw [h1]
  refine wpC_bind (wpC_mono h (fun v s' g => wpC_pure ?_) fun _ _ x => x)
  have z := g.laid (c := r.toRowW.claim) hsame hwi hi L
  exact ⟨_, rfl, z.1, z.2.1, z.2.2, fun q => ⟨namesKept_of hT' hg r.keeps keeps g.2.1.old, noTable hwr q⟩⟩
end

-- Pl4
section
open PySem PySem.Calls PySem.W PyProof.Rows PySem.SeqAt

/-! The sort's asks: where they go, and what is left. -/
noncomputable def AsksP {α : Type} (n : Nat) : KasT α → (α → Prop) → Prop
  | .ret a, Q => Q a
  | .ask i j k, Q => i < n ∧ j < n ∧ ∀ b, AsksP n (k b) Q
theorem AsksP.mono {α : Type} {n : Nat} {Q Q' : α → Prop} (hq : ∀ a, Q a → Q' a) : ∀ {t : KasT α}, AsksP n t Q → AsksP n t Q'
  | .ret a, h => hq a h
  | .ask i j k, h => ⟨h.1, h.2.1, fun b => AsksP.mono hq (h.2.2 b)⟩
theorem AsksP.bind {α β : Type} {n : Nat} {Q : β → Prop} {f : α → KasT β} : ∀ {t : KasT α}, AsksP n t (fun a => AsksP n (f a) Q) → AsksP n (t.bind f) Q
  | .ret a, h => h
  | .ask i j k, h => ⟨h.1, h.2.1, fun b => AsksP.bind (t := k b) (h.2.2 b)⟩
theorem AsksP.run {α : Type} {n : Nat} {Q : α → Prop} (lt : Nat → Nat → Bool) : ∀ {t : KasT α}, AsksP n t Q → Q (kasRun lt t)
  | .ret a, h => h
  | .ask i j k, h => AsksP.run lt (t := k (lt i j)) (h.2.2 _)
theorem AsksP.wp {α : Type} {n : Nat} {Q : α → Prop} {lt : Nat → Nat → Bool} {cmp : Nat → Nat → (Bool → Shared → Prop) → Shared → Prop} {s : Shared} {R : α → Shared → Prop}
    (hc : ∀ i j C, i < n → j < n → C (lt i j) s → cmp i j C s) : ∀ {t : KasT α}, AsksP n t Q → R (kasRun lt t) s → t.kasWp cmp R s
  | .ret a, _, r => r
  | .ask i j k, h, r => hc i j _ h.1 h.2.1 (AsksP.wp hc (t := k (lt i j)) (h.2.2 _) r)
abbrev Below (n : Nat) (p : Array Nat) : Prop := ∀ k, p.getD k 0 < n
theorem below_perm {n : Nat} {p q : Array Nat} (hn : 0 < n) (h : Below n p) (hp : q.Perm p) : Below n q := by
  intro k
  by_cases hk : k < q.size
  · have e : q.getD k 0 = q[k] := by simp [Array.getD, hk]
    have hm : q[k] ∈ p.toList := by
      have := hp.toList.mem_iff (a := q[k])
      exact this.mp (by simp)
    obtain ⟨j, hj, e2⟩ := List.getElem_of_mem hm
    have hj' : j < p.size := by simpa using hj
    have := h j
    rw [show p.getD j 0 = p[j] by simp [Array.getD, hj']] at this
    rw [e, ← e2]
    simpa using this
  · simp [Array.getD, hk, hn]
section
variable {n : Nat}
theorem ask_asc {p : Array Nat} (hb : Below n p) : ∀ (f k : Nat), AsksP n (kas_asc p f k) fun _ => True
  | 0, k => trivial
  | f + 1, k => ⟨hb _, hb _, fun b => by cases b <;> first | exact ask_asc hb f (k + 1) | trivial⟩
theorem ask_desc (hn : 0 < n) {p0 : Array Nat} (hb : Below n p0) : ∀ (f : Nat) (p : Array Nat) (k q : Nat), p.Perm p0 → AsksP n (kas_desc f p k q) fun r => r.1.Perm p0
  | 0, p, k, q, hp => hp
  | f + 1, p, k, q, hp => by
    have hb' := below_perm hn hb hp
    refine ⟨hb' _, hb' _, fun b => ?_⟩
    cases b
    · refine ⟨hb' _, hb' _, fun c => ?_⟩
      cases c
      · exact ask_desc hn hb f p (k + 1) (q + 1) hp
      · exact hp
    · show AsksP n (if q > 0 then _ else _) _
      split
      · exact ask_desc hn hb f _ (k + 1) 0 ((mirror_perm _ _ _ _).trans hp)
      · exact ask_desc hn hb f p (k + 1) 0 hp
theorem ask_tail3 (hn : 0 < n) {p0 p : Array Nat} (hb : Below n p0) (hp : p.Perm p0) (k nrem : Nat) : AsksP n (kas_tail3 k nrem p) fun r => r.2.Perm p0 := by
  have hp' : (kas_rev p 0 k).Perm p0 := (mirror_perm _ _ _ _).trans hp
  exact AsksP.bind (AsksP.mono (fun _ _ => hp') (ask_asc (below_perm hn hb hp') _ _))
theorem ask_descPart (hn : 0 < n) {p0 p : Array Nat} (hb : Below n p0) (hp : p.Perm p0) (k nrem : Nat) : AsksP n (kas_descPart k nrem p) fun r => r.2.Perm p0 := by
  refine AsksP.bind (AsksP.mono (fun r hr => ?_) (ask_desc hn hb _ p _ _ hp))
  split
  · exact ask_tail3 hn hb ((mirror_perm _ _ _ _).trans hr) _ _
  · exact ask_tail3 hn hb hr _ _
theorem ask_count (hn : 0 < n) {p0 : Array Nat} (hb : Below n p0) (nrem : Nat) : AsksP n (kas_count nrem p0) fun r => r.2.Perm p0 := by
  refine AsksP.bind (AsksP.mono (fun m _ => ?_) (ask_asc hb _ _))
  have hr : (kas_rev p0 0 m).Perm p0 := mirror_perm _ _ _ _
  split
  · exact Array.Perm.refl _
  · split
    · refine ⟨hb _, hb _, fun b => ?_⟩
      cases b
      · exact ask_descPart hn hb hr _ _
      · exact Array.Perm.refl _
    · exact ask_descPart hn hb (Array.Perm.refl _) _ _
theorem ask_place {p : Array Nat} (hb : Below n p) (k : Nat) : ∀ (f l r : Nat), AsksP n (kas_place p k f l r) fun _ => True
  | 0, l, r => trivial
  | f + 1, l, r => by
    show AsksP n (if l ≥ r then _ else _) _
    split
    · trivial
    · refine ⟨hb _, hb _, fun b => ?_⟩
      cases b
      · exact ask_place hb k f _ _
      · exact ask_place hb k f _ _
theorem ask_bin (hn : 0 < n) {p0 : Array Nat} (hb : Below n p0) : ∀ (f : Nat) (p : Array Nat) (k : Nat), p.Perm p0 → AsksP n (kas_bin f p k) fun r => r.Perm p0
  | 0, p, k, hp => hp
  | f + 1, p, k, hp => AsksP.bind (AsksP.mono (fun l _ => ask_bin hn hb f _ _ ((bubble_perm _ _ _).trans hp)) (ask_place (below_perm hn hb hp) k _ _ _))
theorem ask_sort (hn : 0 < n) : AsksP n (kas_sort n) fun r => r.Perm (List.toArray (List.range n)) := by
  have hb : Below n (List.toArray (List.range n)) := by
    intro k
    by_cases hk : k < n
    · simp [Array.getD, hk]
    · simp [Array.getD, hk, hn]
  refine AsksP.bind (AsksP.mono (fun r hr => ?_) (ask_count hn hb n))
  split
  · exact ask_bin hn hb _ _ _ hr
  · exact hr
end
theorem kasSort_perm {α : Type} (d : α) (lt : α → α → Bool) (l : List α) : (kasSort d lt l).Perm l := by
  unfold kasSort
  split
  · exact List.Perm.refl _
  · rename_i h2
    have := (AsksP.run (fun i j => lt (l.getD i d) (l.getD j d)) (ask_sort (n := l.length) (by omega))).toList
    refine (this.map fun i => l.getD i d).trans ?_
    have e : ((List.toArray (List.range l.length)).toList.map fun i => l.getD i d) = l := by
      apply List.ext_getElem
      · simp
      · intro i h1 h2
        simp [h2]
    rw [e]
end

-- Cl3
section
open PySem PySem.Calls PySem.W PyProof.Rows PySem.SeqAt
open Sem (wp)
theorem ba_mro : mroOf (.type "bytearray") = pure [.type "bytearray", .type "object"] := by rw [mroOf_type]; kernel_rfl
theorem ba_lookup_new : typeLookup (.type "bytearray") "__new__" = pure (some (.builtin "bytearray.__new__")) := by rw [typeLookup_type, builtinLookup_eq_fast]; kernel_rfl
theorem ba_slot_init : Slot "bytearray" "__init__" "bytearray.__init__" :=
  .of (owner := "bytearray") (n := "__init__") (by rw [typeLookup_type, builtinLookup_eq_fast]; kernel_rfl) (by decide +kernel) (by decide +kernel) (by decide +kernel)
    (by first | exact .inl (by decide +kernel) | exact .inr (by decide +kernel)) (by rw [isSubtype_type]; kernel_rfl)
theorem ba_called : TypeCalled "bytearray" "bytearray.__new__" "bytearray.__init__" :=
  ⟨by decide +kernel, by decide +kernel, ⟨_, _, ba_mro⟩, madeBy_type ba_mro ba_lookup_new (by decide +kernel), by decide +kernel, F.sub_bytearray_bytearray, ba_slot_init⟩
theorem ba_typeCall : checkTypeCall "bytearray" ⟨[], []⟩ = pure () := by kernel_rfl
theorem ba_newCall : checkBuiltinCall "bytearray.__new__" ⟨[.type "bytearray"], []⟩ = pure () := by kernel_rfl
theorem ba_entry_new : entryFor table "bytearray.__new__" = some Builtin.«list.__new__» := entryFor_alias (id' := "list.__new__") (by kernel_rfl) (by decide +kernel) (by decide +kernel) (by kernel_rfl)
theorem ba_entry_init : entryFor table "bytearray.__init__" = some Builtin.«bytearray.__init__» := by first | exact entryFor_of_fast (by kernel_rfl) | exact entryFor_of_tree (by kernel_rfl)
theorem ba_plain_init : plainId "bytearray.__init__" = true := by decide +kernel
theorem ba_args_init (a : Value) : argsOk "bytearray.__init__" ⟨[a], []⟩ := by unfold argsOk; kernel_rfl
theorem ba_bind : Builtin.Bytes.bindOptional "bytearray.__init__" "bytearray" ["source", "encoding", "errors"] [] [] = pure [none, none, none] := by kernel_rfl
theorem ba_release : typeLookup (.type "bytearray") "__release_buffer__" = pure (some (.builtin "bytearray.__release_buffer__")) := by rw [typeLookup_type, builtinLookup_eq_fast]; kernel_rfl
theorem ba_ends : ("bytearray.__release_buffer__".endsWith ("." ++ "__release_buffer__")) = true := by decide +kernel
theorem ba_drop : ("bytearray.__release_buffer__".dropRight ("__release_buffer__".length + 1)) = "bytearray" := by decide +kernel
theorem ba_plain_new : plainId "bytearray.__new__" = true := by decide +kernel
theorem ba_dirty_init (a : Args) : dirty (.builtin "bytearray.__init__" a) = false := by show Builtin.Bytes.decodersThatHold.contains "bytearray.__init__" = false; decide +kernel
theorem tc_dirty (a : Args) : dirty (.builtin "type.__call__" a) = false := by show Builtin.Bytes.decodersThatHold.contains "type.__call__" = false; decide +kernel
set_option maxHeartbeats 4000000 in
theorem ba_owner : ("bytearray.__new__".splitOn ".__new__").headD "" = "bytearray" := by simp +decide [String.splitOn, String.splitOnAux]

section
variable {prog : Program} {w : World} {A : Around} {E : Value → Shared → Prop} {s : Shared}
theorem ba_new {Q₁ : Value → Shared → Prop} (h : Q₁ (.ref s.heap.objs.size) { s with heap := s.heap.push { cls := .type "bytearray", data := .bytearray #[] } }) :
    codeAny (model prog w) A (.call (.builtin "bytearray.__new__") ⟨[.type "bytearray"], []⟩) (wants Q₁ E) s := by
  refine codeAny_of_tree ?_
  show wpAny _ A.in1 (do checkBuiltinCall "bytearray.__new__" ⟨[.type "bytearray"], []⟩; again (.builtin "bytearray.__new__" ⟨[.type "bytearray"], []⟩)) _ _ s
  refine wpAny_bind (wpAny_of_eq ba_newCall (wpAny_pure ⟨plainId_quiet ba_plain_new _, codeAny_builtin_stack ba_entry_new rfl fun p st => ?_⟩))
  rw [Around.under_plainId ba_plain_new _]
  have hsub := F.sub_bytearray_bytearray
  have hown := ba_owner
  obtain ⟨hp, g, d, tk, os⟩ := s
  simp only [hown]
  wp_walk
  exact h

theorem wpC_if_false {α : Type} {M : Model} {c : Bool} {a b : Sem α} {Q : α → Shared → Prop} (hc : c = false) (h : wpC M A b Q E s) : wpC M A (if c = true then a else b) Q E s := by
  subst hc
  exact h
theorem wpC_if_true {α : Type} {M : Model} {c : Bool} {a b : Sem α} {Q : α → Shared → Prop} (hc : c = true) (h : wpC M A a Q E s) : wpC M A (if c = true then a else b) Q E s := by
  subst hc
  exact h
theorem ba_ownRelease {a : Addr} {Q : Bool → Shared → Prop} (hT : s.TypeIs (.ref a) "bytearray") (h : Q false s) : wpAny (model prog w) A (Builtin.Bytes.ownRelease (.ref a)) Q E s := by
  unfold Builtin.Bytes.ownRelease Builtin.Bytes.slotIsOwn
  refine wpAny_bind (wpAny_bind (wpAny_specialOf hT ba_release ?_))
  dsimp only
  rw [ba_ends, ba_drop]
  exact wpAny_isInstance hT F.sub_bytearray_bytearray (wpAny_pure h)
theorem ba_write {a : Addr} {b : Array UInt8} {f : Array UInt8 → Array UInt8} {Q : Unit → Shared → Prop} (ho : s.heap.get? a = some { cls := .type "bytearray", data := .bytearray b 0 }) (hz : (f b).size ≤ sizeLine)
    (h : ∀ h', h'.get? a = some { cls := .type "bytearray", data := .bytearray (f b) 0 } → Heap.SameBut a s.heap h' → Q () { s with heap := h' }) : wpAny (model prog w) A (Builtin.Bytes.write (.ref a) f) Q E s := by
  show wpAny _ _ (updateBytearray a f) _ _ _
  unfold updateBytearray
  refine wpAny_bind (wpAny_load ho ?_)
  show wpAny _ _ (update a (Obj.mapBytearray f) >>= fun _ => lookBehind a) _ _ _
  have g : (s.heap.update a (Obj.mapBytearray f)).get? a = some { cls := .type "bytearray", data := .bytearray (f b) 0 } := Heap.get?_update_self (Obj.mapBytearray f) ho rfl
  refine wpAny_bind (wpAny_update ho (wpAny_lookBehind g ?_ (h _ g (Heap.SameBut.update ..))))
  show (if (f b).size > sizeLine then some "bytearray:memory" else none) = none
  rw [if_neg (by omega)]

theorem ba_init {a : Addr} {R : Result → Shared → Prop} (hg : A.guards = some []) (ho : s.heap.get? a = some { cls := .type "bytearray", data := .bytearray #[] })
    (h : ∀ h', h'.get? a = some { cls := .type "bytearray", data := .bytearray #[] } → Heap.SameBut a s.heap h' → R (.ok (.ret .none)) { s with heap := h' }) :
    codeC (model prog w) A (.call (.builtin "bytearray.__init__") ⟨[.ref a], []⟩) R s := by
  have hT : s.TypeIs (.ref a) "bytearray" := ⟨_, ho, rfl⟩
  refine codeC_call_builtin (plainId_quiet ba_plain_init _) ba_entry_init (ba_slot_init.check _ _ _ _ _ _ _ _ hT (ba_args_init _) ?_) (ba_dirty_init _)
  rw [Around.under_plainId ba_plain_init _]
  unfold Builtin.«bytearray.__init__»
  dsimp only
  refine wpC_then (ba_ownRelease hT ?_)
  refine wpC_if_false rfl ?_
  refine wpC_bind (wpC_of_eq ba_bind ?_)
  dsimp only
  refine wpC_bind (wpC_of_eq (a := ()) rfl ?_)
  refine wpC_bind (wpC_of_eq (a := ()) rfl ?_)
  refine wpC_bind (wpC_bind (wpC_exported hg ?_))
  show wpC _ _ (Builtin.Bytes.exportsOf (.ref a) >>= _) _ _ s
  refine wpC_then (wpAny_exportsOf ho (wpC_pure ?_))
  refine wpC_if_false rfl ?_
  refine wpC_then (ba_write ho (by simp) fun h' g hs => ?_)
  refine wpC_bind (wpC_if_false rfl (wpC_if_false rfl (wpC_pure ?_)))
  exact wpC_pure (h _ g hs)

theorem call_bytearray {Q : Value → Shared → Prop} (hg : A.guards = some [])
    (h : ∀ h' a, s.heap.objs.size = a → s.heap.objs.size < h'.objs.size → h'.get? a = some { cls := .type "bytearray", data := .bytearray #[] } → Heap.SameBut a (s.heap.push { cls := .type "bytearray", data := .bytearray #[] }) h' → Q (.ref a) { s with heap := h' }) :
    wpC (model prog w) A (call (.type "bytearray") []) Q E s := by
  have ft := ba_called
  obtain ⟨c, tl, hmro⟩ := ft.mro
  refine wpC_call (codeC_of_tree ?_ rfl)
  show wpC _ _ (callAny (.type "bytearray") _) _ _ _
  refine wpC_pure ⟨Code.quiet_builtin _ (by decide +kernel), codeC_builtin F.entry_type_call ?_ (tc_dirty _)⟩
  rw [Around.under_plain (weight_type_call_type "bytearray" [] []) rfl]
  unfold Builtin.«type.__call__»
  dsimp only
  refine wpC_if_false rfl ?_
  refine wpC_if_false ft.canCreate ?_
  refine wpC_bind (wpC_of_eq ba_typeCall ?_)
  refine wpC_bind (wpC_of_eq hmro ?_)
  refine wpC_if_false rfl ?_
  refine wpC_bind (wpC_of_eq ft.made ?_)
  dsimp only
  refine wpC_bind (wpC_pure (wpC_bind (wpC_holding (wpC_of_any (wpAny_call (ba_new ?_))))))
  have hb : (s.heap.push { cls := .type "bytearray", data := .bytearray #[] }).get? s.heap.objs.size = some { cls := .type "bytearray", data := .bytearray #[] } := Heap.get?_push_size _ rfl
  have hT : ({ s with heap := s.heap.push { cls := .type "bytearray", data := .bytearray #[] } } : Shared).TypeIs (.ref s.heap.objs.size) "bytearray" := ⟨_, hb, rfl⟩
  refine wpC_then (wpAny_isInstance hT F.sub_bytearray_bytearray ?_)
  refine wpC_if_false rfl ?_
  refine wpC_bind (wpC_holding ?_)
  unfold callSpecial?
  refine wpC_then (wpAny_specialOf hT ba_slot_init.lookup ?_)
  dsimp only
  refine wpC_holding ?_
  rw [ba_slot_init.bind]
  refine wpC_bind (wpC_pure (wpC_bind (wpC_call (ba_init hg hb fun h' g hs => ?_))))
  refine wpC_pure (wpC_if_false rfl (wpC_pure ?_))
  exact h h' _ rfl (by rw [hs.1, Heap.size_push]; exact Nat.lt_succ_self _) g hs
end

/-- octets put behind -/
theorem ba_plain_extend : plainId "bytearray.extend" = true := by decide +kernel
theorem ba_kind_extend : builtinKind "bytearray.extend" = some .method := by decide +kernel
theorem ba_slot_extend : Slot "bytearray" "extend" "bytearray.extend" :=
  .of (owner := "bytearray") (n := "extend") (by rw [typeLookup_type, builtinLookup_eq_fast]; kernel_rfl) (by decide +kernel) (by decide +kernel) (by decide +kernel)
    (by first | exact .inl (by decide +kernel) | exact .inr (by decide +kernel)) (by rw [isSubtype_type]; kernel_rfl)
theorem ba_entry_extend : entryFor table "bytearray.extend" = some Builtin.«bytearray.extend» := by first | exact entryFor_of_fast (by kernel_rfl) | exact entryFor_of_tree (by kernel_rfl)
theorem ba_args_extend (a b : Value) : argsOk "bytearray.extend" ⟨[a, b], []⟩ := by unfold argsOk; kernel_rfl
theorem ba_type_extend : typeOf (.builtin "bytearray.extend") = pure (.type "method_descriptor") := by kernel_rfl
theorem ba_dirty_extend (a : Args) : dirty (.builtin "bytearray.extend" a) = false := by show Builtin.Bytes.decodersThatHold.contains "bytearray.extend" = false; decide +kernel
theorem by_buffer_ends : ("bytes.__buffer__".endsWith ("." ++ "__buffer__")) = true := by decide +kernel
theorem by_buffer_drop : ("bytes.__buffer__".dropRight ("__buffer__".length + 1)) = "bytes" := by decide +kernel
theorem ba_buffer : typeLookup (.type "bytearray") "__buffer__" = pure (some (.builtin "bytearray.__buffer__")) := by rw [typeLookup_type, builtinLookup_eq_fast]; kernel_rfl
theorem ba_buffer_ends : ("bytearray.__buffer__".endsWith ("." ++ "__buffer__")) = true := by decide +kernel
theorem ba_buffer_drop : ("bytearray.__buffer__".dropRight ("__buffer__".length + 1)) = "bytearray" := by decide +kernel
theorem ba_plainAttrs : PlainAttrs "bytearray" :=
  ⟨⟨"bytearray.__getattribute__", by rw [typeLookup_type, builtinLookup_eq_fast]; kernel_rfl, by decide +kernel⟩, by rw [typeLookup_type, builtinLookup_eq_fast]; kernel_rfl⟩

section
variable {prog : Program} {w : World} {A : Around} {E : Value → Shared → Prop} {s : Shared}
theorem by_buffer? {id : String} {b : Array UInt8} {t : Tok} {full : Bool} {Q : Option (Array UInt8) → Shared → Prop} (h : Q (some b) s) : wpAny (model prog w) A (Builtin.Bytes.buffer? id (.bytes b t) full) Q E s := by
  have hT : s.TypeIs (.bytes b t) "bytes" := typeIs_bytes _ _ _
  unfold Builtin.Bytes.buffer?
  refine wpAny_bind (wpAny_specialOf hT KBy.look_buffer ?_)
  dsimp only
  have own : ∀ {Q' : Bool → Shared → Prop}, Q' true s → wpAny (model prog w) A (Builtin.Bytes.slotIsOwn (.bytes b t) "__buffer__") Q' E s := fun hq => by
    unfold Builtin.Bytes.slotIsOwn
    refine wpAny_bind (wpAny_specialOf hT KBy.look_buffer ?_)
    dsimp only
    rw [by_buffer_ends, by_buffer_drop]
    exact wpAny_isInstance hT F.bm_sub hq
  refine wpAny_bind (own ?_)
  refine bm_if_false rfl ?_
  refine wpAny_bind (wpAny_specialOf hT KBy.look_buffer ?_)
  refine wpAny_bind ?_
  unfold Builtin.Bytes.ownRelease Builtin.Bytes.slotIsOwn
  refine wpAny_bind (wpAny_bind (wpAny_specialOf hT KBy.look_release (wpAny_pure (wpAny_pure ?_))))
  refine bm_if_false rfl ?_
  exact wpAny_bind (wpAny_of_eq (a := b) rfl (wpAny_pure h))

theorem by_take {id : String} {b : Array UInt8} {t : Tok} {Q : Option (Array UInt8 × Option Value) → Shared → Prop} (h : Q (some (b, none)) s) : wpAny (model prog w) A (Builtin.Bytes.takeBufferQuiet? id (.bytes b t) 0) Q E s := by
  have hT : s.TypeIs (.bytes b t) "bytes" := typeIs_bytes _ _ _
  unfold Builtin.Bytes.takeBufferQuiet? Builtin.Bytes.takeBuffer?
  have own : ∀ {A' : Around} {E' : Value → Shared → Prop} {Q' : Bool → Shared → Prop}, Q' true s → wpAny (model prog w) A' (Builtin.Bytes.slotIsOwn (.bytes b t) "__buffer__") Q' E' s := fun hq => by
    unfold Builtin.Bytes.slotIsOwn
    refine wpAny_bind (wpAny_specialOf hT KBy.look_buffer ?_)
    dsimp only
    rw [by_buffer_ends, by_buffer_drop]
    exact wpAny_isInstance hT F.bm_sub hq
  refine wpAny_bind (wpAny_attempt (wpAny_bind (wpAny_specialOf hT KBy.look_buffer ?_)))
  dsimp only
  refine wpAny_bind (own ?_)
  refine bm_if_false rfl ?_
  refine wpAny_bind (wpAny_specialOf hT KBy.look_buffer ?_)
  exact wpAny_bind (by_buffer? (wpAny_pure (wpAny_pure h)))
theorem ba_payload {a : Addr} {b : Array UInt8} {Q : Array UInt8 → Shared → Prop} (ho : s.heap.get? a = some { cls := .type "bytearray", data := .bytearray b 0 }) (h : Q b s) : wpAny (model prog w) A (Builtin.Bytes.payload (.ref a)) Q E s := by
  unfold Builtin.Bytes.payload Builtin.Bytes.payload?
  exact wpAny_bind (wpAny_bind (wpAny_load ho (wpAny_pure (wpAny_pure h))))
theorem ba_buffer? {id : String} {a : Addr} {b : Array UInt8} {full : Bool} {Q : Option (Array UInt8) → Shared → Prop} (ho : s.heap.get? a = some { cls := .type "bytearray", data := .bytearray b 0 }) (h : Q (some b) s) : wpAny (model prog w) A (Builtin.Bytes.buffer? id (.ref a) full) Q E s := by
  have hT : s.TypeIs (.ref a) "bytearray" := ⟨_, ho, rfl⟩
  unfold Builtin.Bytes.buffer?
  refine wpAny_bind (wpAny_specialOf hT ba_buffer ?_)
  dsimp only
  have own : ∀ {Q' : Bool → Shared → Prop}, Q' true s → wpAny (model prog w) A (Builtin.Bytes.slotIsOwn (.ref a) "__buffer__") Q' E s := fun hq => by
    unfold Builtin.Bytes.slotIsOwn
    refine wpAny_bind (wpAny_specialOf hT ba_buffer ?_)
    dsimp only
    rw [ba_buffer_ends, ba_buffer_drop]
    exact wpAny_isInstance hT F.sub_bytearray_bytearray hq
  refine wpAny_bind (own ?_)
  refine bm_if_false rfl ?_
  refine wpAny_bind (wpAny_specialOf hT ba_buffer ?_)
  refine wpAny_bind (ba_ownRelease hT ?_)
  refine bm_if_false rfl ?_
  exact wpAny_bind (ba_payload ho (wpAny_pure h))
theorem ba_no_bytes : typeLookup (.type "bytearray") "__bytes__" = pure none := by rw [typeLookup_type, builtinLookup_eq_fast]; kernel_rfl
theorem ba_no_index : typeLookup (.type "bytearray") "__index__" = pure none := by rw [typeLookup_type, builtinLookup_eq_fast]; kernel_rfl
theorem ba_bytes_new {a : Addr} {b : Array UInt8} {Q : Value → Shared → Prop} (ho : s.heap.get? a = some { cls := .type "bytearray", data := .bytearray b 0 }) (hz : b.size ≤ sizeLine)
    (hQ : ∀ t k, Q (.bytes b t) { s with toks := k }) : codeAny (model prog w) A (.call (.builtin "bytes.__new__") ⟨[.type "bytes", .ref a], []⟩) (wants Q E) s := by
  have hT : s.TypeIs (.ref a) "bytearray" := ⟨_, ho, rfl⟩
  refine codeAny_of_tree ?_
  show wpAny _ A.in1 (do checkBuiltinCall "bytes.__new__" ⟨[.type "bytes", .ref a], []⟩; again (.builtin "bytes.__new__" ⟨[.type "bytes", .ref a], []⟩)) _ _ s
  refine wpAny_bind (wpAny_of_eq (F.bm_newCall _) (wpAny_pure ⟨plainId_quiet F.bm_plain _, codeAny_builtin F.bm_entry ?_⟩))
  rw [Around.under_plainId F.bm_plain _]
  unfold Builtin.«bytes.__new__»
  refine wpAny_bind (wpAny_of_eq (a := true) rfl ?_)
  refine bm_if_false rfl ?_
  refine wpAny_bind (wpAny_of_eq F.bm_sub ?_)
  refine bm_if_false rfl ?_
  refine wpAny_bind (wpAny_of_eq (F.bm_bind _) ?_)
  refine wpAny_bind (wpAny_of_eq (a := ()) rfl ?_)
  refine wpAny_bind (wpAny_of_eq (a := ()) rfl ?_)
  refine bm_if_false rfl ?_
  refine wpAny_bind (wpAny_specialOf hT ba_no_bytes ?_)
  refine wpAny_bind (wpAny_bind ?_)
  show wpAny _ _ (load a >>= _) _ _ _
  refine wpAny_bind (wpAny_load ho ?_)
  refine wpAny_pure (wpAny_pure ?_)
  refine bm_if_false rfl ?_
  refine wpAny_bind (wpAny_specialOf hT ba_no_index ?_)
  refine bm_if_true rfl ?_
  first
    | show wpAny _ _ (Builtin.Bytes.buffer? "bytes.__new__" (.ref a) true >>= _) _ _ _
    | (refine wpAny_bind ?_; show wpAny _ _ (Builtin.Bytes.buffer? "bytes.__new__" (.ref a) true >>= _) _ _ _)
  refine wpAny_bind (ba_buffer? ho ?_)
  dsimp only
  refine wpAny_bind (wpAny_rule (wpAny_bind (wpAny_mkBytes ?_ hz)))
  show wpAny _ _ (if (Value.type "bytes" == Value.type "bytes") = true then _ else _) _ _ _
  refine bm_if_true (by decide) ?_
  first
    | exact wpAny_pure (hQ _ _)
    | exact wpAny_bind (wpAny_pure (wpAny_pure (hQ _ _)))
    | exact wpAny_pure (wpAny_pure (hQ _ _))

theorem ba_extend {a : Addr} {b c : Array UInt8} {t : Tok} {R : Result → Shared → Prop} (hg : A.guards = some []) (ho : s.heap.get? a = some { cls := .type "bytearray", data := .bytearray b 0 }) (hz : (b ++ c).size ≤ sizeLine)
    (h : ∀ h', h'.get? a = some { cls := .type "bytearray", data := .bytearray (b ++ c) 0 } → Heap.SameBut a s.heap h' → R (.ok (.ret .none)) { s with heap := h' }) :
    codeC (model prog w) A (.call (.builtin "bytearray.extend") ⟨[.ref a, .bytes c t], []⟩) R s := by
  have hT : s.TypeIs (.ref a) "bytearray" := ⟨_, ho, rfl⟩
  have hTb : s.TypeIs (.bytes c t) "bytes" := typeIs_bytes _ _ _
  refine codeC_call_builtin (plainId_quiet ba_plain_extend _) ba_entry_extend (ba_slot_extend.check _ _ _ _ _ _ _ _ hT (ba_args_extend _ _) ?_) (ba_dirty_extend _)
  rw [Around.under_plainId ba_plain_extend _]
  unfold Builtin.«bytearray.extend»
  refine wpC_bind (wpC_of_eq (a := (.ref a, .bytes c t)) rfl ?_)
  refine wpC_then (wpAny_specialOf hTb KBy.look_buffer ?_)
  refine wpC_if_true rfl ?_
  refine wpC_bind (wpC_rule (wpC_then (ba_payload ho ?_)))
  refine wpC_then (by_take ?_)
  dsimp only
  refine wpC_if_true rfl ?_
  show wpC _ _ (if (!c.isEmpty) = true then (do Builtin.Bytes.checkResize (.ref a); Builtin.Bytes.write (.ref a) (· ++ c); ret .none) else (do Builtin.Bytes.write (.ref a) (· ++ c); ret .none)) _ _ s
  have fin : wpC (model prog w) A.in1 (do Builtin.Bytes.write (.ref a) (· ++ c); ret .none) (fun fin s' => match fin with | .done f => R (.ok f) s' | .again c' => c'.quiet = true ∧ codeC (model prog w) A c' R s') (fun e s' => R (.error e) s') s :=
    wpC_then (ba_write ho hz fun h' g hs => wpC_pure (h h' g hs))
  split
  · exact wpC_bind (wpC_checkResize hg ho fin)
  · exact fin

/-- the octets as a bytes object -/
theorem ba_bytes {a : Addr} {b : Array UInt8} {Q : Value → Shared → Prop} (ho : s.heap.get? a = some { cls := .type "bytearray", data := .bytearray b 0 }) (hz : b.size ≤ sizeLine)
    (hQ : ∀ t k, Q (.bytes b t) { s with toks := k }) : wpAny (model prog w) A (call (.type "bytes") [.ref a]) Q E s := by
  refine callType_codes (Q₁ := fun obj s₁ => s₁.TypeIs obj "bytes" ∧ Q obj s₁) F.bm_called (F.bm_typeCall _) F.entry_object_init
    (ba_bytes_new ho hz fun t k => ⟨typeIs_bytes _ _ _, hQ t k⟩) fun obj s₁ h₁ => ?_
  exact ⟨h₁.1, F.args_object_init_2 obj _, object_init_meets F.bm_called.init.lookup F.bm_called.made (by decide) prog w A.in1 _ s₁ ⟨h₁.1, rfl, h₁.2⟩⟩

theorem ba_len_slot : Slot "bytearray" "__len__" "bytearray.__len__" :=
  .of (owner := "bytearray") (n := "__len__") (by rw [typeLookup_type, builtinLookup_eq_fast]; kernel_rfl) (by decide +kernel) (by decide +kernel) (by decide +kernel)
    (by first | exact .inl (by decide +kernel) | exact .inr (by decide +kernel)) (by rw [isSubtype_type]; kernel_rfl)
theorem ba_len_entry : entryFor table "bytearray.__len__" = some Builtin.«bytearray.__len__» := by first | exact entryFor_of_fast (by kernel_rfl) | exact entryFor_of_tree (by kernel_rfl)
theorem ba_len_args (a : Value) : argsOk "bytearray.__len__" ⟨[a], []⟩ := by unfold argsOk; kernel_rfl
theorem ba_len {a : Addr} {b : Array UInt8} {Q : Value → Shared → Prop} (ho : s.heap.get? a = some { cls := .type "bytearray", data := .bytearray b 0 }) (hz : b.size ≤ sizeLine)
    (hQ : ∀ t k, Q (.int b.size t) { s with toks := k }) : wpAny (model prog w) A (call (.builtin "len") [.ref a]) Q E s := by
  have hT : s.TypeIs (.ref a) "bytearray" := ⟨_, ho, rfl⟩
  refine call_function_entry kind_len plain_len entry_len (args_len1 _) ?_
  unfold Builtin.«len»
  refine wpAny_bind (m := oneArg "len" _) (wpAny_pure ?_)
  refine wpAny_bind (m := callSpecial? (.ref a) (Str.ofString "__len__")) (wpAny_callSpecial?_slot (name := Str.ofString "__len__") hT ba_len_slot
    (wpAny_call_entry ba_len_slot hT ba_len_entry ?_ (ba_len_args _)))
  unfold Builtin.«bytearray.__len__»
  refine wpAny_bind (wpAny_of_eq (a := (.ref a, [])) rfl ?_)
  dsimp only
  refine wpAny_bind (ba_payload ho ?_)
  refine wpAny_bind (wpAny_mkInt (wpAny_pure ⟨_, rfl, ?_⟩))
  refine wpAny_bind (wpAny_holding (wpAny_pure ?_))
  refine wpAny_bind (wpAny_letGo ?_)
  have : sizeLine = 2 ^ 24 := by unfold sizeLine; decide
  show wpAny _ _ (if ((b.size : Nat) : Int) < 0 then _ else _) _ _ _
  rw [if_neg (by (clear this hz; omega))]
  show wpAny _ _ (if ((b.size : Nat) : Int) ≥ 2 ^ 63 then _ else _) _ _ _
  rw [if_neg (by omega)]
  exact wpAny_bind (wpAny_mkInt (wpAny_pure ⟨_, rfl, hQ _ _⟩))
end
end

-- Cl4
section
open PySem PySem.Calls PySem.W PyProof.Rows PySem.SeqAt
open Sem (wp)

theorem line24 : sizeLine = 2 ^ 24 := by unfold sizeLine; decide
theorem fits_63 {n : Nat} (h : fits n) : (n : Int) < 2 ^ 63 := by
  simp only [fits] at h
  have : (2 : Nat) ^ 20 < 2 ^ 63 := by decide
  (clear this; omega)

theorem joinFold (sep : Array UInt8) : ∀ (l : List (List UInt8)) (i : Nat) (acc : List UInt8), sep = #[] → ((l.map List.toArray).zipIdx i).foldl (fun (out : Array UInt8) (q : Array UInt8 × Nat) => (if q.2 > 0 then out ++ sep else out) ++ q.1) acc.toArray = (acc ++ l.flatten).toArray
  | [], i, acc, h => by simp
  | x :: l, i, acc, h => by
    subst h
    simp only [List.map_cons, List.zipIdx_cons, List.foldl_cons]
    have : (if i > 0 then acc.toArray ++ #[] else acc.toArray) ++ x.toArray = (acc ++ x).toArray := by split <;> simp
    rw [this, joinFold #[] l (i + 1) (acc ++ x) rfl]
    simp
theorem joined_flat (l : List (List UInt8)) : Builtin.Bytes.joined #[] (l.map List.toArray) = l.flatten.toArray := by
  have := joinFold #[] l 0 [] rfl
  simpa [Builtin.Bytes.joined] using this

/-- the items are octets -/
theorem RVs.octets {prog : Program} {w : World} {h : Heap} {ρ Φ : List Addr} {l : List AV} {vs : List Value} (r : RVs prog w h ρ Φ l vs) : ∀ {ls : List (List UInt8)}, bytess? l = some ls → ∃ ts : List Tok, vs = (ls.zip ts).map (fun p => Value.bytes p.1.toArray p.2) ∧ ts.length = ls.length := by
  refine RVs.rec' (P := fun l vs => ∀ {ls : List (List UInt8)}, bytess? l = some ls → ∃ ts : List Tok, vs = (ls.zip ts).map (fun p => Value.bytes p.1.toArray p.2) ∧ ts.length = ls.length) (fun {ls} e => ?_) (fun x l v vs hv _ ih ls e => ?_) r
  · cases e; exact ⟨[], rfl, rfl⟩
  · obtain ⟨b, js, rfl, e2, rfl⟩ := bytess_e e
    obtain ⟨t, rfl⟩ := hv
    obtain ⟨ts, rfl, hl⟩ := ih e2
    exact ⟨t :: ts, rfl, congrArg (· + 1) hl⟩

theorem by_args_join (a b : Value) : argsOk "bytes.join" ⟨[a, b], []⟩ := by unfold argsOk; kernel_rfl
theorem by_slot_join : Slot "bytes" "join" "bytes.join" :=
  .of (owner := "bytes") (n := "join") (by rw [typeLookup_type, builtinLookup_eq_fast]; kernel_rfl) (by decide +kernel) (by decide +kernel) (by decide +kernel)
    (by first | exact .inl (by decide +kernel) | exact .inr (by decide +kernel)) (by rw [isSubtype_type]; kernel_rfl)
theorem by_entry_join : entryFor table "bytes.join" = some Builtin.«bytes.join» := by first | exact entryFor_of_fast (by kernel_rfl) | exact entryFor_of_tree (by kernel_rfl)
theorem by_type_join : typeOf (.builtin "bytes.join") = pure (.type "method_descriptor") := by kernel_rfl
section
variable {prog : Program} {w : World} {A : Around} {E : Value → Shared → Prop} {s : Shared}

theorem wpAny_letGo' {Q : Unit → Shared → Prop} (keep : List Value) : ∀ (l : List Value) (s : Shared), Q () s → wpAny (model prog w) A (letGo l keep) Q E s
  | [], s, h => wpAny_pure h
  | _ :: r, s, h => by
    unfold letGo
    exact wpAny_bind (wpAny_holding (wpAny_point (wpAny_letGo' keep r s h)))
theorem joinLetGo_none {Q : Unit → Shared → Prop} (keep : List Value) : ∀ (l : List (Value × Option Value)), (∀ p ∈ l, p.2 = none) → Q () s → wpAny (model prog w) A (Builtin.Bytes.joinLetGo l keep) Q E s
  | [], _, h => wpAny_pure h
  | (x, u) :: r, hn, h => by
    have hu : u = none := hn _ (.head _)
    subst hu
    unfold Builtin.Bytes.joinLetGo
    dsimp only
    exact wpAny_bind (wpAny_letGo' _ _ _ (joinLetGo_none keep r (fun p hp => hn p (List.mem_cons_of_mem _ hp)) h))

theorem wpAny_of_code {α : Type} {t t' : Sem α} {Q : α → Shared → Prop} (e : t = t') (h : wpAny (model prog w) A t' Q E s) : wpAny (model prog w) A t Q E s := e ▸ h
theorem join_match {α : Type} {il : List Value} (h : il.length ≠ 1) (f : Value → α) (g : α) : (match (⟨il⟩ : Array Value) with | #[x] => f x | _ => g) = g := by
  cases il with
  | nil => rfl
  | cons x r => cases r with
    | nil => exact absurd rfl h
    | cons y r => rfl
theorem join_if {α : Type} {il : List Value} {f : Value → Sem α} {g : Sem α} {Q : α → Shared → Prop} (h : il.length ≠ 1) (q : wpAny (model prog w) A g Q E s) : wpAny (model prog w) A (match (⟨il⟩ : Array Value) with | #[x] => f x | _ => g) Q E s := wpAny_of_code (join_match h f g) q
theorem join_one {a : Addr} {n : Nat} {b : List UInt8} {t u : Tok} {Q : Value → Shared → Prop} (ho : s.heap.get? a = some (seqObj "list" #[.bytes b.toArray u] n)) (hTl : s.TypeIs (.ref a) "list") (hQ : Q (.bytes b.toArray u) s) :
    wpAny (model prog w) A (call (.builtin "bytes.join") [.bytes #[] t, .ref a]) Q E s := by
  refine wpAny_call_entry by_slot_join (typeIs_bytes _ _ _) by_entry_join ?_ (by_args_join _ _)
  refine wpAny_bind (m := selfAndOne _ _) (wpAny_of_eq (a := (.bytes #[] t, .ref a)) rfl ?_)
  refine bm_if_true rfl (wpAny_bind (m := Builtin.Bytes.joinItems _) ?_)
  refine wpAny_bind (m := typeOf _) (wpAny_typeOf hTl ?_)
  refine bm_if_true rfl (wpAny_pure ?_)
  refine wpAny_bind (m := seqItems? _) (wpAny_seqItems ho rfl ?_)
  refine bm_if_true rfl ?_
  refine wpAny_bind (m := typeOf _) (wpAny_typeOf (typeIs_bytes _ _ _) ?_)
  exact bm_if_true rfl (wpAny_bind (wpAny_rule (wpAny_pure ⟨_, rfl, hQ⟩)))
/-- the parts after i turns -/
noncomputable def JoinAt (ls : List (List UInt8)) (i : Nat) (st : Array (Array UInt8) × List (Value × Option Value)) : Prop := st.1 = ((ls.take i).map List.toArray).toArray ∧ ∀ q ∈ st.2, q.2 = none ∧ q.1.onHeap = false
theorem JoinAt.next {ls : List (List UInt8)} {i : Nat} {st : Array (Array UInt8) × List (Value × Option Value)} {x : Value} (J : JoinAt ls i st) (h : i < ls.length) (hx : x.onHeap = false) : JoinAt ls (i + 1) (st.1.push ls[i].toArray, st.2 ++ [(x, none)]) := by
  refine ⟨?_, fun q m => ?_⟩
  · show st.1.push _ = _
    rw [J.1, List.take_add_one, List.getElem?_eq_getElem h, List.map_append]
    simp only [Option.toList_some, List.map_cons, List.map_nil, List.push_toArray]
  · rcases List.mem_append.mp m with m | m
    · exact J.2 q m
    · rw [List.mem_singleton.mp m]; exact ⟨rfl, hx⟩
theorem JoinAt.clean {ls : List (List UInt8)} {i : Nat} {st : Array (Array UInt8) × List (Value × Option Value)} (J : JoinAt ls i st) : (Builtin.Bytes.Kind.bytes == Builtin.Bytes.Kind.bytearray || st.2.any fun x => x.fst.onHeap) = false := by
  show (false || _) = false
  rw [Bool.false_or]
  exact List.any_eq_false.mpr fun q hq => by rw [(J.2 q hq).2]; exact Bool.false_ne_true
theorem foldl_sizes : ∀ (l : List (List UInt8)) (k : Nat), (l.map List.toArray).foldl (fun n x => n + x.size) k = k + l.flatten.length
  | [], k => rfl
  | y :: l, k => by
    show (l.map List.toArray).foldl _ (k + y.length) = _
    rw [foldl_sizes l, List.flatten_cons, List.length_append, Nat.add_assoc]
theorem JoinAt.short {ls : List (List UInt8)} {st : Array (Array UInt8) × List (Value × Option Value)} (J : JoinAt ls ls.length st) (hz : fits ls.flatten.length) : Builtin.Bytes.tooLong (Array.foldl (fun (n : Nat) (x : Array UInt8) => n + x.size) ((#[] : Array UInt8).size * (st.1.size - 1)) st.1) = false := by
  have h0 : (#[] : Array UInt8).size * (st.1.size - 1) = 0 := Nat.zero_mul _
  rw [h0, J.1, List.take_length, List.foldl_toArray' (h := rfl), foldl_sizes, Nat.zero_add]
  exact decide_eq_false (Nat.not_lt.mpr (fits_line hz))
theorem JoinAt.joined {ls : List (List UInt8)} {st : Array (Array UInt8) × List (Value × Option Value)} (J : JoinAt ls ls.length st) : Builtin.Bytes.joined #[] st.1.toList = ls.flatten.toArray := by
  rw [J.1, List.take_length, List.toList_toArray]; exact joined_flat ls
theorem join_for {α : Type} {n : Nat} {ls : List (List UInt8)} {F : Nat → Array (Array UInt8) × List (Value × Option Value) → Sem (ForInStep (Array (Array UInt8) × List (Value × Option Value)))} {Kt : Array (Array UInt8) × List (Value × Option Value) → Sem α} {Q : α → Shared → Prop} (hn : n = ls.length)
    (turn : ∀ i (h : i < ls.length) st, JoinAt ls i st → wpAny (model prog w) A (F i st) (fun r s' => match r with | .yield b' => JoinAt ls (i + 1) b' ∧ s' = s | .done b' => False) E s)
    (fin : ∀ st, JoinAt ls ls.length st → wpAny (model prog w) A (Kt st) Q E s) : wpAny (model prog w) A (forIn [:n] (#[], []) F >>= Kt) Q E s := by
  subst hn
  refine wpAny_bind ?_
  rw [Std.Legacy.Range.forIn_eq_forIn_range']
  have hsz : ([:ls.length] : Std.Legacy.Range).size = ls.length := by simp [Std.Legacy.Range.size]
  rw [hsz]
  refine wpAny_forIn_list F (fun l st s' => s' = s ∧ ∃ i, i ≤ ls.length ∧ l = List.range' i (ls.length - i) ∧ JoinAt ls i st) _ ?_ ?_ _ _ ⟨rfl, 0, Nat.zero_le _, rfl, rfl, fun q m => nomatch m⟩
  · rintro x rest st s' ⟨rfl, i, hi, hl, J⟩
    have hlt : i < ls.length := by
      rcases Nat.lt_or_ge i ls.length with h | h
      · exact h
      · rw [Nat.sub_eq_zero_of_le h] at hl; cases hl
    rw [← Nat.succ_sub_succ_eq_sub ls.length i, Nat.succ_sub hlt, List.range'_succ] at hl
    obtain ⟨rfl, rfl⟩ := List.cons.inj hl
    refine wpAny_mono (turn _ hlt st J) (fun r s1 z => ?_) fun _ _ z => z
    cases r with
    | yield b => exact ⟨z.2, _, hlt, rfl, z.1⟩
    | done b => exact z.elim
  · rintro st s' ⟨rfl, i, hi, hl, J⟩
    have hil : i = ls.length := by
      rcases Nat.lt_or_ge i ls.length with h | h
      · rw [← Nat.succ_sub_succ_eq_sub ls.length i, Nat.succ_sub h, List.range'_succ] at hl; cases hl
      · exact Nat.le_antisymm hi h
    subst hil
    exact fin st J
theorem join_many {a : Addr} {il : List Value} {n : Nat} {ls : List (List UInt8)} {t : Tok} {Q : Value → Shared → Prop} (ho : s.heap.get? a = some (seqObj "list" ⟨il⟩ n)) (hTl : s.TypeIs (.ref a) "list") (h1 : il.length ≠ 1) (hn : il.length = ls.length)
    (item : ∀ i (hi : i < ls.length), ∃ u, (⟨il⟩ : Array Value).getD i .none = .bytes ls[i].toArray u) (hz : fits ls.flatten.length)
    (hQ : ∀ u k, Q (.bytes ls.flatten.toArray u) { s with toks := k }) : wpAny (model prog w) A (call (.builtin "bytes.join") [.bytes #[] t, .ref a]) Q E s := by
  refine wpAny_call_entry by_slot_join (typeIs_bytes _ _ _) by_entry_join ?_ (by_args_join _ _)
  refine wpAny_bind (m := selfAndOne _ _) (wpAny_of_eq (a := (.bytes #[] t, .ref a)) rfl ?_)
  refine bm_if_true rfl (wpAny_bind (m := Builtin.Bytes.joinItems _) ?_)
  refine wpAny_bind (m := typeOf _) (wpAny_typeOf hTl ?_)
  refine bm_if_true rfl (wpAny_pure ?_)
  refine wpAny_bind (m := seqItems? _) (wpAny_seqItems ho rfl ?_)
  refine bm_if_true rfl (join_if h1 ?_)
  refine join_for (ls := ls) hn (fun i h st J => ?_) fun st J => ?_
  · obtain ⟨u, hu⟩ := item i h
    refine wpAny_bind (m := seqItems? _) (wpAny_seqItems ho rfl ?_)
    refine bm_if_false J.clean ?_
    refine wpAny_bind (wpAny_holding (m := Builtin.Bytes.takeBufferQuiet? _ _ _) ?_)
    refine wpAny_of_code (congrArg (Builtin.Bytes.takeBufferQuiet? _ · 0) hu) (by_take ?_)
    refine wpAny_bind (m := seqItems? _) (wpAny_seqItems ho rfl ?_)
    refine bm_if_false (bne_self_eq_false' (a := il.length)) (wpAny_pure ⟨?_, rfl⟩)
    exact J.next h (by show Value.onHeap ((⟨il⟩ : Array Value).getD i .none) = false; rw [hu]; rfl)
  · refine wpAny_bind (m := Builtin.Bytes.payload _) (wpAny_of_eq (a := #[]) rfl ?_)
    refine bm_if_false (J.short hz) ?_
    refine wpAny_bind (m := Builtin.Bytes.Kind.new _ _) ?_
    refine wpAny_of_code (congrArg (Builtin.Bytes.Kind.new .bytes) J.joined) (wpAny_mkBytes ?_ (by simpa using fits_line hz))
    exact wpAny_bind (wpAny_holding (wpAny_point (wpAny_bind (joinLetGo_none _ _ (fun q hq => (J.2 q hq).1) (wpAny_pure ⟨_, rfl, hQ _ _⟩)))))
theorem by_join {a : Addr} {ls : List (List UInt8)} {ts : List Tok} {t : Tok} {Q : Value → Shared → Prop} (hl : s.heap.PlainList a ((ls.zip ts).map fun p => Value.bytes p.1.toArray p.2).toArray) (hn : ts.length = ls.length) (hz : fits ls.flatten.length)
    (hQ : ∀ u k, Q (.bytes ls.flatten.toArray u) { s with toks := k }) : wpAny (model prog w) A (call (.builtin "bytes.join") [.bytes #[] t, .ref a]) Q E s := by
  have hTl : s.TypeIs (.ref a) "list" := hl.isList.typeIs
  obtain ⟨n, ho⟩ := hl
  have hlen : ((ls.zip ts).map fun p => Value.bytes p.1.toArray p.2).length = ls.length := by rw [List.length_map, List.length_zip, hn, Nat.min_self]
  by_cases h1 : ls.length = 1
  · obtain ⟨b0, rfl⟩ := List.length_eq_one_iff.mp h1
    obtain ⟨u, rfl⟩ := List.length_eq_one_iff.mp (hn.trans h1)
    have : [b0].flatten = b0 := by simp
    rw [this] at hQ
    exact join_one ho hTl (hQ u s.toks)
  · refine join_many (ls := ls) ho hTl (hlen ▸ h1) hlen (fun i hi => ⟨ts[i]'(hn ▸ hi), ?_⟩) hz hQ
    have hz2 : (ls.zip ts)[i]? = some (ls[i], ts[i]'(hn ▸ hi)) := List.getElem?_zip_eq_some.mpr ⟨List.getElem?_eq_getElem hi, List.getElem?_eq_getElem (hn ▸ hi)⟩
    rw [Array.getD_eq_getD_getElem?, List.getElem?_toArray, List.getElem?_map, hz2]; rfl
end
end

-- Cs1
section
open PySem PySem.Calls PySem.W PyProof.Rows PySem.SeqAt
open Sem (wp)

theorem insertI_perm (x : Int) : ∀ l : List Int, (insertI x l).Perm (x :: l)
  | [] => .refl _
  | y :: r => by
    unfold insertI
    split
    · exact .refl _
    · exact ((insertI_perm x r).cons y).trans (.swap x y r)
theorem sortI_perm' : ∀ l : List Int, (sortI l).Perm l
  | [] => .refl _
  | x :: r => (insertI_perm x _).trans ((sortI_perm' r).cons x)
theorem insertI_le (x : Int) : ∀ l : List Int, l.Pairwise (· ≤ ·) → (insertI x l).Pairwise (· ≤ ·)
  | [], _ => List.pairwise_singleton _ _
  | y :: r, h => by
    obtain ⟨h1, h2⟩ := List.pairwise_cons.mp h
    unfold insertI
    split
    · rename_i hxy
      refine List.pairwise_cons.mpr ⟨fun z hz => ?_, h⟩
      rcases List.mem_cons.mp hz with rfl | hz
      · exact hxy
      · exact Int.le_trans hxy (h1 z hz)
    · rename_i hxy
      refine List.pairwise_cons.mpr ⟨fun z hz => ?_, insertI_le x r h2⟩
      rcases List.mem_cons.mp ((insertI_perm x r).mem_iff.mp hz) with rfl | hz
      · omega
      · exact h1 z hz
theorem sortI_le : ∀ l : List Int, (sortI l).Pairwise (· ≤ ·)
  | [] => .nil
  | x :: r => insertI_le x _ (sortI_le r)
theorem sortI_eq {l l' : List Int} (hp : l'.Perm l) (hs : l'.Pairwise (· ≤ ·)) : l' = sortI l :=
  List.Perm.eq_of_pairwise (fun _ _ _ _ a b => Int.le_antisymm a b) hs (sortI_le l) (hp.trans (sortI_perm' l).symm)

section
variable {prog : Program} {w : World} {K : Frag} {base : Heap} {n : Nat} {C : Cx} {A : Around} {E : Value → Shared → Prop}
  {ρ ρ' Φ fp : List Addr} {env : Env} {sc : Names} {m m' : Loc} {H H' : HH} {s s' : Shared}

theorem sortedHeap_keep {h : Heap} {a : Addr} {vs : List Value} {out : Array Value} (ha : a < h.objs.size) (b : Addr) (o : Obj) (hb : b ≠ a) (e : h.get? b = some o) : (sortedHeap h a vs out).get? b = some o := by
  unfold sortedHeap
  exact ((Heap.SameBut.update ..).2 b hb).trans (Heap.get?_push_of_some _ (Heap.get?_push_of_some _ (((Heap.SameBut.update ..).2 b hb).trans e)))
theorem sortedHeap_at {h : Heap} {a : Addr} {vs : List Value} {out : Array Value} {n : Nat} (ho : h.get? a = some (seqObj "list" vs.toArray n)) : ∃ k, (sortedHeap h a vs out).get? a = some (seqObj "list" out k) := by
  unfold sortedHeap
  obtain ⟨k1, h1⟩ : ∃ k, (h.update a (Obj.mapSeq fun _ => #[])).get? a = some (seqObj "list" #[] k) := ⟨_, get?_update_seq ho (fun _ => #[])⟩
  exact ⟨_, get?_update_seq (Heap.get?_push_of_some _ (Heap.get?_push_of_some _ h1)) _⟩

theorem sorted_int_any {u : Value} {ns : List Int} {Q : Value → Shared → Prop} (hA : A.handled = none) (h64 : ns.length < 64)
    (hcol : ∀ {R : List Value → Shared → Prop}, (∀ h' tk vs, (∀ b o, s.heap.get? b = some o → h'.get? b = some o) → IntsAre vs ns → R vs { s with heap := h', toks := tk }) → wpAny (model prog w) A.in1 (collect u) R E s)
    (h : ∀ D h' tk vs', (∀ b o, s.heap.get? b = some o → h'.get? b = some o) → h'.PlainList D vs'.toArray → s.heap.get? D = none → IntsAre vs' (sortI ns) → Q (.ref D) { s with heap := h', toks := tk }) :
    wpAny (model prog w) A (call (.builtin "sorted") [u]) Q E s := by
  refine Calls.call_function_entry kind_sorted plain_sorted entry_sorted (args_sorted1 _) ?_
  unfold Builtin.«sorted»
  refine wpAny_bind (m := checkCount "sorted" 1 1 _) (wpAny_pure ?_)
  refine wpAny_bind (hcol fun h1 tk vs hk hI => ?_)
  have hlen := hI.length
  refine wpAny_bind (wpAny_newList ?_ (by rw [sizeLine_eq]; omega))
  have hoL : (h1.push (seqObj "list" vs.toArray 0)).get? h1.objs.size = some (seqObj "list" vs.toArray 0) := Heap.get?_push_size _ rfl
  refine wpAny_bind (wpAny_holding (wpAny_call_entry (s := { s with heap := h1.push (seqObj "list" vs.toArray 0), toks := tk }) slot_list_sort ⟨_, hoL, rfl⟩ entry_list_sort (list_sort_tree hoL hI (by omega) fun out ns' a1 a2 a3 => ⟨_, rfl, ?_⟩) (args_list_sort _)))
  have hD : s.heap.get? h1.objs.size = none := by
    cases e : s.heap.get? h1.objs.size with
    | none => rfl
    | some o => exact absurd (Heap.lt_size (hk _ _ e)) (Nat.lt_irrefl _)
  obtain ⟨k, hat⟩ := sortedHeap_at (out := out) hoL
  refine wpAny_pure ⟨_, rfl, h h1.objs.size _ tk out.toList (fun b o e => ?_) ⟨k, ?_⟩ hD ?_⟩
  · have e1 := hk b o e
    exact sortedHeap_keep (by rw [size_push']; exact Nat.lt_succ_self _) b o (Nat.ne_of_lt (Heap.lt_size e1)) (Heap.get?_push_of_some _ e1)
  · rw [Array.toArray_toList]; exact hat
  · rw [← sortI_eq a2 a3]; exact a1

theorem intsAre_of : ∀ {vs : List Value} {ks : List Int}, vs.length = ks.length → (∀ (j : Nat) v, vs[j]? = some v → ∃ k, ks[j]? = some k ∧ Value.isInt k v = true) → IntsAre vs ks := by
  intro vs
  induction vs with
  | nil =>
    intro ks h _
    cases List.length_eq_zero_iff.mp h.symm
    exact .nil
  | cons v vs ih =>
    intro ks h hj
    cases ks with
    | nil => cases h
    | cons k ks =>
      obtain ⟨k', e, hv⟩ := hj 0 v rfl
      cases e
      obtain ⟨t, rfl⟩ := Value.isInt_shape hv
      exact .cons _ _ (ih (Nat.succ.inj h) fun j v e => hj (j + 1) v e)

theorem sorted_dict_ints {a : Addr} {ks : List Int} {vs : List Value} {Q : Value → Shared → Prop} (hA : A.handled = none) (ns : (a == sysModules) = false) (g : s.heap.DictOf (intKind prog w) a (ks.zip vs)) (hl : vs.length = ks.length) (h64 : ks.length < 64)
    (h : ∀ D h' tk vs', (∀ b o, s.heap.get? b = some o → h'.get? b = some o) → h'.PlainList D vs'.toArray → s.heap.get? D = none → IntsAre vs' (sortI ks) → Q (.ref D) { s with heap := h', toks := tk }) :
    wpAny (model prog w) A (call (.builtin "sorted") [.ref a]) Q E s := by
  obtain ⟨ep, hat⟩ := g.dictAt
  have hz : (ks.zip vs).length = ks.length := by simp [hl]
  refine sorted_int_any hA h64 (fun {R} hR => kdu_collect (A := A.in1) (kdl_dict (knd := intKind prog w) (kvs := ks.zip vs) (ep := ep) ns) hA hat (by rw [hz, sizeLine_eq]; (clear hz hl; omega)) fun h' tk acc hk hacc => hR h' tk acc.toList hk (intsAre_of ?_ fun j v e => ?_)) h
  · rw [Array.length_toList, hacc.1, hz]
  · obtain ⟨k, x, hkx, hv⟩ := hacc.2 j v (by rw [← Array.getElem?_toList]; exact e)
    exact ⟨k, (List.getElem?_zip_eq_some.mp hkx).1, hv⟩

theorem sorted_list_ints {a : Addr} {is : List Int} {vs : List Value} {Q : Value → Shared → Prop} (hA : A.handled = none) (g : s.heap.PlainList a vs.toArray) (hI : IntsAre vs is) (h64 : is.length < 64)
    (h : ∀ D h' tk vs', (∀ b o, s.heap.get? b = some o → h'.get? b = some o) → h'.PlainList D vs'.toArray → s.heap.get? D = none → IntsAre vs' (sortI is) → Q (.ref D) { s with heap := h', toks := tk }) :
    wpAny (model prog w) A (call (.builtin "sorted") [.ref a]) Q E s := by
  have hlen := hI.length
  refine sorted_int_any hA h64 (fun {R} hR => collect_list g.isList (hR _ _ vs (fun b o e => ?_) hI) (by rw [sizeLine_eq]; omega)) h
  exact ((Heap.SameBut.update ..).2 b (Nat.ne_of_lt (Heap.lt_size e))).trans (Heap.get?_push_of_some _ e)

/-- what sorted gives -/
theorem sorted_fin {is : List Int} {Z : List AV → Prop} {Q : Value → Shared → Prop} (S : Sim prog w base ρ Φ H s.heap) (z : Z ((sortI is).map .int))
    (hQ : ∀ l u s', Z l → Go ρ ρ [] s s' → Sim prog w base ρ Φ H s'.heap → RV prog w s'.heap ρ Φ (.lst l) u → Q u s') :
    ∀ D h' tk vs', (∀ b o, s.heap.get? b = some o → h'.get? b = some o) → h'.PlainList D vs'.toArray → s.heap.get? D = none → IntsAre vs' (sortI is) → Q (.ref D) { s with heap := h', toks := tk } :=
  fun D h' tk vs' hk g hD hI => hQ _ _ _ z (.keep hk) (S.kept hk) ⟨D, vs', rfl, S.freshNone hD, g, RVs.of_ints hI⟩
theorem sorted_dict_ok {a : Addr} {ks : List Int} {l : List AV} {vs : List Value} {Z : List AV → Prop} {Q : Value → Shared → Prop} (hA : A.handled = none) (S : Sim prog w base ρ Φ H s.heap) (ns : (a == sysModules) = false) (g : s.heap.DictOf (intKind prog w) a (ks.zip vs)) (hl : ks.length = l.length)
    (r : RVs prog w s.heap ρ Φ l vs) (e : ks.length < 64 ∧ Z ((sortI ks).map .int))
    (hQ : ∀ l u s', Z l → Go ρ ρ [] s s' → Sim prog w base ρ Φ H s'.heap → RV prog w s'.heap ρ Φ (.lst l) u → Q u s') : wpAny (model prog w) A (call (.builtin "sorted") [.ref a]) Q E s :=
  sorted_dict_ints hA ns g (by rw [r.length, hl]) e.1 (sorted_fin S e.2 hQ)
end
end

-- Cs2
section
open PySem PySem.Calls PySem.W PyProof.Rows PySem.SeqAt
open Sem (wp)

section
variable {prog : Program} {w : World} {K : Frag} {base : Heap} {n : Nat} {C : Cx} {A : Around} {E : Value → Shared → Prop}
  {ρ ρ' Φ fp : List Addr} {env : Env} {sc : Names} {m m' : Loc} {H H' : HH} {s s' : Shared}

theorem tuple_lt_tree {x y : List Int} {vs us : List Value} {a b : Addr} {P : PySem.Fin → Shared → Prop} (ha : s.heap.IsTuple a vs.toArray) (hb : s.heap.IsTuple b us.toArray) (hx : IntsAre vs x) (hy : IntsAre us y) (h : P (.done (.ret (.bool (ltL x y)))) s) :
    wpAny (model prog w) A (Builtin.«tuple.__lt__» ⟨[.ref a, .ref b], []⟩) P E s := by
  have hTb : s.TypeIs (.ref b) "tuple" := by obtain ⟨o, e, c, k, d⟩ := hb; exact ⟨o, e, c⟩
  obtain ⟨oa, hoa, _, na, hda⟩ := ha
  obtain ⟨ob, hob, _, nb, hdb⟩ := hb
  show wpAny _ _ (isInstance (.ref b) (.type "tuple") >>= _) _ _ s
  refine wpAny_bind (wpAny_isInstance hTb isSubtype_tuple_tuple ?_)
  simp only [Bool.not_true, Bool.false_eq_true, if_false]
  refine wpAny_bind (wpAny_tupleItemsOf hoa hda ?_)
  refine wpAny_bind (wpAny_tupleItemsOf hob hdb ?_)
  refine wpAny_bind ?_
  refine wpAny_forIn_list _
    (fun rest r s' => r.1 = none ∧ s' = s ∧ ∃ x' y' vs' us', rest = List.zip vs' us' ∧ IntsAre vs' x' ∧ IntsAre us' y' ∧ ltL x' y' = ltL x y ∧ ((vs'.length < us'.length) ↔ (vs.length < us.length)))
    _ ?_ ?_ _ _ ⟨rfl, rfl, x, y, vs, us, by simp, hx, hy, rfl, Iff.rfl⟩
  · rintro ⟨u, v⟩ rest r s' ⟨hr, rfl, x', y', vs', us', hz, hx', hy', hl, hlen⟩
    cases hx' with
    | nil => simp at hz
    | cons p t hx' =>
      cases hy' with
      | nil => simp at hz
      | cons q t' hy' =>
        simp only [List.zip_cons_cons, List.cons.injEq, Prod.mk.injEq] at hz
        obtain ⟨⟨rfl, rfl⟩, rfl⟩ := hz
        refine wpAny_bind (wpAny_eqBool_int ?_)
        by_cases hpq : p = q
        · subst hpq
          simp only [beq_self_eq_true, Bool.not_true, Bool.false_eq_true, if_false]
          refine wpAny_pure ⟨rfl, rfl, _, _, _, _, rfl, hx', hy', ?_, by simpa using hlen⟩
          rw [← hl]
          simp [ltL]
        · have e : (p == q) = false := by simpa using hpq
          simp only [e, Bool.not_false, if_true]
          refine wpAny_bind (wpAny_rule (wpAny_bind ?_))
          refine (show wpAny (model prog w) A (compareOp .Lt (.int p t) (.int q t')) _ E _ from PyProof.Rows.lt_int ?_)
          refine wpAny_bind (wpAny_pure (wpAny_pure (wpAny_pure ?_)))
          have e2 : decide (p < q) = ltL x y := by rw [← hl]; simp [ltL, hpq]
          rw [e2]; exact h
  · rintro ⟨r1, r2⟩ s' ⟨hr, rfl, x', y', vs', us', hz, hx', hy', hl, hlen⟩
    simp only at hr
    subst hr
    refine wpAny_pure ?_
    have e : decide (vs.length < us.length) = ltL x y := by
      rw [← hl]
      cases hx' with
      | nil =>
        cases hy' with
        | nil => simp [ltL] at hlen ⊢; omega
        | cons q t' hy' => simp [ltL] at hlen ⊢; exact hlen
      | cons p t hx' =>
        cases hy' with
        | nil => simp [ltL] at hlen ⊢; omega
        | cons q t' hy' => simp at hz
    show P (.done (.ret (.bool (decide (vs.toArray.size < us.toArray.size))))) s'
    rw [List.size_toArray, List.size_toArray, e]
    exact h
theorem lt_tuples {x y : List Int} {vs us : List Value} {a b : Addr} {Q : Value → Shared → Prop} (hu : A.units < cLine) (ha : s.heap.IsTuple a vs.toArray) (hb : s.heap.IsTuple b us.toArray) (hx : IntsAre vs x) (hy : IntsAre us y) (h : Q (.bool (ltL x y)) s) :
    wpAny (model prog w) A (compareOp .Lt (.ref a) (.ref b)) Q E s := by
  have hTa : s.TypeIs (.ref a) "tuple" := by obtain ⟨o, e, c, k, d⟩ := ha; exact ⟨o, e, c⟩
  have hTb : s.TypeIs (.ref b) "tuple" := by obtain ⟨o, e, c, k, d⟩ := hb; exact ⟨o, e, c⟩
  exact wpAny_richCompare_same_room (op := .Lt) hTa hTb PySem.F.slot_tuple_lt
    (wpAny_call_entry PySem.F.slot_tuple_lt hTa PySem.F.entry_tuple_lt (tuple_lt_tree ha hb hx hy ⟨_, rfl, (fun e => nomatch e), h⟩) (PySem.F.args_tuple_lt_2 _ _)) hu

/-- a row, as it lies -/
noncomputable def IsRow (h : Heap) (v : Value) (r : Row) : Prop := ∃ t t2 tok vs, v = .ref t ∧ h.IsTuple t #[.ref t2, .int r.2 tok] ∧ h.IsTuple t2 (List.toArray vs) ∧ IntsAre vs r.1
noncomputable def RowsAre (h : Heap) : List Value → List Row → Prop
  | [], [] => True
  | v :: vs, r :: rs => IsRow h v r ∧ RowsAre h vs rs
  | _, _ => False
theorem RowsAre.length {h : Heap} : ∀ {vs : List Value} {rs : List Row}, RowsAre h vs rs → vs.length = rs.length
  | [], [], _ => rfl
  | v :: vs, r :: rs, z => by simp [RowsAre.length z.2]
  | [], _ :: _, z => z.elim
  | _ :: _, [], z => z.elim
theorem RowsAre.get {h : Heap} : ∀ {vs : List Value} {rs : List Row} {i : Nat}, RowsAre h vs rs → i < vs.length → IsRow h (vs.getD i .none) (rs.getD i ([], 0))
  | v :: vs, r :: rs, 0, z, _ => z.1
  | v :: vs, r :: rs, i + 1, z, hi => by
    have := RowsAre.get (i := i) z.2 (by simpa using hi)
    simpa using this
theorem IsTuple.keep {h h' : Heap} (hk : ∀ b o, h.get? b = some o → h'.get? b = some o) {a : Addr} {xs : Array Value} (z : h.IsTuple a xs) : h'.IsTuple a xs := by
  obtain ⟨o, e, c, d⟩ := z; exact ⟨o, hk _ _ e, c, d⟩
theorem IsRow.keep {h h' : Heap} (hk : ∀ b o, h.get? b = some o → h'.get? b = some o) {v : Value} {r : Row} : IsRow h v r → IsRow h' v r := fun ⟨t, t2, tok, vs, e, z1, z2, z3⟩ => ⟨t, t2, tok, vs, e, IsTuple.keep hk z1, IsTuple.keep hk z2, z3⟩
theorem RowsAre.keep {h h' : Heap} (hk : ∀ b o, h.get? b = some o → h'.get? b = some o) : ∀ {vs : List Value} {rs : List Row}, RowsAre h vs rs → RowsAre h' vs rs
  | [], [], _ => trivial
  | v :: vs, r :: rs, z => ⟨z.1.keep hk, RowsAre.keep hk z.2⟩
  | [], _ :: _, z => z.elim
  | _ :: _, [], z => z.elim
theorem ints_items : ∀ {vs : List Value} {xs : List Int}, IntsAre vs xs → ItemsAre (intKind prog w) xs vs
  | _, _, .nil => .nil
  | _, _, .cons a t r => .cons (by show Value.isInt a (.int a t) = true; simp [Value.isInt]) (ints_items r)
theorem ints_some (ks : List Int) : ints? (ks.map .int) = some ks := by
  induction ks with
  | nil => rfl
  | cons k ks ih =>
    show (some k).bind (fun i => (ints? (ks.map .int)).map (i :: ·)) = _
    rw [ih]; rfl
theorem ints_map : ∀ {l : List AV} {is : List Int}, ints? l = some is → l = is.map .int := by
  intro l
  induction l with
  | nil => intro is e; cases e; rfl
  | cons x l ih =>
    intro is e
    obtain ⟨i, js, rfl, e2, rfl⟩ := ints_e e
    rw [List.map_cons, ← ih e2]
theorem row_rv {v : Value} {r : Row} {h : Heap} (z : RV prog w h ρ Φ (rowA r) v) : IsRow h v r := by
  obtain ⟨t, us, rfl, f, ⟨k, g⟩, rr⟩ := z
  obtain ⟨u1, us1, rfl, r1, r2⟩ := rr
  obtain ⟨u2, us2, rfl, ⟨tok, rfl⟩, r3⟩ := r2
  cases r3
  obtain ⟨t2, ws, rfl, f2, ⟨k2, g2⟩, rw⟩ := r1
  exact ⟨t, t2, tok, ws, rfl, ⟨_, g, rfl, k, rfl⟩, ⟨_, g2, rfl, k2, rfl⟩, rw.ints (ints_some _)⟩

theorem ltL_irrefl : ∀ x : List Int, ltL x x = false
  | [] => rfl
  | a :: x => by simp [ltL, ltL_irrefl x]
theorem ask_rows {vs : List Value} {i j : Nat} {ri rj : Row} {C : Bool → Shared → Prop} {b : Bool} (hb : b = false) (hu : A.units + 2 < cLine) (hi : IsRow s.heap (vs.getD i .none) ri) (hj : IsRow s.heap (vs.getD j .none) rj) (h : C (ltR ri rj) s) :
    kas_ask prog w A (tuples' b) vs i j C s := by
  subst hb
  obtain ⟨t, t2, tok, us, e1, g1, g2, z1⟩ := hi
  obtain ⟨r, r2, tok', us', e2, f1, f2, z2⟩ := hj
  unfold kas_ask
  rw [e1, e2]
  obtain ⟨o, ho, hc, n, hd⟩ := g1
  obtain ⟨o', ho', hc', n', hd'⟩ := f1
  refine kat_lt ho hd ho' hd' ?_
  show KatLex prog w A false _ C [(Value.ref t2, Value.ref r2), (Value.int ri.2 tok, Value.int rj.2 tok')] 0 s
  obtain ⟨p, hp, pc, pn, pd⟩ := id g2
  obtain ⟨q, hq, qc, qn, qd⟩ := id f2
  refine kat_cons ?_
  have k1 : IsTupleKey (intKind prog w) s.heap ri.1 t2 := ⟨p, _, pn, hp, pc, pd, ints_items z1⟩
  have k2 : IsTupleKey (intKind prog w) s.heap rj.1 r2 := ⟨q, _, qn, hq, qc, qd, ints_items z2⟩
  refine wpAny_eqBool_tuple (by omega) k1 k2 ?_
  by_cases hx : ri.1 = rj.1
  · rw [decide_eq_true hx]
    refine kat_yes (kat_cons (wpAny_eqBool_int ?_))
    by_cases hn : ri.2 = rj.2
    · rw [show (ri.2 == rj.2) = true by simpa using hn]
      refine kat_yes (kat_nil ?_)
      have e : ltR ri rj = false := by unfold ltR; rw [hx, hn, ltL_irrefl]; simp
      rw [e] at h
      exact h
    · rw [show (ri.2 == rj.2) = false by simpa using hn]
      refine kat_no (kat_one _ _ (PyProof.Rows.lt_int ?_))
      have e : ltR ri rj = decide (ri.2 < rj.2) := by unfold ltR; rw [hx, ltL_irrefl]; simp
      rw [e] at h
      exact h
  · rw [decide_eq_false hx]
    refine kat_no (kat_one _ _ (lt_tuples (by (clear hx; omega)) g2 f2 z1 z2 ?_))
    have e : ltR ri rj = ltL ri.1 rj.1 := by unfold ltR; rw [decide_eq_false hx]; simp
    rw [e] at h
    exact h

theorem rows_tups : ∀ {vs : List Value} {rs : List Row}, RowsAre s.heap vs rs → ∃ fs : List Value, KatTups s.heap vs fs ∧ fs.length = vs.length ∧ ∀ v ∈ fs, Looks (model prog w) s.heap (typeOf v) (.type "tuple")
  | [], [], _ => ⟨[], trivial, rfl, fun v h => nomatch h⟩
  | v :: vs, r :: rs, z => by
    obtain ⟨fs, k1, k2, k3⟩ := rows_tups z.2
    obtain ⟨t, t2, tok, us, rfl, ⟨o, ho, hc, n, hd⟩, ⟨p, hp, pc, pn, pd⟩, z1⟩ := z.1
    refine ⟨.ref t2 :: fs, KatTups.cons ho hc hd rfl k1, by simp [k2], fun v hv => ?_⟩
    rcases List.mem_cons.mp hv with rfl | hv
    · rw [← pc]
      exact (show Looks (model prog w) s.heap (typeOf (.ref t2)) p.cls from (Looks.ld hp).andThen .now)
    · exact k3 v hv
  | [], _ :: _, z => z.elim
  | _ :: _, [], z => z.elim

theorem IsTuple.keepNe {h h' : Heap} {a : Addr} {o : Obj} (ho : h.get? a = some o) (hc : o.cls = .type "list") (hk : ∀ b o, b ≠ a → h.get? b = some o → h'.get? b = some o) {t : Addr} {xs : Array Value} (z : h.IsTuple t xs) : h'.IsTuple t xs := by
  obtain ⟨p, e, c, d⟩ := z
  refine ⟨p, hk t p (fun q => ?_) e, c, d⟩
  subst q
  rw [ho] at e
  cases e
  rw [hc] at c
  exact absurd c (by decide)
theorem RowsAre.keepNe {h h' : Heap} {a : Addr} {o : Obj} (ho : h.get? a = some o) (hc : o.cls = .type "list") (hk : ∀ b o, b ≠ a → h.get? b = some o → h'.get? b = some o) : ∀ {vs : List Value} {rs : List Row}, RowsAre h vs rs → RowsAre h' vs rs
  | [], [], _ => trivial
  | v :: vs, r :: rs, ⟨⟨t, t2, tok, us, e, z1, z2, z3⟩, z⟩ => ⟨⟨t, t2, tok, us, e, IsTuple.keepNe ho hc hk z1, IsTuple.keepNe ho hc hk z2, z3⟩, RowsAre.keepNe ho hc hk z⟩
  | [], _ :: _, z => z.elim
  | _ :: _, [], z => z.elim
theorem RowsAre.pick {h : Heap} {vs : List Value} {rs : List Row} (z : RowsAre h vs rs) : ∀ {is : List Nat}, (∀ i ∈ is, i < vs.length) → RowsAre h (is.map fun i => vs.getD i .none) (is.map fun i => rs.getD i ([], 0))
  | [], _ => trivial
  | i :: is, hi => ⟨z.get (hi i (.head _)), RowsAre.pick z fun j hj => hi j (.tail _ hj)⟩
theorem sort_below {n : Nat} (h : 0 < n) (lt : Nat → Nat → Bool) : ∀ i ∈ (kasRun lt (kas_sort n)).toList, i < n := by
  intro i hi
  have := (AsksP.run lt (ask_sort h)).toList.mem_iff (a := i)
  have := this.mp hi
  simpa using this
theorem sort_size {n : Nat} (h : 0 < n) (lt : Nat → Nat → Bool) : (kasRun lt (kas_sort n)).toList.length = n := by
  have := (AsksP.run lt (ask_sort h)).toList.length_eq
  simpa using this

/-- list.sort of rows -/
theorem sort_rows_tree {a : Addr} {vs : List Value} {rs : List Row} {n : Nat} {P : PySem.Fin → Shared → Prop} (hu : A.units + 2 < cLine) (ho : s.heap.get? a = some (seqObj "list" vs.toArray n)) (hr : RowsAre s.heap vs rs) (h2 : 2 ≤ vs.length) (h64 : vs.length < 64)
    (h : ∀ is : List Nat, (∀ i ∈ is, i < vs.length) → is.length = vs.length → kasSort ([], 0) ltR rs = (is.map fun i => rs.getD i ([], 0)) → P (.done (.ret .none)) { s with heap := sortedHeap s.heap a vs (is.map fun i => vs.getD i .none).toArray }) : wpAny (model prog w) A (Builtin.«list.sort» ⟨[.ref a], []⟩) P E s := by
  have hl := hr.length
  have ha : a < s.heap.objs.size := Heap.lt_size ho
  have s1 := Heap.SameBut.update s.heap a (Obj.mapSeq fun _ => (#[] : Array Value))
  obtain ⟨e1, ho1⟩ : ∃ e1, (s.heap.update a (Obj.mapSeq fun _ => (#[] : Array Value))).get? a = some (seqObj "list" #[] e1) := ⟨_, get?_update_seq ho fun _ => #[]⟩
  have hk : ∀ b o, b ≠ a → s.heap.get? b = some o → (((s.heap.update a (Obj.mapSeq fun _ => (#[] : Array Value))).push (seqObj "tuple" vs.toArray 0)).push (seqObj "list" #[] 0)).get? b = some o := fun b o hb e =>
    Heap.get?_push_of_some _ (Heap.get?_push_of_some _ ((s1.2 b hb).trans e))
  have hr3 := hr.keepNe ho rfl hk
  rw [list_sort_plain]
  refine wpAny_bind (listItems_at ho rfl ?_)
  refine wpAny_bind (listUpdate_at ho rfl ?_ (by rw [List.size_toArray, sizeLine_eq]; (clear ha hu hl h2; omega)) (Nat.zero_le _))
  refine wpAny_bind (seqEpoch_at ho1 rfl ?_)
  refine wpAny_bind (wpAny_newTuple ?_ (by show vs.length ≤ _; rw [sizeLine_eq]; (clear ha hu hl h2; omega)))
  refine wpAny_bind (wpAny_newList ?_ (Nat.zero_le _))
  refine wpAny_holding ?_
  show wpAny (model prog w) A _ P E { s with heap := ((s.heap.update a (Obj.mapSeq fun _ => (#[] : Array Value))).push (seqObj "tuple" vs.toArray 0)).push (seqObj "list" #[] 0) }
  dsimp only
  have hn2 : ¬ vs.toArray.size < 2 := by rw [List.size_toArray]; (clear ha hu hl h64; omega)
  rw [if_neg hn2, if_neg hn2]
  obtain ⟨fs, t1, t2, t3⟩ := rows_tups (prog := prog) (w := w) (s := { s with heap := ((s.heap.update a (Obj.mapSeq fun _ => (#[] : Array Value))).push (seqObj "tuple" vs.toArray 0)).push (seqObj "list" #[] 0) }) hr3
  refine wpAny_bind (kat_kind t1 (by (clear hn2 ha hu hl h64; omega)) t3 (by decide) ?_)
  have run := kat_run (prog := prog) (w := w) (A := A) (E := E) (ks := vs) (vs := vs) (κ := tuples' (Value.type "tuple" != Value.type "tuple"))
    (Q := fun st' s' => (arrOf st').map (·.2) = List.toArray ((kasRun (fun i j => ltR (rs.getD i ([], 0)) (rs.getD j ([], 0))) (kas_sort vs.length)).toList.map fun i => vs.getD i Value.none) ∧ failedOf st' = none ∧ s' = { s with heap := ((s.heap.update a (Obj.mapSeq fun _ => (#[] : Array Value))).push (seqObj "tuple" vs.toArray 0)).push (seqObj "list" #[] 0) })
    (G := fun p s' => p = kasRun (fun i j => ltR (rs.getD i ([], 0)) (rs.getD j ([], 0))) (kas_sort vs.length) ∧ s' = { s with heap := ((s.heap.update a (Obj.mapSeq fun _ => (#[] : Array Value))).push (seqObj "tuple" vs.toArray 0)).push (seqObj "list" #[] 0) })
    rfl h2 h64 (fun p st' s' a1 a2 a3 a4 => ⟨by rw [kat_snds rfl a2, a4.1], a3, a4.2⟩)
    (AsksP.wp (lt := fun i j => ltR (rs.getD i ([], 0)) (rs.getD j ([], 0))) (fun i j C hi hj c => ask_rows (by decide) hu (hr3.get hi) (hr3.get hj) c) (ask_sort (by (clear hn2 ha hu t2 hl h64; omega))) ⟨rfl, rfl⟩)
  refine wpAny_bind (wpAny_mono run ?_ fun _ _ e => e)
  rintro ⟨⟨⟩, st'⟩ s' ⟨hout, hf, rfl⟩
  dsimp only
  rw [hout]
  have ho3 : (((s.heap.update a (Obj.mapSeq fun _ => (#[] : Array Value))).push (seqObj "tuple" vs.toArray 0)).push (seqObj "list" #[] 0)).get? a = some (seqObj "list" #[] e1) := Heap.get?_push_of_some _ (Heap.get?_push_of_some _ ho1)
  refine wpAny_bind (seqEpoch_at ho3 rfl ?_)
  refine wpAny_bind (listUpdate_at ho3 rfl ?_ (Nat.zero_le _) (by rw [List.size_toArray, List.length_map, sort_size (by (clear hn2 ha hu t2 hl h64; omega)), sizeLine_eq]; (clear hn2 ha hu t2 hl h2; omega)))
  rw [hf]
  simp only [bne_self_eq_false, Bool.false_eq_true, if_false]
  refine wpAny_pure (h _ (sort_below (by (clear hn2 ha hu t2 hl h64; omega)) _) (sort_size (by (clear hn2 ha hu t2 hl h64; omega)) _) ?_)
  unfold kasSort
  rw [if_neg (by (clear hn2 ha hu t2 h64; omega)), hl]
/-- list.sort of none or one -/
theorem sort_few_tree {a : Addr} {vs : List Value} {n : Nat} {P : PySem.Fin → Shared → Prop} (ho : s.heap.get? a = some (seqObj "list" vs.toArray n)) (h2 : vs.length < 2)
    (h : P (.done (.ret .none)) { s with heap := sortedHeap s.heap a vs vs.toArray }) : wpAny (model prog w) A (Builtin.«list.sort» ⟨[.ref a], []⟩) P E s := by
  obtain ⟨e1, ho1⟩ : ∃ e1, (s.heap.update a (Obj.mapSeq fun _ => (#[] : Array Value))).get? a = some (seqObj "list" #[] e1) := ⟨_, get?_update_seq ho fun _ => #[]⟩
  rw [list_sort_plain]
  refine wpAny_bind (listItems_at ho rfl ?_)
  refine wpAny_bind (listUpdate_at ho rfl ?_ (by rw [List.size_toArray, sizeLine_eq]; omega) (Nat.zero_le _))
  refine wpAny_bind (seqEpoch_at ho1 rfl ?_)
  refine wpAny_bind (wpAny_newTuple ?_ (by show vs.length ≤ _; rw [sizeLine_eq]; omega))
  refine wpAny_bind (wpAny_newList ?_ (Nat.zero_le _))
  refine wpAny_holding ?_
  show wpAny (model prog w) A _ P E { s with heap := ((s.heap.update a (Obj.mapSeq fun _ => (#[] : Array Value))).push (seqObj "tuple" vs.toArray 0)).push (seqObj "list" #[] 0) }
  dsimp only
  have hn2 : vs.toArray.size < 2 := by rw [List.size_toArray]; omega
  rw [if_pos hn2, if_pos hn2]
  refine wpAny_bind (wpAny_pure ?_)
  refine wpAny_bind (wpAny_pure ?_)
  dsimp only
  have hout : (arrOf (SortSt.mk' general' (vs.toArray.zip vs.toArray) #[] 7 none)).map (·.2) = vs.toArray := by
    show (vs.toArray.zip vs.toArray).map (·.2) = vs.toArray
    apply Array.ext
    · simp
    · intro i h1 h2; simp
  rw [hout]
  have ho3 : (((s.heap.update a (Obj.mapSeq fun _ => (#[] : Array Value))).push (seqObj "tuple" vs.toArray 0)).push (seqObj "list" #[] 0)).get? a = some (seqObj "list" #[] e1) := Heap.get?_push_of_some _ (Heap.get?_push_of_some _ ho1)
  refine wpAny_bind (seqEpoch_at ho3 rfl ?_)
  refine wpAny_bind (listUpdate_at ho3 rfl ?_ (Nat.zero_le _) (by rw [List.size_toArray, sizeLine_eq]; (clear hn2; omega)))
  simp only [bne_self_eq_false, Bool.false_eq_true, if_false]
  exact wpAny_pure h
theorem row_e {x : AV} {r : Row} (e : row? x = some r) : x = rowA r := by
  obtain ⟨⟨a, b⟩, e1, e⟩ := Option.bind_eq_some_iff.mp e
  obtain ⟨l, e2, e⟩ := Option.bind_eq_some_iff.mp e
  obtain ⟨is, e3, e⟩ := Option.bind_eq_some_iff.mp e
  obtain ⟨i, e4, e⟩ := Option.map_eq_some_iff.mp e
  cases e
  cases tup?_some e2
  cases int?_some e4
  cases ints_map e3
  obtain ⟨q, e5, e6⟩ := Option.bind_eq_some_iff.mp e1
  cases tup?_some e5
  match q, e6 with
  | [_, _], e6 => cases e6; rfl
theorem rows_are {l : List AV} {vs : List Value} {h : Heap} (r : RVs prog w h ρ Φ l vs) : ∀ {rs : List Row}, rows? l = some rs → l = rs.map rowA ∧ RowsAre h vs rs := by
  refine RVs.rec' (P := fun l vs => ∀ {rs : List Row}, rows? l = some rs → l = rs.map rowA ∧ RowsAre h vs rs) (fun {rs} e => ?_) (fun x l v vs hv _ ih rs e => ?_) r
  · cases e; exact ⟨rfl, trivial⟩
  · obtain ⟨y, e1, e⟩ := Option.bind_eq_some_iff.mp e
    obtain ⟨ys, e2, e⟩ := Option.map_eq_some_iff.mp e
    cases e
    cases row_e e1
    obtain ⟨z1, z2⟩ := ih e2
    exact ⟨congrArg (rowA y :: ·) z1, row_rv hv, z2⟩
theorem RVs.pickD {h : Heap} {l : List AV} {vs : List Value} (r : RVs prog w h ρ Φ l vs) : ∀ {is : List Nat}, (∀ i ∈ is, i < vs.length) → RVs prog w h ρ Φ (is.map fun i => l.getD i .none) (is.map fun i => vs.getD i .none)
  | [], _ => rfl
  | i :: is, hi => by
    have h1 := hi i (.head _)
    obtain ⟨x, ex, rx⟩ := r.get' (List.getElem?_eq_getElem h1)
    refine ⟨_, _, rfl, ?_, RVs.pickD r fun j hj => hi j (.tail _ hj)⟩
    show RV prog w h ρ Φ (l.getD i .none) (vs.getD i .none)
    rw [List.getD_eq_getElem?_getD, ex, List.getD_eq_getElem?_getD, List.getElem?_eq_getElem h1]
    exact rx

theorem sort_any_tree {a : Addr} {vs : List Value} {rs : List Row} {n : Nat} {P : PySem.Fin → Shared → Prop} (hu : A.units + 2 < cLine) (ho : s.heap.get? a = some (seqObj "list" vs.toArray n)) (hr : RowsAre s.heap vs rs) (h64 : vs.length < 64)
    (h : ∀ is : List Nat, (∀ i ∈ is, i < vs.length) → is.length = vs.length → kasSort ([], 0) ltR rs = (is.map fun i => rs.getD i ([], 0)) → P (.done (.ret .none)) { s with heap := sortedHeap s.heap a vs (is.map fun i => vs.getD i .none).toArray }) : wpAny (model prog w) A (Builtin.«list.sort» ⟨[.ref a], []⟩) P E s := by
  rcases Nat.lt_or_ge vs.length 2 with h2 | h2
  · have hl := hr.length
    have e1 : ((List.range vs.length).map fun i => vs.getD i .none) = vs := by
      apply List.ext_getElem
      · simp
      · intro i h1 h2; simp at h1 ⊢; rw [List.getElem?_eq_getElem h1]; rfl
    have e2 : ((List.range vs.length).map fun i => rs.getD i ([], 0)) = rs := by
      apply List.ext_getElem
      · simp [hl]
      · intro i h1 h2; simp at h1 ⊢; rw [List.getElem?_eq_getElem h2]; rfl
    have := h (List.range vs.length) (fun i hi => by simpa using hi) (by simp) (by rw [e2]; unfold kasSort; rw [if_pos (by (clear hu h64; omega))])
    rw [e1] at this
    exact sort_few_tree ho h2 this
  · exact sort_rows_tree hu ho hr h2 h64 h
theorem sorted_rows_any {u : Value} {vs : List Value} {rs : List Row} {Q : Value → Shared → Prop} (hu : A.units + 4 < cLine) (h64 : vs.length < 64) (hr : RowsAre s.heap vs rs)
    (hcol : ∀ {R : List Value → Shared → Prop}, (∀ h' tk, (∀ b o, s.heap.get? b = some o → h'.get? b = some o) → R vs { s with heap := h', toks := tk }) → wpAny (model prog w) A.in1 (collect u) R E s)
    (h : ∀ D h' tk (is : List Nat), (∀ b o, s.heap.get? b = some o → h'.get? b = some o) → h'.PlainList D (is.map fun i => vs.getD i .none).toArray → s.heap.get? D = none → (∀ i ∈ is, i < vs.length) → kasSort ([], 0) ltR rs = (is.map fun i => rs.getD i ([], 0)) → Q (.ref D) { s with heap := h', toks := tk }) :
    wpAny (model prog w) A (call (.builtin "sorted") [u]) Q E s := by
  refine Calls.call_function_entry kind_sorted plain_sorted entry_sorted (args_sorted1 _) ?_
  unfold Builtin.«sorted»
  refine wpAny_bind (m := checkCount "sorted" 1 1 _) (wpAny_pure ?_)
  refine wpAny_bind (hcol fun h1 tk hk => ?_)
  refine wpAny_bind (wpAny_newList ?_ (by rw [sizeLine_eq]; (clear hu; omega)))
  have hoL : (h1.push (seqObj "list" vs.toArray 0)).get? h1.objs.size = some (seqObj "list" vs.toArray 0) := Heap.get?_push_size _ rfl
  have hr1 : RowsAre (h1.push (seqObj "list" vs.toArray 0)) vs rs := (hr.keep hk).keep fun b o e => Heap.get?_push_of_some _ e
  have hD : s.heap.get? h1.objs.size = none := by
    cases e : s.heap.get? h1.objs.size with
    | none => rfl
    | some o => exact absurd (Heap.lt_size (hk _ _ e)) (Nat.lt_irrefl _)
  refine wpAny_bind (wpAny_holding (wpAny_call_entry (s := { s with heap := h1.push (seqObj "list" vs.toArray 0), toks := tk }) slot_list_sort ⟨_, hoL, rfl⟩ entry_list_sort (sort_any_tree (by show A.units + 1 + 1 + 2 < cLine; (clear h64; omega)) hoL hr1 h64 fun is a1 a2 a3 => ⟨_, rfl, ?_⟩) (args_list_sort _)))
  obtain ⟨k, hat⟩ := sortedHeap_at (out := (is.map fun i => vs.getD i .none).toArray) hoL
  refine wpAny_pure ⟨_, rfl, h h1.objs.size _ tk is (fun b o e => ?_) ⟨k, hat⟩ hD a1 a3⟩
  have e1 := hk b o e
  exact sortedHeap_keep (by rw [size_push']; exact Nat.lt_succ_self _) b o (Nat.ne_of_lt (Heap.lt_size e1)) (Heap.get?_push_of_some _ e1)

theorem sorted_rows_list {a : Addr} {l : List AV} {rs : List Row} {vs : List Value} {Q : Value → Shared → Prop} (hA : Ok A n) (S : Sim prog w base ρ Φ H s.heap) (g : s.heap.PlainList a vs.toArray) (r : RVs prog w s.heap ρ Φ l vs) (h64 : l.length < 64) (e2 : rows? l = some rs)
    (hQ : ∀ u s', Go ρ ρ [] s s' → Sim prog w base ρ Φ H s'.heap → RV prog w s'.heap ρ Φ (.lst ((kasSort ([], 0) ltR rs).map rowA)) u → Q u s') : wpAny (model prog w) A (call (.builtin "sorted") [.ref a]) Q E s := by
  have hlen := r.length
  obtain ⟨el, hrows⟩ := rows_are r e2
  have hu := hA.units
  have hc : cLine = 9900 := rfl
  refine sorted_rows_any (by (clear hlen h64; omega)) (by (clear hc hu; omega)) hrows (fun {R} hR => collect_list g.isList (hR _ _ (fun b o e => ?_)) (by rw [sizeLine_eq]; (clear hc hu; omega))) fun D h' tk is hk gD hD hi hs => ?_
  · exact ((Heap.SameBut.update ..).2 b (Nat.ne_of_lt (Heap.lt_size e))).trans (Heap.get?_push_of_some _ e)
  · have S' : Sim prog w base ρ Φ H h' := S.kept hk
    have hfree : Free ρ Φ D := ⟨fun q => (by obtain ⟨o, e⟩ := S.live' q; rw [hD] at e; cases e), fun q => (by obtain ⟨o, e⟩ := S.live D q; rw [hD] at e; cases e)⟩
    have E1 : Ext ρ Φ s.heap ρ Φ h' := ⟨fun b o e _ => hk b o e, fun _ _ e => e, fun _ _ _ f => f⟩
    refine hQ _ _ (.keep hk) S' ⟨D, _, rfl, hfree, gD, ?_⟩
    have e3 : (kasSort ([], 0) ltR rs).map rowA = is.map fun i => l.getD i .none := by
      rw [hs, List.map_map]
      refine List.map_congr_left fun i him => ?_
      have hil : i < rs.length := by have := hi i him; rw [hrows.length] at this; exact this
      rw [el]
      simp only [Function.comp_apply, List.getD_eq_getElem?_getD, List.getElem?_map, List.getElem?_eq_getElem hil]
      rfl
    rw [e3]
    exact (r.mono E1).pickD hi
theorem sorted_seq_ok {a : Addr} {l : List AV} {vs : List Value} {Z : List AV → Prop} {Q : Value → Shared → Prop} (hA : Ok A n) (S : Sim prog w base ρ Φ H s.heap) (g : s.heap.PlainList a vs.toArray) (r : RVs prog w s.heap ρ Φ l vs) (e : l.length < 64 ∧ sortP l Z)
    (hQ : ∀ l u s', Z l → Go ρ ρ [] s s' → Sim prog w base ρ Φ H s'.heap → RV prog w s'.heap ρ Φ (.lst l) u → Q u s') : wpAny (model prog w) A (call (.builtin "sorted") [.ref a]) Q E s := by
  obtain ⟨h64, e⟩ := e
  rcases e with e | e
  · refine optP_e e fun is hi z => ?_
    have hI := r.ints hi
    exact sorted_list_ints hA.handled g hI (by rw [← hI.length, r.length]; exact h64) (sorted_fin S z hQ)
  · refine optP_e e fun rs hr z => ?_
    exact sorted_rows_list hA S g r h64 hr fun u s' => hQ _ u s' z
theorem sorted_ok {x : AV} {u : Value} {Z : List AV → Prop} {Q : Value → Shared → Prop} (hA : Ok A n) (S : Sim prog w base ρ Φ H s.heap) (r : RV prog w s.heap ρ Φ x u) (e : sortedP H x Z)
    (hQ : ∀ l u s', Z l → Go ρ ρ [] s s' → Sim prog w base ρ Φ H s'.heap → RV prog w s'.heap ρ Φ (.lst l) u → Q u s') : wpAny (model prog w) A (call (.builtin "sorted") [u]) Q E s := by
  cases x with
  | dct ks l =>
    obtain ⟨a, vs, rfl, f, g, hl, r, ns⟩ := r
    exact sorted_dict_ok hA.handled S ns g hl r e hQ
  | lst l =>
    obtain ⟨a, vs, rfl, f, g, r⟩ := r
    exact sorted_seq_ok hA S g r e hQ
  | obj i =>
    refine optP_e e fun o ho e => ?_
    obtain ⟨a, ea, rfl, ro⟩ := S.obj r ho
    cases o with
    | idict ks l =>
      obtain ⟨vs, g, hl, r⟩ := ro
      exact sorted_dict_ok hA.handled S (S.not_sys (List.mem_of_getElem? ea)) g hl r e hQ
    | list l =>
      obtain ⟨vs, g, r⟩ := ro
      exact sorted_seq_ok hA S g r e hQ
    | _ => exact e.elim
  | _ => exact e.elim
end
end

-- Cl5
section
open PySem PySem.Calls PySem.W PyProof.Rows PySem.SeqAt
open Sem (wp)

section
variable {prog : Program} {w : World} {K : Frag} {base : Heap} {n : Nat} {C : Cx} {A : Around} {E : Value → Shared → Prop}
  {ρ ρ' Φ fp : List Addr} {env : Env} {sc : Names} {m m' : Loc} {H H' : HH} {s s' : Shared}

variable (prog w base n) in
/-- where the run stands -/
structure Here (A : Around) (ρ Φ fp : List Addr) (env : Env) (sc : Names) (m : Loc) (H : HH) (s : Shared) : Prop where
  ok : Ok A n
  env : EnvOk prog w s.heap ρ Φ fp env sc m
  sim : Sim prog w base ρ Φ H s.heap

theorem Here.go (h : Here prog w base n A ρ Φ fp env sc m H s) (g : Go ρ ρ' [] s s') (S : Sim prog w base ρ' Φ H' s'.heap) : Here prog w base n A ρ' Φ fp env sc m H' s' := ⟨h.ok, h.env.go h.sim g, S⟩

variable (prog w base) in
/-- what follows a value -/
noncomputable def Gives (ρ Φ : List Addr) (s : Shared) (P : AV → HH → Prop) (Q : Value → Shared → Prop) : Prop := ∀ v H' ρ' u s', P v H' → Go ρ ρ' [] s s' → Sim prog w base ρ' Φ H' s'.heap → RV prog w s'.heap ρ' Φ v u → Q u s'
variable (prog w base) in
noncomputable def Tells (ρ Φ : List Addr) (s : Shared) (P : Bool → HH → Prop) (Q : Bool → Shared → Prop) : Prop := ∀ b H' ρ' s', P b H' → Go ρ ρ' [] s s' → Sim prog w base ρ' Φ H' s'.heap → Q b s'
variable (prog w base n) in
/-- the expression gives what the evaluator says -/
noncomputable def EvOk (C : Cx) (sc : Names) (e : Expr) : Prop :=
  ∀ {A : Around} {E : Value → Shared → Prop} {ρ Φ fp : List Addr} {env : Env} {m : Loc} {H : HH} {s : Shared} {P : AV → HH → Prop} {Q : Value → Shared → Prop},
    ev C sc false e m H P → Here prog w base n A ρ Φ fp env sc m H s → Gives prog w base ρ Φ s P Q → wpC (model prog w) A (eval e env) Q E s
variable (prog w base n) in
noncomputable def EvsOk (C : Cx) (sc : Names) (es : List Expr) : Prop :=
  ∀ {A : Around} {E : Value → Shared → Prop} {ρ Φ fp : List Addr} {env : Env} {m : Loc} {H : HH} {s : Shared} {P : List AV → HH → Prop} {pos : Pos} {Q : List Value → Shared → Prop},
    evs C sc es m H P → Here prog w base n A ρ Φ fp env sc m H s →
    (∀ l H' ρ' us s', P l H' → Go ρ ρ' [] s s' → Sim prog w base ρ' Φ H' s'.heap → RVs prog w s'.heap ρ' Φ l us → Q us s') → wpC (model prog w) A (spliced (backTo pos (starEach es env))) Q E s
variable (prog w base n) in
noncomputable def TestOk (C : Cx) (sc : Names) (e : Expr) : Prop :=
  ∀ {A : Around} {E : Value → Shared → Prop} {ρ Φ fp : List Addr} {env : Env} {m : Loc} {H : HH} {s : Shared} {P : Bool → HH → Prop} {Q : Bool → Shared → Prop},
    tst C sc e m H P → Here prog w base n A ρ Φ fp env sc m H s → Tells prog w base ρ Φ s P Q → wpC (model prog w) A (isTrue e env (eval e env)) Q E s

theorem not_starred {e : Expr} {P : AV → HH → Prop} (h : ev C sc false e m H P) {rest : List Expr} : starEach (e :: rest) env = (false, eval e env) :: starEach rest env := by
  cases e <;> first | rfl | exact h.elim

theorem wpC_release {vs keep : List Value} {M : Model} {Q : Unit → Shared → Prop} (h : Q () s) : wpC M A (release vs keep) Q E s := by
  unfold release
  have go : ∀ l : List Value, wpC M A (release.go keep l) Q E s := by
    intro l
    induction l with
    | nil => exact wpC_pure h
    | cons x r ih =>
      cases r with
      | nil => exact wpC_pure h
      | cons y r => exact wpC_bind (wpC_holding (wpC_point ih))
  exact go _
theorem wpC_operate {vs : List Value} {M : Model} {t : Sem Value} {Q : Value → Shared → Prop} (h : wpC M A t Q E s) : wpC M A (operate vs t) Q E s := by
  unfold operate
  exact wpC_bind (wpC_holding (wpC_mono h (fun r s' h' => wpC_bind (wpC_release (wpC_pure h'))) fun _ _ e => e))

theorem evs_nil : EvsOk prog w base n C sc [] := by
  intro A E ρ Φ fp env m H s P pos Q e h hQ
  exact wpC_pure (hQ [] H ρ [] s e .refl h.sim rfl)
theorem evs_cons {e : Expr} {es : List Expr} (h1 : EvOk prog w base n C sc e) (h2 : EvsOk prog w base n C sc es) : EvsOk prog w base n C sc (e :: es) := by
  intro A E ρ Φ fp env m H s P pos Q ev h hQ
  rw [not_starred ev]
  show wpC _ _ (do let v ← eval e env; let here ← pure [v]; return here ++ (← holding here (spliced (backTo pos (starEach es env))))) Q E s
  refine wpC_bind (h1 ev h fun v H1 ρ1 u s1 z g1 S1 r1 => wpC_bind (wpC_pure (wpC_bind (wpC_holding (h2 z (h.go g1 S1) fun l H2 ρ2 us s2 z g2 S2 r2 => wpC_pure ?_)))))
  exact hQ _ _ ρ2 (u :: us) s2 z (g1.trans g2) S2 (r2.cons (RV.mono g2.ext0 _ _ r1))
theorem evs_of {es : List Expr} (h : ∀ e ∈ es, EvOk prog w base n C sc e) : EvsOk prog w base n C sc es := by
  induction es with
  | nil => exact evs_nil
  | cons e es ih => exact evs_cons (h e (.head _)) (ih fun x hx => h x (List.mem_cons_of_mem _ hx))

theorem ev_Constant {c : Const} {k : Nat} {pos : Pos} : EvOk prog w base n C sc (.Constant c k pos) := by
  intro A E ρ Φ fp env m H s P Q e h hQ
  rw [arm_eval_Constant]
  cases c with
  | none => exact wpC_pure (hQ _ _ ρ _ s e .refl h.sim rfl)
  | bool b => exact wpC_pure (hQ _ _ ρ _ s e .refl h.sim rfl)
  | int i => exact wpC_of_any (wpAny_mkInt (hQ _ _ ρ _ _ e (.toks _) h.sim ⟨_, rfl⟩))
  | bytes b => exact fun _ _ _ _ _ => hQ _ _ ρ _ _ e (.toks _) h.sim ⟨_, rfl⟩
  | _ => exact e.elim

theorem ev_Name {x : Str} {pos : Pos} (C0 : CxOk prog w K base n C) : EvOk prog w base n C sc (.Name x pos) := by
  intro A E ρ Φ fp env m H s P Q e h hQ
  exact wpC_of_any (eval_name C0 h.env h.sim e fun v u z r => hQ v H ρ u s z .refl h.sim r)

theorem ev_Tuple {es : List Expr} {k : Nat} {pos : Pos} (h1 : EvsOk prog w base n C sc es) : EvOk prog w base n C sc (.Tuple es k pos) := by
  intro A E ρ Φ fp env m H s P Q e h hQ
  rw [arm_eval_Tuple]
  refine wpC_bind (wpC_standAt (wpC_bind (h1 e h fun l H1 ρ1 us s1 z g1 S1 r1 => wpC_of_any (wpAny_newTuple ?_ (fits_arr r1 z.1)))))
  exact hQ _ _ ρ1 _ _ z.2 (g1.trans (.push0 _ s1.toks)) (S1.push0 _) (rv_newTuple S1 r1)
theorem ev_List {es : List Expr} {pos : Pos} (h1 : EvsOk prog w base n C sc es) : EvOk prog w base n C sc (.List es pos) := by
  intro A E ρ Φ fp env m H s P Q e h hQ
  rw [arm_eval_List]
  refine wpC_bind (wpC_standAt (wpC_bind (h1 e h fun l H1 ρ1 us s1 z g1 S1 r1 => wpC_of_any (wpAny_newList ?_ (fits_arr r1 z.1)))))
  exact hQ _ _ ρ1 _ _ z.2 (g1.trans (.push0 _ s1.toks)) (S1.push0 _) (rv_newList S1 r1)

theorem ev_BinOp {l r : Expr} {op : Operator} {pos : Pos} (h1 : EvOk prog w base n C sc l) (h2 : EvOk prog w base n C sc r) : EvOk prog w base n C sc (.BinOp l op r pos) := by
  intro A E ρ Φ fp env m H s P Q e h hQ
  rw [arm_eval_BinOp]
  refine wpC_bind (h1 e h fun a H1 ρ1 u s1 z g1 S1 r1 => wpC_bind (wpC_holding (h2 z (h.go g1 S1) fun b H2 ρ2 v s2 z g2 S2 r2 => wpC_bind (wpC_standAt (wpC_operate (wpC_of_any ?_))))))
  exact bin_ok S2 (RV.mono g2.ext0 _ _ r1) r2 z fun c x s3 z g3 S3 r3 => hQ _ _ ρ2 x s3 z ((g1.trans g2).trans g3) S3 r3

theorem ev_Neg {x : Expr} {pos : Pos} (h1 : EvOk prog w base n C sc x) : EvOk prog w base n C sc (.UnaryOp .USub x pos) := by
  intro A E ρ Φ fp env m H s P Q e h hQ
  rw [arm_eval_UnaryOp]
  refine wpC_bind (h1 e h fun a H1 ρ1 u s1 z g1 S1 r1 => wpC_bind (wpC_standAt (wpC_holding (wpC_of_any (optP_e z fun i ei z => ?_)))))
  cases int?_some ei
  obtain ⟨t, rfl⟩ := r1
  exact neg_int (hQ _ _ ρ1 _ _ z (g1.trans (.toks _)) S1 ⟨_, rfl⟩)

theorem Gives.go {P : AV → HH → Prop} {Q : Value → Shared → Prop} (hQ : Gives prog w base ρ Φ s P Q) (g : Go ρ ρ' [] s s') : Gives prog w base ρ' Φ s' P Q := fun v H' ρ2 u s2 z g2 S r => hQ v H' ρ2 u s2 z (g.trans g2) S r
theorem Tells.go {P : Bool → HH → Prop} {Q : Bool → Shared → Prop} (hQ : Tells prog w base ρ Φ s P Q) (g : Go ρ ρ' [] s s') : Tells prog w base ρ' Φ s' P Q := fun v H' ρ2 s2 z g2 S => hQ v H' ρ2 s2 z (g.trans g2) S

theorem ev_IfExp {t b o : Expr} {pos : Pos} (h1 : TestOk prog w base n C sc t) (h2 : EvOk prog w base n C sc b) (h3 : EvOk prog w base n C sc o) : EvOk prog w base n C sc (.IfExp t b o pos) := by
  intro A E ρ Φ fp env m H s P Q e h hQ
  rw [arm_eval_IfExp]
  refine wpC_bind (h1 e h fun c H1 ρ1 s1 z g1 S1 => ?_)
  cases c with
  | true => exact h2 (z.1 rfl) (h.go g1 S1) (hQ.go g1)
  | false => exact h3 (z.2 rfl) (h.go g1 S1) (hQ.go g1)

theorem not_marked {op : CmpOp} {e : Expr} {P : AV → HH → Prop} (h : ev C sc false e m H P) {t : Sem Value} : markedBehindIn op e t = t := by
  refine markedBehindIn_of_false ?_
  cases e <;> first | rfl | exact h.elim

/-- the two sides, and what holds of the answer -/
theorem only_e {ops : List CmpOp} {rs : List Expr} {Z : CmpOp → Prop} {G : Prop} (h : onlyP ops rs Z) (k : ∀ op, ops = [op] → rs = [] → Z op → G) : G := by
  cases ops with
  | nil => exact h.elim
  | cons op ops =>
    refine ifT_e h fun h1 z => ?_
    obtain ⟨h1, h2⟩ := and_e h1
    cases List.isEmpty_iff.mp h1
    cases List.isEmpty_iff.mp h2
    exact k op rfl rfl z
theorem ev_Compare {l r : Expr} {op : CmpOp} {pos : Pos} (h1 : EvOk prog w base n C sc l) (h2 : EvOk prog w base n C sc r) : EvOk prog w base n C sc (.Compare l [op] [r] pos) := by
  intro A E ρ Φ fp env m H s P Q e h hQ
  have e : ev C sc false l m H fun a H => ev C sc false r m H fun b H => cmpP H op a b fun c => P (.bool c) H := e
  rw [eval_Compare1]
  refine wpC_bind (h1 e h fun a H1 ρ1 u s1 z g1 S1 r1 => ?_)
  rw [not_marked z]
  refine wpC_bind (wpC_holding (h2 z (h.go g1 S1) fun b H2 ρ2 v s2 z g2 S2 r2 => wpC_bind (wpC_standAt (wpC_operate (wpC_of_any ?_)))))
  exact cmp_ok h.ok S2 (RV.mono g2.ext0 _ _ r1) r2 z fun c t z => hQ _ _ ρ2 _ _ z ((g1.trans g2).trans (.toks t)) S2 rfl

theorem test_Compare {l r : Expr} {op : CmpOp} {pos : Pos} (h1 : EvOk prog w base n C sc l) (h2 : EvOk prog w base n C sc r) : TestOk prog w base n C sc (.Compare l [op] [r] pos) := by
  intro A E ρ Φ fp env m H s P Q e h hQ
  have e : ev C sc false l m H fun a H => ev C sc false r m H fun b H => cmpP H op a b fun c => P c H := e
  rw [isTrue_Compare1]
  refine wpC_bind (h1 e h fun a H1 ρ1 u s1 z g1 S1 r1 => ?_)
  rw [not_marked z]
  refine wpC_bind (wpC_holding (h2 z (h.go g1 S1) fun b H2 ρ2 v s2 z g2 S2 r2 => wpC_bind (wpC_standAt (wpC_bind (wpC_operate (wpC_of_any ?_))))))
  exact cmp_ok h.ok S2 (RV.mono g2.ext0 _ _ r1) r2 z fun c t z => wpC_holding (wpC_of_any (wpAny_truthy_bool (hQ _ _ ρ2 _ z ((g1.trans g2).trans (.toks t)) S2)))

theorem test_Not {x : Expr} {pos : Pos} (h1 : TestOk prog w base n C sc x) : TestOk prog w base n C sc (.UnaryOp .Not x pos) := by
  intro A E ρ Φ fp env m H s P Q e h hQ
  rw [arm_isTrue_UnaryOp]
  exact wpC_bind (h1 e h fun c H1 ρ1 s1 z g1 S1 => wpC_pure (hQ _ _ ρ1 s1 z g1 S1))
theorem test_IfExp {t b o : Expr} {pos : Pos} (h1 : TestOk prog w base n C sc t) (h2 : TestOk prog w base n C sc b) (h3 : TestOk prog w base n C sc o) : TestOk prog w base n C sc (.IfExp t b o pos) := by
  intro A E ρ Φ fp env m H s P Q e h hQ
  rw [arm_isTrue_IfExp]
  refine wpC_bind (h1 e h fun c H1 ρ1 s1 z g1 S1 => ?_)
  cases c with
  | true => exact h2 (z.1 rfl) (h.go g1 S1) (hQ.go g1)
  | false => exact h3 (z.2 rfl) (h.go g1 S1) (hQ.go g1)

variable (prog w base n) in
noncomputable def AllOk (C : Cx) (sc : Names) (op : BoolOp) (es : List Expr) : Prop :=
  ∀ {A : Around} {E : Value → Shared → Prop} {ρ Φ fp : List Addr} {env : Env} {m : Loc} {H : HH} {s : Shared} {P : Bool → HH → Prop} {Q : Bool → Shared → Prop},
    eva C sc op es m H P → Here prog w base n A ρ Φ fp env sc m H s → Tells prog w base ρ Φ s P Q → wpC (model prog w) A (allTrue op es env) Q E s
theorem all_of {op : BoolOp} {es : List Expr} (ht : ∀ e ∈ es, TestOk prog w base n C sc e) : AllOk prog w base n C sc op es := by
  induction es with
  | nil =>
    intro A E ρ Φ fp env m H s P Q e h hQ
    rw [arm_allTrue_nil]
    cases op with
    | And => exact wpC_pure (hQ _ _ ρ s e .refl h.sim)
    | Or => exact wpC_pure (hQ _ _ ρ s e .refl h.sim)
  | cons x es ih =>
    intro A E ρ Φ fp env m H s P Q e h hQ
    have ih : AllOk prog w base n C sc op es := ih fun y hy => ht y (List.mem_cons_of_mem _ hy)
    rw [arm_allTrue_cons]
    refine wpC_bind (ht x (.head _) e h fun c H1 ρ1 s1 z g1 S1 => ?_)
    cases op with
    | And => cases c with
      | true => exact ih (z.1 rfl) (h.go g1 S1) (hQ.go g1)
      | false => exact wpC_pure (hQ _ _ ρ1 s1 (z.2 rfl) g1 S1)
    | Or => cases c with
      | true => exact wpC_pure (hQ _ _ ρ1 s1 (z.1 rfl) g1 S1)
      | false => exact ih (z.2 rfl) (h.go g1 S1) (hQ.go g1)
theorem test_BoolOp {op : BoolOp} {es : List Expr} {pos : Pos} (h1 : AllOk prog w base n C sc op es) : TestOk prog w base n C sc (.BoolOp op es pos) := by
  intro A E ρ Φ fp env m H s P Q e h hQ
  rw [arm_isTrue_BoolOp]
  exact h1 e h hQ

theorem test_Name {x : Str} {pos : Pos} (C0 : CxOk prog w K base n C) : TestOk prog w base n C sc (.Name x pos) := by
  intro A E ρ Φ fp env m H s P Q e h hQ
  show wpC _ _ (do let v ← eval (.Name x pos) env; standAt pos; holding [v] (truthy v)) Q E s
  refine wpC_then (eval_name C0 h.env h.sim e fun v u z r => wpC_bind (wpC_standAt (wpC_holding (wpC_of_any ?_))))
  exact truth_ok h.sim r z fun c t z => hQ _ _ ρ _ z (.toks t) h.sim

variable (prog w base n) in
noncomputable def BoolOk (C : Cx) (sc : Names) (op : BoolOp) (es : List Expr) : Prop :=
  ∀ {A : Around} {E : Value → Shared → Prop} {ρ Φ fp : List Addr} {env : Env} {m : Loc} {H : HH} {s : Shared} {P : AV → HH → Prop} {pos : Pos} {Q : Value → Shared → Prop},
    evb C sc op es m H P → Here prog w base n A ρ Φ fp env sc m H s → Gives prog w base ρ Φ s P Q → wpC (model prog w) A (boolOp pos op (evalEach es env)) Q E s
theorem bool_of {op : BoolOp} {es : List Expr} (ht : ∀ e ∈ es, EvOk prog w base n C sc e) : BoolOk prog w base n C sc op es := by
  induction es with
  | nil => intro A E ρ Φ fp env m H s P pos Q e h hQ; exact e.elim
  | cons x es ih =>
    cases es with
    | nil => intro A E ρ Φ fp env m H s P pos Q e h hQ; exact ht x (.head _) e h hQ
    | cons y es =>
    intro A E ρ Φ fp env m H s P pos Q e h hQ
    have ih : BoolOk prog w base n C sc op (y :: es) := ih fun z hz => ht z (List.mem_cons_of_mem _ hz)
    show wpC _ _ (do
      let v ← eval x env
      standAt pos
      let t ← holding [v] (truthy v)
      match op, t with
      | .And, false | .Or, true => pure v
      | _, _ => boolOp pos op (evalEach (y :: es) env)) Q E s
    refine wpC_bind (ht x (.head _) e h fun a H1 ρ1 u s1 z g1 S1 r1 => wpC_bind (wpC_standAt (wpC_bind (wpC_holding (wpC_of_any (truth_ok S1 r1 z fun t tk z => ?_))))))
    have g1' := g1.trans (Go.toks (ρ := ρ1) (fp := []) (s := s1) tk)
    cases op with
    | And => cases t with
      | true => exact ih (z.1 rfl) (h.go g1' S1) (hQ.go g1')
      | false => exact wpC_pure (hQ _ _ ρ1 u _ (z.2 rfl) g1' S1 r1)
    | Or => cases t with
      | true => exact wpC_pure (hQ _ _ ρ1 u _ (z.1 rfl) g1' S1 r1)
      | false => exact ih (z.2 rfl) (h.go g1' S1) (hQ.go g1')
theorem ev_BoolOp {op : BoolOp} {es : List Expr} {pos : Pos} (h1 : BoolOk prog w base n C sc op es) : EvOk prog w base n C sc (.BoolOp op es pos) := by
  intro A E ρ Φ fp env m H s P Q e h hQ
  rw [arm_eval_BoolOp]
  exact h1 e h hQ

theorem ev_Attr {o x : Str} {p pos : Pos} (C0 : CxOk prog w K base n C) : EvOk prog w base n C sc (.Attribute (.Name o p) x pos) := by
  intro A E ρ Φ fp env m H s P Q e h hQ
  rw [arm_eval_Attribute]
  show wpC _ _ (eval (.Name o p) env >>= _) Q E s
  refine wpC_then (eval_name C0 h.env h.sim e fun a u z r => wpC_bind (wpC_standAt (wpC_bind (wpC_holding (wpC_of_any (attr_ok C0 h.sim r z fun y v t z r' => ?_))))))
  exact wpC_bind (wpC_pure (wpC_pure (hQ _ _ ρ v _ z (.toks t) h.sim r')))
end
end

-- Cl6
section
open PySem PySem.Calls PySem.W PyProof.Rows PySem.SeqAt
open Sem (wp)

section
variable {prog : Program} {w : World} {K : Frag} {base : Heap} {n : Nat} {C : Cx} {A : Around} {E : Value → Shared → Prop}
  {ρ ρ' Φ fp : List Addr} {env : Env} {sc : Names} {m m' : Loc} {H H' : HH} {s s' : Shared}

theorem byteArr_map (is : List Int) : byteArr is = ((is.map fun i => UInt8.ofNat i.toNat).toArray) := by
  simp [byteArr]

/-- one argument -/
theorem arg1_e {as : List AV} {us : List Value} {Z : AV → Prop} {G : Prop} (r : RVs prog w s.heap ρ Φ as us) (e : arg1 as Z) (k : ∀ v u, us = [u] → RV prog w s.heap ρ Φ v u → Z v → G) : G := by
  cases as with
  | nil => exact e.elim
  | cons v as => cases as with
    | cons _ _ => exact e.elim
    | nil =>
      obtain ⟨u, _, rfl, ru, rfl⟩ := r
      exact k v u rfl ru e
theorem arr_63 {l : List AV} {vs : List Value} (r : RVs prog w s.heap ρ Φ l vs) (h : fits l.length) : ((vs.toArray.size : Nat) : Int) < 2 ^ 63 := by
  rw [List.size_toArray, r.length]; exact fits_63 h
theorem len_ok {v : AV} {u : Value} {P : AV → HH → Prop} {Q : Value → Shared → Prop} (S : Sim prog w base ρ Φ H s.heap) (r : RV prog w s.heap ρ Φ v u) (e : lenP H v fun k => fits k ∧ P (.int k) H)
    (hQ : Gives prog w base ρ Φ s P Q) : wpAny (model prog w) A (call (.builtin "len") [u]) Q E s := by
  have fin : ∀ {k : Nat} {t : Tok} {n : Nat}, P (.int k) H → Q (.int k t) { s with toks := n } := fun {k t n} z => hQ _ _ ρ _ _ z (.toks _) S ⟨_, rfl⟩
  have seq : ∀ {l : List AV} {vs : List Value} {t : Tok} {n : Nat}, RVs prog w s.heap ρ Φ l vs → P (.int l.length) H → Q (.int vs.toArray.size t) { s with toks := n } := fun {l vs t n} r z => by
    rw [List.size_toArray, r.length]; exact fin z
  cases v with
  | bytes b =>
    obtain ⟨t, rfl⟩ := r
    exact len_bytes (by have := e.1; simp only [fits] at this; rw [List.size_toArray]; omega) (by rw [List.size_toArray]; exact fin e.2)
  | tup l =>
    obtain ⟨a, vs, rfl, f, ⟨k, g⟩, r⟩ := r
    exact PySem.P.len_tuple g (by have := arr_63 r e.1; omega) (seq r e.2)
  | lst l =>
    obtain ⟨a, vs, rfl, f, g, r⟩ := r
    exact call_len_list g.isList (arr_63 r e.1) (seq r e.2)
  | obj i =>
    refine optP_e e fun o ho z => ?_
    obtain ⟨a, ea, rfl, ro⟩ := S.obj r ho
    cases o with
    | list l =>
      obtain ⟨vs, g, r⟩ := ro
      exact call_len_list g.isList (arr_63 r z.1) (seq r z.2)
    | barr b =>
      refine ba_len ro (by rw [List.size_toArray]; exact fits_line z.1) fun t k => ?_
      rw [List.size_toArray]
      exact fin z.2
    | _ => exact z.elim
  | _ => exact e.elim

theorem builtin_ok {nm : String} {v : AV} {u : Value} {P : AV → HH → Prop} {Q : Value → Shared → Prop} (hA : Ok A n) (S : Sim prog w base ρ Φ H s.heap) (r : RV prog w s.heap ρ Φ v u) (e : builtinP H nm v P)
    (hQ : Gives prog w base ρ Φ s P Q) : wpC (model prog w) A (call (.builtin nm) [u]) Q E s := by
  refine ifP_e e (fun h y => ?_) fun _ z => ifP_e z (fun h y => ?_) fun _ z => ifT_e z fun h y => ?_
  · cases beq_iff_eq.mp h
    exact wpC_of_any (len_ok S r y hQ)
  · cases beq_iff_eq.mp h
    refine wpC_of_any (optP_e y fun i ei z => ?_)
    cases int?_some ei
    obtain ⟨t, rfl⟩ := r
    refine call_abs_int fun u tk => ?_
    have : (if i < 0 then -i else i) = (i.natAbs : Int) := by split <;> omega
    rw [this]
    exact hQ _ _ ρ _ _ z (.toks _) S ⟨_, rfl⟩
  · cases beq_iff_eq.mp h
    exact wpC_of_any (sorted_ok hA S r y fun l u s' z g S' r => hQ _ _ ρ u s' z g S' r)

theorem range_ok {as : List AV} {us : List Value} {P : AV → HH → Prop} {Q : Value → Shared → Prop} (S : Sim prog w base ρ Φ H s.heap) (r : RVs prog w s.heap ρ Φ as us) (e : rangeP as fun v => P v H)
    (hQ : Gives prog w base ρ Φ s P Q) : wpAny (model prog w) A (call (.type "range") us) Q E s := by
  rcases as with _ | ⟨a, _ | ⟨b, _ | ⟨c, as⟩⟩⟩
  · exact e.elim
  · obtain ⟨u, _, rfl, ru, rfl⟩ := r
    refine optP_e e fun i ei z => ?_
    cases int?_some ei
    obtain ⟨t, rfl⟩ := ru
    exact call_range_1 (hQ _ _ ρ _ _ z.2 (.push0 _ _) (S.push0 _) ⟨_, _, _, _, rfl, S.fresh, IsRange.new ..⟩)
  · exact optP_e e fun i ei z => optP_e z fun _ _ z => z.elim
  · obtain ⟨u, _, rfl, ru, u2, _, rfl, ru2, u3, _, rfl, ru3, rr⟩ := r
    refine optP_e e fun i ei z => optP_e z fun j ej z => optP_e z fun k ek z => ifT_e z fun hc z => ?_
    obtain ⟨h1, h2⟩ := and_e hc
    cases List.isEmpty_iff.mp h2
    cases rr
    cases int?_some ei
    cases int?_some ej
    cases int?_some ek
    cases beq_iff_eq.mp h1
    obtain ⟨t, rfl⟩ := ru
    obtain ⟨t2, rfl⟩ := ru2
    obtain ⟨t3, rfl⟩ := ru3
    exact call_range_3 (by decide) (hQ _ _ ρ _ _ z.2 (.push0 _ _) (S.push0 _) ⟨_, _, _, _, rfl, S.fresh, IsRange.new ..⟩) (.inl (PyProof.noPylong_small (by omega)))

theorem tuple_ok {v : AV} {u : Value} {P : AV → HH → Prop} {Q : Value → Shared → Prop} (S : Sim prog w base ρ Φ H s.heap) (r : RV prog w s.heap ρ Φ v u) (e : viewP H v fun l => fits l.length ∧ P (.tup l) H)
    (hQ : Gives prog w base ρ Φ s P Q) : wpAny (model prog w) A (call (.type "tuple") [u]) Q E s := by
  refine viewP_rv S e r fun l a vs z e2 g rr => ?_
  subst e2
  refine call_tuple_list g.isList (fun h' hk => ?_) (fits_arr rr z.1)
  have k2 : ∀ b o, s.heap.get? b = some o → (h'.push { cls := .type "tuple", data := .seq vs.toArray }).get? b = some o := fun b o e => Heap.get?_push_of_some _ (hk b o e)
  exact hQ _ _ ρ _ _ z.2 (.keep (t := s.toks) k2) (S.kept k2) (rv_newTuple (s := { s with heap := h' }) (S.kept hk) (rr.mono ⟨fun b o e _ => hk b o e, fun _ _ e => e, fun _ _ _ f => f⟩))
theorem list_ok {a : Addr} {T : String} {o : Obj} {vs : List Value} {k : Nat} {l : List AV} {P : AV → HH → Prop} {Q : Value → Shared → Prop} (S : Sim prog w base ρ Φ H s.heap) (hT : T = "list" ∨ T = "tuple") (ho : s.heap.get? a = some o) (hc : o.cls = .type T) (hd : o.data = .seq (List.toArray vs) k)
    (r : RVs prog w s.heap ρ Φ l vs) (e : fits l.length ∧ P (.lst l) H) (hQ : Gives prog w base ρ Φ s P Q) : wpAny (model prog w) A (call (.type "list") [.ref a]) Q E s :=
  call_list_seq a hT ho hc hd (fun h' c' hk ha => hQ _ _ ρ _ _ e.2 (.keep (t := s.toks) hk) (S.kept hk) ⟨_, vs, rfl, S.fresh, ⟨c', ha⟩, r.mono ⟨fun b o e _ => hk b o e, fun _ _ e => e, fun _ _ _ f => f⟩⟩) (fits_arr r e.1)

theorem barr_ok {P : AV → HH → Prop} {Q : Value → Shared → Prop} (hA : Ok A n) (S : Sim prog w base ρ Φ H s.heap) (e : newP H (.barr []) fun n H' => P (.obj n) H') (hQ : Gives prog w base ρ Φ s P Q) : wpC (model prog w) A (call (.type "bytearray") []) Q E s := by
  obtain ⟨k, rfl, H', rfl, z⟩ := e
  refine call_bytearray hA.guards fun h' a ha hl g hs => ?_
  subst ha
  have S1 : Sim prog w base (ρ ++ [s.heap.objs.size]) Φ (H ++ [.barr []]) (s.heap.push { cls := .type "bytearray", data := .bytearray #[] }) := S.push (Heap.get?_push_size _ rfl)
  have hi : (ρ ++ [s.heap.objs.size])[H.length]? = some s.heap.objs.size := by rw [← S.len, List.getElem?_append_right (Nat.le_refl _), Nat.sub_self]; rfl
  have S2 := S1.change (ao := .barr []) hi hs g
  have e2 : (H ++ [AO.barr []]).set H.length (.barr []) = H ++ [.barr []] := by rw [List.set_append_right _ _ (Nat.le_refl _), Nat.sub_self]; rfl
  rw [e2] at S2
  exact hQ _ _ (ρ ++ [s.heap.objs.size]) _ _ z ⟨Step.push.trans (S1.step_change hi hs ⟨_, g⟩), rfl, rfl⟩ S2 ⟨_, hi, rfl⟩

theorem bytes_ok {v : AV} {u : Value} {P : AV → HH → Prop} {Q : Value → Shared → Prop} (hA : Ok A n) (S : Sim prog w base ρ Φ H s.heap)
    (e : match v with
      | .obj i => optP H[i]? fun o => optP o.barr? fun b => fits b.length ∧ P (.bytes b) H
      | .lst l => optP (ints? l) fun is => (is.all isByte = true ∧ fits is.length) ∧ P (.bytes (is.map fun i => UInt8.ofNat i.toNat)) H
      | _ => False) (ru : RV prog w s.heap ρ Φ v u) (hQ : Gives prog w base ρ Φ s P Q) : wpAny (model prog w) A (call (.type "bytes") [u]) Q E s := by
  cases v with
  | obj i =>
    refine optP_e e fun o ho z => optP_e z fun b hb z => ?_
    cases barr?_some hb
    obtain ⟨a, ea, rfl, g⟩ := S.obj ru ho
    exact ba_bytes g (by rw [List.size_toArray]; exact fits_line z.1) fun t k => hQ _ _ ρ _ _ z.2 (.toks _) S ⟨_, rfl⟩
  | lst l =>
    refine optP_e e fun is hi z => ?_
    obtain ⟨a, vs, rfl, f, g, r⟩ := ru
    have hI := r.ints hi
    refine call_bytes_ints g.isList hI (fun k hk => of_decide_eq_true (List.all_eq_true.mp z.1.1 k hk)) (by rw [hI.length]; exact fits_line z.1.2) hA.handled fun h' t k hk => ?_
    rw [byteArr_map]
    exact hQ _ _ ρ _ _ z.2 (.keep hk) (S.kept hk) ⟨_, rfl⟩
  | _ => exact e.elim

theorem type_ok {nm : String} {as : List AV} {us : List Value} {P : AV → HH → Prop} {Q : Value → Shared → Prop} (hA : Ok A n) (S : Sim prog w base ρ Φ H s.heap) (r : RVs prog w s.heap ρ Φ as us) (e : typeP H nm as P)
    (hQ : Gives prog w base ρ Φ s P Q) : wpC (model prog w) A (call (.type nm) us) Q E s := by
  refine ifP_e e (fun h y => ?_) fun _ z => ifP_e z (fun h y => ?_) fun _ z => ifP_e z (fun h y => ?_) fun _ z => ifP_e z (fun h y => ?_) fun _ z => ifP_e z (fun h y => ?_) fun _ z => ifT_e z fun h y => ?_ <;> cases beq_iff_eq.mp h
  · refine wpC_of_any (arg1_e r y fun v u eu ru z => optP_e z fun i ei z => ?_)
    subst eu
    cases int?_some ei
    obtain ⟨t, rfl⟩ := ru
    exact call_int_int (hQ _ _ ρ _ s z .refl S ⟨_, rfl⟩)
  · exact wpC_of_any (range_ok S r y hQ)
  · refine wpC_of_any (arg1_e r y fun v u eu ru z => ?_)
    subst eu
    cases v with
    | tup l =>
      obtain ⟨a, vs, rfl, f, ⟨k, g⟩, r⟩ := id ru
      exact call_tuple_same (isTuple_of g) (hQ _ _ ρ _ s z .refl S ru)
    | _ => exact tuple_ok S ru z hQ
  · refine wpC_of_any (arg1_e r y fun v u eu ru z => ?_)
    subst eu
    have gen : viewP H v (fun l => fits l.length ∧ P (.lst l) H) → wpAny (model prog w) A (call (.type "list") [u]) Q E s := fun z => viewP_rv S z ru fun l a vs z e2 g rr => by
      subst e2
      obtain ⟨k, g⟩ := g
      exact list_ok S (.inl rfl) g rfl rfl rr z hQ
    cases v with
    | tup l =>
      obtain ⟨a, vs, rfl, f, ⟨k, g⟩, r⟩ := ru
      exact list_ok S (.inr rfl) g rfl rfl r z hQ
    | _ => exact gen z
  · refine ifT_e y fun h2 y => ?_
    cases List.isEmpty_iff.mp h2
    cases r
    exact barr_ok hA S y hQ
  · refine wpC_of_any (arg1_e r y fun v u eu ru z => ?_)
    subst eu
    exact bytes_ok hA S z ru hQ

theorem callB_ok {f : Value} {as : List AV} {us : List Value} {P : AV → HH → Prop} {Q : Value → Shared → Prop} (hA : Ok A n) (S : Sim prog w base ρ Φ H s.heap) (ras : RVs prog w s.heap ρ Φ as us) (e : callB H f as P)
    (hQ : Gives prog w base ρ Φ s P Q) : wpC (model prog w) A (call f us) Q E s := by
  cases f with
  | builtin nm =>
    refine arg1_e ras e fun v u eu ru z => ?_
    subst eu
    exact builtin_ok hA S ru z hQ
  | type nm => exact type_ok hA S ras e hQ
  | _ => exact e.elim
end
end

-- Cl7
section
open PySem PySem.Calls PySem.W PyProof.Rows PySem.SeqAt
open Sem (wp)

section
variable {prog : Program} {w : World} {K : Frag} {base : Heap} {n : Nat} {C : Cx} {A : Around} {E : Value → Shared → Prop}
  {ρ ρ' Φ fp : List Addr} {env : Env} {sc : Names} {m m' : Loc} {H H' : HH} {s s' : Shared}

/-- what is to be found of a bytes object in a list of them -/
theorem octets_get : ∀ {ls : List (List UInt8)} {ts : List Tok} (i : Nat) (hi : i < ((ls.zip ts).map fun p => Value.bytes p.1.toArray p.2).length) (b : List UInt8), bytesIs b (((ls.zip ts).map fun p => Value.bytes p.1.toArray p.2)[i]) = (ls.getD i [] == b)
  | [], ts, i, hi, b => by cases hi
  | _ :: _, [], i, hi, b => by cases hi
  | l :: ls, t :: ts, 0, hi, b => bytesIs_eq _ _ _
  | l :: ls, t :: ts, i + 1, hi, b => octets_get (ls := ls) (ts := ts) i (Nat.lt_of_succ_lt_succ hi) b

theorem index_ok {a : Addr} {vs : List Value} {l : List AV} {ls : List (List UInt8)} {b : List UInt8} {t : Tok} {Q : Value → Shared → Prop} (g : s.heap.PlainList a vs.toArray) (r : RVs prog w s.heap ρ Φ l vs) (e : bytess? l = some ls)
    (hany : ls.any (· == b) = true) (hf : fits ls.length) (hQ : ∀ u k, Q (.int (ls.findIdx (· == b)) u) { s with toks := k }) : wpAny (model prog w) A (call (.builtin "list.index") [.ref a, .bytes b.toArray t]) Q E s := by
  obtain ⟨ts, rfl, hl⟩ := r.octets e
  obtain ⟨k, g⟩ := g
  have hlt : ls.findIdx (· == b) < ls.length := List.findIdx_lt_length.mpr (by
    obtain ⟨x, hx, hb⟩ := List.any_eq_true.mp hany
    exact ⟨x, hx, hb⟩)
  have hsz : ((ls.zip ts).map fun p => Value.bytes p.1.toArray p.2).toArray.size = ls.length := by simp [hl]
  refine call_meets PySem.F.slot_list_index ⟨_, g, rfl⟩ PySem.F.entry_list_index (PySem.F.args_list_index_2 _ _)
    (list_indexAt a _ k none #[] (.bytes b.toArray t) (bytesIs b) (ls.findIdx (· == b)) (by rw [hsz]; exact hlt) ?_ ?_ ?_) ⟨g, fun y hy => ?_, hQ _ _⟩
  · have := fits_63 hf; simp only [fits] at hf; (clear this hsz hl; omega)
  · rw [List.getElem_toArray, octets_get]
    have : ls.getD (ls.findIdx (· == b)) [] = ls[ls.findIdx (· == b)] := by rw [List.getD_eq_getElem?_getD, List.getElem?_eq_getElem hlt]; rfl
    rw [this]
    exact List.findIdx_getElem (w := hlt)
  · intro i hi hlt2
    rw [List.getElem_toArray, octets_get]
    have hi' : i < ls.length := by (clear hlt2 hlt hl; omega)
    have : ls.getD i [] = ls[i] := by rw [List.getD_eq_getElem?_getD, List.getElem?_eq_getElem hi']; rfl
    rw [this]
    exact List.not_of_lt_findIdx hlt2
  · obtain ⟨p, hp, rfl⟩ := List.mem_map.mp (List.mem_toArray.mp hy)
    have : bytesIs b (.bytes p.1.toArray p.2) = (p.1 == b) := by simp [bytesIs]
    rw [this]
    exact eqAt_bytes _ _ _ _

/-- a method's name, looked up -/
noncomputable def IsMeth (t : Option Addr) (x : Str) (f : Value) : Prop := match t with
  | some a => f = .ref a
  | none => ∃ nm, f = .builtin nm ∧ (x, nm) ∈ [(("append" : Str), "list.append"), ("index", "list.index"), ("extend", "bytearray.extend"), ("join", "bytes.join")]
theorem own_bound {a Cl dx : Addr} {ks : List Str} {vs : List Value} {x : Str} {pl : Sem Bool} {P : Option Addr → Prop} {Q : Value × List Value → Shared → Prop} (C0 : CxOk prog w K base n C) (S : Sim prog w base ρ Φ H s.heap) (I : InstOk s.heap a Cl dx ks vs)
    (e : ifP (ks.any (· == x)) False (optP (C.meth Cl x) fun f => P (some f))) (hQ : ∀ t f, P t → IsMeth t x f → Q (f, [.ref a]) s) : wpAny (model prog w) A (getMethod (.ref a) x pl) Q E s := by
  refine ifF_e e fun hx e => optP_e e fun f ef z => ?_
  refine own_method (S.kin C0.kin) I (C0.meth _ _ _ ef) (fun m => ?_) (hQ (some f) _ z rfl)
  rw [List.any_eq_false] at hx
  exact hx x m (beq_self_eq_true x)
theorem list_bound {a : Addr} {vs : List Value} {x : Str} {pl : Sem Bool} {P : Option Addr → Prop} {Q : Value × List Value → Shared → Prop} (g : s.heap.PlainList a vs.toArray)
    (e : ifP (x == "append" || x == "index") (P none) False) (hQ : ∀ t f, P t → IsMeth t x f → Q (f, [.ref a]) s) : wpAny (model prog w) A (getMethod (.ref a) x pl) Q E s := by
  refine ifT_e e fun hx z => ?_
  obtain ⟨k, g⟩ := g
  rcases (Bool.or_eq_true ..).mp hx with hx | hx <;> cases beq_iff_eq.mp hx
  · exact getMethod_builtin ⟨_, g, rfl⟩ PySem.F.plainAttrs_list slot_list_append type_list_append (fun b e => by cases e; exact ⟨_, g, rfl⟩) (hQ none _ z ⟨_, rfl, .head _⟩)
  · exact getMethod_builtin ⟨_, g, rfl⟩ PySem.F.plainAttrs_list PySem.F.slot_list_index PySem.F.type_list_index (fun b e => by cases e; exact ⟨_, g, rfl⟩) (hQ none _ z ⟨_, rfl, .tail _ (.head _)⟩)
theorem bind_ok {o : AV} {u : Value} {x : Str} {pl : Sem Bool} {P : Option Addr → Prop} {Q : Value × List Value → Shared → Prop} (C0 : CxOk prog w K base n C) (S : Sim prog w base ρ Φ H s.heap) (r : RV prog w s.heap ρ Φ o u) (e : bindP C H o x P)
    (hQ : ∀ t f, P t → IsMeth t x f → Q (f, [u]) s) : wpAny (model prog w) A (getMethod u x pl) Q E s := by
  cases o with
  | ins Cl ks l =>
    obtain ⟨a, dx, vs, rfl, fr, fd, g, hns, r⟩ := r
    exact own_bound C0 S ⟨g, hns⟩ e hQ
  | obj i =>
    refine optP_e e fun o ho z => ?_
    obtain ⟨a, ea, rfl, ro⟩ := S.obj r ho
    cases o with
    | inst Cl d =>
      refine optP_e z fun o hd z => optP_e z fun q hq z => ?_
      cases ns?_some hq
      obtain ⟨dx, ed, g⟩ := ro
      obtain ⟨vs, hns, r⟩ := S.rep _ _ _ ed hd
      exact own_bound C0 S ⟨g, hns⟩ z hQ
    | list l =>
      obtain ⟨vs, g, r⟩ := ro
      exact list_bound g z hQ
    | barr b =>
      refine ifT_e z fun hx z => ?_
      cases beq_iff_eq.mp hx
      exact getMethod_builtin ⟨_, ro, rfl⟩ ba_plainAttrs ba_slot_extend ba_type_extend (fun b e => by cases e; exact ⟨_, ro, rfl⟩) (hQ none _ z ⟨_, rfl, .tail _ (.tail _ (.head _))⟩)
    | _ => exact z.elim
  | lst l =>
    obtain ⟨a, vs, rfl, f, g, r⟩ := r
    refine ifT_e e fun hx z => list_bound g (P := P) ?_ hQ
    rw [hx, Bool.or_true]
    exact z
  | bytes b =>
    obtain ⟨t, rfl⟩ := r
    refine ifT_e e fun hx z => ?_
    cases beq_iff_eq.mp hx
    exact getMethod_builtin (typeIs_bytes _ _ _) FB.plainAttrs_bytes by_slot_join by_type_join (fun b e => nomatch e) (hQ none _ z ⟨_, rfl, .tail _ (.tail _ (.tail _ (.head _)))⟩)
  | _ => exact e.elim

theorem call_fn {a : Addr} {as : List AV} {us : List Value} {P : AV → HH → Prop} {Q : Value → Shared → Prop} (C0 : CxOk prog w K base n C) (hA : Ok A n) (S : Sim prog w base ρ Φ H s.heap) (ras : RVs prog w s.heap ρ Φ as us) (e : C.call a as H P)
    (hQ : Gives prog w base ρ Φ s P Q) : wpC (model prog w) A (call (.ref a) us) Q E s :=
  wpC_call (C0.call e hA S ras fun v H' u s' z g S' r => hQ v H' ρ u s' z g S' r)

theorem meth_of_name {x : Str} {nm nm' : String} (h : (x, nm) ∈ [(("append" : Str), "list.append"), ("index", "list.index"), ("extend", "bytearray.extend"), ("join", "bytes.join")]) (h' : [(("append" : Str), "list.append"), ("index", "list.index"), ("extend", "bytearray.extend"), ("join", "bytes.join")].lookup x = some nm') : nm = nm' := by
  rcases List.mem_cons.mp h with h | h
  · cases h; exact Option.some.inj h'
  rcases List.mem_cons.mp h with h | h
  · cases h; exact Option.some.inj h'
  rcases List.mem_cons.mp h with h | h
  · cases h; exact Option.some.inj h'
  rcases List.mem_cons.mp h with h | h
  · cases h; exact Option.some.inj h'
  cases h
theorem meth_is {x : Str} {f : Value} {nm : String} (hf : IsMeth none x f) (h : [(("append" : Str), "list.append"), ("index", "list.index"), ("extend", "bytearray.extend"), ("join", "bytes.join")].lookup x = some nm) : f = .builtin nm := by
  obtain ⟨nm', rfl, hm⟩ := hf
  rw [meth_of_name hm h]

theorem idx_ok {a : Addr} {vs : List Value} {l : List AV} {v : AV} {u : Value} {P : AV → HH → Prop} {Q : Value → Shared → Prop} (S : Sim prog w base ρ Φ H s.heap) (g : s.heap.PlainList a vs.toArray) (r : RVs prog w s.heap ρ Φ l vs) (r2 : RV prog w s.heap ρ Φ v u)
    (e : indexP l v fun k => P (.int k) H) (hQ : Gives prog w base ρ Φ s P Q) : wpAny (model prog w) A (call (.builtin "list.index") [.ref a, u]) Q E s := by
  refine optP_e e fun b hb z => optP_e z fun ls hl z => ?_
  cases bytes?_some hb
  obtain ⟨t, rfl⟩ := r2
  exact index_ok g r hl z.1.1 z.1.2 fun u k => hQ _ _ ρ _ _ z.2 (.toks _) S ⟨_, rfl⟩

theorem meth_ok {o v : AV} {u u2 f : Value} {x : Str} {P : AV → HH → Prop} {Q : Value → Shared → Prop} (hA : Ok A n) (S : Sim prog w base ρ Φ H s.heap) (ro : RV prog w s.heap ρ Φ o u) (r2 : RV prog w s.heap ρ Φ v u2) (hf : IsMeth none x f) (e : methB H o x v P)
    (hQ : Gives prog w base ρ Φ s P Q) : wpC (model prog w) A (call f [u, u2]) Q E s := by
  cases o with
  | obj i =>
    refine optP_e e fun o ho z => ?_
    obtain ⟨a, ea, rfl, ro⟩ := S.obj ro ho
    cases o with
    | list l =>
      obtain ⟨vs, g, r⟩ := ro
      refine ifP_e z (fun hx y => ?_) fun _ y => ifT_e y fun hx y => ?_ <;> cases beq_iff_eq.mp hx
      · cases meth_is hf rfl
        refine wpC_of_any (wpAny_list_append_plain g (fun h' g' hs => ?_) (fits_arr r y.1))
        have g2 : h'.PlainList a (vs ++ [u2]).toArray := by rw [← List.push_toArray]; exact g'
        exact turns_of (Z := fun H' => P .none H') (Q := fun _ s' => Q .none s') S y.2 (fun H' s' z g S' => hQ _ _ ρ _ s' z g S' rfl) h' s.toks a ea hs fun X => ⟨vs ++ [u2], g2, (r.mono X).append (RVs.one (RV.mono X _ _ r2))⟩
      · cases meth_is hf rfl
        exact wpC_of_any (idx_ok S g r r2 y hQ)
    | barr b =>
      refine ifT_e z fun hx z => optP_e z fun c hc z => ?_
      cases beq_iff_eq.mp hx
      cases bytes?_some hc
      cases meth_is hf rfl
      obtain ⟨t, rfl⟩ := r2
      refine wpC_call (ba_extend hA.guards ro (by rw [List.append_toArray, List.size_toArray]; exact fits_line z.1) fun h' g' hs => ?_)
      rw [List.append_toArray] at g'
      exact turns_of (Z := fun H' => P .none H') (Q := fun _ s' => Q .none s') S z.2 (fun H' s' z g S' => hQ _ _ ρ _ s' z g S' rfl) h' s.toks a ea hs fun X => g'
    | _ => exact z.elim
  | lst l =>
    refine ifT_e e fun hx z => ?_
    cases beq_iff_eq.mp hx
    cases meth_is hf rfl
    obtain ⟨a, vs, rfl, fr, g, r⟩ := ro
    exact wpC_of_any (idx_ok S g r r2 z hQ)
  | bytes b =>
    refine ifT_e e fun hx z1 => optP_e z1 fun l hl z2 => optP_e z2 fun ls hls y => ?_
    obtain ⟨h1, hx⟩ := and_e hx
    cases List.isEmpty_iff.mp h1
    cases beq_iff_eq.mp hx
    cases lst?_some hl
    cases meth_is hf rfl
    obtain ⟨t, rfl⟩ := ro
    obtain ⟨a, vs, rfl, fr, g, r⟩ := r2
    obtain ⟨ts, rfl, hl⟩ := r.octets hls
    exact wpC_of_any (by_join g hl y.1.1 fun u k => hQ _ _ ρ _ _ y.2 (.toks _) S ⟨_, rfl⟩)
  | _ => exact e.elim

theorem apply_ok {o : AV} {u f : Value} {x : Str} {t : Option Addr} {as : List AV} {us : List Value} {P : AV → HH → Prop} {Q : Value → Shared → Prop} (C0 : CxOk prog w K base n C) (hA : Ok A n) (S : Sim prog w base ρ Φ H s.heap) (ro : RV prog w s.heap ρ Φ o u)
    (ras : RVs prog w s.heap ρ Φ as us) (hf : IsMeth t x f) (e : applyP C H t o x as P)
    (hQ : Gives prog w base ρ Φ s P Q) : wpC (model prog w) A (call f (u :: us)) Q E s := by
  cases t with
  | some a =>
    cases hf
    exact call_fn C0 hA S (ras.cons ro) e hQ
  | none =>
    refine arg1_e ras e fun v u2 eu r2 z => ?_
    subst eu
    exact meth_ok hA S ro r2 hf z hQ
end
end

-- Cl8
section
open PySem PySem.Calls PySem.W PyProof.Rows PySem.SeqAt
open Sem (wp)

section
variable {prog : Program} {w : World} {K : Frag} {base : Heap} {n : Nat} {C : Cx} {A : Around} {E : Value → Shared → Prop}
  {ρ ρ' Φ fp : List Addr} {env : Env} {sc : Names} {m m' : Loc} {H H' : HH} {s s' : Shared}

theorem wpC_keep {α : Type} {M : Model} {vs : List Value} {t : Sem α} {Q : α → Shared → Prop} (h : wpC M A t Q E s) : wpC M A (t.keep vs) Q E s := fun Γ p hΓ h1 h2 => by rw [Sem.wp_keep]; exact h Γ p hΓ h1 h2

variable (prog w) in
/-- who keeps the arguments is known -/
noncomputable def KeepOk (h : Heap) (f : Value) : Prop := ∃ k, (k = Keeper.frame ∨ k = Keeper.machine ∨ k = Keeper.boundFrame) ∧ Looks (model prog w) h (keeperOf f) k
theorem KeepOk.builtin {h : Heap} (i : String) : KeepOk prog w h (.builtin i) := ⟨.machine, .inr (.inl rfl), .now⟩
theorem KeepOk.type {h : Heap} (i : String) : KeepOk prog w h (.type i) := ⟨.machine, .inr (.inl rfl), .now⟩
theorem KeepOk.own {h : Heap} {f : Value} (X : K.In h) (e : keepIn K f = true) : KeepOk prog w h f := keeps_K e h X

theorem callWith_tail {pos : Pos} {f : Value} {first us : List Value} {args : List (Bool × Sem Value)} {Q : Value → Shared → Prop} (hp : args.any (·.1) = false)
    (hk : KeepOk prog w s.heap f) (h : wpC (model prog w) A (call f (first ++ us)) Q E s) :
    wpC (model prog w) A (do
      standAt pos
      let starred := args.any (·.1) || ([] : List (Option Str × Sem Value)).any (·.1.isNone)
      let pos := first ++ us
      let r ← match ← keeperOf f, starred with
        | .frame, true => callMarked starredCall f pos []
        | .frame, false => if args.length + 2 * ([] : List (Option Str × Sem Value)).length > 30 then call f pos [] else callMarked plainCall f pos []
        | .boundFrame, false => if args.length + 2 * ([] : List (Option Str × Sem Value)).length > 30 then call f pos [] else callMarked callOfAMethodObject f pos []
        | .machine, false => call f pos []
        | _, _ => operate (f :: (if starred then pos.reverse else pos) ++ ([] : List (Str × Value)).map (·.2)) (call f pos [])
      holding [r] point
      pure r) Q E s := by
  obtain ⟨k, hk', L⟩ := hk
  refine wpC_bind (wpC_standAt ?_)
  simp only [hp, List.any_nil, Bool.or_false]
  refine wpC_then (L.here ?_)
  have tail : ∀ {t : Sem Value}, wpC (model prog w) A t Q E s → wpC (model prog w) A (t >>= fun r => holding [r] point >>= fun _ => pure r) Q E s :=
    fun ht => wpC_bind (wpC_mono ht (fun r s₂ hr => wpC_bind (wpC_holding (wpC_point (wpC_pure hr)))) fun _ _ x => x)
  have marked (mk : Value) : wpC (model prog w) A (callMarked mk f (first ++ us) []) Q E s := by unfold callMarked; exact wpC_keep h
  rcases hk' with rfl | rfl | rfl
  · show wpC _ _ (if _ then _ else _) _ _ _
    split
    · exact tail h
    · exact tail (marked _)
  · exact tail h
  · show wpC _ _ (if _ then _ else _) _ _ _
    split
    · exact tail h
    · exact tail (marked _)

theorem plain_args {es : List Expr} (h : es.all notStar = true) : (starEach es env).any (·.1) = false := by
  induction es with
  | nil => rfl
  | cons e es ih =>
    obtain ⟨h1, h2⟩ := and_e h
    have : starEach (e :: es) env = (false, eval e env) :: starEach es env := by cases e <;> first | rfl | cases h1
    rw [this, List.any_cons, ih h2]; rfl
theorem plain_back {es : List Expr} {pos : Pos} (h : es.all notStar = true) : (backTo pos (starEach es env)).any (·.1) = false := by
  have := plain_args (env := env) h
  unfold backTo
  rw [List.any_map]
  exact this

/-- the arguments, then the call -/
theorem callWith_ok {pos pos' : Pos} {f : Value} {first : List Value} {es : List Expr} {P : List AV → HH → Prop} {Q : Value → Shared → Prop} (hE : EvsOk prog w base n C sc es) (hst : es.all notStar = true) (e : evs C sc es m H P) (h : Here prog w base n A ρ Φ fp env sc m H s)
    (hQ : ∀ l H' ρ' us s', P l H' → Go ρ ρ' [] s s' → Sim prog w base ρ' Φ H' s'.heap → RVs prog w s'.heap ρ' Φ l us → KeepOk prog w s'.heap f ∧ wpC (model prog w) A (call f (first ++ us)) Q E s') :
    wpC (model prog w) A (callWith pos f first (backTo pos' (starEach es env)) []) Q E s := by
  unfold callWith
  refine wpC_bind (wpC_holding ?_)
  have fin : wpC (model prog w) A (evalArgs f true (backTo pos' (starEach es env)) []) (fun a s₁ => ∃ us, a = ⟨us, []⟩ ∧ KeepOk prog w s₁.heap f ∧ wpC (model prog w) A (call f (first ++ us)) Q E s₁) E s := by
    have hs := hE (E := E) (pos := pos') e h (Q := fun us s₁ => KeepOk prog w s₁.heap f ∧ wpC (model prog w) A (call f (first ++ us)) Q E s₁) hQ
    cases es with
    | nil =>
      unfold evalArgs
      exact wpC_bind (wpC_mono hs (fun us s₁ hh => wpC_bind (wpC_pure (wpC_holding (wpC_bind (wpC_pure (wpC_bind (wpC_pure (wpC_pure ⟨us, rfl, hh⟩)))))))) fun _ _ x => x)
    | cons e0 es =>
      have hst := not_starred (env := env) e (rest := es)
      rw [hst] at hs ⊢
      unfold evalArgs
      show wpC _ A (spliced ((false, eval e0 env) :: backTo pos' (starEach es env)) >>= _) _ E s
      exact wpC_bind (wpC_mono hs (fun us s₁ hh => wpC_holding (wpC_bind (wpC_pure (wpC_bind (wpC_pure (wpC_pure ⟨us, rfl, hh⟩)))))) fun _ _ x => x)
  refine wpC_mono fin (fun a s₁ hh => ?_) fun _ _ x => x
  obtain ⟨us, rfl, hk, hc⟩ := hh
  exact callWith_tail (plain_back hst) hk hc

/-- a class of the text, called -/
theorem make_C {Cl : Addr} {rest : List Value} {fI : Addr} {R : Result → Shared → Prop} {h : Heap} {g : Array GenState} {d : Drawn} {t : Nat} {os : OsState} (Y : Makes (model prog w) h Cl) (hi : Looks (model prog w) h (typeLookup (.ref Cl) "__init__") (some (.ref fI)))
    (hb : ∀ self, Looks (model prog w) h (bindSpecial (.ref fI) self) (.ref fI, [self]))
    (hq : codeC (model prog w) (A.under (.builtin "type.__call__" ⟨.ref Cl :: rest, []⟩)) (.call (.ref fI) ⟨.ref (h.objs.size + 1) :: rest, []⟩) (InitBack (h.objs.size + 1) R) ⟨(h.push emptyDict).push (instObj Cl h.objs.size), g, d, t, os⟩) :
    codeC (model prog w) A (.call (.ref Cl) ⟨rest, []⟩) R ⟨h, g, d, t, os⟩ := by
  have Y' := Y
  obtain ⟨⟨oc, od, cd, sl, hC, e1, e2, e4⟩, made, base, self, top, call, typ⟩ := Y
  refine codeC_of_tree ?_ rfl
  show wpC _ _ (callAny (.ref Cl) _) _ _ _
  have pre : ∀ {Q : Fin → Shared → Prop} {E' : Value → Shared → Prop} {A' : Around}, Q (.again (.call (.builtin "type.__call__") ⟨.ref Cl :: rest, []⟩)) ⟨h, g, d, t, os⟩ → wpAny (model prog w) A' (callAny (.ref Cl) ⟨rest, []⟩) Q E' ⟨h, g, d, t, os⟩ := by
    intro Q E' A' hQ
    refine nd_load hC ?_
    show wpAny _ _ (callAny.viaDunder (.ref Cl) _) _ _ _
    unfold callAny.viaDunder
    refine wpAny_bind (call.at ?_)
    dsimp only
    rw [tc_bind]
    refine wpAny_bind (wpAny_pure (wpAny_bind (wpAny_pure ?_)))
    exact wpAny_pure (a := Fin.again (.call (.builtin "type.__call__") ⟨.ref Cl :: rest, []⟩)) hQ
  refine wpC_of_any (pre ⟨rfl, ?_⟩)
  refine codeC_call_builtin (Code.quiet_builtin _ (by decide +kernel)) entry_typeCall (check_slot tc_kind tc_split typ (tc_args _ _ _) ?_) (tc_dirty _)
  unfold Builtin.«type.__call__»
  have hm : Looks (model prog w) h (mroOf (.ref Cl)) cd.mro := ((Looks.ld (part := none) hC).andThen .now).andThen .now
  dsimp only
  refine wpC_if_false rfl ?_
  refine wpC_then (hm.at ?_)
  refine wpC_if_false e4 ?_
  refine wpC_then (made.at ?_)
  dsimp only
  refine wpC_bind (wpC_pure (wpC_bind (wpC_holding (wpC_of_any (wpAny_call (new_K Y' hi (.inl rfl) ?_))))))
  have k : ∀ b o, h.get? b = some o → ((h.push emptyDict).push (instObj Cl h.objs.size)).get? b = some o := fun b o e => Heap.get?_push_of_some _ (Heap.get?_push_of_some _ e)
  have hx : ((h.push emptyDict).push (instObj Cl h.objs.size)).get? (h.objs.size + 1) = some (instObj Cl h.objs.size) := by heap_get
  have t1 : Looks (model prog w) ((h.push emptyDict).push (instObj Cl h.objs.size)) (typeOf (.ref (h.objs.size + 1))) (.ref Cl) := (Looks.ld hx).andThen .now
  have s1 := self.keeps k
  have i1 := hi.keeps k
  have b1 := (hb (.ref (h.objs.size + 1))).keeps k
  show wpC _ _ (isInstance (.ref (h.objs.size + 1)) (.ref Cl) >>= _) _ _ _
  refine wpC_then ((show Looks (model prog w) _ (isInstance (.ref (h.objs.size + 1)) (.ref Cl)) true from t1.andThen s1).at ?_)
  refine wpC_if_false rfl ?_
  refine wpC_bind (wpC_holding ?_)
  unfold callSpecial?
  refine wpC_then ((show Looks (model prog w) _ (specialOf (.ref (h.objs.size + 1)) "__init__") (some (.ref fI)) from t1.andThen i1).at ?_)
  dsimp only
  refine wpC_holding (wpC_then (b1.at ?_))
  refine wpC_bind (wpC_call (codeC_mono hq fun r s' z => ?_))
  rcases r with e | (v | _ | _ | _) <;> first | exact z | exact z.elim | skip
  obtain ⟨rfl, z⟩ := z
  exact wpC_pure (wpC_if_false rfl (wpC_pure z))

theorem under_tc (hA : Ok A n) {Cl : Addr} {rest : List Value} : Ok1 (A.under (.builtin "type.__call__" ⟨.ref Cl :: rest, []⟩)) n := by
  have h1 : (Code.builtin "type.__call__" ⟨.ref Cl :: rest, []⟩).weight = 1 := rfl
  have h2 : (Code.builtin "type.__call__" ⟨.ref Cl :: rest, []⟩).cUnits = 1 := rfl
  have h3 : (Code.builtin "type.__call__" ⟨.ref Cl :: rest, []⟩).guards = [] := rfl
  have hd := hA.depth
  have hu := hA.units
  refine ⟨hA.handled, ?_, ?_, ?_⟩
  · show pushGuards (Code.builtin "type.__call__" ⟨.ref Cl :: rest, []⟩).guards A.guards = some []
    rw [h3]; exact hA.guards
  · show A.depth + _ + _ ≤ _
    rw [h1]; (clear hu h2 h1; omega)
  · show A.units + _ + _ ≤ _
    rw [h2]; (clear hd h2 h1; omega)

/-- a class of the text, called: its object made -/
theorem new_ok {Cl fI : Addr} {as : List AV} {us : List Value} {P : AV → HH → Prop} {Q : Value → Shared → Prop} (C0 : CxOk prog w K base n C) (hA : Ok A n) (S : Sim prog w base ρ Φ H s.heap) (ras : RVs prog w s.heap ρ Φ as us) (hm : C.meth Cl "__init__" = some fI)
    (e : newP H (.ns [] []) fun d H1 => newP H1 (.inst Cl d) fun o H2 => C.init fI (.obj o :: as) H2 fun H' => P (.obj o) H') (hQ : Gives prog w base ρ Φ s P Q) : KeepOk prog w s.heap (.ref Cl) ∧ wpC (model prog w) A (call (.ref Cl) us) Q E s := by
  obtain ⟨_, rfl, _, rfl, _, e1, _, rfl, e⟩ := e
  rw [List.length_append, List.length_singleton] at e1
  subst e1
  obtain ⟨hmk, hkeep⟩ := C0.makes _ _ hm
  have hM := C0.meth _ _ _ hm
  have X := S.kin C0.kin
  refine ⟨.own X hkeep, wpC_call ?_⟩
  obtain ⟨hh, g, d, t, os⟩ := s
  refine make_C (makes_of X hmk) (looks_findIn X hM.own) (fun self => bind_fn X self (beq_iff_eq.mp hM.fn)) ?_
  have S1 : Sim prog w base (ρ ++ [hh.objs.size]) Φ (H ++ [.ns [] []]) (hh.push emptyDict) := S.push ⟨[], ⟨[], 0, Heap.get?_push_size _ rfl, trivial, .nil⟩, rfl⟩
  have hsz : (hh.push emptyDict).objs.size = hh.objs.size + 1 := Heap.size_push ..
  have at1 : ∀ (l : List Addr) (x : Addr), (l ++ [x])[l.length]? = some x := fun l x => by rw [List.getElem?_append_right (Nat.le_refl _), Nat.sub_self]; rfl
  have S2 : Sim prog w base (ρ ++ [hh.objs.size] ++ [hh.objs.size + 1]) Φ (H ++ [.ns [] []] ++ [.inst Cl H.length]) ((hh.push emptyDict).push (instObj Cl hh.objs.size)) := by
    have := S1.push (o := instObj Cl hh.objs.size) (ao := .inst Cl H.length) ⟨hh.objs.size, by rw [← S.len]; exact (List.getElem?_append_left (by rw [List.length_append]; exact Nat.lt_succ_self _)).trans (at1 _ _), Heap.get?_push_size _ rfl⟩
    rwa [hsz] at this
  have g0 : Go ρ (ρ ++ [hh.objs.size] ++ [hh.objs.size + 1]) [] ⟨hh, g, d, t, os⟩ ⟨(hh.push emptyDict).push (instObj Cl hh.objs.size), g, d, t, os⟩ := by
    have p1 := Step.push (ρ := ρ) (fp := []) (h := hh) (o := emptyDict)
    have p2 := Step.push (ρ := ρ ++ [hh.objs.size]) (fp := []) (h := hh.push emptyDict) (o := instObj Cl hh.objs.size)
    rw [hsz] at p2
    exact ⟨p1.trans p2, rfl, rfl⟩
  have hix : (ρ ++ [hh.objs.size] ++ [hh.objs.size + 1])[H.length + 1]? = some (hh.objs.size + 1) := by
    have := at1 (ρ ++ [hh.objs.size]) (hh.objs.size + 1)
    rwa [List.length_append, S.len] at this
  refine C0.init e (under_tc hA) S2 (us := .ref (hh.objs.size + 1) :: us) ⟨_, us, rfl, ⟨_, hix, rfl⟩, ras.mono g0.ext0⟩ fun H' ρ' s' z g' S' => ⟨rfl, ?_⟩
  exact hQ _ _ ρ' _ s' z (g0.trans g') S' ⟨_, g'.ext0 (Φ := Φ) |>.rho _ _ hix, rfl⟩

/-- a call of a value -/
theorem callV_ok {f : AV} {u : Value} {as : List AV} {us : List Value} {P : AV → HH → Prop} {Q : Value → Shared → Prop} (C0 : CxOk prog w K base n C) (hA : Ok A n) (S : Sim prog w base ρ Φ H s.heap) (rf : RV prog w s.heap ρ Φ f u) (ras : RVs prog w s.heap ρ Φ as us)
    (e : callV C H f as P) (hQ : Gives prog w base ρ Φ s P Q) : KeepOk prog w s.heap u ∧ wpC (model prog w) A (call u us) Q E s := by
  cases f with
  | fn a =>
    cases rf
    exact ⟨.own (S.kin C0.kin) (C0.fn _ _ _ _ e), call_fn C0 hA S ras e hQ⟩
  | cls Cl =>
    cases rf
    exact optP_e e fun fI hm e => new_ok C0 hA S ras hm e hQ
  | bi v =>
    cases rf
    refine ⟨?_, callB_ok hA S ras e hQ⟩
    cases u with
    | builtin nm => exact .builtin _
    | type nm => exact .type _
    | _ => exact e.elim
  | _ => exact e.elim

theorem ev_Call {f : Str} {as : List Expr} {p pos : Pos} (C0 : CxOk prog w K base n C) (h1 : EvsOk prog w base n C sc as) : EvOk prog w base n C sc (.Call (.Name f p) as [] pos) := by
  intro A E ρ Φ fp env m H s P Q e h hQ
  refine ifT_e e fun hst e => ?_
  show wpC _ _ (eval (.Name f p) env >>= fun fv => callWith pos fv [] (backTo pos (starEach as env)) []) Q E s
  refine wpC_then (eval_name C0 h.env h.sim e fun fv u z r => callWith_ok h1 hst z h fun us H1 ρ1 us s1 z g1 S1 r1 => ?_)
  exact callV_ok C0 h.ok S1 (RV.mono g1.ext0 _ _ r) r1 z (hQ.go g1)

theorem test_Call {f : Str} {as : List Expr} {p pos : Pos} (C0 : CxOk prog w K base n C) (h1 : EvsOk prog w base n C sc as) : TestOk prog w base n C sc (.Call (.Name f p) as [] pos) := by
  intro A E ρ Φ fp env m H s P Q e h hQ
  refine ifT_e e fun hst e => ?_
  show wpC _ _ (do let v ← (eval (.Name f p) env >>= fun fv => callWith pos fv [] (backTo pos (starEach as env)) []); standAt pos; holding [v] (truthy v)) Q E s
  refine wpC_bind (wpC_then (eval_name C0 h.env h.sim e fun fv u z r => callWith_ok h1 hst z h fun us H1 ρ1 us s1 z g1 S1 r1 => ?_))
  exact callV_ok C0 h.ok S1 (RV.mono g1.ext0 _ _ r) r1 z fun v H2 ρ2 u s2 z g2 S2 r2 => wpC_bind (wpC_standAt (wpC_holding (wpC_of_any (truth_ok S2 r2 z fun c tk z => hQ _ _ ρ2 _ z ((g1.trans g2).trans (.toks tk)) S2))))

theorem plain_base {o : Expr} {x : Str} {whole : Sem Value} (h : plainBase o = true) : attributeBase o x env whole = whole := by
  unfold attributeBase
  split
  · cases h
  · rfl

theorem meth_form {as : List Expr} {pos : Pos} (hst : as.all notStar = true) (hn : as.length < 30) : methodCallForm (as.length + ([] : List Keyword).length) (backTo pos (starEach as env)) (backToKw pos (keywordEach [] env)) = true := by
  have hp : (backTo pos (starEach as env)).all (fun q => !q.1) = true := by
    have := plain_back (env := env) (pos := pos) hst
    rw [List.any_eq_false] at this
    exact List.all_eq_true.mpr fun q hq => by have := this q hq; simpa using this
  unfold methodCallForm
  rw [hp]
  show (true && true && decide (as.length + 0 + (if true = true then 0 else 1) < 30)) = true
  rw [if_pos rfl]
  exact decide_eq_true hn
theorem ev_Method {o : Expr} {x : Str} {as : List Expr} {ap pos : Pos} (C0 : CxOk prog w K base n C) (h1 : EvOk prog w base n C sc o) (h2 : EvsOk prog w base n C sc as) : EvOk prog w base n C sc (.Call (.Attribute o x ap) as [] pos) := by
  intro A E ρ Φ fp env m H s P Q e h hQ
  refine ifT_e e fun hc e => ?_
  obtain ⟨hc, hst⟩ := and_e hc
  obtain ⟨hc, hb⟩ := and_e hc
  obtain ⟨hl, hn⟩ := and_e hc
  rw [arm_eval_Call, plain_base hb]
  refine wpC_bind (h1 e h fun a H1 ρ1 u s1 z g1 S1 r1 => wpC_bind (wpC_standAt ?_))
  unfold methodCall
  show wpC _ _ (holding [u] (calleeOf (methodCallForm (as.length + ([] : List Keyword).length) (backTo pos (starEach as env)) (backToKw pos (keywordEach [] env))) o env u x) >>= _) _ _ _
  rw [meth_form hst (of_decide_eq_true hn)]
  refine wpC_bind (wpC_holding (wpC_of_any (bind_ok C0 S1 r1 z fun t f z hf => ?_)))
  have hpos : methodCallPos true o env ap pos = pure pos := by
    unfold methodCallPos
    rw [hl]; rfl
  dsimp only
  rw [hpos]
  refine wpC_bind (wpC_pure (callWith_ok h2 hst z (h.go g1 S1) fun l H2 ρ2 us s2 z g2 S2 r2 => ⟨?_, ?_⟩))
  · cases t with
    | some a =>
      cases hf
      exact .own (S2.kin C0.kin) (C0.fn _ _ _ _ z)
    | none =>
      obtain ⟨nm, rfl, _⟩ := hf
      exact .builtin _
  · exact apply_ok C0 h.ok S2 (RV.mono g2.ext0 _ _ r1) r2 hf z (hQ.go (g1.trans g2))

variable (prog w base n) in
noncomputable def BoundOk (C : Cx) (sc : Names) (o : Option Expr) : Prop :=
  ∀ {A : Around} {E : Value → Shared → Prop} {ρ Φ fp : List Addr} {env : Env} {m : Loc} {H : HH} {s : Shared} {P : Option Int → HH → Prop} {Q : Value → Shared → Prop},
    evo C sc o m H P → Here prog w base n A ρ Φ fp env sc m H s →
    (∀ b H' ρ' u s', P b H' → Go ρ ρ' [] s s' → Sim prog w base ρ' Φ H' s'.heap → IsPart u b → Q u s') → wpC (model prog w) A (valueOrNone (evalOpt o env)) Q E s
theorem bound_of {o : Option Expr} (h1 : ∀ e, o = some e → EvOk prog w base n C sc e) : BoundOk prog w base n C sc o := by
  intro A E ρ Φ fp env m H s P Q e h hQ
  cases o with
  | none => exact wpC_pure (hQ _ _ ρ .none s e .refl h.sim .none)
  | some x =>
    refine h1 x rfl e h fun a H1 ρ1 u s1 z g1 S1 r1 => optP_e z fun i ei z => ?_
    cases int?_some ei
    obtain ⟨t, rfl⟩ := r1
    exact hQ _ _ ρ1 _ s1 z.2 g1 S1 (.int _ _)

theorem ev_SubSlice {o : Expr} {lo hi st : Option Expr} {p pos : Pos} (h1 : EvOk prog w base n C sc o) (h2 : BoundOk prog w base n C sc lo) (h3 : BoundOk prog w base n C sc hi) : EvOk prog w base n C sc (.Subscript o (.Slice lo hi st p) pos) := by
  intro A E ρ Φ fp env m H s P Q e h hQ
  refine ifT_e e fun hst e => ?_
  cases st with
  | some _ => cases hst
  | none =>
  rw [eval_Subscript, arm_eval_Slice]
  refine wpC_bind (h1 e h fun a H1 ρ1 ov s1 z g1 S1 r1 => wpC_bind (wpC_holding (wpC_bind (h2 z (h.go g1 S1) fun l H2 ρ2 lv s2 z g2 S2 p2 => wpC_bind (wpC_holding (h3 z (h.go (g1.trans g2) S2) fun u H3 ρ3 uv s3 z g3 S3 p3 => ?_))))))
  refine wpC_bind (wpC_holding (wpC_pure (wpC_of_any (wpAny_newObj_type ?_))))
  refine wpC_bind (wpC_standAt (wpC_of_any ?_))
  exact cut_ok S3 (RV.mono (g2.trans g3).ext0 _ _ r1) p2 p3 z fun y x s4 z g4 S4 r4 => hQ _ _ ρ3 x s4 z (((g1.trans g2).trans g3).trans g4) S4 r4

theorem ev_Sub {o i : Expr} {pos : Pos} (hi : ∀ lo hi st p, i ≠ .Slice lo hi st p) (h1 : EvOk prog w base n C sc o) (h2 : EvOk prog w base n C sc i) : EvOk prog w base n C sc (.Subscript o i pos) := by
  intro A E ρ Φ fp env m H s P Q e h hQ
  have e' : ev C sc false o m H fun a H => ev C sc false i m H fun k H => itemP H a k fun v => P v H := by
    cases i <;> first | exact absurd rfl (hi _ _ _ _) | exact e
  rw [eval_Subscript]
  refine wpC_bind (h1 e' h fun a H1 ρ1 ov s1 z g1 S1 r1 => wpC_bind (wpC_holding (h2 z (h.go g1 S1) fun k H2 ρ2 iv s2 z g2 S2 r2 => wpC_bind (wpC_standAt (wpC_of_any ?_)))))
  exact item_ok S2 (RV.mono g2.ext0 _ _ r1) r2 z fun x u t z r => hQ _ _ ρ2 u _ z ((g1.trans g2).trans (.toks t)) S2 r
end
end

-- Cl9
section
open PySem PySem.Calls PySem.W PyProof.Rows PySem.SeqAt
open Sem (wp)

section
variable {prog : Program} {w : World} {K : Frag} {base h h' : Heap} {n : Nat} {C : Cx} {A : Around} {E : Value → Shared → Prop}
  {ρ ρ' Φ Ψ Ψ' fp own : List Addr} {env : Env} {sc : Names} {m m' : Loc} {H H' : HH} {s s' : Shared}

/-- where the frame's own cells lie -/
noncomputable def Cells (Φ : List Addr) (env : Env) (sc : Names) : Prop := ∀ x c, sc.lookup x = some .cell ∨ sc.lookup x = some .free → env.cells.lookup x = some c → c ∈ Φ
theorem EnvOk.cellsIn (X : EnvOk prog w h ρ Φ fp env sc m) : Cells Φ env sc := fun x c hx hc => by
  obtain ⟨c', ov, e1, _, _, mΦ, _⟩ := X.cells x hx
  rw [e1] at hc; cases hc; exact mΦ

theorem EnvOk.shift (X : EnvOk prog w h ρ Ψ fp env sc m) (E : Ext ρ Ψ h ρ' Ψ' h') (hc : Cells Φ env sc) (hl : env.locals ∈ Φ) (k : ∀ a ∈ Φ, ∀ o, h.get? a = some o → h'.get? a = some o) (h1 : ∀ a ∈ Φ, a ∈ Ψ') (h2 : ∀ a ∈ fp, a ∈ Φ) :
    EnvOk prog w h' ρ' Ψ' fp env sc m := by
  obtain ⟨k1, k2, k3, k4, k5, k6, k7, ⟨mc, hn, hm⟩, hcl, ho, ha, hlo, hs, ht⟩ := X
  refine ⟨k1, k2, k3, k4, k5, k6, k7, ⟨mc, hn.at' (k _ hl), fun x hx => (hm x hx).mono E⟩, fun x hx => ?_, ho, ha, hlo, fun a m => h1 a (h2 a m), ht⟩
  obtain ⟨c, ov, e1, ⟨o, g, d⟩, r, mΨ, ne⟩ := hcl x hx
  have mc := hc x c hx e1
  exact ⟨c, ov, e1, ⟨o, k c mc o g, d⟩, r.mono E, h1 c mc, ne⟩

/-- names bound to a value -/
theorem bindN_ok {x : Str} {pos : Pos} {v : AV} {u : Value} {P : Loc → Prop} {Q : Unit → Shared → Prop} (X : EnvOk prog w s.heap ρ Φ fp env sc m) (S : Sim prog w base ρ Φ H s.heap) (r : RV prog w s.heap ρ Φ v u) (e : bindN sc x v m P)
    (hQ : ∀ m' s', P m' → Go ρ ρ fp s s' → Sim prog w base ρ Φ H s'.heap → EnvOk prog w s'.heap ρ Φ fp env sc m' → (∀ a o, s.heap.get? a = some o → a ∉ Φ → s'.heap.get? a = some o) → Q () s') : wpAny (model prog w) A (assign (.Name x pos) env u) Q E s :=
  wpAny_assign_Name (store_name X S r e hQ)

/-- a tuple of names alone -/
theorem namesAll {es : List Expr} (h : es.all (fun e => (isNameE e).isSome) = true) : (assignEach es env).length = es.length ∧ (assignEach es env).findIdx? (·.1) = none := by
  induction es with
  | nil => exact ⟨rfl, rfl⟩
  | cons x es ih =>
    obtain ⟨h1, h2⟩ := and_e h
    cases x with
    | Name x pos =>
      obtain ⟨i1, i2⟩ := ih h2
      refine ⟨congrArg (· + 1) i1, ?_⟩
      show ((false, assign (.Name x pos) env) :: assignEach es env).findIdx? (·.1) = none
      rw [List.findIdx?_cons, i2]; rfl
    | _ => cases h1

theorem bindAll_ok : ∀ {es : List Expr} {l : List AV} {us : List Value} {m : Loc} {s : Shared} {P : Loc → Prop} {Q : Unit → Shared → Prop}, EnvOk prog w s.heap ρ Φ fp env sc m → Sim prog w base ρ Φ H s.heap → RVs prog w s.heap ρ Φ l us → bindAll sc es l m P →
    (∀ m' s', P m' → Go ρ ρ fp s s' → Sim prog w base ρ Φ H s'.heap → EnvOk prog w s'.heap ρ Φ fp env sc m' → Q () s') →
    wpAny (model prog w) A (assignInOrder ((assignEach es env).map (·.2)) us) Q E s := by
  intro es
  induction es with
  | nil =>
    intro l us m s P Q X S r e hQ
    refine ifT_e e fun h z => ?_
    cases List.isEmpty_iff.mp h
    cases r
    exact assignInOrder_nil (hQ _ s z .refl S X)
  | cons x es ih =>
    intro l us m s P Q X S r e hQ
    cases x with
    | Name x pos =>
      cases l with
      | nil => exact e.elim
      | cons v l =>
        obtain ⟨u, us, rfl, ru, rus⟩ := r
        show wpAny _ _ (assignInOrder (assign (.Name x pos) env :: (assignEach es env).map (·.2)) (u :: us)) _ _ _
        refine assignInOrder_cons (bindN_ok (P := fun m => bindAll sc es l m P) X S ru e fun m1 s1 z g1 S1 X1 k1 => ?_)
        exact ih X1 S1 (rus.mono ⟨fun a o e f => k1 a o e f.2, fun _ _ e => e, fun _ _ _ f => f⟩) z fun m2 s2 z g2 S2 X2 => hQ m2 s2 z (g1.trans g2) S2 X2
    | _ => exact e.elim

theorem bindT_ok {t : Expr} {v : AV} {u : Value} {P : Loc → Prop} {Q : Unit → Shared → Prop} (hA : Ok A n) (X : EnvOk prog w s.heap ρ Φ fp env sc m) (S : Sim prog w base ρ Φ H s.heap) (r : RV prog w s.heap ρ Φ v u) (e : bindT sc t v m P)
    (hQ : ∀ m' s', P m' → Go ρ ρ fp s s' → Sim prog w base ρ Φ H s'.heap → EnvOk prog w s'.heap ρ Φ fp env sc m' → Q () s') : wpAny (model prog w) A (assign t env u) Q E s := by
  cases t with
  | Name x p => exact bindN_ok X S r e fun m' s' z g S' X' _ => hQ m' s' z g S' X'
  | Tuple es k p =>
    refine optP_e e fun l hl z => ifT_e z fun hs z => ?_
    cases tup?_some hl
    obtain ⟨hn, hlen⟩ := and_e hs
    obtain ⟨a, vs, rfl, f, ⟨k, g⟩, r⟩ := r
    obtain ⟨s1, s2⟩ := namesAll (env := env) hn
    refine wpAny_assign_Tuple hA.handled (isTuple_of g) (by rw [s1, List.size_toArray, r.length, beq_iff_eq.mp hlen]) s2 fun h' he => ?_
    have k : ∀ a o, s.heap.get? a = some o → h'.get? a = some o := fun a o ea => he a o (Nat.ne_of_lt (Heap.lt_size ea)) ea
    have g0 : Go ρ ρ [] s { s with heap := h' } := .keep (t := s.toks) k
    exact bindAll_ok (s := { s with heap := h' }) (X.go S g0) (S.kept k) (r.mono g0.ext0) z fun m' s' z g S' X' => hQ m' s' z (g0.nil.trans g) S' X'
  | _ => exact e.elim
end
end

-- Cl10
section
open PySem PySem.Calls PySem.W PyProof.Rows PySem.SeqAt
open Sem (wp)

section
variable (prog : Program) (w : World) (base : Heap)
/-- an iterator over what is watched -/
structure LoopIt (A : Around) (Φ : List Addr) (tup : Bool) (v : AV) (l : List AV) (it : Value) (own : List Addr) (J : Nat → List Addr → HH → Heap → Prop) : Prop where
  apart : ∀ a ∈ own, a ∉ Φ
  go : ∀ {i : Nat} {ρ ρ' : List Addr} {H H' : HH} {h h' : Heap} {fp : List Addr}, Sim prog w base ρ (own ++ Φ) H h → J i ρ H h → Step ρ ρ' fp h h' → (∀ a ∈ fp, a ∈ Φ) → Sim prog w base ρ' (own ++ Φ) H' h' → still H v H' → J i ρ' H' h'
  item : ∀ {i : Nat} {ρ : List Addr} {H : HH} {s : Shared} {E : Value → Shared → Prop} {tgt : Expr} {Q : Value → Shared → Prop}, (tup = true → isTup tgt = true) → (hi : i < l.length) → Sim prog w base ρ (own ++ Φ) H s.heap → J i ρ H s.heap →
    (∀ u s', Go ρ ρ own s s' → Sim prog w base ρ (own ++ Φ) H s'.heap → J (i + 1) ρ H s'.heap → RV prog w s'.heap ρ (own ++ Φ) l[i] u → Q u s') →
    wpAny (model prog w) A (pyNext it) (fun r s1 => ∃ u, r = some u ∧ wpAny (model prog w) A (letOwnedTupleGo tgt it u) (fun _ s2 => Q u s2) E s1) E s
  done : ∀ {ρ : List Addr} {H : HH} {s : Shared} {E : Value → Shared → Prop} {Q : Shared → Prop}, Sim prog w base ρ (own ++ Φ) H s.heap → J l.length ρ H s.heap →
    (∀ s', (∀ a o, a ∉ own → s.heap.get? a = some o → s'.heap.get? a = some o) → s'.os = s.os → s'.gens = s.gens → Q s') → wpAny (model prog w) A (pyNext it) (fun r s1 => r = none ∧ Q s1) E s
  self : ∀ {ρ : List Addr} {H : HH} {s : Shared} {E : Value → Shared → Prop} {Q : Value → Shared → Prop}, J 0 ρ H s.heap → Q it s → wpAny (model prog w) A (pyIter it) Q E s
end

section
variable {prog : Program} {w : World} {K : Frag} {base h h' : Heap} {n : Nat} {C : Cx} {A : Around} {E : Value → Shared → Prop}
  {ρ ρ' Φ Ψ Ψ' fp own : List Addr} {env : Env} {sc : Names} {m m' : Loc} {H H' : HH} {s s' : Shared}

noncomputable def ownedTuples : List String := ["enumerate", "zip", "dict_itemiterator", "dict_reverseitemiterator", "odict_iterator", "itertools.zip_longest", "itertools.pairwise"]
theorem letGo_none {tgt : Expr} {I : Addr} {u : Value} {T : String} {o : Obj} {Q : Unit → Shared → Prop} (ho : s.heap.get? I = some o) (hc : o.cls = .type T) (hT : ownedTuples.contains T = false) (hQ : Q () s) : wpAny (model prog w) A (letOwnedTupleGo tgt (.ref I) u) Q E s := by
  unfold letOwnedTupleGo
  have key : ∀ (a : Addr), wpAny (model prog w) A (do
      let o ← load I
      match o.cls, o.data with
      | .type n, .fields vs =>
        if ownedTuples.contains n && vs[0]? == some (rawInt a) then do
          rule "for.unpacks-the-owned-tuple"
          updateField I 0 .none
        else pure ()
      | _, _ => pure ()) Q E s := fun a => by
    refine wpAny_bind (wpAny_load ho ?_)
    rw [hc]
    split
    · rename_i e _
      cases e
      rw [hT]
      exact wpAny_pure hQ
    · exact wpAny_pure hQ
  split
  · split
    · rename_i e; cases e; exact key _
    · exact wpAny_pure hQ
  · split
    · rename_i e; cases e; exact key _
    · exact wpAny_pure hQ
  · exact wpAny_pure hQ

/-- a walk of the library, and what its items are -/
noncomputable def WJ (prog : Program) (w : World) (I : Addr) (fpw : List Addr) (l : List AV) (P : Nat → Value → Prop) (St : Nat → Heap → Prop) (Φ : List Addr) (i : Nat) (ρ : List Addr) (H : HH) (h : Heap) : Prop :=
  St i h ∧ (∀ b ∈ fpw, b ≠ I → Free ρ (I :: Φ) b ∧ ∃ o, h.get? b = some o) ∧ ∀ i (hi : i < l.length) u, P i u → RV prog w h ρ (I :: Φ) l[i] u
/-- what stands for a walk of the library -/
theorem LoopIt.of_walks {I : Addr} {fpw : List Addr} {l : List AV} {P : Nat → Value → Prop} {St : Nat → Heap → Prop} {v : AV} {T : String} {tup : Bool} (W : Walks prog w A I fpw [I] l.length P St) (hI : I ∉ Φ)
    (hin : I ∈ fpw) (hlive : ∀ i h, St i h → ∃ o, h.get? I = some o ∧ o.cls = .type T) (hT : ownedTuples.contains T = false) :
    LoopIt prog w base A Φ tup v l (.ref I) [I] (WJ prog w I fpw l P St Φ) where
  apart := fun a m => by rw [List.mem_singleton.mp m]; exact hI
  go := fun {i ρ ρ' H H' h h' fp} S J st hfp S' hs => by
    obtain ⟨J1, J2, J3⟩ := J
    have X : Ext ρ (I :: Φ) h ρ' (I :: Φ) h' := st.ext fun a m => List.mem_cons_of_mem _ (hfp a m)
    refine ⟨W.frame _ _ _ J1 fun b hb o e => ?_, fun b hb hne => ?_, fun i hi u hu => RV.mono X _ _ (J3 i hi u hu)⟩
    · by_cases q : b = I
      · subst q
        exact st.keep b o e (fun m => S.apart _ m (.head _)) fun m => hI (hfp _ m)
      · exact X.keep b o e (J2 b hb q).1
    · obtain ⟨f, o, e⟩ := J2 b hb hne
      exact ⟨X.res b o e f, o, X.keep b o e f⟩
  item := fun {i ρ H s E tgt Q} _ hi S J hQ => by
    obtain ⟨J1, J2, J3⟩ := J
    refine W.item i s _ _ hi J1 fun u h1 tk hP hst hk => ⟨u, rfl, ?_⟩
    obtain ⟨o, ho, hc⟩ := hlive _ _ hst
    have k : ∀ a o, s.heap.get? a = some o → a ∉ [I] → h1.get? a = some o := fun a o e f => hk a o f e
    have lives : ∀ a o, s.heap.get? a = some o → ∃ o', h1.get? a = some o' := fun a o' e => by
      by_cases q : a = I
      · exact q ▸ ⟨o, ho⟩
      · exact ⟨o', k a o' e (by simpa using q)⟩
    have X : Ext ρ (I :: Φ) s.heap ρ (I :: Φ) h1 := ⟨fun a o e f => k a o e (fun m => f.2 (by rw [List.mem_singleton.mp m]; exact .head _)), fun _ _ e => e, fun _ _ _ f => f⟩
    refine letGo_none (s := { s with heap := h1, toks := tk }) ho hc hT (hQ u _ ⟨⟨lives, fun a o e _ f => k a o e f, [], by simp, fun _ m => nomatch m⟩, rfl, rfl⟩
      (S.keeps (fun a m => let ⟨o, e⟩ := S.live a m; lives a o e) fun a o e f => k a o e fun m => f (by rw [List.mem_singleton.mp m]; exact .head _)) ⟨hst, fun b hb hne => ?_, fun i hi u hu => RV.mono X _ _ (J3 i hi u hu)⟩ (RV.mono X _ _ (J3 i hi u hP)))
    obtain ⟨f, o, e⟩ := J2 b hb hne
    exact ⟨f, o, k b o e (by simpa using hne)⟩
  done := fun {ρ H s E Q} S J hQ => W.done s _ _ J.1 fun h1 tk hk => ⟨rfl, hQ _ (fun a o f e => hk a o f e) rfl rfl⟩
  self := fun {ρ H s E Q} J hQ => W.self 0 s _ _ J.1 hQ

/-- a list, plain or owned -/
noncomputable def ListSrc (prog : Program) (w : World) (h : Heap) (ρ Ψ : List Addr) (H : HH) (v : AV) (l : List AV) (a : Addr) : Prop := match v with
  | .lst l' => l' = l ∧ Free ρ Ψ a ∧ ∃ vs, h.PlainList a vs.toArray ∧ RVs prog w h ρ Ψ l vs
  | .obj j => ρ[j]? = some a ∧ H[j]? = some (.list l)
  | _ => False
theorem ListSrc.of {v : AV} {u : Value} {Z : List AV → Prop} {G : Prop} (S : Sim prog w base ρ Φ H s.heap) (e : viewP H v Z) (r : RV prog w s.heap ρ Φ v u) (k : ∀ l a, Z l → u = .ref a → ListSrc prog w s.heap ρ Φ H v l a → G) : G := by
  cases v with
  | lst l =>
    obtain ⟨a, vs, e2, f, g, r⟩ := r
    exact k l a e e2 ⟨rfl, f, vs, g, r⟩
  | obj i =>
    refine optP_e e fun o ho z => optP_e z fun l hl z => ?_
    cases list?_some hl
    obtain ⟨a, ea, e2⟩ := r
    exact k l a z e2 ⟨ea, ho⟩
  | _ => exact e.elim
theorem ListSrc.plain {v : AV} {l : List AV} {a : Addr} (S : Sim prog w base ρ Ψ H h) (L : ListSrc prog w h ρ Ψ H v l a) : ∃ vs, h.PlainList a vs.toArray ∧ RVs prog w h ρ Ψ l vs := by
  cases v with
  | lst _ => exact L.2.2
  | obj _ => exact S.rep _ _ _ L.1 L.2
  | _ => exact L.elim
theorem ListSrc.mono {v : AV} {l : List AV} {a : Addr} (L : ListSrc prog w h ρ Ψ H v l a) (X : Ext ρ Ψ h ρ' Ψ' h') (hs : still H v H') : ListSrc prog w h' ρ' Ψ' H' v l a := by
  cases v with
  | lst _ =>
    obtain ⟨e, f, vs, ⟨k, g⟩, r⟩ := L
    exact ⟨e, X.res _ _ g f, vs, ⟨k, X.keep _ _ g f⟩, r.mono X⟩
  | obj _ => exact ⟨X.rho _ _ L.1, Eq.trans hs L.2⟩
  | _ => exact L.elim

theorem still_refl (H : HH) (v : AV) : still H v H := by cases v <;> first | exact trivial | exact rfl

/-- a list's iterator -/
theorem LoopIt.list {I a : Addr} {l : List AV} {v : AV} {tup : Bool} (hh : A.handled = none) (hI : I ∉ Φ) :
    LoopIt prog w base A Φ tup v l (.ref I) [I] fun i ρ H h => h.IsListIter I a i ∧ ListSrc prog w h ρ (I :: Φ) H v l a where
  apart := fun a m => by rw [List.mem_singleton.mp m]; exact hI
  go := fun {i ρ ρ' H H' h h' fp} S J st hfp S' hs => by
    have X : Ext ρ (I :: Φ) h ρ' (I :: Φ) h' := st.ext fun a m => List.mem_cons_of_mem _ (hfp a m)
    exact ⟨J.1.at fun o e => st.keep I o e (fun m => S.apart _ m (.head _)) fun m => hI (hfp _ m), J.2.mono X hs⟩
  item := fun {i ρ H s E tgt Q} _ hi S J hQ => by
    obtain ⟨J1, J2⟩ := J
    obtain ⟨vs, g, r⟩ := J2.plain S
    obtain ⟨u, hu, ru⟩ := r.get (i := i) (List.getElem?_eq_getElem hi)
    refine wpAny_pyNext_list_item J1 g.isList (x := u) (by simpa using hu) fun h1 hit hs => ⟨u, rfl, ?_⟩
    obtain ⟨o, ho, hc, hd⟩ := id hit
    have k : ∀ a o, s.heap.get? a = some o → a ≠ I → h1.get? a = some o := fun a o e f => (hs.2 a f).trans e
    have lives : ∀ a o, s.heap.get? a = some o → ∃ o', h1.get? a = some o' := fun a o' e => by
      by_cases q : a = I
      · exact q ▸ ⟨o, ho⟩
      · exact ⟨o', k a o' e q⟩
    have X : Ext ρ (I :: Φ) s.heap ρ (I :: Φ) h1 := ⟨fun a o e f => k a o e (fun q => f.2 (q ▸ .head _)), fun _ _ e => e, fun _ _ _ f => f⟩
    exact letGo_none (s := { s with heap := h1 }) ho hc (by decide) (hQ u _ ⟨⟨lives, fun a o e _ f => k a o e (by simpa using f), [], by simp, fun _ m => nomatch m⟩, rfl, rfl⟩
      (S.keeps (fun a m => let ⟨o, e⟩ := S.live a m; lives a o e) fun a o e f => k a o e fun q => f (q ▸ .head _)) ⟨hit, J2.mono X (still_refl _ _)⟩ (RV.mono X _ _ ru))
  done := fun {ρ H s E Q} S J hQ => by
    obtain ⟨vs, g, r⟩ := J.2.plain S
    refine wpAny_pyNext_list_end hh J.1 g.isList (by simp [r.length]) fun h1 he => ⟨rfl, hQ _ (fun a o f e => he a o (by simpa using f) e) rfl rfl⟩
  self := fun {ρ H s E Q} J hQ => wpAny_pyIter_listiter J.1 hQ

theorem enumL_len : ∀ (l : List AV) (k : Nat), (enumL k l).length = l.length
  | [], _ => rfl
  | x :: l, k => congrArg (· + 1) (enumL_len l (k + 1))
theorem enumL_get : ∀ (l : List AV) (k i : Nat) (hi : i < l.length), (enumL k l)[i]? = some (.tup [.int ((k + i : Nat) : Int), l[i]])
  | x :: l, k, 0, _ => rfl
  | x :: l, k, i + 1, hi => by
    have := enumL_get l (k + 1) i (Nat.lt_of_succ_lt_succ hi)
    rw [Nat.add_right_comm, Nat.add_assoc] at this
    exact this

/-- enumerate -/
theorem LoopIt.enum {I J0 a : Addr} {l : List AV} {v : AV} (hh : A.handled = none) (hI : I ∉ Φ) (hJ : J0 ∉ Φ) (hne : I ≠ J0) :
    LoopIt prog w base A Φ true v (enumL 0 l) (.ref I) [I, J0] fun i ρ H h => (∃ old, IsEnum h I J0 (i : Int) old) ∧ h.IsListIter J0 a i ∧ ListSrc prog w h ρ (I :: J0 :: Φ) H v l a where
  apart := fun a m => by
    rcases List.mem_cons.mp m with rfl | m
    · exact hI
    · rw [List.mem_singleton.mp m]; exact hJ
  go := fun {i ρ ρ' H H' h h' fp} S J st hfp S' hs => by
    have X : Ext ρ (I :: J0 :: Φ) h ρ' (I :: J0 :: Φ) h' := st.ext fun a m => List.mem_cons_of_mem _ (List.mem_cons_of_mem _ (hfp a m))
    obtain ⟨⟨old, he⟩, J1, J2⟩ := J
    exact ⟨⟨old, st.keep I _ he (fun m => S.apart _ m (.head _)) fun m => hI (hfp _ m)⟩, J1.at fun o e => st.keep J0 o e (fun m => S.apart _ m (.tail _ (.head _))) fun m => hJ (hfp _ m), J2.mono X hs⟩
  item := fun {i ρ H s E tgt Q} ht hi S J hQ => by
    obtain ⟨⟨old, he⟩, J1, J2⟩ := J
    obtain ⟨vs, g, r⟩ := J2.plain S
    have hi' : i < l.length := enumL_len l 0 ▸ hi
    obtain ⟨u, hu, ru⟩ := r.get (i := i) (List.getElem?_eq_getElem hi')
    have hx : (enumL 0 l)[i] = .tup [.int (i : Int), l[i]] := by
      have := enumL_get l 0 i hi'
      rw [List.getElem?_eq_getElem hi, Nat.zero_add] at this
      exact Option.some.inj this
    refine wpAny_pyNext_enum_item he J1 g.isList (x := u) (by simpa using hu) hne fun h1 heo hit htup hsz hk => ⟨_, rfl, ?_⟩
    obtain ⟨es, k, p, rfl⟩ : ∃ es k p, tgt = .Tuple es k p := by cases tgt <;> first | exact ⟨_, _, _, rfl⟩ | exact nomatch ht rfl
    refine wpAny_letOwnedTupleGo_enum (s := { s with heap := h1, toks := s.toks + 1 }) heo fun h2 he2 hs2 => ?_
    have hs2 : Heap.SameBut I h1 h2 := hs2
    have k : ∀ a o, s.heap.get? a = some o → a ≠ I → a ≠ J0 → h2.get? a = some o := fun a o e f f2 => (hs2.2 a f).trans (hk a o f f2 e)
    have hit2 : h2.IsListIter J0 a (i + 1) := hit.at fun o e => (hs2.2 J0 (Ne.symm hne)).trans e
    have ltI : I < s.heap.objs.size := Heap.lt_size he
    have htup2 : h2.get? s.heap.objs.size = some { cls := .type "tuple", data := .seq #[.int i s.toks, u] } := (hs2.2 _ (Nat.ne_of_gt ltI)).trans htup
    have lives : ∀ a o, s.heap.get? a = some o → ∃ o', h2.get? a = some o' := fun a o' e => by
      by_cases q : a = I
      · exact q ▸ ⟨_, he2⟩
      · by_cases q2 : a = J0
        · obtain ⟨o, ho, _⟩ := hit2; exact q2 ▸ ⟨o, ho⟩
        · exact ⟨o', k a o' e q q2⟩
    have X : Ext ρ (I :: J0 :: Φ) s.heap ρ (I :: J0 :: Φ) h2 := ⟨fun a o e f => k a o e (fun q => f.2 (q ▸ .head _)) (fun q => f.2 (q ▸ .tail _ (.head _))), fun _ _ e => e, fun _ _ _ f => f⟩
    refine hQ _ _ ⟨⟨lives, fun a o e _ f => k a o e (fun q => f (q ▸ .head _)) (fun q => f (q ▸ .tail _ (.head _))), [], by simp, fun _ m => nomatch m⟩, rfl, rfl⟩
      (S.keeps (fun a m => let ⟨o, e⟩ := S.live a m; lives a o e) fun a o e f => k a o e (fun q => f (q ▸ .head _)) (fun q => f (q ▸ .tail _ (.head _)))) ⟨⟨_, he2⟩, hit2, J2.mono X (still_refl _ _)⟩ ?_
    rw [hx]
    exact ⟨s.heap.objs.size, [.int i s.toks, u], rfl, S.fresh, ⟨0, htup2⟩, _, _, rfl, ⟨_, rfl⟩, _, _, rfl, RV.mono X _ _ ru, rfl⟩
  done := fun {ρ H s E Q} S J hQ => by
    obtain ⟨⟨old, he⟩, J1, J2⟩ := J
    obtain ⟨vs, g, r⟩ := J2.plain S
    rw [enumL_len] at he J1
    refine wpAny_pyNext_enum_end hh he J1 g.isList (by simp [r.length]) fun h1 hx => ⟨rfl, hQ _ (fun a o f e => hx a o (fun q => f (q ▸ .tail _ (.head _))) e) rfl rfl⟩
  self := fun {ρ H s E Q} J hQ => let ⟨old, he⟩ := J.1; wpAny_pyIter_enum he hQ
end
end

-- Cl11
section
open PySem PySem.Calls PySem.W PyProof.Rows PySem.SeqAt
open Sem (wp)

section
variable {prog : Program} {w : World} {K : Frag} {base h h' : Heap} {n : Nat} {C : Cx} {A : Around} {E : Value → Shared → Prop}
  {ρ ρ' ρ₀ Φ Ψ Ψ' fp own : List Addr} {env : Env} {sc : Names} {m m' : Loc} {H H' : HH} {s s' s₀ : Shared}

/-- new objects of one's own -/
theorem Sim.addOwn (S : Sim prog w base ρ Φ H h) (k : ∀ a o, h.get? a = some o → h'.get? a = some o) (h1 : ∀ a ∈ own, h.get? a = none) (h2 : ∀ a ∈ own, ∃ o, h'.get? a = some o) : Sim prog w base ρ (own ++ Φ) H h' := by
  have X : Ext ρ Φ h ρ (own ++ Φ) h' := ⟨fun a o e _ => k a o e, fun _ _ e => e, fun a o e f => ⟨f.1, fun m => by
    rcases List.mem_append.mp m with m | m
    · rw [h1 a m] at e; cases e
    · exact f.2 m⟩⟩
  refine ⟨S.len, S.nodup, fun a ma m => ?_, fun a m => ?_, fun b o e => ⟨k b o (S.base b o e).1, X.res b o (S.base b o e).1 (S.base b o e).2⟩, S.sysm, fun i a o e1 e2 => (S.rep i a o e1 e2).mono X fun ob g => k a ob g⟩
  · rcases List.mem_append.mp m with m | m
    · obtain ⟨o, e⟩ := S.live' ma; rw [h1 a m] at e; cases e
    · exact S.apart a ma m
  · rcases List.mem_append.mp m with m | m
    · exact h2 a m
    · obtain ⟨o, e⟩ := S.live a m; exact ⟨o, k a o e⟩
theorem Ext.addOwn (X : Ext ρ₀ Φ h ρ Φ h') (h1 : ∀ a ∈ own, h.get? a = none) : Ext ρ₀ Φ h ρ (own ++ Φ) h' :=
  ⟨X.keep, X.rho, fun a o e f => ⟨(X.res a o e f).1, fun m => by
    rcases List.mem_append.mp m with m | m
    · rw [h1 a m] at e; cases e
    · exact f.2 m⟩⟩
/-- what was one's own is dropped -/
theorem Ext.drop : Ext ρ (own ++ Φ) h ρ Φ h := ⟨fun _ _ e _ => e, fun _ _ e => e, fun a o e f => ⟨f.1, fun m => f.2 (List.mem_append.mpr (.inr m))⟩⟩
theorem Sim.drop (S : Sim prog w base ρ (own ++ Φ) H h) : Sim prog w base ρ Φ H h :=
  ⟨S.len, S.nodup, fun a ma m => S.apart a ma (List.mem_append.mpr (.inr m)), fun a m => S.live a (List.mem_append.mpr (.inr m)), fun b o e => ⟨(S.base b o e).1, (Ext.drop (h := h)).res b o (S.base b o e).1 (S.base b o e).2⟩, S.sysm,
    fun i a o e1 e2 => (S.rep i a o e1 e2).mono Ext.drop fun ob g => g⟩

variable (prog w base) in
/-- a value that a loop may go over -/
structure SrcAt (A : Around) (Φ : List Addr) (tup : Bool) (v : AV) (l : List AV) (s₀ : Shared) (ρ₀ ρ : List Addr) (H : HH) (u : Value) (s₁ : Shared) : Prop where
  iter : ∀ {E : Value → Shared → Prop} {Q : Value → Shared → Prop}, (∀ it own (J : List Addr → Nat → List Addr → HH → Heap → Prop) s₂, (∀ X : List Addr, (∀ a ∈ X, s₂.heap.get? a = none) → LoopIt prog w base A (X ++ Φ) tup v l it own (J X)) → (∀ a ∈ own, s₀.heap.get? a = none) → Go ρ₀ ρ [] s₀ s₂ → Sim prog w base ρ (own ++ Φ) H s₂.heap →
    (∀ (X : List Addr) (h3 : Heap), (∀ a ∈ X, s₂.heap.get? a = none) → (∀ a o, s₂.heap.get? a = some o → h3.get? a = some o) → J X 0 ρ H h3) → Q it s₂) → wpAny (model prog w) A (pyIter u) Q E s₁

theorem Ext.more {X : List Addr} (hX : ∀ a ∈ X, h.get? a = none) (hk : ∀ a o, h.get? a = some o → h'.get? a = some o) : Ext ρ (own ++ Φ) h ρ (own ++ (X ++ Φ)) h' :=
  ⟨fun a o e _ => hk a o e, fun _ _ e => e, fun a o e f => ⟨f.1, fun m => by
    rcases List.mem_append.mp m with m | m
    · exact f.2 (List.mem_append.mpr (.inl m))
    · rcases List.mem_append.mp m with m | m
      · rw [hX a m] at e; cases e
      · exact f.2 (List.mem_append.mpr (.inr m))⟩⟩
theorem walks_more {I : Addr} {fpw : List Addr} {l : List AV} {P : Nat → Value → Prop} {St : Nat → Heap → Prop} {X : List Addr} (W : Walks prog w A I fpw [I] l.length P St) (hX : ∀ a ∈ X, h.get? a = none) (hk : ∀ a o, h.get? a = some o → h'.get? a = some o)
    (j : St 0 h ∧ (∀ b ∈ fpw, b ≠ I → Free ρ (I :: Φ) b ∧ ∃ o, h.get? b = some o) ∧ ∀ i (hi : i < l.length) u, P i u → RV prog w h ρ (I :: Φ) l[i] u) :
    St 0 h' ∧ (∀ b ∈ fpw, b ≠ I → Free ρ (I :: (X ++ Φ)) b ∧ ∃ o, h'.get? b = some o) ∧ ∀ i (hi : i < l.length) u, P i u → RV prog w h' ρ (I :: (X ++ Φ)) l[i] u := by
  have EX : Ext ρ (I :: Φ) h ρ (I :: (X ++ Φ)) h' := Ext.more (own := [I]) hX hk
  exact ⟨W.frame _ _ _ j.1 fun b _ o e => hk b o e, fun b hb hne => let ⟨f, o, e⟩ := j.2.1 b hb hne; ⟨EX.res b o e f, o, hk b o e⟩, fun i hi u hu => RV.mono EX _ _ (j.2.2 i hi u hu)⟩

theorem get_size_none (h : Heap) : h.get? h.objs.size = none := Heap.get?_none_of_le (Nat.le_refl _)

theorem rangeL_len : ∀ (n : Nat) (a c : Int), (rangeL a c n).length = n
  | 0, _, _ => rfl
  | n + 1, a, c => congrArg (· + 1) (rangeL_len n (a + c) c)
theorem rangeL_get : ∀ (n : Nat) (a c : Int) (i : Nat) (hi : i < (rangeL a c n).length), (rangeL a c n)[i] = .int (a + i * c)
  | 0, _, _, i, hi => absurd hi (Nat.not_lt_zero _)
  | n + 1, a, c, 0, hi => by
    show AV.int a = _
    rw [show ((0 : Nat) : Int) = 0 from rfl, Int.zero_mul, Int.add_zero]
  | n + 1, a, c, i + 1, hi => by
    refine (rangeL_get n (a + c) c i (Nat.lt_of_succ_lt_succ hi)).trans ?_
    congr 1
    push_cast
    rw [Int.add_mul, Int.one_mul]; (clear hi; omega)

/-- an iterator over what is watched, just made -/
theorem src_of {o : Obj} {u : Value} {v : AV} {l : List AV} {tup : Bool} {J : List Addr → Nat → List Addr → HH → Heap → Prop} (hf : o.isFreed = false) (S : Sim prog w base ρ Φ H s.heap) (g₀ : Go ρ₀ ρ [] s₀ s)
    (LI : ∀ X : List Addr, s.heap.objs.size ∉ X ++ Φ → LoopIt prog w base A (X ++ Φ) tup v l (.ref s.heap.objs.size) [s.heap.objs.size] (J X))
    (hj : Ext ρ Φ s.heap ρ ([s.heap.objs.size] ++ Φ) (s.heap.push o) → ∀ (X : List Addr) (h3 : Heap), (∀ a ∈ X, (s.heap.push o).get? a = none) → (∀ a ob, (s.heap.push o).get? a = some ob → h3.get? a = some ob) → J X 0 ρ H h3)
    (hit : ∀ {E : Value → Shared → Prop} {Q : Value → Shared → Prop}, Q (.ref s.heap.objs.size) { s with heap := s.heap.push o } → wpAny (model prog w) A (pyIter u) Q E s) : SrcAt prog w base A Φ tup v l s₀ ρ₀ ρ H u s := by
  refine ⟨fun {E Q} hQ => ?_⟩
  have none1 : ∀ a ∈ [s.heap.objs.size], s.heap.get? a = none := fun a m => by rw [List.mem_singleton.mp m]; exact get_size_none _
  have at1 : (s.heap.push o).get? s.heap.objs.size = some o := Heap.get?_push_size _ hf
  refine hit (hQ _ [s.heap.objs.size] J _ (fun X hX => LI X fun m => ?_) (fun a m => ?_) (g₀.trans (.push0 o s.toks)) (S.addOwn (fun a o' e => Heap.get?_push_of_some _ e) none1 fun a m => ⟨o, by rw [List.mem_singleton.mp m]; exact at1⟩)
    (hj (Ext.addOwn ((Step.push0 (fp := [])).ext fun _ m => nomatch m) none1)))
  · rcases List.mem_append.mp m with m | m
    · have := hX _ m; rw [at1] at this; cases this
    · obtain ⟨o, e⟩ := S.live _ m
      exact absurd (Heap.lt_size e) (Nat.lt_irrefl _)
  · rw [List.mem_singleton.mp m]
    cases e0 : s₀.heap.get? s.heap.objs.size with
    | none => rfl
    | some o =>
      obtain ⟨o', e'⟩ := g₀.step.lives _ _ e0
      exact absurd (Heap.lt_size e') (Nat.lt_irrefl _)
/-- the same, by a walk of the library -/
theorem src_walk {o : Obj} {u : Value} {v : AV} {l : List AV} {tup : Bool} {fpw : List Addr} {k : Nat} {P : Nat → Value → Prop} {St : Nat → Heap → Prop} {T : String} (hf : o.isFreed = false) (S : Sim prog w base ρ Φ H s.heap) (g₀ : Go ρ₀ ρ [] s₀ s)
    (W : Walks prog w A s.heap.objs.size fpw [s.heap.objs.size] k P St) (hk : k = l.length) (hin : s.heap.objs.size ∈ fpw) (hlive : ∀ i h, St i h → ∃ o, h.get? s.heap.objs.size = some o ∧ o.cls = .type T) (hT : ownedTuples.contains T = false)
    (hj : Ext ρ Φ s.heap ρ ([s.heap.objs.size] ++ Φ) (s.heap.push o) → WJ prog w s.heap.objs.size fpw l P St Φ 0 ρ H (s.heap.push o))
    (hit : ∀ {E : Value → Shared → Prop} {Q : Value → Shared → Prop}, Q (.ref s.heap.objs.size) { s with heap := s.heap.push o } → wpAny (model prog w) A (pyIter u) Q E s) : SrcAt prog w base A Φ tup v l s₀ ρ₀ ρ H u s := by
  subst hk
  exact src_of (J := fun X => WJ prog w s.heap.objs.size fpw l P St (X ++ Φ)) hf S g₀ (fun X hX => LoopIt.of_walks W hX hin hlive hT) (fun X Y h3 hY hk => walks_more W hY hk (hj X)) hit

theorem src_list {v : AV} {l : List AV} {a : Addr} {vs : List Value} {tup : Bool} (hA : Ok A n) (S : Sim prog w base ρ Φ H s.heap) (g₀ : Go ρ₀ ρ [] s₀ s) (g : s.heap.PlainList a vs.toArray) (L : ListSrc prog w s.heap ρ Φ H v l a) : SrcAt prog w base A Φ tup v l s₀ ρ₀ ρ H (.ref a) s :=
  src_of (o := { cls := .type "list_iterator", data := .fields #[.ref a, rawInt 0] }) rfl S g₀ (J := fun X i ρ H h => h.IsListIter s.heap.objs.size a i ∧ ListSrc prog w h ρ (s.heap.objs.size :: (X ++ Φ)) H v l a) (fun X hX => LoopIt.list (Φ := X ++ Φ) (a := a) hA.handled hX)
    (fun EX X h3 hX hk => ⟨⟨_, hk _ _ (Heap.get?_push_size _ rfl), rfl, rfl⟩, L.mono (EX.trans (Ext.more (own := [s.heap.objs.size]) hX hk)) (still_refl _ _)⟩) fun hQ => wpAny_pyIter_list g.isList hQ

theorem range_src {a b c : Int} {u : Value} {tup : Bool} (hA : Ok A n) (S : Sim prog w base ρ Φ H s.heap) (g₀ : Go ρ₀ ρ [] s₀ s) (r : RV prog w s.heap ρ Φ (.rng a b c) u) (e : smallI a = true ∧ smallI b = true ∧ (c = 1 ∨ c = -1) ∧ fits (rangeN a b c)) :
    SrcAt prog w base A Φ tup (.rng a b c) (rangeL a c (rangeN a b c)) s₀ ρ₀ ρ H u s := by
  obtain ⟨q, t, u', x, rfl, f, g⟩ := r
  obtain ⟨h1, h2, h3, _⟩ := e
  have b1 := small_bounds h1
  have b2 := small_bounds h2
  have hsize : 0 ≤ Builtin.Range.rangeSize a b c := by
    unfold Builtin.Range.rangeSize
    rcases h3 with rfl | rfl <;> simp <;> split <;> omega
  have hsm : Builtin.Range.small a b c = true := by
    rcases h3 with rfl | rfl
    · exact small_one (by (clear hsize b2; omega)) (by (clear hsize b2; omega)) (by (clear hsize b1; omega)) (by (clear hsize b1; omega))
    · unfold Builtin.Range.small Builtin.Range.rangeSize
      simp only [Builtin.Range.rangeFitsLong, Bool.and_eq_true, Bool.or_eq_true, decide_eq_true_eq, beq_iff_eq]
      simp
      split <;> omega
  have hn : ((rangeN a b c : Nat) : Int) = Builtin.Range.rangeSize a b c := by unfold rangeN; (clear b2 b1 h3; omega)
  refine src_walk (o := _) ?_ S g₀ (Walks.range (prog := prog) (w := w) (A := A) hA.handled s.heap.objs.size a c (rangeN a b c)) (rangeL_len _ _ _).symm (.head _) (fun i h st => ⟨_, st, rfl⟩) (by decide) (fun _ => ⟨?_, fun b hb hne' => absurd (List.mem_singleton.mp hb) hne', fun i hi u hu => ?_⟩) fun hQ => wpAny_pyIter_range g hsm hQ
  · rfl
  · show Heap.get? _ _ = _
    have e1 : a + ((0 : Nat) : Int) * c = a := by simp
    have e2 : ((rangeN a b c : Nat) : Int) - ((0 : Nat) : Int) = Builtin.Range.rangeSize a b c := by rw [hn]; simp
    rw [e1, e2]
    exact Heap.get?_push_size _ rfl
  · obtain ⟨t, rfl⟩ := hu
    rw [rangeL_get]
    exact ⟨t, rfl⟩

theorem dict_src {ks : List Int} {lv : List AV} {u : Value} {tup : Bool} (hA : Ok A n) (S : Sim prog w base ρ Φ H s.heap) (g₀ : Go ρ₀ ρ [] s₀ s) (r : RV prog w s.heap ρ Φ (.dct ks lv) u) : SrcAt prog w base A Φ tup (.dct ks lv) (ks.map .int) s₀ ρ₀ ρ H u s := by
  obtain ⟨a, vs, rfl, f, ⟨o, es, ep, g, c⟩, hl, r, ns⟩ := r
  have hne : a ≠ s.heap.objs.size := Nat.ne_of_lt (Heap.lt_size g)
  have hat : s.heap.DictAt (intKind prog w) a (ks.zip vs) ep := ⟨o, es, g, c⟩
  have hz : (ks.zip vs).length = ks.length := by rw [List.length_zip, r.length, hl, Nat.min_self]
  refine src_walk (o := _) ?_ S g₀ (Walks.dictKeys (prog := prog) (w := w) (A := A) (knd := intKind prog w) hA.handled s.heap.objs.size a hne (ks.zip vs) ep) (by rw [hz, List.length_map]) (.head _) (fun i h st => let ⟨o, ho, hc, _⟩ := st.1; ⟨o, ho, hc⟩) (by decide)
    (fun EX => ⟨⟨⟨_, Heap.get?_push_size _ ?_, rfl, rfl⟩, hat.push _⟩, fun b hb hne' => ?_, fun i hi u hu => ?_⟩) fun hQ => wpAny_pyIter_dict ns hat hQ
  · rfl
  · rfl
  · have : b = a := (List.mem_cons.mp hb).elim (fun q => absurd q hne') List.mem_singleton.mp
    subst this
    exact ⟨EX.res _ _ g f, _, Heap.get?_push_of_some _ g⟩
  · obtain ⟨k, x, hk, hu⟩ := hu
    have hi' : i < ks.length := by rw [List.length_map] at hi; exact hi
    have : k = ks[i] := by
      have := (List.getElem?_zip_eq_some.mp hk).1
      rw [List.getElem?_eq_getElem hi'] at this
      exact (Option.some.inj this).symm
    rw [List.getElem_map, ← this]
    exact Value.isInt_shape hu

theorem src_ok {v : AV} {u : Value} {tup : Bool} {Z : List AV → Prop} {G : Prop} (hA : Ok A n) (S : Sim prog w base ρ Φ H s.heap) (g₀ : Go ρ₀ ρ [] s₀ s) (r : RV prog w s.heap ρ Φ v u) (e : srcP H v Z) (k : ∀ l, Z l → SrcAt prog w base A Φ tup (watch v) l s₀ ρ₀ ρ H u s → G) : G := by
  cases v with
  | tup l =>
    refine k l e.2 ?_
    obtain ⟨a, vs, rfl, f, ⟨k, g⟩, r⟩ := r
    have hne : a ≠ s.heap.objs.size := Nat.ne_of_lt (Heap.lt_size g)
    refine src_walk (o := _) ?_ S g₀ (Walks.tuple (prog := prog) (w := w) (A := A) hA.handled s.heap.objs.size a hne vs.toArray) (by rw [List.size_toArray, r.length]) (.head _) (fun i h st => let ⟨o, ho, hc, _⟩ := st.1; ⟨o, ho, hc⟩) (by decide)
      (fun EX => ⟨⟨⟨_, Heap.get?_push_size _ ?_, rfl, rfl⟩, (isTuple_of g).push _⟩, fun b hb hne' => ?_, fun i hi u hu => ?_⟩) fun hQ => wpAny_pyIter_tuple (isTuple_of g) hQ
    · rfl
    · rfl
    · have : b = a := (List.mem_cons.mp hb).elim (fun q => absurd q hne') List.mem_singleton.mp
      subst this
      exact ⟨EX.res _ _ g f, _, Heap.get?_push_of_some _ g⟩
    · obtain ⟨x, ex, rx⟩ := r.get' (i := i) (v := u) (by rw [← List.getElem?_toArray]; exact hu)
      rw [List.getElem?_eq_getElem hi] at ex
      cases ex
      exact RV.mono EX _ _ rx
  | dct ks lv => exact k _ e.2 (dict_src hA S g₀ r)
  | bytes b =>
    refine k _ e.2 ?_
    obtain ⟨t, rfl⟩ := r
    refine src_walk (o := _) ?_ S g₀ (KBw.walks (prog := prog) (w := w) (A := A) hA.handled s.heap.objs.size b.toArray t) (by rw [List.size_toArray, List.length_map]) (.head _) (fun i h st => let ⟨o, ho, hc, _⟩ := st; ⟨o, ho, hc⟩) (by decide)
      (fun EX => ⟨⟨_, Heap.get?_push_size _ ?_, rfl, rfl⟩, fun b hb hne' => absurd (List.mem_singleton.mp hb) hne', fun i hi u hu => ?_⟩) fun hQ => KBw.pyIter_bytes hQ
    · rfl
    · rfl
    · obtain ⟨c, k, hc, rfl⟩ := hu
      have hi' : i < b.length := by rw [List.length_map] at hi; exact hi
      have : c = b[i] := by
        rw [List.getElem?_toArray, List.getElem?_eq_getElem hi'] at hc
        exact (Option.some.inj hc).symm
      rw [List.getElem_map, ← this]
      exact ⟨_, rfl⟩
  | rng a b c => exact k _ e.2 (range_src hA S g₀ r e.1)
  | enm x => exact r.elim
  | lst l =>
    obtain ⟨a, vs, rfl, f, g, r⟩ := r
    exact k l e.2 (src_list hA S g₀ g ⟨rfl, f, vs, g, r⟩)
  | obj i =>
    refine optP_e e fun o ho z => optP_e z fun l hl z => ?_
    cases list?_some hl
    obtain ⟨a, ea, rfl, vs, g, r⟩ := S.obj r ho
    exact k l z.2 (src_list hA S g₀ g ⟨ea, ho⟩)
  | _ => exact e.elim
end
end

-- Cl12
section
open PySem PySem.Calls PySem.W PyProof.Rows PySem.SeqAt
open Sem (wp)

section
variable {prog : Program} {w : World} {K : Frag} {base h h' : Heap} {n : Nat} {C : Cx} {A : Around} {E : Value → Shared → Prop}
  {ρ ρ' ρ₀ Φ Ψ Ψ' fp own : List Addr} {env : Env} {sc : Names} {m m' : Loc} {H H' : HH} {s s' s₀ : Shared}

/-- enumerate of a list -/
theorem enum_ok {x : AV} {u : Value} {Z : List AV → Prop} {Q : Value → Shared → Prop} (hA : Ok A n) (S : Sim prog w base ρ Φ H s.heap) (g₀ : Go ρ₀ ρ [] s₀ s) (r : RV prog w s.heap ρ Φ x u) (e : viewP H x Z)
    (hQ : ∀ l u s₁, Z l → SrcAt prog w base A Φ true x (enumL 0 l) s₀ ρ₀ ρ H u s₁ → Q u s₁) : wpAny (model prog w) A (call (.type "enumerate") [u]) Q E s := by
  refine ListSrc.of S e r fun l a z e2 L => ?_
  subst e2
  obtain ⟨vs, ⟨k, g⟩, rv⟩ := L.plain S
  refine call_enumerate_1 g fun h1 he hit hsz hk => hQ _ _ _ z ⟨fun {E' Q'} hQ' => ?_⟩
  have n1 : s.heap.get? s.heap.objs.size = none := get_size_none _
  have n2 : s.heap.get? (s.heap.objs.size + 1) = none := Heap.get?_none_of_le (Nat.le_succ _)
  have nn : ∀ a ∈ [s.heap.objs.size + 1, s.heap.objs.size], s.heap.get? a = none := fun a m => by
    rcases List.mem_cons.mp m with rfl | m
    · exact n2
    · rw [List.mem_singleton.mp m]; exact n1
  have nn0 : ∀ a ∈ [s.heap.objs.size + 1, s.heap.objs.size], s₀.heap.get? a = none := fun a m => by
    cases e0 : s₀.heap.get? a with
    | none => rfl
    | some o =>
      obtain ⟨o', e'⟩ := g₀.step.lives _ _ e0
      rw [nn a m] at e'; cases e'
  have notΦ : ∀ a ∈ [s.heap.objs.size + 1, s.heap.objs.size], a ∉ Φ := fun a m mΦ => by
    obtain ⟨o, e⟩ := S.live a mΦ
    rw [nn a m] at e; cases e
  have nin : ∀ X : List Addr, (∀ a ∈ X, h1.get? a = none) → s.heap.objs.size + 1 ∉ X ++ Φ ∧ s.heap.objs.size ∉ X ++ Φ := fun X hX => ⟨fun m => by
    rcases List.mem_append.mp m with m | m
    · have := hX _ m; rw [he] at this; cases this
    · exact notΦ _ (.head _) m, fun m => by
    rcases List.mem_append.mp m with m | m
    · obtain ⟨o, ho, _⟩ := hit; have := hX _ m; rw [ho] at this; cases this
    · exact notΦ _ (.tail _ (.head _)) m⟩
  have LI := fun (X : List Addr) (hX : s.heap.objs.size + 1 ∉ X ++ Φ ∧ s.heap.objs.size ∉ X ++ Φ) => LoopIt.enum (prog := prog) (w := w) (base := base) (A := A) (Φ := X ++ Φ) (I := s.heap.objs.size + 1) (J0 := s.heap.objs.size) (a := a) (l := l) (v := x) hA.handled hX.1 hX.2 (Nat.succ_ne_self _)
  have X : Ext ρ Φ s.heap ρ ([s.heap.objs.size + 1, s.heap.objs.size] ++ Φ) h1 := Ext.addOwn ⟨fun b o e _ => hk b o e, fun _ _ e => e, fun _ _ _ f => f⟩ nn
  refine wpAny_pyIter_enum (s := { s with heap := h1 }) he (hQ' _ [s.heap.objs.size + 1, s.heap.objs.size] _ { s with heap := h1 } (fun X hX => LI X (nin X hX)) nn0 (g₀.trans (.keep (t := s.toks) hk)) (S.addOwn hk nn fun b m => ?_) fun X' h3 hX hk3 => ⟨⟨_, hk3 _ _ he⟩, hit.at fun o e => hk3 _ o e, L.mono (X.trans (Ext.more (own := [s.heap.objs.size + 1, s.heap.objs.size]) hX hk3)) (still_refl _ _)⟩)
  rcases List.mem_cons.mp m with rfl | m
  · exact ⟨_, he⟩
  · rw [List.mem_singleton.mp m]; obtain ⟨o, ho, _⟩ := hit; exact ⟨o, ho⟩

set_option smartUnfolding false in
theorem src_cases (C : Cx) (sc : Names) (it : Expr) : (∃ f p as pos, it = .Call (.Name f p) as [] pos) ∨ ∀ {m : Loc} {H : HH} {P : AV → HH → Prop}, ev C sc true it m H P → ev C sc false it m H P := by
  cases it with
  | Call f as ks pos =>
    cases ks with
    | cons _ _ => exact .inr id
    | nil => cases f with
      | Name f p => exact .inl ⟨f, p, as, pos, rfl⟩
      | _ => exact .inr id
  | _ => exact .inr id
theorem enum_is {fv : AV} (hE : isEnum fv = true) : fv = .bi (.type "enumerate") := by
  cases fv with
  | bi v => cases v with
    | type nm => rw [beq_iff_eq.mp hE]
    | _ => cases hE
  | _ => cases hE
/-- what a loop goes over -/
theorem source_ok {tup : Bool} {it : Expr} {Z : AV → HH → List AV → Prop} {Q : Value → Shared → Prop} (C0 : CxOk prog w K base n C) (h1 : EvOk prog w base n C sc it) (h2 : ∀ f p as pos, it = .Call (.Name f p) as [] pos → EvsOk prog w base n C sc as)
    (e : ev C sc tup it m H fun v H0 => srcP H0 v (Z v H0)) (h : Here prog w base n A ρ Φ fp env sc m H s)
    (hQ : ∀ v l H1 ρ' u s₁, Z v H1 l → SrcAt prog w base A Φ tup (watch v) l s ρ ρ' H1 u s₁ → Q u s₁) : wpC (model prog w) A (eval it env) Q E s := by
  have plain : ev C sc false it m H (fun v H0 => srcP H0 v (Z v H0)) → wpC (model prog w) A (eval it env) Q E s := fun e =>
    h1 e h fun v H1 ρ1 u s1 z g1 S1 r1 => src_ok h.ok S1 g1 r1 z fun l zl src => hQ v l H1 ρ1 u s1 zl src
  cases tup with
  | false => exact plain e
  | true =>
    rcases src_cases C sc it with ⟨f, p, as, pos, rfl⟩ | hc
    · refine ifT_e e fun hst e => ?_
      show wpC _ _ (eval (.Name f p) env >>= fun fv => callWith pos fv [] (backTo pos (starEach as env)) []) Q E s
      refine wpC_then (eval_name C0 h.env h.sim e fun fv u z r => callWith_ok (h2 f p as pos rfl) hst z h fun l H1 ρ1 us s1 z g1 S1 r1 => ifP_e z (fun hE z => ?_) fun _ z => ?_)
      · cases enum_is hE
        cases r
        refine arg1_e r1 z fun v u2 eu ru z => ?_
        subst eu
        exact ⟨.type _, wpC_of_any (viewP_rv S1 z ru fun _ _ _ z _ _ _ => enum_ok h.ok S1 g1 ru z fun l u s2 z hs => hQ (.enm v) _ H1 ρ1 u s2 z.2 hs)⟩
      · exact callV_ok C0 h.ok S1 (RV.mono g1.ext0 _ _ r) r1 z fun v H2 ρ2 u s2 z g2 S2 r2 => src_ok h.ok S2 (g1.trans g2) r2 z fun l zl src => hQ v l H2 ρ2 u s2 zl src
    · exact plain (hc e)

variable (prog w base) in
/-- how a block ends -/
structure Ends (ρ Φ fp : List Addr) (env : Env) (sc : Names) (s : Shared) (N : Loc → HH → Prop) (R : AV → HH → Prop) (Q : Flow → Shared → Prop) : Prop where
  next : ∀ m' H' ρ' s', N m' H' → Go ρ ρ' fp s s' → Sim prog w base ρ' Φ H' s'.heap → EnvOk prog w s'.heap ρ' Φ fp env sc m' → Q .next s'
  ret : ∀ v H' ρ' u s', R v H' → Go ρ ρ' fp s s' → Sim prog w base ρ' Φ H' s'.heap → RV prog w s'.heap ρ' Φ v u → Q (.ret u) s'
variable (prog w base n) in
noncomputable def ExOk (C : Cx) (sc : Names) (b : List Stmt) : Prop :=
  ∀ {A : Around} {E : Value → Shared → Prop} {ρ Φ fp : List Addr} {env : Env} {m : Loc} {H : HH} {s : Shared} {N : Loc → HH → Prop} {R : AV → HH → Prop} {Q : Flow → Shared → Prop},
    runSs C sc b m H N R → Here prog w base n A ρ Φ fp env sc m H s → Ends prog w base ρ Φ fp env sc s N R Q → wpC (model prog w) A (execs b env) Q E s

theorem Go.afterOwn {ρ1 : List Addr} (g : Go ρ₀ ρ fp s₀ s) (g2 : Go ρ ρ1 own s s') (h1 : ∀ a ∈ own, s₀.heap.get? a = none) : Go ρ₀ ρ1 fp s₀ s' := by
  obtain ⟨new, rfl, gn⟩ := g.step.grow
  obtain ⟨new2, rfl, gn2⟩ := g2.step.grow
  refine ⟨⟨fun a o e => let ⟨o', e'⟩ := g.step.lives a o e; g2.step.lives a o' e', fun a o e f1 f2 => ?_, new ++ new2, by simp, fun a m => ?_⟩, g2.os.trans g.os, g2.gens.trans g.gens⟩
  · refine g2.step.keep a o (g.step.keep a o e f1 f2) (fun m => ?_) fun m => ?_
    · rcases List.mem_append.mp m with m | m
      · exact f1 m
      · rw [gn a m] at e; cases e
    · rw [h1 a m] at e; cases e
  · rcases List.mem_append.mp m with m | m
    · exact gn a m
    · cases e : s₀.heap.get? a with
      | none => rfl
      | some o =>
        obtain ⟨o', e'⟩ := g.step.lives a o e
        rw [gn2 a m] at e'; cases e'
theorem Sim.done (S : Sim prog w base ρ (own ++ Φ) H h) (hap : ∀ a ∈ own, a ∉ Φ) (k : ∀ a o, a ∉ own → h.get? a = some o → h'.get? a = some o) : Sim prog w base ρ Φ H h' := by
  have X : Ext ρ (own ++ Φ) h ρ Φ h' := ⟨fun a o e f => k a o (fun m => f.2 (List.mem_append.mpr (.inl m))) e, fun _ _ e => e, fun a o e f => ⟨f.1, fun m => f.2 (List.mem_append.mpr (.inr m))⟩⟩
  refine ⟨S.len, S.nodup, fun a ma m => S.apart a ma (List.mem_append.mpr (.inr m)), fun a m => ?_, fun b o e => ⟨X.keep b o (S.base b o e).1 (S.base b o e).2, X.res b o (S.base b o e).1 (S.base b o e).2⟩, S.sysm, fun i a o e1 e2 => (S.rep i a o e1 e2).mono X fun ob g => ?_⟩
  · obtain ⟨o, e⟩ := S.live a (List.mem_append.mpr (.inr m))
    exact ⟨o, k a o (fun q => hap a q m) e⟩
  · exact k a ob (fun q => S.apart a (List.mem_of_getElem? e1) (List.mem_append.mpr (.inl q))) g

theorem Go.gone {k0 : ∀ a ∈ own, s₀.heap.get? a = none} (g : Go ρ₀ ρ fp s₀ s) (k : ∀ a o, a ∉ own → s.heap.get? a = some o → s'.heap.get? a = some o) (ho : s'.os = s.os) (hg : s'.gens = s.gens) : Go ρ₀ ρ fp s₀ s' :=
  ⟨⟨fun a o e => let ⟨o', e'⟩ := g.step.lives a o e; ⟨o', k a o' (fun q => by rw [k0 a q] at e; cases e) e'⟩, fun a o e f1 f2 => k a o (fun q => by rw [k0 a q] at e; cases e) (g.step.keep a o e f1 f2), g.step.grow⟩, ho.trans g.os, hg.trans g.gens⟩
theorem Ext.gone (k : ∀ a o, a ∉ own → h.get? a = some o → h'.get? a = some o) : Ext ρ (own ++ Φ) h ρ Φ h' :=
  ⟨fun a o e f => k a o (fun m => f.2 (List.mem_append.mpr (.inl m))) e, fun _ _ e => e, fun a o e f => ⟨f.1, fun m => f.2 (List.mem_append.mpr (.inr m))⟩⟩
theorem drop_hd {l : List AV} {i : Nat} {x : AV} {r : List AV} (hd : l.drop i = x :: r) : ∃ h : i < l.length, l[i] = x ∧ l.drop (i + 1) = r := by
  have hlt : i < l.length := by
    rcases Nat.lt_or_ge i l.length with h | h
    · exact h
    · rw [List.drop_eq_nil_iff.mpr h] at hd; cases hd
  rw [List.drop_eq_getElem_cons hlt] at hd
  obtain ⟨hx, hr⟩ := List.cons.inj hd
  exact ⟨hlt, hx, hr⟩
theorem still_trans {H1 H2 H3 : HH} {v : AV} (a : still H1 v H2) (b : still H1 v H3) : still H2 v H3 := by
  cases v with
  | obj i => exact Eq.trans b (Eq.symm a)
  | _ => trivial

/-- a loop's turns -/
theorem for_loop {t : Expr} {I : Value} {body : List Stmt} {tup : Bool} {v : AV} {l : List AV} {J : Nat → List Addr → HH → Heap → Prop} {H1 : HH} {N : Loc → HH → Prop} {RR : AV → HH → Prop} {R : Result → Shared → Prop} (hA : Ok A n) (LI : LoopIt prog w base A Φ tup v l I own J) (ht : tup = true → isTup t = true)
    (hb : ExOk prog w base n C sc body) (h0 : ∀ a ∈ own, s₀.heap.get? a = none) (hcells : Cells Φ env sc) (hloc : env.locals ∈ Φ) (hfp : ∀ a ∈ fp, a ∈ Φ) (hR : Ends prog w base ρ₀ Φ fp env sc s₀ N RR fun f s' => R (.ok f) s') :
    ∀ (r : List AV) (i : Nat) {ρ : List Addr} {m : Loc} {H : HH} {s : Shared}, l.drop i = r → i ≤ l.length → Go ρ₀ ρ fp s₀ s → Sim prog w base ρ (own ++ Φ) H s.heap → EnvOk prog w s.heap ρ (own ++ Φ) fp env sc m → J i ρ H s.heap → still H1 v H →
      loopP (fun s : St => still H1 v s.2) (fun x s N => bindT sc t x s.1 fun m => runSs C sc body m s.2 (fun m H => N (m, H)) RR) r (m, H) (fun s => N s.1 s.2) →
      codeC (model prog w) A (.forLoop t I body [] env) R s := by
  intro r
  induction r with
  | nil =>
    intro i ρ m H s hd hi g S X j hs e
    have hil : i = l.length := Nat.le_antisymm hi (List.drop_eq_nil_iff.mp hd)
    subst hil
    refine codeC_of_tree ?_ rfl
    show wpC _ A ((forTurn t I body [] env).onRaise (fun x => do noteFrame x env; theTreesLotGoes x)) _ _ s
    refine wpC_onRaise (wpC_mono (E := fun _ _ => False) ?_ (fun _ _ q => q) fun _ _ f => f.elim)
    unfold forTurn
    refine wpC_bind (wpC_standAt (wpC_bind (wpC_onRaise (wpC_mono (E := fun _ _ => False) (wpC_of_any (LI.done S j (Q := fun s1 => codeC (model prog w) A (.block [] env) R s1) fun s1 k ho hg => ?_)) (fun o s1 ho => ?_) fun _ _ f => f.elim))))
    · refine codeC_of_tree ?_ rfl
      show wpC _ A (do return Fin.done (← (PySem.execs [] env).onRaise (fun x => do noteFrame x env; theTreesLotGoes x))) _ _ s1
      refine wpC_bind (wpC_onRaise (wpC_of_any (wpAny_execs_nil (wpC_pure ?_))))
      exact hR.next m H ρ s1 e (Go.gone (k0 := h0) g k ho hg) (S.done LI.apart k) (X.shift (Ext.gone k) hcells hloc (fun a m o e => k a o (fun q => LI.apart a q m) e) (fun _ m => m) hfp)
    · obtain ⟨rfl, hc⟩ := ho
      exact wpC_pure ⟨rfl, hc⟩
  | cons x r ih =>
    intro i ρ m H s hd hi g S X j hs e
    obtain ⟨hlt, hx, hr⟩ := drop_hd hd
    refine codeC_of_tree ?_ rfl
    show wpC _ A ((forTurn t I body [] env).onRaise (fun x => do noteFrame x env; theTreesLotGoes x)) _ _ s
    refine wpC_onRaise (wpC_mono (E := fun _ _ => False) ?_ (fun _ _ q => q) fun _ _ f => f.elim)
    unfold forTurn
    refine wpC_bind (wpC_standAt (wpC_bind (wpC_onRaise (wpC_mono (E := fun _ _ => False) (wpC_of_any (LI.item ht hlt S j (tgt := t) (Q := fun u s1 => Go ρ ρ own s s1 ∧ Sim prog w base ρ (own ++ Φ) H s1.heap ∧ J (i + 1) ρ H s1.heap ∧ RV prog w s1.heap ρ (own ++ Φ) l[i] u) fun u s1 a b c d => ⟨a, b, c, d⟩)) (fun o s1 ho => ?_) fun _ _ f => f.elim))))
    obtain ⟨u, rfl, hgo⟩ := ho
    dsimp only
    refine wpC_then (wpAny_mono hgo (fun _ s2 hh => ?_) fun _ _ f => f.elim)
    obtain ⟨g1, S1, j1, r1⟩ := hh
    have X1 : EnvOk prog w s2.heap ρ (own ++ Φ) fp env sc m := X.shift (g1.step.ext fun a m => List.mem_append.mpr (.inl m)) hcells hloc
      (fun a ma o e => g1.step.keep a o e (fun q => S.apart a q (List.mem_append.mpr (.inr ma))) fun q => LI.apart a q ma) (fun a m => List.mem_append.mpr (.inr m)) hfp
    have ga := g.afterOwn g1 h0
    rw [hx] at r1
    refine wpC_then (bindT_ok hA X1 S1 r1 e fun m2 s3 z g2 S2 X2 => ?_)
    have j2 := LI.go S1 j1 g2.step hfp S2 (still_refl _ _)
    have gb := ga.trans g2
    refine wpC_bind (hb z ⟨hA, X2, S2⟩ ⟨fun m3 H3 ρ3 s4 z g3 S3 X3 => ?_, fun v2 H3 ρ3 u2 s4 z g3 S3 r2 => ?_⟩)
    · exact wpC_pure ⟨rfl, ih (i + 1) hr hlt (gb.trans g3) S3 X3 (LI.go S2 j2 g3.step hfp S3 (still_trans hs z.1)) z.1 z.2⟩
    · exact wpC_pure (hR.ret v2 H3 ρ3 u2 s4 z (gb.trans g3) S3.drop (RV.mono Ext.drop _ _ r2))

theorem not_set {tup : Bool} {e : Expr} {P : AV → HH → Prop} (h : ev C sc tup e m H P) (x : Value) : foldedSetIterable e env x = pure x := by
  cases e <;> first | rfl | exact h.elim

variable (prog w base n) in
noncomputable def StOk (C : Cx) (sc : Names) (st : Stmt) : Prop :=
  ∀ {A : Around} {E : Value → Shared → Prop} {ρ Φ fp : List Addr} {env : Env} {m : Loc} {H : HH} {s : Shared} {N : Loc → HH → Prop} {R : AV → HH → Prop} {Q : Flow → Shared → Prop},
    runS C sc st m H N R → Here prog w base n A ρ Φ fp env sc m H s → Ends prog w base ρ Φ fp env sc s N R Q → wpC (model prog w) A (exec st env) Q E s

theorem wpC_runOwn {c : Code} {Q : Flow → Shared → Prop} (hc : codeC (model prog w) A c (fun r s' => match r with | .ok f => Q f s' | .error e => False) s) : wpC (model prog w) A (runOwn c env) Q E s := by
  unfold runOwn
  exact wpC_onRaise (wpC_mono (E := fun _ _ => False) (wpC_run (A := A) (h := none) hc (fun x => nomatch x)) (fun _ _ q => q) fun _ _ f => f.elim)

theorem st_For {t it : Expr} {body : List Stmt} {pos : Pos} (C0 : CxOk prog w K base n C) (h1 : EvOk prog w base n C sc it) (h2 : ∀ f p as pos, it = .Call (.Name f p) as [] pos → EvsOk prog w base n C sc as) (hb : ExOk prog w base n C sc body) : StOk prog w base n C sc (.For t it body [] pos) := by
  intro A E ρ Φ fp env m H s N RR Q e h hQ
  have ns := fun x => not_set (env := env) e x
  show wpC _ _ (do standAt pos; let x ← foldedSetIterable it env (← eval it env); standAt it.pos; runOwn (.forLoop t (← holding [x] (pyIter x)) body [] env) env) Q E s
  refine wpC_bind (wpC_standAt (wpC_bind (source_ok C0 h1 h2 e h fun v l H1 ρ1 u s1 z hsrc => ?_)))
  refine wpC_bind (wpC_of_eq (ns u) (wpC_bind (wpC_standAt (wpC_bind (wpC_holding (wpC_of_any (hsrc.iter fun I own J s2 LI hnew g S j => ?_)))))))
  refine wpC_runOwn (for_loop h.ok (LI [] fun _ q => nomatch q) (fun q => q) hb hnew h.env.cellsIn (h.env.sub _ h.env.loc) h.env.sub (R := fun r s' => match r with | .ok f => Q f s' | .error e => False) hQ l 0 rfl (Nat.zero_le _) g.nil S ?_ (j [] s2.heap (fun _ q => nomatch q) fun _ _ e => e) (still_refl _ _) z)
  exact h.env.shift (Ext.addOwn (g.ext0) hnew) h.env.cellsIn (h.env.sub _ h.env.loc) (fun a ma o e => g.step.keep a o e (fun q => h.sim.apart a q ma) fun q => nomatch q) (fun a m => List.mem_append.mpr (.inr m)) h.env.sub
end
end

-- Cl13
section
open PySem PySem.Calls PySem.W PyProof.Rows PySem.SeqAt
open Sem (wp)

section
variable {prog : Program} {w : World} {K : Frag} {base h h' : Heap} {n : Nat} {C : Cx} {A : Around} {E : Value → Shared → Prop}
  {ρ ρ' ρ₀ Φ Ψ Ψ' fp own : List Addr} {env : Env} {sc : Names} {m m' : Loc} {H H' : HH} {s s' s₀ : Shared}

/-- a comprehension's tests, in order -/
theorem tests_ok : ∀ {ifs : List Expr} {H : HH} {s : Shared} {ρ : List Addr} {P : Bool → HH → Prop} {Q : Bool → Shared → Prop}, (∀ e ∈ ifs, TestOk prog w base n C sc e) → evt C sc ifs m H P → Here prog w base n A ρ Φ fp env sc m H s →
    Tells prog w base ρ Φ s P Q →
    wpC (model prog w) A (forIn ifs true fun c r => if r = true then do let ok ← isTrue c env (eval c env); pure (ForInStep.yield ok) else pure (ForInStep.yield r)) Q E s := by
  intro ifs
  induction ifs with
  | nil =>
    intro H s ρ P Q _ e h hQ
    exact wpC_pure (hQ _ _ ρ s e .refl h.sim)
  | cons c r ih =>
    intro H s ρ P Q ht e h hQ
    rw [List.forIn_cons, if_pos rfl]
    refine wpC_bind (wpC_bind (ht c (.head _) e h fun b H1 ρ1 s1 z g1 S1 => wpC_pure ?_))
    cases b with
    | true => exact ih (fun x hx => ht x (.tail _ hx)) (z.1 rfl) (h.go g1 S1) (hQ.go g1)
    | false =>
      dsimp only
      have skip : ∀ l : List Expr, (forIn l false fun c r => if r = true then do let ok ← isTrue c env (eval c env); pure (ForInStep.yield ok) else pure (ForInStep.yield r) : Sem Bool) = pure false := by
        intro l
        induction l with
        | nil => rfl
        | cons x l ih => rw [List.forIn_cons, if_neg (by decide)]; exact ih
      rw [skip]
      exact wpC_pure (hQ _ _ ρ1 s1 (z.2 rfl) g1 S1)

/-- what a turn does with its item -/
noncomputable def compInner (elt : Expr) (gens : List Comprehension) (scope : Scope) (pos : Pos) (d : Nat) (acc : Value) (env : Env) : Sem Unit := match gens[d]? with
  | some g' => do
    let x ← eval g'.iter env
    standAt g'.iter.pos
    let x ← foldedSetIterable g'.iter env x
    let _ ← runOwn (.compStart (.ListComp elt gens scope pos) d (← holding [x] (pyIter x)) acc env) env
  | none => do let _ ← call (.builtin "list.append") [acc, ← eval elt env]

theorem compTurn_gen {elt : Expr} {gens : List Comprehension} {scope : Scope} {pos : Pos} {d : Nat} {it acc : Value} {env : Env} {t src : Expr} {ifs : List Expr} (hg : gens[d]? = some ⟨t, src, ifs, 0⟩) (ha : ∀ g ∈ gens, g.is_async = 0) :
    compTurn (.ListComp elt gens scope pos) d it acc env = (do
      standAt src.pos
      match ← pyNext it with
      | none => pure (.done .next)
      | some v =>
        letOwnedTupleGo t it v
        assign t env v
        let ok ← (forIn ifs true fun c r => if r = true then do let ok ← isTrue c env (eval c env); pure (ForInStep.yield ok) else pure (ForInStep.yield r) : Sem Bool)
        (if ok then compInner elt gens scope pos (d + 1) acc env else pure ())
        again (.compLoop (.ListComp elt gens scope pos) d it acc env)) := by
  unfold compTurn
  dsimp only
  rw [hg]
  unfold compInner
  dsimp only
  simp only [bne_self_eq_false, Bool.false_eq_true, if_false]
  cases hd : gens[d + 1]? with
  | none =>
    dsimp only
    congr 1; funext _; congr 1; funext r; cases r with
    | none => rfl
    | some v =>
      dsimp only
      congr 1; funext _; congr 1; funext _; congr 1; funext ok
      cases ok <;> simp
  | some g' =>
    have h0 : g'.is_async = 0 := ha _ (List.mem_of_getElem? hd)
    dsimp only
    simp only [h0, bne_self_eq_false, Bool.false_eq_true, if_false]
    congr 1; funext _; congr 1; funext r; cases r with
    | none => rfl
    | some v =>
      dsimp only
      congr 1; funext _; congr 1; funext _; congr 1; funext ok
      cases ok <;> simp
end
end

-- Cl14
section
open PySem PySem.Calls PySem.W PyProof.Rows PySem.SeqAt
open Sem (wp)

section
variable {prog : Program} {w : World} {K : Frag} {base h h' : Heap} {n : Nat} {C : Cx} {A : Around} {E : Value → Shared → Prop}
  {ρ ρ' ρ₀ Φ Φ0 Ψ Ψ' fp own : List Addr} {env : Env} {sc : Names} {m m' : Loc} {H H' : HH} {s s' s₀ : Shared}

variable (prog w base) in
/-- where a comprehension's list stands -/
structure CompEnds (ρ Φ : List Addr) (D : Addr) (env : Env) (sc : Names) (s : Shared) (N : Sc → Prop) (Q : Shared → Prop) : Prop where
  fin : ∀ m' H' L' ρ' ys' s', N (m', H', L') → Go ρ ρ' [D, env.locals] s s' → Sim prog w base ρ' Φ H' s'.heap → EnvOk prog w s'.heap ρ' Φ [env.locals] env sc m' → s'.heap.PlainList D ys'.toArray → RVs prog w s'.heap ρ' Φ L' ys' → Q s'
/-- where the list of a comprehension, and its names, lie -/
structure Lies (Φ Φ0 : List Addr) (D : Addr) (env : Env) (sc : Names) : Prop where
  cells : Cells Φ0 env sc
  loc : env.locals ∈ Φ0
  notin : D ∉ Φ0
  sub : ∀ a ∈ Φ0, a ∈ Φ
  mem : D ∈ Φ
variable (prog w base n) in
noncomputable def InnerOk (C : Cx) (sc : Names) (elt : Expr) (gens : List Comprehension) (scope : Scope) (pos : Pos) (d : Nat) (gs : List Comprehension) : Prop :=
  ∀ {A : Around} {E : Value → Shared → Prop} {ρ Φ Φ0 : List Addr} {env : Env} {m : Loc} {H : HH} {s : Shared} {D : Addr} {ys : List Value} {L : List AV} {N : Sc → Prop} {Q : Unit → Shared → Prop},
    evc C sc (fun m H Q => ev C sc false elt m H Q) gs m H L N → Here prog w base n A ρ Φ [env.locals] env sc m H s → Lies Φ Φ0 D env sc → s.heap.PlainList D ys.toArray → RVs prog w s.heap ρ Φ L ys →
    CompEnds prog w base ρ Φ D env sc s N (Q ()) → wpC (model prog w) A (compInner elt gens scope pos d (.ref D) env) Q E s

theorem Lies.fp1 {D : Addr} (z : Lies Φ Φ0 D env sc) : ∀ a ∈ [env.locals], a ∈ Φ0 := fun a ma => by rw [List.mem_singleton.mp ma]; exact z.loc
theorem Lies.fp2 {D : Addr} (z : Lies Φ Φ0 D env sc) : ∀ a ∈ [D, env.locals], a ∈ Φ := fun a ma => by
  rcases List.mem_cons.mp ma with rfl | ma
  · exact z.mem
  · exact z.sub _ (z.fp1 a ma)
theorem Lies.ne {D : Addr} (z : Lies Φ Φ0 D env sc) : D ≠ env.locals := fun q => z.notin (q ▸ z.loc)
theorem Lies.more {D : Addr} (z : Lies Φ Φ0 D env sc) : Lies (own ++ Φ) Φ0 D env sc := ⟨z.cells, z.loc, z.notin, fun a ma => List.mem_append.mpr (.inr (z.sub a ma)), List.mem_append.mpr (.inr z.mem)⟩
/-- the list stays where the heap goes on -/
theorem list_stays {D : Addr} {ys : List Value} (hl : s.heap.PlainList D ys.toArray) (g : Go ρ ρ' fp s s') (h1 : D ∉ ρ) (h2 : D ∉ fp) : s'.heap.PlainList D ys.toArray := hl.imp fun _ e => g.step.keep D _ e h1 h2

theorem inner_nil {elt : Expr} {gens : List Comprehension} {scope : Scope} {pos : Pos} {d : Nat} (h1 : EvOk prog w base n C sc elt) (hd : gens[d]? = none) : InnerOk prog w base n C sc elt gens scope pos d [] := by
  intro A E ρ Φ Φ0 env m H s D ys L N Q e h Z hl rl hQ
  unfold compInner
  rw [hd]
  dsimp only
  refine wpC_bind (h1 e.2 h fun v H1 ρ1 u s1 z g1 S1 r1 => ?_)
  have gl1 := list_stays hl g1 (fun q => h.sim.apart D q Z.mem) fun q => nomatch q
  refine wpC_then (wpAny_list_append_plain gl1 (fun h2 hl2 hs2 => wpC_pure ?_) (fits_arr rl e.1))
  obtain ⟨g2, S2, X, keep⟩ := turned (t := s1.toks) (fp := [D, env.locals]) S1 hs2 (let ⟨k, e⟩ := hl2; ⟨_, e⟩) (.head _) Z.mem
  have hl2' : h2.PlainList D (ys ++ [u]).toArray := by rw [← List.push_toArray]; exact hl2
  exact hQ.fin _ _ _ ρ1 (ys ++ [u]) _ z (g1.nil.trans g2) S2 ((h.env.go h.sim g1).shift X Z.cells Z.loc (fun a ma o e => (hs2.2 a fun q => Z.notin (q ▸ ma)).trans e) Z.sub Z.fp1) hl2' ((RVs.mono (g1.ext0.trans X) L ys rl).append (RVs.one (RV.mono X _ _ r1)))

theorem codeC_compStart {elt : Expr} {gens : List Comprehension} {scope : Scope} {pos : Pos} {d : Nat} {it acc : Value} {env : Env} {t src : Expr} {ifs : List Expr} {R : Result → Shared → Prop} (hg : gens[d]? = some ⟨t, src, ifs, 0⟩)
    (h0 : codeC (model prog w) A (.compLoop (.ListComp elt gens scope pos) d it acc env) R s)
    (h : ∀ {E : Value → Shared → Prop}, wpAny (model prog w) A (pyIter it) (fun it' s' => codeC (model prog w) A (.compLoop (.ListComp elt gens scope pos) d it' acc env) R s') E s) :
    codeC (model prog w) A (.compStart (.ListComp elt gens scope pos) d it acc env) R s := by
  refine codeC_of_tree ?_ rfl
  show wpC _ A ((compStart (.ListComp elt gens scope pos) d it acc env).onRaise (fun x => do noteFrame x env; standAt theWindowsPlace)) _ _ s
  refine wpC_onRaise (wpC_mono (E := fun _ _ => False) ?_ (fun _ _ q => q) fun _ _ f => f.elim)
  have e1 : compStart (.ListComp elt gens scope pos) d it acc env = (do
      if (← ask).params.followText "comprehension-iter-twice" then return ← again (.compLoop (.ListComp elt gens scope pos) d it acc env)
      rule "comprehension.iter-twice"
      standAt src.pos
      again (.compLoop (.ListComp elt gens scope pos) d (← pyIter it) acc env)) := by
    unfold compStart
    show (if ((gens[d]?).elim false (·.is_async != 0)) = true then _ else _) = _
    rw [hg]
    have : ((clausesOf (.ListComp elt gens scope pos))[d]?) = some ⟨t, src, ifs, 0⟩ := hg
    rw [this]
    rfl
  rw [e1]
  refine wpC_then (wpAny_askSetting ?_)
  split
  · exact wpC_bind (wpC_pure (wpC_pure ⟨rfl, h0⟩))
  · exact wpC_bind (wpC_rule (wpC_bind (wpC_standAt (wpC_then (wpAny_mono h (fun it' s' h' => wpC_pure ⟨rfl, h'⟩) fun _ _ x => x)))))

/-- a comprehension's turns -/
theorem comp_loop {elt : Expr} {gens gs : List Comprehension} {scope : Scope} {pos : Pos} {d : Nat} {I : Value} {D : Addr} {t src : Expr} {ifs : List Expr} {v : AV} {l : List AV} {J : Nat → List Addr → HH → Heap → Prop} {H1 : HH} {N : Sc → Prop} {R : Result → Shared → Prop}
    (hA : Ok A n) (LI : LoopIt prog w base A Φ false v l I own J) (hg : gens[d]? = some ⟨t, src, ifs, 0⟩) (ha : ∀ g ∈ gens, g.is_async = 0) (ht : ∀ e ∈ ifs, TestOk prog w base n C sc e) (hin : InnerOk prog w base n C sc elt gens scope pos (d + 1) gs)
    (h0 : ∀ a ∈ own, s₀.heap.get? a = none) (Z : Lies Φ Φ0 D env sc) (hR : CompEnds prog w base ρ₀ Φ D env sc s₀ N (R (.ok .next))) :
    ∀ (r : List AV) (i : Nat) {ρ : List Addr} {m : Loc} {H : HH} {L : List AV} {ys : List Value} {s : Shared}, l.drop i = r → i ≤ l.length → Go ρ₀ ρ [D, env.locals] s₀ s → Sim prog w base ρ (own ++ Φ) H s.heap → EnvOk prog w s.heap ρ (own ++ Φ) [env.locals] env sc m → J i ρ H s.heap → still H1 v H →
      s.heap.PlainList D ys.toArray → RVs prog w s.heap ρ (own ++ Φ) L ys →
      loopP (fun s : Sc => still H1 v s.2.1)
        (fun x s N => bindT sc t x s.1 fun m => evt C sc ifs m s.2.1 fun b H => ifP b (evc C sc (fun m H Q => ev C sc false elt m H Q) gs m H s.2.2 N) (N (m, H, s.2.2))) r (m, H, L) N →
      codeC (model prog w) A (.compLoop (.ListComp elt gens scope pos) d I (.ref D) env) R s := by
  have hDown : D ∉ own := fun q => LI.apart D q Z.mem
  have ZO := Z.more (own := own)
  intro r
  induction r with
  | nil =>
    intro i ρ m H L ys s hd hi g S X j hs hl rl e
    have hil : i = l.length := Nat.le_antisymm hi (List.drop_eq_nil_iff.mp hd)
    subst hil
    refine codeC_of_tree ?_ rfl
    show wpC _ A ((compTurn (.ListComp elt gens scope pos) d I (.ref D) env).onRaise (fun x => do noteFrame x env; theTreesLotGoes x)) _ _ s
    refine wpC_onRaise (wpC_mono (E := fun _ _ => False) ?_ (fun _ _ q => q) fun _ _ f => f.elim)
    rw [compTurn_gen hg ha]
    refine wpC_bind (wpC_standAt (wpC_bind (wpC_mono (E := fun _ _ => False) (wpC_of_any (LI.done S j (Q := fun s1 => R (.ok .next) s1) fun s1 k ho hgn => ?_)) (fun o s1 ho => ?_) fun _ _ f => f.elim)))
    · have keep : ∀ a ∈ Φ, ∀ o, s.heap.get? a = some o → s1.heap.get? a = some o := fun a m o e => k a o (fun q => LI.apart a q m) e
      exact hR.fin m H L ρ ys s1 e (Go.gone (k0 := h0) g k ho hgn) (S.done LI.apart k) (X.shift (Ext.gone k) Z.cells Z.loc (fun a ma o e => keep a (Z.sub a ma) o e) Z.sub Z.fp1) (hl.imp fun _ e => keep D Z.mem _ e) (rl.mono (Ext.gone k))
    · obtain ⟨rfl, hc⟩ := ho
      exact wpC_pure hc
  | cons x r ih =>
    intro i ρ m H L ys s hd hi g S X j hs hl rl e
    obtain ⟨hlt, hx, hr⟩ := drop_hd hd
    refine codeC_of_tree ?_ rfl
    show wpC _ A ((compTurn (.ListComp elt gens scope pos) d I (.ref D) env).onRaise (fun x => do noteFrame x env; theTreesLotGoes x)) _ _ s
    refine wpC_onRaise (wpC_mono (E := fun _ _ => False) ?_ (fun _ _ q => q) fun _ _ f => f.elim)
    rw [compTurn_gen hg ha]
    refine wpC_bind (wpC_standAt (wpC_bind (wpC_mono (E := fun _ _ => False) (wpC_of_any (LI.item (fun q => nomatch q) hlt S j (tgt := t) (Q := fun u s1 => Go ρ ρ own s s1 ∧ Sim prog w base ρ (own ++ Φ) H s1.heap ∧ J (i + 1) ρ H s1.heap ∧ RV prog w s1.heap ρ (own ++ Φ) l[i] u) fun u s1 a b c d => ⟨a, b, c, d⟩)) (fun o s1 ho => ?_) fun _ _ f => f.elim)))
    obtain ⟨u, rfl, hgo⟩ := ho
    dsimp only
    refine wpC_then (wpAny_mono hgo (fun _ s2 hh => ?_) fun _ _ f => f.elim)
    obtain ⟨g1, S1, j1, r1⟩ := hh
    rw [hx] at r1
    have hDr : D ∉ ρ := fun q => S.apart D q ZO.mem
    have E1 : Ext ρ (own ++ Φ) s.heap ρ (own ++ Φ) s2.heap := g1.step.ext fun a m => List.mem_append.mpr (.inl m)
    have X1 : EnvOk prog w s2.heap ρ (own ++ Φ) [env.locals] env sc m := X.shift E1 Z.cells Z.loc (fun a ma o e => g1.step.keep a o e (fun q => S.apart a q (ZO.sub a ma)) fun q => LI.apart a q (Z.sub a ma)) ZO.sub Z.fp1
    have gl1 := list_stays hl g1 hDr hDown
    have rl1 := rl.mono E1
    have ga := g.afterOwn g1 h0
    clear X hl rl E1 g1 S g
    refine wpC_then (bindT_ok hA X1 S1 r1 e fun m2 s3 z g2 S2 X2 => ?_)
    have g2' : Go ρ ρ [D, env.locals] s2 s3 := g2.wider fun a ma => .tail _ ma
    have j2 := LI.go S1 j1 g2'.step Z.fp2 S2 (still_refl _ _)
    have gl2 := list_stays gl1 g2 hDr fun q => Z.ne (List.mem_singleton.mp q)
    have rl2 := rl1.mono (g2'.step.ext ZO.fp2)
    have gb := ga.trans g2'
    clear X1 S1 j1 r1 gl1 rl1 ga g2 g2'
    refine wpC_bind (tests_ok ht z ⟨hA, X2, S2⟩ fun b H3 ρ3 s4 z g3 S3 => ?_)
    have X3 := X2.go S2 g3
    have gl3 := list_stays gl2 g3 hDr fun q => nomatch q
    have rl3 := rl2.mono g3.ext0
    have j3 : ∀ H4, still H v H4 → ∀ {ρ4 s5}, Go ρ3 ρ4 [D, env.locals] s4 s5 → Sim prog w base ρ4 (own ++ Φ) H4 s5.heap → J (i + 1) ρ4 H4 s5.heap := fun H4 hst ρ4 s5 g4 S4 => LI.go S2 j2 (g3.nil.trans g4).step Z.fp2 S4 hst
    have gc := gb.trans g3.nil
    cases b with
    | false =>
      rw [if_neg (by decide)]
      exact wpC_bind (wpC_pure (wpC_pure ⟨rfl, ih (i + 1) hr hlt gc S3 X3 (j3 H3 (still_trans hs z.1) .refl S3) z.1 gl3 rl3 z.2⟩))
    | true =>
      rw [if_pos rfl]
      exact wpC_bind (hin z ⟨hA, X3, S3⟩ ZO gl3 rl3 ⟨fun m4 H4 L4 ρ4 ys4 s5 z g4 S4 X4 gl4 rl4 => wpC_pure ⟨rfl, ih (i + 1) hr hlt (gc.trans g4) S4 X4 (j3 H4 (still_trans hs z.1) g4 S4) z.1 gl4 rl4 z.2⟩⟩)
end
end

-- Cl15
section
open PySem PySem.Calls PySem.W PyProof.Rows PySem.SeqAt
open Sem (wp)

section
variable {prog : Program} {w : World} {K : Frag} {base h h' : Heap} {n : Nat} {C : Cx} {A : Around} {E : Value → Shared → Prop}
  {ρ ρ' ρ₀ Φ Φ0 Ψ Ψ' fp own : List Addr} {env : Env} {sc : Names} {m m' : Loc} {H H' : HH} {s s' s₀ : Shared}

theorem inner_cons {elt : Expr} {gens gs : List Comprehension} {scope : Scope} {pos : Pos} {d : Nat} {t it : Expr} {ifs : List Expr} (h1 : EvOk prog w base n C sc it) (ht : ∀ e ∈ ifs, TestOk prog w base n C sc e)
    (hg : gens[d]? = some ⟨t, it, ifs, 0⟩) (ha : ∀ g ∈ gens, g.is_async = 0) (hin : InnerOk prog w base n C sc elt gens scope pos (d + 1) gs) : InnerOk prog w base n C sc elt gens scope pos d (⟨t, it, ifs, 0⟩ :: gs) := by
  intro A E ρ Φ Φ0 env m H s D ys L N Q e h Z hl rl hQ
  have e : ev C sc false it m H fun v H0 => srcP H0 v fun xs => loopP (fun s : Sc => still H0 (watch v) s.2.1)
        (fun x s N => bindT sc t x s.1 fun m => evt C sc ifs m s.2.1 fun b H => ifP b (evc C sc (fun m H Q => ev C sc false elt m H Q) gs m H s.2.2 N) (N (m, H, s.2.2))) xs (m, H0, L) N := e
  have ns := fun x => not_set (env := env) e x
  unfold compInner
  rw [hg]
  dsimp only
  refine wpC_bind (h1 e h fun v H1 ρ1 u s1 z g1 S1 r1 => src_ok (tup := false) h.ok S1 g1 r1 z fun l z hsrc => wpC_bind (wpC_standAt (wpC_bind (wpC_of_eq (ns u) (wpC_bind (wpC_holding (wpC_of_any (hsrc.iter fun I own J s2 LI hnew g S j => ?_))))))))
  have LI0 := LI [] fun _ q => nomatch q
  have E1 : Ext ρ Φ s.heap ρ1 (own ++ Φ) s2.heap := Ext.addOwn g.ext0 hnew
  have X2 : EnvOk prog w s2.heap ρ1 (own ++ Φ) [env.locals] env sc m := h.env.shift E1 Z.cells Z.loc (fun a ma o e => g.step.keep a o e (fun q => h.sim.apart a q (Z.sub a ma)) fun q => nomatch q) (Z.more).sub Z.fp1
  have gl2 := list_stays hl g (fun q => h.sim.apart D q Z.mem) fun q => nomatch q
  have loop : codeC (model prog w) A (.compLoop (.ListComp elt gens scope pos) d I (.ref D) env) (fun r s' => match r with | .ok f => Q () s' | .error e => False) s2 :=
    comp_loop h.ok LI0 hg ha ht hin hnew Z (R := fun r s' => match r with | .ok f => Q () s' | .error e => False) hQ l 0 rfl (Nat.zero_le _) g.nil S X2 (j [] s2.heap (fun _ q => nomatch q) fun _ _ e => e) (still_refl _ _) gl2 (rl.mono E1) z
  refine wpC_bind (wpC_runOwn (Q := fun _ s' => wpC (model prog w) A (pure ()) Q E s') ?_)
  refine codeC_mono (codeC_compStart hg loop (LI0.self (j [] s2.heap (fun _ q => nomatch q) fun _ _ e => e) loop)) fun r s' hr => ?_
  cases r with
  | ok f => exact wpC_pure hr
  | error e => exact hr

theorem closure_go {names : Names} : ∀ (cs : List (Str × Addr)), (∀ x, (x, NameKind.free) ∈ names → ∃ c, env.cells.lookup x = some c) → (∀ x c, cs.lookup x = some c → env.cells.lookup x = some c) →
    ∃ cl, (forIn names cs fun (x : Str × NameKind) (r : List (Str × Addr)) => (match x with
      | (name, kind) => if (kind == .free) = true then do let c ← cellOf env name; pure (ForInStep.yield ((name, c) :: r)) else pure (ForInStep.yield r) : Sem (ForInStep (List (Str × Addr))))) = pure cl ∧
      (∀ x c, cl.lookup x = some c → env.cells.lookup x = some c) ∧ (∀ x, ((x, NameKind.free) ∈ names ∨ (cs.lookup x).isSome) → (cl.lookup x).isSome) := by
  induction names with
  | nil => intro cs _ hcs; exact ⟨cs, rfl, hcs, fun x hx => hx.elim (fun q => nomatch q) id⟩
  | cons y r ih =>
    intro cs hf hcs
    obtain ⟨x, k⟩ := y
    by_cases hk : k = .free
    · subst hk
      obtain ⟨c, hc⟩ := hf x (.head _)
      obtain ⟨cl, e, h1, h2⟩ := ih ((x, c) :: cs) (fun y hy => hf y (.tail _ hy)) fun y c' hy => by
        simp only [List.lookup_cons] at hy
        cases hyx : y == x with
        | true => rw [hyx] at hy; cases hy; rw [beq_iff_eq] at hyx; rw [hyx]; exact hc
        | false => rw [hyx] at hy; exact hcs y c' hy
      refine ⟨cl, ?_, h1, fun y hy => h2 y ?_⟩
      · rw [List.forIn_cons]
        unfold cellOf
        simp only [beq_self_eq_true, if_true, hc, pure_bind]
        exact e
      · rcases hy with hy | hy
        · rcases List.mem_cons.mp hy with hy | hy
          · cases hy; right; simp [List.lookup_cons]
          · exact .inl hy
        · right
          simp only [List.lookup_cons]
          cases hyx : y == x with
          | true => rfl
          | false => exact hy
    · obtain ⟨cl, e, h1, h2⟩ := ih cs (fun y hy => hf y (.tail _ hy)) hcs
      refine ⟨cl, ?_, h1, fun y hy => h2 y ?_⟩
      · rw [List.forIn_cons]
        have : (k == NameKind.free) = false := by simpa using hk
        simp only [this, Bool.false_eq_true, if_false, pure_bind]
        exact e
      · rcases hy with hy | hy
        · rcases List.mem_cons.mp hy with hy | hy
          · cases hy; exact absurd rfl hk
          · exact .inl hy
        · exact .inr hy

theorem mem_names {l : Names} {x : Str} {k : NameKind} (h : (x, k) ∈ l) : x ∈ l.map (·.1) := List.mem_map.mpr ⟨(x, k), h, rfl⟩
theorem lookup_of_mem : ∀ {l : Names} {x : Str} {k : NameKind}, (l.map (·.1)).Nodup → (x, k) ∈ l → l.lookup x = some k
  | [], _, _, _, h => nomatch h
  | (y, k') :: r, x, k, hn, h => by
    simp only [List.map_cons, List.nodup_cons] at hn
    rw [List.lookup_cons]
    rcases List.mem_cons.mp h with h1 | h1
    · cases h1; simp
    · have : (x == y) = false := by
        rw [beq_eq_false_iff_ne]
        intro q
        exact hn.1 (q ▸ mem_names h1)
      rw [this]
      exact lookup_of_mem hn.2 h1
theorem captured_free {r : Names} {y : Str} {v : AV} (h : get y m = some v) : captured ((y, .free) :: r) m = (y, v) :: captured r m :=
  List.filterMap_cons_some (by show (get y m).map (fun v => (y, v)) = _; rw [h]; rfl)
theorem captured_none {r : Names} {y : Str} (h : get y m = none) : captured ((y, .free) :: r) m = captured r m :=
  List.filterMap_cons_none (by show (get y m).map (fun v => (y, v)) = _; rw [h]; rfl)
theorem captured_other {r : Names} {y : Str} {k : NameKind} (hk : k ≠ .free) : captured ((y, k) :: r) m = captured r m :=
  List.filterMap_cons_none (by show (bif k == .free then (get y m).map (fun v => (y, v)) else none) = _; rw [beq_eq_false_iff_ne.mpr hk]; rfl)
theorem get_hit {x : Str} {v : AV} {r : Loc} : get x ((x, v) :: r) = some v := get_put_self x v r
theorem get_miss {x y : Str} {v : AV} {r : Loc} (h : x ≠ y) : get x ((y, v) :: r) = get x r := get_put_ne v h r
theorem captured_not : ∀ {r : Names} {x : Str}, (∀ z ∈ r, z.1 = x → z.2 ≠ .free) → get x (captured r m) = none
  | [], _, _ => rfl
  | (y, k) :: r, x, h => by
    have ih := captured_not (r := r) fun z hz => h z (.tail _ hz)
    by_cases hk : k = .free
    · subst hk
      cases hg : get y m with
      | none => rw [captured_none hg]; exact ih
      | some v => rw [captured_free hg, get_miss fun q => h (y, .free) (.head _) q.symm rfl]; exact ih
    · rw [captured_other hk]; exact ih
theorem get_captured_free : ∀ {l : Names} {x : Str}, (l.map (·.1)).Nodup → (x, NameKind.free) ∈ l → get x (captured l m) = get x m
  | [], _, _, h => nomatch h
  | (y, k) :: r, x, hn, h => by
    rw [List.map_cons, List.nodup_cons] at hn
    by_cases hxy : x = y
    · subst hxy
      have hk : k = .free := by
        rcases List.mem_cons.mp h with h | h
        · cases h; rfl
        · exact absurd (mem_names h) hn.1
      subst hk
      cases hg : get x m with
      | none => rw [captured_none hg]; exact captured_not fun z hz hzx => absurd (hzx ▸ mem_names (k := z.2) hz) hn.1
      | some v => rw [captured_free hg, get_hit]
    · have h : (x, NameKind.free) ∈ r := by
        rcases List.mem_cons.mp h with h | h
        · cases h; exact absurd rfl hxy
        · exact h
      have ih := get_captured_free hn.2 h
      by_cases hk : k = .free
      · subst hk
        cases hg : get y m with
        | none => rw [captured_none hg]; exact ih
        | some v => rw [captured_free hg, get_miss hxy]; exact ih
      · rw [captured_other hk]; exact ih
theorem get_captured_local {l : Names} {x : Str} {k : NameKind} (hn : (l.map (·.1)).Nodup) (h : (x, k) ∈ l) (hk : k ≠ .free) : get x (captured l m) = none := by
  refine captured_not fun z hz hzx => ?_
  obtain ⟨z, k'⟩ := z
  cases hzx
  have e1 := lookup_of_mem hn h
  have e2 := lookup_of_mem hn hz
  rw [e1] at e2; cases e2; exact hk

variable (prog w) in
noncomputable def compPostC (A : Around) (E : Value → Shared → Prop) (use : Option (Value → Sem Unit)) (Q : Value → Shared → Prop) (acc : Value) (C : Addr) (r : Result) (s' : Shared) : Prop :=
  match r, use with
  | .ok _, none => ∃ m, s'.heap.Ns C m ∧ ∀ h' m', h'.Ns C m' → Heap.SameBut C s'.heap h' → Q acc { s' with heap := h' }
  | .ok _, some u => wpC (model prog w) A (u acc) (fun _ s'' => ∃ m, s''.heap.Ns C m ∧ ∀ h' m', h'.Ns C m' → Heap.SameBut C s''.heap h' → Q .none { s'' with heap := h' }) E s'
  | .error x, _ => False

theorem wpC_comprehension {e : Expr} {scope : Scope} {pos : Pos} {newAcc first : Sem Value} {g : Comprehension} {gs : List Comprehension} {cl : List (Str × Addr)} {use : Option (Value → Sem Unit)}
    {Q : Value → Shared → Prop}
    (hcl : clausesOf e = g :: gs) (hclos : closureFor scope env = pure cl)
    (hkind : scope.kind = .function) (hnames : ∀ x ∈ scope.names, x.2 = .local → scope.names.lookup x.1 = some .local)
    (h : wpC (model prog w) A first (fun x s₁ => foldedSetIterable g.iter env x = pure x ∧ wpC (model prog w) A (pyIter x) (fun it s₂ => wpC (model prog w) A newAcc (fun acc s₃ =>
      wpC (model prog w) A (newFunctionEnv scope env.globals cl [] env.qual none .none (some env)) (fun cenv s₄ =>
        codeC (model prog w) A (.compStart e 0 it acc { cenv with scope := relabel scope env }) (compPostC prog w A E use Q acc cenv.locals) s₄) E s₃) E s₂) E s₁) E s) :
    wpC (model prog w) A (comprehension e scope env pos newAcc false first use) Q E s := by
  unfold comprehension
  rw [hclos, hcl]
  have standIf : ∀ {α : Type} {c : Prop} [Decidable c] {pos : Pos} {k : PUnit → Sem α} {Q : α → Shared → Prop} {s : Shared}, wpC (model prog w) A (k ()) Q E s → wpC (model prog w) A (if c then (standAt pos >>= k) else k ()) Q E s := by
    intro α c _ pos k Q s h
    split
    · exact wpC_bind (wpC_standAt h)
    · exact h
  refine wpC_bind (wpC_mono h (fun x s₁ h₁ => wpC_bind (wpC_standAt (wpC_bind (wpC_of_eq h₁.1 (wpC_bind (wpC_holding (wpC_mono h₁.2 (fun it s₂ h₂ =>
    standIf (wpC_bind (wpC_mono h₂ (fun acc s₃ h₃ => wpC_bind (wpC_pure (wpC_bind (wpC_mono h₃ (fun cenv s₄ h₄ => ?_) fun _ _ h' => h')))) fun _ _ h' => h')))
      fun _ _ h' => h'))))))) fun _ _ h' => h')
  dsimp only
  have hv : ∀ x ∈ (scope.names.filter fun x => (x.2 == .local || x.2 == .cell) && x.1 != (".0" : Str)).reverse, x.2 = .local →
      Env.kindOf { cenv with scope := relabel scope env } x.1 = some .local := fun x hx hl => lookup_relabel_local (hnames x (List.mem_filter.mp (List.mem_reverse.mp hx)).1 hl)
  have hv' : ∀ x ∈ (scope.names.filter fun x => (x.2 == .local || x.2 == .cell) && x.1 != (".0" : Str)).reverse.drop 1 ++ (scope.names.filter fun x => (x.2 == .local || x.2 == .cell) && x.1 != (".0" : Str)).reverse.take 1,
      x.2 = .local → Env.kindOf { cenv with scope := relabel scope env } x.1 = some .local := fun x hx hl => by
    rcases List.mem_append.mp hx with h1 | h1
    · exact hv x (List.mem_of_mem_drop h1) hl
    · exact hv x (List.mem_of_mem_take h1) hl
  refine wpC_holding (wpC_bind (wpC_attempt (wpC_holding (wpC_run (codeC_mono h₄ fun r s' hr => ?_) (fun x => nomatch x)))))
  cases r with
  | ok f =>
    cases use with
    | none =>
      obtain ⟨m, hn, hr⟩ := hr
      exact wpC_bind (wpC_holding (wpC_of_any (wpAny_comp_letGo (cenv := { cenv with scope := relabel scope env }) hkind _ s' m hv hn fun h' m' hn' hs' => wpC_pure (hr h' m' hn' hs'))))
    | some u =>
      refine wpC_bind (wpC_rule (wpC_bind (wpC_holding (wpC_mono hr (fun _ s'' hr' => ?_) fun _ _ h' => h'))))
      obtain ⟨m, hn, hr'⟩ := hr'
      exact wpC_then (wpAny_comp_letGo (cenv := { cenv with scope := relabel scope env }) hkind _ s'' m hv' hn fun h' m' hn' hs' => wpC_pure (hr' h' m' hn' hs'))
  | error x => cases use <;> exact hr.elim
end
end

-- Cl16
section
open PySem PySem.Calls PySem.W PyProof.Rows PySem.SeqAt
open Sem (wp)

section
variable {prog : Program} {w : World} {K : Frag} {base h h' : Heap} {n : Nat} {C : Cx} {A : Around} {E : Value → Shared → Prop}
  {ρ ρ' ρ₀ Φ Φ0 Ψ Ψ' fp own : List Addr} {env : Env} {sc : Names} {m m' : Loc} {H H' : HH} {s s' s₀ : Shared}

theorem lookup_relabel {env : Env} : ∀ {names : Names} {x : Str} {k : NameKind}, names.lookup x = some k →
    ((k ≠ .free → (names.map fun (n, k) => if (k == NameKind.free && env.scope.kind == .function && env.kindOf n == some .cell) then (n, NameKind.cell) else (n, k)).lookup x = some k) ∧
    (k = .free → (names.map fun (n, k) => if (k == NameKind.free && env.scope.kind == .function && env.kindOf n == some .cell) then (n, NameKind.cell) else (n, k)).lookup x = some .free ∨
      (names.map fun (n, k) => if (k == NameKind.free && env.scope.kind == .function && env.kindOf n == some .cell) then (n, NameKind.cell) else (n, k)).lookup x = some .cell))
  | [], _, _, h => by simp at h
  | (y, k') :: r, x, k, h => by
    have ih := @lookup_relabel env r x k
    simp only [List.map_cons]
    cases hx : x == y with
    | true =>
      simp only [List.lookup_cons, hx] at h
      cases h
      by_cases hc : (k' == NameKind.free && env.scope.kind == .function && env.kindOf y == some .cell) = true
      · rw [if_pos hc]
        simp only [List.lookup_cons, hx]
        have hkf : k' = .free := by simp only [Bool.and_eq_true, beq_iff_eq] at hc; exact hc.1.1
        exact ⟨fun hk => absurd hkf hk, fun _ => .inr trivial⟩
      · rw [if_neg hc]
        simp only [List.lookup_cons, hx]
        exact ⟨fun _ => trivial, fun hk => .inl (by rw [hk])⟩
    | false =>
      simp only [List.lookup_cons, hx] at h
      by_cases hc : (k' == NameKind.free && env.scope.kind == .function && env.kindOf y == some .cell) = true
      · rw [if_pos hc]
        simp only [List.lookup_cons, hx]
        exact ih h
      · rw [if_neg hc]
        simp only [List.lookup_cons, hx]
        exact ih h

structure CScope (sc : Names) (scope : Scope) : Prop where
  kind : scope.kind = .function
  nodup : (scope.names.map (·.1)).Nodup
  noCell : ∀ x k, (x, k) ∈ scope.names → k ≠ .cell
  free : ∀ x, (x, NameKind.free) ∈ scope.names → sc.lookup x = some .cell ∨ sc.lookup x = some .free
  tame : ∀ x ∈ scope.names, (x.1 == ("__debug__" : Str)) = false ∧ (x.1 == ("__classdict__" : Str)) = false
theorem CScope.of {scope : Scope} (h : compScope sc scope = true) : CScope sc scope := by
  obtain ⟨h, h3⟩ := and_e h
  obtain ⟨h1, h2⟩ := and_e h
  have h3 : ∀ x ∈ scope.names, (x.2 ≠ .cell ∧ (x.2 = .free → sc.lookup x.1 = some .cell ∨ sc.lookup x.1 = some .free)) ∧ (x.1 == ("__debug__" : Str)) = false ∧ (x.1 == ("__classdict__" : Str)) = false := fun x m => by
    obtain ⟨q, q4⟩ := and_e (List.all_eq_true.mp h3 x m)
    obtain ⟨q, q3⟩ := and_e q
    obtain ⟨q1, q2⟩ := and_e q
    refine ⟨⟨bne_iff_ne.mp q1, fun hf => ?_⟩, (Bool.not_eq_true' _).mp q3, (Bool.not_eq_true' _).mp q4⟩
    rw [hf] at q2
    exact ((Bool.or_eq_true ..).mp q2).imp beq_iff_eq.mp beq_iff_eq.mp
  exact ⟨beq_iff_eq.mp h1, of_decide_eq_true h2, fun x k m => (h3 _ m).1.1, fun x m => (h3 _ m).1.2 rfl, fun x m => (h3 _ m).2⟩

theorem comp_env {scope : Scope} {cl : List (Str × Addr)} {L : Addr} (X : EnvOk prog w h ρ Φ fp env sc m) (c : CScope sc scope) (h1 : ∀ x c, cl.lookup x = some c → env.cells.lookup x = some c)
    (h2 : ∀ x, (x, NameKind.free) ∈ scope.names → (cl.lookup x).isSome) (EX : Ext ρ Φ h ρ' Ψ h') (hk : ∀ a ∈ Φ, ∀ o, h.get? a = some o → h'.get? a = some o) (hΦ : ∀ a ∈ Φ, a ∈ Ψ) (hns : h'.Ns L fun _ => none) (hL : L ∈ Ψ) (hLΦ : L ∉ Φ) :
    EnvOk prog w h' ρ' Ψ [L] { newEnv scope L env.globals cl env.qual none .none (some env) builtinsNs with scope := relabel scope env } scope.names (captured scope.names m) := by
  have cell : ∀ x, scope.names.lookup x = some .cell ∨ scope.names.lookup x = some .free → (x, NameKind.free) ∈ scope.names := fun x hx => by
    rcases hx with hx | hx
    · exact absurd rfl (c.noCell x _ (lookup_mem hx))
    · exact lookup_mem hx
  refine ⟨c.kind, X.glob, X.bi, fun x hx => (lookup_relabel (env := env) hx).1 (by decide), fun x hx => absurd rfl (c.noCell x _ (lookup_mem hx)), fun x hx => (lookup_relabel (env := env) hx).2 rfl, fun x hx => (lookup_relabel (env := env) hx).1 (by decide),
    ⟨_, hns, fun x hx => ?_⟩, fun x hx => ?_, fun x c' hx => absurd rfl (c.noCell x _ (lookup_mem hx)), fun x y c' _ _ hx => absurd rfl (c.noCell x _ (lookup_mem hx)), .head _, fun a ma => by rw [List.mem_singleton.mp ma]; exact hL, c.tame⟩
  · rw [get_captured_local c.nodup (lookup_mem hx) (by decide)]; exact trivial
  · have hf := cell x hx
    obtain ⟨c', ov, e1, ⟨o, g, d⟩, r, mΦ, ne⟩ := X.cells x (c.free x hf)
    obtain ⟨c2, e2⟩ := Option.isSome_iff_exists.mp (h2 x hf)
    have e3 := h1 x c2 e2
    rw [e1] at e3; cases e3
    exact ⟨c', ov, e2, ⟨o, hk c' mΦ o g, d⟩, by rw [get_captured_free c.nodup hf]; exact r.mono EX, hΦ c' mΦ, fun q => hLΦ ((show c' = L from q) ▸ mΦ)⟩

variable (prog w base n) in
noncomputable def GenOk (C : Cx) (sc : Names) (elt : Expr) (gens : List Comprehension) (scope : Scope) (pos : Pos) : Prop := match gens with
  | ⟨t, it, ifs, a⟩ :: gs => a = 0 → (gs.all fun g => g.is_async == 0) = true → EvOk prog w base n C sc it ∧ (∀ e ∈ ifs, TestOk prog w base n C scope.names e) ∧ InnerOk prog w base n C scope.names elt gens scope pos 1 gs ∧ ∀ g ∈ gens, g.is_async = 0
  | [] => True

theorem comp_ok {elt : Expr} {gens : List Comprehension} {scope : Scope} {pos : Pos} {b : Bool} {P : AV → HH → Prop} {use : Option (Value → Sem Unit)} {Q : Value → Shared → Prop} (hg : GenOk prog w base n C sc elt gens scope pos)
    (e : ev C sc b (.ListComp elt gens scope pos) m H P) (h : Here prog w base n A ρ Φ fp env sc m H s)
    (hfin : ∀ v H' ρ' D L s', P v H' → Go ρ ρ' [] s s' → Sim prog w base ρ' ([L] ++ Φ) H' s'.heap → RV prog w s'.heap ρ' ([L] ++ Φ) v (.ref D) → D ≠ L → (∃ m, s'.heap.Ns L m) → L ∉ Φ → s.heap.get? L = none → compPostC prog w A E use Q (.ref D) L (.ok .next) s') :
    wpC (model prog w) A (comprehension (.ListComp elt gens scope pos) scope env (firstIterPos gens pos) (newList []) (firstAsync gens) (firstIter gens env) use) Q E s := by
  cases gens with
  | nil => exact e.elim
  | cons g gs =>
    obtain ⟨t, it, ifs, a⟩ := g
    refine ifT_e e fun hc e1 => ?_
    obtain ⟨hc, hga⟩ := and_e hc
    obtain ⟨h0, hsc⟩ := and_e hc
    cases beq_iff_eq.mp h0
    have c := CScope.of hsc
    obtain ⟨h1, ht, hin, ha⟩ := hg rfl hga
    obtain ⟨cl, ec, hcl1, hcl2⟩ := closure_go (env := env) (names := scope.names) [] (fun x hx => let ⟨c', _, e, _⟩ := h.env.cells x (c.free x hx); ⟨c', e⟩) fun x c hx => nomatch hx
    have hclos : closureFor scope env = pure cl := by unfold closureFor; exact (bind_pure _).trans ec
    show wpC _ _ (comprehension (.ListComp elt (⟨t, it, ifs, 0⟩ :: gs) scope pos) scope env it.pos (newList []) false (eval it env) use) Q E s
    refine wpC_comprehension (g := ⟨t, it, ifs, 0⟩) (gs := gs) rfl hclos c.kind (fun x hx hl => by obtain ⟨x, k⟩ := x; cases hl; exact lookup_of_mem c.nodup hx) ?_
    have ns := fun x => not_set (env := env) e1 x
    refine h1 e1 h fun v H1 ρ1 u s1 z g1 S1 r1 => src_ok (tup := false) h.ok S1 g1 r1 z fun l z hsrc => ⟨ns u, wpC_of_any (hsrc.iter fun I own J s2 LI hnew g S j => ?_)⟩
    clear g1 S1 r1 hsrc e e1 ns
    refine wpC_of_any (wpAny_newList (wpC_of_any (wpAny_newFunctionEnv (fun x hx => by obtain ⟨x, k⟩ := x; exact c.noCell x k hx) (fun x hx => nomatch hx) (fun h4 hns hsb => ?_) c.kind)) (by simp [sizeLine]))
    dsimp only at hns hsb ⊢
    have hns : h4.Ns (s2.heap.push { cls := .type "list", data := .seq ([] : List Value).toArray }).objs.size fun _ => none := hns
    generalize hD : s2.heap.objs.size = D at *
    have szL : (s2.heap.push { cls := .type "list", data := .seq ([] : List Value).toArray }).objs.size = D + 1 := by rw [Heap.size_push, hD]
    generalize hHL : s2.heap.push { cls := .type "list", data := .seq ([] : List Value).toArray } = HL at *
    generalize hL : HL.objs.size = L at *
    have hLD : L = D + 1 := by rw [← hL, ← hHL, Heap.size_push, hD]
    have nD : s2.heap.get? D = none := by rw [← hD]; exact get_size_none _
    have nL : s2.heap.get? L = none := by rw [hLD, ← hD]; exact Heap.get?_none_of_le (Nat.le_succ _)
    have keep24 : ∀ a o, s2.heap.get? a = some o → h4.get? a = some o := fun a o e => by
      have l1 := Heap.lt_size e
      rw [hD] at l1
      refine (hsb.2 a (Nat.ne_of_lt (by rw [hLD]; exact Nat.lt_succ_of_lt l1))).trans ?_
      refine Heap.get?_push_of_some _ ?_
      rw [← hHL]; exact Heap.get?_push_of_some _ e
    have LL : h4.PlainList D ([] : List Value).toArray := ⟨0, (hsb.2 D (by rw [hLD]; exact Nat.ne_of_lt (Nat.lt_succ_self _))).trans (Heap.get?_push_of_some _ (by rw [← hHL, ← hD]; exact Heap.get?_push_size _ rfl))⟩
    have hLlive : ∃ o, h4.get? L = some o := let ⟨o, _, _, e, _⟩ := hns; ⟨o, e⟩
    have dead : ∀ a ∈ [D, L], s2.heap.get? a = none := fun a ma => by
      rcases List.mem_cons.mp ma with rfl | ma
      · exact nD
      · rw [List.mem_singleton.mp ma]; exact nL
    have dead0 : ∀ a ∈ [D, L], s.heap.get? a = none := fun a ma => by
      cases e0 : s.heap.get? a with
      | none => rfl
      | some o =>
        obtain ⟨o', e'⟩ := g.step.lives _ _ e0
        rw [dead a ma] at e'; cases e'
    have notΦ : ∀ a ∈ [D, L], a ∉ own ++ Φ := fun a ma mΦ => by
      obtain ⟨o, e⟩ := S.live a mΦ
      rw [dead a ma] at e; cases e
    have LI4 := LI [D, L] dead
    have j4 := j [D, L] h4 dead keep24
    have hDL : D ≠ L := by rw [hLD]; exact Nat.ne_of_lt (Nat.lt_succ_self _)
    have EX : Ext ρ Φ s.heap ρ1 (own ++ ([D, L] ++ Φ)) h4 := (Ext.addOwn g.ext0 hnew).trans (Ext.more dead keep24)
    have mΨ : ∀ a ∈ [D, L], a ∈ own ++ ([D, L] ++ Φ) := fun a ma => List.mem_append.mpr (.inr (List.mem_append.mpr (.inl ma)))
    have S4 : Sim prog w base ρ1 (own ++ ([D, L] ++ Φ)) H1 h4 := by
      have S3 : Sim prog w base ρ1 ([D, L] ++ (own ++ Φ)) H1 h4 := S.addOwn keep24 dead fun a ma => by
        rcases List.mem_cons.mp ma with rfl | ma
        · obtain ⟨k, e⟩ := LL; exact ⟨_, e⟩
        · rw [List.mem_singleton.mp ma]; exact hLlive
      have mm : ∀ a, a ∈ own ++ ([D, L] ++ Φ) ↔ a ∈ [D, L] ++ (own ++ Φ) := fun a => by simp only [List.mem_append]; constructor <;> (rintro (h | h | h) <;> simp [h])
      have XX : Ext ρ1 ([D, L] ++ (own ++ Φ)) h4 ρ1 (own ++ ([D, L] ++ Φ)) h4 := ⟨fun _ _ e _ => e, fun _ _ e => e, fun a _ _ f => ⟨f.1, fun q => f.2 ((mm a).mp q)⟩⟩
      exact ⟨S3.len, S3.nodup, fun a ma q => S3.apart a ma ((mm a).mp q), fun a q => S3.live a ((mm a).mp q), fun b o e => ⟨(S3.base b o e).1, XX.res b o (S3.base b o e).1 (S3.base b o e).2⟩, S3.sysm, fun i a o e1 e2 => (S3.rep i a o e1 e2).mono XX fun _ e => e⟩
    have X4 := comp_env (L := L) (Ψ := own ++ ([D, L] ++ Φ)) (h' := h4) h.env c hcl1 (fun x hx => hcl2 x (.inl hx)) EX (fun a ma o e => keep24 a o (g.step.keep a o e (fun q => h.sim.apart a q ma) fun q => nomatch q)) (fun a ma => List.mem_append.mpr (.inr (List.mem_append.mpr (.inr ma)))) hns (mΨ _ (.tail _ (.head _))) fun q => notΦ L (.tail _ (.head _)) (List.mem_append.mpr (.inr q))
    have hcells : Cells (L :: Φ) { newEnv scope L env.globals cl env.qual none .none (some env) builtinsNs with scope := relabel scope env } scope.names := fun x c' hx hc' => by
      have hf : (x, NameKind.free) ∈ scope.names := by
        rcases hx with hx | hx
        · exact absurd rfl (c.noCell x _ (lookup_mem hx))
        · exact lookup_mem hx
      exact .tail _ (h.env.cellsIn x c' (c.free x hf) (hcl1 x c' hc'))
    have g4 : Go ρ ρ1 [] s { s2 with heap := h4 } := g.trans (.keep (t := s2.toks) keep24)
    have loop : ∀ s4 : Shared, s4 = { s2 with heap := h4, toks := s2.toks + ([] : List (Str × Value)).length } → codeC (model prog w) A (.compLoop (.ListComp elt (⟨t, it, ifs, 0⟩ :: gs) scope pos) 0 I (.ref D) { newEnv scope L env.globals cl env.qual none .none (some env) builtinsNs with scope := relabel scope env }) (compPostC prog w A E use Q (.ref D) L) s4 := by
      rintro s4 rfl
      refine comp_loop (Φ := [D, L] ++ Φ) (Φ0 := L :: Φ) (s₀ := s) h.ok LI4 rfl ha ht hin hnew ⟨hcells, .head _, fun q => ?_, fun a ma => ?_, .head _⟩ ⟨?_⟩ l 0 rfl (Nat.zero_le _) (g4.nil.trans (.toks _)) S4 X4 j4 (still_refl _ _) (ys := []) LL (L := []) rfl z
      · rcases List.mem_cons.mp q with q | q
        · exact hDL q
        · exact notΦ D (.head _) (List.mem_append.mpr (.inr q))
      · rcases List.mem_cons.mp ma with rfl | ma
        · exact .tail _ (.head _)
        · exact .tail _ (.tail _ ma)
      · intro m' H' L' ρ' ys' s' z g' S' X' gl rl
        have hDρ : D ∉ ρ' := fun q => S'.apart D q (.head _)
        have gg : Go ρ ρ' [] s s' := ⟨⟨g'.step.lives, fun a o e f _ => g'.step.keep a o e f fun q => (by rw [dead0 a q] at e; cases e), g'.step.grow⟩, g'.os, g'.gens⟩
        refine hfin _ _ ρ' D L s' z gg (Sim.drop (own := [D]) S') ⟨D, ys', rfl, ⟨hDρ, fun q => ?_⟩, gl, rl.mono (Ext.drop (own := [D]))⟩ hDL (let ⟨mc, hn, _⟩ := X'.ns; ⟨mc, hn⟩) (fun q => notΦ L (.tail _ (.head _)) (List.mem_append.mpr (.inr q))) (dead0 L (.tail _ (.head _)))
        rcases List.mem_cons.mp q with q | q
        · exact hDL q
        · exact notΦ D (.head _) (List.mem_append.mpr (.inr q))
    exact codeC_compStart rfl (loop _ rfl) (LI4.self j4 (loop _ rfl))
end
end

-- Cl17
section
open PySem PySem.Calls PySem.W PyProof.Rows PySem.SeqAt
open Sem (wp)

section
variable {prog : Program} {w : World} {K : Frag} {base h h' : Heap} {n : Nat} {C : Cx} {A : Around} {E : Value → Shared → Prop}
  {ρ ρ' ρ₀ Φ Φ0 Ψ Ψ' fp own : List Addr} {env : Env} {sc : Names} {m m' : Loc} {H H' : HH} {s s' s₀ : Shared}

/-- what the comprehension's frame held is dropped -/
theorem drop_one {L : Addr} {mL : Str → Option Value} {h2 : Heap} {v : AV} {u : Value} (S : Sim prog w base ρ ([L] ++ Φ) H s.heap) (hL : L ∉ Φ) (hn : h2.Ns L mL) (hs : Heap.SameBut L s.heap h2) :
    Sim prog w base ρ Φ H h2 ∧ Ext ρ ([L] ++ Φ) s.heap ρ Φ h2 ∧ Go ρ ρ [L] s { s with heap := h2 } ∧ ∀ a o, a ≠ L → s.heap.get? a = some o → h2.get? a = some o := by
  have k : ∀ a o, a ≠ L → s.heap.get? a = some o → h2.get? a = some o := fun a o f e => (hs.2 a f).trans e
  refine ⟨S.done (fun a ma => by rw [List.mem_singleton.mp ma]; exact hL) fun a o f e => k a o (fun q => f (q ▸ .head _)) e, ⟨fun a o e f => k a o (fun q => f.2 (q ▸ .head _)) e, fun _ _ e => e, fun a o e f => ⟨f.1, fun m => f.2 (.tail _ m)⟩⟩,
    ⟨⟨fun a o e => ?_, fun a o e _ f => k a o (fun q => f (q ▸ .head _)) e, [], by simp, fun _ q => nomatch q⟩, rfl, rfl⟩, k⟩
  by_cases q : a = L
  · obtain ⟨o', _, _, e', _⟩ := hn; exact q ▸ ⟨o', e'⟩
  · exact ⟨o, k a o q e⟩

theorem ev_ListComp {elt : Expr} {gens : List Comprehension} {scope : Scope} {pos : Pos} (hg : GenOk prog w base n C sc elt gens scope pos) : EvOk prog w base n C sc (.ListComp elt gens scope pos) := by
  intro A E ρ Φ fp env m H s P Q e h hQ
  rw [eval_ListComp]
  refine comp_ok (use := none) hg e h fun v H' ρ' D L s' z g S r hDL hns hLΦ hL0 => ?_
  obtain ⟨mL, hns⟩ := hns
  refine ⟨mL, hns, fun h2 m2 hn2 hs2 => ?_⟩
  obtain ⟨S2, X2, g2, _⟩ := drop_one (v := v) (u := .ref D) S hLΦ hn2 hs2
  exact hQ _ _ ρ' _ _ z (g.afterOwn g2 fun a ma => by rw [List.mem_singleton.mp ma]; exact hL0) S2 (RV.mono X2 _ _ r)

theorem constKeys_e {k : Option Expr} {ks : List (Option Expr)} {is : List Int} (e : constKeys (k :: ks) = some is) : ∃ i c p js, k = some (.Constant (.int i) c p) ∧ constKeys ks = some js ∧ is = i :: js := by
  obtain ⟨x, rfl, e⟩ := Option.bind_eq_some_iff.mp e
  cases x with
  | Constant c kd p =>
    cases c with
    | int i =>
      obtain ⟨js, e1, e2⟩ := Option.map_eq_some_iff.mp e
      exact ⟨i, kd, p, js, rfl, e1, e2.symm⟩
    | _ => exact nos e
  | _ => exact nos e

theorem pairs_ok : ∀ {ks : List (Option Expr)} {vs : List Expr} {is : List Int} {ρ : List Addr} {H : HH} {s : Shared} {pos : Pos} {P : List AV → HH → Prop} {Q : List (Value × Value) → Shared → Prop}, constKeys ks = some is → is.length = vs.length → (∀ e ∈ vs, EvOk prog w base n C sc e) →
    evs C sc vs m H P → Here prog w base n A ρ Φ fp env sc m H s →
    (∀ l H' ρ' kvs us s', P l H' → is.length = l.length → Go ρ ρ' [] s s' → Sim prog w base ρ' Φ H' s'.heap → Carries (intKind prog w) kvs (is.zip us) → RVs prog w s'.heap ρ' Φ l us → Q kvs s') → wpC (model prog w) A (evalPairs (pairTrees ks vs env pos)) Q E s := by
  intro ks
  induction ks with
  | nil =>
    intro vs is ρ H s pos P Q hk hl hv e h hQ
    cases hk
    cases List.length_eq_zero_iff.mp hl.symm
    exact wpC_pure (hQ _ _ ρ [] [] s e rfl .refl h.sim trivial rfl)
  | cons k ks ih =>
    intro vs is ρ H s pos P Q hk hl hv e h hQ
    obtain ⟨i, c, p, js, rfl, e1, rfl⟩ := constKeys_e hk
    cases vs with
    | nil => cases hl
    | cons v vs =>
      rw [pairTrees, evalPairs]
      refine wpC_then ?_
      rw [arm_eval_Constant]
      show wpAny _ _ (mkInt i) _ _ _
      refine wpAny_mkInt ?_
      have g0 : Go ρ ρ [] s { s with toks := s.toks + 1 } := .toks _
      refine wpC_bind (wpC_holding (wpC_bind (hv v (.head _) e (h.go g0 h.sim) fun a H1 ρ1 u s1 z g1 S1 r1 => wpC_bind (wpC_standAt (wpC_pure ?_)))))
      refine wpC_bind (wpC_holding (ih e1 (Nat.succ.inj hl) (fun x hx => hv x (.tail _ hx)) z (h.go (g0.trans g1) S1) fun l H2 ρ2 kvs us s2 z hl2 g2 S2 hc rr => wpC_pure ?_))
      exact hQ _ _ ρ2 _ (u :: us) s2 z (congrArg (· + 1) hl2) ((g0.trans g1).trans g2) S2 ⟨by simp [intKind, Value.isInt], rfl, hc⟩ (rr.cons (RV.mono g2.ext0 _ _ r1))

theorem constKeys_some : ∀ {ks : List (Option Expr)} {is : List Int}, constKeys ks = some is → ks.all (·.isSome) = true ∧ ks.length = is.length := by
  intro ks
  induction ks with
  | nil => intro is h; cases h; exact ⟨rfl, rfl⟩
  | cons k ks ih =>
    intro is h
    obtain ⟨i, c, p, js, rfl, e1, rfl⟩ := constKeys_e h
    obtain ⟨i1, i2⟩ := ih e1
    exact ⟨i1, congrArg (· + 1) i2⟩
theorem ev_Dict {ks : List (Option Expr)} {vs : List Expr} {pos : Pos} (hv : ∀ e ∈ vs, EvOk prog w base n C sc e) : EvOk prog w base n C sc (.Dict ks vs pos) := by
  intro A E ρ Φ fp env m H s P Q e h hQ
  refine optP_e e fun is hk e => ifT_e e fun hc e => ?_
  obtain ⟨hc, h15⟩ := and_e hc
  obtain ⟨hl, hn⟩ := and_e hc
  have hl := beq_iff_eq.mp hl
  have hn := of_decide_eq_true hn
  have h15 := of_decide_eq_true h15
  have hks := constKeys_some hk
  have nosys : (s.heap.objs.size == sysModules) = false := by
    rw [beq_eq_false_iff_ne]
    obtain ⟨b0, o, hb0, e0⟩ := h.sim.sysm.1
    have := Heap.lt_size (h.sim.base _ _ e0).1
    exact Nat.ne_of_gt (Nat.lt_trans hb0 this)
  have hDΦ : s.heap.objs.size ∉ Φ := h.sim.fresh.2
  by_cases hks0 : ks = []
  · subst hks0
    cases hk
    cases List.length_eq_zero_iff.mp hl.symm
    exact wpC_of_any (wpAny_Dict_empty (hQ _ _ ρ _ _ e (.push0 _ s.toks) (h.sim.push0 _) ⟨_, [], rfl, h.sim.fresh, Heap.DictOf.new _, rfl, rfl, nosys⟩))
  · have d0 : ∀ a ∈ [s.heap.objs.size], s.heap.get? a = none := fun a ma => by rw [List.mem_singleton.mp ma]; exact get_size_none _
    have hlk : ks.length = vs.length := hks.2.trans hl
    rw [arm_eval_Dict, zip_pairTrees ks vs env pos hks.1 hlk]
    have hpl := pairTrees_length ks vs env pos hks.1 hlk
    rw [dictDisplay_pairs _ (by intro q; rw [q] at hpl; exact hks0 (List.length_eq_zero_iff.mp hpl.symm)) (by rw [hpl, hks.2]; (clear hlk hks0 hDΦ hpl hks hl; omega))]
    refine wpC_bind (wpC_standAt (wpC_bind ?_))
    unfold subDict
    refine wpC_then (wpAny_alloc ?_)
    refine wpC_bind (wpC_holding ?_)
    rw [if_pos (by rw [hpl, hks.2]; exact h15)]
    have k0 : ∀ a o, s.heap.get? a = some o → (s.heap.push { cls := .type "dict", data := .dict #[] }).get? a = some o := fun a o e => Heap.get?_push_of_some _ e
    have g0 : Go ρ ρ [] s { s with heap := s.heap.push { cls := .type "dict", data := .dict #[] } } := .push0 _ s.toks
    have S0 : Sim prog w base ρ ([s.heap.objs.size] ++ Φ) H (s.heap.push { cls := .type "dict", data := .dict #[] }) := h.sim.addOwn k0 d0 fun a ma => ⟨{ cls := .type "dict", data := .dict #[] }, by rw [List.mem_singleton.mp ma]; exact Heap.get?_push_size _ rfl⟩
    have X0 := h.env.shift (Ext.addOwn (own := [s.heap.objs.size]) g0.ext0 d0) h.env.cellsIn (h.env.sub _ h.env.loc) (fun a ma o e => k0 a o e) (fun a ma => List.mem_append.mpr (.inr ma)) h.env.sub
    refine wpC_bind (pairs_ok hk hl hv e (s := { s with heap := s.heap.push { cls := .type "dict", data := .dict #[] } }) ⟨h.ok, X0, S0⟩ fun l H1 ρ1 kvs us s1 z hl1 g1 S1 hc r1 => wpC_holding ?_)
    have hd1 : s1.heap.DictOf (intKind prog w) s.heap.objs.size [] := DictOf.at' (Heap.DictOf.new (knd := intKind prog w) s.heap) fun o e => g1.step.keep _ o e (fun q => S0.apart _ q (.head _)) fun q => nomatch q
    have hlen := r1.length
    have hz : (is.zip us).length = is.length := by rw [List.length_zip, hlen, hl1, Nat.min_self]
    refine wpC_then (wpAny_storeAll (knd := intKind prog w) kvs _ [] s1 _ hc hd1 (by rw [hz, sizeLine_eq]; simp; (clear hlk hks0 hDΦ hz hlen hl1 hpl hks hl; omega)) fun h2 hm2 hs2 => wpC_pure (wpC_pure (wpC_pure ?_)))
    have hmap : (is.zip us).map (·.1) = is := List.map_fst_zip (by rw [hlen, hl1]; exact Nat.le_refl _)
    rw [merged_nil_of_nodup _ (by rw [hmap]; exact hn)] at hm2
    obtain ⟨g2, _, E1, keep⟩ := turned (t := s1.toks + kvs.length) (fp := [s.heap.objs.size]) S1 hs2 (let ⟨o', _, _, e', _⟩ := hm2; ⟨o', e'⟩) (.head _) (.head _)
    have E1 : Ext ρ1 ([s.heap.objs.size] ++ Φ) s1.heap ρ1 Φ h2 := E1.trans Ext.drop
    exact hQ _ _ ρ1 _ _ z ((g0.trans g1).afterOwn g2 d0) (S1.done (fun a ma => by rw [List.mem_singleton.mp ma]; exact hDΦ) fun a o f e => (hs2.2 a fun q => f (q ▸ .head _)).trans e) ⟨_, us, rfl, ⟨fun q => S1.apart _ q (.head _), hDΦ⟩, hm2, hl1, r1.mono E1, nosys⟩
end
end

-- Cl18
section
open PySem PySem.Calls PySem.W PyProof.Rows PySem.SeqAt
open Sem (wp)

section
variable {prog : Program} {w : World} {K : Frag} {base h h' : Heap} {n : Nat} {C : Cx} {A : Around} {E : Value → Shared → Prop}
  {ρ ρ' ρ₀ Φ Φ0 Ψ Ψ' fp own : List Addr} {env : Env} {sc : Names} {m m' : Loc} {H H' : HH} {s s' s₀ : Shared}

theorem EnvOk.congr (X : EnvOk prog w h ρ Φ fp env sc m) (e : ∀ x, get x m = get x m') : EnvOk prog w h ρ Φ fp env sc m' := by
  obtain ⟨k1, k2, k3, k4, k5, k6, k7, ⟨mc, hn, hm⟩, hc, ho, ha, hl, hs, ht⟩ := X
  refine ⟨k1, k2, k3, k4, k5, k6, k7, ⟨mc, hn, fun x hx => e x ▸ hm x hx⟩, fun x hx => ?_, ho, ha, hl, hs, ht⟩
  obtain ⟨c, ov, e1, g, r, q⟩ := hc x hx
  exact ⟨c, ov, e1, g, e x ▸ r, q⟩

theorem get_put (x y : Str) (v : AV) (m : Loc) : get y (put x v m) = if y = x then some v else get y m := by
  by_cases h : y = x
  · subst h; rw [if_pos rfl, get_put_self]
  · rw [if_neg h, get_put_ne v h]

variable (prog w base) in
/-- what a store leads to -/
noncomputable def Stored (ρ Φ fp : List Addr) (env : Env) (sc : Names) (s : Shared) (N : Loc → HH → Prop) (Q : Shared → Prop) : Prop := ∀ m' H' ρ' s', N m' H' → Go ρ ρ' fp s s' → Sim prog w base ρ' Φ H' s'.heap → EnvOk prog w s'.heap ρ' Φ fp env sc m' → Q s'
theorem Stored.go {N : Loc → HH → Prop} {Q : Shared → Prop} (hQ : Stored prog w base ρ Φ fp env sc s N Q) (g : Go ρ ρ' fp s s') : Stored prog w base ρ' Φ fp env sc s' N Q := fun m' H' ρ2 s2 z g2 S X => hQ m' H' ρ2 s2 z (g.trans g2) S X
theorem Ends.stored {N : Loc → HH → Prop} {R : AV → HH → Prop} {Q : Flow → Shared → Prop} (hQ : Ends prog w base ρ Φ fp env sc s N R Q) : Stored prog w base ρ Φ fp env sc s N (Q .next) := hQ.next
theorem Ends.go {N : Loc → HH → Prop} {R : AV → HH → Prop} {Q : Flow → Shared → Prop} (hQ : Ends prog w base ρ Φ fp env sc s N R Q) (g : Go ρ ρ' fp s s') : Ends prog w base ρ' Φ fp env sc s' N R Q :=
  ⟨fun m' H' ρ2 s2 z g2 S X => hQ.next m' H' ρ2 s2 z (g.trans g2) S X, fun v H' ρ2 u s2 z g2 S r => hQ.ret v H' ρ2 u s2 z (g.trans g2) S r⟩
variable (prog w base n) in
noncomputable def AsOk (C : Cx) (sc : Names) (t : Expr) : Prop :=
  ∀ {A : Around} {E : Value → Shared → Prop} {ρ Φ fp : List Addr} {env : Env} {m : Loc} {H : HH} {s : Shared} {v : AV} {u : Value} {N : Loc → HH → Prop} {Q : Unit → Shared → Prop},
    asgP C sc t v m H N → Here prog w base n A ρ Φ fp env sc m H s → RV prog w s.heap ρ Φ v u → Stored prog w base ρ Φ fp env sc s N (Q ()) → wpC (model prog w) A (assign t env u) Q E s

theorem as_bind {t : Expr} (ha : ∀ v m H N, asgP C sc t v m H N → bindT sc t v m fun m => N m H) : AsOk prog w base n C sc t := by
  intro A E ρ Φ fp env m H s v u N Q e h r hQ
  exact wpC_of_any (bindT_ok h.ok h.env h.sim r (ha _ _ _ _ e) fun m' s' z g S X => hQ m' H ρ s' z g S X)

theorem as_Attribute {o : Expr} {x : Str} {pos : Pos} (C0 : CxOk prog w K base n C) (h1 : EvOk prog w base n C sc o) : AsOk prog w base n C sc (.Attribute o x pos) := by
  intro A E ρ Φ fp env m H s v u N Q e h r hQ
  show wpC _ _ (do
    let ov ← holding [u] (eval o env)
    standAt pos.atName
    holding [u, ov] (setAttr ov x u)
    release [u, ov] []) Q E s
  refine wpC_bind (wpC_holding (h1 e h fun a H1 ρ1 ou s1 z g1 S1 r1 => wpC_bind (wpC_standAt (wpC_bind (wpC_holding (wpC_of_any (setattr_ok C0 S1 r1 (RV.mono g1.ext0 _ _ r) z fun H2 s2 z g2 S2 => wpC_release ?_)))))))
  exact hQ _ _ ρ1 s2 z (g1.trans g2).nil S2 ((h.env.go h.sim g1).go S1 g2)

theorem as_Subscript {o i : Expr} {pos : Pos} (C0 : CxOk prog w K base n C) (h1 : EvOk prog w base n C sc o) (h2 : EvOk prog w base n C sc i) : AsOk prog w base n C sc (.Subscript o i pos) := by
  intro A E ρ Φ fp env m H s v u N Q e h r hQ
  rw [assign_Subscript]
  refine wpC_bind (wpC_holding (h1 e h fun a H1 ρ1 ou s1 z g1 S1 r1 => wpC_bind (wpC_holding (h2 z (h.go g1 S1) fun b H2 ρ2 iu s2 z g2 S2 r2 => wpC_bind (wpC_standAt (wpC_bind (wpC_holding (wpC_of_any (set_ok S2 (RV.mono g2.ext0 _ _ r1) r2 (RV.mono (g1.trans g2).ext0 _ _ r) z fun H3 s3 z g3 S3 => wpC_release ?_)))))))))
  exact hQ _ _ ρ2 s3 z ((g1.trans g2).trans g3).nil S3 (((h.env.go h.sim g1).go S1 g2).go S2 g3)

theorem swaps_pure {value t : Expr} {line : Nat} : (∃ elt gens scope pos x p, value = .ListComp elt gens scope pos ∧ t = .Name x p ∧ swapsWith value (some t) line env = pure true) ∨ swapsWith value (some t) line env = pure false ∨
    (∃ a b c d, value = .SetComp a b c d) ∨ (∃ a b c d f, value = .DictComp a b c d f) := by
  cases value <;> first | exact .inr (.inl rfl) | skip
  · rename_i elt gens scope pos
    cases t <;> first | exact .inr (.inl rfl) | skip
    rename_i x p
    by_cases hb : (env.blockKind == .function && env.kindOf x == some .local && p.line == pos.line && !(scope.names.any fun (n, k) => n == x && (k == .local || k == .cell))) = true
    · refine .inl ⟨elt, gens, scope, pos, x, p, rfl, rfl, ?_⟩
      show (pure _ : Sem Bool) = _
      exact congrArg pure hb
    · refine .inr (.inl ?_)
      show (pure _ : Sem Bool) = _
      exact congrArg pure (Bool.eq_false_iff.mpr hb)
  · exact .inr (.inr (.inl ⟨_, _, _, _, rfl⟩))
  · exact .inr (.inr (.inr ⟨_, _, _, _, _, rfl⟩))

variable (prog w base n) in
/-- an expression in a statement -/
noncomputable def UseOk (C : Cx) (sc : Names) (e : Expr) : Prop := match e with
  | .ListComp elt gens scope pos => GenOk prog w base n C sc elt gens scope pos
  | .List es _ => EvsOk prog w base n C sc es
  | _ => True

theorem st_Expr {e : Expr} {pos : Pos} (h1 : EvOk prog w base n C sc e) : StOk prog w base n C sc (.Expr e pos) := by
  intro A E ρ Φ fp env m H s N R Q ev h hQ
  refine ifF_e ev fun hlc e1 => ?_
  have hi : interactive env = false := by unfold interactive; rw [h.env.kind]; rfl
  have hs : swapsWith e none pos.line env = pure false := by
    clear h1 hQ h hi ev
    cases e <;> first | rfl | exact e1.elim | exact nomatch hlc
  rw [exec_Expr env e pos hi hs]
  refine wpC_bind (wpC_standAt (wpC_bind (h1 e1 h fun v H1 ρ1 u s1 z g1 S1 r1 => wpC_of_any (wpAny_dropValue ?_))))
  exact hQ.next _ _ ρ1 s1 z g1.nil S1 (h.env.go h.sim g1)

theorem st_Return {e : Expr} {pos : Pos} (h1 : EvOk prog w base n C sc e) : StOk prog w base n C sc (.Return (some e) pos) := by
  intro A E ρ Φ fp env m H s N R Q ev h hQ
  rw [exec_Return_some]
  refine wpC_bind (wpC_standAt (wpC_bind (h1 ev h fun v H1 ρ1 u s1 z g1 S1 r1 => wpC_pure ?_)))
  exact hQ.ret _ _ ρ1 u s1 z g1.nil S1 r1

theorem st_If {t : Expr} {b o : List Stmt} {pos : Pos} (h1 : TestOk prog w base n C sc t) (h2 : ExOk prog w base n C sc b) (h3 : ExOk prog w base n C sc o) : StOk prog w base n C sc (.If t b o pos) := by
  intro A E ρ Φ fp env m H s N R Q ev h hQ
  rw [exec_If]
  refine wpC_bind (wpC_standAt (wpC_bind (h1 ev h fun c H1 ρ1 s1 z g1 S1 => ?_)))
  cases c with
  | true => exact h2 (z.1 rfl) (h.go g1 S1) (hQ.go g1.nil)
  | false => exact h3 (z.2 rfl) (h.go g1 S1) (hQ.go g1.nil)

theorem ex_nil : ExOk prog w base n C sc [] := by
  intro A E ρ Φ fp env m H s N R Q ev h hQ
  exact wpC_pure (hQ.next _ _ ρ s ev .refl h.sim h.env)
theorem ex_cons {x : Stmt} {r : List Stmt} (h1 : StOk prog w base n C sc x) (h2 : ExOk prog w base n C sc r) : ExOk prog w base n C sc (x :: r) := by
  intro A E ρ Φ fp env m H s N R Q ev h hQ
  rw [arm_execs_cons]
  refine wpC_bind (h1 ev h ⟨fun m1 H1 ρ1 s1 z g1 S1 X1 => h2 z ⟨h.ok, X1, S1⟩ (hQ.go g1), fun v H1 ρ1 u s1 z g1 S1 r1 => wpC_pure (hQ.ret _ _ ρ1 u s1 z g1 S1 r1)⟩)
end
end

-- Cl19
section
open PySem PySem.Calls PySem.W PyProof.Rows PySem.SeqAt
open Sem (wp)

section
variable {prog : Program} {w : World} {K : Frag} {base h h' : Heap} {n : Nat} {C : Cx} {A : Around} {E : Value → Shared → Prop}
  {ρ ρ' ρ₀ Φ Φ0 Ψ Ψ' fp own : List Addr} {env : Env} {sc : Names} {m m' : Loc} {H H' : HH} {s s' s₀ : Shared}

theorem assign_arm {t e : Expr} {pos : Pos} : exec (.Assign [t] e pos) env = (do
    standAt pos
    if ← swapsWith e (some t) pos.line env then do
      evalThenUse e env fun v => assignAll v ((assignEach [t] env).map (·.2))
      pure .next
    else do
      let v ← eval e env
      assignStores env v (← swappedStores [t] e env) ((assignEach [t] env).map (·.2))) := rfl
theorem stores_one {t : Expr} {u : Value} (ht : ∀ t' p, t ≠ .Starred t' p) : assignAll u ((assignEach [t] env).map (·.2)) = assign t env u := by
  cases t <;> first | rfl | (exact absurd rfl (ht _ _))

/-- the value is a fresh display that the name alone holds -/
theorem store_fresh {x : Str} {p : Pos} {ao : AO} {o : Obj} {E : Value → Shared → Prop} {N : Loc → HH → Prop} {Q : Unit → Shared → Prop} (h : Here prog w base n A ρ Φ fp env sc m H s) (ho : RO prog w (s.heap.push o) (ρ ++ [s.heap.objs.size]) Φ ao s.heap.objs.size)
    (e : newP H ao fun i H => bindN sc x (.obj i) m fun m => N m H) (hQ : Stored prog w base ρ Φ fp env sc s N (Q ())) : wpAny (model prog w) A (assign (.Name x p) env (.ref s.heap.objs.size)) Q E { s with heap := s.heap.push o } := by
  obtain ⟨_, rfl, _, rfl, e⟩ := e
  have g1 : Go ρ (ρ ++ [s.heap.objs.size]) [] s { s with heap := s.heap.push o } := ⟨Step.push, rfl, rfl⟩
  refine bindN_ok (v := .obj H.length) (pos := p) (s := { s with heap := s.heap.push o }) (h.env.go h.sim g1) (h.sim.push ho) ⟨s.heap.objs.size, ?_, rfl⟩ e fun m2 s2 z g2 S2 X2 _ => hQ _ _ _ s2 z (g1.nil.trans g2) S2 X2
  rw [← h.sim.len, List.getElem?_append_right (Nat.le_refl _), Nat.sub_self]; rfl

theorem eraseDups_two {x y : Str} (h : (x == y) = false) : ([x, y] : List Str).eraseDups.length = 2 := by
  have : (y == x) = false := by rw [beq_eq_false_iff_ne] at *; exact fun q => h q.symm
  simp [List.eraseDups_cons, this]
theorem swapped_two {x y : Str} {p q : Pos} {k k2 : Nat} {p3 p4 : Pos} {a b : Expr} (hk : env.scope.kind = .function) (hxy : (x == y) = false) (hc : (constantsAlone 8 a && constantsAlone 8 b) = false) :
    swappedStores [.Tuple [.Name x p, .Name y q] k p3] (.Tuple [a, b] k2 p4) env = pure none ∨ swappedStores [.Tuple [.Name x p, .Name y q] k p3] (.Tuple [a, b] k2 p4) env = pure (some [x, y]) := by
  unfold swappedStores
  have hb : (env.blockKind != .function) = false := by unfold Env.blockKind; rw [hk]; rfl
  dsimp only [List.length_cons, List.length_nil, List.head?_cons, Option.map_some, Option.getD_some]
  rw [hb]
  rw [if_neg (by decide)]
  split
  · exact .inl rfl
  · have no : ∀ c : Prop, [Decidable c] → ¬ c → ∀ a b : Sem (Option (List Str)), (if c then a else b) = b := fun c _ h a b => if_neg h
    have yes : ∀ c : Prop, [Decidable c] → c → ∀ a b : Sem (Option (List Str)), (if c then a else b) = a := fun c _ h a b => if_pos h
    by_cases h1 : (env.kindOf x == some .local && p.line == (Expr.Name x p).pos.line) = true <;> by_cases h2 : (env.kindOf y == some .local && q.line == (Expr.Name x p).pos.line) = true <;>
      simp only [List.filterMap_cons, List.filterMap_nil, h1, h2, if_true, if_false, List.length_cons, List.length_nil, Bool.false_eq_true]
    · rw [no _ (by rw [eraseDups_two hxy]; decide)]
      split
      · exact .inl rfl
      · rw [no _ (by simpa using fun h1 => by rw [h1] at hc; simpa using hc)]
        exact .inr rfl
    · exact .inl (yes _ (by simp) _ _)
    · exact .inl (yes _ (by simp) _ _)
    · exact .inl (yes _ (by simp) _ _)

/-- a comprehension under a name, on one line -/
theorem assign_use {elt : Expr} {gens : List Comprehension} {scope : Scope} {cpos p : Pos} {x : Str} {N : Loc → HH → Prop} {Q : Unit → Shared → Prop} (hu : GenOk prog w base n C sc elt gens scope cpos)
    (e1 : ev C sc false (.ListComp elt gens scope cpos) m H fun v H => bindN sc x v m fun m => N m H) (h : Here prog w base n A ρ Φ fp env sc m H s) (hQ : Stored prog w base ρ Φ fp env sc s N (Q ())) :
    wpC (model prog w) A (evalThenUse (.ListComp elt gens scope cpos) env fun v => assignAll v ((assignEach [.Name x p] env).map (·.2))) Q E s := by
  rw [arm_evalThenUse_ListComp]
  dsimp only
  refine wpC_bind (comp_ok (Q := fun _ s' => wpC (model prog w) A (pure ()) Q E s') hu e1 h fun v H1 ρ' D L s' z g S r hDL hns hLΦ hL0 => ?_)
  obtain ⟨mL, hns⟩ := hns
  have hLs : ∀ a ∈ [L], s.heap.get? a = none := fun a ma => by rw [List.mem_singleton.mp ma]; exact hL0
  have X' : EnvOk prog w s'.heap ρ' ([L] ++ Φ) fp env sc m := h.env.shift (Ext.addOwn g.ext0 hLs) h.env.cellsIn (h.env.sub _ h.env.loc) (fun a ma o e => g.step.keep a o e (fun q => h.sim.apart a q ma) fun q => nomatch q) (fun a ma => List.mem_append.mpr (.inr ma)) h.env.sub
  refine wpC_of_any (bindN_ok (pos := p) X' S r z fun m2 s2 z g2 S2 X2 _ => ⟨mL, hns.at' fun o e => g2.step.keep L o e (fun q => S.apart L q (.head _)) fun q => hLΦ (h.env.sub _ q), fun h3 m3 hn3 hs3 => ?_⟩)
  obtain ⟨S3, E3, g3, k3⟩ := drop_one (v := v) (u := .ref D) S2 hLΦ hn3 hs3
  exact wpC_pure (hQ _ _ ρ' _ z ((g.nil.trans g2).afterOwn g3 hLs) S3 (X2.shift E3 h.env.cellsIn (h.env.sub _ h.env.loc) (fun a ma o e => k3 a o (fun q => hLΦ (q ▸ ma)) e) (fun _ ma => ma) h.env.sub))

theorem st_use {elt : Expr} {gens : List Comprehension} {scope : Scope} {cpos p pos : Pos} {x : Str} {N : Loc → HH → Prop} {Q : Flow → Shared → Prop} (hu : GenOk prog w base n C sc elt gens scope cpos)
    (hs : swapsWith (.ListComp elt gens scope cpos) (some (.Name x p)) pos.line env = pure true)
    (e1 : ev C sc false (.ListComp elt gens scope cpos) m H fun v H => bindN sc x v m fun m => N m H) (h : Here prog w base n A ρ Φ fp env sc m H s) (hQ : Stored prog w base ρ Φ fp env sc s N (Q .next)) :
    wpC (model prog w) A (exec (.Assign [.Name x p] (.ListComp elt gens scope cpos) pos) env) Q E s := by
  rw [assign_arm]
  refine wpC_bind (wpC_standAt ?_)
  rw [hs]
  refine wpC_bind (wpC_pure ?_)
  rw [if_pos rfl]
  exact wpC_bind (assign_use hu e1 h fun m' H' ρ' s' z g S X => wpC_pure (hQ m' H' ρ' s' z g S X))

/-- all else: the value, then the store -/
theorem st_plain {t e : Expr} {pos : Pos} {Q : Flow → Shared → Prop} (hs : swapsWith e (some t) pos.line env = pure false) (hn : swappedStores [t] e env = pure none) (ht : ∀ t' p, t ≠ .Starred t' p)
    (h : wpC (model prog w) A (eval e env) (fun u s1 => wpC (model prog w) A (assign t env u) (fun _ s2 => Q .next s2) E s1) E s) : wpC (model prog w) A (exec (.Assign [t] e pos) env) Q E s := by
  rw [assign_arm]
  refine wpC_bind (wpC_standAt ?_)
  rw [hs]
  refine wpC_bind (wpC_pure ?_)
  rw [if_neg (by decide)]
  refine wpC_bind (wpC_mono h (fun u s1 h1 => ?_) fun _ _ x => x)
  rw [hn]
  refine wpC_bind (wpC_pure ?_)
  unfold assignStores
  rw [stores_one ht]
  exact wpC_bind (wpC_mono h1 (fun _ _ x => wpC_pure x) fun _ _ x => x)

/-- two names at one stroke -/
theorem st_two {x y : Str} {p q : Pos} {k k2 : Nat} {p3 p4 pos : Pos} {a b : Expr} {N : Loc → HH → Prop} {Q : Flow → Shared → Prop} (hxy : (x == y) = false) (hx : sc.lookup x = some .local) (hy : sc.lookup y = some .local) (hc : (constantsAlone 8 a && constantsAlone 8 b) = false)
    (h1 : EvOk prog w base n C sc (.Tuple [a, b] k2 p4))
    (e1 : ev C sc false (.Tuple [a, b] k2 p4) m H fun v H => bindT sc (.Tuple [.Name x p, .Name y q] k p3) v m fun m => N m H) (h : Here prog w base n A ρ Φ fp env sc m H s) (hQ : Stored prog w base ρ Φ fp env sc s N (Q .next)) :
    wpC (model prog w) A (exec (.Assign [.Tuple [.Name x p, .Name y q] k p3] (.Tuple [a, b] k2 p4) pos) env) Q E s := by
  rcases swapped_two (env := env) (p := p) (q := q) (k := k) (k2 := k2) (p3 := p3) (p4 := p4) h.env.kind hxy hc with hn | hn
  · exact st_plain rfl hn (fun _ _ q => nomatch q) (h1 e1 h fun v H1 ρ1 u s1 z g1 S1 r1 => wpC_of_any (bindT_ok h.ok (h.env.go h.sim g1) S1 r1 z fun m2 s2 z g2 S2 X2 => hQ _ _ ρ1 s2 z (g1.nil.trans g2) S2 X2))
  · rw [assign_arm]
    refine wpC_bind (wpC_standAt ?_)
    show wpC _ _ ((pure false : Sem Bool) >>= _) _ _ _
    refine wpC_bind (wpC_pure ?_)
    rw [if_neg (by decide)]
    refine wpC_bind (h1 e1 h fun v H1 ρ1 u s1 z g1 S1 r1 => ?_)
    rw [hn]
    refine wpC_bind (wpC_pure ?_)
    unfold assignStores
    dsimp only
    refine wpC_bind (wpC_rule ?_)
    refine optP_e z fun vs hv z => ifT_e z fun hs z => ?_
    cases tup?_some hv
    have X1 := h.env.go h.sim g1
    have hok := h.ok
    have hlen : 2 = vs.length := beq_iff_eq.mp (and_e hs).2
    clear h h1 e1 hs hn hv
    match vs, hlen with
    | [v1, v2], _ =>
    obtain ⟨ad, us, rfl, f, ⟨kk, gt⟩, r⟩ := r1
    obtain ⟨u1, _, rfl, r1, u2, _, rfl, r2, rfl⟩ := r
    have hun := wpAny_unpackItems_tuple (prog := prog) (w := w) (A := A) (E := E) (s := s1) (t := ad) (items := [u1, u2].toArray) (Q := fun l s2 => wpC (model prog w) A (do assignInOrder (([x, y] : List Str).reverse.map fun n => bindName env n) l.reverse; pure Flow.next) Q E s2) hok.handled (isTuple_of gt) fun h2 he2 => ?_
    · exact wpC_then hun
    · have keep : ∀ a o, s1.heap.get? a = some o → h2.get? a = some o := fun a o ea => he2 a o (Nat.ne_of_lt (Heap.lt_size ea)) ea
      have g2 : Go ρ1 ρ1 [] s1 { s1 with heap := h2 } := .keep (t := s1.toks) keep
      have S2 : Sim prog w base ρ1 Φ H1 h2 := S1.kept keep
      have X2 := X1.go S1 g2
      have z : N (put y v2 (put x v1 m)) H1 := by
        refine optP_e z fun kx hkx z => ?_
        rw [hx] at hkx; cases hkx
        refine optP_e z fun ky hky z => ?_
        rw [hy] at hky; cases hky
        exact z
      show wpC _ _ (do assignInOrder [bindName env y, bindName env x] [u2, u1]; pure Flow.next) _ _ _
      refine wpC_then (assignInOrder_cons (wpAny_bindName (store_name (P := fun m' => m' = put y v2 m) X2 S2 (RV.mono g2.ext0 _ _ r2) (by unfold bindN; rw [hy]; exact rfl) fun m3 s3 em g3 S3 X3 k3 => ?_)))
      have E3 : Ext ρ1 Φ h2 ρ1 Φ s3.heap := ⟨fun a o e f => k3 a o e f.2, fun _ _ e => e, fun _ _ _ f => f⟩
      refine assignInOrder_cons (wpAny_bindName (store_name (P := fun m' => m' = put x v1 m3) X3 S3 (RV.mono (g2.ext0.trans E3) _ _ r1) (by unfold bindN; rw [hx]; exact rfl) fun m4 s4 em2 g4 S4 X4 k4 => assignInOrder_nil (wpC_pure ?_)))
      subst em em2
      refine hQ _ _ ρ1 s4 z (((g1.trans g2).nil.trans g3).trans g4) S4 (X4.congr fun z => ?_)
      rw [get_put, get_put, get_put, get_put]
      have hxne : x ≠ y := beq_eq_false_iff_ne.mp hxy
      by_cases hz : z = x
      · subst hz; rw [if_pos rfl, if_neg hxne, if_pos rfl]
      · rw [if_neg hz]
        by_cases hzy : z = y
        · rw [if_pos hzy, if_pos hzy]
        · rw [if_neg hzy, if_neg hzy, if_neg hz]

/-- a fresh list under a name -/
theorem st_fresh_list {es : List Expr} {lp p pos : Pos} {x : Str} {N : Loc → HH → Prop} {Q : Flow → Shared → Prop} (h1 : EvsOk prog w base n C sc es)
    (e1 : evs C sc es m H fun l H => fits l.length ∧ newP H (.list l) fun i H => bindN sc x (.obj i) m fun m => N m H) (h : Here prog w base n A ρ Φ fp env sc m H s) (hQ : Stored prog w base ρ Φ fp env sc s N (Q .next)) :
    wpC (model prog w) A (exec (.Assign [.Name x p] (.List es lp) pos) env) Q E s := by
  refine st_plain rfl rfl (fun _ _ q => nomatch q) ?_
  rw [arm_eval_List]
  refine wpC_bind (wpC_standAt (wpC_bind (h1 e1 h fun l H1 ρ1 us s1 z g1 S1 r1 => wpC_of_any (wpAny_newList ?_ (fits_arr r1 z.1)))))
  have hro : RO prog w (s1.heap.push { cls := .type "list", data := .seq us.toArray }) (ρ1 ++ [s1.heap.objs.size]) Φ (.list l) s1.heap.objs.size :=
    ⟨us, ⟨0, Heap.get?_push_size _ rfl⟩, r1.mono ((Step.push (ρ := ρ1) (fp := [])).ext fun _ q => nomatch q)⟩
  exact wpC_of_any (store_fresh (h.go g1 S1) hro z.2 (hQ.go g1.nil))
theorem st_fresh_dict {lp p pos : Pos} {x : Str} {N : Loc → HH → Prop} {Q : Flow → Shared → Prop}
    (e1 : newP H .edict fun i H => bindN sc x (.obj i) m fun m => N m H) (h : Here prog w base n A ρ Φ fp env sc m H s) (hQ : Stored prog w base ρ Φ fp env sc s N (Q .next)) :
    wpC (model prog w) A (exec (.Assign [.Name x p] (.Dict [] [] lp) pos) env) Q E s := by
  refine st_plain rfl rfl (fun _ _ q => nomatch q) ?_
  exact wpC_of_any (wpAny_Dict_empty (wpC_of_any (store_fresh (ao := .edict) h ⟨0, Heap.get?_push_size _ rfl⟩ e1 hQ)))

theorem fresh_cases (e : Expr) : (∃ es p, e = .List es p) ∨ (∃ vs p, e = .Dict [] vs p) ∨ ∀ v, fresh? e v = none := by
  cases e with
  | List es p => exact .inl ⟨es, p, rfl⟩
  | Dict ks vs p => cases ks with
    | nil => exact .inr (.inl ⟨vs, p, rfl⟩)
    | cons _ _ => exact .inr (.inr fun _ => rfl)
  | _ => exact .inr (.inr fun _ => rfl)
theorem store_cases (t : Expr) : (∃ x p, t = .Name x p) ∨ ∀ C sc e v m H N, storeP C sc t e v m H N → asgP C sc t v m H N := by
  cases t with
  | Name x p => exact .inl ⟨x, p, rfl⟩
  | _ => exact .inr fun _ _ _ _ _ _ _ z => z
theorem swapped_none (t e : Expr) (env : Env) : (∃ ts k p vs k2 p2, t = .Tuple ts k p ∧ e = .Tuple vs k2 p2) ∨ (∃ ts p, t = .List ts p) ∨ swappedStores [t] e env = pure none := by
  cases t with
  | Tuple ts k p => cases e with
    | Tuple vs k2 p2 => exact .inl ⟨ts, k, p, vs, k2, p2, rfl, rfl⟩
    | _ => exact .inr (.inr rfl)
  | List ts p => exact .inr (.inl ⟨ts, p, rfl⟩)
  | _ => exact .inr (.inr rfl)
theorem swap_two {ts vs : List Expr} {k k2 : Nat} {p p2 : Pos} (h : swapT sc (.Tuple ts k p) (.Tuple vs k2 p2) = true) :
    ∃ x px y py a b, ts = [.Name x px, .Name y py] ∧ vs = [a, b] ∧ (x == y) = false ∧ sc.lookup x = some .local ∧ sc.lookup y = some .local ∧ (constantsAlone 8 a && constantsAlone 8 b) = false := by
  match ts, vs, h with
  | [x, y], [a, b], h =>
    refine onO_e h fun x' hx h => onO_e h fun y' hy h => ?_
    obtain ⟨h, h4⟩ := and_e h
    obtain ⟨h, h3⟩ := and_e h
    obtain ⟨h1, h2⟩ := and_e h
    have nm : ∀ {e : Expr} {x : Str}, isNameE e = some x → ∃ p, e = .Name x p := fun {e x} q => by
      cases e with
      | Name y p => cases q; exact ⟨p, rfl⟩
      | _ => exact nos q
    obtain ⟨px, rfl⟩ := nm hx
    obtain ⟨py, rfl⟩ := nm hy
    exact ⟨x', px, y', py, a, b, rfl, rfl, (Bool.not_eq_true' _).mp h1, beq_iff_eq.mp h2, beq_iff_eq.mp h3, (Bool.not_eq_true' _).mp h4⟩
theorem no_comp {e : Expr} {P : AV → HH → Prop} (h : ev C sc false e m H P) : (∀ a b c d, e ≠ .SetComp a b c d) ∧ ∀ a b c d f, e ≠ .DictComp a b c d f :=
  ⟨fun a b c d q => by subst q; exact h.elim, fun a b c d f q => by subst q; exact h.elim⟩

theorem st_Assign {t e : Expr} {pos : Pos} (h1 : EvOk prog w base n C sc e) (ht : AsOk prog w base n C sc t) (hu : UseOk prog w base n C sc e) : StOk prog w base n C sc (.Assign [t] e pos) := by
  intro A E ρ Φ fp env m H s N R Q ev0 h hQ
  refine ifT_e ev0 fun hsw e1 => ?_
  have hQ' := hQ.stored
  have plain : swapsWith e (some t) pos.line env = pure false → swappedStores [t] e env = pure none → (∀ v H, storeP C sc t e v m H N → asgP C sc t v m H N) → wpC (model prog w) A (exec (.Assign [t] e pos) env) Q E s := fun hs hn hst =>
    st_plain hs hn (fun t' p q => by subst q; cases hsw) (h1 e1 h fun v H1 ρ1 u s1 z g1 S1 r1 => ht (hst v H1 z) (h.go g1 S1) r1 (hQ'.go g1.nil))
  rcases swaps_pure (value := e) (t := t) (env := env) (line := pos.line) with ⟨elt, gens, scope, cpos, x, p, rfl, rfl, hs⟩ | hs | ⟨_, _, _, _, q⟩ | ⟨_, _, _, _, _, q⟩
  · exact st_use hu hs e1 h hQ'
  · rcases store_cases t with ⟨x, p, rfl⟩ | hst
    · rcases fresh_cases e with ⟨es, lp, rfl⟩ | ⟨vs, lp, rfl⟩ | hf
      · exact st_fresh_list hu e1 h hQ'
      · refine ifT_e (show ifP _ _ _ from e1) fun hc z => ?_
        obtain ⟨hc, _⟩ := and_e hc
        obtain ⟨hc, _⟩ := and_e hc
        cases List.length_eq_zero_iff.mp (beq_iff_eq.mp hc).symm
        exact st_fresh_dict z h hQ'
      · refine plain hs (by rcases swapped_none (.Name x p) e env with ⟨_, _, _, _, _, _, q, _⟩ | ⟨_, _, q⟩ | q <;> first | exact q | exact nomatch q) fun v H z => ?_
        unfold storeP at z
        rw [hf v] at z
        exact z
    · rcases swapped_none t e env with ⟨ts, k, p, vs, k2, p2, rfl, rfl⟩ | ⟨ts, p, rfl⟩ | hn
      · obtain ⟨x, px, y, py, a, b, rfl, rfl, q1, q2, q3, q4⟩ := swap_two hsw
        exact st_two q1 q2 q3 q4 h1 e1 h hQ'
      · cases hsw
      · exact plain hs hn fun v H z => hst C sc e v m H N z
  · exact absurd q ((no_comp e1).1 _ _ _ _)
  · exact absurd q ((no_comp e1).2 _ _ _ _ _)
end
end

-- Cl20
section
open PySem PySem.Calls PySem.W PyProof.Rows PySem.SeqAt
open Sem (wp)

section
variable {prog : Program} {w : World} {K : Frag} {base h h' : Heap} {n : Nat} {C : Cx} {A : Around} {E : Value → Shared → Prop}
  {ρ ρ' ρ₀ Φ Φ0 Ψ Ψ' fp own : List Addr} {env : Env} {sc : Names} {m m' : Loc} {H H' : HH} {s s' s₀ : Shared}

theorem ev_none {e : Expr} (h : ∀ m H P, ev C sc false e m H P → False) : EvOk prog w base n C sc e := by
  intro A E ρ Φ fp env m H s P Q e
  exact (h _ _ _ e).elim
theorem test_none {e : Expr} (h : ∀ m H P, tst C sc e m H P → False) : TestOk prog w base n C sc e := by
  intro A E ρ Φ fp env m H s P Q e
  exact (h _ _ _ e).elim

theorem inner_all {elt : Expr} {gens : List Comprehension} {scope : Scope} {pos : Pos} (h1 : EvOk prog w base n C sc elt) (h2 : ∀ g ∈ gens, EvOk prog w base n C sc g.iter) (h3 : ∀ g ∈ gens, ∀ e ∈ g.ifs, TestOk prog w base n C sc e) (ha : ∀ g ∈ gens, g.is_async = 0) :
    ∀ (gs : List Comprehension) (d : Nat), gens.drop d = gs → InnerOk prog w base n C sc elt gens scope pos d gs
  | [], d, hd => inner_nil h1 (List.getElem?_eq_none (List.drop_eq_nil_iff.mp hd))
  | ⟨t, it, ifs, a⟩ :: gs, d, hd => by
    have hlt : d < gens.length := by
      rcases Nat.lt_or_ge d gens.length with h | h
      · exact h
      · rw [List.drop_eq_nil_iff.mpr h] at hd; cases hd
    rw [List.drop_eq_getElem_cons hlt] at hd
    obtain ⟨hx, hr⟩ := List.cons.inj hd
    have hg : gens[d]? = some ⟨t, it, ifs, a⟩ := by rw [List.getElem?_eq_getElem hlt, hx]
    have hm := List.mem_of_getElem? hg
    have h0 : a = 0 := ha _ hm
    subst h0
    exact inner_cons (h2 _ hm) (h3 _ hm) hg ha (inner_all h1 h2 h3 ha gs (d + 1) hr)

theorem gen_of {elt : Expr} {gens : List Comprehension} {scope : Scope} {pos : Pos} (h0 : ∀ g ∈ gens, EvOk prog w base n C sc g.iter) (h1 : EvOk prog w base n C scope.names elt) (h2 : ∀ g ∈ gens, EvOk prog w base n C scope.names g.iter)
    (h3 : ∀ g ∈ gens, ∀ e ∈ g.ifs, TestOk prog w base n C scope.names e) : GenOk prog w base n C sc elt gens scope pos := by
  cases gens with
  | nil => trivial
  | cons g gs =>
    obtain ⟨t, it, ifs, a⟩ := g
    intro ha hga
    have hall : ∀ g ∈ (⟨t, it, ifs, a⟩ :: gs : List Comprehension), g.is_async = 0 := fun g hg => by
      rcases List.mem_cons.mp hg with rfl | hg
      · exact ha
      · have := List.all_eq_true.mp hga g hg
        simpa using this
    exact ⟨h0 _ (.head _), h3 _ (.head _), inner_all h1 h2 h3 hall gs 1 rfl, hall⟩

theorem sz2 {a b k : Nat} (h : 1 + a + b < k + 1) : a < k ∧ b < k := by omega
theorem sz3 {a b c k : Nat} (h : 1 + a + b + c < k + 1) : a < k ∧ b < k ∧ c < k := by omega
theorem sz4 {a b c d k : Nat} (h : 1 + a + b + c + d < k + 1) : a < k ∧ b < k ∧ c < k ∧ d < k := by omega
theorem sz5 {a b c d e k : Nat} (h : 1 + a + b + c + d + e < k + 1) : c < k := by omega
theorem slice_cases (i : Expr) : (∃ lo hi st p, i = .Slice lo hi st p) ∨ ∀ lo hi st p, i ≠ .Slice lo hi st p := by
  cases i with
  | Slice lo hi st p => exact .inl ⟨lo, hi, st, p, rfl⟩
  | _ => exact .inr fun _ _ _ _ q => nomatch q
theorem opt_lt {o : Option Expr} {e : Expr} {k : Nat} (hs : sizeOf o < k) (he : o = some e) : sizeOf e < k := by
  subst he
  rw [Option.some.sizeOf_spec] at hs
  exact Nat.lt_of_le_of_lt (Nat.le_add_left _ _) hs
theorem szl {α : Type} [SizeOf α] {l : List α} {k : Nat} (h : sizeOf l < k) : ∀ x ∈ l, sizeOf x < k := fun x hx => Nat.lt_trans (List.sizeOf_lt_of_mem hx) h

variable (prog w base n) in
noncomputable def BothOk (C : Cx) (sc : Names) (e : Expr) : Prop := EvOk prog w base n C sc e ∧ TestOk prog w base n C sc e
theorem ev_all (C0 : CxOk prog w K base n C) : ∀ (k : Nat) (sc : Names) (e : Expr), sizeOf e < k → BothOk prog w base n C sc e := by
  intro k
  induction k with
  | zero => exact fun _ _ h => absurd h (Nat.not_lt_zero _)
  | succ k ih =>
    intro sc e h
    have evs : ∀ es : List Expr, sizeOf es < k → EvsOk prog w base n C sc es := by
      intro es hs
      exact evs_of fun x hx => (ih sc x (szl hs x hx)).1
    have noT : ∀ {e : Expr}, (∀ m H P, tst C sc e m H P → False) → EvOk prog w base n C sc e → BothOk prog w base n C sc e := fun h h1 => ⟨h1, test_none h⟩
    have no : ∀ {e : Expr}, (∀ m H P, ev C sc false e m H P → False) → (∀ m H P, tst C sc e m H P → False) → BothOk prog w base n C sc e := fun h h1 => ⟨ev_none h, test_none h1⟩
    cases e with
    | BoolOp op es pos =>
      rw [Expr.BoolOp.sizeOf_spec] at h
      obtain ⟨_, h, _⟩ := sz3 h
      exact ⟨ev_BoolOp (bool_of fun x hx => (ih sc x (szl h x hx)).1), test_BoolOp (all_of fun x hx => (ih sc x (szl h x hx)).2)⟩
    | BinOp l op r pos =>
      rw [Expr.BinOp.sizeOf_spec] at h
      obtain ⟨h1, _, h2, _⟩ := sz4 h
      exact noT (by exact fun _ _ _ z => z) (ev_BinOp (ih sc l h1).1 (ih sc r h2).1)
    | UnaryOp op x pos =>
      rw [Expr.UnaryOp.sizeOf_spec] at h
      obtain ⟨_, hx, _⟩ := sz3 h
      clear h
      cases op with
      | USub => exact noT (by exact fun _ _ _ z => z) (ev_Neg (ih sc x hx).1)
      | Not => exact ⟨ev_none (by exact fun _ _ _ z => z), test_Not (ih sc x hx).2⟩
      | _ => exact no (by exact fun _ _ _ z => z) (by exact fun _ _ _ z => z)
    | IfExp t b o pos =>
      rw [Expr.IfExp.sizeOf_spec] at h
      obtain ⟨h1, h2, h3, _⟩ := sz4 h
      exact ⟨ev_IfExp (ih sc t h1).2 (ih sc b h2).1 (ih sc o h3).1, test_IfExp (ih sc t h1).2 (ih sc b h2).2 (ih sc o h3).2⟩
    | Dict ks vs pos =>
      rw [Expr.Dict.sizeOf_spec] at h
      obtain ⟨_, h, _⟩ := sz3 h
      exact noT (by exact fun _ _ _ z => z) (ev_Dict fun x hx => (ih sc x (szl h x hx)).1)
    | ListComp elt gens scope pos =>
      rw [Expr.ListComp.sizeOf_spec] at h
      obtain ⟨h1, h, _, _⟩ := sz4 h
      have hg : ∀ g ∈ gens, sizeOf g.iter < k ∧ ∀ e ∈ g.ifs, sizeOf e < k := fun g hg => by
        have h1 := szl h g hg
        obtain ⟨t, it, ifs, a⟩ := g
        rw [Comprehension.mk.sizeOf_spec] at h1
        obtain ⟨_, h2, h3, _⟩ := sz4 (Nat.lt_succ_of_lt h1)
        exact ⟨h2, szl h3⟩
      exact noT (by exact fun _ _ _ z => z) (ev_ListComp (gen_of (fun g m => (ih sc _ (hg g m).1).1) (ih _ elt h1).1 (fun g m => (ih _ _ (hg g m).1).1) fun g m e he => (ih _ e ((hg g m).2 e he)).2))
    | Compare l ops rs pos =>
      rw [Expr.Compare.sizeOf_spec] at h
      obtain ⟨h1, _, h2, _⟩ := sz4 h
      cases rs with
      | nil => exact no (by exact fun _ _ _ z => z) (by exact fun _ _ _ z => z)
      | cons r rs =>
        have hr := szl h2 r (.head _)
        refine ⟨?_, ?_⟩
        · intro A E ρ Φ fp env m H s P Q e hh hQ
          refine only_e e fun op e1 e2 _ => ?_
          subst e1 e2
          exact ev_Compare (ih sc l h1).1 (ih sc r hr).1 e hh hQ
        · intro A E ρ Φ fp env m H s P Q e hh hQ
          refine only_e e fun op e1 e2 _ => ?_
          subst e1 e2
          exact test_Compare (ih sc l h1).1 (ih sc r hr).1 e hh hQ
    | Call f as kws pos =>
      rw [Expr.Call.sizeOf_spec] at h
      obtain ⟨h1, h2, _, _⟩ := sz4 h
      cases kws with
      | nil =>
        cases f with
        | Name f p => exact ⟨ev_Call C0 (evs _ h2), test_Call C0 (evs _ h2)⟩
        | Attribute o x ap =>
          rw [Expr.Attribute.sizeOf_spec] at h1
          exact noT (by exact fun _ _ _ z => z) (ev_Method C0 (ih sc o (sz3 (Nat.lt_succ_of_lt h1)).1).1 (evs _ h2))
        | _ => exact no (by exact fun _ _ _ z => z) (by exact fun _ _ _ z => z)
      | cons kw kws => exact no (by exact fun _ _ _ z => z) (by exact fun _ _ _ z => z)
    | Constant c k pos => exact noT (by exact fun _ _ _ z => z) ev_Constant
    | Attribute o x pos =>
      refine noT (by exact fun _ _ _ z => z) ?_
      cases o with
      | Name o p => exact ev_Attr C0
      | _ => exact ev_none (by exact fun _ _ _ z => z)
    | Subscript o i pos =>
      rw [Expr.Subscript.sizeOf_spec] at h
      obtain ⟨h1, h2, _⟩ := sz3 h
      refine noT (by exact fun _ _ _ z => z) ?_
      rcases slice_cases i with ⟨lo, hi, st, p, rfl⟩ | hi
      · rw [Expr.Slice.sizeOf_spec] at h2
        obtain ⟨h3, h4, _, _⟩ := sz4 (Nat.lt_succ_of_lt h2)
        exact ev_SubSlice (ih sc o h1).1 (bound_of fun e he => (ih sc e (opt_lt h3 he)).1) (bound_of fun e he => (ih sc e (opt_lt h4 he)).1)
      · exact ev_Sub hi (ih sc o h1).1 (ih sc i h2).1
    | Name x pos => exact ⟨ev_Name C0, test_Name C0⟩
    | List es pos =>
      rw [Expr.List.sizeOf_spec] at h
      exact noT (by exact fun _ _ _ z => z) (ev_List (evs _ (sz2 h).1))
    | Tuple es k pos =>
      rw [Expr.Tuple.sizeOf_spec] at h
      exact noT (by exact fun _ _ _ z => z) (ev_Tuple (evs _ (sz3 h).1))
    | _ => exact no (by exact fun _ _ _ z => z) (by exact fun _ _ _ z => z)

theorem ev_ok (C0 : CxOk prog w K base n C) (sc : Names) (e : Expr) : EvOk prog w base n C sc e := (ev_all C0 _ sc e (Nat.lt_succ_self _)).1
theorem test_ok (C0 : CxOk prog w K base n C) (sc : Names) (e : Expr) : TestOk prog w base n C sc e := (ev_all C0 _ sc e (Nat.lt_succ_self _)).2

theorem st_none {x : Stmt} (h : ∀ m H N R, runS C sc x m H N R → False) : StOk prog w base n C sc x := by
  intro A E ρ Φ fp env m H s N R Q e
  exact (h _ _ _ _ e).elim
theorem ex_of {b : List Stmt} (h : ∀ x ∈ b, StOk prog w base n C sc x) : ExOk prog w base n C sc b := by
  induction b with
  | nil => exact ex_nil
  | cons x r ih => exact ex_cons (h x (.head _)) (ih fun y hy => h y (.tail _ hy))

theorem as_ok (C0 : CxOk prog w K base n C) (sc : Names) (t : Expr) : AsOk prog w base n C sc t := by
  cases t with
  | Attribute o x pos => exact as_Attribute C0 (ev_ok C0 sc o)
  | Subscript o i pos => exact as_Subscript C0 (ev_ok C0 sc o) (ev_ok C0 sc i)
  | _ => exact as_bind (by exact fun _ _ _ _ z => z)
theorem use_ok (C0 : CxOk prog w K base n C) (sc : Names) (e : Expr) : UseOk prog w base n C sc e := by
  cases e with
  | ListComp elt gens scope pos => exact gen_of (fun g _ => ev_ok C0 sc _) (ev_ok C0 _ elt) (fun g _ => ev_ok C0 _ _) fun g _ e _ => test_ok C0 _ e
  | List es pos => exact evs_of fun x _ => ev_ok C0 sc x
  | _ => trivial

theorem ex_lt {k : Nat} (ih : ∀ x : Stmt, sizeOf x < k → StOk prog w base n C sc x) {b : List Stmt} (hs : sizeOf b < k) : ExOk prog w base n C sc b := ex_of fun x hx => ih x (szl hs x hx)
theorem st_all (C0 : CxOk prog w K base n C) (sc : Names) : ∀ (k : Nat) (x : Stmt), sizeOf x < k → StOk prog w base n C sc x := by
  intro k
  induction k with
  | zero => exact fun _ h => absurd h (Nat.not_lt_zero _)
  | succ k ih =>
    intro x h
    cases x with
    | Expr e pos => exact st_Expr (ev_ok C0 sc e)
    | Return v pos =>
      cases v with
      | none => exact st_none (by exact fun _ _ _ _ z => z)
      | some e => exact st_Return (ev_ok C0 sc e)
    | Assign ts e pos =>
      rcases ts with _ | ⟨t, _ | ⟨t2, ts⟩⟩
      · exact st_none (by exact fun _ _ _ _ z => z)
      · exact st_Assign (ev_ok C0 sc e) (as_ok C0 sc t) (use_ok C0 sc e)
      · exact st_none (by exact fun _ _ _ _ z => z)
    | If t b o pos =>
      rw [Stmt.If.sizeOf_spec] at h
      obtain ⟨_, h1, h2, _⟩ := sz4 h
      exact st_If (test_ok C0 sc t) (ex_lt ih h1) (ex_lt ih h2)
    | For t it body orelse pos =>
      rw [Stmt.For.sizeOf_spec] at h
      cases orelse with
      | nil => exact st_For C0 (ev_ok C0 sc it) (fun f p as pos q => evs_of fun x _ => ev_ok C0 sc x) (ex_lt ih (sz5 h))
      | cons _ _ => exact st_none (by exact fun _ _ _ _ z => z)
    | _ => exact st_none (by exact fun _ _ _ _ z => z)
theorem ex_ok (C0 : CxOk prog w K base n C) (sc : Names) (b : List Stmt) : ExOk prog w base n C sc b := ex_of fun x _ => st_all C0 sc _ x (Nat.lt_succ_self _)
end
end

-- Cl21
section
open PySem PySem.Calls PySem.W PyProof.Rows PySem.SeqAt
open Sem (wp)

section
variable {prog : Program} {w : World} {K : Frag} {base h h' : Heap} {n : Nat} {C : Cx} {A : Around} {E : Value → Shared → Prop}
  {ρ ρ' ρ₀ Φ Φ0 Ψ Ψ' fp own : List Addr} {env : Env} {sc : Names} {m m' : Loc} {H H' : HH} {s s' s₀ : Shared}

/-- a default's value -/
noncomputable def Dflt : AV → Value → Prop
  | .none, v => v = .none
  | .bool b, v => v = .bool b
  | .int i, v => ∃ t, v = .int i t
  | _, _ => False
noncomputable def Dflts : List AV → List Value → Prop
  | [], vs => vs = []
  | x :: l, vs => ∃ v r, vs = v :: r ∧ Dflt x v ∧ Dflts l r
theorem Dflts.rv : ∀ {l : List AV} {vs : List Value}, Dflts l vs → RVs prog w h ρ Φ l vs
  | [], _, r => r
  | x :: l, _, ⟨v, r, e, hv, hr⟩ => ⟨v, r, e, by cases x <;> first | exact hv | exact hv.elim, hr.rv⟩

/-- the def at an address -/
structure FnOk (K : Frag) (a : Addr) (f : Fn) : Prop where
  keep : keepIn K (.ref a) = true
  ok : ∃ o fd c oc vs t dv, K.lookup a = some o ∧ o.data = .func fd ∧ fd.globals = mainGlobals ∧ fd.builtins = builtinsNs ∧ fd.body = .stmts f.body ∧ fd.scope.names = f.names ∧ fd.scope.kind = .function ∧
    fd.scope.isCoroutine = false ∧ fd.scope.isGenerator = false ∧ fd.closure = [] ∧ (fd.code = .ref c ∧ K.lookup c = some oc ∧ oc.data = .fields vs ∧ vs[1]? = some (.str fd.qualname t)) ∧ Dflts f.dflt dv ∧
    ∀ us : List Value, us.length ≤ f.params.length → f.params.length - us.length ≤ f.dflt.length → ∀ S, peek K S (bindArgs fd ⟨us, []⟩) = some (f.params.zip (us ++ dv.drop (dv.length - (f.params.length - us.length))))
  nodup : (f.names.map (·.1)).Nodup
  pnodup : f.params.Nodup
  noFree : ∀ x k, (x, k) ∈ f.names → k ≠ .free
  params : ∀ x ∈ f.params, f.names.lookup x = some .local ∨ f.names.lookup x = some .cell
  tame : ∀ x ∈ f.names, (x.1 == ("__debug__" : Str)) = false ∧ (x.1 == ("__classdict__" : Str)) = false

theorem codeC_call_function {R : Result → Shared → Prop} {a : Addr} {args : Args} {o : Obj} {fd : FuncData} {body : List Stmt} (hroom : A.depth < recursionLimit)
    (ho : s.heap.get? a = some o)
    (hd' : o.data = .func fd) (hco : fd.scope.isCoroutine = false) (hgen : fd.scope.isGenerator = false) (hbody : fd.body = .stmts body) (hcd : s.heap.CodeRec fd.code fd.qualname)
    (h : wpAny (model prog w) A.in1 (bindArgs fd args) (fun binds s₁ =>
      wpAny (model prog w) A.in1 (newFunctionEnv fd.scope fd.globals fd.closure binds (fd.qualname ++ ".<locals>.") (some a) fd.code none fd.builtins)
        (fun env s₂ => s₂.heap.NoLimit ∧ codeC (model prog w) A (.func body env) R s₂) (fun e s' => R (.error e) s') s₁) (fun e s' => R (.error e) s') s) :
    codeC (model prog w) A (.call (.ref a) args) R s := by
  refine codeC_of_tree ?_ rfl
  show wpC _ A.in1 (callAny (.ref a) args) _ _ s
  simp only [callAny]
  refine wpC_then (wpAny_load ho ?_)
  obtain ⟨c, oc, vs, tq, hc, hoc, hdc, hq⟩ := hcd
  simp only [hd', callFunction, hco, hgen, hbody, hc]
  rw [hc] at h
  refine wpC_then (m := field (.ref c) 1) (wpAny_field hoc hdc hq (wpC_bind (wpC_pure ?_)))
  exact wpC_then (wpAny_mono h (fun binds s₁ h₁ => wpC_then (wpAny_mono h₁ (fun env s₂ h₂ => wpC_then (wpAny_enterFrame h₂.1 hroom
    (wpC_pure (And.intro rfl h₂.2)))) fun _ _ h' => h')) fun _ _ h' => h')

theorem cellsFrom_isSome : ∀ {names : Names} {k : Nat} {acc : List (Str × Addr)} {x : Str}, ((x, NameKind.cell) ∈ names ∨ (acc.lookup x).isSome) → ((cellsFrom k names acc).lookup x).isSome
  | [], k, acc, x, h => h.elim (fun q => nomatch q) id
  | (y, kd) :: r, k, acc, x, h => by
    unfold cellsFrom
    have up : (acc.lookup x).isSome → ((((y, k) : Str × Addr) :: acc).lookup x).isSome := fun h => by
      rw [List.lookup_cons]
      split
      · rfl
      · exact h
    split
    · rename_i hk
      refine cellsFrom_isSome ?_
      rcases h with h | h
      · rcases List.mem_cons.mp h with h | h
        · cases h; right; simp
        · exact .inl h
      · exact .inr (up h)
    · rename_i hk
      refine cellsFrom_isSome ?_
      rcases h with h | h
      · rcases List.mem_cons.mp h with h | h
        · cases h; exact absurd rfl hk
        · exact .inl h
      · exact .inr h

theorem get_zip_none {x : Str} : ∀ {ps : List Str} {as : List AV}, x ∉ ps → get x (ps.zip as) = none
  | [], _, _ => rfl
  | q :: ps, [], _ => rfl
  | q :: ps, a :: as, hq => by
    rw [List.zip_cons_cons, get_miss fun e : x = q => hq (e ▸ List.mem_cons_self)]
    exact get_zip_none fun m => hq (List.mem_cons_of_mem _ m)
/-- a value found, or what was there before -/
noncomputable def orOld (o : Option AV) (ox : Option AV) : Option AV := match o with
  | some a => some a
  | none => ox
theorem orOld_none (o : Option AV) : orOld o none = o := by cases o <;> rfl
theorem bindL_or {kindOf : Str → Option NameKind} {x : Str} (hx : kindOf x = some .local) : ∀ {ps : List Str} {vs : List Value} {as : List AV} {m0 : Str → Option Value} {ox : Option AV}, ps.Nodup → RVs prog w h ρ Φ as vs → OR prog w h ρ Φ (m0 x) ox →
    OR prog w h ρ Φ (bindL kindOf (ps.zip vs) m0 x) (orOld (get x (ps.zip as)) ox) := by
  intro ps
  induction ps with
  | nil => exact fun _ _ h0 => h0
  | cons p ps ih =>
    intro vs as m0 ox hn r h0
    cases as with
    | nil => cases r; exact h0
    | cons a as =>
      obtain ⟨v, vs, rfl, rv, r⟩ := r
      rw [List.nodup_cons] at hn
      rw [List.zip_cons_cons, List.zip_cons_cons]
      unfold bindL
      by_cases hxp : x = p
      · subst hxp
        rw [get_hit]
        have ih := ih (m0 := if kindOf x = some .local then fun y => if y = x then some v else m0 y else m0) (ox := some a) hn.2 r (by rw [if_pos hx, if_pos rfl]; exact rv)
        rw [get_zip_none hn.1] at ih
        exact ih
      · rw [get_miss hxp]
        refine ih hn.2 r ?_
        split
        · dsimp only; rw [if_neg hxp]; exact h0
        · exact h0
theorem bindC_or {kindOf : Str → Option NameKind} {x : Str} (hx : kindOf x = some .cell) : ∀ {ps : List Str} {vs : List Value} {as : List AV} {m0 : Str → Option Value} {ox : Option AV}, ps.Nodup → RVs prog w h ρ Φ as vs → OR prog w h ρ Φ (m0 x) ox →
    OR prog w h ρ Φ (bindC kindOf (ps.zip vs) m0 x) (orOld (get x (ps.zip as)) ox) := by
  intro ps
  induction ps with
  | nil => exact fun _ _ h0 => h0
  | cons p ps ih =>
    intro vs as m0 ox hn r h0
    cases as with
    | nil => cases r; exact h0
    | cons a as =>
      obtain ⟨v, vs, rfl, rv, r⟩ := r
      rw [List.nodup_cons] at hn
      rw [List.zip_cons_cons, List.zip_cons_cons]
      unfold bindC
      by_cases hxp : x = p
      · subst hxp
        rw [get_hit]
        have hnl : ¬ kindOf x = some .local := by rw [hx]; decide
        have ih := ih (m0 := if kindOf x = some .local then m0 else fun y => if y = x then some v else m0 y) (ox := some a) hn.2 r (by rw [if_neg hnl, if_pos rfl]; exact rv)
        rw [get_zip_none hn.1] at ih
        exact ih
      · rw [get_miss hxp]
        refine ih hn.2 r ?_
        split
        · exact h0
        · dsimp only; rw [if_neg hxp]; exact h0

theorem frame_of {a : Addr} {f : Fn} {L : Addr} {vals : List Value} {as : List AV} {cells : List (Str × Addr)} {cm mL : Str → Option Value} {env : Env} (hk : env.scope.kind = .function) (hn : env.scope.names = f.names) (hg : env.globals = mainGlobals) (hb : env.builtins = builtinsNs)
    (X : InCallC s env.locals (bindL env.kindOf (f.params.zip vals) fun _ => none) env.cells (bindC env.kindOf (f.params.zip vals) fun _ => none) s') (hcs : env.cells = cellsFrom (s.heap.objs.size + 1) f.names [])
    (F : FnOk K a f) (S : Sim prog w base ρ Φ H s.heap) (r : RVs prog w s.heap ρ Φ as vals) :
    ∃ own, (∀ a ∈ own, s.heap.get? a = none) ∧ Sim prog w base ρ (own ++ Φ) H s'.heap ∧ EnvOk prog w s'.heap ρ (own ++ Φ) own env f.names (f.params.zip as) := by
  have hmem : ∀ c, c ∈ (f.names.filterMap fun x => env.cells.lookup x.1) → ∃ x, env.cells.lookup x = some c := fun c hc => by
    obtain ⟨x, _, e⟩ := List.mem_filterMap.mp hc
    exact ⟨x.1, e⟩
  have dead : ∀ c ∈ env.locals :: (f.names.filterMap fun x => env.cells.lookup x.1), s.heap.get? c = none := fun c hc => by
    rcases List.mem_cons.mp hc with rfl | hc
    · exact Heap.get?_none_of_le X.toInCall.fresh
    · obtain ⟨x, e⟩ := hmem c hc
      exact Heap.get?_none_of_le (Nat.le_trans X.toInCall.fresh (Nat.le_of_lt (X.above x c (mem_of_lookup e))))
  have live : ∀ c ∈ env.locals :: (f.names.filterMap fun x => env.cells.lookup x.1), ∃ o, s'.heap.get? c = some o := fun c hc => by
    rcases List.mem_cons.mp hc with rfl | hc
    · obtain ⟨o, _, _, e, _⟩ := X.toInCall.ns; exact ⟨o, e⟩
    · obtain ⟨x, e⟩ := hmem c hc
      obtain ⟨o, g, _⟩ := X.cell x c e
      exact ⟨o, g⟩
  have EX : Ext ρ Φ s.heap ρ ((env.locals :: (f.names.filterMap fun x => env.cells.lookup x.1)) ++ Φ) s'.heap := Ext.addOwn ⟨fun a o e _ => X.toInCall.keep a o e, fun _ _ e => e, fun _ _ _ f => f⟩ dead
  have r' := r.mono EX
  have ko : ∀ x, env.kindOf x = f.names.lookup x := fun x => by unfold Env.kindOf; rw [hn]
  have inOwn : ∀ x c, f.names.lookup x = some .cell → env.cells.lookup x = some c → c ∈ env.locals :: (f.names.filterMap fun x => env.cells.lookup x.1) := fun x c hx hc =>
    .tail _ (List.mem_filterMap.mpr ⟨(x, .cell), lookup_mem hx, hc⟩)
  refine ⟨_, dead, S.addOwn (fun a o e => X.toInCall.keep a o e) dead live, hk, hg, hb, fun x hx => (ko x).trans hx, fun x hx => (ko x).trans hx, fun x hx => absurd rfl (F.noFree x _ (lookup_mem hx)), fun x hx => (ko x).trans hx,
    ⟨_, X.toInCall.ns, fun x hx => ?_⟩, fun x hx => ?_, inOwn, fun x y c h1 h2 _ _ => name_of_addr X.apart (mem_of_lookup h1) (mem_of_lookup h2), .head _, fun a m => List.mem_append.mpr (.inl m), F.tame⟩
  · have := bindL_or (kindOf := env.kindOf) (x := x) ((ko x).trans hx) (m0 := fun _ => none) (ox := none) F.pnodup r' trivial
    rw [orOld_none] at this
    exact this
  · have hx : f.names.lookup x = some .cell := hx.elim id fun q => absurd rfl (F.noFree x _ (lookup_mem q))
    obtain ⟨c, hc⟩ := Option.isSome_iff_exists.mp (cellsFrom_isSome (k := s.heap.objs.size + 1) (acc := []) (.inl (lookup_mem hx)))
    rw [← hcs] at hc
    have := bindC_or (kindOf := env.kindOf) (x := x) ((ko x).trans hx) (m0 := fun _ => none) (ox := none) F.pnodup r' trivial
    rw [orOld_none] at this
    exact ⟨c, _, hc, X.cell x c hc, this, List.mem_append.mpr (.inl (inOwn x c hx hc)), Nat.ne_of_gt (X.above x c (mem_of_lookup hc))⟩

/-- a call of a def: its body runs in a frame of its own -/
theorem run_ok {a : Addr} {f : Fn} {us : List Value} {as : List AV} {N : Loc → HH → Prop} {RR : AV → HH → Prop} {R : Result → Shared → Prop} (F : FnOk K a f) (C0 : CxOk prog w K base n C) (hm : bindA f as = some m) (he : runSs C f.names f.body m H N RR)
    (hd : A.depth < recursionLimit) (hA : ∀ env, Ok (A.deeper env) n) (S : Sim prog w base ρ Φ H s.heap) (r : RVs prog w s.heap ρ Φ as us)
    (hN : ∀ m' H' ρ' s', N m' H' → Go ρ ρ' [] s s' → Sim prog w base ρ' Φ H' s'.heap → R (.ok (.ret .none)) s')
    (hR : ∀ v H' ρ' u s', RR v H' → Go ρ ρ' [] s s' → Sim prog w base ρ' Φ H' s'.heap → RV prog w s'.heap ρ' Φ v u → R (.ok (.ret u)) s') : codeC (model prog w) A (.call (.ref a) ⟨us, []⟩) R s := by
  obtain ⟨o, fd, c, oc, vs, t, dv, ho, hdata, hglob, hbi, hbody, hnames, hkind, hco, hgen, hclo, ⟨hc1, hc2, hc3, hc4⟩, hdf, hbind⟩ := F.ok
  have KI : K.In s.heap := S.kin C0.kin
  have hlim : s.heap.NoLimit := C0.lim.keeps fun b o e => (S.base b o e).1
  unfold bindA at hm
  split at hm
  · rename_i hl
    cases hm
    have hlen := r.length
    have hbt : BindsTo s fd ⟨us, []⟩ (f.params.zip (us ++ dv.drop (dv.length - (f.params.length - us.length)))) := kp_binds KI (hbind us (by rw [hlen]; exact hl.1) (by rw [hlen]; exact hl.2))
    have hdl : dv.length = f.dflt.length := (hdf.rv (prog := prog) (w := w) (h := s.heap) (ρ := ρ) (Φ := Φ)).length
    have rr : RVs prog w s.heap ρ Φ (as ++ f.dflt.drop (f.dflt.length - (f.params.length - as.length))) (us ++ dv.drop (dv.length - (f.params.length - us.length))) := by
      refine r.append ?_
      rw [hdl, hlen]
      exact hdf.rv.drop _
    refine codeC_call_function hd (KI _ _ ho) hdata hco hgen hbody ⟨c, oc, vs, t, hc1, KI _ _ hc2, hc3, hc4⟩ (hbt _ _ _ _ ?_)
    rw [hclo]
    refine wpAny_newFunctionEnv_cells hkind (fun x hx => ?_) fun env henv s1 X => ?_
    · rw [hnames]
      rcases F.params x.1 (List.of_mem_zip hx).1 with q | q
      · exact .inl q
      · exact .inr ⟨q, cellsFrom_isSome (.inl (lookup_mem q))⟩
    · refine ⟨hlim.keeps X.toInCall.keep, codeC_func ?_⟩
      subst henv
      obtain ⟨own, hdead, S1, X1⟩ := frame_of (f := f) (a := a) (env := newEnv fd.scope s.heap.objs.size fd.globals (cellsFrom (s.heap.objs.size + 1) fd.scope.names []) (fd.qualname ++ ".<locals>.") (some a) fd.code none fd.builtins) (L := 0) (cells := []) (cm := fun _ => none) (mL := fun _ => none) hkind hnames hglob hbi X (by show cellsFrom _ fd.scope.names [] = _; rw [hnames]) F S rr
      have g1 : Go ρ ρ [] s s1 := by
        obtain ⟨h1, tk, e⟩ := X.toInCall.same
        subst e
        exact .keep X.toInCall.keep
      have gg : ∀ {ρ' s'}, Go ρ ρ' own s1 s' → Go ρ ρ' [] s s' := fun {ρ' s'} g => by
        have g0 : Go ρ ρ' own s s' := g1.nil.trans g
        exact ⟨⟨g0.step.lives, fun a o e f1 _ => g0.step.keep a o e f1 fun q => (by rw [hdead a q] at e; cases e), g0.step.grow⟩, g0.os, g0.gens⟩
      exact ex_ok C0 f.names f.body he ⟨hA _, X1, S1⟩ ⟨fun m' H' ρ' s' z g S' _ => hN m' H' ρ' s' z (gg g) S'.drop, fun v H' ρ' u s' z g S' rv => hR v H' ρ' u s' z (gg g) S'.drop (RV.mono Ext.drop _ _ rv)⟩
  · exact nos hm
end
end

-- Cl22
section
open PySem PySem.Calls PySem.W PyProof.Rows PySem.SeqAt
open Sem (wp)

section
variable {prog : Program} {w : World} {K : Frag} {base h h' : Heap} {n : Nat} {C : Cx} {A : Around} {E : Value → Shared → Prop}
  {ρ ρ' ρ₀ Φ Φ0 Ψ Ψ' fp own new : List Addr} {env : Env} {sc : Names} {m m' : Loc} {H H' : HH} {s s' s₀ : Shared}

theorem free_cut {a : Addr} (f : Free (ρ ++ new) Φ a) : Free ρ Φ a := ⟨fun m => f.1 (List.mem_append.mpr (.inl m)), f.2⟩
theorem RV.shrink (x : AV) (v : Value) (b : Lig.below ρ.length x = true) (r : RV prog w h (ρ ++ new) Φ x v) : RV prog w h ρ Φ x v :=
  RV.tr ρ.length (fun a o e f => ⟨e, free_cut f⟩) (fun i a hi e => by rw [List.getElem?_append_left hi] at e; exact e) x v b r
theorem RVs.below {l : List AV} {vs : List Value} (r : RVs prog w h ρ Φ l vs) : belows ρ.length l = true := RVs.rec' (P := fun l _ => belows ρ.length l = true) rfl (fun x l v vs hv _ ih => (Bool.and_eq_true ..).mpr ⟨RV.below x v hv, ih⟩) r
theorem RVs.shrink {l : List AV} {vs : List Value} (b : belows ρ.length l = true) (r : RVs prog w h (ρ ++ new) Φ l vs) : RVs prog w h ρ Φ l vs :=
  RVs.rec' (P := fun l vs => belows ρ.length l = true → RVs prog w h ρ Φ l vs) (fun _ => rfl) (fun x l v vs hv _ ih b => (ih (and_e b).2).cons (RV.shrink x v (and_e b).1 hv)) r b
theorem RO.below {o : AO} {a : Addr} (r : RO prog w h ρ Φ o a) : belowO ρ.length o = true := by
  cases o with
  | list l => obtain ⟨vs, g, r⟩ := r; exact r.below
  | edict => rfl
  | idict ks l => obtain ⟨vs, g, hl, r⟩ := r; exact r.below
  | bdict ks l => obtain ⟨vs, g, hl, r⟩ := r; exact r.below
  | barr b => rfl
  | inst C d => obtain ⟨dx, e, g⟩ := r; exact decide_eq_true (List.getElem?_eq_some_iff.mp e).1
  | ns ks l => obtain ⟨vs, g, r⟩ := r; exact r.below
theorem RO.shrink {o : AO} {a : Addr} (b : belowO ρ.length o = true) (r : RO prog w h (ρ ++ new) Φ o a) : RO prog w h ρ Φ o a := by
  cases o with
  | list l => obtain ⟨vs, g, r⟩ := r; exact ⟨vs, g, r.shrink b⟩
  | edict => exact r
  | idict ks l => obtain ⟨vs, g, hl, r⟩ := r; exact ⟨vs, g, hl, r.shrink b⟩
  | bdict ks l => obtain ⟨vs, g, hl, r⟩ := r; exact ⟨vs, g, hl, r.shrink b⟩
  | barr b => exact r
  | inst C d => obtain ⟨dx, e, g⟩ := r; exact ⟨dx, by rw [List.getElem?_append_left (of_decide_eq_true b)] at e; exact e, g⟩
  | ns ks l => obtain ⟨vs, g, r⟩ := r; exact ⟨vs, g, r.shrink b⟩

/-- what the frame alone owned is plain -/
theorem shrink_ok (S : Sim prog w base ρ Φ H h) (S' : Sim prog w base (ρ ++ new) Φ H' h') (k : keptO H.length H H') : Sim prog w base ρ Φ (H'.take H.length) h' := by
  have hlen : H.length ≤ H'.length := by have := S'.len; simp at this; have := S.len; omega
  refine ⟨?_, S.nodup, S.apart, S'.live, fun b o e => ⟨(S'.base b o e).1, free_cut (S'.base b o e).2⟩, ⟨S'.sysm.1, fun m => S'.sysm.2 (List.mem_append.mpr (.inl m))⟩, fun i a o e1 e2 => ?_⟩
  · rw [List.length_take, Nat.min_eq_left hlen]; exact S.len
  · have hi : i < ρ.length := (List.getElem?_eq_some_iff.mp e1).1
    have hiH : i < H.length := S.len ▸ hi
    rw [List.getElem?_take_of_lt hiH] at e2
    have e1' : (ρ ++ new)[i]? = some a := by rw [List.getElem?_append_left hi]; exact e1
    have r := S'.rep i a o e1' e2
    refine RO.shrink ?_ r
    obtain ⟨o', e3, e4⟩ := k i hiH
    rw [e2] at e3; cases e3
    rcases e4 with e4 | e4
    · exact (S.rep i a o e1 e4).below
    · rw [S.len]; exact e4

theorem edict_of {a : Addr} {k : Nat} (e : h.get? a = some (dictOf [] k)) : h.DictOf (intKind prog w) a [] :=
  ⟨_, #[], k, e, ⟨rfl, rfl, rfl⟩, rfl, fun _ he => by simp at he, Pairs.nil, List.nodup_nil⟩

theorem allM_e {f : AV → Option AV} {x : AV} {l l' : List AV} (e : allM f (x :: l) = some l') : ∃ y s, f x = some y ∧ allM f l = some s ∧ l' = y :: s := by
  obtain ⟨y, e1, e⟩ := Option.bind_eq_some_iff.mp e
  obtain ⟨s, e2, e⟩ := Option.map_eq_some_iff.mp e
  exact ⟨y, s, e1, e2, e.symm⟩
theorem allM_ok {f : AV → Option AV} (hf : ∀ x x' v, f x = some x' → RV prog w h ρ' Φ x v → RV prog w h ρ Φ x' v) {l : List AV} {vs : List Value} (r : RVs prog w h ρ' Φ l vs) : ∀ {l' : List AV}, allM f l = some l' → RVs prog w h ρ Φ l' vs ∧ l'.length = l.length :=
  RVs.rec' (P := fun l vs => ∀ {l' : List AV}, allM f l = some l' → RVs prog w h ρ Φ l' vs ∧ l'.length = l.length) (fun e => by cases e; exact ⟨rfl, rfl⟩)
    (fun x l v vs hv _ ih l' e => by
      obtain ⟨y, s, e1, e2, rfl⟩ := allM_e e
      obtain ⟨i1, i2⟩ := ih e2
      exact ⟨i1.cons (hf x y v e1 hv), congrArg (· + 1) i2⟩) r

theorem freezeO_ok {f : AV → Option AV} {i : Nat} {a : Addr} {o : AO} {x' : AV} (S' : Sim prog w base (ρ ++ new) Φ H' h') (ih : ∀ x x' u, f x = some x' → RV prog w h' (ρ ++ new) Φ x u → RV prog w h' ρ Φ x' u) (hi : ¬ i < ρ.length) (ea : (ρ ++ new)[i]? = some a) (ho : H'[i]? = some o) (e : freezeO f H' ρ.length o = some x') : RV prog w h' ρ Φ x' (.ref a) := by
  have isFree : ∀ {i : Nat} {a : Addr}, ¬ i < ρ.length → (ρ ++ new)[i]? = some a → Free ρ Φ a := fun {i a} hi e => by
    refine ⟨fun m => ?_, S'.apart a (List.mem_of_getElem? e)⟩
    have mn : a ∈ new := by
      rw [List.getElem?_append_right (Nat.le_of_not_lt hi)] at e
      exact List.mem_of_getElem? e
    exact (List.nodup_append.mp S'.nodup).2.2 a m a mn rfl
  have fa := isFree hi ea
  have nosys : (a == sysModules) = false := S'.not_sys (List.mem_of_getElem? ea)
  have ro := S'.rep i a _ ea ho
  cases o with
  | list l =>
    obtain ⟨l', e1, e2⟩ := Option.map_eq_some_iff.mp e
    cases e2
    obtain ⟨vs, g, r⟩ := ro
    exact ⟨a, vs, rfl, fa, g, (allM_ok ih r e1).1⟩
  | edict =>
    cases e
    obtain ⟨q, g⟩ := ro
    exact ⟨a, [], rfl, fa, edict_of g, rfl, rfl, nosys⟩
  | idict ks l =>
    obtain ⟨l', e1, e2⟩ := Option.map_eq_some_iff.mp e
    cases e2
    obtain ⟨vs, g, hl, r⟩ := ro
    obtain ⟨q1, q2⟩ := allM_ok ih r e1
    exact ⟨a, vs, rfl, fa, g, hl.trans q2.symm, q1, nosys⟩
  | inst Cl d =>
    have e : (if d < ρ.length then none else H'[d]?.bind fun o => match o with | .ns ks vs => (allM f vs).map (.ins Cl ks) | _ => none) = some x' := e
    by_cases hd : d < ρ.length
    · rw [if_pos hd] at e; exact nos e
    · rw [if_neg hd] at e
      obtain ⟨o2, hns, e⟩ := Option.bind_eq_some_iff.mp e
      cases o2 with
      | ns ks l =>
        obtain ⟨l', e1, e2⟩ := Option.map_eq_some_iff.mp e
        cases e2
        obtain ⟨dx, ed, g⟩ := ro
        obtain ⟨vs, gn, r⟩ := S'.rep d dx _ ed hns
        exact ⟨a, dx, vs, rfl, fa, isFree hd ed, g, gn, (allM_ok ih r e1).1⟩
      | _ => exact nos e
  | _ => exact nos e

theorem freeze_ok (S' : Sim prog w base (ρ ++ new) Φ H' h') : ∀ (k : Nat) (x x' : AV) (u : Value), freeze H' ρ.length k x = some x' → RV prog w h' (ρ ++ new) Φ x u → RV prog w h' ρ Φ x' u := by
  intro k
  induction k with
  | zero => exact fun _ _ _ e => nos e
  | succ k ih =>
    intro x x' u e r
    cases hb : Lig.below ρ.length x with
    | true =>
      unfold freeze at e
      rw [hb] at e
      cases e
      exact RV.shrink _ _ hb r
    | false =>
      have key : ∀ {y : Option AV}, freeze H' ρ.length (k + 1) x = cond (Lig.below ρ.length x) (some x) y → y = some x' := fun q => by rw [hb] at q; exact q.symm.trans e
      cases x with
      | tup l =>
        obtain ⟨l', e1, e2⟩ := Option.map_eq_some_iff.mp (key rfl)
        cases e2
        obtain ⟨a, vs, e, f, g, r⟩ := r
        exact ⟨a, vs, e, free_cut f, g, (allM_ok ih r e1).1⟩
      | lst l =>
        obtain ⟨l', e1, e2⟩ := Option.map_eq_some_iff.mp (key rfl)
        cases e2
        obtain ⟨a, vs, e, f, g, r⟩ := r
        exact ⟨a, vs, e, free_cut f, g, (allM_ok ih r e1).1⟩
      | obj i =>
        obtain ⟨o, ho, e1⟩ := Option.bind_eq_some_iff.mp (key rfl)
        obtain ⟨a, ea, rfl⟩ := r
        exact freezeO_ok S' ih (of_decide_eq_false hb) ea ho e1
      | _ => exact nos (key rfl)

/-- the text's own tables, and what the heap holds of them -/
structure TabOk (K : Frag) (base : Heap) (T : Tab) : Prop where
  kin : K.In base
  lim : base.NoLimit
  glob : ∀ x v, T.glob x = some v → GlobOk base x v
  attr : ∀ Cl x, T.attr Cl x = true → AttrOk K Cl x
  meth : ∀ Cl x f, T.meth Cl x = some f → MethOk K Cl x f
  makes : ∀ Cl f, T.meth Cl "__init__" = some f → makesIn K Cl = true ∧ keepIn K (.ref Cl) = true
  fns : ∀ a f, T.fns a = some f → FnOk K a f

theorem deeper_ok {d : Nat} (h1 : A.handled = none) (h2 : A.guards = some []) (h3 : A.depth + 4 * (d + 1) ≤ 993) (h4 : A.units + 400 * (d + 1) ≤ 9890) : A.depth < recursionLimit ∧ ∀ env, Ok (A.deeper env) d :=
  ⟨by show _ < 1000; (clear h4; omega), fun env => ⟨h1, h2, by show A.depth + 1 + 4 * d ≤ 990; (clear h4; omega), by show A.units + 3 + 400 * d ≤ 9500; (clear h3; omega)⟩⟩
theorem cx_ok {T : Tab} (T0 : TabOk K base T) : ∀ d, CxOk prog w K base d (T.cx (calls T d)) := by
  intro d
  induction d with
  | zero => exact ⟨T0.kin, T0.lim, T0.glob, T0.attr, T0.meth, T0.makes, fun _ _ _ _ e => e.elim, fun e => e.elim, fun e => e.elim⟩
  | succ d C0 =>
    refine ⟨T0.kin, T0.lim, T0.glob, T0.attr, T0.meth, T0.makes, fun a as H P e => ?_, ?_, ?_⟩
    · exact optP_e (o := T.fns a) (P := fun f => callF (T.cx (calls T d)) f as H P) e fun f ef _ => (T0.fns a f ef).keep
    · intro a as H P e A s ρ Φ us R hA S r hQ
      refine optP_e (o := T.fns a) (P := fun f => callF (T.cx (calls T d)) f as H P) e fun f ef e => optP_e e fun m em e => ?_
      obtain ⟨hd, hA'⟩ := deeper_ok (A := A) (d := d) hA.handled hA.guards (by have := hA.depth; omega) (by have := hA.units; omega)
      have fin : ∀ v1 H1 ρ' u s', finP H P v1 H1 → Go ρ ρ' [] s s' → Sim prog w base ρ' Φ H1 s'.heap → RV prog w s'.heap ρ' Φ v1 u → R (.ok (.ret u)) s' := fun v1 H1 ρ' u s' z g S' rv => by
        obtain ⟨v', G, X, rfl, hG, hk, hf, z⟩ := z
        obtain ⟨new, rfl, gn⟩ := g.step.grow
        have S2 := shrink_ok S S' hk
        rw [← hG, List.take_left] at S2
        exact hQ v' G u s' z ⟨⟨g.step.lives, g.step.keep, [], (List.append_nil _).symm, fun _ q => nomatch q⟩, g.os, g.gens⟩ S2 (freeze_ok S' 4 v1 _ u (by rw [S.len]; exact hf) rv)
      exact run_ok (T0.fns a f ef) C0 em e hd hA' S r (fun m' H' ρ' s' z g S' => fin .none H' ρ' .none s' z g S' rfl) fin
    · intro a as H P e A s ρ Φ us R hA S r hQ
      refine optP_e (o := T.fns a) (P := fun f => initF (T.cx (calls T d)) f as H P) e fun f ef e => optP_e e fun m em e => ?_
      obtain ⟨hd, hA'⟩ := deeper_ok (A := A) (d := d) hA.handled hA.guards (by have := hA.depth; omega) (by have := hA.units; omega)
      refine run_ok (T0.fns a f ef) C0 em e hd hA' S r (fun m' H' ρ' s' z g S' => hQ H' ρ' s' z g S') fun v H' ρ' u s' z g S' rv => ifT_e z fun hn z => ?_
      cases v with
      | none => cases rv; exact hQ H' ρ' s' z g S'
      | _ => cases hn
end
end

-- HT
section
open PySem PySem.Calls PySem.W PyProof.Rows
/-- the top's run, its objects in a tree -/
noncomputable def topRunT (tb : String → Option Builtin) (p : Program) (w : World) (n₀ : Nat) (ann : Option Value) : Nat → SharedT → Thread → Option SharedT
  | 0, _, _ => none
  | n + 1, s, t => match through t with
    | true => some s
    | false => match stepOk n₀ ann t with
      | false => none
      | true => match stepT (denote tb) p w s t with
        | some r => topRunT tb p w n₀ ann n r.1 r.2
        | none => none
theorem topRunT_of {tb : String → Option Builtin} {p : Program} {w : World} {n₀ : Nat} {ann : Option Value} : ∀ {n : Nat} {s s' : SharedT} {t : Thread}, topRunT tb p w n₀ ann n s t = some s' → topRun tb p w n₀ ann n s.abs t = some s'.abs
  | 0, _, _, _, h => by cases h
  | n + 1, s, s', t, h => by
    unfold topRunT at h
    unfold topRun
    cases he : through t with
    | true => rw [he] at h; cases h; rfl
    | false =>
      rw [he] at h
      cases hk : stepOk n₀ ann t with
      | false => rw [hk] at h; cases h
      | true =>
        rw [hk] at h
        cases hs : stepT (denote tb) p w s t with
        | none => rw [hs] at h; cases h
        | some r => obtain ⟨s₂, t₂⟩ := r; rw [hs] at h; rw [stepT_spec hs]; exact topRunT_of h
/-- a tree of these objects -/
noncomputable def treeOf (os : List Obj) : BT := (os.foldl (fun (r : BT × Nat) o => (r.1.ins r.2 o, r.2 + 1)) (BT.nil, 0)).1
theorem left_of_tree {p q : Program} {loose : List Str} {Xt : Shared → Bool} {α : Type} {Yf : Shared → α} {Ya : World → α} {N : Nat} {g0 : Bool} {H₀ : Params → Heap} {gs₀ : Array GenState} {d₀ : Drawn} {k₀ : Nat} {m₀ : Nat} {ann : Option Value}
    (T₀ : Params → BT) (l₀ : Life)
    (open_ : ∀ w : World, (fencedOpening treeTable p w N).map (fun s => (s.heap, s.gens, s.drawn, s.toks)) = some (H₀ w.params, gs₀, d₀, k₀))
    (size : ∀ w : World, ((H₀ w.params).isNs mainGlobals && gs₀.size == 0, (H₀ w.params).objs.size, (H₀ w.params).nsMap mainGlobals "__annotations__") = (true, m₀, ann))
    (tree : ∀ P, H₀ P = absHeap (T₀ P) m₀ l₀)
    (run : ∀ (w : World), (fun os => (topRunT treeTable p w m₀ ann N ⟨T₀ w.params, m₀, l₀, gs₀, d₀, k₀, os⟩ (topStub p)).map fun s => (fun s : Shared =>
        ((staticsOk (importedModules p.main.body) (H₀ w.params) s.heap && namesBound p s.heap && gensDone s && laidKept (H₀ w.params) s.heap), openSeen q loose (importedModules p.main.body) Xt g0 s, Yf s)) s.abs) = fun _ => some (true, openGood q loose, Ya w)) :
    LeftO p q loose Xt Yf Ya N g0 := fun w => by
  obtain ⟨⟨h, gs, d, k, os⟩, e, e'⟩ := Option.map_eq_some_iff.mp (open_ w)
  obtain ⟨rfl, rfl, rfl, rfl⟩ : h = H₀ w.params ∧ gs = gs₀ ∧ d = d₀ ∧ k = k₀ := by simpa using e'
  obtain ⟨z1, z2, z3⟩ : _ ∧ _ ∧ _ := by simpa only [Prod.mk.injEq] using size w
  obtain ⟨s₁, r, l⟩ := Option.map_eq_some_iff.mp (congrFun (run w) os)
  obtain ⟨l1, l2, l3⟩ : _ ∧ _ ∧ _ := by simpa only [Prod.mk.injEq] using l
  have r := topRunT_of r
  have t : topFrom treeTable p w N ⟨H₀ w.params, gs, d, k, os⟩ = some s₁.abs := by
    unfold topFrom
    dsimp only
    rw [z1, z2, z3]
    have r' : topRun treeTable p w m₀ ann N ⟨H₀ w.params, gs, d, k, os⟩ (topStub p) = some s₁.abs := by rw [tree w.params]; exact r
    dsimp only
    rw [r']
    show (match staticsOk (importedModules p.main.body) (H₀ w.params) s₁.abs.heap && namesBound p s₁.abs.heap && gensDone s₁.abs && laidKept (H₀ w.params) s₁.abs.heap with | true => _ | false => _) = _
    rw [l1]
  unfold openEnds
  rw [e]
  show (topFrom treeTable p w N _).map _ = _
  rw [t]
  exact congrArg some (Prod.ext l2 l3)
end

-- Hd2
section
open PySem PySem.Calls PySem.W PyProof.Rows
abbrev pp2 : Program := PySem.Challenge.rw_pb0196_02.row.prog
noncomputable def boot2 (P : Params) : BT := treeOf (boot_heap P).objs.toList
theorem boot2_tree (P : Params) : boot_heap P = absHeap (boot2 P) 11 {} := by kernel_rfl
noncomputable def V2 : Program := PySem.W.view pp2 [0,2,3,5,6,7,8,9,10,13,14,15,16,17,18,19,23,24,25,26,27,28,29,30,31,32,34,35,36,37,38]
theorem said2 : PySem.Challenge.rw_pb0196_02.wellSaid = true := by kernel_rfl
noncomputable def loose2 : List Str := ["ShapeError", "laid", "write_coverage", "by_glyph"]
noncomputable def seen2 (s : Shared) : Bool := xlAt V2 [] s && recOk (RowW.records (OpenRow.toRowW PySem.Challenge.rw_pb0196_02.row)) s
theorem head2 (H : Hook) (run : ∀ (w : World), (fun os => (topRunT treeTable pp2 w 11 (some (.ref 6)) 6176 ⟨boot2 w.params, 11, {}, #[], boot_drawn, boot_toks, os⟩ (topStub pp2)).map fun s => (fun s : Shared =>
        ((staticsOk (importedModules pp2.main.body) (boot_heap w.params) s.heap && namesBound pp2 s.heap && gensDone s && laidKept (boot_heap w.params) s.heap), openSeen V2 loose2 (importedModules pp2.main.body) seen2 true s, Hook.obs H s)) s.abs) = fun _ => some (true, openGood V2 loose2, Hook.val H w))
    {d : DefRec} {kwd : List (Str × Expr)} (hdef : defOf V2 PySem.Challenge.rw_pb0196_02.row.name = some (d, kwd)) (hp : PySem.Challenge.rw_pb0196_02.row.prog.theDef PySem.Challenge.rw_pb0196_02.row.name = some (d.params, d.body, d.scope)) (hk : kwWritten? d.params.kwonlyargs d.params.kw_defaults = some kwd)
    (said : PySem.Challenge.rw_pb0196_02.row.wellSaid = true) (hw : PySem.Challenge.rw_pb0196_02.row.toRowW.promised) (call : WalkC V2 loose2 (XL V2 []) (Hook.says H) PySem.Challenge.rw_pb0196_02.row.toRowW d kwd) : PySem.Challenge.rw_pb0196_02.row.Holds :=
  head_clean (r := PySem.Challenge.rw_pb0196_02.row) (q := V2) (loose := loose2) (Xt := seen2) (XP := XL V2 []) (Yf := Hook.obs H) (Ya := Hook.val H) (YP := Hook.says H) (N := 6176)
    (left_of_tree (g0 := true) (H₀ := boot_heap) (gs₀ := #[]) (d₀ := boot_drawn) (k₀ := boot_toks) (m₀ := 11) (ann := some (.ref 6)) boot2 {} (boot_open (by rfl) (by rfl) (fun _ => rfl)) (by intro w; kernel_rfl) boot2_tree run)
    (Hook.of H) (Hook.keeps H) (fun s e => xl_of s (Bool.and_eq_true_iff.mp e).1) XL.keeps hdef hp hk (fun s e => recFacts_of (Bool.and_eq_true_iff.mp e).2) (by rfl) said (by decide +kernel) ⟨rfl, rfl, rfl, rfl, rfl, by decide +kernel⟩ hw call
local macro_rules | `(tactic| o_law) => `(tactic| refine holds_law said2 fun said => ?_)
local macro_rules | `(tactic| o_head $H) => `(tactic| refine head2 $H (by intro w; kernel_rfl) (by rfl) (by rfl) (by rfl) (by assumption) ?hw ?hc)
set_option maxRecDepth 100000 in
set_option maxHeartbeats 8000000 in
open_top hd2 for PySem.Challenge.rw_pb0196_02
end

-- Ck
section
open PySem PySem.Calls PySem.W PyProof.Rows PySem.SeqAt

/-! The tables of a text, read from what its top leaves. -/
noncomputable def refOf : Value → Option Addr
  | .ref a => some a
  | _ => none
noncomputable def strOf : Value → Option Str
  | .str q _ => some q
  | _ => none
noncomputable def fieldsOf : Data → Option (Array Value)
  | .fields vs => some vs
  | _ => none
noncomputable def funcOf : Data → Option FuncData
  | .func fd => some fd
  | _ => none
noncomputable def isCls : Data → Bool
  | .cls _ => true
  | _ => false
noncomputable def seqOf : Data → List Value
  | .seq vs _ => vs.toList
  | _ => []
noncomputable def dictEs : Data → Option (Array DictEntry)
  | .dict es _ => some es
  | _ => none
noncomputable def stmtsOf : FuncBody → Option (List Stmt)
  | .stmts b => some b
  | _ => none
theorem refOf_some {v : Value} {a : Addr} (h : refOf v = some a) : v = .ref a := by cases v <;> first | exact nos h | (cases h; rfl)
theorem strOf_some {v : Value} {a : Str} (h : strOf v = some a) : ∃ t, v = .str a t := by cases v <;> first | exact nos h | (cases h; exact ⟨_, rfl⟩)
theorem fieldsOf_some {v : Data} {a : Array Value} (h : fieldsOf v = some a) : v = .fields a := by cases v <;> first | exact nos h | (cases h; rfl)
theorem funcOf_some {v : Data} {a : FuncData} (h : funcOf v = some a) : v = .func a := by cases v <;> first | exact nos h | (cases h; rfl)
theorem stmtsOf_some {v : FuncBody} {a : List Stmt} (h : stmtsOf v = some a) : v = .stmts a := by cases v <;> first | exact nos h | (cases h; rfl)
noncomputable def dvalOf (K : Frag) (v : Value) : List Value := match refOf v with
  | some a => match K.lookup a with
    | some o => seqOf o.data
    | none => []
  | none => []
noncomputable def dfltO : Value → Option AV
  | .int i _ => some (.int i)
  | .bool b => some (.bool b)
  | .none => some .none
  | _ => none
noncomputable def dfltA (v : Value) : AV := (dfltO v).getD .none
theorem dflt_of {v : Value} (h : (dfltO v).isSome = true) : Dflt (dfltA v) v := by cases v <;> first | exact ⟨_, rfl⟩ | exact rfl | exact nomatch h
theorem dflts_of {vs : List Value} (h : vs.all (fun v => (dfltO v).isSome) = true) : Dflts (vs.map dfltA) vs := by
  induction vs with
  | nil => rfl
  | cons v vs ih => exact ⟨v, vs, rfl, dflt_of (and_e h).1, ih (and_e h).2⟩
noncomputable def fnOf (K : Frag) (a : Addr) : Option Fn := match K.lookup a with
  | some ⟨_, _, .func ⟨_, _, ⟨_, as, _, _, _, _, _⟩, .stmts b, ⟨_, ns, _, _, _⟩, _, _, dv, _, _, _, _, _, _, _⟩, _⟩ => some ⟨as.map (·.arg), (dvalOf K dv).map dfltA, b, ns⟩
  | _ => none
noncomputable def codeGood (K : Frag) (fd : FuncData) : Bool := onO (refOf fd.code) fun c => onO (K.lookup c) fun o => onO (fieldsOf o.data) fun vs => onO vs[1]? fun v => onO (strOf v) fun q => q == fd.qualname
noncomputable def namesGood (ps : List Str) (ns : Names) : Bool := decide ((ns.map (·.1)).Nodup) && decide ps.Nodup && ns.all (fun x => x.2 != .free && !(x.1 == ("__debug__" : Str)) && !(x.1 == ("__classdict__" : Str))) &&
  ps.all fun x => ns.lookup x == some .local || ns.lookup x == some .cell
noncomputable def fdGood (K : Frag) (a : Addr) (fd : FuncData) : Bool := fd.globals == mainGlobals && fd.builtins == builtinsNs && fd.scope.kind == .function && !fd.scope.isCoroutine && !fd.scope.isGenerator && fd.closure.isEmpty && codeGood K fd && (dvalOf K fd.defaults).all (fun v => (dfltO v).isSome) &&
      namesGood (fd.params.args.map (·.arg)) fd.scope.names && keepIn K (.ref a) && (stmtsOf fd.body).isSome
noncomputable def fnGood (K : Frag) (a : Addr) : Bool := onO (K.lookup a) fun o => onO (funcOf o.data) fun fd => fdGood K a fd
noncomputable def Binds (K : Frag) (a : Addr) : Prop := ∀ o fd, K.lookup a = some o → o.data = .func fd → ∀ us : List Value, us.length ≤ fd.params.args.length → fd.params.args.length - us.length ≤ (dvalOf K fd.defaults).length → ∀ S,
      peek K S (bindArgs fd ⟨us, []⟩) = some ((fd.params.args.map (·.arg)).zip (us ++ (dvalOf K fd.defaults).drop ((dvalOf K fd.defaults).length - (fd.params.args.length - us.length))))

theorem binds_of {K : Frag} {a : Addr} {cl : Value} {dc : Option Addr} {fd : FuncData} {sl : Array (Option Value)} (n d : Nat) {dv : List Value} (hl : K.lookup a = some ⟨cl, dc, .func fd, sl⟩) (hn : fd.params.args.length = n) (hd : dvalOf K fd.defaults = dv) (hdl : dv.length = d)
    (h : ∀ us : List Value, us.length ≤ n → n - us.length ≤ d → ∀ S, peek K S (bindArgs fd ⟨us, []⟩) = some ((fd.params.args.map (·.arg)).zip (us ++ dv.drop (dv.length - (n - us.length))))) : Binds K a := by
  intro o fd' ho hd'
  rw [hl] at ho
  cases ho
  cases hd'
  subst hdl hn hd
  exact h

theorem fn_of {K : Frag} {a : Addr} {f : Fn} (e : fnOf K a = some f) (g : fnGood K a = true) (b : Binds K a) : FnOk K a f := by
  refine onO_e g fun o ho g => onO_e g fun fd hfd g => ?_
  have hfd := funcOf_some hfd
  have b := b o fd ho hfd
  have hf : ∃ bd, stmtsOf fd.body = some bd ∧ f = ⟨fd.params.args.map (·.arg), (dvalOf K fd.defaults).map dfltA, bd, fd.scope.names⟩ := by
    unfold fnOf at e
    rw [ho] at e
    obtain ⟨cl, dc, dt, sl⟩ := o
    cases hfd
    obtain ⟨_, _, ps, bd, sc, _, _, dv, _, _, _, _, _, _, _⟩ := fd
    obtain ⟨_, as, _, _, _, _, _⟩ := ps
    obtain ⟨_, ns, _, _, _⟩ := sc
    cases bd with
    | stmts bd => exact ⟨bd, rfl, (Option.some.inj (show some _ = some f from e)).symm⟩
    | _ => exact nos (show none = some f from e)
  obtain ⟨bd, hb, rfl⟩ := hf
  have hb := stmtsOf_some hb
  obtain ⟨g, _⟩ := and_e g
  obtain ⟨g, g10⟩ := and_e g
  obtain ⟨g, g9⟩ := and_e g
  obtain ⟨g, g8⟩ := and_e g
  obtain ⟨g, g7⟩ := and_e g
  obtain ⟨g, g6⟩ := and_e g
  obtain ⟨g, g5⟩ := and_e g
  obtain ⟨g, g4⟩ := and_e g
  obtain ⟨g, g3⟩ := and_e g
  obtain ⟨g1, g2⟩ := and_e g
  refine onO_e g7 fun c hc g7 => onO_e g7 fun oc hlc g7 => onO_e g7 fun vs hvs g7 => onO_e g7 fun v hv g7 => onO_e g7 fun q hq g7 => ?_
  obtain ⟨t, rfl⟩ := strOf_some hq
  cases beq_iff_eq.mp g7
  obtain ⟨n, n4⟩ := and_e g9
  obtain ⟨n, n3⟩ := and_e n
  obtain ⟨n1, n2⟩ := and_e n
  have n3 : ∀ x ∈ fd.scope.names, x.2 ≠ .free ∧ (x.1 == ("__debug__" : Str)) = false ∧ (x.1 == ("__classdict__" : Str)) = false := fun x m => by
    obtain ⟨q, q3⟩ := and_e (List.all_eq_true.mp n3 x m)
    obtain ⟨q1, q2⟩ := and_e q
    exact ⟨bne_iff_ne.mp q1, (Bool.not_eq_true' _).mp q2, (Bool.not_eq_true' _).mp q3⟩
  refine ⟨g10, ⟨o, fd, c, oc, vs, t, dvalOf K fd.defaults, ho, hfd, beq_iff_eq.mp g1, beq_iff_eq.mp g2, hb, rfl, beq_iff_eq.mp g3, (Bool.not_eq_true' _).mp g4, (Bool.not_eq_true' _).mp g5, List.isEmpty_iff.mp g6, ⟨refOf_some hc, hlc, fieldsOf_some hvs, hv⟩, dflts_of g8, fun us h1 h2 S => ?_⟩,
    of_decide_eq_true n1, of_decide_eq_true n2, fun x k m => (n3 _ m).1, fun x m => ((Bool.or_eq_true ..).mp (List.all_eq_true.mp n4 x m)).imp beq_iff_eq.mp beq_iff_eq.mp, fun x m => (n3 x m).2⟩
  simp only [List.length_map] at h1 h2 ⊢
  exact b us h1 h2 S

/-- a class's attribute, kept in the object alone -/
noncomputable def attrOf (K : Frag) (Cl : Addr) (x : Str) : Bool := plainGet K Cl x && hasDictIn K Cl && (onO (findIn K (.ref Cl) x) fun attr => noGet K attr) &&
  findIn K (.ref Cl) "__setattr__" == some (some (.builtin "object.__setattr__")) && plainOver K Cl && takerIn K Cl x == some none
noncomputable def methOf (K : Frag) (Cl : Addr) (x : Str) (f : Addr) : Bool := findIn K (.ref Cl) x == some (some (.ref f)) && plainGet K Cl x && isFn K (.ref f) && (x != ("__init__" : Str) || (makesIn K Cl && keepIn K (.ref Cl)))
noncomputable def globK (K : Frag) (x : Str) : Option Value := (K.lookup mainGlobals).bind fun o => (dictEs o.data).bind fun es => (es.find? fun e => e.key.isStr x).map (·.val)
noncomputable def globOf (K : Frag) (x : Str) : AV → Bool
  | .fn a => globK K x == some (.ref a)
  | .cls a => globK K x == some (.ref a)
  | .bi v => (globK K x).isNone && x != ("__name__" : Str) && bootBuiltins x == some v
  | _ => false

theorem attr_of {K : Frag} {Cl : Addr} {x : Str} (h : attrOf K Cl x = true) : AttrOk K Cl x := by
  obtain ⟨h, h6⟩ := and_e h
  obtain ⟨h, h5⟩ := and_e h
  obtain ⟨h, h4⟩ := and_e h
  obtain ⟨h, h3⟩ := and_e h
  obtain ⟨h1, h2⟩ := and_e h
  exact ⟨h1, h2, onO_e h3 fun at' ha h3 => ⟨at', ha, h3⟩, beq_iff_eq.mp h4, h5, beq_iff_eq.mp h6⟩
theorem meth_of {K : Frag} {Cl : Addr} {x : Str} {f : Addr} (h : methOf K Cl x f = true) : MethOk K Cl x f ∧ (x = "__init__" → makesIn K Cl = true ∧ keepIn K (.ref Cl) = true) := by
  obtain ⟨h, h4⟩ := and_e h
  obtain ⟨h, h3⟩ := and_e h
  obtain ⟨h1, h2⟩ := and_e h
  exact ⟨⟨h2, beq_iff_eq.mp h1, h3⟩, fun hx => ((Bool.or_eq_true ..).mp h4).elim (fun q => absurd hx (bne_iff_ne.mp q)) and_e⟩

theorem globs_at {K : Frag} {base : Heap} {mg : Str → Option Value} (KI : K.In base) (g : base.Ns mainGlobals mg) (hk : ∃ c d es n s, K.lookup mainGlobals = some ⟨c, d, .dict es n, s⟩) (x : Str) : mg x = globK K x := by
  obtain ⟨c, d, es, n, sl, hl⟩ := hk
  obtain ⟨o, es', ep, ho, hd, hks, hf⟩ := g
  have := KI _ _ hl
  rw [ho] at this
  cases this
  cases hd
  unfold globK
  rw [hl]
  exact (hf x).symm
theorem glob_of {K : Frag} {base : Heap} {mg mb : Str → Option Value} (KI : K.In base) (g : base.Ns mainGlobals mg) (b : base.Ns builtinsNs mb) (hb : ∀ x : Str, x ≠ "__name__" → mb x = bootBuiltins x) (hk : ∃ c d es n s, K.lookup mainGlobals = some ⟨c, d, .dict es n, s⟩) {x : Str} {v : AV} (h : globOf K x v = true) : GlobOk base x v := by
  have hm := globs_at KI g hk x
  cases v with
  | fn a => exact ⟨mg, .ref a, g, rfl, .inl (hm.trans (beq_iff_eq.mp h))⟩
  | cls a => exact ⟨mg, .ref a, g, rfl, .inl (hm.trans (beq_iff_eq.mp h))⟩
  | bi v =>
    obtain ⟨h, h3⟩ := and_e h
    obtain ⟨h1, h2⟩ := and_e h
    exact ⟨mg, v, g, rfl, .inr ⟨hm.trans (Option.isNone_iff_eq_none.mp h1), mb, b, (hb x (bne_iff_ne.mp h2)).trans (beq_iff_eq.mp h3)⟩⟩
  | _ => cases h

/-- what a text's names, classes, functions are, as lists -/
structure Lists where
  globs : List (Str × AV)
  meths : List (Addr × Str × Addr)
  attrs : List (Addr × Str)
  fns : List Addr
noncomputable def findM (K : Addr) (x : Str) : List (Addr × Str × Addr) → Option Addr
  | [] => none
  | (a, y, f) :: r => bif a == K then (bif y == x then some f else findM K x r) else findM K x r
noncomputable def hasA (K : Addr) (x : Str) : List (Addr × Str) → Bool
  | [] => false
  | (a, y) :: r => bif a == K then (bif y == x then true else hasA K x r) else hasA K x r
noncomputable def tabOf (K : Frag) (L : Lists) : Tab := ⟨fun x => L.globs.lookup x, fun a => bif L.fns.any (· == a) then fnOf K a else none, fun a x => findM a x L.meths, fun a x => hasA a x L.attrs⟩
noncomputable def listsGood (K : Frag) (L : Lists) : Bool := L.globs.all (fun p => globOf K p.1 p.2) && L.meths.all (fun p => methOf K p.1 p.2.1 p.2.2) && L.attrs.all (fun p => attrOf K p.1 p.2) && L.fns.all (fnGood K)

theorem lookup_in {x : Str} {v : AV} : ∀ {l : List (Str × AV)}, l.lookup x = some v → (x, v) ∈ l
  | [], h => nos h
  | (y, u) :: r, h => by
    rw [List.lookup_cons] at h
    cases hx : x == y with
    | true => rw [hx] at h; cases h; cases beq_iff_eq.mp hx; exact .head _
    | false => rw [hx] at h; exact .tail _ (lookup_in h)
theorem findM_in {K f : Addr} {x : Str} : ∀ {l : List (Addr × Str × Addr)}, findM K x l = some f → (K, x, f) ∈ l
  | [], h => nos h
  | (a, y, g) :: r, h => by
    unfold findM at h
    cases ha : a == K with
    | true =>
      rw [ha] at h
      cases hy : y == x with
      | true => rw [hy] at h; cases h; cases beq_iff_eq.mp ha; cases beq_iff_eq.mp hy; exact .head _
      | false => rw [hy] at h; exact .tail _ (findM_in h)
    | false => rw [ha] at h; exact .tail _ (findM_in h)
theorem hasA_in {K : Addr} {x : Str} : ∀ {l : List (Addr × Str)}, hasA K x l = true → (K, x) ∈ l
  | [], h => nomatch h
  | (a, y) :: r, h => by
    unfold hasA at h
    cases ha : a == K with
    | true =>
      rw [ha] at h
      cases hy : y == x with
      | true => cases beq_iff_eq.mp ha; cases beq_iff_eq.mp hy; exact .head _
      | false => rw [hy] at h; exact .tail _ (hasA_in h)
    | false => rw [ha] at h; exact .tail _ (hasA_in h)

theorem tab_of {K : Frag} {base : Heap} {L : Lists} {mg mb : Str → Option Value} (KI : K.In base) (g : base.Ns mainGlobals mg) (b : base.Ns builtinsNs mb) (hb : ∀ x : Str, x ≠ "__name__" → mb x = bootBuiltins x)
    (hk : ∃ c d es n s, K.lookup mainGlobals = some ⟨c, d, .dict es n, s⟩) (hl : base.NoLimit) (hL : listsGood K L = true) (hbd : ∀ a ∈ L.fns, Binds K a) : TabOk K base (tabOf K L) := by
  obtain ⟨hL, l4⟩ := and_e hL
  obtain ⟨hL, l3⟩ := and_e hL
  obtain ⟨l1, l2⟩ := and_e hL
  refine ⟨KI, hl, fun x v h => glob_of KI g b hb hk (List.all_eq_true.mp l1 _ (lookup_in h)), fun Cl x h => attr_of (List.all_eq_true.mp l3 _ (hasA_in h)), fun Cl x f h => (meth_of (List.all_eq_true.mp l2 _ (findM_in h))).1, fun Cl f h => (meth_of (List.all_eq_true.mp l2 _ (findM_in h))).2 rfl, fun a f h => ?_⟩
  have h : cond (L.fns.any (· == a)) (fnOf K a) none = some f := h
  cases hm : L.fns.any (· == a) with
  | true =>
    rw [hm] at h
    obtain ⟨a', m, e⟩ := List.any_eq_true.mp hm
    cases beq_iff_eq.mp e
    exact fn_of h (List.all_eq_true.mp l4 _ m) (hbd _ m)
  | false => rw [hm] at h; exact nos h
end

-- Ck2
section
open PySem PySem.Calls PySem.W PyProof.Rows PySem.SeqAt
noncomputable abbrev K2 (P : Params) : Frag := hd2.heap_1 P
theorem shape_1_0 {K : Frag} {a : Addr} {cl : Value} {dc : Option Addr} {sl : Array (Option Value)} {fd : FuncData}
    (hl : K.lookup a = some ⟨cl, dc, .func fd, sl⟩) (hn : fd.params.args.length = 1) (hd : dvalOf K fd.defaults = []) (q1 : ∀ (u0 : Value) (S : Setting), peek K S (bindArgs fd ⟨[u0], []⟩) = some ((fd.params.args.map (·.arg)).zip ([u0] ++ []))) : Binds K a := binds_of 1 0 hl hn hd rfl fun us h1 h2 S => by
  rcases us with _ | ⟨u0, _ | ⟨u1, _⟩⟩
  · exfalso; simp only [List.length_cons, List.length_nil] at h1 h2; (clear h1 hn; omega)
  · exact q1 u0 S
  · exfalso; simp only [List.length_cons, List.length_nil] at h1 h2; (clear h2 hn; omega)
theorem shape_2_0 {K : Frag} {a : Addr} {cl : Value} {dc : Option Addr} {sl : Array (Option Value)} {fd : FuncData}
    (hl : K.lookup a = some ⟨cl, dc, .func fd, sl⟩) (hn : fd.params.args.length = 2) (hd : dvalOf K fd.defaults = []) (q2 : ∀ (u0 u1 : Value) (S : Setting), peek K S (bindArgs fd ⟨[u0, u1], []⟩) = some ((fd.params.args.map (·.arg)).zip ([u0, u1] ++ []))) : Binds K a := binds_of 2 0 hl hn hd rfl fun us h1 h2 S => by
  rcases us with _ | ⟨u0, _ | ⟨u1, _ | ⟨u2, _⟩⟩⟩
  · exfalso; simp only [List.length_cons, List.length_nil] at h1 h2; (clear h1 hn; omega)
  · exfalso; simp only [List.length_cons, List.length_nil] at h1 h2; (clear h1 hn; omega)
  · exact q2 u0 u1 S
  · exfalso; simp only [List.length_cons, List.length_nil] at h1 h2; (clear h2 hn; omega)
theorem shape_2_1 {K : Frag} {a : Addr} {cl : Value} {dc : Option Addr} {sl : Array (Option Value)} {fd : FuncData} {d0 : Value}
    (hl : K.lookup a = some ⟨cl, dc, .func fd, sl⟩) (hn : fd.params.args.length = 2) (hd : dvalOf K fd.defaults = [d0]) (q1 : ∀ (u0 : Value) (S : Setting), peek K S (bindArgs fd ⟨[u0], []⟩) = some ((fd.params.args.map (·.arg)).zip ([u0] ++ [d0]))) (q2 : ∀ (u0 u1 : Value) (S : Setting), peek K S (bindArgs fd ⟨[u0, u1], []⟩) = some ((fd.params.args.map (·.arg)).zip ([u0, u1] ++ []))) : Binds K a := binds_of 2 1 hl hn hd rfl fun us h1 h2 S => by
  rcases us with _ | ⟨u0, _ | ⟨u1, _ | ⟨u2, _⟩⟩⟩
  · exfalso; simp only [List.length_cons, List.length_nil] at h1 h2; (clear h1 hn; omega)
  · exact q1 u0 S
  · exact q2 u0 u1 S
  · exfalso; simp only [List.length_cons, List.length_nil] at h1 h2; (clear h2 hn; omega)
theorem shape_3_0 {K : Frag} {a : Addr} {cl : Value} {dc : Option Addr} {sl : Array (Option Value)} {fd : FuncData}
    (hl : K.lookup a = some ⟨cl, dc, .func fd, sl⟩) (hn : fd.params.args.length = 3) (hd : dvalOf K fd.defaults = []) (q3 : ∀ (u0 u1 u2 : Value) (S : Setting), peek K S (bindArgs fd ⟨[u0, u1, u2], []⟩) = some ((fd.params.args.map (·.arg)).zip ([u0, u1, u2] ++ []))) : Binds K a := binds_of 3 0 hl hn hd rfl fun us h1 h2 S => by
  rcases us with _ | ⟨u0, _ | ⟨u1, _ | ⟨u2, _ | ⟨u3, _⟩⟩⟩⟩
  · exfalso; simp only [List.length_cons, List.length_nil] at h1 h2; (clear h1 hn; omega)
  · exfalso; simp only [List.length_cons, List.length_nil] at h1 h2; (clear h1 hn; omega)
  · exfalso; simp only [List.length_cons, List.length_nil] at h1 h2; (clear h1 hn; omega)
  · exact q3 u0 u1 u2 S
  · exfalso; simp only [List.length_cons, List.length_nil] at h1 h2; (clear h2 hn; omega)
theorem shape_3_1 {K : Frag} {a : Addr} {cl : Value} {dc : Option Addr} {sl : Array (Option Value)} {fd : FuncData} {d0 : Value}
    (hl : K.lookup a = some ⟨cl, dc, .func fd, sl⟩) (hn : fd.params.args.length = 3) (hd : dvalOf K fd.defaults = [d0]) (q2 : ∀ (u0 u1 : Value) (S : Setting), peek K S (bindArgs fd ⟨[u0, u1], []⟩) = some ((fd.params.args.map (·.arg)).zip ([u0, u1] ++ [d0]))) (q3 : ∀ (u0 u1 u2 : Value) (S : Setting), peek K S (bindArgs fd ⟨[u0, u1, u2], []⟩) = some ((fd.params.args.map (·.arg)).zip ([u0, u1, u2] ++ []))) : Binds K a := binds_of 3 1 hl hn hd rfl fun us h1 h2 S => by
  rcases us with _ | ⟨u0, _ | ⟨u1, _ | ⟨u2, _ | ⟨u3, _⟩⟩⟩⟩
  · exfalso; simp only [List.length_cons, List.length_nil] at h1 h2; (clear h1 hn; omega)
  · exfalso; simp only [List.length_cons, List.length_nil] at h1 h2; (clear h1 hn; omega)
  · exact q2 u0 u1 S
  · exact q3 u0 u1 u2 S
  · exfalso; simp only [List.length_cons, List.length_nil] at h1 h2; (clear h2 hn; omega)
theorem shape_4_2 {K : Frag} {a : Addr} {cl : Value} {dc : Option Addr} {sl : Array (Option Value)} {fd : FuncData} {d0 d1 : Value}
    (hl : K.lookup a = some ⟨cl, dc, .func fd, sl⟩) (hn : fd.params.args.length = 4) (hd : dvalOf K fd.defaults = [d0, d1]) (q2 : ∀ (u0 u1 : Value) (S : Setting), peek K S (bindArgs fd ⟨[u0, u1], []⟩) = some ((fd.params.args.map (·.arg)).zip ([u0, u1] ++ [d0, d1]))) (q3 : ∀ (u0 u1 u2 : Value) (S : Setting), peek K S (bindArgs fd ⟨[u0, u1, u2], []⟩) = some ((fd.params.args.map (·.arg)).zip ([u0, u1, u2] ++ [d1]))) (q4 : ∀ (u0 u1 u2 u3 : Value) (S : Setting), peek K S (bindArgs fd ⟨[u0, u1, u2, u3], []⟩) = some ((fd.params.args.map (·.arg)).zip ([u0, u1, u2, u3] ++ []))) : Binds K a := binds_of 4 2 hl hn hd rfl fun us h1 h2 S => by
  rcases us with _ | ⟨u0, _ | ⟨u1, _ | ⟨u2, _ | ⟨u3, _ | ⟨u4, _⟩⟩⟩⟩⟩
  · exfalso; simp only [List.length_cons, List.length_nil] at h1 h2; (clear h1 hn; omega)
  · exfalso; simp only [List.length_cons, List.length_nil] at h1 h2; (clear h1 hn; omega)
  · exact q2 u0 u1 S
  · exact q3 u0 u1 u2 S
  · exact q4 u0 u1 u2 u3 S
  · exfalso; simp only [List.length_cons, List.length_nil] at h1 h2; (clear h2 hn; omega)
noncomputable def lists2 : Lists := ⟨[(Str.ofString "len", AV.bi (.builtin "len")), (Str.ofString "range", AV.bi (.type "range")), (Str.ofString "sorted", AV.bi (.builtin "sorted")), (Str.ofString "abs", AV.bi (.builtin "abs")), (Str.ofString "int", AV.bi (.type "int")), (Str.ofString "tuple", AV.bi (.type "tuple")), (Str.ofString "list", AV.bi (.type "list")), (Str.ofString "bytes", AV.bi (.type "bytes")), (Str.ofString "bytearray", AV.bi (.type "bytearray")), (Str.ofString "enumerate", AV.bi (.type "enumerate")), (Str.ofString "check_room", AV.fn 70), (Str.ofString "number_at", AV.fn 77), (Str.ofString "number_octets", AV.fn 172), (Str.ofString "laid", AV.fn 269), (Str.ofString "coverage_of", AV.fn 318), (Str.ofString "ranges_of", AV.fn 325), (Str.ofString "read_ascending", AV.fn 332), (Str.ofString "read_span", AV.fn 339), (Str.ofString "read_spans", AV.fn 346), (Str.ofString "read_coverage", AV.fn 353), (Str.ofString "write_coverage", AV.fn 361), (Str.ofString "by_glyph", AV.fn 369), (Str.ofString "begins_with", AV.fn 376), (Str.ofString "live_rows", AV.fn 381), (Str.ofString "place_of", AV.fn 414), (Str.ofString "places_in", AV.fn 419), (Str.ofString "read_row", AV.fn 426), (Str.ofString "read_ligature", AV.fn 431), (Str.ofString "row_octets", AV.fn 438), (Str.ofString "set_octets", AV.fn 443), (Str.ofString "write_ligature", AV.fn 448), (Str.ofString "_law_draw", AV.fn 455), (Str.ofString "_law_u16", AV.fn 460), (Str.ofString "_law_laid", AV.fn 467), (Str.ofString "_law_set", AV.fn 472), (Str.ofString "OctetsIn", AV.cls 163), (Str.ofString "OctetsOut", AV.cls 257), (Str.ofString "Coverage", AV.cls 307), (Str.ofString "Ligature", AV.cls 403)], [(163, Str.ofString "__init__", 92), (163, Str.ofString "need", 99), (163, Str.ofString "number", 106), (163, Str.ofString "u16", 120), (163, Str.ofString "rows", 153), (257, Str.ofString "__init__", 186), (257, Str.ofString "u16", 200), (257, Str.ofString "rows", 233), (257, Str.ofString "octets", 254), (307, Str.ofString "__init__", 283), (403, Str.ofString "__init__", 395), (403, Str.ofString "told", 400)], [(163, Str.ofString "data"), (163, Str.ofString "at"), (257, Str.ofString "made"), (307, Str.ofString "glyphs"), (403, Str.ofString "sets")], [70, 77, 92, 99, 106, 120, 153, 172, 186, 200, 233, 254, 269, 283, 318, 325, 332, 339, 346, 353, 361, 369, 376, 381, 395, 400, 414, 419, 426, 431, 438, 443, 448, 455, 460, 467, 472, 477]⟩
theorem good2 (P : Params) : listsGood (K2 P) lists2 = true := by kernel_rfl!
theorem binds2 (P : Params) : ∀ a ∈ lists2.fns, Binds (K2 P) a := by
  refine List.forall_mem_cons.mpr ⟨?_, List.forall_mem_cons.mpr ⟨?_, List.forall_mem_cons.mpr ⟨?_, List.forall_mem_cons.mpr ⟨?_, List.forall_mem_cons.mpr ⟨?_, List.forall_mem_cons.mpr ⟨?_, List.forall_mem_cons.mpr ⟨?_, List.forall_mem_cons.mpr ⟨?_, List.forall_mem_cons.mpr ⟨?_, List.forall_mem_cons.mpr ⟨?_, List.forall_mem_cons.mpr ⟨?_, List.forall_mem_cons.mpr ⟨?_, List.forall_mem_cons.mpr ⟨?_, List.forall_mem_cons.mpr ⟨?_, List.forall_mem_cons.mpr ⟨?_, List.forall_mem_cons.mpr ⟨?_, List.forall_mem_cons.mpr ⟨?_, List.forall_mem_cons.mpr ⟨?_, List.forall_mem_cons.mpr ⟨?_, List.forall_mem_cons.mpr ⟨?_, List.forall_mem_cons.mpr ⟨?_, List.forall_mem_cons.mpr ⟨?_, List.forall_mem_cons.mpr ⟨?_, List.forall_mem_cons.mpr ⟨?_, List.forall_mem_cons.mpr ⟨?_, List.forall_mem_cons.mpr ⟨?_, List.forall_mem_cons.mpr ⟨?_, List.forall_mem_cons.mpr ⟨?_, List.forall_mem_cons.mpr ⟨?_, List.forall_mem_cons.mpr ⟨?_, List.forall_mem_cons.mpr ⟨?_, List.forall_mem_cons.mpr ⟨?_, List.forall_mem_cons.mpr ⟨?_, List.forall_mem_cons.mpr ⟨?_, List.forall_mem_cons.mpr ⟨?_, List.forall_mem_cons.mpr ⟨?_, List.forall_mem_cons.mpr ⟨?_, List.forall_mem_cons.mpr ⟨?_, (fun _ h => nomatch h)⟩⟩⟩⟩⟩⟩⟩⟩⟩⟩⟩⟩⟩⟩⟩⟩⟩⟩⟩⟩⟩⟩⟩⟩⟩⟩⟩⟩⟩⟩⟩⟩⟩⟩⟩⟩⟩⟩
  · exact shape_3_0 rfl rfl rfl (fun _ _ _ _ => rfl)
  · exact shape_3_0 rfl rfl rfl (fun _ _ _ _ => rfl)
  · exact shape_3_1 rfl rfl rfl (fun _ _ _ => rfl) (fun _ _ _ _ => rfl)
  · exact shape_2_0 rfl rfl rfl (fun _ _ _ => rfl)
  · exact shape_2_0 rfl rfl rfl (fun _ _ _ => rfl)
  · exact shape_1_0 rfl rfl rfl (fun _ _ => rfl)
  · exact shape_2_0 rfl rfl rfl (fun _ _ _ => rfl)
  · exact shape_2_0 rfl rfl rfl (fun _ _ _ => rfl)
  · exact shape_1_0 rfl rfl rfl (fun _ _ => rfl)
  · exact shape_2_0 rfl rfl rfl (fun _ _ _ => rfl)
  · exact shape_2_0 rfl rfl rfl (fun _ _ _ => rfl)
  · exact shape_1_0 rfl rfl rfl (fun _ _ => rfl)
  · exact shape_4_2 rfl rfl rfl (fun _ _ _ => rfl) (fun _ _ _ _ => rfl) (fun _ _ _ _ _ => rfl)
  · exact shape_2_0 rfl rfl rfl (fun _ _ _ => rfl)
  · exact shape_1_0 rfl rfl rfl (fun _ _ => rfl)
  · exact shape_1_0 rfl rfl rfl (fun _ _ => rfl)
  · exact shape_1_0 rfl rfl rfl (fun _ _ => rfl)
  · exact shape_2_0 rfl rfl rfl (fun _ _ _ => rfl)
  · exact shape_1_0 rfl rfl rfl (fun _ _ => rfl)
  · exact shape_2_0 rfl rfl rfl (fun _ _ _ => rfl)
  · exact shape_2_1 rfl rfl rfl (fun _ _ => rfl) (fun _ _ _ => rfl)
  · exact shape_3_1 rfl rfl rfl (fun _ _ _ => rfl) (fun _ _ _ _ => rfl)
  · exact shape_2_0 rfl rfl rfl (fun _ _ _ => rfl)
  · exact shape_1_0 rfl rfl rfl (fun _ _ => rfl)
  · exact shape_2_0 rfl rfl rfl (fun _ _ _ => rfl)
  · exact shape_1_0 rfl rfl rfl (fun _ _ => rfl)
  · exact shape_3_0 rfl rfl rfl (fun _ _ _ _ => rfl)
  · exact shape_3_0 rfl rfl rfl (fun _ _ _ _ => rfl)
  · exact shape_2_0 rfl rfl rfl (fun _ _ _ => rfl)
  · exact shape_2_0 rfl rfl rfl (fun _ _ _ => rfl)
  · exact shape_1_0 rfl rfl rfl (fun _ _ => rfl)
  · exact shape_1_0 rfl rfl rfl (fun _ _ => rfl)
  · exact shape_1_0 rfl rfl rfl (fun _ _ => rfl)
  · exact shape_2_0 rfl rfl rfl (fun _ _ _ => rfl)
  · exact shape_1_0 rfl rfl rfl (fun _ _ => rfl)
  · exact shape_2_0 rfl rfl rfl (fun _ _ _ => rfl)
  · exact shape_1_0 rfl rfl rfl (fun _ _ => rfl)
  · exact shape_1_0 rfl rfl rfl (fun _ _ => rfl)
theorem glob2 (P : Params) : ∃ c d es n s, (K2 P).lookup mainGlobals = some ⟨c, d, .dict es n, s⟩ := ⟨_, _, _, _, _, rfl⟩
noncomputable def TX (P : Params) : Tab := tabOf (K2 P) lists2
theorem tab2 {P : Params} {base : Heap} {mg mb : Str → Option Value} (KI : (K2 P).In base) (g : base.Ns mainGlobals mg) (b : base.Ns builtinsNs mb) (hb : ∀ x : Str, x ≠ "__name__" → mb x = bootBuiltins x) (hl : base.NoLimit) : TabOk (K2 P) base (TX P) :=
  tab_of KI g b hb (glob2 P) hl (good2 P) (binds2 P)
end

-- W0
section
open PySem PySem.Calls PySem.W PyProof.Rows PySem.SeqAt

/-! The owned objects: G, and behind it what this frame made. -/
/-- the list's i-th is o -/
abbrev Look (H : HH) (i : Nat) (o : AO) : Prop := H[i]? = some o
abbrev LenG (H : HH) (n : Nat) : Prop := H.length = n
abbrev SetL (X : List AO) (k : Nat) (o : AO) (X' : List AO) : Prop := X.set k o = X'
abbrev SetTo (H : HH) (i : Nat) (o : AO) (H' : HH) : Prop := H.set i o = H'
abbrev App1 (X : List AO) (o : AO) (X' : List AO) : Prop := X ++ [o] = X'
abbrev Len (X : List AO) (k : Nat) : Prop := X.length = k
section
variable {G G' X X' : List AO} {n k i j : Nat} {o o' a b c d e f g h l : AO} {r r' : List AO}
theorem lenG_set (h : LenG G n) : LenG (G.set i o) n := by show (G.set i o).length = n; rw [List.length_set]; exact h
theorem lk_right (h : LenG G n) (e : X[k]? = some o) : Look (G ++ X) (n + k) o := by
  subst h
  show (G ++ X)[G.length + k]? = some o
  rw [List.getElem?_append_right (Nat.le_add_right ..), Nat.add_sub_cancel_left]; exact e
theorem look_lt (h : Look G i o) : i < G.length := (List.getElem?_eq_some_iff.mp h).1
theorem lk_left (e : Look G i o) : Look (G ++ X) i o := by
  show (G ++ X)[i]? = some o
  rw [List.getElem?_append_left (look_lt e)]; exact e
theorem lk_set (h : i < G.length) : Look (G.set i o) i o := List.getElem?_set_self h
theorem lk_setL (h : Look G i o') : Look (G.set i o) i o := lk_set (look_lt h)
theorem lk_set_ne (hij : i ≠ j) (h : Look G j o') : Look (G.set i o) j o' := (List.getElem?_set_ne hij).trans h
theorem setL_0 : SetL (a :: r) 0 o (o :: r) := rfl
theorem setL_s (h : SetL r k o r') : SetL (a :: r) (k + 1) o (a :: r') := by subst h; rfl
theorem st_right (h : LenG G n) (e : SetL X k o X') : SetTo (G ++ X) (n + k) o (G ++ X') := by
  subst h e
  show (G ++ X).set _ _ = _
  rw [List.set_append_right _ _ (Nat.le_add_right ..), Nat.add_sub_cancel_left]
theorem st_left (h : Look G i o') : SetTo (G ++ X) i o (G.set i o ++ X) := List.set_append_left _ _ (look_lt h)
theorem st_left2 (h : Look G i o') : SetTo (G.set i a ++ X) i o (G.set i o ++ X) := by
  show (G.set i a ++ X).set _ _ = _
  rw [List.set_append_left _ _ (by rw [List.length_set]; exact look_lt h), List.set_set]
theorem st_set : SetTo (G.set i a) i o (G.set i o) := List.set_set ..
theorem st_refl : SetTo G i o (G.set i o) := rfl
theorem app_nil : App1 [] o [o] := rfl
theorem app_cons (h : App1 r o r') : App1 (a :: r) o (a :: r') := by subst h; rfl
theorem len0 : Len [] 0 := rfl
theorem len_s (h : Len r k) : Len (a :: r) (k + 1) := congrArg (· + 1) h
theorem len_GX (h : LenG G n) (e : Len X k) : (G ++ X).length = n + k := by subst h e; exact List.length_append
end

section
variable {α : Type} {H H' G X X1 X' : HH} {n k i : Nat} {o : AO} {A B : Prop}
theorem sel_T {c : Bool} (h : c = true) (q : A) : selP c A B := ⟨fun _ => q, fun e => nomatch h.symm.trans e⟩
theorem sel_F {c : Bool} (h : c = false) (q : B) : selP c A B := ⟨fun e => (nomatch h.symm.trans e), fun _ => q⟩
theorem sel_C {c : Bool} (q : c = true → A) (q' : c = false → B) : selP c A B := ⟨q, q'⟩
theorem and_of (h : A) (q : B) : A ∧ B := ⟨h, q⟩
theorem look_of {Q : AO → Prop} (h : Look H i o) (q : Q o) : optP H[i]? Q := optP_i h q
theorem get_of {x : Str} {v : AV} {m : Loc} {Q : AV → Prop} (h : get x m = some v) (q : Q v) : optP (get x m) Q := optP_i h q
theorem set_of {Q : HH → Prop} (h : SetTo H i o H') (q : Q H') : setP H i o Q := ⟨H', h, q⟩
theorem new_of {Q : Nat → HH → Prop} (hG : LenG G n) (hk : Len X k) (ha : App1 X o X') (q : Q (n + k) (G ++ X')) : newP (G ++ X) o Q :=
  ⟨n + k, len_GX hG hk, G ++ X', (List.append_assoc ..).trans (congrArg (G ++ ·) ha), q⟩
theorem new_at {Q : Nat → HH → Prop} (hG : LenG H n) (q : Q n (H ++ [o])) : newP H o Q := ⟨n, hG, _, rfl, q⟩
theorem fits_lit {n : Nat} (h : Nat.ble n 1048576 = true) : fits n := Nat.le_of_ble_eq_true h
theorem dle {k n d : Nat} (h : Nat.ble k n = true) (hd : n ≤ d) : k ≤ d := Nat.le_trans (Nat.le_of_ble_eq_true h) hd
theorem fits_of {n : Nat} (h : n ≤ 1048576) : fits n := h
theorem smallI_of {x : Int} (h : -4611686018427387904 < x ∧ x < 4611686018427387904) : smallI x = true := decide_eq_true h
theorem ints_of : ∀ l : List Int, ints? (l.map .int) = some l := ints_some
theorem bytess_of (l : List (List UInt8)) : bytess? (l.map .bytes) = some l := by
  induction l with
  | nil => rfl
  | cons x l ih =>
    show (some x).bind (fun i => (bytess? (l.map .bytes)).map (i :: ·)) = _
    rw [ih]; rfl

/-! loops -/
theorem for_inv {σ β : Type} {g : β → AV} {chk : σ → Prop} {f : AV → σ → (σ → Prop) → Prop} {N : σ → Prop} (I : List β → σ → Prop) {xs : List β} {st : σ} (h0 : I [] st)
    (hs : ∀ done x rest st (K : σ → Prop), xs = done ++ x :: rest → I done st → (∀ st', chk st' → I (done ++ [x]) st' → K st') → f (g x) st K) (he : ∀ st, I xs st → N st) : loopP chk f (xs.map g) st N := by
  have key : ∀ rest done st, xs = done ++ rest → I done st → loopP chk f (rest.map g) st N := by
    intro rest
    induction rest with
    | nil => intro done st e hi; rw [List.append_nil] at e; subst e; exact he st hi
    | cons x rest ih =>
      intro done st e hi
      exact hs done x rest st (fun st' => chk st' ∧ loopP chk f (rest.map g) st' N) e hi fun st' hc hi' => ⟨hc, ih (done ++ [x]) st' (by rw [e, List.append_assoc]; rfl) hi'⟩
  exact key xs [] st rfl h0
theorem still_refl' {H : HH} {v : AV} : still H v H := still_refl H v
theorem still_of {H : HH} (h : Look H i o) (h' : Look H' i o) : still H (.obj i) H' := h'.trans h.symm

/-! calls -/
variable {T : Tab} {d : Nat} {as : List AV} {ps : List Str} {df : List AV} {b : List Stmt} {ns : Names} {m : Loc} {a : Addr}
theorem succ_of {n k : Nat} (h : k + 1 ≤ n) : ∃ m, n = m + 1 ∧ k ≤ m := ⟨n - 1, by omega, by omega⟩
theorem call_w {Q : AV → HH → Prop} (hd : k + 1 ≤ d) (e : T.fns a = some ⟨ps, df, b, ns⟩) (hm : bindA ⟨ps, df, b, ns⟩ as = some m)
    (q : ∀ d n, k ≤ d → LenG H n → runSs (T.cx (calls T d)) ns b m (H ++ []) (fun _ H1 => finP H Q .none H1) (finP H Q)) : (calls T d).call a as H Q := by
  obtain ⟨d, rfl, hk⟩ := succ_of hd
  have q := q d _ hk rfl
  rw [List.append_nil] at q
  exact optP_i e (show optP (bindA _ _) _ from optP_i hm q)
theorem init_w {Q : HH → Prop} (hd : k + 1 ≤ d) (e : T.fns a = some ⟨ps, df, b, ns⟩) (hm : bindA ⟨ps, df, b, ns⟩ as = some m)
    (q : ∀ d, k ≤ d → runSs (T.cx (calls T d)) ns b m H (fun _ H1 => Q H1) (fun v H1 => ifP (isNone v) (Q H1) False)) : (calls T d).init a as H Q := by
  obtain ⟨d, rfl, hk⟩ := succ_of hd
  exact optP_i e (show optP (bindA _ _) _ from optP_i hm (q d hk))
theorem kept_append : keptO H.length H (H ++ X) := fun i hi => ⟨H[i], by rw [List.getElem?_append_left hi, List.getElem?_eq_getElem hi], .inl (List.getElem?_eq_getElem hi)⟩
theorem kept_set {o : AO} (hb : belowO H.length o = true) : keptO H.length H (H.set i o ++ X) := fun j hj => by
  have hl : j < (H.set i o).length := by rw [List.length_set]; exact hj
  rw [List.getElem?_append_left hl]
  by_cases hij : i = j
  · subst hij
    exact ⟨o, List.getElem?_set_self hj, .inr hb⟩
  · rw [List.getElem?_set_ne hij]
    exact ⟨H[j], List.getElem?_eq_getElem hj, .inl (List.getElem?_eq_getElem hj)⟩
theorem freeze_below {v : AV} (h : below n v = true) : freeze H n (k + 1) v = some v := by
  show cond _ _ _ = _
  rw [h]; rfl
variable {Q : AV → HH → Prop} {v w : AV}
theorem fin_0 (hb : below H.length v = true) (q : Q v H) : finP H Q v (H ++ X) := ⟨v, H, X, rfl, rfl, kept_append, freeze_below hb, q⟩
theorem fin_f (hf : freeze (H ++ X) H.length 4 v = some w) (q : Q w H) : finP H Q v (H ++ X) := ⟨w, H, X, rfl, rfl, kept_append, hf, q⟩
theorem fin_set (ho : belowO H.length o = true) (hb : below H.length v = true) (q : Q v (H.set i o)) : finP H Q v (H.set i o ++ X) := ⟨v, H.set i o, X, rfl, List.length_set, kept_set ho, freeze_below hb, q⟩
theorem belows_ints {n : Nat} (l : List Int) : belows n (l.map .int) = true := by
  induction l with
  | nil => rfl
  | cons x l ih => exact ih
theorem belows_bytes {n : Nat} (l : List (List UInt8)) : belows n (l.map .bytes) = true := by
  induction l with
  | nil => rfl
  | cons x l ih => exact ih
theorem below_row {n : Nat} (r : Row) : below n (rowA r) = true := (Bool.and_eq_true ..).mpr ⟨belows_ints r.1, rfl⟩
theorem belows_rows {n : Nat} (l : List Row) : belows n (l.map rowA) = true := by
  induction l with
  | nil => rfl
  | cons x l ih => exact (Bool.and_eq_true ..).mpr ⟨below_row x, ih⟩
theorem belows_append {n : Nat} (l r : List AV) : belows n (l ++ r) = (belows n l && belows n r) := by
  induction l with
  | nil => rfl
  | cons x l ih => rw [List.cons_append, belows, belows, ih, Bool.and_assoc]
end
end

-- W1
section
open PySem PySem.Calls PySem.W PyProof.Rows PySem.SeqAt

/-! What a loop goes over. -/
theorem rangeL_map (c : Int) (k : Nat) : ∀ a : Int, rangeL a c k = (List.range k).map fun (j : Nat) => .int (a + c * (j : Int)) := by
  induction k with
  | zero => exact fun _ => rfl
  | succ k ih =>
    intro a
    unfold rangeL
    rw [ih, List.range_succ_eq_map, List.map_cons, List.map_map]
    congr 1
    · simp
    · apply List.map_congr_left
      intro j _
      show AV.int _ = AV.int _
      congr 1
      show a + c + c * (j : Int) = a + c * ((j + 1 : Nat) : Int)
      push_cast
      rw [Int.mul_add]
      omega
theorem rangeN_of (b : Nat) : rangeN 0 b 1 = b := by
  unfold rangeN Builtin.Range.rangeSize
  simp only [Int.sub_zero]
  split <;> omega
theorem src_range {H : HH} {b : Nat} {Q : List AV → Prop} (hf : fits b) (q : Q ((List.range b).map fun (j : Nat) => .int (j : Int))) : srcP H (.rng 0 b 1) Q := by
  have hb : b ≤ 1048576 := hf
  have h : rangeL 0 1 (rangeN 0 b 1) = (List.range b).map fun (j : Nat) => .int (j : Int) := by
    rw [rangeN_of, rangeL_map]
    simp only [Int.one_mul, Int.zero_add]
  refine ⟨⟨smallI_of (by (clear hb; omega)), smallI_of (by omega), .inl rfl, ?_⟩, ?_⟩
  · rw [rangeN_of]; exact hf
  · rw [h]; exact q
/-- what a list's view is -/
noncomputable def View (H : HH) (v : AV) (l : List AV) : Prop := v = .lst l ∨ ∃ i, v = .obj i ∧ Look H i (.list l)
section
variable {H H' X : HH} {v : AV} {l : List AV} {Q : List AV → Prop}
theorem vw_lst : View H (.lst l) l := .inl rfl
theorem vw_obj {i : Nat} (h : Look H i (.list l)) : View H (.obj i) l := .inr ⟨i, rfl, h⟩
theorem vw_app (h : View H v l) : View (H ++ X) v l := h.imp id fun ⟨i, e, h⟩ => ⟨i, e, lk_left h⟩
theorem view_of (h : View H v l) (q : Q l) : viewP H v Q := by
  rcases h with rfl | ⟨i, rfl, h⟩
  · exact q
  · exact look_of h q
theorem seen_of {Q : AV → Prop} (h : View H v l) (q : Q (.lst l)) : seenP H v Q := by
  rcases h with rfl | ⟨i, rfl, h⟩
  · exact q
  · exact look_of h q
theorem src_view (h : View H v l) (hf : fits l.length) (q : Q l) : srcP H v Q := by
  rcases h with rfl | ⟨i, rfl, h⟩
  · exact ⟨hf, q⟩
  · exact look_of h ⟨hf, q⟩
theorem watch_view (h : View H v l) : watch v = v := by rcases h with rfl | ⟨i, rfl, h⟩ <;> rfl
theorem still_view (h : View H v l) (h' : View H' v l) : still H (watch v) H' := by
  rw [watch_view h]
  rcases h with rfl | ⟨i, rfl, h⟩
  · trivial
  · rcases h' with e | ⟨j, e, h'⟩
    · cases e
    · cases e; exact still_of h h'
theorem item_view {j : AV} {Q : AV → Prop} (h : View H v l) (q : pickP l j Q) : itemP H v j Q := by
  rcases h with rfl | ⟨i, rfl, h⟩
  · exact q
  · exact look_of h q
theorem len_view {Q : Nat → Prop} (h : View H v l) (q : Q l.length) : lenP H v Q := by
  rcases h with rfl | ⟨i, rfl, h⟩
  · exact q
  · exact look_of h q
end
theorem pickP_i {l : List AV} {v : AV} {k : Int} {Q : AV → Prop} (hk : smallI k = true) (e : pick l k = some v) (q : Q v) : pickP l (.int k) Q := ⟨hk, optP_i e q⟩
theorem pick_natE {l : List AV} {j : Nat} : pick l (j : Int) = l[j]? := by
  unfold pick
  rw [if_pos (Int.natCast_nonneg j)]
  rfl
theorem pick_lastE {r : List AV} {v : AV} : pick (r ++ [v]) (-1) = some v := by
  unfold pick
  rw [if_neg (by decide), if_pos (by rw [List.length_append, List.length_singleton]; omega)]
  have : ((-1 : Int) + ((r ++ [v]).length : Int)).toNat = r.length := by rw [List.length_append, List.length_singleton]; omega
  rw [this, List.getElem?_append_right (Nat.le_refl _), Nat.sub_self]
  rfl
theorem pick_nat {l : List AV} {v : AV} {j : Nat} {Q : AV → Prop} (h : j < 1000000) (e : l[j]? = some v) (q : Q v) : pickP l (.int (j : Int)) Q := pickP_i (smallI_of (by omega)) (pick_natE.trans e) q
theorem pick_last {r : List AV} {v : AV} {Q : AV → Prop} (q : Q v) : pickP (r ++ [v]) (.int (-1)) Q := pickP_i (by decide) pick_lastE q
theorem place_last {n : Nat} : placeO (n + 1) (-1) = some n := by
  unfold placeO
  rw [if_neg (by decide), if_pos (by omega)]
  congr 1
  omega
theorem place_nat {n j : Nat} : placeO n (j : Int) = some j := by
  unfold placeO
  rw [if_pos (Int.natCast_nonneg j)]
  rfl
theorem set_last {r : List AV} {v w : AV} : (r ++ [w]).set r.length v = r ++ [v] := by
  rw [List.set_append_right _ _ (Nat.le_refl _), Nat.sub_self]; rfl
theorem se_at {H H' : HH} {i p : Nat} {k : Int} {l : List AV} {v : AV} {Q : HH → Prop} (h : Look H i (.list l)) (hk : smallI k = true) (hp : placeO l.length k = some p) (hj : p < l.length) (e : SetTo H i (.list (l.set p v)) H') (q : Q H') : setItemP H (.obj i) (.int k) v Q :=
  look_of h ⟨hk, optP_i hp ⟨hj, set_of e q⟩⟩
theorem se_last {H H' : HH} {i : Nat} {r : List AV} {v w : AV} {Q : HH → Prop} (h : Look H i (.list (r ++ [w]))) (e : SetTo H i (.list (r ++ [v])) H') (q : Q H') : setItemP H (.obj i) (.int (-1)) v Q := by
  have hl : (r ++ [w]).length = r.length + 1 := by rw [List.length_append]; rfl
  have hp : placeO (r ++ [w]).length (-1) = some r.length := by rw [hl]; exact place_last
  have hlt : r.length < (r ++ [w]).length := by rw [hl]; exact Nat.lt_succ_self _
  have he : SetTo H i (.list ((r ++ [w]).set r.length v)) H' := by rw [set_last]; exact e
  exact se_at h (by decide) hp hlt he q
theorem se_nat {H H' : HH} {i j : Nat} {l : List AV} {v : AV} {Q : HH → Prop} (h : Look H i (.list l)) (hj : j < l.length) (hl : j < 1000000) (e : SetTo H i (.list (l.set j v)) H') (q : Q H') : setItemP H (.obj i) (.int (j : Int)) v Q := se_at h (smallI_of (by (clear hj; omega))) place_nat hj e q
/-- ints, in a tuple or in a list of its own -/
noncomputable def IntsV (v : AV) (is : List Int) : Prop := v = .tup (is.map .int) ∨ v = .lst (is.map .int)
theorem src_ints {H : HH} {v : AV} {is : List Int} {Q : List AV → Prop} (h : IntsV v is) (hf : fits is.length) (q : Q (is.map .int)) : srcP H v Q := by
  rcases h with rfl | rfl
  · exact ⟨by rw [List.length_map]; exact hf, q⟩
  · exact ⟨by rw [List.length_map]; exact hf, q⟩
theorem still_ints {H H' : HH} {v : AV} {is : List Int} (h : IntsV v is) : still H (watch v) H' := by
  rcases h with rfl | rfl <;> trivial
theorem get_capt {x : Str} {v : AV} {m : Loc} {sc : Names} (h : get x m = some v) (e : sc.lookup x = some .free) : get x (captured sc m) = some v := by
  induction sc with
  | nil => exact nos e
  | cons p r ih =>
    obtain ⟨y, k⟩ := p
    rw [List.lookup_cons] at e
    cases hx : x == y with
    | true =>
      rw [hx] at e
      cases e
      cases beq_iff_eq.mp hx
      rw [captured_free h, get_hit]
    | false =>
      rw [hx] at e
      have ih := ih e
      have hne := beq_eq_false_iff_ne.mp hx
      by_cases hk : k = .free
      · subst hk
        cases hg : get y m with
        | none => rw [captured_none hg]; exact ih
        | some w => rw [captured_free hg, get_miss hne]; exact ih
      · rw [captured_other hk]; exact ih

/-! what is handed back -/
section
variable {H X : HH} {n k i d : Nat} {l l' r r' : List AV} {v w : AV}
theorem allM_nil {f : AV → Option AV} : allM f [] = some [] := rfl
theorem allM_cons {f : AV → Option AV} (h : f v = some w) (hr : allM f r = some r') : allM f (v :: r) = some (w :: r') := by
  show (f v).bind _ = _
  rw [h]
  show (allM f r).map _ = _
  rw [hr]; rfl
theorem allM_below (l : List AV) (h : belows n l = true) : allM (freeze H n (k + 1)) l = some l := by
  induction l with
  | nil => rfl
  | cons x l ih => exact allM_cons (freeze_below (and_e h).1) (ih (and_e h).2)
theorem fz_obj {o : AO} (hi : n ≤ i) (h : Look H i o) (hr : freezeO (freeze H n k) H n o = some w) : freeze H n (k + 1) (.obj i) = some w := by
  show cond (decide (i < n)) _ (H[i]?.bind _) = _
  rw [decide_eq_false (Nat.not_lt.mpr hi), show H[i]? = some o from h]
  exact hr
theorem fz_list (hi : n ≤ i) (h : Look H i (.list l)) (hr : allM (freeze H n k) l = some l') : freeze H n (k + 1) (.obj i) = some (.lst l') := by
  refine fz_obj hi h ?_
  show (allM _ l).map _ = _
  rw [hr]; rfl
theorem fz_listB (hi : n ≤ i) (h : Look H i (.list l)) (hb : belows n l = true) : freeze H n (k + 2) (.obj i) = some (.lst l) := fz_list hi h (allM_below l hb)
theorem fz_edict (hi : n ≤ i) (h : Look H i .edict) : freeze H n (k + 1) (.obj i) = some (.dct [] []) := fz_obj hi h rfl
theorem fz_idict {ks : List Int} (hi : n ≤ i) (h : Look H i (.idict ks l)) (hb : belows n l = true) : freeze H n (k + 2) (.obj i) = some (.dct ks l) := by
  refine fz_obj hi h ?_
  show (allM _ l).map _ = _
  rw [allM_below l hb]; rfl
theorem fz_inst {K : Addr} {ns : List Str} (h : Look H i (.inst K d)) (h2 : Look H d (.ns ns l)) (hi : n ≤ i) (hd : n ≤ d) (hr : allM (freeze H n k) l = some l') : freeze H n (k + 1) (.obj i) = some (.ins K ns l') := by
  refine fz_obj hi h ?_
  show (if d < n then none else H[d]?.bind _) = _
  rw [if_neg (Nat.not_lt.mpr hd), show H[d]? = some _ from h2]
  show (allM _ l).map _ = _
  rw [hr]; rfl
theorem fz_tup (hb : below n (.tup l) = false) (hr : allM (freeze H n k) l = some l') : freeze H n (k + 1) (.tup l) = some (.tup l') := by
  show cond (below n (.tup l)) _ ((allM _ l).map _) = _
  rw [hb, hr]; rfl
theorem nb_head (hi : n ≤ i) : below n (.tup (.obj i :: l)) = false := by
  show (decide (i < n) && _) = _
  rw [decide_eq_false (Nat.not_lt.mpr hi)]; rfl
theorem fin_z {Q : AV → HH → Prop} (hn : LenG H n) (hf : freeze (H ++ X) n 4 v = some w) (q : Q w H) : finP H Q v (H ++ X) := by
  subst hn; exact fin_f hf q
end
theorem enumL_at : ∀ (l : List AV) (i j : Nat), (enumL i l)[j]? = l[j]?.map fun x => .tup [.int ((i + j : Nat) : Int), x]
  | [], _, _ => rfl
  | x :: l, i, 0 => rfl
  | x :: l, i, j + 1 => by
    show (enumL (i + 1) l)[j]? = _
    rw [enumL_at l (i + 1) j, List.getElem?_cons_succ, show i + 1 + j = i + (j + 1) by omega]
theorem enumL_range {α : Type} (f : α → AV) (d : α) (l : List α) : enumL 0 (l.map f) = (List.range l.length).map fun (k : Nat) => .tup [.int (k : Int), f (l.getD k d)] := by
  apply List.ext_getElem?
  intro j
  rw [enumL_at, List.getElem?_map, List.getElem?_map]
  by_cases h : j < l.length
  · rw [List.getElem?_range h, List.getElem?_eq_getElem h]
    simp [h]
  · rw [List.getElem?_eq_none (by omega), List.getElem?_eq_none (by simp; omega)]
    rfl
theorem clip_nat {n k : Nat} (h : k ≤ n) : clipAt n (k : Int) = k := by
  unfold clipAt
  rw [if_neg (by (clear h; omega)), Int.min_eq_left (by omega), Int.max_eq_right (by (clear h; omega))]
  (clear h; omega)
theorem cut_take {α : Type} {l : List α} {k : Nat} (h : k ≤ l.length) : cut l none (some (k : Int)) = l.take k := by
  unfold cut
  show (l.drop 0).take (clipAt l.length (k : Int) - 0) = _
  rw [clip_nat h, List.drop_zero, Nat.sub_zero]
end

-- Pl0
section
open PySem PySem.Calls PySem.W PyProof.Rows PySem.SeqAt

/-! Octets, plain. -/
noncomputable def be2 (i : Int) : List UInt8 := [UInt8.ofNat (i.toNat / 256), UInt8.ofNat (i.toNat % 256)]
noncomputable def bes (is : List Int) : List UInt8 := is.flatMap be2
abbrev U16 (i : Int) : Prop := 0 ≤ i ∧ i < 65536
noncomputable def At (b : List UInt8) (a : Nat) (l : List UInt8) : Prop := ∃ r, b.drop a = l ++ r
theorem be2_length (i : Int) : (be2 i).length = 2 := rfl
theorem bes_length (is : List Int) : (bes is).length = 2 * is.length := by
  unfold bes
  induction is with
  | nil => rfl
  | cons i is ih => rw [List.flatMap_cons, List.length_append, ih, be2_length, List.length_cons]; (clear ih; omega)
theorem bes_append (a b : List Int) : bes (a ++ b) = bes a ++ bes b := List.flatMap_append
theorem bes_cons (i : Int) (b : List Int) : bes (i :: b) = be2 i ++ bes b := rfl
theorem At.length {b l : List UInt8} {a : Nat} (h : At b a l) (hl : 0 < l.length) : a + l.length ≤ b.length := by
  obtain ⟨r, h⟩ := h
  have := congrArg List.length h
  rw [List.length_drop, List.length_append] at this
  omega
theorem At.left {b l r : List UInt8} {a : Nat} (h : At b a (l ++ r)) : At b a l := by
  obtain ⟨x, h⟩ := h
  exact ⟨r ++ x, by rw [h, List.append_assoc]⟩
theorem At.right {b l r : List UInt8} {a : Nat} (h : At b a (l ++ r)) : At b (a + l.length) r := by
  obtain ⟨x, h⟩ := h
  refine ⟨x, ?_⟩
  rw [← List.drop_drop, h, List.append_assoc, List.drop_left]
theorem At.nil {b : List UInt8} {a : Nat} : At b a [] := ⟨_, rfl⟩
theorem be2_value {i : Int} (h : U16 i) : (UInt8.ofNat (i.toNat / 256)).toNat * 256 + ((UInt8.ofNat (i.toNat % 256)).toNat : Int) = i := by
  have h1 : (UInt8.ofNat (i.toNat / 256)).toNat = i.toNat / 256 := UInt8.toNat_ofNat_of_lt' (by show _ < 256; have := h.2; (clear this; omega))
  have h2 : (UInt8.ofNat (i.toNat % 256)).toNat = i.toNat % 256 := UInt8.toNat_ofNat_of_lt' (by show _ < 256; (clear h1 h; omega))
  rw [h1, h2]
  have := h.1
  (clear this h1 h2; omega)
theorem cut_two {b r : List UInt8} {a : Nat} {x y : UInt8} (h : b.drop a = x :: y :: r) : cut b (some (a : Int)) (some ((a : Int) + 2)) = [x, y] := by
  have hl : a + 2 ≤ b.length := by
    have := congrArg List.length h
    rw [List.length_drop] at this
    simp only [List.length_cons] at this
    omega
  unfold cut
  have e : ((a : Int) + 2) = ((a + 2 : Nat) : Int) := by (clear hl; omega)
  simp only [Option.elim]
  rw [e, clip_nat hl, clip_nat (by (clear e; omega)), h, Nat.add_sub_cancel_left]
  rfl
theorem and_shift (t c : Nat) (hc : c < 256) : (t * 256) &&& c = 0 := by
  apply Nat.eq_of_testBit_eq
  intro i
  rw [Nat.testBit_and, Nat.zero_testBit, show t * 256 = t * 2 ^ 8 from rfl, Nat.testBit_mul_two_pow]
  by_cases hi : i < 8
  · have : decide (8 ≤ i) = false := decide_eq_false (by (clear hc; omega))
    rw [this, Bool.false_and, Bool.false_and]
  · have : c.testBit i = false := Nat.testBit_lt_two_pow (Nat.lt_of_lt_of_le hc (show 2 ^ 8 ≤ 2 ^ i from Nat.pow_le_pow_right (by (clear hi hc; omega)) (by (clear hc; omega))))
    rw [this, Bool.and_false]
theorem or_octet {t : Int} (c : UInt8) (ht : 0 ≤ t) : Builtin.bitOr (t * 2 ^ (8 : Int).toNat) (c.toNat : Int) = t * 256 + c.toNat := by
  have hc : c.toNat < 256 := c.toNat_lt
  have e : t * 2 ^ (8 : Int).toNat = t * 256 := rfl
  rw [e, bitOr_and, bitAnd_pp (by (clear e hc; omega)) (by (clear e ht hc; omega))]
  have e2 : (t * 256).toNat = t.toNat * 256 := by (clear e hc ht; omega)
  rw [e2, Int.toNat_natCast, and_shift _ _ hc]
  (clear e2 e hc ht; omega)
theorem and_255 {x : Int} (h : 0 ≤ x) : Builtin.bitAnd x 255 = x % 256 := by
  rw [bitAnd_pp h (by decide)]
  have : (255 : Int).toNat = 2 ^ 8 - 1 := rfl
  rw [this, Nat.and_two_pow_sub_one_eq_mod]
  (clear this; omega)
theorem set_look {G : List AO} {e : Nat} {o : AO} (h : Look G e o) : G.set e o = G := by
  apply List.ext_getElem?
  intro j
  by_cases hj : e = j
  · subst hj
    rw [List.getElem?_set_self (look_lt h)]
    exact h.symm
  · rw [List.getElem?_set_ne hj]
/-- the turn's number, of the numbers below -/
theorem range_turn {k x : Nat} {done rest : List Nat} (h : List.range k = done ++ x :: rest) : x = done.length ∧ done.length < k := by
  have hl := congrArg List.length h
  rw [List.length_range, List.length_append, List.length_cons] at hl
  have e : (List.range k)[done.length]? = some x := by rw [h, List.getElem?_append_right (Nat.le_refl _), Nat.sub_self]; rfl
  rw [List.getElem?_range (by omega)] at e
  cases e
  exact ⟨rfl, by omega⟩
theorem take_one {α : Type} {l : List α} {k : Nat} {x : α} (h : l[k]? = some x) : l.take (k + 1) = l.take k ++ [x] := by
  rw [List.take_add_one, h]; rfl
theorem bes_at {vs : List Int} {b : List UInt8} {a k : Nat} {v : Int} (h : At b a (bes vs)) (e : vs[k]? = some v) : At b (a + 2 * k) (be2 v) := by
  obtain ⟨l, r, rfl, hk⟩ : ∃ l r, vs = l ++ v :: r ∧ l.length = k := by
    have hk := (List.getElem?_eq_some_iff.mp e).1
    refine ⟨vs.take k, vs.drop (k + 1), ?_, by rw [List.length_take]; omega⟩
    conv => lhs; rw [← List.take_append_drop k vs]
    rw [List.drop_eq_getElem_cons hk, (List.getElem?_eq_some_iff.mp e).2]
  subst hk
  rw [bes_append] at h
  have := h.right
  rw [bes_length, bes_cons] at this
  exact this.left
end

-- Pl1
section
open PySem PySem.Calls PySem.W PyProof.Rows PySem.SeqAt

/-! Parts laid one behind the other, of equal ones the first. -/
abbrev Bs := List UInt8
noncomputable def layS (b : Int) (st : List Bs × List Int × Bs) (p : Bs) : List Bs × List Int × Bs :=
  if st.1.any (· == p) = true then (st.1 ++ [p], st.2.1 ++ [st.2.1.getD (st.1.findIdx (· == p)) 0], st.2.2)
  else (st.1 ++ [p], st.2.1 ++ [b + st.2.2.length], st.2.2 ++ p)
noncomputable def layF (b : Int) (ps : List Bs) : List Bs × List Int × Bs := ps.foldl (layS b) ([], [], [])
noncomputable def layO (b : Int) (ps : List Bs) : List Int := (layF b ps).2.1
noncomputable def layB (b : Int) (ps : List Bs) : Bs := (layF b ps).2.2
theorem layF_1 (b : Int) (ps : List Bs) : (layF b ps).1 = ps := by
  unfold layF
  have key : ∀ (ps : List Bs) (st : List Bs × List Int × Bs), (ps.foldl (layS b) st).1 = st.1 ++ ps := by
    intro ps
    induction ps with
    | nil => intro st; simp
    | cons p ps ih =>
      intro st
      rw [List.foldl_cons, ih]
      unfold layS
      split <;> simp
  rw [key]; rfl
theorem layF_snoc (b : Int) (ps : List Bs) (p : Bs) : layF b (ps ++ [p]) = layS b (layF b ps) p := by
  unfold layF; rw [List.foldl_append]; rfl
theorem layO_in {b : Int} {ps : List Bs} {p : Bs} (h : ps.any (· == p) = true) : layO b (ps ++ [p]) = layO b ps ++ [(layO b ps).getD (ps.findIdx (· == p)) 0] := by
  unfold layO; rw [layF_snoc]; unfold layS; rw [layF_1, if_pos h]
theorem layB_in {b : Int} {ps : List Bs} {p : Bs} (h : ps.any (· == p) = true) : layB b (ps ++ [p]) = layB b ps := by
  unfold layB; rw [layF_snoc]; unfold layS; rw [layF_1, if_pos h]
theorem layO_new {b : Int} {ps : List Bs} {p : Bs} (h : ps.any (· == p) = false) : layO b (ps ++ [p]) = layO b ps ++ [b + (layB b ps).length] := by
  unfold layO layB; rw [layF_snoc]; unfold layS; rw [layF_1, if_neg (by rw [h]; decide)]
theorem layB_new {b : Int} {ps : List Bs} {p : Bs} (h : ps.any (· == p) = false) : layB b (ps ++ [p]) = layB b ps ++ p := by
  unfold layB; rw [layF_snoc]; unfold layS; rw [layF_1, if_neg (by rw [h]; decide)]
theorem layO_length (b : Int) (ps : List Bs) : (layO b ps).length = ps.length := by
  refine snocInd (P := fun ps => (layO b ps).length = ps.length) rfl (fun l x ih => ?_) ps
  cases h : l.any (· == x)
  · rw [layO_new h, List.length_append, List.length_append, ih]; rfl
  · rw [layO_in h, List.length_append, List.length_append, ih]; rfl
theorem layB_length (b : Int) (ps : List Bs) : (layB b ps).length ≤ ps.flatten.length := by
  refine snocInd (P := fun ps => (layB b ps).length ≤ ps.flatten.length) (Nat.le_refl _) (fun l x ih => ?_) ps
  rw [List.flatten_append, List.length_append]
  cases h : l.any (· == x)
  · rw [layB_new h, List.length_append]
    simp only [List.flatten_cons, List.flatten_nil, List.append_nil]
    omega
  · rw [layB_in h]; omega
theorem any_of_mem {ps : List Bs} {p : Bs} : ps.any (· == p) = true ↔ p ∈ ps := by
  rw [List.any_eq_true]
  constructor
  · rintro ⟨x, hx, e⟩
    rw [beq_iff_eq] at e
    exact e ▸ hx
  · intro h; exact ⟨p, h, by simp⟩
theorem not_any {ps : List Bs} {p : Bs} : ps.any (· == p) = false ↔ p ∉ ps := by
  rw [← any_of_mem, Bool.not_eq_true]
/-- where a part lies -/
theorem lay_at (b : Int) (ps : List Bs) : ∀ (i : Nat) (p : Bs), ps[i]? = some p → ∃ k : Nat, (layO b ps)[i]? = some (b + k) ∧ k ≤ (layB b ps).length ∧ At (layB b ps) k p := by
  refine snocInd (P := fun ps => ∀ (i : Nat) (p : Bs), ps[i]? = some p → ∃ k : Nat, (layO b ps)[i]? = some (b + k) ∧ k ≤ (layB b ps).length ∧ At (layB b ps) k p) (fun i p h => by simp at h) (fun l x ih i p hp => ?_) ps
  have hl := layO_length b l
  rcases Nat.lt_or_ge i l.length with hi | hi
  · rw [List.getElem?_append_left hi] at hp
    obtain ⟨k, e, hk, r, hr⟩ := ih i p hp
    cases h : l.any (· == x)
    · refine ⟨k, ?_, ?_, ?_⟩
      · rw [layO_new h, List.getElem?_append_left (by (clear hk; omega))]; exact e
      · rw [layB_new h, List.length_append]; (clear hi hl; omega)
      · refine ⟨r ++ x, ?_⟩
        rw [layB_new h, List.drop_append_of_le_length hk, hr, List.append_assoc]
    · refine ⟨k, ?_, ?_, r, ?_⟩
      · rw [layO_in h, List.getElem?_append_left (by (clear hk; omega))]; exact e
      · rw [layB_in h]; exact hk
      · rw [layB_in h]; exact hr
  · have hil : i = l.length := by
      have := (List.getElem?_eq_some_iff.mp hp).1
      rw [List.length_append, List.length_singleton] at this
      (clear hl; omega)
    subst hil
    rw [List.getElem?_append_right (Nat.le_refl _), Nat.sub_self] at hp
    cases hp
    cases h : l.any (· == x)
    · refine ⟨(layB b l).length, ?_, ?_, [], ?_⟩
      · rw [layO_new h, List.getElem?_append_right (by (clear hi; omega)), hl, Nat.sub_self]; rfl
      · rw [layB_new h, List.length_append]; (clear hi hl; omega)
      · rw [layB_new h, List.drop_left, List.append_nil]
    · obtain ⟨j, hj⟩ := List.getElem?_of_mem (any_of_mem.mp h)
      have hx : l.findIdx (· == x) < l.length := List.findIdx_lt_length_of_exists (by rw [← List.any_eq_true]; exact h)
      have he : l[l.findIdx (· == x)]? = some x := by
        rw [List.getElem?_eq_getElem hx]
        have := List.findIdx_getElem (w := hx)
        rw [beq_iff_eq] at this
        rw [this]
      obtain ⟨k, e, hk, r, hr⟩ := ih _ x he
      refine ⟨k, ?_, ?_, r, ?_⟩
      · rw [layO_in h, List.getElem?_append_right (by (clear hk hx hi; omega)), hl, Nat.sub_self, List.getD_eq_getElem?_getD, e]; rfl
      · rw [layB_in h]; exact hk
      · rw [layB_in h]; exact hr
/-! the octets of a row, of a set, of a table -/
noncomputable def rowB (r : Row) : Bs := bes (r.2 :: ((r.1.length : Int) + 1) :: r.1)
noncomputable def setB (rs : List Row) : Bs := bes ((rs.length : Int) :: layO (2 + 2 * rs.length) (rs.map rowB)) ++ layB (2 + 2 * rs.length) (rs.map rowB)
noncomputable def covB (ks : List Int) : Bs := bes (1 :: (ks.length : Int) :: ks)
noncomputable def partsB (ks : List Int) (R : Int → List Row) : List Bs := covB ks :: ks.map fun k => setB (R k)
noncomputable def tableB (ks : List Int) (R : Int → List Row) : Bs :=
  bes (1 :: (layO (6 + 2 * ks.length) (partsB ks R)).getD 0 0 :: (ks.length : Int) :: (layO (6 + 2 * ks.length) (partsB ks R)).drop 1) ++ layB (6 + 2 * ks.length) (partsB ks R)
structure RowOk (r : Row) : Prop where
  lig : U16 r.2
  rest : ∀ x ∈ r.1, U16 x
  short : r.1.length ≤ 3
structure RowsOk (rs : List Row) : Prop where
  few : rs.length ≤ 7
  ok : ∀ r ∈ rs, RowOk r
theorem rowB_length (r : Row) : (rowB r).length = 4 + 2 * r.1.length := by
  unfold rowB; rw [bes_length]; simp only [List.length_cons]; omega
theorem flatten_le {α : Type} {c : Nat} : ∀ {ls : List (List α)}, (∀ l ∈ ls, l.length ≤ c) → ls.flatten.length ≤ ls.length * c
  | [], _ => by simp
  | l :: ls, h => by
    have h1 := h l (.head _)
    have h2 := flatten_le fun l' hl' => h l' (.tail _ hl')
    rw [List.flatten_cons, List.length_append, List.length_cons, Nat.add_mul]
    omega
theorem setB_lay (rs : List Row) (h : RowsOk rs) : (layB (2 + 2 * rs.length) (rs.map rowB)).length ≤ 70 := by
  have h1 := layB_length (2 + 2 * rs.length) (rs.map rowB)
  have h2 : (rs.map rowB).flatten.length ≤ (rs.map rowB).length * 10 := flatten_le fun l hl => by
    obtain ⟨r, hr, rfl⟩ := List.mem_map.mp hl
    rw [rowB_length]
    have := (h.ok r hr).short
    (clear h1; omega)
  rw [List.length_map] at h2
  have := h.few
  omega
theorem setB_length (rs : List Row) (h : RowsOk rs) : (setB rs).length ≤ 86 := by
  have h1 := setB_lay rs h
  have := h.few
  unfold setB
  rw [List.length_append, bes_length, List.length_cons, layO_length, List.length_map]
  omega
theorem covB_length (ks : List Int) : (covB ks).length = 4 + 2 * ks.length := by
  unfold covB; rw [bes_length]; simp only [List.length_cons]; omega
theorem layO_le (b : Int) (ps : List Bs) (hb : 0 ≤ b) : ∀ o ∈ layO b ps, b ≤ o ∧ o ≤ b + (layB b ps).length := by
  intro o ho
  obtain ⟨i, hi⟩ := List.getElem?_of_mem ho
  have hl := (List.getElem?_eq_some_iff.mp hi).1
  rw [layO_length] at hl
  obtain ⟨k, e, hk, _⟩ := lay_at b ps i _ (List.getElem?_eq_getElem hl)
  rw [hi] at e
  cases e
  (clear hb; omega)
end

-- Pl2
section
open PySem PySem.Calls PySem.W PyProof.Rows PySem.SeqAt

/-! Ranges of glyphs that follow one another. -/
noncomputable def rgS (rs : List (Int × Int)) (g : Int) : List (Int × Int) := match rs.getLast? with
  | some (a, b) => if b + 1 = g then rs.dropLast ++ [(a, g)] else rs ++ [(g, g)]
  | none => [(g, g)]
noncomputable def rgF (ks : List Int) : List (Int × Int) := ks.foldl rgS []
theorem rgF_snoc (ks : List Int) (g : Int) : rgF (ks ++ [g]) = rgS (rgF ks) g := by unfold rgF; rw [List.foldl_append]; rfl
theorem rgS_nil (g : Int) : rgS [] g = [(g, g)] := rfl
theorem rgS_run {rs : List (Int × Int)} {a b g : Int} (h : b + 1 = g) : rgS (rs ++ [(a, b)]) g = rs ++ [(a, g)] := by
  unfold rgS; rw [List.getLast?_append]; simp [h]
theorem rgS_new {rs : List (Int × Int)} {a b g : Int} (h : b + 1 ≠ g) : rgS (rs ++ [(a, b)]) g = rs ++ [(a, b)] ++ [(g, g)] := by
  unfold rgS; rw [List.getLast?_append]; simp [h]
theorem rgF_length (ks : List Int) : (rgF ks).length ≤ ks.length := by
  refine snocInd (P := fun ks => (rgF ks).length ≤ ks.length) (Nat.le_refl _) (fun l x ih => ?_) ks
  rw [rgF_snoc, List.length_append]
  rcases List.eq_nil_or_concat (rgF l) with e | ⟨r, ⟨a, b⟩, e⟩
  · rw [e, rgS_nil]; simp
  · rw [List.concat_eq_append] at e; rw [e] at ih ⊢
    by_cases h : b + 1 = x
    · rw [rgS_run h]; simp at ih ⊢; (clear h; omega)
    · rw [rgS_new h]; simp at ih ⊢; (clear h; omega)
noncomputable def rgA (r : Int × Int) : AV := .tup [.int r.1, .int r.2]
theorem belows_rg {n : Nat} : ∀ l : List (Int × Int), belows n (l.map rgA) = true
  | [] => rfl
  | x :: l => by rw [List.map_cons, belows, belows_rg l]; rfl
/-- ascending -/
noncomputable def Asc (ks : List Int) : Prop := ks.Pairwise (· < ·)
theorem Asc.nodup {ks : List Int} (h : Asc ks) : ks.Nodup := List.Pairwise.imp (fun h => Int.ne_of_lt h) h
theorem Asc.sort {ks : List Int} (h : Asc ks) : sortI ks = ks := (sortI_eq (List.Perm.refl ks) (List.Pairwise.imp (fun h => Int.le_of_lt h) h)).symm
theorem asc_take {ks : List Int} {k : Nat} (h : Asc ks) (h0 : k ≠ 0) (hk : k < ks.length) : ∃ r w, ks.take k = r ++ [w] ∧ w < ks[k] ∧ r.length ≤ ks.length := by
  obtain ⟨j, rfl⟩ := Nat.exists_eq_succ_of_ne_zero h0
  have hj : j < ks.length := by (clear h0; omega)
  refine ⟨ks.take j, ks[j], take_one (List.getElem?_eq_getElem hj), ?_, by rw [List.length_take]; (clear hj h0 hk; omega)⟩
  exact List.pairwise_iff_getElem.mp h j (j + 1) hj hk (by (clear hj hk h0; omega))
end

-- Pl3
section
open PySem PySem.Calls PySem.W PyProof.Rows PySem.SeqAt

/-! The rows that no row ahead hides; what a table tells. -/
noncomputable def begins (x y : List Int) : Bool := decide (x.take y.length = y)
noncomputable def liveS (f : List Row) (r : Row) : List Row := if f.any (fun q => begins r.1 q.1) = true then f else f ++ [r]
noncomputable def liveF (rs : List Row) : List Row := rs.foldl liveS []
theorem liveF_snoc (rs : List Row) (r : Row) : liveF (rs ++ [r]) = liveS (liveF rs) r := by unfold liveF; rw [List.foldl_append]; rfl
theorem liveF_length (rs : List Row) : (liveF rs).length ≤ rs.length := by
  refine snocInd (P := fun rs => (liveF rs).length ≤ rs.length) (Nat.le_refl _) (fun l x ih => ?_) rs
  rw [liveF_snoc, List.length_append]
  unfold liveS
  by_cases h : (liveF l).any (fun q => begins x.1 q.1) = true
  · rw [if_pos h]; exact Nat.le_succ_of_le ih
  · rw [if_neg h, List.length_append]; exact Nat.succ_le_succ ih
noncomputable def sortedR (rs : List Row) : List Row := kasSort ([], 0) ltR rs
theorem sortedR_perm (rs : List Row) : (sortedR rs).Perm rs := kasSort_perm ..
noncomputable def toldF (ks : List Int) (R : Int → List Row) : List (Int × List Row) := (ks.map fun k => (k, sortedR (liveF (R k)))).filter fun x => !x.2.isEmpty
noncomputable def tA (x : Int × List Row) : AV := .tup [.int x.1, .tup (x.2.map rowA)]
theorem belows_tA {n : Nat} : ∀ l : List (Int × List Row), belows n (l.map tA) = true
  | [] => rfl
  | x :: l => by
    show ((belows n (x.2.map rowA) && true) && belows n (l.map tA)) = true
    rw [belows_rows, belows_tA l]; rfl
theorem row_of (r : Row) : row? (rowA r) = some r := by
  show (ints? (r.1.map .int)).bind _ = _
  rw [ints_of]; rfl
theorem rows_of (rs : List Row) : rows? (rs.map rowA) = some rs := by
  induction rs with
  | nil => rfl
  | cons r rs ih =>
    show (row? (rowA r)).bind (fun y => (rows? (rs.map rowA)).map (y :: ·)) = _
    rw [row_of, ih]; rfl
theorem sort_rows {rs : List Row} {Q : List AV → Prop} (q : Q ((sortedR rs).map rowA)) : sortP (rs.map rowA) Q := .inr (optP_i (rows_of rs) q)
theorem sort_ints {is : List Int} {Q : List AV → Prop} (q : Q ((sortI is).map .int)) : sortP (is.map .int) Q := .inl (optP_i (ints_of is) q)
theorem eqsB_ints : ∀ a b : List Int, eqsB (a.map .int) (b.map .int) = decide (a = b)
  | [], [] => rfl
  | [], _ :: _ => rfl
  | _ :: _, [] => rfl
  | x :: a, y :: b => by
    show ((x == y) && eqsB (a.map .int) (b.map .int)) = _
    rw [eqsB_ints a b, Bool.eq_iff_iff, Bool.and_eq_true, decide_eq_true_iff, decide_eq_true_iff, beq_iff_eq, List.cons.injEq]
theorem oksB_ints (k : Nat) : ∀ a b : List Int, oksB (a.map .int) k (b.map .int) = true
  | [], _ => rfl
  | _ :: _, [] => rfl
  | x :: a, y :: b => oksB_ints k a b
end

-- Pl5
section
open PySem PySem.Calls PySem.W PyProof.Rows PySem.SeqAt

/-! Ranges: how many. -/
noncomputable def rgSum (rs : List (Int × Int)) : Int := (rs.map fun r => r.2 - r.1 + 1).sum
theorem rgSum_snoc (rs : List (Int × Int)) (r : Int × Int) : rgSum (rs ++ [r]) = rgSum rs + (r.2 - r.1 + 1) := by
  unfold rgSum; rw [List.map_append, List.sum_append]; simp
structure RgOk (ks : List Int) (rs : List (Int × Int)) : Prop where
  le : ∀ r ∈ rs, r.1 ≤ r.2
  sum : rgSum rs = ks.length
  cov : ∀ k ∈ ks, ∃ r ∈ rs, r.1 ≤ k ∧ k ≤ r.2
theorem rg_ok (ks : List Int) : RgOk ks (rgF ks) := by
  refine snocInd (P := fun ks => RgOk ks (rgF ks)) ⟨fun r h => by simp [rgF] at h, rfl, fun k h => nomatch h⟩ (fun l x ih => ?_) ks
  rw [rgF_snoc]
  rcases List.eq_nil_or_concat (rgF l) with e | ⟨r, ⟨a, b⟩, e⟩
  · rw [e] at ih ⊢
    rw [rgS_nil]
    have hl : l = [] := by
      have := ih.sum
      unfold rgSum at this
      simp at this
      exact List.length_eq_zero_iff.mp (by omega)
    subst hl
    refine ⟨fun q h => ?_, ?_, fun k h => ?_⟩
    · simp at h; subst h; exact Int.le_refl _
    · simp [rgSum]
    · simp at h; subst h; exact ⟨(k, k), by simp, Int.le_refl _, Int.le_refl _⟩
  · rw [List.concat_eq_append] at e
    rw [e] at ih ⊢
    have hab : a ≤ b := ih.le (a, b) (by simp)
    have hs := ih.sum
    rw [rgSum_snoc] at hs
    by_cases h : b + 1 = x
    · rw [rgS_run h]
      refine ⟨fun q hq => ?_, ?_, fun k hk => ?_⟩
      · rcases List.mem_append.mp hq with hq | hq
        · exact ih.le q (by simp [hq])
        · simp at hq; subst hq; show a ≤ x; (clear hs; omega)
      · rw [rgSum_snoc, List.length_append, List.length_singleton]; simp only at hs ⊢; (clear hab; omega)
      · rcases List.mem_append.mp hk with hk | hk
        · obtain ⟨q, hq, h1, h2⟩ := ih.cov k hk
          rcases List.mem_append.mp hq with hq | hq
          · exact ⟨q, by simp [hq], h1, h2⟩
          · simp at hq; subst hq; exact ⟨(a, x), by simp, h1, by simp only at h2 ⊢; (clear h1 hab hs; omega)⟩
        · simp at hk; subst hk; exact ⟨(a, k), by simp, by simp only; (clear hs; omega), Int.le_refl _⟩
    · rw [rgS_new h]
      refine ⟨fun q hq => ?_, ?_, fun k hk => ?_⟩
      · rcases List.mem_append.mp hq with hq | hq
        · exact ih.le q hq
        · simp at hq; subst hq; exact Int.le_refl _
      · rw [rgSum_snoc, rgSum_snoc, List.length_append, List.length_singleton]; simp only at hs ⊢; (clear h hab; omega)
      · rcases List.mem_append.mp hk with hk | hk
        · obtain ⟨q, hq, h1, h2⟩ := ih.cov k hk
          exact ⟨q, List.mem_append_left _ hq, h1, h2⟩
        · simp at hk; subst hk; exact ⟨(k, k), by simp, Int.le_refl _, Int.le_refl _⟩
/-- few glyphs, far apart when they are four -/
theorem rg_few {ks : List Int} (hl : ks.length ≤ 4) (h4 : ks.length = 4 → ∃ x ∈ ks, ∃ y ∈ ks, x + 100 ≤ y) : ks.length ≤ 3 * (rgF ks).length := by
  have ok := rg_ok ks
  rcases h : rgF ks with _ | ⟨r, _ | ⟨r2, rs⟩⟩
  · rw [h] at ok
    have := ok.sum
    unfold rgSum at this
    simp at this
    simp; exact List.length_eq_zero_iff.mp (by (clear h4 hl; omega))
  · rw [h] at ok
    have hs := ok.sum
    unfold rgSum at hs
    simp at hs
    simp only [List.length_cons, List.length_nil]
    rcases Nat.lt_or_ge ks.length 4 with h3 | h3
    · (clear h4 hs hl; omega)
    · obtain ⟨x, hx, y, hy, hxy⟩ := h4 (by (clear h4 hs; omega))
      obtain ⟨q, hq, a1, a2⟩ := ok.cov x hx
      obtain ⟨q', hq', b1, b2⟩ := ok.cov y hy
      simp at hq hq'
      subst hq hq'
      (clear h4 a2 b1 h3; omega)
  · simp only [List.length_cons]; (clear h4; omega)
theorem asc_sort {ks : List Int} (h : ks.Nodup) : Asc (sortI ks) := by
  have h1 := sortI_le ks
  have h2 : (sortI ks).Nodup := (sortI_perm' ks).nodup_iff.mpr h
  have h3 : (sortI ks).Pairwise fun a b => a ≤ b ∧ a ≠ b := List.Pairwise.and h1 h2
  exact h3.imp fun h => by omega
/-- a store under a key -/
noncomputable def insK (x : Int) (ks : List Int) : List Int := if x ∈ ks then ks else ks ++ [x]
noncomputable def updK {α : Type} (x : Int) (v : α) (f : Int → α) : Int → α := fun k => if k = x then v else f k
theorem storeK_map {x : Int} {v : AV} {f : Int → AV} : ∀ {ks : List Int}, ks.Nodup → storeK x v ks (ks.map f) = (insK x ks, (insK x ks).map (updK x v f))
  | [], _ => by simp [storeK, insK, updK]
  | k :: ks, hn => by
    rw [List.nodup_cons] at hn
    rw [List.map_cons]
    unfold storeK
    by_cases hk : k = x
    · subst hk
      rw [if_pos rfl]
      have e : insK k (k :: ks) = k :: ks := if_pos (by simp)
      rw [e, List.map_cons]
      have e2 : ks.map (updK k v f) = ks.map f := List.map_congr_left fun y hy => by
        have hne : ¬ y = k := fun h => hn.1 (by rw [← h]; exact hy)
        unfold updK; rw [if_neg hne]
      rw [e2]
      unfold updK; rw [if_pos rfl]
    · rw [if_neg hk, storeK_map hn.2]
      have e : insK x (k :: ks) = k :: insK x ks := by
        unfold insK
        by_cases hx : x ∈ ks
        · rw [if_pos hx, if_pos (by simp [hx])]
        · rw [if_neg hx, if_neg (by simp [hx]; exact fun h => hk h.symm)]; rfl
      rw [e, List.map_cons]
      simp [updK, hk]
theorem insK_nodup {x : Int} {ks : List Int} (h : ks.Nodup) : (insK x ks).Nodup := by
  unfold insK
  split
  · exact h
  · rename_i hx
    rw [List.nodup_append]
    exact ⟨h, by simp, fun a ha b hb => by simp at hb; subst hb; exact fun e => hx (e ▸ ha)⟩
theorem insK_mem {x k : Int} {ks : List Int} : k ∈ insK x ks ↔ k ∈ ks ∨ k = x := by
  unfold insK
  split
  · rename_i hx
    exact ⟨.inl, fun h => h.elim id fun e => e ▸ hx⟩
  · rw [List.mem_append, List.mem_singleton]
theorem insK_length {x : Int} {ks : List Int} : (insK x ks).length ≤ ks.length + 1 := by
  unfold insK
  split
  · omega
  · rw [List.length_append, List.length_singleton]; omega
theorem insK_ne {x : Int} {ks : List Int} : insK x ks ≠ [] := by
  intro e
  have := insK_mem (x := x) (k := x) (ks := ks)
  rw [e] at this
  simp at this
mutual
theorem eqB_refl : ∀ (v : AV) (k : Nat), okB v k v = true → eqB v v = true
  | .none, _, h => nomatch h
  | .bool b, _, _ => beq_self_eq_true b
  | .int b, _, _ => beq_self_eq_true b
  | .bytes b, _, _ => beq_self_eq_true b
  | .tup l, k, h => eqsB_refl l (k - 1) (Bool.and_eq_true_iff.mp h).2
  | .lst l, k, h => eqsB_refl l (k - 1) ((Bool.or_eq_true_iff.mp (Bool.and_eq_true_iff.mp h).2).resolve_left fun e => bne_iff_ne.mp e rfl)
  | .dct _ _, _, h => nomatch h
  | .ins _ _ _, _, h => nomatch h
  | .rng _ _ _, _, h => nomatch h
  | .enm _, _, h => nomatch h
  | .obj _, _, h => nomatch h
  | .fn _, _, h => nomatch h
  | .cls _, _, h => nomatch h
  | .bi _, _, h => nomatch h
theorem eqsB_refl : ∀ (l : List AV) (k : Nat), oksB l k l = true → eqsB l l = true
  | [], _, _ => rfl
  | x :: l, k, h => Bool.and_eq_true_iff.mpr ⟨eqB_refl x k (Bool.and_eq_true_iff.mp h).1, eqsB_refl l k (Bool.and_eq_true_iff.mp h).2⟩
end
theorem oksB_map {α : Type} {f : α → AV} {k : Nat} (h : ∀ x y, okB (f x) k (f y) = true) : ∀ a b : List α, oksB (a.map f) k (b.map f) = true
  | [], _ => rfl
  | _ :: _, [] => rfl
  | x :: a, y :: b => Bool.and_eq_true_iff.mpr ⟨h x y, oksB_map h a b⟩
theorem okB_row (k : Nat) (x y : Row) : okB (rowA x) (k + 2) (rowA y) = true := by
  show (oksB (x.1.map .int) k (y.1.map .int) && true) = true
  rw [oksB_ints]; rfl
theorem okB_tA (k : Nat) (x y : Int × List Row) : okB (tA x) (k + 4) (tA y) = true := by
  show (oksB (x.2.map rowA) (k + 2) (y.2.map rowA) && true) = true
  rw [oksB_map (okB_row k)]; rfl
theorem okB_told (l r : List (Int × List Row)) : okB (.tup (l.map tA)) 9 (.tup (r.map tA)) = true := oksB_map (okB_tA 4) l r
end

-- Sp1
section
open PySem PySem.Calls PySem.W PyProof.Rows PySem.SeqAt
section
variable {P : Params} {d : Nat} {H H' : HH} {Q : AV → HH → Prop}
theorem place_of_s {a o t : Int} (hd : 1 ≤ d) (ho : o ≠ 0) (q : Q (.int (a + o)) H) : (calls (TX P) d).call 414 [.int a, .int o, .int t] H Q := by
  refine call_w (ps := ["at", "offset", "told_at"]) (df := []) (m := [("at", .int a), ("offset", .int o), ("told_at", .int t)]) hd rfl rfl fun d n hd hn => ?_
  refine sel_F (by simpa using ho) ?_
  exact fin_0 rfl q
theorem check_room_s {b : List UInt8} {a c : Int} (hd : 1 ≤ d) (h1 : 0 ≤ a) (h2 : a + c ≤ b.length) (hf : fits b.length) (q : Q .none H) : (calls (TX P) d).call 70 [.bytes b, .int a, .int c] H Q := by
  refine call_w (ps := ["data", "at", "count"]) (df := []) (m := [("data", .bytes b), ("at", .int a), ("count", .int c)]) hd rfl rfl fun d n hd hn => ?_
  refine sel_F (decide_eq_false (by (clear hn hd h2; omega))) ?_
  refine and_of (by with_reducible assumption) ?_
  refine sel_F (decide_eq_false (by (clear hn hd h1; omega))) ?_
  refine sel_F (by rfl) ?_
  exact fin_0 rfl q
theorem number_at_s {b r : List UInt8} {a : Nat} {x y : UInt8} (hd : 2 ≤ d) (h : b.drop a = x :: y :: r) (hf : fits b.length) (q : Q (.int (x.toNat * 256 + y.toNat)) H) : (calls (TX P) d).call 77 [.bytes b, .int a, .int 2] H Q := by
  have hl : a + 2 ≤ b.length := by
    have := congrArg List.length h
    rw [List.length_drop] at this
    simp only [List.length_cons] at this
    (clear hd; omega)
  have hb : b.length ≤ 1048576 := hf
  have hx := x.toNat_lt
  refine call_w (ps := ["data", "at", "count"]) (df := []) (m := [("data", .bytes b), ("at", .int a), ("count", .int 2)]) hd rfl rfl fun d n hd hn => ?_
  refine check_room_s (dle rfl hd) (by (clear hn hd hx hb hl; omega)) (by (clear hn hd hx hb; omega)) hf ?_
  refine and_of (by exact smallI_of (by (clear hn hd hx; omega))) ?_
  refine and_of (by exact smallI_of (by (clear hn hd hx; omega))) ?_
  refine and_of (by with_reducible assumption) ?_
  rw [cut_two h]
  refine and_of (by exact fits_lit rfl) ?_
  refine and_of ⟨rfl, by decide, by decide⟩ ?_
  refine and_of trivial ?_
  refine and_of ⟨?_, by decide, by decide⟩ ?_
  · rw [or_octet x (Int.le_refl 0)]
    exact smallI_of (by (clear hn hd hb hl; omega))
  refine and_of trivial ?_
  refine fin_0 rfl ?_
  rw [or_octet x (Int.le_refl 0), or_octet y (by (clear hn hd hb hl hx; omega)), show (0 : Int) * 256 + (x.toNat : Int) = x.toNat by (clear hn hd hx hb hl; omega)]
  exact q
theorem OctetsIn_init {Q : HH → Prop} {i e : Nat} {b : List UInt8} {a : Int} (hd : 1 ≤ d) (hi : Look H i (.inst 163 e)) (he : Look H e (.ns [] [])) (hne : e ≠ i) (st : SetTo H e (.ns ["data", "at"] [.bytes b, .int a]) H') (q : Q H') :
    (calls (TX P) d).init 92 [.obj i, .bytes b, .int a] H Q := by
  refine init_w (ps := ["self", "data", "at"]) (df := [.int 0]) (m := [("self", .obj i), ("data", .bytes b), ("at", .int a)]) hd rfl rfl fun d hd => ?_
  subst st
  refine look_of (by with_reducible assumption) ?_
  refine look_of (by with_reducible assumption) ?_
  refine set_of (by exact st_refl) ?_
  refine look_of (by exact lk_set_ne (by with_reducible assumption) (by with_reducible assumption)) ?_
  refine look_of (by exact lk_setL (by with_reducible assumption)) ?_
  refine set_of (by exact st_set) ?_
  exact q
theorem need_s {i e : Nat} {b : List UInt8} {a c : Int} (hd : 2 ≤ d) (hi : Look H i (.inst 163 e)) (he : Look H e (.ns ["data", "at"] [.bytes b, .int a])) (h1 : 0 ≤ a) (h2 : a + c ≤ b.length) (hf : fits b.length) (q : Q .none H) :
    (calls (TX P) d).call 99 [.obj i, .int c] H Q := by
  refine call_w (ps := ["self", "count"]) (df := []) (m := [("self", .obj i), ("count", .int c)]) hd rfl rfl fun d n hd hn => ?_
  refine look_of (by exact lk_left (by with_reducible assumption)) ?_
  refine look_of (by exact lk_left (by with_reducible assumption)) ?_
  refine look_of (by exact lk_left (by with_reducible assumption)) ?_
  refine look_of (by exact lk_left (by with_reducible assumption)) ?_
  refine check_room_s hd h1 h2 hf ?_
  exact fin_0 rfl q
theorem number_s {i e : Nat} {b r : List UInt8} {a : Nat} {x y : UInt8} (hd : 3 ≤ d) (hi : Look H i (.inst 163 e)) (he : Look H e (.ns ["data", "at"] [.bytes b, .int a])) (h : b.drop a = x :: y :: r) (hf : fits b.length)
    (st : SetTo H e (.ns ["data", "at"] [.bytes b, .int (a + 2)]) H') (q : Q (.int (x.toNat * 256 + y.toNat)) H') : (calls (TX P) d).call 106 [.obj i, .int 2] H Q := by
  refine call_w (ps := ["self", "count"]) (df := []) (m := [("self", .obj i), ("count", .int 2)]) hd rfl rfl fun d n hd hn => ?_
  subst st
  refine look_of (by exact lk_left (by with_reducible assumption)) ?_
  refine look_of (by exact lk_left (by with_reducible assumption)) ?_
  refine look_of (by exact lk_left (by with_reducible assumption)) ?_
  refine look_of (by exact lk_left (by with_reducible assumption)) ?_
  refine number_at_s hd h hf ?_
  refine look_of (by exact lk_left (by with_reducible assumption)) ?_
  refine look_of (by exact lk_left (by with_reducible assumption)) ?_
  refine look_of (by exact lk_left (by with_reducible assumption)) ?_
  refine look_of (by exact lk_left (by with_reducible assumption)) ?_
  refine set_of (by exact st_left (by with_reducible assumption)) ?_
  exact fin_set rfl rfl q
theorem u16_s {i e : Nat} {b : List UInt8} {a : Nat} {z v : Int} (hd : 4 ≤ d) (hz : z = a) (hi : Look H i (.inst 163 e)) (he : Look H e (.ns ["data", "at"] [.bytes b, .int z])) (hv : U16 v) (h : At b a (be2 v)) (hf : fits b.length)
    (st : SetTo H e (.ns ["data", "at"] [.bytes b, .int (z + 2)]) H') (q : Q (.int v) H') : (calls (TX P) d).call 120 [.obj i] H Q := by
  refine call_w (ps := ["self"]) (df := []) (m := [("self", .obj i)]) hd rfl rfl fun d n hd hn => ?_
  obtain ⟨r, h⟩ := h
  subst hz st
  refine look_of (by exact lk_left (by with_reducible assumption)) ?_
  refine look_of (by exact lk_left (by with_reducible assumption)) ?_
  refine number_s hd (lk_left hi) (lk_left he) h hf (st_left he) ?_
  rw [be2_value hv]
  exact fin_set rfl rfl q
theorem rows_in_s {i e : Nat} {b : List UInt8} {a : Nat} {z c : Int} {vs : List Int} (hd : 5 ≤ d) (hz : z = a) (hc : c = vs.length) (hi : Look H i (.inst 163 e)) (he : Look H e (.ns ["data", "at"] [.bytes b, .int z])) (hne : e ≠ i) (hv : ∀ v ∈ vs, U16 v) (h : At b a (bes vs)) (ha : a + 2 * vs.length ≤ b.length) (hf : fits b.length)
    (st : SetTo H e (.ns ["data", "at"] [.bytes b, .int (a + 2 * vs.length : Nat)]) H') (q : Q (.lst (vs.map .int)) H') : (calls (TX P) d).call 153 [.obj i, .int c] H Q := by
  subst hz hc
  refine call_w (ps := ["self", "count"]) (df := []) (m := [("self", .obj i), ("count", .int vs.length)]) hd rfl rfl fun d n hd hn => ?_
  subst st
  have hb : b.length ≤ 1048576 := hf
  refine look_of (by exact lk_left (by with_reducible assumption)) ?_
  refine look_of (by exact lk_left (by with_reducible assumption)) ?_
  refine and_of (by decide) ?_
  refine need_s (dle rfl hd) (lk_left hi) (lk_left he) (by (clear hb hn hd ha hne; omega)) (by (clear hb hn hd hne; omega)) hf ?_
  refine and_of (by exact smallI_of (by (clear hn hd hne; omega))) ?_
  refine src_range (by exact fits_of (by (clear hn hd hne; omega))) ?_
  refine for_inv (g := fun (j : Nat) => .int (j : Int)) (fun done (s : Sc) => get "self" s.1 = some (.obj i) ∧ s.2.2 = (vs.take done.length).map .int ∧ ∃ G, s.2.1 = G ++ [] ∧ LenG G n ∧ Look G i (.inst 163 e) ∧ Look G e (.ns ["data", "at"] [.bytes b, .int (a + 2 * done.length : Nat)]) ∧ ∀ o, G.set e o = H.set e o) ?_ ?_ ?_
  · exact ⟨rfl, rfl, H, rfl, hn, hi, he, fun o => rfl⟩
  · rintro done x rest ⟨m, H', l⟩ K hx ⟨hm, hl, G, hH, hG, gi, ge, hs⟩ hK
    dsimp only at hm hl hH
    subst hl hH
    obtain ⟨rfl, hlt⟩ := range_turn hx
    have hk : vs[done.length]? = some vs[done.length] := List.getElem?_eq_getElem hlt
    refine and_of (by exact fits_of (by simp only [List.length_append, List.length_map, List.length_take, List.length_drop, List.length_cons, List.length_nil, List.length_range, List.length_set, List.length_replicate]; (clear hG hn hd hne; omega))) ?_
    refine get_of (by assumption) ?_
    refine look_of (by exact lk_left (by with_reducible assumption)) ?_
    refine look_of (by exact lk_left (by with_reducible assumption)) ?_
    refine u16_s hd rfl (lk_left gi) (lk_left ge) (hv _ (List.getElem_mem hlt)) (bes_at h hk) hf (st_left ge) ?_
    refine hK _ trivial ⟨hm, ?_, G.set e (.ns ["data", "at"] [.bytes b, .int ((a + 2 * done.length : Nat) + 2)]), rfl, lenG_set hG, lk_set_ne hne gi, ?_, fun o => by rw [List.set_set]; exact hs o⟩
    · show _ ++ [_] = _
      rw [List.length_append, List.length_singleton, take_one hk, List.map_append]; rfl
    · rw [show ((a + 2 * done.length : Nat) : Int) + 2 = ((a + 2 * (done ++ [done.length]).length : Nat) : Int) by rw [List.length_append, List.length_singleton]; (clear hG hb hn hd ha hne; omega)]
      exact lk_set (look_lt ge)
  · rintro ⟨m, H', l⟩ ⟨hm, hl, G, hH, hG, gi, ge, hs⟩
    dsimp only at hm hl hH
    subst hl hH
    rw [List.length_range] at ge
    have e1 : G = H.set e (.ns ["data", "at"] [.bytes b, .int (a + 2 * vs.length : Nat)]) := by rw [← hs, set_look ge]
    subst e1
    rw [List.length_range, List.take_length]
    exact fin_set rfl (belows_ints vs) q
end
end

-- Sp2
section
open PySem PySem.Calls PySem.W PyProof.Rows PySem.SeqAt
section
variable {P : Params} {d : Nat} {H H' : HH} {Q : AV → HH → Prop}
theorem shr_16 {v : Int} (h : U16 v) : v.fdiv (2 ^ (8 * 2 : Int).toNat) = 0 := by
  show v.fdiv 65536 = 0
  rw [Int.fdiv_eq_ediv_of_nonneg _ (by decide)]
  have := h.1; have := h.2
  (clear this; omega)
theorem byte_hi {v : Int} (h : U16 v) : Builtin.bitAnd (v.fdiv (2 ^ (8 * 1 : Int).toNat)) 255 = v / 256 := by
  show Builtin.bitAnd (v.fdiv 256) 255 = _
  rw [Int.fdiv_eq_ediv_of_nonneg _ (by decide), and_255 (by have := h.1; (clear this; omega))]
  have := h.1; have := h.2
  (clear this; omega)
theorem byte_lo {v : Int} (h : U16 v) : Builtin.bitAnd (v.fdiv (2 ^ (8 * 0 : Int).toNat)) 255 = v % 256 := by
  show Builtin.bitAnd (v.fdiv 1) 255 = _
  rw [Int.fdiv_eq_ediv_of_nonneg _ (by decide), Int.ediv_one, and_255 h.1]
theorem bytes_01 {v : Int} (h : U16 v) : [Builtin.bitAnd (v.fdiv (2 ^ (8 * 1 : Int).toNat)) 255, Builtin.bitAnd (v.fdiv (2 ^ (8 * 0 : Int).toNat)) 255].all isByte = true := by
  have h1 := h.1
  have h2 := h.2
  rw [byte_hi h, byte_lo h]
  show (decide _ && (decide _ && true)) = true
  rw [decide_eq_true (by (clear h2 h1; omega)), decide_eq_true (by (clear h2 h1 h; omega))]; rfl
theorem bytes_be2 {v : Int} (h : U16 v) : be2 v = [Builtin.bitAnd (v.fdiv (2 ^ (8 * 1 : Int).toNat)) 255, Builtin.bitAnd (v.fdiv (2 ^ (8 * 0 : Int).toNat)) 255].map (fun i => UInt8.ofNat i.toNat) := by
  have h1 := h.1
  rw [byte_hi h, byte_lo h]
  show [_, _] = [UInt8.ofNat (v / 256).toNat, UInt8.ofNat (v % 256).toNat]
  rw [show (v / 256).toNat = v.toNat / 256 by (clear h1 h; omega), show (v % 256).toNat = v.toNat % 256 by (clear h1; omega)]
theorem src_10 {Q : List AV → Prop} (q : Q [.int 1, .int 0]) : srcP H (.rng (2 - 1) (-1) (-1)) Q := ⟨⟨rfl, rfl, .inr rfl, fits_of (by decide)⟩, q⟩
theorem number_octets_s {v : Int} (hd : 1 ≤ d) (hv : U16 v) (q : Q (.bytes (be2 v)) H) : (calls (TX P) d).call 172 [.int v, .int 2] H Q := by
  refine call_w (ps := ["number", "count"]) (df := []) (m := [("number", .int v), ("count", .int 2)]) hd rfl rfl fun d n hd hn => ?_
  have h1 := hv.1
  have h2 := hv.2
  refine sel_F (decide_eq_false (by (clear h2 h1 hn hd; omega))) ?_
  refine and_of (by decide) ?_
  refine and_of (by decide) ?_
  refine sel_F (decide_eq_false (by rw [shr_16 hv]; decide)) ?_
  refine sel_F (by rfl) ?_
  refine and_of (by decide) ?_
  refine src_10 ?_
  refine and_of (by exact fits_lit rfl) ?_
  refine and_of (by decide) ?_
  refine and_of (by decide) ?_
  refine and_of (by exact still_refl') ?_
  refine and_of (by exact fits_lit rfl) ?_
  refine and_of (by decide) ?_
  refine and_of (by decide) ?_
  refine and_of (by exact still_refl') ?_
  refine and_of ⟨bytes_01 hv, Nat.le_of_ble_eq_true rfl⟩ ?_
  refine fin_0 rfl ?_
  exact bytes_be2 hv ▸ q
theorem OctetsOut_init {Q : HH → Prop} {G X X1 X2 : HH} {n k i e : Nat} (hd : 1 ≤ d) (hG : LenG G n) (hk : Len X k) (hi : Look (G ++ X) i (.inst 257 e)) (he : Look (G ++ X) e (.ns [] [])) (st : SetTo (G ++ X) e (.ns ["made"] [.obj (n + k)]) (G ++ X1)) (ap : App1 X1 (.barr []) X2) (q : Q (G ++ X2)) :
    (calls (TX P) d).init 186 [.obj i] (G ++ X) Q := by
  refine init_w (ps := ["self"]) (df := []) (m := [("self", .obj i)]) hd rfl rfl fun d hd => ?_
  have e1 : (G ++ X ++ [AO.barr []]).set e (.ns ["made"] [.obj (n + k)]) = G ++ X2 := by
    rw [List.set_append_left _ _ (look_lt he), st, List.append_assoc, ap]
  refine new_at (len_GX hG hk) ?_
  refine look_of (lk_left hi) (look_of (lk_left he) ⟨_, e1, ?_⟩)
  exact q
theorem OctetsOut_u16 {i e k : Nat} {v : Int} {b : List UInt8} (hd : 2 ≤ d) (hi : Look H i (.inst 257 e)) (he : Look H e (.ns ["made"] [.obj k])) (hk : Look H k (.barr b)) (hv : U16 v) (hf : b.length ≤ 100000)
    (st : SetTo H k (.barr (b ++ be2 v)) H') (q : Q .none H') : (calls (TX P) d).call 200 [.obj i, .int v] H Q := by
  refine call_w (ps := ["self", "number"]) (df := []) (m := [("self", .obj i), ("number", .int v)]) hd rfl rfl fun d n hd hn => ?_
  subst st
  have hl := be2_length v
  refine look_of (by exact lk_left (by with_reducible assumption)) ?_
  refine look_of (by exact lk_left (by with_reducible assumption)) ?_
  refine look_of (by exact lk_left (by with_reducible assumption)) ?_
  refine number_octets_s hd hv ?_
  refine look_of (by exact lk_left (by with_reducible assumption)) ?_
  refine and_of (by exact fits_of (by simp only [List.length_append, List.length_map, List.length_take, List.length_drop, List.length_cons, List.length_nil, List.length_range, List.length_set, List.length_replicate]; (clear hn hd hv; omega))) ?_
  refine set_of (by exact st_left (by with_reducible assumption)) ?_
  exact fin_set rfl rfl q
theorem OctetsOut_rows {i e k : Nat} {v : AV} {is : List Int} {b : List UInt8} (hd : 2 ≤ d) (hi : Look H i (.inst 257 e)) (he : Look H e (.ns ["made"] [.obj k])) (hk : Look H k (.barr b)) (hv : IntsV v is) (hu : ∀ v ∈ is, U16 v) (hf : b.length ≤ 100000) (hf2 : is.length ≤ 10000)
    (st : SetTo H k (.barr (b ++ bes is)) H') (q : Q .none H') : (calls (TX P) d).call 233 [.obj i, v] H Q := by
  refine call_w (ps := ["self", "numbers"]) (df := []) (m := [("self", .obj i), ("numbers", v)]) hd rfl rfl fun d n hd hn => ?_
  subst st
  refine look_of (by exact lk_left (by with_reducible assumption)) ?_
  refine look_of (by exact lk_left (by with_reducible assumption)) ?_
  refine look_of (by exact lk_left (by with_reducible assumption)) ?_
  refine src_ints hv (by exact fits_of (by (clear hn hd hf; omega))) ?_
  refine for_inv (g := .int) (fun done (s : Sc) => s.2.1 = H ++ [] ∧ s.2.2 = (done.map be2).map .bytes) ?_ ?_ ?_
  · exact ⟨rfl, rfl⟩
  · rintro done x rest ⟨m, H', l⟩ K hx ⟨h1, h2⟩ hK
    dsimp only at h1 h2
    subst h1 h2
    have hl := congrArg List.length hx
    rw [List.length_append, List.length_cons] at hl
    refine and_of (by exact fits_of (by simp only [List.length_append, List.length_map, List.length_take, List.length_drop, List.length_cons, List.length_nil, List.length_range, List.length_set, List.length_replicate]; (clear hn hd hf; omega))) ?_
    refine number_octets_s hd (hu x (by rw [hx]; simp)) ?_
    exact hK _ (still_ints hv) ⟨rfl, by rw [List.map_append, List.map_append]; rfl⟩
  · rintro ⟨m, H', l⟩ ⟨h1, h2⟩
    dsimp only at h1 h2
    subst h1 h2
    have hl := bes_length is
    refine optP_i (bytess_of _) ?_
    have e : (is.map be2).flatten = bes is := rfl
    rw [e]
    refine and_of (by exact ⟨(fits_of (by (clear hn hd hf; omega))), (fits_of (by simp only [List.length_append, List.length_map, List.length_take, List.length_drop, List.length_cons, List.length_nil, List.length_range, List.length_set, List.length_replicate]; (clear hl hn hd hf; omega)))⟩) ?_
    refine look_of (by exact lk_left (by with_reducible assumption)) ?_
    refine and_of (by exact fits_of (by simp only [List.length_append, List.length_map, List.length_take, List.length_drop, List.length_cons, List.length_nil, List.length_range, List.length_set, List.length_replicate]; (clear hn hd; omega))) ?_
    refine set_of (by exact st_left (by with_reducible assumption)) ?_
    exact fin_set rfl rfl q
theorem OctetsOut_octets {i e k : Nat} {b : List UInt8} (hd : 1 ≤ d) (hi : Look H i (.inst 257 e)) (he : Look H e (.ns ["made"] [.obj k])) (hk : Look H k (.barr b)) (hf : b.length ≤ 1000000) (q : Q (.bytes b) H) :
    (calls (TX P) d).call 254 [.obj i] H Q := by
  refine call_w (ps := ["self"]) (df := []) (m := [("self", .obj i)]) hd rfl rfl fun d n hd hn => ?_
  refine look_of (by exact lk_left (by with_reducible assumption)) ?_
  refine look_of (by exact lk_left (by with_reducible assumption)) ?_
  refine look_of (by exact lk_left (by with_reducible assumption)) ?_
  refine and_of (by exact fits_of (by (clear hn hd; omega))) ?_
  exact fin_0 rfl q
end
end

-- Sp3
section
open PySem PySem.Calls PySem.W PyProof.Rows PySem.SeqAt
/-- a table by octets, empty or not -/
def bd (ks : List Bs) (vs : List AV) : AO := match ks with
  | [] => .edict
  | _ => .bdict ks vs
section
variable {H H' : HH} {i : Nat} {ks : List Bs} {vs : List AV} {p : Bs} {v : AV}
theorem in_bd {Q : Bool → Prop} (h : Look H i (bd ks vs)) (q : Q (ks.any (· == p))) : cmpP H .In (.bytes p) (.obj i) Q := by
  cases ks with
  | nil => exact look_of h q
  | cons k ks => exact look_of h q
theorem item_bd {Q : AV → Prop} (h : Look H i (bd ks vs)) (e : findK p ks vs = some v) (q : Q v) : itemP H (.obj i) (.bytes p) Q := by
  cases ks with
  | nil => exact nos e
  | cons k ks => exact look_of h (optP_i (o := (AV.bytes p).bytes?) rfl (optP_i e q))
theorem storeK_new {κ : Type} [DecidableEq κ] {p : κ} {v : AV} : ∀ {ks : List κ} {vs : List AV}, p ∉ ks → vs.length = ks.length → storeK p v ks vs = (ks ++ [p], vs ++ [v])
  | [], [], _, _ => rfl
  | k :: ks, w :: vs, h, hl => by
    rw [List.mem_cons, not_or] at h
    unfold storeK
    rw [if_neg (fun e => h.1 e.symm), storeK_new h.2 (Nat.succ.inj hl)]
    rfl
theorem findK_snoc {κ : Type} [DecidableEq κ] {p q : κ} {v : AV} : ∀ {ks : List κ} {vs : List AV}, vs.length = ks.length → findK q (ks ++ [p]) (vs ++ [v]) = if q ∈ ks then findK q ks vs else if p = q then some v else none
  | [], [], _ => by simp [findK]
  | k :: ks, w :: vs, hl => by
    rw [List.cons_append, List.cons_append]
    unfold findK
    by_cases hk : k = q
    · rw [if_pos hk, if_pos (by subst hk; simp), if_pos hk]
    · rw [if_neg hk, findK_snoc (by simpa using hl)]
      have : (q ∈ k :: ks) ↔ q ∈ ks := by rw [List.mem_cons]; exact ⟨fun h => h.resolve_left (fun e => hk e.symm), .inr⟩
      by_cases hq : q ∈ ks
      · rw [if_pos hq, if_pos (this.mpr hq), if_neg hk]
      · rw [if_neg hq, if_neg (fun e => hq (this.mp e))]
theorem se_bd {Q : HH → Prop} (h : Look H i (bd ks vs)) (hn : p ∉ ks) (hl : vs.length = ks.length) (hf : ks.length ≤ 1000) (e : SetTo H i (bd (ks ++ [p]) (vs ++ [v])) H') (q : Q H') : setItemP H (.obj i) (.bytes p) v Q := by
  cases ks with
  | nil => cases vs with
    | nil => exact look_of h (set_of e q)
    | cons _ _ => exact absurd hl (Nat.succ_ne_zero _)
  | cons k ks =>
    refine look_of h ⟨fits_of (by (clear hn hl; omega)), set_of ?_ q⟩
    rw [storeK_new hn hl]
    exact e
end
/-- what the table of the parts tells -/
structure Dic (ks : List Bs) (vs : List AV) (done : List Bs) (offs : List Int) : Prop where
  len : vs.length = ks.length
  le : ks.length ≤ done.length
  mem : ∀ p, p ∈ ks ↔ p ∈ done
  find : ∀ p ∈ done, findK p ks vs = some (.int (offs.getD (done.findIdx (· == p)) 0))
theorem findIdx_snoc {done : List Bs} {q x : Bs} (h : q ∈ done) : (done ++ [x]).findIdx (· == q) = done.findIdx (· == q) := by
  have hx : done.findIdx (· == q) < done.length := List.findIdx_lt_length_of_exists ⟨q, h, by simp⟩
  rw [List.findIdx_append, if_pos hx]
theorem getD_snoc {offs : List Int} {o : Int} {j : Nat} (h : j < offs.length) : (offs ++ [o]).getD j 0 = offs.getD j 0 := by
  rw [List.getD_eq_getElem?_getD, List.getD_eq_getElem?_getD, List.getElem?_append_left h]
theorem Dic.old {ks : List Bs} {vs : List AV} {done : List Bs} {offs : List Int} {p : Bs} {o : Int} (h : Dic ks vs done offs) (ho : offs.length = done.length) (hp : p ∈ done) : Dic ks vs (done ++ [p]) (offs ++ [o]) := by
  refine ⟨h.len, by rw [List.length_append]; have := h.le; (clear ho; omega), fun q => ?_, fun q hq => ?_⟩
  · rw [h.mem, List.mem_append, List.mem_singleton]
    exact ⟨.inl, fun e => e.elim id fun e => e ▸ hp⟩
  · have hq' : q ∈ done := by
      rw [List.mem_append, List.mem_singleton] at hq
      exact hq.elim id fun e => e ▸ hp
    have hx : done.findIdx (· == q) < done.length := List.findIdx_lt_length_of_exists ⟨q, hq', by simp⟩
    rw [h.find q hq', findIdx_snoc hq', getD_snoc (by omega)]
theorem Dic.new {ks : List Bs} {vs : List AV} {done : List Bs} {offs : List Int} {p : Bs} {o : Int} (h : Dic ks vs done offs) (ho : offs.length = done.length) (hp : p ∉ done) : Dic (ks ++ [p]) (vs ++ [.int o]) (done ++ [p]) (offs ++ [o]) := by
  refine ⟨by rw [List.length_append, List.length_append, h.len]; rfl, by rw [List.length_append, List.length_append]; have := h.le; simp; (clear hp ho; omega), fun q => ?_, fun q hq => ?_⟩
  · rw [List.mem_append, List.mem_append, h.mem]
  · rw [findK_snoc h.len]
    by_cases hq' : q ∈ done
    · have hx : done.findIdx (· == q) < done.length := List.findIdx_lt_length_of_exists ⟨q, hq', by simp⟩
      rw [if_pos ((h.mem q).mpr hq'), h.find q hq', findIdx_snoc hq', getD_snoc (by (clear hp; omega))]
    · have e : q = p := by
        rw [List.mem_append, List.mem_singleton] at hq
        exact hq.resolve_left hq'
      subst e
      rw [if_neg (fun e => hq' ((h.mem q).mp e)), if_pos rfl]
      have : (done ++ [q]).findIdx (· == q) = done.length := by
        rw [List.findIdx_append, if_neg (by
          intro hlt
          have := List.findIdx_getElem (w := hlt)
          rw [beq_iff_eq] at this
          exact hq' (this ▸ List.getElem_mem hlt))]
        simp
      rw [this, List.getD_eq_getElem?_getD, List.getElem?_append_right (by (clear this hp hq'; omega)), ho, Nat.sub_self]
      rfl

/-- the state of the run in laid -/
structure LaidI (H : HH) (n : Nat) (b : Int) (done : List Bs) (s : St) : Prop where
  m1 : get "begin" s.1 = some (.int b)
  m2 : get "is_shared" s.1 = some (.bool true)
  m3 : get "most" s.1 = some (.int 65535)
  m4 : get "offsets" s.1 = some (.obj (n + 0))
  m5 : get "places" s.1 = some (.obj (n + 1))
  m6 : get "out" s.1 = some (.obj (n + 2))
  ex : ∃ ks vs, Dic ks vs done (layO b done) ∧ s.2 = H ++ [.list ((layO b done).map .int), bd ks vs, .barr (layB b done)]
theorem laid_s {P : Params} {d : Nat} {H : HH} {Q : AV → HH → Prop} {b : Int} {ps : List Bs} (hd : 1 ≤ d) (hb : 0 ≤ b) (hps : ps.length ≤ 100) (hl : b + ps.flatten.length ≤ 10000) (q : Q (.tup [.lst ((layO b ps).map .int), .bytes (layB b ps)]) H) :
    (calls (TX P) d).call 269 [.int b, .lst (ps.map .bytes)] H Q := by
  refine call_w (ps := ["begin", "parts", "is_shared", "most"]) (df := [.bool true, .int 65535]) (m := [("begin", .int b), ("parts", .lst (ps.map .bytes)), ("is_shared", .bool true), ("most", .int 65535)]) hd rfl rfl fun d n hd hn => ?_
  refine and_of (by exact fits_lit rfl) ?_
  refine new_of (by with_reducible assumption) (by exact len0) (by exact app_nil) ?_
  refine new_of (by with_reducible assumption) (by exact len_s len0) (by exact app_cons app_nil) ?_
  refine new_of (by with_reducible assumption) (by exact len_s (len_s len0)) (by exact app_cons (app_cons app_nil)) ?_
  refine and_of (by exact fits_of (by simp only [List.length_append, List.length_map, List.length_take, List.length_drop, List.length_cons, List.length_nil, List.length_range, List.length_set, List.length_replicate]; (clear hn hd hl hb; omega))) ?_
  refine for_inv (g := .bytes) (fun done (s : St) => LaidI H n b done s) ?_ ?_ ?_
  · exact ⟨rfl, rfl, rfl, rfl, rfl, rfl, [], [], ⟨rfl, Nat.le_refl _, fun p => Iff.rfl, fun p h => nomatch h⟩, rfl⟩
  · rintro done x rest ⟨m, H'⟩ K hx ⟨m1, m2, m3, m4, m5, m6, ks, vs, D, hH⟩ hK
    dsimp only at m1 m2 m3 m4 m5 m6 hH
    subst hH
    have hlen := congrArg List.length hx
    rw [List.length_append, List.length_cons] at hlen
    have hol := layO_length b done
    have hbl := layB_length b done
    have hfl := congrArg (fun l => (List.flatten l).length) hx
    simp only [List.flatten_append, List.flatten_cons, List.length_append] at hfl
    have hkl := D.le
    refine sel_F (by rfl) ?_
    refine get_of (by assumption) ?_
    refine sel_T (by rfl) ?_
    refine get_of (by assumption) ?_
    refine in_bd (by exact lk_right (by with_reducible assumption) rfl) ?_
    by_cases hd1 : x ∈ done
    · refine sel_T (any_of_mem.mpr ((D.mem x).mpr hd1)) ?_
      refine sel_T (by rfl) ?_
      refine get_of (by assumption) ?_
      refine look_of (by exact lk_right (by with_reducible assumption) rfl) ?_
      refine get_of (by assumption) ?_
      refine item_bd (by exact lk_right (by with_reducible assumption) rfl) (D.find x hd1) ?_
      refine look_of (by exact lk_right (by with_reducible assumption) rfl) ?_
      refine and_of (by exact fits_of (by simp only [List.length_append, List.length_map, List.length_take, List.length_drop, List.length_cons, List.length_nil, List.length_range, List.length_set, List.length_replicate]; (clear hkl hfl hbl hn hd hl hb; omega))) ?_
      refine set_of (by exact st_right (by with_reducible assumption) setL_0) ?_
      have hx2 := any_of_mem.mpr hd1
      refine hK _ trivial ⟨m1, m2, m3, m4, m5, m6, ks, vs, ?_, ?_⟩
      · rw [layO_in hx2]; exact D.old hol hd1
      · rw [layO_in hx2, layB_in hx2, List.map_append]; rfl
    · refine sel_F (not_any.mpr fun h => hd1 ((D.mem x).mp h)) ?_
      have hx2 := not_any.mpr hd1
      refine sel_F (by rfl) ?_
      refine get_of (by assumption) ?_
      refine get_of (by assumption) ?_
      refine look_of (by exact lk_right (by with_reducible assumption) rfl) ?_
      refine and_of (by exact fits_of (by (clear hd1 hkl hol hlen hn hd hps; omega))) ?_
      refine get_of (by assumption) ?_
      refine sel_F (decide_eq_false (by (clear hd1 hkl hol hlen hn hd hps hb; omega))) ?_
      refine get_of (by assumption) ?_
      refine se_bd (by exact lk_right (by with_reducible assumption) rfl) (fun h => hd1 ((D.mem x).mp h)) D.len (by (clear hd1 hfl hbl hn hd hl hb hol; omega)) (by exact st_right (by with_reducible assumption) (setL_s setL_0)) ?_
      refine get_of (by assumption) ?_
      refine look_of (by exact lk_right (by with_reducible assumption) rfl) ?_
      refine look_of (by exact lk_right (by with_reducible assumption) rfl) ?_
      refine and_of (by exact fits_of (by simp only [List.length_append, List.length_map, List.length_take, List.length_drop, List.length_cons, List.length_nil, List.length_range, List.length_set, List.length_replicate]; (clear hd1 hkl hfl hbl hn hd hl hb; omega))) ?_
      refine set_of (by exact st_right (by with_reducible assumption) setL_0) ?_
      refine get_of (by assumption) ?_
      refine look_of (by exact lk_right (by with_reducible assumption) rfl) ?_
      refine look_of (by exact lk_right (by with_reducible assumption) rfl) ?_
      refine and_of (by exact fits_of (by simp only [List.length_append, List.length_map, List.length_take, List.length_drop, List.length_cons, List.length_nil, List.length_range, List.length_set, List.length_replicate]; (clear hd1 hkl hol hlen hn hd hps; omega))) ?_
      refine set_of (by exact st_right (by with_reducible assumption) (setL_s (setL_s setL_0))) ?_
      refine hK _ trivial ⟨m1, m2, m3, m4, m5, m6, ks ++ [x], vs ++ [.int (b + (layB b done).length)], ?_, ?_⟩
      · rw [layO_new hx2]; exact D.new hol hd1
      · rw [layO_new hx2, layB_new hx2, List.map_append]; rfl
  · rintro ⟨m, H'⟩ ⟨m1, m2, m3, m4, m5, m6, ks, vs, D, hH⟩
    dsimp only at m1 m2 m3 m4 m5 m6 hH
    subst hH
    have hbl := layB_length b ps
    have hol := layO_length b ps
    refine get_of (by assumption) ?_
    refine get_of (by assumption) ?_
    refine look_of (by exact lk_right (by with_reducible assumption) rfl) ?_
    refine and_of (by exact fits_of (by (clear hol hn hd hps; omega))) ?_
    refine and_of (by exact fits_lit rfl) ?_
    exact fin_z hn (fz_tup (nb_head (Nat.le_add_right ..)) (allM_cons (fz_listB (Nat.le_add_right ..) (by exact lk_right (by with_reducible assumption) rfl) (belows_ints _)) (allM_cons (freeze_below rfl) allM_nil))) q
end

-- Sp4
section
open PySem PySem.Calls PySem.W PyProof.Rows PySem.SeqAt
section
variable {P : Params} {d : Nat} {H H' G X X1 X2 X3 : HH} {n k k1 k2 : Nat} {Q : AV → HH → Prop}
theorem Coverage_init {Q : HH → Prop} {i e : Nat} {v : AV} (hd : 1 ≤ d) (hi : Look H i (.inst 307 e)) (he : Look H e (.ns [] [])) (st : SetTo H e (.ns ["glyphs"] [v]) H') (q : Q H') : (calls (TX P) d).init 283 [.obj i, v] H Q := by
  refine init_w (ps := ["self", "glyphs"]) (df := []) (m := [("self", .obj i), ("glyphs", v)]) hd rfl rfl fun d hd => ?_
  subst st
  refine look_of (by with_reducible assumption) ?_
  refine look_of (by with_reducible assumption) ?_
  refine set_of (by exact st_refl) ?_
  exact q
theorem Ligature_init {Q : HH → Prop} {i e : Nat} {v : AV} (hd : 1 ≤ d) (hi : Look H i (.inst 403 e)) (he : Look H e (.ns [] [])) (st : SetTo H e (.ns ["sets"] [v]) H') (q : Q H') : (calls (TX P) d).init 395 [.obj i, v] H Q := by
  refine init_w (ps := ["self", "sets"]) (df := []) (m := [("self", .obj i), ("sets", v)]) hd rfl rfl fun d hd => ?_
  subst st
  refine look_of (by with_reducible assumption) ?_
  refine look_of (by with_reducible assumption) ?_
  refine set_of (by exact st_refl) ?_
  exact q
end
end

-- Sp5
section
open PySem PySem.Calls PySem.W PyProof.Rows PySem.SeqAt
/-- a table by ints, empty or not -/
def idd (ks : List Int) (vs : List AV) : AO := match ks with
  | [] => .edict
  | _ => .idict ks vs
theorem se_idd {Q : HH → Prop} {H H' : HH} {i : Nat} {ks : List Int} {vs : List AV} {p : Int} {v : AV} (h : Look H i (idd ks vs)) (hn : p ∉ ks) (hl : vs.length = ks.length) (hf : ks.length ≤ 1000) (e : SetTo H i (idd (ks ++ [p]) (vs ++ [v])) H') (q : Q H') : setItemP H (.obj i) (.int p) v Q := by
  cases ks with
  | nil => cases vs with
    | nil => exact look_of h (set_of e q)
    | cons _ _ => exact absurd hl (Nat.succ_ne_zero _)
  | cons k ks =>
    refine look_of h ⟨fits_of (by (clear hn hl; omega)), set_of ?_ q⟩
    rw [storeK_new hn hl]
    exact e
theorem idd_ne {ks : List Int} {vs : List AV} (h : ks ≠ []) : idd ks vs = .idict ks vs := by
  cases ks with
  | nil => exact absurd rfl h
  | cons _ _ => rfl
theorem ne_snoc {α : Type} {l : List α} {x : α} : (!(l ++ [x]).isEmpty) = true := by cases l <;> rfl
section
variable {P : Params} {d : Nat} {H H' : HH} {Q : AV → HH → Prop}
theorem coverage_of_s {ks : List Int} (hd : 2 ≤ d) (ha : Asc ks) (h0 : ks ≠ []) (hl : ks.length ≤ 60) (q : Q (.ins 307 ["glyphs"] [.tup (ks.map .int)]) H) :
    (calls (TX P) d).call 318 [.lst (ks.map .int)] H Q := by
  refine call_w (ps := ["glyphs"]) (df := []) (m := [("glyphs", .lst (ks.map .int))]) hd rfl rfl fun d n hd hn => ?_
  refine new_of (by with_reducible assumption) (by exact len0) (by exact app_nil) ?_
  refine and_of (by exact fits_of (by simp only [List.length_append, List.length_map, List.length_take, List.length_drop, List.length_cons, List.length_nil, List.length_range, List.length_set, List.length_replicate]; (clear hn hd h0; omega))) ?_
  refine for_inv (g := .int) (fun done (s : St) => s.2 = H ++ [idd done (done.map fun _ => .bool true)] ∧ get "found" s.1 = some (.obj (n + 0))) ?_ ?_ ?_
  · exact ⟨rfl, rfl⟩
  · rintro done x rest ⟨m, H'⟩ K hx ⟨hH, m1⟩ hK
    dsimp only at m1 hH
    subst hH
    have hlen := congrArg List.length hx
    rw [List.length_append, List.length_cons] at hlen
    have hnx : x ∉ done := by
      have := ha.nodup
      rw [hx, List.nodup_append] at this
      exact fun h => this.2.2 x h x (by simp) rfl
    refine get_of (by assumption) ?_
    refine se_idd (by exact lk_right (by with_reducible assumption) rfl) hnx (List.length_map _) (by (clear hnx hn hd h0; omega)) (by exact st_right (by with_reducible assumption) setL_0) ?_
    refine hK _ trivial ⟨?_, m1⟩
    rw [List.map_append]; rfl
  · rintro ⟨m, H'⟩ ⟨hH, m1⟩
    dsimp only at m1 hH
    rw [idd_ne h0] at hH
    subst hH
    have hs := congrArg List.length ha.sort
    refine get_of (by assumption) ?_
    refine look_of (by exact lk_right (by with_reducible assumption) rfl) ?_
    refine and_of (by (clear hn hd h0 hs; omega)) ?_
    refine and_of (by exact fits_of (by simp only [List.length_append, List.length_map, List.length_take, List.length_drop, List.length_cons, List.length_nil, List.length_range, List.length_set, List.length_replicate]; (clear hn hd h0; omega))) ?_
    refine new_of (by with_reducible assumption) (by exact len_s len0) (by exact app_cons app_nil) ?_
    refine new_of (by with_reducible assumption) (by exact len_s (len_s len0)) (by exact app_cons (app_cons app_nil)) ?_
    refine Coverage_init (dle rfl hd) (by exact lk_right (by with_reducible assumption) rfl) (by exact lk_right (by with_reducible assumption) rfl) (by exact st_right (by with_reducible assumption) (setL_s setL_0)) ?_
    rw [ha.sort]
    exact fin_z hn (fz_inst (by exact lk_right (by with_reducible assumption) rfl) (by exact lk_right (by with_reducible assumption) rfl) (Nat.le_add_right ..) (Nat.le_add_right ..) (allM_below _ (by show (belows _ (ks.map .int) && true) = true; rw [belows_ints]; rfl))) q
theorem ranges_of_s {ks : List Int} (hd : 1 ≤ d) (hl : ks.length ≤ 60) (q : Q (.lst ((rgF ks).map rgA)) H) :
    (calls (TX P) d).call 325 [.tup (ks.map .int)] H Q := by
  refine call_w (ps := ["glyphs"]) (df := []) (m := [("glyphs", .tup (ks.map .int))]) hd rfl rfl fun d n hd hn => ?_
  refine and_of (by exact fits_lit rfl) ?_
  refine new_of (by with_reducible assumption) (by exact len0) (by exact app_nil) ?_
  refine and_of (by exact fits_of (by simp only [List.length_append, List.length_map, List.length_take, List.length_drop, List.length_cons, List.length_nil, List.length_range, List.length_set, List.length_replicate]; (clear hn hd; omega))) ?_
  refine for_inv (g := .int) (fun done (s : St) => s.2 = H ++ [.list ((rgF done).map rgA)] ∧ get "ranges" s.1 = some (.obj (n + 0))) ?_ ?_ ?_
  · exact ⟨rfl, rfl⟩
  · rintro done x rest ⟨m, H'⟩ K hx ⟨hH, m1⟩ hK
    dsimp only at m1 hH
    have hlen := congrArg List.length hx
    rw [List.length_append, List.length_cons] at hlen
    have hrl := rgF_length done
    rcases List.eq_nil_or_concat (rgF done) with e | ⟨r, ⟨a, b⟩, e⟩
    · rw [e] at hH
      subst hH
      refine get_of (by assumption) ?_
      refine look_of (by exact lk_right (by with_reducible assumption) rfl) ?_
      refine and_of (by exact fits_lit rfl) ?_
      refine sel_F rfl ?_
      refine sel_F (by rfl) ?_
      refine get_of (by assumption) ?_
      refine look_of (by exact lk_right (by with_reducible assumption) rfl) ?_
      refine and_of (by exact fits_lit rfl) ?_
      refine look_of (by exact lk_right (by with_reducible assumption) rfl) ?_
      refine and_of (by exact fits_lit rfl) ?_
      refine set_of (by exact st_right (by with_reducible assumption) setL_0) ?_
      refine hK _ trivial ?_
      refine ⟨?_, m1⟩
      show _ = H ++ [AO.list ((rgF (done ++ [x])).map rgA)]
      rw [rgF_snoc, e, rgS_nil]; rfl
    · rw [List.concat_eq_append] at e
      rw [e] at hrl
      rw [List.length_append, List.length_singleton] at hrl
      rw [e, List.map_append] at hH
      subst hH
      refine get_of (by assumption) ?_
      refine look_of (by exact lk_right (by with_reducible assumption) rfl) ?_
      refine and_of (by exact fits_of (by simp only [List.length_append, List.length_map, List.length_take, List.length_drop, List.length_cons, List.length_nil, List.length_range, List.length_set, List.length_replicate]; (clear hn hd; omega))) ?_
      refine sel_T ne_snoc ?_
      refine get_of (by assumption) ?_
      refine look_of (by exact lk_right (by with_reducible assumption) rfl) ?_
      refine and_of (by decide) ?_
      refine optP_i pick_lastE ?_
      refine and_of (by decide) ?_
      by_cases hx : b + 1 = x
      · refine sel_T (beq_iff_eq.mpr hx) ?_
        refine sel_T (by rfl) ?_
        refine get_of (by assumption) ?_
        refine look_of (by exact lk_right (by with_reducible assumption) rfl) ?_
        refine and_of (by decide) ?_
        refine optP_i pick_lastE ?_
        refine and_of (by decide) ?_
        refine and_of (by exact fits_lit rfl) ?_
        refine get_of (by assumption) ?_
        refine se_last (by exact lk_right (by with_reducible assumption) rfl) (by exact st_right (by with_reducible assumption) setL_0) ?_
        refine hK _ trivial ?_
        refine ⟨?_, m1⟩
        show _ = H ++ [AO.list ((rgF (done ++ [x])).map rgA)]
        rw [rgF_snoc, e, rgS_run hx, List.map_append]; rfl
      · refine sel_F (beq_eq_false_iff_ne.mpr hx) ?_
        refine sel_F (by rfl) ?_
        refine get_of (by assumption) ?_
        refine look_of (by exact lk_right (by with_reducible assumption) rfl) ?_
        refine and_of (by exact fits_lit rfl) ?_
        refine look_of (by exact lk_right (by with_reducible assumption) rfl) ?_
        refine and_of (by exact fits_of (by simp only [List.length_append, List.length_map, List.length_take, List.length_drop, List.length_cons, List.length_nil, List.length_range, List.length_set, List.length_replicate]; (clear hx hn hd; omega))) ?_
        refine set_of (by exact st_right (by with_reducible assumption) setL_0) ?_
        refine hK _ trivial ?_
        refine ⟨?_, m1⟩
        show _ = H ++ [AO.list ((rgF (done ++ [x])).map rgA)]
        rw [rgF_snoc, e, rgS_new hx, List.map_append, List.map_append]; rfl
  · rintro ⟨m, H'⟩ ⟨hH, m1⟩
    dsimp only at m1 hH
    subst hH
    refine get_of (by assumption) ?_
    exact fin_z hn (fz_listB (Nat.le_add_right ..) (by exact lk_right (by with_reducible assumption) rfl) (belows_rg _)) q
end
end

-- Sp6
section
open PySem PySem.Calls PySem.W PyProof.Rows PySem.SeqAt
section
variable {P : Params} {d : Nat} {H H' : HH} {Q : AV → HH → Prop}
theorem write_coverage_s {ks : List Int} (hd : 3 ≤ d) (hu : ∀ k ∈ ks, U16 k) (hl : ks.length ≤ 60) (hr : ks.length ≤ 3 * (rgF ks).length) (q : Q (.bytes (covB ks)) H) :
    (calls (TX P) d).call 361 [.ins 307 ["glyphs"] [.tup (ks.map .int)]] H Q := by
  refine call_w (ps := ["coverage", "form"]) (df := [.int 0]) (m := [("coverage", .ins 307 ["glyphs"] [.tup (ks.map .int)]), ("form", .int 0)]) hd rfl rfl fun d n hd hn => ?_
  have hrl := rgF_length ks
  refine ranges_of_s (dle rfl hd) hl ?_
  refine sel_T rfl ?_
  refine and_of (by exact fits_of (by simp only [List.length_append, List.length_map, List.length_take, List.length_drop, List.length_cons, List.length_nil, List.length_range, List.length_set, List.length_replicate]; (clear hrl hn hd hr; omega))) ?_
  refine and_of (by decide) ?_
  refine and_of (by exact fits_of (by simp only [List.length_append, List.length_map, List.length_take, List.length_drop, List.length_cons, List.length_nil, List.length_range, List.length_set, List.length_replicate]; (clear hn hd hr; omega))) ?_
  refine and_of (by decide) ?_
  refine sel_T (decide_eq_true (by rw [List.length_map, List.length_map]; (clear hrl hn hd hl; omega))) ?_
  refine new_of (by with_reducible assumption) (by exact len0) (by exact app_nil) ?_
  refine new_of (by with_reducible assumption) (by exact len_s len0) (by exact app_cons app_nil) ?_
  refine OctetsOut_init (dle rfl hd) hn (by exact len_s (len_s len0)) (by exact lk_right (by with_reducible assumption) rfl) (by exact lk_right (by with_reducible assumption) rfl) (by exact st_right (by with_reducible assumption) setL_0) (by exact app_cons (app_cons app_nil)) ?_
  refine look_of (by exact lk_right (by with_reducible assumption) rfl) ?_
  refine look_of (by exact lk_right (by with_reducible assumption) rfl) ?_
  refine OctetsOut_u16 (dle rfl hd) (by exact lk_right (by with_reducible assumption) rfl) (by exact lk_right (by with_reducible assumption) rfl) (by exact lk_right (by with_reducible assumption) rfl) (by decide) (by decide) (by exact st_right (by with_reducible assumption) (setL_s (setL_s setL_0))) ?_
  refine sel_T rfl ?_
  refine look_of (by exact lk_right (by with_reducible assumption) rfl) ?_
  refine look_of (by exact lk_right (by with_reducible assumption) rfl) ?_
  refine and_of (by exact fits_of (by simp only [List.length_append, List.length_map, List.length_take, List.length_drop, List.length_cons, List.length_nil, List.length_range, List.length_set, List.length_replicate]; (clear hrl hn hd hr; omega))) ?_
  refine OctetsOut_u16 (dle rfl hd) (by exact lk_right (by with_reducible assumption) rfl) (by exact lk_right (by with_reducible assumption) rfl) (by exact lk_right (by with_reducible assumption) rfl) (by rw [List.length_map]; exact ⟨by (clear hrl hn hd hr hl; omega), by (clear hrl hn hd hr; omega)⟩) (by decide) (by exact st_right (by with_reducible assumption) (setL_s (setL_s setL_0))) ?_
  refine and_of (by exact fits_of (by simp only [List.length_append, List.length_map, List.length_take, List.length_drop, List.length_cons, List.length_nil, List.length_range, List.length_set, List.length_replicate]; (clear hrl hn hd hr; omega))) ?_
  refine for_inv (g := .int) (fun done (s : St) => s.2 = H ++ [.ns ["made"] [.obj (n + 2)], .inst 257 (n + 0), .barr (bes (1 :: (ks.length : Int) :: done))] ∧ get "out" s.1 = some (.obj (n + 1))) ?_ ?_ ?_
  · refine ⟨?_, rfl⟩
    rw [List.length_map]; rfl
  · rintro done x rest ⟨m, H'⟩ K hx ⟨hH, m1⟩ hK
    dsimp only at m1 hH
    subst hH
    have hlen := congrArg List.length hx
    rw [List.length_append, List.length_cons] at hlen
    have hbl := bes_length (1 :: (ks.length : Int) :: done)
    rw [List.length_cons, List.length_cons] at hbl
    refine get_of (by assumption) ?_
    refine look_of (by exact lk_right (by with_reducible assumption) rfl) ?_
    refine look_of (by exact lk_right (by with_reducible assumption) rfl) ?_
    refine OctetsOut_u16 (dle rfl hd) (by exact lk_right (by with_reducible assumption) rfl) (by exact lk_right (by with_reducible assumption) rfl) (by exact lk_right (by with_reducible assumption) rfl) (hu x (by rw [hx]; simp)) (by (clear hrl hn hd hr; omega)) (by exact st_right (by with_reducible assumption) (setL_s (setL_s setL_0))) ?_
    refine hK _ trivial ?_
    refine ⟨?_, m1⟩
    show _ = H ++ [_, _, AO.barr (bes ((1 :: (ks.length : Int) :: done) ++ [x]))]
    rw [bes_append]; rfl
  · rintro ⟨m, H'⟩ ⟨hH, m1⟩
    dsimp only at m1 hH
    subst hH
    have hbl := bes_length (1 :: (ks.length : Int) :: ks)
    rw [List.length_cons, List.length_cons] at hbl
    refine get_of (by assumption) ?_
    refine look_of (by exact lk_right (by with_reducible assumption) rfl) ?_
    refine look_of (by exact lk_right (by with_reducible assumption) rfl) ?_
    refine OctetsOut_octets (dle rfl hd) (by exact lk_right (by with_reducible assumption) rfl) (by exact lk_right (by with_reducible assumption) rfl) (by exact lk_right (by with_reducible assumption) rfl) (by (clear hrl hn hd hr; omega)) ?_
    exact fin_0 rfl q
theorem row_octets_s {r : Row} (hd : 3 ≤ d) (hr : RowOk r) (q : Q (.bytes (rowB r)) H) : (calls (TX P) d).call 438 [rowA r] H Q := by
  refine call_w (ps := ["row"]) (df := []) (m := [("row", rowA r)]) hd rfl rfl fun d n hd hn => ?_
  have hl := hr.short
  refine new_of (by with_reducible assumption) (by exact len0) (by exact app_nil) ?_
  refine new_of (by with_reducible assumption) (by exact len_s len0) (by exact app_cons app_nil) ?_
  refine OctetsOut_init (dle rfl hd) hn (by exact len_s (len_s len0)) (by exact lk_right (by with_reducible assumption) rfl) (by exact lk_right (by with_reducible assumption) rfl) (by exact st_right (by with_reducible assumption) setL_0) (by exact app_cons (app_cons app_nil)) ?_
  refine look_of (by exact lk_right (by with_reducible assumption) rfl) ?_
  refine look_of (by exact lk_right (by with_reducible assumption) rfl) ?_
  refine and_of (by exact fits_of (by simp only [List.length_append, List.length_map, List.length_take, List.length_drop, List.length_cons, List.length_nil, List.length_range, List.length_set, List.length_replicate]; (clear hn hd; omega))) ?_
  refine and_of (by exact fits_lit rfl) ?_
  refine and_of (by exact fits_of (by simp only [List.length_append, List.length_map, List.length_take, List.length_drop, List.length_cons, List.length_nil, List.length_range, List.length_set, List.length_replicate]; (clear hn hd; omega))) ?_
  have hbl := bes_length (r.2 :: ((r.1.length : Int) + 1) :: r.1)
  rw [List.length_cons, List.length_cons] at hbl
  refine OctetsOut_rows (is := r.2 :: ((r.1.length : Int) + 1) :: r.1) (by (clear hbl hl hn; omega)) (by exact lk_right (by with_reducible assumption) rfl) (by exact lk_right (by with_reducible assumption) rfl) (by exact lk_right (by with_reducible assumption) rfl) (.inl (by rw [List.length_map]; rfl)) ?_ (by decide) (by rw [List.length_cons, List.length_cons]; (clear hbl hn hd; omega)) (by exact st_right (by with_reducible assumption) (setL_s (setL_s setL_0))) ?_
  · intro v hv
    rcases List.mem_cons.mp hv with rfl | hv
    · exact hr.lig
    rcases List.mem_cons.mp hv with rfl | hv
    · exact ⟨by (clear hbl hn hd hl; omega), by (clear hbl hn hd; omega)⟩
    · exact hr.rest v hv
  refine look_of (by exact lk_right (by with_reducible assumption) rfl) ?_
  refine look_of (by exact lk_right (by with_reducible assumption) rfl) ?_
  refine OctetsOut_octets (dle rfl hd) (by exact lk_right (by with_reducible assumption) rfl) (by exact lk_right (by with_reducible assumption) rfl) (by exact lk_right (by with_reducible assumption) rfl) (by rw [List.nil_append]; (clear hn hd; omega)) ?_
  exact fin_0 rfl q
theorem set_octets_s {rs : List Row} (hd : 4 ≤ d) (hr : RowsOk rs) (q : Q (.bytes (setB rs)) H) : (calls (TX P) d).call 443 [.lst (rs.map rowA)] H Q := by
  refine call_w (ps := ["rows"]) (df := []) (m := [("rows", .lst (rs.map rowA))]) hd rfl rfl fun d n hd hn => ?_
  have hl := hr.few
  have hs := setB_lay rs hr
  have hol : (layO (2 + 2 * rs.length) (rs.map rowB)).length = rs.length := by rw [layO_length, List.length_map]
  refine and_of (by exact fits_of (by simp only [List.length_append, List.length_map, List.length_take, List.length_drop, List.length_cons, List.length_nil, List.length_range, List.length_set, List.length_replicate]; (clear hs hn hd hol; omega))) ?_
  refine and_of (by decide) ?_
  refine and_of (by exact fits_of (by simp only [List.length_append, List.length_map, List.length_take, List.length_drop, List.length_cons, List.length_nil, List.length_range, List.length_set, List.length_replicate]; (clear hs hn hd hol; omega))) ?_
  refine for_inv (g := rowA) (fun done (s : Sc) => s.2.1 = H ++ [] ∧ s.2.2 = (done.map rowB).map .bytes) ?_ ?_ ?_
  · exact ⟨rfl, rfl⟩
  · rintro done x rest ⟨m, H', l⟩ K hx ⟨hH, hl⟩ hK
    dsimp only at hH hl
    subst hH hl
    have hlen := congrArg List.length hx
    rw [List.length_append, List.length_cons] at hlen
    refine and_of (by exact fits_of (by simp only [List.length_append, List.length_map, List.length_take, List.length_drop, List.length_cons, List.length_nil, List.length_range, List.length_set, List.length_replicate]; (clear hs hn hd hol; omega))) ?_
    refine row_octets_s (dle rfl hd) (hr.ok x (by rw [hx]; simp)) ?_
    refine hK _ trivial ?_
    refine ⟨rfl, ?_⟩
    show _ = ((done ++ [x]).map rowB).map AV.bytes
    rw [List.map_append, List.map_append]; rfl
  · rintro ⟨m, H', l⟩ ⟨hH, hl⟩
    dsimp only at hH hl
    subst hH hl
    have hfl : (rs.map rowB).flatten.length ≤ 70 := by
      have := flatten_le (c := 10) (ls := rs.map rowB) fun l hl => by
        obtain ⟨r, h, rfl⟩ := List.mem_map.mp hl
        rw [rowB_length]
        have := (hr.ok r h).short
        (clear hol hs hn hd; omega)
      rw [List.length_map] at this
      (clear hs hn hd hol; omega)
    refine laid_s (dle rfl hd) (by (clear hfl hol hs hl hn hd; omega)) (by rw [List.length_map]; (clear hfl hs hn hd hol; omega)) (by rw [List.length_map]; (clear hs hn hd hol; omega)) ?_
    rw [List.length_map]
    refine new_of (by with_reducible assumption) (by exact len0) (by exact app_nil) ?_
    refine new_of (by with_reducible assumption) (by exact len_s len0) (by exact app_cons app_nil) ?_
    refine OctetsOut_init (dle rfl hd) hn (by exact len_s (len_s len0)) (by exact lk_right (by with_reducible assumption) rfl) (by exact lk_right (by with_reducible assumption) rfl) (by exact st_right (by with_reducible assumption) setL_0) (by exact app_cons (app_cons app_nil)) ?_
    refine look_of (by exact lk_right (by with_reducible assumption) rfl) ?_
    refine look_of (by exact lk_right (by with_reducible assumption) rfl) ?_
    refine and_of (by exact fits_of (by simp only [List.length_append, List.length_map, List.length_take, List.length_drop, List.length_cons, List.length_nil, List.length_range, List.length_set, List.length_replicate]; (clear hfl hs hn hd hol; omega))) ?_
    refine and_of (by exact fits_lit rfl) ?_
    refine and_of (by exact fits_of (by simp only [List.length_append, List.length_map, List.length_take, List.length_drop, List.length_cons, List.length_nil, List.length_range, List.length_set, List.length_replicate]; (clear hfl hs hn hd; omega))) ?_
    refine OctetsOut_rows (is := (rs.length : Int) :: layO (2 + 2 * rs.length) (rs.map rowB)) (dle rfl hd) (by exact lk_right (by with_reducible assumption) rfl) (by exact lk_right (by with_reducible assumption) rfl) (by exact lk_right (by with_reducible assumption) rfl) (.inr (by rw [List.length_map]; rfl)) ?_ (by decide) (by rw [List.length_cons]; (clear hfl hs hn hd; omega)) (by exact st_right (by with_reducible assumption) (setL_s (setL_s setL_0))) ?_
    · intro v hv
      rcases List.mem_cons.mp hv with rfl | hv
      · exact ⟨by (clear hfl hs hn hd hol hl; omega), by (clear hfl hs hn hd hol; omega)⟩
      · have := layO_le _ _ (by (clear hfl hs hn hd hol hl; omega)) v hv
        exact ⟨by (clear hfl hn hd hol hs hl; omega), by (clear hfl hn hd hol; omega)⟩
    have hbl := bes_length ((rs.length : Int) :: layO (2 + 2 * rs.length) (rs.map rowB))
    rw [List.length_cons] at hbl
    refine look_of (by exact lk_right (by with_reducible assumption) rfl) ?_
    refine look_of (by exact lk_right (by with_reducible assumption) rfl) ?_
    refine OctetsOut_octets (dle rfl hd) (by exact lk_right (by with_reducible assumption) rfl) (by exact lk_right (by with_reducible assumption) rfl) (by exact lk_right (by with_reducible assumption) rfl) (by rw [List.nil_append]; (clear hfl hs hn hd; omega)) ?_
    refine and_of (by exact fits_of (by simp only [List.length_append, List.length_map, List.length_take, List.length_drop, List.length_cons, List.length_nil, List.length_range, List.length_set, List.length_replicate]; (clear hfl hn hd; omega))) ?_
    exact fin_0 rfl q
end
end

-- Sp7
section
open PySem PySem.Calls PySem.W PyProof.Rows PySem.SeqAt
structure TabOkk (ks : List Int) (R : Int → List Row) : Prop where
  asc : Asc ks
  some_ : ks ≠ []
  few : ks.length ≤ 4
  u16 : ∀ k ∈ ks, U16 k
  rg : ks.length ≤ 3 * (rgF ks).length
  rows : ∀ k ∈ ks, RowsOk (R k)
theorem parts_flat {ks : List Int} {R : Int → List Row} (h : TabOkk ks R) : (partsB ks R).flatten.length ≤ 4 + 2 * ks.length + 86 * ks.length := by
  unfold partsB
  have h2 : (ks.map fun k => setB (R k)).flatten.length ≤ (ks.map fun k => setB (R k)).length * 86 := flatten_le fun l hl => by
    obtain ⟨k, hk, rfl⟩ := List.mem_map.mp hl
    exact setB_length _ (h.rows k hk)
  rw [List.length_map] at h2
  rw [List.flatten_cons, List.length_append, covB_length]
  omega
theorem cut_one (l : List AV) (h : 1 ≤ l.length) : cut l (some 1) none = l.drop 1 := by
  unfold cut
  have : clipAt l.length 1 = 1 := clip_nat (k := 1) h
  show (l.drop (clipAt l.length 1)).take (l.length - clipAt l.length 1) = _
  rw [this, List.take_of_length_le (by rw [List.length_drop]; (clear this h; omega))]
/-- an own object with a table of sets -/
structure SetsO (H : HH) (i e j : Nat) (ks : List Int) (vs : List AV) (R : Int → List Row) : Prop where
  li : Look H i (.inst 403 e)
  le : Look H e (.ns ["sets"] [.obj j])
  lj : Look H j (.idict ks vs)
  it : ∀ k ∈ ks, findK k ks vs = some (.lst ((R k).map rowA))
theorem write_ligature_s {P : Params} {d : Nat} {H : HH} {Q : AV → HH → Prop} {i e j : Nat} {ks0 ks : List Int} {vs : List AV} {R : Int → List Row} (hd : 5 ≤ d) (S : SetsO H i e j ks0 vs R) (hs : sortI ks0 = ks) (ok : TabOkk ks R) (q : Q (.bytes (tableB ks R)) H) :
    (calls (TX P) d).call 448 [.obj i] H Q := by
  refine call_w (ps := ["table"]) (df := []) (m := [("table", .obj i)]) hd rfl rfl fun d n hd hn => ?_
  obtain ⟨li, le, lj, it⟩ := S
  have hp : ks.Perm ks0 := hs ▸ sortI_perm' ks0
  have hl0 := hp.length_eq
  have hl := ok.few
  have hpf := parts_flat ok
  have hpl : (partsB ks R).length = 1 + ks.length := by unfold partsB; rw [List.length_cons, List.length_map]; (clear hpf hl hl0 hn hd; omega)
  have hk0 : 0 < ks.length := List.length_pos_iff.mpr ok.some_
  refine look_of (by exact lk_left (by with_reducible assumption)) ?_
  refine look_of (by exact lk_left (by with_reducible assumption)) ?_
  refine look_of (by exact lk_left (by with_reducible assumption)) ?_
  refine and_of (by (clear hpf hn hd hk0 hpl; omega)) ?_
  refine coverage_of_s (ks := sortI ks0) (dle rfl hd) (by rw [hs]; exact ok.asc) (by rw [hs]; exact ok.some_) (by rw [hs]; (clear hpf hn hd hk0 hpl hl0; omega)) ?_
  rw [hs]
  refine write_coverage_s (dle rfl hd) ok.u16 (by (clear hpf hn hd hk0 hpl hl0; omega)) ok.rg ?_
  refine and_of (by exact fits_lit rfl) ?_
  refine and_of (by exact fits_of (by simp only [List.length_append, List.length_map, List.length_take, List.length_drop, List.length_cons, List.length_nil, List.length_range, List.length_set, List.length_replicate]; (clear hpf hn hd hk0 hpl hl0; omega))) ?_
  refine for_inv (g := .int) (fun done (s : Sc) => s.2.1 = H ++ [] ∧ s.2.2 = (done.map fun k => setB (R k)).map .bytes ∧ get "table" s.1 = some (.obj i)) ?_ ?_ ?_
  · exact ⟨rfl, rfl, rfl⟩
  · rintro done x rest ⟨m, H', l⟩ K hx ⟨hH, h2, m1⟩ hK
    dsimp only at hH h2 m1
    subst hH h2
    have hlen := congrArg List.length hx
    rw [List.length_append, List.length_cons] at hlen
    have hxk : x ∈ ks := by rw [hx]; simp
    refine and_of (by exact fits_of (by simp only [List.length_append, List.length_map, List.length_take, List.length_drop, List.length_cons, List.length_nil, List.length_range, List.length_set, List.length_replicate]; (clear hpf hn hd hk0 hpl hl0; omega))) ?_
    refine get_of (by assumption) ?_
    refine look_of (by exact lk_left (by with_reducible assumption)) ?_
    refine look_of (by exact lk_left (by with_reducible assumption)) ?_
    refine look_of (by exact lk_left (by with_reducible assumption)) ?_
    refine optP_i (x := x) rfl (optP_i (it x (hp.mem_iff.mp hxk)) ?_)
    refine set_octets_s (dle rfl hd) (ok.rows x hxk) ?_
    refine hK _ trivial ?_
    refine ⟨rfl, ?_, m1⟩
    show _ = ((done ++ [x]).map fun k => setB (R k)).map AV.bytes
    rw [List.map_append, List.map_append]; rfl
  · rintro ⟨m, H', l⟩ ⟨hH, h2, m1⟩
    dsimp only at hH h2 m1
    subst hH h2
    have hol : (layO (6 + 2 * ks.length) (partsB ks R)).length = 1 + ks.length := by rw [layO_length, hpl]
    have hbl := layB_length (6 + 2 * ks.length) (partsB ks R)
    have hle := layO_le (6 + 2 * ks.length) (partsB ks R) (by (clear hbl hpf hn hd hol hk0 hpl hl hl0; omega))
    have hT : tableB ks R = bes (1 :: (layO (6 + 2 * ks.length) (partsB ks R)).getD 0 0 :: (ks.length : Int) :: (layO (6 + 2 * ks.length) (partsB ks R)).drop 1) ++ layB (6 + 2 * ks.length) (partsB ks R) := rfl
    obtain ⟨o, os, ho⟩ : ∃ o os, layO (6 + 2 * ks.length) (partsB ks R) = o :: os := by
      cases h : layO (6 + 2 * ks.length) (partsB ks R) with
      | nil => rw [h] at hol; simp at hol; (clear hbl hpf hn hd hk0 hpl hl hl0; omega)
      | cons o os => exact ⟨o, os, rfl⟩
    have hml : (ks.map AV.int).length = ks.length := List.length_map _
    refine and_of (by exact fits_of (by simp only [List.length_append, List.length_map, List.length_take, List.length_drop, List.length_cons, List.length_nil, List.length_range, List.length_set, List.length_replicate]; (clear hbl hpf hn hd hml hol hk0 hpl hl0; omega))) ?_
    refine and_of (by exact fits_of (by (clear hbl hpf hn hd hol hk0 hpl hl0; omega))) ?_
    refine and_of (by decide) ?_
    refine laid_s (ps := partsB ks R) (dle rfl hd) (by (clear hbl hpf hn hd hml hol hk0 hpl hl hl0; omega)) (by (clear hbl hpf hn hd hml hol hk0 hl0; omega)) (by rw [hml]; (clear hbl hn hd hml hol hk0 hpl hl0; omega)) ?_
    rw [hml, ho]
    rw [ho] at hol hle hT
    rw [List.length_cons] at hol
    rw [hT] at q
    refine new_of (by with_reducible assumption) (by exact len0) (by exact app_nil) ?_
    refine new_of (by with_reducible assumption) (by exact len_s len0) (by exact app_cons app_nil) ?_
    have ho1 := hle o (.head _)
    have hbs := bes_length (1 :: o :: (ks.length : Int) :: os)
    rw [List.length_cons, List.length_cons, List.length_cons] at hbs
    refine OctetsOut_init (dle rfl hd) hn (by exact len_s (len_s len0)) (by exact lk_right (by with_reducible assumption) rfl) (by exact lk_right (by with_reducible assumption) rfl) (by exact st_right (by with_reducible assumption) setL_0) (by exact app_cons (app_cons app_nil)) ?_
    refine look_of (by exact lk_right (by with_reducible assumption) rfl) ?_
    refine look_of (by exact lk_right (by with_reducible assumption) rfl) ?_
    refine and_of (by decide) ?_
    refine and_of (by exact fits_of (by (clear hbs ho1 hbl hpf hn hd hol hk0 hpl hl0; omega))) ?_
    refine and_of (by exact fits_lit rfl) ?_
    refine and_of (by decide) ?_
    refine and_of (by exact fits_of (by simp only [List.length_append, List.length_map, List.length_take, List.length_drop, List.length_cons, List.length_nil, List.length_range, List.length_set, List.length_replicate]; (clear hbs ho1 hbl hpf hn hd hml hk0 hpl hl0; omega))) ?_
    have hc : [AV.int 1, .int o, .int ((ks.map AV.int).length : Nat)] ++ cut ((o :: os).map AV.int) (some 1) none = (1 :: o :: (ks.length : Int) :: os).map .int := by
      rw [cut_one _ (Nat.le_add_left 1 _), hml]; rfl
    have hcl : ((1 :: o :: (ks.length : Int) :: os).map AV.int).length = os.length + 3 := List.length_map _
    refine and_of (fits_of (by rw [hc, hcl]; (clear hbs ho1 hbl hpf hn hd hcl hml hk0 hpl hl0; omega))) ?_
    refine OctetsOut_rows (is := 1 :: o :: (ks.length : Int) :: os) (dle rfl hd) (by exact lk_right (by with_reducible assumption) rfl) (by exact lk_right (by with_reducible assumption) rfl) (by exact lk_right (by with_reducible assumption) rfl) (.inr (congrArg AV.lst hc)) ?_ (by decide) (by rw [List.length_cons, List.length_cons, List.length_cons]; (clear hbs ho1 hbl hpf hn hd hcl hml hk0 hpl hl0; omega)) (by exact st_right (by with_reducible assumption) (setL_s (setL_s setL_0))) ?_
    · intro v hv
      rcases List.mem_cons.mp hv with rfl | hv
      · decide
      rcases List.mem_cons.mp hv with rfl | hv
      · exact ⟨by (clear hbs hbl hpf hn hd hcl hml hol hk0 hpl hl hl0; omega), by (clear hbs hn hd hcl hml hol hk0 hpl hl0; omega)⟩
      rcases List.mem_cons.mp hv with rfl | hv
      · exact ⟨by (clear hbs ho1 hbl hpf hn hd hcl hml hol hk0 hpl hl hl0; omega), by (clear hbs ho1 hbl hpf hn hd hcl hml hol hk0 hpl hl0; omega)⟩
      · have := hle v (.tail _ hv)
        exact ⟨by (clear hbs ho1 hk0 hl hn hd hcl hml hol hbl hpl hpf hl0; omega), by (clear hbs hn hd hcl ho1 hml hol hk0 hpl hl0; omega)⟩
    refine look_of (by exact lk_right (by with_reducible assumption) rfl) ?_
    refine look_of (by exact lk_right (by with_reducible assumption) rfl) ?_
    refine OctetsOut_octets (dle rfl hd) (by exact lk_right (by with_reducible assumption) rfl) (by exact lk_right (by with_reducible assumption) rfl) (by exact lk_right (by with_reducible assumption) rfl) (by rw [List.nil_append]; (clear ho1 hbl hpf hn hd hcl hml hk0 hpl hl0; omega)) ?_
    refine and_of (by exact fits_of (by simp only [List.length_append, List.length_map, List.length_take, List.length_drop, List.length_cons, List.length_nil, List.length_range, List.length_set, List.length_replicate]; (clear ho1 hn hd hcl hml hk0 hpl hl0; omega))) ?_
    exact fin_0 rfl q
end

-- Sp8
section
open PySem PySem.Calls PySem.W PyProof.Rows PySem.SeqAt
theorem bes_split {b : Bs} {a : Nat} {v : Int} {vs : List Int} (h : At b a (bes (v :: vs))) : At b a (be2 v) ∧ At b (a + 2) (bes vs) := ⟨h.left, h.right (l := be2 v)⟩
section
variable {P : Params} {d : Nat} {H H' : HH} {Q : AV → HH → Prop}
theorem places_in_s {b : Bs} {a t : Nat} {z y : Int} {os : List Int} (hd : 6 ≤ d) (hz : z = a) (hy : y = t) (h : At b t (bes ((os.length : Int) :: os))) (hl : os.length ≤ 1000) (hu : ∀ o ∈ os, U16 o ∧ o ≠ 0) (hf : fits b.length) (q : Q (.lst ((os.map fun o => (a : Int) + o).map .int)) H) :
    (calls (TX P) d).call 419 [.bytes b, .int z, .int y] H Q := by
  subst hz hy
  refine call_w (ps := ["data", "at", "told_at"]) (df := []) (m := [("data", .bytes b), ("at", .int a), ("told_at", .int t)]) hd rfl rfl fun d n hd hn => ?_
  obtain ⟨h1, h2⟩ := bes_split h
  have hlen := h.length (by rw [bes_length]; simp)
  rw [bes_length, List.length_cons] at hlen
  refine new_of (by with_reducible assumption) (by exact len0) (by exact app_nil) ?_
  refine new_of (by with_reducible assumption) (by exact len_s len0) (by exact app_cons app_nil) ?_
  refine OctetsIn_init (dle rfl hd) (by exact lk_right (by with_reducible assumption) rfl) (by exact lk_right (by with_reducible assumption) rfl) (by (clear hlen hn hd hl; omega)) (by exact st_right (by with_reducible assumption) setL_0) ?_
  refine look_of (by exact lk_right (by with_reducible assumption) rfl) ?_
  refine look_of (by exact lk_right (by with_reducible assumption) rfl) ?_
  refine u16_s (dle rfl hd) rfl (by exact lk_right (by with_reducible assumption) rfl) (by exact lk_right (by with_reducible assumption) rfl) ⟨by (clear hlen hn hd hl; omega), by (clear hlen hn hd; omega)⟩ h1 hf (by exact st_right (by with_reducible assumption) setL_0) ?_
  refine look_of (by exact lk_right (by with_reducible assumption) rfl) ?_
  refine look_of (by exact lk_right (by with_reducible assumption) rfl) ?_
  refine rows_in_s (a := t + 2) (vs := os) (dle rfl hd) rfl rfl (by exact lk_right (by with_reducible assumption) rfl) (by exact lk_right (by with_reducible assumption) rfl) (by (clear hlen hn hd hl; omega)) (fun v hv => (hu v hv).1) h2 (by (clear hn hd hl; omega)) hf (by exact st_right (by with_reducible assumption) setL_0) ?_
  refine and_of (by exact smallI_of (by (clear hlen hn hd; omega))) ?_
  refine src_range (by exact fits_of (by (clear hlen hn hd; omega))) ?_
  refine for_inv (g := fun (j : Nat) => .int (j : Int)) (fun done (s : Sc) => s.2.1 = H ++ [.ns ["data", "at"] [.bytes b, .int (t + 2 + 2 * os.length : Nat)], .inst 163 (n + 0)] ∧ s.2.2 = ((os.take done.length).map fun o => (a : Int) + o).map .int ∧
    get "at" s.1 = some (.int a) ∧ get "offsets" s.1 = some (.lst (os.map .int)) ∧ get "told_at" s.1 = some (.int t)) ?_ ?_ ?_
  · exact ⟨rfl, rfl, rfl, rfl, rfl⟩
  · rintro done x rest ⟨m, H', l⟩ K hx ⟨hH, h3, m1, m2, m3⟩ hK
    dsimp only at hH h3 m1 m2 m3
    subst hH h3
    obtain ⟨rfl, hlt⟩ := range_turn hx
    have hk : os[done.length]? = some os[done.length] := List.getElem?_eq_getElem hlt
    have hm := hu _ (List.getElem_mem hlt)
    refine and_of (by exact fits_of (by simp only [List.length_append, List.length_map, List.length_take, List.length_drop, List.length_cons, List.length_nil, List.length_range, List.length_set, List.length_replicate]; (clear hm hlen hn hd; omega))) ?_
    refine get_of (by assumption) ?_
    refine get_of (by assumption) ?_
    refine and_of (by exact smallI_of (by (clear hm hlen hn hd; omega))) ?_
    refine optP_i (pick_natE.trans (by rw [List.getElem?_map, hk]; rfl)) ?_
    refine get_of (by assumption) ?_
    refine and_of (by decide) ?_
    refine place_of_s (dle rfl hd) hm.2 ?_
    refine hK _ trivial ?_
    refine ⟨rfl, ?_, m1, m2, m3⟩
    show _ = ((os.take (done ++ [done.length]).length).map fun o => (a : Int) + o).map AV.int
    rw [List.length_append, List.length_singleton, take_one hk, List.map_append, List.map_append]; rfl
  · rintro ⟨m, H', l⟩ ⟨hH, h3, m1, m2, m3⟩
    dsimp only at hH h3
    rw [List.length_range, List.take_length] at h3
    subst hH h3
    exact fin_0 (belows_ints _) q
theorem read_row_s {b : Bs} {a : Nat} {z : Int} {r : Row} (hd : 6 ≤ d) (hz : z = a) (h : At b a (rowB r)) (hr : RowOk r) (hf : fits b.length) (q : Q (rowA r) H) :
    (calls (TX P) d).call 426 [.bytes b, .int z] H Q := by
  subst hz
  refine call_w (ps := ["data", "at"]) (df := []) (m := [("data", .bytes b), ("at", .int a)]) hd rfl rfl fun d n hd hn => ?_
  obtain ⟨h1, h2⟩ := bes_split h
  obtain ⟨h3, h4⟩ := bes_split h2
  have hlen := h.length (by rw [rowB_length]; (clear hn hd; omega))
  rw [rowB_length] at hlen
  have hs := hr.short
  refine new_of (by with_reducible assumption) (by exact len0) (by exact app_nil) ?_
  refine new_of (by with_reducible assumption) (by exact len_s len0) (by exact app_cons app_nil) ?_
  refine OctetsIn_init (dle rfl hd) (by exact lk_right (by with_reducible assumption) rfl) (by exact lk_right (by with_reducible assumption) rfl) (by (clear hs hlen hn hd; omega)) (by exact st_right (by with_reducible assumption) setL_0) ?_
  refine look_of (by exact lk_right (by with_reducible assumption) rfl) ?_
  refine look_of (by exact lk_right (by with_reducible assumption) rfl) ?_
  refine u16_s (dle rfl hd) rfl (by exact lk_right (by with_reducible assumption) rfl) (by exact lk_right (by with_reducible assumption) rfl) hr.lig h1 hf (by exact st_right (by with_reducible assumption) setL_0) ?_
  refine look_of (by exact lk_right (by with_reducible assumption) rfl) ?_
  refine look_of (by exact lk_right (by with_reducible assumption) rfl) ?_
  refine u16_s (a := a + 2) (dle rfl hd) rfl (by exact lk_right (by with_reducible assumption) rfl) (by exact lk_right (by with_reducible assumption) rfl) ⟨by (clear hlen hn hd hs; omega), by (clear hlen hn hd; omega)⟩ h3 hf (by exact st_right (by with_reducible assumption) setL_0) ?_
  skip
  refine sel_F (beq_eq_false_iff_ne.mpr (by (clear hlen hn hd hs; omega))) ?_
  refine look_of (by exact lk_right (by with_reducible assumption) rfl) ?_
  refine look_of (by exact lk_right (by with_reducible assumption) rfl) ?_
  refine rows_in_s (a := a + 2 + 2) (vs := r.1) (dle rfl hd) rfl (by (clear hs hlen hn hd; omega)) (by exact lk_right (by with_reducible assumption) rfl) (by exact lk_right (by with_reducible assumption) rfl) (by (clear hs hlen hn hd; omega)) hr.rest h4 (by (clear hs hn hd; omega)) hf (by exact st_right (by with_reducible assumption) setL_0) ?_
  refine and_of (by exact fits_of (by simp only [List.length_append, List.length_map, List.length_take, List.length_drop, List.length_cons, List.length_nil, List.length_range, List.length_set, List.length_replicate]; (clear hlen hn hd; omega))) ?_
  refine and_of (by exact fits_lit rfl) ?_
  exact fin_0 (below_row r) q
/-- the reading head as the loop finds it -/
structure HeadI (H : HH) (n i e : Nat) (b : Bs) (a : Nat) (G : HH) : Prop where
  len : LenG G n
  gi : Look G i (.inst 163 e)
  ge : Look G e (.ns ["data", "at"] [.bytes b, .int (a : Nat)])
  st : ∀ o, G.set e o = H.set e o
theorem HeadI.next {H : HH} {n i e : Nat} {b : Bs} {a : Nat} {G : HH} (h : HeadI H n i e b a G) (hne : e ≠ i) : HeadI H n i e b (a + 2) (G.set e (.ns ["data", "at"] [.bytes b, .int ((a : Nat) + 2)])) :=
  ⟨lenG_set h.len, lk_set_ne hne h.gi, lk_setL h.ge, fun o => by rw [List.set_set]; exact h.st o⟩
theorem read_ascending_s {b : Bs} {a i e : Nat} {z : Int} {ks : List Int} (hd : 5 ≤ d) (hz : z = a) (hi : Look H i (.inst 163 e)) (he : Look H e (.ns ["data", "at"] [.bytes b, .int z])) (hne : e ≠ i) (h : At b a (bes ((ks.length : Int) :: ks))) (ha : Asc ks) (hl : ks.length ≤ 60) (hu : ∀ o ∈ ks, U16 o) (hf : fits b.length)
    (st : SetTo H e (.ns ["data", "at"] [.bytes b, .int (a + 2 + 2 * ks.length : Nat)]) H') (q : Q (.lst (ks.map .int)) H') :
    (calls (TX P) d).call 332 [.obj i] H Q := by
  subst hz st
  refine call_w (ps := ["octets_in"]) (df := []) (m := [("octets_in", .obj i)]) hd rfl rfl fun d n hd hn => ?_
  obtain ⟨h1, h2⟩ := bes_split h
  refine and_of (by exact fits_lit rfl) ?_
  refine new_of (by with_reducible assumption) (by exact len0) (by exact app_nil) ?_
  refine look_of (by exact lk_left (by with_reducible assumption)) ?_
  refine look_of (by exact lk_left (by with_reducible assumption)) ?_
  refine u16_s (dle rfl hd) rfl (by exact lk_left (by with_reducible assumption)) (by exact lk_left (by with_reducible assumption)) ⟨by (clear hn hd hne hl; omega), by (clear hn hd hne; omega)⟩ h1 hf (by exact st_left (by with_reducible assumption)) ?_
  refine and_of (by exact smallI_of (by (clear hn hd hne; omega))) ?_
  refine src_range (by exact fits_of (by (clear hn hd hne; omega))) ?_
  refine for_inv (g := fun (j : Nat) => .int (j : Int)) (fun done (s : St) => get "octets_in" s.1 = some (.obj i) ∧ get "found" s.1 = some (.obj (n + 0)) ∧ ∃ G, s.2 = G ++ [.list ((ks.take done.length).map .int)] ∧ HeadI H n i e b (a + 2 + 2 * done.length) G) ?_ ?_ ?_
  · exact ⟨rfl, rfl, _, rfl, lenG_set hn, lk_set_ne hne hi, lk_setL he, fun o => by rw [List.set_set]⟩
  · rintro done x rest ⟨m, H'⟩ K hx ⟨m1, m2, G, hH, hG⟩ hK
    dsimp only at m1 m2 hH
    subst hH
    have gi := hG.gi
    have ge := hG.ge
    have hn := hG.len
    obtain ⟨rfl, hlt⟩ := range_turn hx
    have hk : ks[done.length]? = some ks[done.length] := List.getElem?_eq_getElem hlt
    have ft : ((ks.take (done ++ [done.length]).length).map AV.int) = (ks.take done.length).map .int ++ [.int ks[done.length]] := by
      rw [List.length_append, List.length_singleton, take_one hk, List.map_append]; rfl
    have hl2 : a + 2 + 2 * done.length + 2 = a + 2 + 2 * (done ++ [done.length]).length := by rw [List.length_append, List.length_singleton]; (clear hn hd hl hne; omega)
    have hN := hG.next hne
    rw [hl2] at hN
    refine get_of (by assumption) ?_
    refine look_of (by exact lk_left (by with_reducible assumption)) ?_
    refine look_of (by exact lk_left (by with_reducible assumption)) ?_
    refine get_of (by assumption) ?_
    refine look_of (by exact lk_left (by with_reducible assumption)) ?_
    refine look_of (by exact lk_left (by with_reducible assumption)) ?_
    refine u16_s (a := a + 2 + 2 * done.length) (dle rfl hd) rfl (by exact lk_left (by with_reducible assumption)) (by exact lk_left (by with_reducible assumption)) (hu _ (List.getElem_mem hlt)) (bes_at h2 hk) hf (by exact st_left (by with_reducible assumption)) ?_
    refine get_of (by assumption) ?_
    refine look_of (by exact lk_right (lenG_set (by with_reducible assumption)) rfl) ?_
    refine and_of (by exact fits_of (by simp only [List.length_append, List.length_map, List.length_take, List.length_drop, List.length_cons, List.length_nil, List.length_range, List.length_set, List.length_replicate]; (clear hn hd hne hl2; omega))) ?_
    by_cases h0 : done.length = 0
    · refine sel_F (by rw [h0]; rfl) ?_
      refine sel_F (by rfl) ?_
      refine get_of (by assumption) ?_
      refine look_of (by exact lk_right (lenG_set (by with_reducible assumption)) rfl) ?_
      refine look_of (by exact lk_right (lenG_set (by with_reducible assumption)) rfl) ?_
      refine and_of (by exact fits_of (by simp only [List.length_append, List.length_map, List.length_take, List.length_drop, List.length_cons, List.length_nil, List.length_range, List.length_set, List.length_replicate]; (clear hn hd hl hne hl2; omega))) ?_
      refine set_of (by exact st_right (lenG_set (by with_reducible assumption)) setL_0) ?_
      refine hK _ trivial ?_
      refine ⟨m1, m2, _, ?_, hN⟩
      rw [ft]
    · obtain ⟨r, w, e1, hw, hrl⟩ := asc_take ha h0 hlt
      rw [e1, List.map_append] at ft ⊢
      refine sel_T ne_snoc ?_
      refine get_of (by assumption) ?_
      refine look_of (by exact lk_right (lenG_set (by with_reducible assumption)) rfl) ?_
      refine and_of (by decide) ?_
      refine optP_i pick_lastE ?_
      refine sel_F (decide_eq_false (by (clear hrl h0 hl2 hn hd hl hne; omega))) ?_
      refine sel_F (by rfl) ?_
      refine get_of (by assumption) ?_
      refine look_of (by exact lk_right (lenG_set (by with_reducible assumption)) rfl) ?_
      refine look_of (by exact lk_right (lenG_set (by with_reducible assumption)) rfl) ?_
      refine and_of (by exact fits_of (by simp only [List.length_append, List.length_map, List.length_take, List.length_drop, List.length_cons, List.length_nil, List.length_range, List.length_set, List.length_replicate]; (clear hw h0 hl2 hn hd hne; omega))) ?_
      refine set_of (by exact st_right (lenG_set (by with_reducible assumption)) setL_0) ?_
      refine hK _ trivial ?_
      refine ⟨m1, m2, _, ?_, hN⟩
      rw [ft]
  · rintro ⟨m, H'⟩ ⟨m1, m2, G, hH, hG⟩
    dsimp only at m1 m2 hH
    rw [List.length_range, List.take_length] at hH
    subst hH
    have ge := hG.ge
    rw [List.length_range] at ge
    have e2 := hG.st (.ns ["data", "at"] [.bytes b, .int (a + 2 + 2 * ks.length : Nat)])
    rw [set_look ge] at e2
    subst e2
    have hn := hn
    subst hn
    refine get_of (by assumption) ?_
    refine ⟨.lst (ks.map .int), _, _, rfl, hG.len, kept_set rfl, fz_listB (Nat.le_add_right ..) (lk_right hG.len rfl) (belows_ints _), q⟩
end
end

-- Sp9
section
open PySem PySem.Calls PySem.W PyProof.Rows PySem.SeqAt
/-- what is read out of a table -/
theorem At.sub {D l p : Bs} {a k : Nat} (h : At D a l) (hk : k ≤ l.length) (hp : At l k p) : At D (a + k) p := by
  obtain ⟨r, h⟩ := h
  obtain ⟨x, hp⟩ := hp
  refine ⟨x ++ r, ?_⟩
  rw [← List.drop_drop, h, List.drop_append_of_le_length hk, hp, List.append_assoc]
theorem findK_nth {κ : Type} [DecidableEq κ] {k : κ} {v : AV} : ∀ {ks : List κ} {vs : List AV} {i : Nat}, ks.Nodup → ks[i]? = some k → vs[i]? = some v → findK k ks vs = some v
  | [], _, _, _, e, _ => by simp at e
  | _ :: _, [], _, _, _, e => by simp at e
  | x :: ks, w :: vs, 0, hn, e1, e2 => by
    simp only [List.getElem?_cons_zero, Option.some.injEq] at e1 e2
    subst e1 e2
    unfold findK; rw [if_pos rfl]
  | x :: ks, w :: vs, i + 1, hn, e1, e2 => by
    simp only [List.getElem?_cons_succ] at e1 e2
    rw [List.nodup_cons] at hn
    have : x ≠ k := fun h => hn.1 (h ▸ List.mem_of_getElem? e1)
    unfold findK; rw [if_neg this]
    exact findK_nth hn.2 e1 e2
/-- the places that a table's head tells -/
theorem table_read {b : Bs} {a : Nat} {ks : List Int} {R : Int → List Row} (h : At b a (tableB ks R)) (ok : TabOkk ks R) : ∃ (o : Nat) (os : List Int), At b a (be2 1) ∧ At b (a + 2) (be2 o) ∧ At b (a + 4) (bes ((os.length : Int) :: os)) ∧ os.length = ks.length ∧
    (0 < o ∧ o < 10000) ∧ At b (a + o) (covB ks) ∧ ∀ (i : Nat) (k : Int), ks[i]? = some k → ∃ q : Nat, os[i]? = some (q : Int) ∧ (0 < q ∧ q < 10000) ∧ At b (a + q) (setB (R k)) := by
  have hl := ok.few
  have hpf := parts_flat ok
  have hpl : (partsB ks R).length = 1 + ks.length := by unfold partsB; rw [List.length_cons, List.length_map]; (clear hpf hl; omega)
  have hbl := layB_length (6 + 2 * ks.length) (partsB ks R)
  have hol : (layO (6 + 2 * ks.length) (partsB ks R)).length = 1 + ks.length := by rw [layO_length, hpl]
  have hat := lay_at (6 + 2 * ks.length) (partsB ks R)
  have hT : tableB ks R = bes (1 :: (layO (6 + 2 * ks.length) (partsB ks R)).getD 0 0 :: (ks.length : Int) :: (layO (6 + 2 * ks.length) (partsB ks R)).drop 1) ++ layB (6 + 2 * ks.length) (partsB ks R) := rfl
  obtain ⟨o, os, ho⟩ : ∃ o os, layO (6 + 2 * ks.length) (partsB ks R) = o :: os := by
    cases h : layO (6 + 2 * ks.length) (partsB ks R) with
    | nil => rw [h] at hol; simp at hol; (clear hbl hpf hpl hl; omega)
    | cons o os => exact ⟨o, os, rfl⟩
  rw [ho] at hol hT hat
  rw [List.length_cons] at hol
  rw [hT] at h
  simp only [List.getD_cons_zero, List.drop_succ_cons, List.drop_zero] at h
  obtain ⟨h1, h2⟩ := bes_split h.left
  obtain ⟨h2, h3⟩ := bes_split h2
  have hb := h.right
  rw [bes_length] at hb
  simp only [List.length_cons] at hb
  obtain ⟨k, e, hk, hp⟩ := hat 0 (covB ks) rfl
  simp only [List.getElem?_cons_zero, Option.some.injEq] at e
  have hosl : os.length = ks.length := by (clear e hk hbl hpf hl hpl; omega)
  refine ⟨6 + 2 * ks.length + k, os, h1, ?_, ?_, hosl, ⟨by (clear hosl hl e hk hol hbl hpl hpf; omega), by (clear hosl e hol hpl; omega)⟩, ?_, fun i x hx => ?_⟩
  · rw [show ((6 + 2 * ks.length + k : Nat) : Int) = o by rw [e]; (clear hosl e hk hol hbl hpl hpf hl; omega)]; exact h2
  · rw [hosl]; exact h3
  · have := hb.sub hk hp
    rw [show a + 2 * (os.length + 1 + 1 + 1) + k = a + (6 + 2 * ks.length + k) by (clear hosl e hk hbl hpf hl hpl; omega)] at this
    exact this
  · obtain ⟨k, e, hk, hp⟩ := hat (i + 1) (setB (R x)) (by unfold partsB; rw [List.getElem?_cons_succ, List.getElem?_map, hx]; rfl)
    rw [List.getElem?_cons_succ] at e
    refine ⟨6 + 2 * ks.length + k, by rw [e]; congr 1, ⟨by (clear hosl hl hk hol hbl hpl hpf; omega), by (clear hosl hol hpl; omega)⟩, ?_⟩
    have := hb.sub hk hp
    rw [show a + 2 * (os.length + 1 + 1 + 1) + k = a + (6 + 2 * ks.length + k) by (clear hk hosl hbl hpf hl hpl; omega)] at this
    exact this
theorem set_read {b : Bs} {a : Nat} {rs : List Row} (h : At b a (setB rs)) (ok : RowsOk rs) : ∃ os : List Int, At b a (bes ((os.length : Int) :: os)) ∧ os.length = rs.length ∧ (∀ o ∈ os, U16 o ∧ o ≠ 0) ∧
    ∀ (i : Nat) (r : Row), rs[i]? = some r → ∃ q : Nat, os[i]? = some (q : Int) ∧ At b (a + q) (rowB r) := by
  have hl := ok.few
  have hs := setB_lay rs ok
  have hol : (layO (2 + 2 * rs.length) (rs.map rowB)).length = rs.length := by rw [layO_length, List.length_map]
  have hat := lay_at (2 + 2 * rs.length) (rs.map rowB)
  have hle := layO_le (2 + 2 * rs.length) (rs.map rowB) (by (clear hs hol hl; omega))
  unfold setB at h
  have hb := h.right
  rw [bes_length, List.length_cons, hol] at hb
  refine ⟨layO (2 + 2 * rs.length) (rs.map rowB), by rw [hol]; exact h.left, hol, fun o ho => ?_, fun i r hr => ?_⟩
  · have := hle o ho
    exact ⟨⟨by (clear hol hs hl; omega), by (clear hol; omega)⟩, by (clear hol hs hl; omega)⟩
  · obtain ⟨k, e, hk, hp⟩ := hat i (rowB r) (by rw [List.getElem?_map, hr]; rfl)
    refine ⟨2 + 2 * rs.length + k, by rw [e]; congr 1, ?_⟩
    have := hb.sub hk hp
    rw [show a + 2 * (rs.length + 1) + k = a + (2 + 2 * rs.length + k) by (clear hk hol hs hl; omega)] at this
    exact this
theorem map_nth {α β : Type} {l : List α} {f : α → β} {i : Nat} {x : α} (h : l[i]? = some x) : (l.map f)[i]? = some (f x) := by rw [List.getElem?_map, h]; rfl
theorem nth_mid {α : Type} {l done rest : List α} {x : α} (h : l = done ++ x :: rest) : l[done.length]? = some x := by rw [h, List.getElem?_append_right (Nat.le_refl _), Nat.sub_self]; rfl
theorem belows_sets {n : Nat} {R : Int → List Row} : ∀ ks : List Int, belows n (ks.map fun k => .lst ((R k).map rowA)) = true
  | [] => rfl
  | k :: ks => Bool.and_eq_true_iff.mpr ⟨belows_rows (R k), belows_sets ks⟩
section
variable {P : Params} {d : Nat} {H H' : HH} {Q : AV → HH → Prop}
theorem read_coverage_s {b : Bs} {a : Nat} {z : Int} {ks : List Int} (hd : 6 ≤ d) (hz : z = a) (h : At b a (covB ks)) (ha : Asc ks) (hl : ks.length ≤ 60) (hu : ∀ o ∈ ks, U16 o) (hf : fits b.length) (q : Q (.ins 307 ["glyphs"] [.tup (ks.map .int)]) H) :
    (calls (TX P) d).call 353 [.bytes b, .int z] H Q := by
  subst hz
  refine call_w (ps := ["data", "at"]) (df := []) (m := [("data", .bytes b), ("at", .int a)]) hd rfl rfl fun d n hd hn => ?_
  obtain ⟨h1, h2⟩ := bes_split h
  refine new_of (by with_reducible assumption) (by exact len0) (by exact app_nil) ?_
  refine new_of (by with_reducible assumption) (by exact len_s len0) (by exact app_cons app_nil) ?_
  refine OctetsIn_init (dle rfl hd) (by exact lk_right (by with_reducible assumption) rfl) (by exact lk_right (by with_reducible assumption) rfl) (by (clear hn hd hl; omega)) (by exact st_right (by with_reducible assumption) setL_0) ?_
  refine look_of (by exact lk_right (by with_reducible assumption) rfl) ?_
  refine look_of (by exact lk_right (by with_reducible assumption) rfl) ?_
  refine u16_s (dle rfl hd) rfl (by exact lk_right (by with_reducible assumption) rfl) (by exact lk_right (by with_reducible assumption) rfl) ⟨by (clear hn hd hl; omega), by (clear hn hd hl; omega)⟩ h1 hf (by exact st_right (by with_reducible assumption) setL_0) ?_
  refine sel_T rfl ?_
  skip
  refine read_ascending_s (a := a + 2) (dle rfl hd) rfl (by exact lk_right (by with_reducible assumption) rfl) (by exact lk_right (by with_reducible assumption) rfl) (by (clear hn hd hl; omega)) h2 ha hl hu hf (by exact st_right (by with_reducible assumption) setL_0) ?_
  refine and_of (by exact fits_of (by simp only [List.length_append, List.length_map, List.length_take, List.length_drop, List.length_cons, List.length_nil, List.length_range, List.length_set, List.length_replicate]; (clear hn hd; omega))) ?_
  refine new_of (by with_reducible assumption) (by exact len_s (len_s len0)) (by exact app_cons (app_cons app_nil)) ?_
  refine new_of (by with_reducible assumption) (by exact len_s (len_s (len_s len0))) (by exact app_cons (app_cons (app_cons app_nil))) ?_
  refine Coverage_init (dle rfl hd) (by exact lk_right (by with_reducible assumption) rfl) (by exact lk_right (by with_reducible assumption) rfl) (by exact st_right (by with_reducible assumption) (setL_s (setL_s setL_0))) ?_
  exact fin_z hn (fz_inst (by exact lk_right (by with_reducible assumption) rfl) (by exact lk_right (by with_reducible assumption) rfl) (Nat.le_add_right ..) (Nat.le_add_right ..) (allM_below _ (by show (belows _ (ks.map .int) && true) = true; rw [belows_ints]; rfl))) q
theorem by_glyph_s {ks vs : List Int} {t : Int} (hd : 1 ≤ d) (h : vs.length = ks.length) (h0 : ks ≠ []) (hn : ks.Nodup) (hl : ks.length ≤ 60) (q : Q (.dct ks (vs.map .int)) H) :
    (calls (TX P) d).call 369 [.ins 307 ["glyphs"] [.tup (ks.map .int)], .lst (vs.map .int), .int t] H Q := by
  refine call_w (ps := ["coverage", "rows", "at"]) (df := [.int (-1)]) (m := [("coverage", .ins 307 ["glyphs"] [.tup (ks.map .int)]), ("rows", .lst (vs.map .int)), ("at", .int t)]) hd rfl rfl fun d n hd hn' => ?_
  have hml : (vs.map AV.int).length = ks.length := by rw [List.length_map]; exact h
  have hml' : (ks.map AV.int).length = ks.length := List.length_map _
  refine and_of (by exact fits_of (by (clear hn' hd h0 hml' h; omega))) ?_
  refine and_of (by exact fits_of (by (clear hn' hd h0 hml h; omega))) ?_
  refine sel_F (bne_eq_false_iff_eq.mpr (by (clear hn' hd hl h0 h; omega))) ?_
  refine new_of (by with_reducible assumption) (by exact len0) (by exact app_nil) ?_
  refine and_of (by exact fits_of (by (clear hn' hd h0 hml' h; omega))) ?_
  refine and_of (by exact smallI_of (by (clear hn' hd h0 hml' h; omega))) ?_
  refine src_range (by exact fits_of (by (clear hn' hd h0 hml' h; omega))) ?_
  refine for_inv (g := fun (j : Nat) => .int (j : Int)) (fun done (s : St) => s.2 = H ++ [idd (ks.take done.length) ((vs.take done.length).map .int)] ∧ get "found" s.1 = some (.obj (n + 0)) ∧ get "coverage" s.1 = some (.ins 307 ["glyphs"] [.tup (ks.map .int)]) ∧ get "rows" s.1 = some (.lst (vs.map .int))) ?_ ?_ ?_
  · exact ⟨rfl, rfl, rfl, rfl⟩
  · rintro done x rest ⟨m, H'⟩ K hx ⟨hH, m1, m2, m3⟩ hK
    dsimp only at m1 m2 m3 hH
    subst hH
    rw [hml, ← h] at hx
    obtain ⟨rfl, hlt⟩ := range_turn hx
    have hlk : done.length < ks.length := by (clear hn' hd hl h0 hml' hml; omega)
    have hk : ks[done.length]? = some ks[done.length] := List.getElem?_eq_getElem hlk
    have hv : vs[done.length]? = some vs[done.length] := List.getElem?_eq_getElem hlt
    have hnx : ks[done.length] ∉ ks.take done.length := by
      intro hm
      obtain ⟨j, hj, e⟩ := List.getElem_of_mem hm
      rw [List.length_take] at hj
      rw [List.getElem_take] at e
      have := (List.getElem_inj (h₀ := by (clear e hn' hd hl h0 hml' hml h; omega)) (h₁ := hlk) hn).mp e
      (clear e hn' hd hl h0 hml' hml h; omega)
    refine get_of (by assumption) ?_
    refine and_of (by exact smallI_of (by (clear hnx hn' hd h0 hml' hml h; omega))) ?_
    refine optP_i (pick_natE.trans (by rw [List.getElem?_map, hv]; rfl)) ?_
    refine get_of (by assumption) ?_
    refine get_of (by assumption) ?_
    refine and_of (by exact ⟨(by (clear hnx hml' hml hn' hd hl h0 h; omega)), (smallI_of (by (clear hnx hn' hd h0 hml' hml h; omega)))⟩) ?_
    refine optP_i (x := .int ks[done.length]) (by rw [Int.toNat_natCast, List.getElem?_map, hk]; rfl) ?_
    refine se_idd (by exact lk_right (by with_reducible assumption) rfl) hnx (by rw [List.length_map, List.length_take, List.length_take]; (clear hnx hn' hd hl h0 hml' hml h; omega)) (by rw [List.length_take]; (clear hnx hn' hd h0 hml' hml h; omega)) (by exact st_right (by with_reducible assumption) setL_0) ?_
    refine hK _ trivial ?_
    refine ⟨?_, m1, m2, m3⟩
    show _ = H ++ [idd (ks.take (done ++ [done.length]).length) ((vs.take (done ++ [done.length]).length).map .int)]
    rw [List.length_append, List.length_singleton, take_one hk, take_one hv, List.map_append]; rfl
  · rintro ⟨m, H'⟩ ⟨hH, m1, m2, m3⟩
    dsimp only at m1 hH
    rw [List.length_range, hml, List.take_length, ← h, List.take_length, idd_ne h0] at hH
    subst hH
    refine get_of (by assumption) ?_
    exact fin_z hn' (fz_idict (Nat.le_add_right ..) (by exact lk_right (by with_reducible assumption) rfl) (belows_ints _)) q
end
end

-- Sp10
section
open PySem PySem.Calls PySem.W PyProof.Rows PySem.SeqAt
theorem read_ligature_s {P : Params} {d : Nat} {H : HH} {Q : AV → HH → Prop} {b : Bs} {a : Nat} {z : Int} {ks : List Int} {R : Int → List Row} (hd : 7 ≤ d) (hz : z = a) (h : At b a (tableB ks R)) (ok : TabOkk ks R) (hf : b.length ≤ 10000) (q : Q (.ins 403 ["sets"] [.dct ks (ks.map fun k => .lst ((R k).map rowA))]) H) :
    (calls (TX P) d).call 431 [.bytes b, .int z] H Q := by
  subst hz
  refine call_w (ps := ["data", "at"]) (df := []) (m := [("data", .bytes b), ("at", .int a)]) hd rfl rfl fun d n hd hn => ?_
  obtain ⟨o, os, h1, h2, h3, hol, ho, h4, hat⟩ := table_read h ok
  have hl := ok.few
  have hfb : fits b.length := fits_of (by (clear hl ho hol hn hd; omega))
  have hlen := h1.length (by rw [be2_length]; (clear hl ho hol hn hd hf; omega))
  have hos : ∀ x ∈ os, U16 x ∧ x ≠ 0 := fun x hx => by
    obtain ⟨i, hi⟩ := List.getElem?_of_mem hx
    have hil := (List.getElem?_eq_some_iff.mp hi).1
    obtain ⟨q, e, hq, _⟩ := hat i _ (List.getElem?_eq_getElem (by (clear hlen hl ho hn hd hf; omega)))
    rw [hi] at e
    cases e
    exact ⟨⟨by (clear hlen hl ho hn hd hf hq; omega), by (clear hlen hl ho hn hd hf; omega)⟩, by (clear hlen hl ho hn hd hf; omega)⟩
  refine new_of (by with_reducible assumption) (by exact len0) (by exact app_nil) ?_
  refine new_of (by with_reducible assumption) (by exact len_s len0) (by exact app_cons app_nil) ?_
  refine OctetsIn_init (dle rfl hd) (by exact lk_right (by with_reducible assumption) rfl) (by exact lk_right (by with_reducible assumption) rfl) (by (clear hlen hl ho hol hn hd hf; omega)) (by exact st_right (by with_reducible assumption) setL_0) ?_
  refine look_of (by exact lk_right (by with_reducible assumption) rfl) ?_
  refine look_of (by exact lk_right (by with_reducible assumption) rfl) ?_
  refine u16_s (dle rfl hd) rfl (by exact lk_right (by with_reducible assumption) rfl) (by exact lk_right (by with_reducible assumption) rfl) (by decide) h1 hfb (by exact st_right (by with_reducible assumption) setL_0) ?_
  refine sel_F rfl ?_
  refine look_of (by exact lk_right (by with_reducible assumption) rfl) ?_
  refine look_of (by exact lk_right (by with_reducible assumption) rfl) ?_
  refine u16_s (a := a + 2) (dle rfl hd) rfl (by exact lk_right (by with_reducible assumption) rfl) (by exact lk_right (by with_reducible assumption) rfl) ⟨by (clear hlen hl hol hn hd hf ho; omega), by (clear hlen hl hol hn hd hf; omega)⟩ h2 hfb (by exact st_right (by with_reducible assumption) setL_0) ?_
  refine places_in_s (t := a + 4) (dle rfl hd) rfl rfl h3 (by (clear hlen ho hn hd hf; omega)) hos hfb ?_
  refine place_of_s (dle rfl hd) (by (clear hlen hl hol hn hd hf; omega)) ?_
  refine read_coverage_s (a := a + o) (dle rfl hd) (by (clear hlen hl ho hol hn hd hf; omega)) h4 ok.asc (by (clear hlen ho hn hd hf hol; omega)) ok.u16 hfb ?_
  refine by_glyph_s (dle rfl hd) (by rw [List.length_map]; exact hol) ok.some_ ok.asc.nodup (by (clear hlen ho hn hd hf hol; omega)) ?_
  refine new_of (by with_reducible assumption) (by exact len_s (len_s len0)) (by exact app_cons (app_cons app_nil)) ?_
  refine and_of (by exact fits_of (by (clear hlen ho hn hd hf hol; omega))) ?_
  refine for_inv (g := .int) (fun done (s : St) => s.2 = H ++ [.ns ["data", "at"] [.bytes b, .int (((a + 2 : Nat) : Int) + 2)], .inst 163 (n + 0), idd done (done.map fun k => .lst ((R k).map rowA))] ∧ get "sets" s.1 = some (.obj (n + 2)) ∧ get "data" s.1 = some (.bytes b) ∧
    get "homes" s.1 = some (.dct ks ((os.map fun o => (a : Int) + o).map .int))) ?_ ?_ ?_
  · exact ⟨rfl, rfl, rfl, rfl⟩
  · rintro done x rest ⟨m, H'⟩ K hx ⟨hH, m1, m2, m3⟩ hK
    dsimp only at m1 m2 m3 hH
    subst hH
    have hlen' := congrArg List.length hx
    rw [List.length_append, List.length_cons] at hlen'
    have hnx : x ∉ done := by
      have := ok.asc.nodup
      rw [hx, List.nodup_append] at this
      exact fun h => this.2.2 x h x (by simp) rfl
    have hxi : ks[done.length]? = some x := nth_mid hx
    have hxm : x ∈ ks := List.mem_of_getElem? hxi
    have hrs := ok.rows x hxm
    have hrl := hrs.few
    obtain ⟨p, eq, hq, hset⟩ := hat _ _ hxi
    obtain ⟨fs, g1, gl, g2, g3⟩ := set_read hset hrs
    have hfk : findK x ks ((os.map fun o => (a : Int) + o).map .int) = some (.int ((a + p : Nat) : Int)) := by
      refine findK_nth ok.asc.nodup hxi ?_
      rw [map_nth (map_nth eq)]
      congr 2
    refine get_of (by assumption) ?_
    refine get_of (by assumption) ?_
    refine optP_i hfk ?_
    refine get_of (by assumption) ?_
    refine optP_i hfk ?_
    refine places_in_s (dle rfl hd) rfl rfl g1 (by (clear hq hnx hlen' hlen hl ho hol hn hd hf; omega)) g2 hfb ?_
    have hml : ((fs.map fun o => ((a + p : Nat) : Int) + o).map AV.int).length = fs.length := by rw [List.length_map, List.length_map]
    refine and_of (by exact fits_of (by (clear hq hnx hlen' hlen hl ho hol hn hd hf; omega))) ?_
    refine for_inv (g := .int) (fun done' (s : Sc) => s.2.1 = H ++ [.ns ["data", "at"] [.bytes b, .int (((a + 2 : Nat) : Int) + 2)], .inst 163 (n + 0), idd done (done.map fun k => .lst ((R k).map rowA))] ∧ s.2.2 = ((R x).take done'.length).map rowA ∧ get "data" s.1 = some (.bytes b)) ?_ ?_ ?_
    · exact ⟨rfl, rfl, get_capt m2 rfl⟩
    · rintro done' y rest' ⟨m', H', l⟩ K' hx' ⟨hH, h3, m1'⟩ hK'
      dsimp only at hH h3 m1'
      subst hH h3
      have hy := nth_mid hx'
      have hyl := (List.getElem?_eq_some_iff.mp hy).1
      rw [List.length_map] at hyl
      have hri : (R x)[done'.length]? = some (R x)[done'.length] := List.getElem?_eq_getElem (by (clear hq hrl hnx hlen' hlen hl ho hol hn hd hf hml; omega))
      obtain ⟨q2, e2, hrow⟩ := g3 _ _ hri
      rw [List.getElem?_map, e2] at hy
      have hy : y = ((a + p + q2 : Nat) : Int) := by
        have : ((a + p : Nat) : Int) + (q2 : Int) = y := Option.some.inj hy
        (clear hq hrl hnx hlen' hlen hl ho hol hn hd hf; omega)
      refine and_of (by exact fits_of (by simp only [List.length_append, List.length_map, List.length_take, List.length_drop, List.length_cons, List.length_nil, List.length_range, List.length_set, List.length_replicate]; (clear hy hq hnx hlen' hlen hl ho hol hn hd hf; omega))) ?_
      refine get_of (by assumption) ?_
      refine read_row_s (dle rfl hd) hy hrow (hrs.ok _ (List.getElem_mem _)) hfb ?_
      refine hK' _ trivial ?_
      refine ⟨rfl, ?_, m1'⟩
      show _ = ((R x).take (done' ++ [y]).length).map rowA
      rw [List.length_append, List.length_singleton, take_one hri, List.map_append]; rfl
    · rintro ⟨m', H', l⟩ ⟨hH, h3, m1'⟩
      dsimp only at hH h3 m1'
      rw [List.length_map, gl, List.take_length] at h3
      subst hH h3
      refine get_of (by assumption) ?_
      refine se_idd (by exact lk_right (by with_reducible assumption) rfl) hnx (List.length_map _) (by (clear hml gl hq hrl hnx hlen ho hn hd hf hol; omega)) (by exact st_right (by with_reducible assumption) (setL_s (setL_s setL_0))) ?_
      refine hK _ trivial ?_
      refine ⟨?_, m1, m2, m3⟩
      show _ = H ++ [_, _, idd (done ++ [x]) ((done ++ [x]).map fun k => .lst ((R k).map rowA))]
      rw [List.map_append]; rfl
  · rintro ⟨m, H'⟩ ⟨hH, m1, m2, m3⟩
    dsimp only at m1 hH
    rw [idd_ne ok.some_] at hH
    subst hH
    refine get_of (by assumption) ?_
    refine new_of (by with_reducible assumption) (by exact len_s (len_s (len_s len0))) (by exact app_cons (app_cons (app_cons app_nil))) ?_
    refine new_of (by with_reducible assumption) (by exact len_s (len_s (len_s (len_s len0)))) (by exact app_cons (app_cons (app_cons (app_cons app_nil)))) ?_
    refine Ligature_init (dle rfl hd) (by exact lk_right (by with_reducible assumption) rfl) (by exact lk_right (by with_reducible assumption) rfl) (by exact st_right (by with_reducible assumption) (setL_s (setL_s (setL_s setL_0)))) ?_
    exact fin_z hn (fz_inst (by exact lk_right (by with_reducible assumption) rfl) (by exact lk_right (by with_reducible assumption) rfl) (Nat.le_add_right ..) (Nat.le_add_right ..) (allM_cons (fz_idict (Nat.le_add_right ..) (by exact lk_right (by with_reducible assumption) rfl) (belows_sets ks)) allM_nil)) q
end

-- Sp11
section
open PySem PySem.Calls PySem.W PyProof.Rows PySem.SeqAt
theorem eq_nil {H : HH} {l : List AV} {Q : Bool → Prop} (q : Q l.isEmpty) : cmpP H .Eq (.lst l) (.lst []) Q := by
  cases l with
  | nil => exact q
  | cons x l => exact q
theorem ne_nilT {H : HH} {l : List AV} {Q : Bool → Prop} (q : Q !l.isEmpty) : cmpP H .NotEq (.tup l) (.tup []) Q := by
  cases l with
  | nil => exact q
  | cons x l => exact q
theorem ifP_T {c : Bool} {A B : Prop} (h : c = true) (q : A) : ifP c A B := by subst h; exact q
theorem eq_ints {H : HH} {x y : List Int} {Q : Bool → Prop} (q : Q (decide (x = y))) : cmpP H .Eq (.tup (x.map .int)) (.tup (y.map .int)) Q := by
  show ifP (true && oksB (x.map .int) 8 (y.map .int)) (Q (eqsB (x.map .int) (y.map .int))) False
  rw [oksB_ints, eqsB_ints]
  exact q
section
variable {P : Params} {d : Nat} {H H' : HH} {Q : AV → HH → Prop}
theorem begins_s {x y : List Int} (hd : 1 ≤ d) (hx : x.length ≤ 1000) (hy : y.length ≤ 1000) (q : Q (.bool (begins x y)) H) : (calls (TX P) d).call 376 [.tup (x.map .int), .tup (y.map .int)] H Q := by
  refine call_w (ps := ["glyphs", "lead"]) (df := []) (m := [("glyphs", .tup (x.map .int)), ("lead", .tup (y.map .int))]) hd rfl rfl fun d n hd hn => ?_
  generalize hm : ([("glyphs", .tup (x.map .int)), ("lead", .tup (y.map .int))] : Loc) = m
  have m1 : get "glyphs" m = some (.tup (x.map .int)) := by subst hm; rfl
  have m2 : get "lead" m = some (.tup (y.map .int)) := by subst hm; rfl
  refine get_of (by assumption) ?_
  refine get_of (by assumption) ?_
  refine and_of (by exact fits_of (by simp only [List.length_append, List.length_map, List.length_take, List.length_drop, List.length_cons, List.length_nil, List.length_range, List.length_set, List.length_replicate]; (clear hn hd hx; omega))) ?_
  refine and_of (by exact smallI_of (by simp only [List.length_map, List.length_append, List.length_cons, List.length_nil]; (clear hn hd hx; omega))) ?_
  refine and_of (by exact ⟨(fits_of (by simp only [List.length_append, List.length_map, List.length_take, List.length_drop, List.length_cons, List.length_nil, List.length_range, List.length_set, List.length_replicate]; (clear hn hd hy; omega))), (by decide)⟩) ?_
  refine and_of (by (clear hn hd hy hx; omega)) ?_
  refine get_of (by assumption) ?_
  rw [List.length_map, Int.toNat_natCast, ← List.map_take]
  refine eq_ints ?_
  exact fin_0 rfl q
theorem live_rows_s {rs : List Row} (hd : 2 ≤ d) (hr : rs.length ≤ 1000) (hs : ∀ r ∈ rs, r.1.length ≤ 1000) (q : Q (.lst ((liveF rs).map rowA)) H) : (calls (TX P) d).call 381 [.lst (rs.map rowA)] H Q := by
  refine call_w (ps := ["rows"]) (df := []) (m := [("rows", .lst (rs.map rowA))]) hd rfl rfl fun d n hd hn => ?_
  refine and_of (by exact fits_lit rfl) ?_
  refine new_of (by with_reducible assumption) (by exact len0) (by exact app_nil) ?_
  refine and_of (by exact fits_of (by simp only [List.length_append, List.length_map, List.length_take, List.length_drop, List.length_cons, List.length_nil, List.length_range, List.length_set, List.length_replicate]; (clear hn hd; omega))) ?_
  refine for_inv (g := rowA) (fun done (s : St) => s.2 = H ++ [.list ((liveF done).map rowA)] ∧ get "found" s.1 = some (.obj (n + 0)) ∧ ∀ r ∈ liveF done, r ∈ done) ?_ ?_ ?_
  · exact ⟨rfl, rfl, fun r h => nomatch h⟩
  · rintro done x rest ⟨m, H'⟩ K hx ⟨hH, m1, hmem⟩ hK
    dsimp only at hH m1
    subst hH
    have hlen := congrArg List.length hx
    rw [List.length_append, List.length_cons] at hlen
    have hll := liveF_length done
    have hx1 := hs x (by rw [hx]; simp)
    have hml : ((liveF done).map rowA).length = (liveF done).length := List.length_map _
    refine get_of (by assumption) ?_
    refine look_of (by exact lk_right (by with_reducible assumption) rfl) ?_
    refine and_of (by exact fits_of (by (clear hx1 hn hd; omega))) ?_
    refine for_inv (g := rowA) (fun done' (s : Sc) => s.2.1 = H ++ [.list ((liveF done).map rowA)] ∧ get "rest" s.1 = some (.tup (x.1.map .int)) ∧ s.2.2 = (done'.filter fun q => begins x.1 q.1).map fun q => .tup (q.1.map .int)) ?_ ?_ ?_
    · exact ⟨rfl, rfl, rfl⟩
    · rintro done' y rest' ⟨m', H', l⟩ K' hx' ⟨hH, m1', h3⟩ hK'
      dsimp only at hH m1' h3
      subst hH h3
      have hyl := congrArg List.length hx'
      rw [List.length_append, List.length_cons] at hyl
      have hy : y ∈ liveF done := by rw [hx']; simp
      have hy1 := hs y (by rw [hx]; exact List.mem_append_left _ (hmem y hy))
      have hfl : (done'.filter fun q => begins x.1 q.1).length ≤ done'.length := List.length_filter_le ..
      refine get_of (by assumption) ?_
      refine begins_s (y := y.1) (dle rfl hd) hx1 hy1 ?_
      refine sel_C (fun hb => ?_) (fun hb => ?_)
      · refine and_of (by exact fits_of (by simp only [List.length_append, List.length_map, List.length_take, List.length_drop, List.length_cons, List.length_nil, List.length_range, List.length_set, List.length_replicate]; (clear hy1 hx1 hn hd hml; omega))) ?_
        refine hK' _ (still_of (by exact lk_right (by with_reducible assumption) rfl) (by exact lk_right (by with_reducible assumption) rfl)) ?_
        refine ⟨rfl, m1', ?_⟩
        show _ = ((done' ++ [y]).filter fun q => begins x.1 q.1).map _
        rw [List.filter_append, List.map_append, List.filter_cons_of_pos (p := fun q : Row => begins x.1 q.1) hb]; rfl
      · skip
        refine hK' _ (still_of (by exact lk_right (by with_reducible assumption) rfl) (by exact lk_right (by with_reducible assumption) rfl)) ?_
        refine ⟨rfl, m1', ?_⟩
        show _ = ((done' ++ [y]).filter fun q => begins x.1 q.1).map _
        rw [List.filter_append, List.map_append, List.filter_cons_of_neg (p := fun q : Row => begins x.1 q.1) (by rw [hb]; decide)]
        exact (List.append_nil _).symm
    · rintro ⟨m', H', l⟩ ⟨hH, m1', h3⟩
      dsimp only at hH m1' h3
      subst hH h3
      refine and_of (by exact fits_lit rfl) ?_
      refine eq_nil ?_
      refine sel_C (fun hb => ?_) (fun hb => ?_)
      · rw [List.isEmpty_map, List.isEmpty_iff] at hb
        refine get_of (by assumption) ?_
        refine look_of (by exact lk_right (by with_reducible assumption) rfl) ?_
        refine and_of (by exact fits_lit rfl) ?_
        refine look_of (by exact lk_right (by with_reducible assumption) rfl) ?_
        refine and_of (by exact fits_of (by (clear hx1 hn hd; omega))) ?_
        refine set_of (by exact st_right (by with_reducible assumption) setL_0) ?_
        have hb2 : (liveF done).any (fun q => begins x.1 q.1) = false := List.any_eq_false.mpr (List.filter_eq_nil_iff.mp hb)
        have e2 : liveF (done ++ [x]) = liveF done ++ [x] := by rw [liveF_snoc]; unfold liveS; rw [hb2]; rfl
        refine hK _ trivial ?_
        refine ⟨?_, m1, ?_⟩
        · rw [e2, List.map_append]; rfl
        · intro r hr'
          rw [e2] at hr'
          rw [List.mem_append] at hr' ⊢
          exact hr'.imp (hmem r) id
      · rw [List.isEmpty_map] at hb
        skip
        have hb2 : (liveF done).any (fun q => begins x.1 q.1) = true := by
          cases h : (liveF done).any (fun q => begins x.1 q.1) with
          | true => rfl
          | false =>
            rw [List.filter_eq_nil_iff.mpr (List.any_eq_false.mp h)] at hb
            exact nomatch hb
        have e2 : liveF (done ++ [x]) = liveF done := by rw [liveF_snoc]; unfold liveS; rw [hb2]; rfl
        refine hK _ trivial ?_
        refine ⟨?_, m1, ?_⟩
        · rw [e2]
        · intro r hr'
          rw [e2] at hr'
          exact List.mem_append_left _ (hmem r hr')
  · rintro ⟨m, H'⟩ ⟨hH, m1, hmem⟩
    dsimp only at hH m1
    subst hH
    refine get_of (by assumption) ?_
    exact fin_z hn (fz_listB (Nat.le_add_right ..) (by exact lk_right (by with_reducible assumption) rfl) (belows_rows _)) q
end
end

-- Sp12
section
open PySem PySem.Calls PySem.W PyProof.Rows PySem.SeqAt
section
variable {P : Params} {d : Nat} {H H' : HH} {Q : AV → HH → Prop}
theorem told_o {i e j : Nat} {ks0 : List Int} {vs : List AV} {R : Int → List Row} (hd : 3 ≤ d) (S : SetsO H i e j ks0 vs R) (hl : ks0.length ≤ 60) (hr : ∀ k ∈ ks0, (R k).length ≤ 60 ∧ ∀ r ∈ R k, r.1.length ≤ 1000) (q : Q (.tup ((toldF (sortI ks0) R).map tA)) H) :
    (calls (TX P) d).call 400 [.obj i] H Q := by
  obtain ⟨li, le, lj, it⟩ := S
  refine call_w (ps := ["self"]) (df := []) (m := [("self", .obj i)]) hd rfl rfl fun d n hd hn => ?_
  have hp := sortI_perm' ks0
  have hl0 := hp.length_eq
  refine look_of (by exact lk_left (by with_reducible assumption)) ?_
  refine look_of (by exact lk_left (by with_reducible assumption)) ?_
  refine look_of (by exact lk_left (by with_reducible assumption)) ?_
  refine and_of (by (clear hn hd hl0; omega)) ?_
  refine and_of (by exact fits_of (by simp only [List.length_append, List.length_map, List.length_take, List.length_drop, List.length_cons, List.length_nil, List.length_range, List.length_set, List.length_replicate]; (clear hn hd; omega))) ?_
  refine for_inv (g := .int) (fun done (s : Sc) => s.2.1 = H ++ [] ∧ s.2.2 = (done.map fun k => (k, sortedR (liveF (R k)))).map tA ∧ get "self" s.1 = some (.obj i)) ?_ ?_ ?_
  · exact ⟨rfl, rfl, rfl⟩
  · rintro done x rest ⟨m, H', l⟩ K hx ⟨hH, h2, m1⟩ hK
    dsimp only at hH h2 m1
    subst hH h2
    have hlen := congrArg List.length hx
    rw [List.length_append, List.length_cons] at hlen
    have hxk : x ∈ ks0 := hp.mem_iff.mp (by rw [hx]; simp)
    obtain ⟨r1, r2⟩ := hr x hxk
    have hll := liveF_length (R x)
    have hsl := (sortedR_perm (liveF (R x))).length_eq
    refine and_of (by exact fits_of (by simp only [List.length_append, List.length_map, List.length_take, List.length_drop, List.length_cons, List.length_nil, List.length_range, List.length_set, List.length_replicate]; (clear hsl hll r1 hn hd; omega))) ?_
    refine get_of (by assumption) ?_
    refine look_of (by exact lk_left (by with_reducible assumption)) ?_
    refine look_of (by exact lk_left (by with_reducible assumption)) ?_
    refine look_of (by exact lk_left (by with_reducible assumption)) ?_
    refine optP_i (x := x) rfl (optP_i (it x hxk) ?_)
    refine live_rows_s (dle rfl hd) (by (clear hsl hll hlen hl0 hn hd hl; omega)) r2 ?_
    refine and_of (by rw [List.length_map]; (clear hlen hl0 hn hd hl hsl; omega)) ?_
    refine sort_rows ?_
    refine and_of (by exact fits_of (by simp only [List.length_append, List.length_map, List.length_take, List.length_drop, List.length_cons, List.length_nil, List.length_range, List.length_set, List.length_replicate]; (clear hlen hl0 hn hd hl; omega))) ?_
    refine and_of (by exact fits_lit rfl) ?_
    refine hK _ trivial ?_
    refine ⟨rfl, ?_, m1⟩
    show _ = ((done ++ [x]).map fun k => (k, sortedR (liveF (R k)))).map tA
    rw [List.map_append, List.map_append]; rfl
  · rintro ⟨m, H', l⟩ ⟨hH, h2, m1⟩
    dsimp only at hH h2 m1
    subst hH h2
    have hml : (((sortI ks0).map fun k => (k, sortedR (liveF (R k)))).map tA).length = ks0.length := by rw [List.length_map, List.length_map]; exact hl0
    refine and_of (fits_of (by rw [hml]; (clear hn hd hml hl0; omega))) ?_
    refine for_inv (g := tA) (fun done (s : Sc) => s.2.1 = H ++ [] ∧ s.2.2 = (done.filter fun x => !x.2.isEmpty).map tA) ?_ ?_ ?_
    · exact ⟨rfl, rfl⟩
    · rintro done x rest ⟨m', H', l⟩ K hx ⟨hH, h2⟩ hK
      dsimp only at hH h2
      subst hH h2
      have hlen := congrArg List.length hx
      rw [List.length_append, List.length_cons, List.length_map] at hlen
      have hfl : (done.filter fun x => !x.2.isEmpty).length ≤ done.length := List.length_filter_le ..
      refine and_of (by decide) ?_
      refine and_of (by exact fits_lit rfl) ?_
      refine ne_nilT ?_
      refine sel_C (fun hb => ?_) (fun hb => ?_)
      · rw [List.isEmpty_map] at hb
        refine and_of (by exact fits_of (by simp only [List.length_append, List.length_map, List.length_take, List.length_drop, List.length_cons, List.length_nil, List.length_range, List.length_set, List.length_replicate]; (clear hn hd hml; omega))) ?_
        refine hK _ trivial ?_
        refine ⟨rfl, ?_⟩
        show _ = ((done ++ [x]).filter fun x => !x.2.isEmpty).map tA
        rw [List.filter_append, List.map_append, List.filter_cons_of_pos (p := fun x : Int × List Row => !x.2.isEmpty) hb]; rfl
      · rw [List.isEmpty_map] at hb
        refine hK _ trivial ?_
        refine ⟨rfl, ?_⟩
        show _ = ((done ++ [x]).filter fun x => !x.2.isEmpty).map tA
        rw [List.filter_append, List.map_append, List.filter_cons_of_neg (p := fun x : Int × List Row => !x.2.isEmpty) (by rw [hb]; decide)]
        exact (List.append_nil _).symm
    · rintro ⟨m', H', l⟩ ⟨hH, h2⟩
      dsimp only at hH h2
      subst hH h2
      have hfl : (((sortI ks0).map fun k => (k, sortedR (liveF (R k)))).filter fun x => !x.2.isEmpty).length ≤ ks0.length := by
        have := List.length_filter_le (fun x : Int × List Row => !x.2.isEmpty) ((sortI ks0).map fun k => (k, sortedR (liveF (R k))))
        rw [List.length_map, hl0] at this
        exact this
      refine and_of (by exact fits_of (by simp only [List.length_append, List.length_map, List.length_take, List.length_drop, List.length_cons, List.length_nil, List.length_range, List.length_set, List.length_replicate]; (clear hn hd hml hl0; omega))) ?_
      exact fin_0 (belows_tA _) q
theorem told_i {ks0 : List Int} {vs : List AV} {R : Int → List Row} (hd : 3 ≤ d) (it : ∀ k ∈ ks0, findK k ks0 vs = some (.lst ((R k).map rowA))) (hl : ks0.length ≤ 60) (hr : ∀ k ∈ ks0, (R k).length ≤ 60 ∧ ∀ r ∈ R k, r.1.length ≤ 1000) (q : Q (.tup ((toldF (sortI ks0) R).map tA)) H) :
    (calls (TX P) d).call 400 [.ins 403 ["sets"] [.dct ks0 vs]] H Q := by
  refine call_w (ps := ["self"]) (df := []) (m := [("self", .ins 403 ["sets"] [.dct ks0 vs])]) hd rfl rfl fun d n hd hn => ?_
  have hp := sortI_perm' ks0
  have hl0 := hp.length_eq
  refine and_of (by (clear hn hd hl0; omega)) ?_
  refine and_of (by exact fits_of (by simp only [List.length_append, List.length_map, List.length_take, List.length_drop, List.length_cons, List.length_nil, List.length_range, List.length_set, List.length_replicate]; (clear hn hd; omega))) ?_
  refine for_inv (g := .int) (fun done (s : Sc) => s.2.1 = H ++ [] ∧ s.2.2 = (done.map fun k => (k, sortedR (liveF (R k)))).map tA ∧ get "self" s.1 = some (.ins 403 ["sets"] [.dct ks0 vs])) ?_ ?_ ?_
  · exact ⟨rfl, rfl, rfl⟩
  · rintro done x rest ⟨m, H', l⟩ K hx ⟨hH, h2, m1⟩ hK
    dsimp only at hH h2 m1
    subst hH h2
    have hlen := congrArg List.length hx
    rw [List.length_append, List.length_cons] at hlen
    have hxk : x ∈ ks0 := hp.mem_iff.mp (by rw [hx]; simp)
    obtain ⟨r1, r2⟩ := hr x hxk
    have hll := liveF_length (R x)
    have hsl := (sortedR_perm (liveF (R x))).length_eq
    refine and_of (by exact fits_of (by simp only [List.length_append, List.length_map, List.length_take, List.length_drop, List.length_cons, List.length_nil, List.length_range, List.length_set, List.length_replicate]; (clear hsl hll r1 hn hd; omega))) ?_
    refine get_of (by assumption) ?_
    refine optP_i (it x hxk) ?_
    refine live_rows_s (dle rfl hd) (by (clear hsl hll hlen hl0 hn hd hl; omega)) r2 ?_
    refine and_of (by rw [List.length_map]; (clear hlen hl0 hn hd hl hsl; omega)) ?_
    refine sort_rows ?_
    refine and_of (by exact fits_of (by simp only [List.length_append, List.length_map, List.length_take, List.length_drop, List.length_cons, List.length_nil, List.length_range, List.length_set, List.length_replicate]; (clear hlen hl0 hn hd hl; omega))) ?_
    refine and_of (by exact fits_lit rfl) ?_
    refine hK _ trivial ?_
    refine ⟨rfl, ?_, m1⟩
    show _ = ((done ++ [x]).map fun k => (k, sortedR (liveF (R k)))).map tA
    rw [List.map_append, List.map_append]; rfl
  · rintro ⟨m, H', l⟩ ⟨hH, h2, m1⟩
    dsimp only at hH h2 m1
    subst hH h2
    have hml : (((sortI ks0).map fun k => (k, sortedR (liveF (R k)))).map tA).length = ks0.length := by rw [List.length_map, List.length_map]; exact hl0
    refine and_of (fits_of (by rw [hml]; (clear hn hd hml hl0; omega))) ?_
    refine for_inv (g := tA) (fun done (s : Sc) => s.2.1 = H ++ [] ∧ s.2.2 = (done.filter fun x => !x.2.isEmpty).map tA) ?_ ?_ ?_
    · exact ⟨rfl, rfl⟩
    · rintro done x rest ⟨m', H', l⟩ K hx ⟨hH, h2⟩ hK
      dsimp only at hH h2
      subst hH h2
      have hlen := congrArg List.length hx
      rw [List.length_append, List.length_cons, List.length_map] at hlen
      have hfl : (done.filter fun x => !x.2.isEmpty).length ≤ done.length := List.length_filter_le ..
      refine and_of (by decide) ?_
      refine and_of (by exact fits_lit rfl) ?_
      refine ne_nilT ?_
      refine sel_C (fun hb => ?_) (fun hb => ?_)
      · rw [List.isEmpty_map] at hb
        refine and_of (by exact fits_of (by simp only [List.length_append, List.length_map, List.length_take, List.length_drop, List.length_cons, List.length_nil, List.length_range, List.length_set, List.length_replicate]; (clear hn hd hml; omega))) ?_
        refine hK _ trivial ?_
        refine ⟨rfl, ?_⟩
        show _ = ((done ++ [x]).filter fun x => !x.2.isEmpty).map tA
        rw [List.filter_append, List.map_append, List.filter_cons_of_pos (p := fun x : Int × List Row => !x.2.isEmpty) hb]; rfl
      · rw [List.isEmpty_map] at hb
        refine hK _ trivial ?_
        refine ⟨rfl, ?_⟩
        show _ = ((done ++ [x]).filter fun x => !x.2.isEmpty).map tA
        rw [List.filter_append, List.map_append, List.filter_cons_of_neg (p := fun x : Int × List Row => !x.2.isEmpty) (by rw [hb]; decide)]
        exact (List.append_nil _).symm
    · rintro ⟨m', H', l⟩ ⟨hH, h2⟩
      dsimp only at hH h2
      subst hH h2
      have hfl : (((sortI ks0).map fun k => (k, sortedR (liveF (R k)))).filter fun x => !x.2.isEmpty).length ≤ ks0.length := by
        have := List.length_filter_le (fun x : Int × List Row => !x.2.isEmpty) ((sortI ks0).map fun k => (k, sortedR (liveF (R k))))
        rw [List.length_map, hl0] at this
        exact this
      refine and_of (by exact fits_of (by simp only [List.length_append, List.length_map, List.length_take, List.length_drop, List.length_cons, List.length_nil, List.length_range, List.length_set, List.length_replicate]; (clear hn hd hml hl0; omega))) ?_
      exact fin_0 (belows_tA _) q
end
end

-- Sp13
section
open PySem PySem.Calls PySem.W PyProof.Rows PySem.SeqAt
theorem pick_in {cells : List Int} {j : Int} (h0 : 0 ≤ j) (hl : j < cells.length) : ∃ c, pick (cells.map .int) j = some (.int c) := by
  obtain ⟨k, rfl⟩ : ∃ k : Nat, j = k := ⟨j.toNat, by (clear hl; omega)⟩
  have hk : k < cells.length := by (clear h0; omega)
  exact ⟨cells[k], pick_natE.trans (by rw [List.getElem?_map, List.getElem?_eq_getElem hk]; rfl)⟩
theorem sel_two {C : Cx} {sc : Names} {m : Loc} {H : HH} {p p' : Pos} {s s' : Bool} {k k' : Nat} {x y : Int} {c : Bool} {Q : AV → HH → Prop} (h : ∀ z : Int, (z = x ∨ z = y) → Q (.int z) H) :
    selP c (ev C sc s (.Constant (.int x) k p) m H Q) (ev C sc s' (.Constant (.int y) k' p') m H Q) := sel_C (fun _ => h x (.inl rfl)) (fun _ => h y (.inr rfl))
/-- the pen -/
def penO (cells : List Int) (a b : Int) : AO := .list [.lst (cells.map .int), .int a, .int b]
theorem pen_below {n : Nat} {cells : List Int} {a b : Int} : belowO n (penO cells a b) = true := by
  show (belows n (cells.map .int) && true) = true
  rw [belows_ints]; rfl
section
variable {P : Params} {d : Nat} {H H' : HH} {Q : AV → HH → Prop}
theorem law_draw_s {i : Nat} {cells : List Int} {a b many : Int} (hd : 1 ≤ d) (hi : Look H i (penO cells a b)) (hc : 0 < cells.length) (hc2 : cells.length ≤ 1000) (ha : 0 ≤ a ∧ a ≤ 1000000) (hb : 0 ≤ b) (hm : 0 < many ∧ many < 1000)
    (q : ∀ g a' b', (0 ≤ g ∧ g < many) → (a ≤ a' ∧ a' ≤ a + 1) → 0 ≤ b' → Q (.int g) (H.set i (penO cells a' b'))) :
    (calls (TX P) d).call 455 [.obj i, .int many] H Q := by
  refine call_w (ps := ["pen", "many"]) (df := []) (m := [("pen", .obj i), ("many", .int many)]) hd rfl rfl fun d n hd hn => ?_
  have hi : Look H i (.list [.lst (cells.map .int), .int a, .int b]) := hi
  have hcl : (cells.map AV.int).length = cells.length := List.length_map _
  refine look_of (by exact lk_left (by with_reducible assumption)) ?_
  refine and_of (by decide) ?_
  refine sel_C (fun _ => ?_) (fun _ => ?_)
  · refine look_of (by exact lk_left (by with_reducible assumption)) ?_
    refine and_of (by decide) ?_
    refine look_of (by exact lk_left (by with_reducible assumption)) ?_
    refine and_of (by decide) ?_
    refine look_of (by exact lk_left (by with_reducible assumption)) ?_
    refine and_of (by decide) ?_
    refine and_of (by exact fits_of (by (clear hn hd hm hb ha hc; omega))) ?_
    refine and_of (by exact ⟨(by (clear hn hd hm hb ha hc2; omega)), (by (clear hn hd hm hb ha hc; omega))⟩) ?_
    have hf1 : 0 ≤ a.fmod (cells.map AV.int).length := Int.fmod_nonneg_of_pos a (by (clear hn hd hm hb ha hc2; omega))
    have hf2 : a.fmod (cells.map AV.int).length < cells.length := by rw [hcl]; exact Int.fmod_lt_of_pos a (by (clear hf1 hn hd hm hb ha hcl hc2; omega))
    obtain ⟨c, ec⟩ := pick_in hf1 hf2
    refine and_of (smallI_of ⟨by (clear hf2 hcl hn hd hm hb ha hc2 hc; omega), by (clear hf1 hn hd hm hb ha hcl hc; omega)⟩) ?_
    refine optP_i ec ?_
    refine look_of (by exact lk_left (by with_reducible assumption)) ?_
    refine and_of (by decide) ?_
    refine look_of (by exact lk_left (by with_reducible assumption)) ?_
    refine and_of (by decide) ?_
    refine optP_i (x := 1) rfl (and_of (show 1 < 3 by decide) ?_)
    refine set_of (by exact st_left (by with_reducible assumption)) ?_
    refine and_of (by decide) ?_
    refine sel_two fun z hz => ?_
    refine look_of (by exact lk_left (lk_setL (by with_reducible assumption))) ?_
    refine and_of (by decide) ?_
    refine and_of (by decide) ?_
    refine look_of (by exact lk_left (lk_setL (by with_reducible assumption))) ?_
    refine and_of (by decide) ?_
    refine and_of (by exact smallI_of (by (clear hz hf2 hf1 hcl hn hd hm hb hc2 hc; omega))) ?_
    refine look_of (by exact lk_left (lk_setL (by with_reducible assumption))) ?_
    refine and_of (by decide) ?_
    refine optP_i (x := 2) rfl (and_of (show 2 < 3 by decide) ?_)
    refine set_of (by exact st_left2 (by with_reducible assumption)) ?_
    refine look_of (by exact lk_left (lk_setL (by with_reducible assumption))) ?_
    refine and_of (by decide) ?_
    refine and_of (by exact ⟨(by (clear hz hf2 hf1 hcl hn hd hb ha hc2 hc; omega)), (by (clear hz hf2 hf1 hcl hn hd hb ha hc2 hc; omega))⟩) ?_
    refine look_of (by exact lk_left (lk_setL (by with_reducible assumption))) ?_
    refine and_of (by decide) ?_
    refine and_of (by exact ⟨(by (clear hz hf2 hf1 hcl hn hd hb ha hc2 hc; omega)), (by (clear hz hf2 hf1 hcl hn hd hb ha hc2 hc; omega))⟩) ?_
    refine look_of (by exact lk_left (lk_setL (by with_reducible assumption))) ?_
    refine and_of (by decide) ?_
    refine optP_i (x := 2) rfl (and_of (show 2 < 3 by decide) ?_)
    refine set_of (by exact st_left2 (by with_reducible assumption)) ?_
    have hp : 0 ≤ 7919 * (a + 1) * (a + 1) := Int.mul_nonneg (by (clear hz hf2 hf1 hcl hn hd hm hb hc2 hc; omega)) (by (clear hz hf2 hf1 hcl hn hd hm hb hc2 hc; omega))
    generalize hy : 2 * (c.natAbs : Int) + z + 7919 * (a + 1) * (a + 1) + 1 = y
    have hy0 : 0 ≤ y := by (clear hf2 hf1 hcl hn hd hm hb ha hc2 hc; omega)
    exact fin_set pen_below rfl (q _ _ _ ⟨Int.fmod_nonneg_of_pos y (by (clear hy0 hy hp hz hf2 hf1 hcl hn hd hb ha hc2 hc; omega)), Int.fmod_lt_of_pos y (by (clear hy0 hy hp hz hf2 hf1 hcl hn hd hb ha hc2 hc; omega))⟩ ⟨by (clear hy0 hy hp hz hf2 hf1 hcl hn hd hm hb ha hc2 hc; omega), by (clear hy0 hy hp hz hf2 hf1 hcl hn hd hm hb ha hc2 hc; omega)⟩ (Int.fdiv_nonneg hy0 (by (clear hy0 hy hp hz hf2 hf1 hcl hn hd hb ha hc2 hc; omega))))
  · refine look_of (by exact lk_left (by with_reducible assumption)) ?_
    refine and_of (by decide) ?_
    refine and_of (by exact ⟨(by (clear hcl hn hd hb ha hc2 hc; omega)), (by (clear hcl hn hd hb ha hc2 hc; omega))⟩) ?_
    refine look_of (by exact lk_left (by with_reducible assumption)) ?_
    refine and_of (by decide) ?_
    refine and_of (by exact ⟨(by (clear hcl hn hd hb ha hc2 hc; omega)), (by (clear hcl hn hd hb ha hc2 hc; omega))⟩) ?_
    refine look_of (by exact lk_left (by with_reducible assumption)) ?_
    refine and_of (by decide) ?_
    refine optP_i (x := 2) rfl (and_of (show 2 < 3 by decide) ?_)
    refine set_of (by exact st_left (by with_reducible assumption)) ?_
    exact fin_set pen_below rfl (q _ _ _ ⟨Int.fmod_nonneg_of_pos b (by (clear hcl hn hd hb ha hc2 hc; omega)), Int.fmod_lt_of_pos b (by (clear hcl hn hd hb ha hc2 hc; omega))⟩ ⟨by (clear hcl hn hd hm hb ha hc2 hc; omega), by (clear hcl hn hd hm hb ha hc2 hc; omega)⟩ (Int.fdiv_nonneg hb (by (clear hcl hn hd hb ha hc2 hc; omega))))
theorem div_u16 {v : Int} (h : U16 v) : v.fdiv 256 = v / 256 ∧ v.fmod 256 = v % 256 := ⟨Int.fdiv_eq_ediv_of_nonneg _ (by decide), Int.fmod_eq_emod_of_nonneg _ (by decide)⟩
theorem div_01 {v : Int} (h : U16 v) : [v.fdiv 256, v.fmod 256].all isByte = true := by
  have h1 := h.1
  have h2 := h.2
  rw [(div_u16 h).1, (div_u16 h).2]
  show (decide _ && (decide _ && true)) = true
  rw [decide_eq_true (by (clear h2 h1; omega)), decide_eq_true (by (clear h2 h1 h; omega))]; rfl
theorem div_be2 {v : Int} (h : U16 v) : be2 v = [v.fdiv 256, v.fmod 256].map (fun i => UInt8.ofNat i.toNat) := by
  have h1 := h.1
  rw [(div_u16 h).1, (div_u16 h).2]
  show [_, _] = [UInt8.ofNat (v / 256).toNat, UInt8.ofNat (v % 256).toNat]
  rw [show (v / 256).toNat = v.toNat / 256 by (clear h1 h; omega), show (v % 256).toNat = v.toNat % 256 by (clear h1; omega)]
theorem law_u16_s {is : List Int} (hd : 1 ≤ d) (hu : ∀ x ∈ is, U16 x) (hl : is.length ≤ 10000) (q : Q (.bytes (bes is)) H) : (calls (TX P) d).call 460 [.lst (is.map .int)] H Q := by
  refine call_w (ps := ["numbers"]) (df := []) (m := [("numbers", .lst (is.map .int))]) hd rfl rfl fun d n hd hn => ?_
  refine and_of (by exact fits_of (by simp only [List.length_append, List.length_map, List.length_take, List.length_drop, List.length_cons, List.length_nil, List.length_range, List.length_set, List.length_replicate]; (clear hn hd; omega))) ?_
  refine for_inv (g := .int) (fun done (s : Sc) => s.2.1 = H ++ [] ∧ s.2.2 = (done.map be2).map .bytes) ?_ ?_ ?_
  · exact ⟨rfl, rfl⟩
  · rintro done x rest ⟨m, H', l⟩ K hx ⟨h1, h2⟩ hK
    dsimp only at h1 h2
    subst h1 h2
    have hl := congrArg List.length hx
    rw [List.length_append, List.length_cons] at hl
    have hu := hu x (by rw [hx]; simp)
    refine and_of (by exact fits_of (by simp only [List.length_append, List.length_map, List.length_take, List.length_drop, List.length_cons, List.length_nil, List.length_range, List.length_set, List.length_replicate]; (clear hu hn hd; omega))) ?_
    refine and_of (by decide) ?_
    refine and_of (by decide) ?_
    refine and_of (by exact fits_lit rfl) ?_
    refine and_of ⟨div_01 hu, Nat.le_of_ble_eq_true rfl⟩ ?_
    refine hK _ trivial ?_
    refine ⟨rfl, ?_⟩
    show _ = ((done ++ [x]).map be2).map AV.bytes
    rw [List.map_append, List.map_append, List.map_singleton, List.map_singleton, div_be2 hu]
  · rintro ⟨m, H', l⟩ ⟨h1, h2⟩
    dsimp only at h1 h2
    subst h1 h2
    have hl := bes_length is
    refine optP_i (bytess_of _) ?_
    have e : (is.map be2).flatten = bes is := rfl
    rw [e]
    refine and_of (by exact ⟨(fits_of (by (clear hn hd; omega))), (fits_of (by simp only [List.length_append, List.length_map, List.length_take, List.length_drop, List.length_cons, List.length_nil, List.length_range, List.length_set, List.length_replicate]; (clear hl hn hd; omega)))⟩) ?_
    exact fin_0 rfl q
end
end

-- Sp14
section
open PySem PySem.Calls PySem.W PyProof.Rows PySem.SeqAt
theorem in_bytes {H : HH} {l : List Bs} {p : Bs} {Q : Bool → Prop} (q : Q (l.any (· == p))) : cmpP H .In (.bytes p) (.lst (l.map .bytes)) Q := optP_i (bytess_of l) q
section
variable {P : Params} {d : Nat} {H H' : HH} {Q : AV → HH → Prop}
theorem law_laid_s {b : Int} {ps : List Bs} (hd : 1 ≤ d) (hb : 0 ≤ b) (hps : ps.length ≤ 100) (hl : b + ps.flatten.length ≤ 10000) (q : Q (.tup [.lst ((layO b ps).map .int), .bytes (layB b ps)]) H) :
    (calls (TX P) d).call 467 [.int b, .lst (ps.map .bytes)] H Q := by
  refine call_w (ps := ["begun", "parts"]) (df := []) (m := [("begun", .int b), ("parts", .lst (ps.map .bytes))]) hd rfl rfl fun d n hd hn => ?_
  have hml : (ps.map AV.bytes).length = ps.length := List.length_map _
  refine and_of (by exact fits_lit rfl) ?_
  refine new_of (by with_reducible assumption) (by exact len0) (by exact app_nil) ?_
  refine and_of (by exact fits_of (by (clear hn hd hl hb; omega))) ?_
  rw [enumL_range .bytes []]
  refine for_inv (g := fun (k : Nat) => .tup [.int (k : Int), .bytes (ps.getD k [])]) (fun done (s : St) => s.2 = H ++ [.list ((layO b (ps.take done.length)).map .int)] ∧ get "body" s.1 = some (.bytes (layB b (ps.take done.length))) ∧
    get "begun" s.1 = some (.int b) ∧ get "parts" s.1 = some (.lst (ps.map .bytes)) ∧ get "offsets" s.1 = some (.obj (n + 0))) ?_ ?_ ?_
  · exact ⟨rfl, rfl, rfl, rfl, rfl⟩
  · rintro done x rest ⟨m, H'⟩ K hx ⟨hH, m1, m2, m3, m4⟩ hK
    dsimp only at hH m1 m2 m3 m4
    subst hH
    obtain ⟨rfl, hlt⟩ := range_turn hx
    have hk : ps[done.length]? = some ps[done.length] := List.getElem?_eq_getElem hlt
    have hg : ps.getD done.length [] = ps[done.length] := by rw [List.getD_eq_getElem?_getD, hk]; rfl
    have hst : ps.take (done ++ [done.length]).length = ps.take done.length ++ [ps[done.length]] := by rw [List.length_append, List.length_singleton, take_one hk]
    have hol := layO_length b (ps.take done.length)
    rw [List.length_take, Nat.min_eq_left (by (clear hol hn hd hl hps hb hml; omega))] at hol
    have hbl := layB_length b (ps.take done.length)
    have hfl : (ps.take done.length).flatten.length + (ps[done.length]).length ≤ ps.flatten.length := by
      have h : ps = ps.take done.length ++ ps[done.length] :: ps.drop (done.length + 1) := by
        conv => lhs; rw [← List.take_append_drop done.length ps]
        rw [List.drop_eq_getElem_cons hlt]
      have h := congrArg (fun l : List Bs => (List.flatten l).length) h
      rw [List.flatten_append, List.flatten_cons, List.length_append, List.length_append] at h
      (clear hbl hol hml hn hd hl hps hb; omega)
    rw [hg]
    generalize hp : ps[done.length] = p at *
    refine get_of (by assumption) ?_
    refine and_of (by exact smallI_of (by (clear hfl hbl hn hd hl hb hol hml; omega))) ?_
    refine and_of (by exact fits_of (by (clear hfl hbl hol hn hd hl hb; omega))) ?_
    rw [cut_take (by (clear hfl hbl hn hd hl hps hb hol; omega)), ← List.map_take]
    refine in_bytes ?_
    refine sel_C (fun hb => ?_) (fun hb => ?_)
    · have hm : p ∈ ps.take done.length := any_of_mem.mp hb
      have hall : ps.any (· == p) = true := any_of_mem.mpr (List.mem_of_mem_take hm)
      have hj : (ps.take done.length).findIdx (· == p) < (ps.take done.length).length := List.findIdx_lt_length_of_exists ⟨p, hm, beq_self_eq_true p⟩
      have hfi : ps.findIdx (· == p) = (ps.take done.length).findIdx (· == p) := by
        conv => lhs; rw [← List.take_append_drop done.length ps]
        rw [List.findIdx_append, if_pos hj]
      rw [List.length_take, Nat.min_eq_left (by (clear hfi hj hfl hbl hn hd hl hps hol hml; omega))] at hj
      have he : (layO b (ps.take done.length))[ps.findIdx (· == p)]? = some ((layO b (ps.take done.length)).getD ((ps.take done.length).findIdx (· == p)) 0) := by
        rw [hfi, List.getD_eq_getElem?_getD, List.getElem?_eq_getElem (by (clear hfl hbl hml hn hd hl hps hfi; omega))]; rfl
      have h6 : ps.findIdx (· == p) < 1000000 := by (clear hfl hbl hn hd hl hol hml; omega)
      have h7 : ∀ j : Nat, ((layO b (ps.take done.length)).map AV.int)[j]? = ((layO b (ps.take done.length))[j]?).map AV.int := fun j => List.getElem?_map ..
      have h7 := h7 (ps.findIdx (· == p))
      refine get_of (by assumption) ?_
      refine look_of (by exact lk_right (by with_reducible assumption) rfl) ?_
      refine get_of (by assumption) ?_
      refine get_of (by assumption) ?_
      refine optP_i (bytess_of _) ?_
      refine and_of ⟨hall, by exact fits_of (by (clear h6 hfi hj hfl hbl hol hn hd hl hml; omega))⟩ ?_
      refine look_of (by exact lk_right (by with_reducible assumption) rfl) ?_
      refine pick_nat h6 (h7.trans (congrArg (Option.map AV.int) he)) ?_
      refine look_of (by exact lk_right (by with_reducible assumption) rfl) ?_
      refine and_of (by exact fits_of (by simp only [List.length_append, List.length_map, List.length_take, List.length_drop, List.length_cons, List.length_nil, List.length_range, List.length_set, List.length_replicate]; (clear h6 hfi hj hfl hbl hn hd hl hml; omega))) ?_
      refine set_of (by exact st_right (by with_reducible assumption) setL_0) ?_
      refine hK _ trivial ?_
      refine ⟨?_, ?_, m2, m3, m4⟩
      · show _ = H ++ [AO.list ((layO b (ps.take (done ++ [done.length]).length)).map .int)]
        rw [hst, layO_in hb, List.map_append]; rfl
      · rw [hst, layB_in hb]; exact m1
    · refine get_of (by assumption) ?_
      refine look_of (by exact lk_right (by with_reducible assumption) rfl) ?_
      refine get_of (by assumption) ?_
      refine get_of (by assumption) ?_
      refine and_of (by exact fits_of (by (clear hol hml hn hd hps; omega))) ?_
      refine look_of (by exact lk_right (by with_reducible assumption) rfl) ?_
      refine and_of (by exact fits_of (by simp only [List.length_append, List.length_map, List.length_take, List.length_drop, List.length_cons, List.length_nil, List.length_range, List.length_set, List.length_replicate]; (clear hfl hbl hn hd hl hml; omega))) ?_
      refine set_of (by exact st_right (by with_reducible assumption) setL_0) ?_
      refine get_of (by assumption) ?_
      refine and_of (by exact fits_of (by simp only [List.length_append, List.length_map, List.length_take, List.length_drop, List.length_cons, List.length_nil, List.length_range, List.length_set, List.length_replicate]; (clear hol hml hn hd hps; omega))) ?_
      refine hK _ trivial ?_
      refine ⟨?_, ?_, m2, m3, m4⟩
      · show _ = H ++ [AO.list ((layO b (ps.take (done ++ [done.length]).length)).map .int)]
        rw [hst, layO_new hb, List.map_append]; rfl
      · rw [hst, layB_new hb]; rfl
  · rintro ⟨m, H'⟩ ⟨hH, m1, m2, m3, m4⟩
    dsimp only at hH m1 m4
    rw [List.length_range, List.take_length] at hH m1
    subst hH
    refine get_of (by assumption) ?_
    refine get_of (by assumption) ?_
    refine and_of (by exact fits_lit rfl) ?_
    exact fin_z hn (fz_tup (nb_head (Nat.le_add_right ..)) (allM_cons (fz_listB (Nat.le_add_right ..) (by exact lk_right (by with_reducible assumption) rfl) (belows_ints _)) (allM_cons (freeze_below rfl) allM_nil))) q
theorem law_set_s {rs : List Row} (hd : 2 ≤ d) (hr : RowsOk rs) (q : Q (.bytes (setB rs)) H) : (calls (TX P) d).call 472 [.lst (rs.map rowA)] H Q := by
  refine call_w (ps := ["rows"]) (df := []) (m := [("rows", .lst (rs.map rowA))]) hd rfl rfl fun d n hd hn => ?_
  have hl := hr.few
  have hs := setB_lay rs hr
  have hol : (layO (2 + 2 * rs.length) (rs.map rowB)).length = rs.length := by rw [layO_length, List.length_map]
  refine and_of (by exact fits_of (by simp only [List.length_append, List.length_map, List.length_take, List.length_drop, List.length_cons, List.length_nil, List.length_range, List.length_set, List.length_replicate]; (clear hs hn hd hol; omega))) ?_
  refine for_inv (g := rowA) (fun done (s : Sc) => s.2.1 = H ++ [] ∧ s.2.2 = (done.map rowB).map .bytes) ?_ ?_ ?_
  · exact ⟨rfl, rfl⟩
  · rintro done x rest ⟨m, H', l⟩ K hx ⟨hH, hl⟩ hK
    dsimp only at hH hl
    subst hH hl
    have hlen := congrArg List.length hx
    rw [List.length_append, List.length_cons] at hlen
    have hxr := hr.ok x (by rw [hx]; simp)
    have hxs := hxr.short
    refine and_of (by exact fits_of (by simp only [List.length_append, List.length_map, List.length_take, List.length_drop, List.length_cons, List.length_nil, List.length_range, List.length_set, List.length_replicate]; (clear hxs hs hn hd hol; omega))) ?_
    refine and_of (by exact fits_of (by simp only [List.length_append, List.length_map, List.length_take, List.length_drop, List.length_cons, List.length_nil, List.length_range, List.length_set, List.length_replicate]; (clear hlen hol hs hl hn hd; omega))) ?_
    refine and_of (by exact fits_lit rfl) ?_
    refine and_of (by exact fits_of (by simp only [List.length_append, List.length_map, List.length_take, List.length_drop, List.length_cons, List.length_nil, List.length_range, List.length_set, List.length_replicate]; (clear hlen hol hs hl hn hd; omega))) ?_
    refine and_of (by exact fits_of (by simp only [List.length_append, List.length_map, List.length_take, List.length_drop, List.length_cons, List.length_nil, List.length_range, List.length_set, List.length_replicate]; (clear hlen hol hs hl hn hd; omega))) ?_
    have e : [AV.int x.2, .int (((x.1.map AV.int).length : Nat) + 1)] ++ x.1.map AV.int = (x.2 :: ((x.1.length : Int) + 1) :: x.1).map .int := by rw [List.length_map]; rfl
    rw [e]
    refine law_u16_s (dle rfl hd) ?_ (by rw [List.length_cons, List.length_cons]; (clear hlen hol hs hl hn hd; omega)) ?_
    · intro v hv
      rcases List.mem_cons.mp hv with rfl | hv
      · exact hxr.lig
      rcases List.mem_cons.mp hv with rfl | hv
      · exact ⟨by (clear hlen hol hs hl hn hd hxs; omega), by (clear hlen hol hs hl hn hd; omega)⟩
      · exact hxr.rest v hv
    refine hK _ trivial ?_
    refine ⟨rfl, ?_⟩
    show _ = ((done ++ [x]).map rowB).map AV.bytes
    rw [List.map_append, List.map_append]; rfl
  · rintro ⟨m, H', l⟩ ⟨hH, hl⟩
    dsimp only at hH hl
    subst hH hl
    have hfl : (rs.map rowB).flatten.length ≤ 70 := by
      have := flatten_le (c := 10) (ls := rs.map rowB) fun l hl => by
        obtain ⟨r, h, rfl⟩ := List.mem_map.mp hl
        rw [rowB_length]
        have := (hr.ok r h).short
        (clear hol hs hn hd; omega)
      rw [List.length_map] at this
      (clear hs hn hd hol; omega)
    refine and_of (by exact fits_of (by simp only [List.length_append, List.length_map, List.length_take, List.length_drop, List.length_cons, List.length_nil, List.length_range, List.length_set, List.length_replicate]; (clear hfl hs hn hd hol; omega))) ?_
    refine and_of (by decide) ?_
    refine law_laid_s (dle rfl hd) (by (clear hfl hol hs hl hn hd; omega)) (by rw [List.length_map]; (clear hfl hs hn hd hol; omega)) (by rw [List.length_map]; (clear hs hn hd hol; omega)) ?_
    rw [List.length_map]
    have hbl := bes_length ((rs.length : Int) :: layO (2 + 2 * rs.length) (rs.map rowB))
    rw [List.length_cons] at hbl
    refine and_of (by exact fits_of (by simp only [List.length_append, List.length_map, List.length_take, List.length_drop, List.length_cons, List.length_nil, List.length_range, List.length_set, List.length_replicate]; (clear hbl hfl hs hn hd hol; omega))) ?_
    refine and_of (by exact fits_lit rfl) ?_
    refine and_of (by exact fits_of (by simp only [List.length_append, List.length_map, List.length_take, List.length_drop, List.length_cons, List.length_nil, List.length_range, List.length_set, List.length_replicate]; (clear hbl hfl hs hn hd; omega))) ?_
    have e : [AV.int ((rs.map rowA).length : Nat)] ++ (layO (2 + 2 * rs.length) (rs.map rowB)).map AV.int = ((rs.length : Int) :: layO (2 + 2 * rs.length) (rs.map rowB)).map .int := by rw [List.length_map]; rfl
    rw [e]
    refine law_u16_s (dle rfl hd) ?_ (by rw [List.length_cons]; (clear hbl hfl hs hn hd; omega)) ?_
    · intro v hv
      rcases List.mem_cons.mp hv with rfl | hv
      · exact ⟨by (clear hbl hfl hs hn hd hol hl; omega), by (clear hbl hfl hs hn hd hol; omega)⟩
      · have := layO_le _ _ (by (clear hbl hfl hs hn hd hol hl; omega)) v hv
        exact ⟨by (clear hbl hfl hn hd hol hs hl; omega), by (clear hbl hfl hn hd hol; omega)⟩
    refine and_of (by exact fits_of (by simp only [List.length_append, List.length_map, List.length_take, List.length_drop, List.length_cons, List.length_nil, List.length_range, List.length_set, List.length_replicate]; (clear hfl hn hd; omega))) ?_
    exact fin_0 rfl q
end
end

-- Sp15
section
open PySem PySem.Calls PySem.W PyProof.Rows PySem.SeqAt
noncomputable abbrev setsL (ks : List Int) (R : Int → List Row) : List AV := ks.map fun k => .lst ((R k).map rowA)
theorem findK_map {κ : Type} [DecidableEq κ] {x : κ} {f : κ → AV} : ∀ {ks : List κ}, x ∈ ks → findK x ks (ks.map f) = some (f x)
  | k :: ks, h => by
    rw [List.map_cons]
    unfold findK
    by_cases hk : k = x
    · rw [if_pos hk, hk]
    · rw [if_neg hk]; exact findK_map ((List.mem_cons.mp h).resolve_left fun e => hk e.symm)
theorem se_iddU {Q : HH → Prop} {H H' : HH} {i : Nat} {ks : List Int} {f : Int → AV} {x : Int} {v : AV} (h : Look H i (idd ks (ks.map f))) (hn : ks.Nodup) (hf : ks.length ≤ 1000) (e : SetTo H i (idd (insK x ks) ((insK x ks).map (updK x v f))) H') (q : Q H') : setItemP H (.obj i) (.int x) v Q := by
  cases ks with
  | nil =>
    refine look_of h (set_of ?_ q)
    have : (idd (insK x []) ((insK x []).map (updK x v f))) = .idict [x] [v] := by
      show AO.idict [x] [updK x v f x] = _
      rw [show updK x v f x = v from if_pos rfl]
    rw [this] at e
    exact e
  | cons k ks =>
    refine look_of h ⟨fits_of (by omega), set_of ?_ q⟩
    rw [storeK_map hn]
    rw [idd_ne insK_ne] at e
    exact e
theorem updK_sets {x : Int} {rs : List Row} {ks : List Int} {R : Int → List Row} : ks.map (updK x (.lst (rs.map rowA)) fun k => .lst ((R k).map rowA)) = setsL ks (updK x rs R) := by
  refine List.map_congr_left fun k _ => ?_
  unfold updK
  by_cases h : k = x
  · rw [if_pos h, if_pos h]
  · rw [if_neg h, if_neg h]
theorem eq_told {H : HH} {l : List (Int × List Row)} {Q : Bool → Prop} (q : Q true) : cmpP H .Eq (.tup (l.map tA)) (.tup (l.map tA)) Q := by
  show ifP (okB (.tup (l.map tA)) 9 (.tup (l.map tA))) (Q (eqB (.tup (l.map tA)) (.tup (l.map tA)))) False
  rw [eqB_refl _ 9 (okB_told l l), okB_told l l]
  exact q
theorem src_rangeI {H : HH} {z : Int} {b : Nat} {Q : List AV → Prop} (hz : z = b) (hf : fits b) (q : Q ((List.range b).map fun (j : Nat) => .int (j : Int))) : srcP H (.rng 0 z 1) Q := by
  subst hz; exact src_range hf q
theorem cut_40 (ns : List Int) : cut (ns.map AV.int) none (some 40) = (ns.take 40).map .int := by
  have h0 : cut (ns.map AV.int) none (some 40) = (ns.map AV.int).take (clipAt (ns.map AV.int).length 40) := rfl
  rw [h0, List.length_map]
  rcases Nat.lt_or_ge ns.length 40 with h | h
  · have e : clipAt ns.length 40 = ns.length := by
      unfold clipAt; rw [if_neg (by decide), Int.min_eq_right (by omega), Int.max_eq_right (by (clear h; omega))]; (clear h; omega)
    rw [e, List.take_of_length_le (by rw [List.length_map]; exact Nat.le_refl _), List.take_of_length_le (by (clear e; omega))]
  · have e : clipAt ns.length 40 = 40 := clip_nat (k := 40) h
    rw [e, List.map_take]
theorem cut_rows (rs : List Row) : cut (rs.map rowA) none (some 1) = (rs.take 1).map rowA := by
  rcases rs with _ | ⟨r, rs⟩
  · rfl
  · rw [show (some (1 : Int)) = some ((1 : Nat) : Int) from rfl, cut_take (Nat.le_add_left 1 _), List.map_take]
structure Keys (t : Nat) (ks : List Int) : Prop where
  nodup : ks.Nodup
  len : ks.length ≤ t
  mem : ∀ k ∈ ks, (3 ≤ k ∧ k ≤ 7) ∨ (700 ≤ k ∧ k ≤ 702)
  low : 1 ≤ t → ∃ k ∈ ks, k ≤ 7
  high : 2 ≤ t → ∃ k ∈ ks, 700 ≤ k
theorem firsts_at (j : Nat) (h : j < 4) : ∃ c : Int, ([AV.int 3, .int 700, .int 4, .int 5] : List AV)[j]? = some (.int c) ∧ ((3 ≤ c ∧ c ≤ 5) ∨ c = 700) ∧ (j = 0 → c = 3) ∧ (j = 1 → c = 700) := by
  rcases j with _ | _ | _ | _ | j
  · exact ⟨3, rfl, by (clear h; omega), by (clear h; omega), by (clear h; omega)⟩
  · exact ⟨700, rfl, by (clear h; omega), by (clear h; omega), by (clear h; omega)⟩
  · exact ⟨4, rfl, by (clear h; omega), by (clear h; omega), by (clear h; omega)⟩
  · exact ⟨5, rfl, by (clear h; omega), by (clear h; omega), by (clear h; omega)⟩
  · omega
/-- the pen and the sets, in the law's frame -/
structure Pen (H : HH) (n k p st : Nat) (S : AO) (cells : List Int) (lim : Int) (G : HH) : Prop where
  len : LenG G k
  pen : ∃ a b, Look G p (penO cells a b) ∧ (0 ≤ a ∧ a ≤ lim) ∧ 0 ≤ b
  sets : Look G st S
  take : G.take n = H
  np : n ≤ p
  ns : n ≤ st
  ne : p ≠ st
  c0 : 0 < cells.length
  c1 : cells.length ≤ 1000
section
variable {H G X : HH} {n k p st : Nat} {S : AO} {cells : List Int} {lim many : Int}
theorem Pen.draw {P : Params} {d : Nat} {Q : AV → HH → Prop} (h : Pen H n k p st S cells lim G) (hd : 1 ≤ d) (hl : lim ≤ 900000) (hm : 0 < many ∧ many < 1000) (q : ∀ g G', (0 ≤ g ∧ g < many) → Pen H n k p st S cells (lim + 1) G' → Q (.int g) (G' ++ X)) :
    (calls (TX P) d).call 455 [.obj p, .int many] (G ++ X) Q := by
  obtain ⟨a, b, gp, ha, hb⟩ := h.pen
  refine law_draw_s hd (lk_left gp) h.c0 h.c1 (by (clear hb hm hd; omega)) hb hm fun g a' b' hg ha' hb' => ?_
  rw [show (G ++ X).set p (penO cells a' b') = G.set p (penO cells a' b') ++ X from st_left gp]
  exact q g _ hg ⟨lenG_set h.len, ⟨a', b', lk_setL gp, by (clear hb' hg hb hm hd hl; omega), hb'⟩, lk_set_ne h.ne h.sets, by rw [List.take_set_of_le h.np]; exact h.take, h.np, h.ns, h.ne, h.c0, h.c1⟩
theorem Pen.draw0 {P : Params} {d : Nat} {Q : AV → HH → Prop} (h : Pen H n k p st S cells lim G) (hd : 1 ≤ d) (hl : lim ≤ 900000) (hm : 0 < many ∧ many < 1000) (q : ∀ g G', (0 ≤ g ∧ g < many) → Pen H n k p st S cells (lim + 1) G' → Q (.int g) (G' ++ [])) :
    (calls (TX P) d).call 455 [.obj p, .int many] G Q := by
  have h := h.draw (P := P) (X := []) hd hl hm q
  rw [List.append_nil] at h
  exact h
theorem Pen.store (h : Pen H n k p st S cells lim G) (S' : AO) : Pen H n k p st S' cells lim (G.set st S') := by
  obtain ⟨a, b, gp, z⟩ := h.pen
  exact ⟨lenG_set h.len, ⟨a, b, lk_set_ne (fun e => h.ne e.symm) gp, z⟩, lk_setL h.sets, by rw [List.take_set_of_le h.ns]; exact h.take, h.np, h.ns, h.ne, h.c0, h.c1⟩
theorem Pen.more (h : Pen H n k p st S cells lim G) (hk : n ≤ k) (o : AO) : Pen H n (k + 1) p st S cells lim (G ++ [o]) := by
  obtain ⟨a, b, gp, z⟩ := h.pen
  refine ⟨len_GX h.len rfl, ⟨a, b, lk_left gp, z⟩, lk_left h.sets, ?_, h.np, h.ns, h.ne, h.c0, h.c1⟩
  have : n ≤ G.length := by have := h.len; show n ≤ G.length; rw [show G.length = k from this]; exact hk
  rw [List.take_append_of_le_length this]; exact h.take
theorem Pen.le {lim' : Int} (h : Pen H n k p st S cells lim G) (hl : lim ≤ lim') : Pen H n k p st S cells lim' G := by
  obtain ⟨a, b, gp, z1, z2⟩ := h.pen
  exact ⟨h.len, ⟨a, b, gp, ⟨z1.1, by (clear z2; omega)⟩, z2⟩, h.sets, h.take, h.np, h.ns, h.ne, h.c0, h.c1⟩
end
end

-- Sp16
section
open PySem PySem.Calls PySem.W PyProof.Rows PySem.SeqAt
/-- the law's frame between two turns -/
structure LawI (H : HH) (n : Nat) (cells : List Int) (t : Nat) (s : St) : Prop where
  m1 : get "pen" s.1 = some (.obj (n + 0))
  m2 : get "sets" s.1 = some (.obj (n + 1))
  ex : ∃ (G : HH) (k : Nat) (ks : List Int) (R : Int → List Row), s.2 = G ++ [] ∧ n ≤ k ∧ Pen H n k (n + 0) (n + 1) (idd ks (setsL ks R)) cells (1 + 100 * t) G ∧ Keys t ks ∧ ∀ k ∈ ks, RowsOk (R k)
structure RowI (H : HH) (n k : Nat) (cells : List Int) (S : AO) (lim : Int) (f : Int) (t : Nat) (s : St) : Prop where
  m1 : get "pen" s.1 = some (.obj (n + 0))
  m2 : get "sets" s.1 = some (.obj (n + 1))
  m3 : get "rows" s.1 = some (.obj (k + 0))
  m4 : get "first" s.1 = some (.int f)
  ex : ∃ (G : HH) (rs : List Row), s.2 = G ++ [.list (rs.map rowA)] ∧ Pen H n k (n + 0) (n + 1) S cells (lim + 20 * t) G ∧ rs.length = t ∧ ∀ r ∈ rs, RowOk r
theorem eq_told' {H : HH} {l r : List (Int × List Row)} {Q : Bool → Prop} (h : l = r) (q : Q true) : cmpP H .Eq (.tup (l.map tA)) (.tup (r.map tA)) Q := by
  subst h; exact eq_told q
theorem fin_pre {H G X : HH} {n : Nat} {v : AV} {Q : AV → HH → Prop} (hn : LenG H n) (h : G.take n = H) (hb : below H.length v = true) (q : Q v H) : finP H Q v (G ++ X) := by
  have hGH : G = H ++ G.drop n := by
    conv => lhs; rw [← List.take_append_drop n G]
    rw [h]
  rw [hGH, List.append_assoc]
  exact fin_0 hb q
set_option maxHeartbeats 8000000 in
theorem law2_s {P : Params} {d : Nat} {ns : List Int} {H : HH} {Q : AV → HH → Prop} (hd : 9 ≤ d) (hns : ns.length ≤ 1000) (q : Q (.bool true) H) : (calls (TX P) d).call 477 [.lst (ns.map .int)] H Q := by
  refine call_w (ps := ["script"]) (df := []) (m := [("script", .lst (ns.map .int))]) hd rfl rfl fun d n hd hn => ?_
  refine and_of (by decide) ?_
  refine and_of (by exact fits_of (by simp only [List.length_append, List.length_map, List.length_take, List.length_drop, List.length_cons, List.length_nil, List.length_range, List.length_set, List.length_replicate]; (clear hn hd; omega))) ?_
  rw [cut_40]
  have hcl : (ns.take 40).length ≤ 40 := by rw [List.length_take]; (clear hn hd hns; omega)
  refine and_of (by exact fits_of (by simp only [List.length_append, List.length_map, List.length_take, List.length_drop, List.length_cons, List.length_nil, List.length_range, List.length_set, List.length_replicate]; (clear hcl hn hd hns; omega))) ?_
  refine for_inv (g := .int) (fun done (s : Sc) => s.2.1 = H ++ [] ∧ s.2.2 = done.map .int) ?_ ?_ ?_
  · exact ⟨rfl, rfl⟩
  · rintro done x rest ⟨m, H', l⟩ K hx ⟨hH, hl⟩ hK
    dsimp only at hH hl
    subst hH hl
    have hlen := congrArg List.length hx
    rw [List.length_append, List.length_cons] at hlen
    refine and_of (by exact fits_of (by simp only [List.length_append, List.length_map, List.length_take, List.length_drop, List.length_cons, List.length_nil, List.length_range, List.length_set, List.length_replicate]; (clear hn hd hns; omega))) ?_
    refine hK _ trivial ?_
    refine ⟨rfl, ?_⟩
    rw [List.map_append]; rfl
  rintro ⟨m0, H', l⟩ ⟨hH, hl⟩
  dsimp only at hH hl
  subst hH hl
  obtain ⟨cells, hcells, hc0, hc1⟩ : ∃ cells : List Int, (ns.take 40).map AV.int ++ [.int 22, .int 7] = cells.map .int ∧ 0 < cells.length ∧ cells.length ≤ 1000 :=
    ⟨ns.take 40 ++ [22, 7], by rw [List.map_append]; rfl, by rw [List.length_append]; exact Nat.succ_pos _, by rw [List.length_append]; show _ + 2 ≤ _; (clear hn hd hns; omega)⟩
  have P0 : Pen H n (n + 2) (n + 0) (n + 1) .edict cells 0 (H ++ [.list [.lst ((ns.take 40).map .int ++ [.int 22, .int 7]), .int 0, .int 0], .edict]) := by
    rw [hcells]
    refine ⟨len_GX hn rfl, ⟨0, 0, lk_right hn rfl, by (clear hc1 hc0 hcl hn hd hns; omega), by (clear hc1 hc0 hcl hn hd hns; omega)⟩, lk_right hn rfl, ?_, by (clear hc1 hc0 hcl hn hd hns; omega), by (clear hc1 hc0 hcl hn hd hns; omega), by (clear hc1 hc0 hcl hn hd hns; omega), hc0, hc1⟩
    subst hn; exact List.take_left
  refine and_of (by exact fits_lit rfl) ?_
  refine and_of (by exact fits_of (by simp only [List.length_append, List.length_map, List.length_take, List.length_drop, List.length_cons, List.length_nil, List.length_range, List.length_set, List.length_replicate]; (clear hc1 hc0 hcl hn hd hns; omega))) ?_
  refine and_of (by exact fits_lit rfl) ?_
  refine new_of (by with_reducible assumption) (by exact len0) (by exact app_nil) ?_
  refine new_of (by with_reducible assumption) (by exact len_s len0) (by exact app_cons app_nil) ?_
  refine P0.draw0 (dle rfl hd) (by decide) (by decide) fun t0 G0 ht0 P0 => ?_
  obtain ⟨t, ht⟩ : ∃ t : Nat, 1 + t0 = t := ⟨(1 + t0).toNat, by (clear hc1 hc0 hcl hn hd hns; omega)⟩
  refine and_of (by exact smallI_of (by (clear hc1 hc0 hcl hn hd hns ht; omega))) ?_
  refine src_rangeI ht (by exact fits_of (by (clear hc1 hc0 hcl hn hd hns; omega))) ?_
  refine for_inv (g := fun (j : Nat) => .int (j : Int)) (fun done (s : St) => LawI H n cells done.length s) ?_ ?_ ?_
  · exact ⟨rfl, rfl, G0, n + 2, [], fun _ => [], rfl, by (clear ht ht0 hc1 hc0 hcl hn hd hns; omega), P0, ⟨List.nodup_nil, Nat.le_refl _, (fun k h => nomatch h), (fun h => nomatch h), (fun h => nomatch h)⟩, (fun k h => nomatch h)⟩
  · rintro done x rest ⟨m, H'⟩ K hx ⟨m1, m2, G, k, ks, R, hH, hnk, PG, hKs, hR⟩ hK
    dsimp only at hH m1 m2
    subst hH
    obtain ⟨rfl, hlt⟩ := range_turn hx
    obtain ⟨c, hc, c1, c2, c3⟩ := firsts_at done.length (by (clear hnk hc1 hc0 hcl hn hd hns; omega))
    refine and_of (by exact fits_lit rfl) ?_
    refine and_of (by exact ⟨(by (clear c3 c2 c1 hlt hnk ht ht0 hc1 hc0 hcl hn hd hns; omega)), (smallI_of (by (clear c3 c2 c1 hnk hc1 hc0 hcl hn hd hns; omega)))⟩) ?_
    refine optP_i (x := .int c) (by rw [Int.toNat_natCast]; exact hc) ?_
    refine get_of (by assumption) ?_
    refine PG.draw (dle rfl hd) (by (clear c3 c2 c1 hnk hc1 hc0 hcl hn hd hns; omega)) (by decide) fun g1 G1 hg1 P1 => ?_
    have hG1 := P1.len
    refine and_of (by exact fits_lit rfl) ?_
    refine new_of (by with_reducible assumption) (by exact len0) (by exact app_nil) ?_
    refine get_of (by assumption) ?_
    refine P1.draw (dle rfl hd) (by (clear hG1 hg1 c3 c2 c1 hnk hc1 hc0 hcl hn hd hns; omega)) (by decide) fun g2 G2 hg2 P2 => ?_
    obtain ⟨u, hu⟩ : ∃ u : Nat, g2 = u := ⟨g2.toNat, by (clear hG1 hg1 c3 c2 c1 hlt hnk ht ht0 hc1 hc0 hcl hn hd hns; omega)⟩
    refine and_of (by exact smallI_of (by (clear hG1 hg1 c3 c2 c1 hlt hnk ht ht0 hc1 hc0 hcl hn hd hns hu; omega))) ?_
    refine src_rangeI hu (by exact fits_of (by (clear hG1 hg1 c3 c2 c1 hlt hnk ht ht0 hc1 hc0 hcl hn hd hns; omega))) ?_
    refine for_inv (g := fun (j : Nat) => .int (j : Int)) (fun done' (s : St) => RowI H n k cells (idd ks (setsL ks R)) (10 + 100 * done.length) (c + g1) done'.length s) ?_ ?_ ?_
    · exact ⟨m1, m2, rfl, rfl, G2, [], rfl, P2.le (by (clear hu hg2 hG1 hg1 c3 c2 c1 hlt hnk ht ht0 hc1 hc0 hcl hn hd hns; omega)), rfl, (fun r h => nomatch h)⟩
    · rintro done' x' rest' ⟨m', H'⟩ K' hx' ⟨m1', m2', m3', m4', G3, rs, hH, P3, hrs, hok⟩ hK'
      dsimp only at hH m1' m2' m3' m4'
      subst hH
      obtain ⟨rfl, hlt'⟩ := range_turn hx'
      have hG3 := P3.len
      refine get_of (by assumption) ?_
      refine look_of (by exact lk_right (by with_reducible assumption) rfl) ?_
      refine get_of (by assumption) ?_
      refine P3.draw (dle rfl hd) (by (clear hG3 hrs hG1 hg1 c3 c2 c1 hnk hc1 hc0 hcl hn hd hns; omega)) (by decide) fun g3 G4 hg3 P4 => ?_
      have hG4 := P4.len
      obtain ⟨w, hw⟩ : ∃ w : Nat, g3 = w := ⟨g3.toNat, by (clear hG4 hG3 hlt' hrs hu hg2 hG1 hg1 c3 c2 c1 hlt hnk ht ht0 hc1 hc0 hcl hn hd hns; omega)⟩
      refine and_of (by exact smallI_of (by (clear hG4 hG3 hlt' hrs hu hg2 hG1 hg1 c3 c2 c1 hlt hnk ht ht0 hc1 hc0 hcl hn hd hns hw; omega))) ?_
      refine src_rangeI hw (by exact fits_of (by (clear hG4 hG3 hlt' hrs hu hg2 hG1 hg1 c3 c2 c1 hlt hnk ht ht0 hc1 hc0 hcl hn hd hns; omega))) ?_
      refine for_inv (g := fun (j : Nat) => .int (j : Int)) (fun done2 (s : Sc) => get "pen" s.1 = some (.obj (n + 0)) ∧ ∃ (G : HH) (gs : List Int), s.2.1 = G ++ [.list (rs.map rowA)] ∧ Pen H n k (n + 0) (n + 1) (idd ks (setsL ks R)) cells (11 + 100 * done.length + 20 * done'.length + done2.length) G ∧ s.2.2 = gs.map .int ∧ gs.length = done2.length ∧ (∀ y ∈ gs, U16 y)) ?_ ?_ ?_
      · exact ⟨get_capt m1' rfl, G4, [], rfl, P4.le (by show _ ≤ _ + ((0 : Nat) : Int); (clear hw hG4 hg3 hG3 hlt' hrs hu hg2 hG1 hg1 c3 c2 c1 hlt hnk ht ht0 hc1 hc0 hcl hn hd hns; omega)), rfl, rfl, (fun y h => nomatch h)⟩
      · rintro done2 x2 rest2 ⟨m2, H2, l⟩ K2 hx2 ⟨m5, G5, gs, hH, P5, h3, hgl, hgs⟩ hK2
        dsimp only at hH h3 m5
        subst hH h3
        obtain ⟨rfl, hlt2⟩ := range_turn hx2
        refine and_of (by exact fits_of (by simp only [List.length_append, List.length_map, List.length_take, List.length_drop, List.length_cons, List.length_nil, List.length_range, List.length_set, List.length_replicate]; (clear hG4 hG3 hlt' hrs hu hg2 hG1 hg1 c3 c2 c1 hlt hnk ht ht0 hc1 hc0 hcl hn hd hns; omega))) ?_
        refine get_of (by assumption) ?_
        refine P5.draw (dle rfl hd) (by (clear hgl hG4 hG3 hG1 hg1 c3 c2 c1 hnk hc1 hc0 hcl hn hd hns hrs; omega)) (by decide) fun g6 G6 hg6 P6 => ?_
        have hdv : g6.fdiv 2 = g6 / 2 := Int.fdiv_eq_ediv_of_nonneg _ (by decide)
        refine and_of (by decide) ?_
        refine and_of (by decide) ?_
        refine hK2 _ trivial ?_
        refine ⟨m5, G6, gs ++ [1 + 299 * g6.fdiv 2], rfl, P6.le (by rw [List.length_append, List.length_singleton]; (clear hdv hg6 hlt2 hgl hw hG4 hg3 hG3 hlt' hrs hu hg2 hG1 hg1 c3 c2 c1 hlt hnk ht ht0 hc1 hc0 hcl hn hd hns; omega)), ?_, by rw [List.length_append, List.length_append, hgl]; rfl, ?_⟩
        · rw [List.map_append]; rfl
        · intro y hy
          rcases List.mem_append.mp hy with hy | hy
          · exact hgs y hy
          · rw [List.mem_singleton] at hy; subst hy; exact ⟨by (clear hlt2 hgl hw hG4 hg3 hG3 hlt' hrs hu hg2 hG1 hg1 c3 c2 c1 hlt hnk ht ht0 hc1 hc0 hcl hn hd hns; omega), by (clear hlt2 hgl hw hG4 hg3 hG3 hlt' hrs hu hg2 hG1 hg1 c3 c2 c1 hlt hnk ht ht0 hc1 hc0 hcl hn hd hns; omega)⟩
      · rintro ⟨m2, H2, l⟩ ⟨m5, G5, gs, hH, P5, h3, hgl, hgs⟩
        dsimp only at hH h3 m5
        subst hH h3
        rw [List.length_range] at hgl P5
        have hG5 := P5.len
        have hml : (gs.map AV.int).length = gs.length := List.length_map _
        have hmr : (rs.map rowA).length = rs.length := List.length_map _
        refine and_of (by exact fits_of (by simp only [List.length_append, List.length_map, List.length_take, List.length_drop, List.length_cons, List.length_nil, List.length_range, List.length_set, List.length_replicate]; (clear hmr hG5 hG4 hG3 hlt' hrs hu hg2 hG1 hg1 c3 c2 c1 hlt hnk ht ht0 hc1 hc0 hcl hn hd hns hml; omega))) ?_
        refine and_of (by exact fits_lit rfl) ?_
        refine look_of (by exact lk_right (by with_reducible assumption) rfl) ?_
        refine and_of (by exact fits_of (by (clear hml hG5 hgl hw hG4 hg3 hG3 hG1 hg1 c3 c2 c1 hlt hnk ht ht0 hc1 hc0 hcl hn hd hns; omega))) ?_
        refine set_of (by exact st_right (by with_reducible assumption) setL_0) ?_
        refine hK' _ trivial ?_
        refine ⟨m1', m2', m3', m4', G5, rs ++ [(gs, 40)], ?_, P5.le (by rw [List.length_append, List.length_singleton]; (clear hmr hG5 hG4 hG3 hlt' hrs hu hg2 hG1 hg1 c3 c2 c1 hlt hnk ht ht0 hc1 hc0 hcl hn hd hns hml hgl; omega)), by rw [List.length_append, List.length_append, hrs]; rfl, ?_⟩
        · rw [List.map_append]; rfl
        · intro r hr
          rcases List.mem_append.mp hr with hr | hr
          · exact hok r hr
          · rw [List.mem_singleton] at hr; subst hr; exact ⟨show U16 40 by decide, hgs, by show gs.length ≤ 3; (clear hmr hG5 hG4 hG3 hlt' hrs hu hg2 hG1 hg1 c3 c2 c1 hlt hnk ht ht0 hc1 hc0 hcl hn hd hns hml; omega)⟩
    · rintro ⟨m', H'⟩ ⟨m1', m2', m3', m4', G3, rs, hH, P3, hrs, hok⟩
      dsimp only at hH m1' m2' m3' m4'
      subst hH
      rw [List.length_range] at hrs P3
      have hG3 := P3.len
      have gs3 := P3.sets
      have hmr : (rs.map rowA).length = rs.length := List.length_map _
      have hkl := insK_length (x := c + g1) (ks := ks)
      have hKl := hKs.len
      refine get_of (by assumption) ?_
      refine get_of (by assumption) ?_
      refine and_of (by decide) ?_
      refine look_of (by exact lk_right (by with_reducible assumption) rfl) ?_
      refine and_of (by exact fits_of (by (clear hKl hkl hG3 hG1 hg1 c3 c2 c1 hlt hnk ht ht0 hc1 hc0 hcl hn hd hns; omega))) ?_
      refine look_of (by exact lk_right (by with_reducible assumption) rfl) ?_
      rw [cut_rows]
      refine and_of (by exact fits_of (by simp only [List.length_append, List.length_map, List.length_take, List.length_drop, List.length_cons, List.length_nil, List.length_range, List.length_set, List.length_replicate]; (clear hKl hkl hG3 hG1 hg1 c3 c2 c1 hlt hnk ht ht0 hc1 hc0 hcl hn hd hns hmr; omega))) ?_
      rw [← List.map_append]
      refine get_of (by assumption) ?_
      refine get_of (by assumption) ?_
      refine se_iddU (by exact lk_left (by with_reducible assumption)) hKs.nodup (by (clear hkl hmr hG3 hrs hu hg2 hG1 hg1 c3 c2 c1 hnk hc1 hc0 hcl hn hd hns; omega)) (by exact st_left (by with_reducible assumption)) ?_
      refine hK _ trivial ?_
      have hdl : (done ++ [done.length]).length = done.length + 1 := List.length_append
      rw [hdl]
      refine ⟨m1', m2', G3.set (n + 1) _ ++ [.list (rs.map rowA)], k + 1, insK (c + g1) ks, updK (c + g1) (rs ++ rs.take 1) R, (List.append_nil _).symm, by (clear hdl hKl hkl hmr hrs hu hg2 hg1 c3 c2 c1 hlt ht ht0 hc1 hc0 hcl hn hd hns hG3 hG1; omega), ?_, ⟨insK_nodup hKs.nodup, by (clear hmr hG3 hrs hu hg2 hG1 hg1 c3 c2 c1 hlt hnk ht ht0 hc1 hc0 hcl hn hd hns hdl; omega), ?_, ?_, ?_⟩, ?_⟩
      · rw [updK_sets]
        exact ((P3.store _).more hnk _).le (by (clear hdl hKl hkl hG3 hG1 hg1 c3 c2 c1 hlt hnk ht ht0 hc1 hc0 hcl hn hd hns hmr hrs; omega))
      · intro y hy
        rcases insK_mem.mp hy with hy | rfl
        · exact hKs.mem y hy
        · (clear hKl hkl hmr hG3 hrs hu hg2 hG1 hlt hnk ht ht0 hc1 hc0 hcl hn hd hns hdl c3 c2; omega)
      · intro _
        by_cases h0 : done.length = 0
        · exact ⟨c + g1, insK_mem.mpr (.inr rfl), by have := c2 h0; (clear h0 hdl hKl hkl hmr hG3 hrs hu hg2 hG1 c3 c2 c1 hlt hnk ht ht0 hc1 hc0 hcl hn hd hns; omega)⟩
        · obtain ⟨y, hy, hy2⟩ := hKs.low (by (clear hKl hkl hmr hG3 hrs hu hg2 hG1 hg1 c3 c2 c1 hlt hnk ht ht0 hc1 hc0 hcl hn hd hns hdl; omega))
          exact ⟨y, insK_mem.mpr (.inl hy), hy2⟩
      · intro h2
        by_cases h0 : done.length = 1
        · exact ⟨c + g1, insK_mem.mpr (.inr rfl), by have := c3 h0; (clear h0 h2 hdl hKl hkl hmr hG3 hrs hu hg2 hG1 c3 c2 c1 hlt hnk ht ht0 hc1 hc0 hcl hn hd hns; omega)⟩
        · obtain ⟨y, hy, hy2⟩ := hKs.high (by (clear hKl hkl hmr hG3 hrs hu hg2 hG1 hg1 c3 c2 c1 hlt hnk ht ht0 hc1 hc0 hcl hn hd hns hdl; omega))
          exact ⟨y, insK_mem.mpr (.inl hy), hy2⟩
      · intro y hy
        by_cases hne : y = c + g1
        · rw [show updK (c + g1) (rs ++ rs.take 1) R y = rs ++ rs.take 1 from if_pos hne]
          refine ⟨by rw [List.length_append, List.length_take]; (clear hne hdl hKl hkl hG3 hG1 hg1 c3 c2 c1 hlt hnk ht ht0 hc1 hc0 hcl hn hd hns hmr; omega), fun r hr => ?_⟩
          rcases List.mem_append.mp hr with hr | hr
          · exact hok r hr
          · exact hok r (List.mem_of_mem_take hr)
        · rw [show updK (c + g1) (rs ++ rs.take 1) R y = R y from if_neg hne]
          exact hR y ((insK_mem.mp hy).resolve_right hne)
  · rintro ⟨m, H'⟩ ⟨m1, m2, G, k, ks, R, hH, hnk, PG, hKs, hR⟩
    dsimp only at hH m1 m2
    subst hH
    rw [List.length_range] at PG hKs
    have hG := PG.len
    have gs := PG.sets
    have hkl := hKs.len
    obtain ⟨y1, hy1, hy2⟩ := hKs.low (by (clear hkl hG hnk hc1 hc0 hcl hn hd hns; omega))
    have hne : ks ≠ [] := List.ne_nil_of_mem hy1
    rw [idd_ne hne] at gs
    have hperm := sortI_perm' ks
    have hsl := hperm.length_eq
    have ok : TabOkk (sortI ks) R := by
      refine ⟨asc_sort hKs.nodup, fun h => ?_, by (clear hne hy2 hG hnk hc1 hc0 hcl hn hd hns; omega), fun x hx => ?_, rg_few (by (clear hne hy2 hG hnk hc1 hc0 hcl hn hd hns; omega)) fun h4 => ?_, fun x hx => hR x (hperm.mem_iff.mp hx)⟩
      · rw [h] at hsl
        exact hne (List.length_eq_zero_iff.mp hsl.symm)
      · have := hKs.mem x (hperm.mem_iff.mp hx)
        exact ⟨by (clear hsl hne hy2 hkl hG hnk ht ht0 hc1 hc0 hcl hn hd hns; omega), by (clear hsl hne hy2 hkl hG hnk ht ht0 hc1 hc0 hcl hn hd hns; omega)⟩
      · obtain ⟨y3, hy3, hy4⟩ := hKs.high (by (clear hne hy2 hG hnk hc1 hc0 hcl hn hd hns ht ht0; omega))
        exact ⟨y1, hperm.mem_iff.mpr hy1, y3, hperm.mem_iff.mpr hy3, by (clear h4 hsl hne hkl hG hnk ht ht0 hc1 hc0 hcl hn hd hns; omega)⟩
    have hss : sortI (sortI ks) = sortI ks := ok.asc.sort
    generalize hks : sortI ks = fs at ok hsl hperm hss
    have hfl := ok.few
    have hml : (fs.map AV.int).length = fs.length := List.length_map _
    refine get_of (by assumption) ?_
    refine look_of (by exact lk_left (by with_reducible assumption)) ?_
    refine and_of (by (clear hne hy2 hkl hG hnk ht ht0 hc1 hc0 hcl hn hd hns hml; omega)) ?_
    rw [hks]
    refine coverage_of_s (dle rfl hd) ok.asc ok.some_ (by (clear hne hy2 hkl hG hnk ht ht0 hc1 hc0 hcl hn hd hns hml hsl; omega)) ?_
    refine write_coverage_s (dle rfl hd) ok.u16 (by (clear hne hy2 hkl hG hnk ht ht0 hc1 hc0 hcl hn hd hns hml hsl; omega)) ok.rg ?_
    refine and_of (by exact fits_lit rfl) ?_
    refine and_of (by exact fits_of (by (clear hne hy2 hkl hG hnk ht ht0 hc1 hc0 hcl hn hd hns hsl; omega))) ?_
    refine for_inv (g := .int) (fun done (s : Sc) => s.2.1 = G ++ [] ∧ s.2.2 = (done.map fun k => setB (R k)).map .bytes ∧ get "sets" s.1 = some (.obj (n + 1))) ?_ ?_ ?_
    · exact ⟨rfl, rfl, get_capt m2 rfl⟩
    · rintro done x rest ⟨m', H', l⟩ K hx ⟨hH, h3, m3⟩ hK
      dsimp only at hH h3 m3
      subst hH h3
      have hlen := congrArg List.length hx
      rw [List.length_append, List.length_cons] at hlen
      have hxf : x ∈ fs := by rw [hx]; simp
      refine and_of (by exact fits_of (by simp only [List.length_append, List.length_map, List.length_take, List.length_drop, List.length_cons, List.length_nil, List.length_range, List.length_set, List.length_replicate]; (clear hne hy2 hkl hG hnk ht ht0 hc1 hc0 hcl hn hd hns hml hsl; omega))) ?_
      refine get_of (by assumption) ?_
      refine look_of (by exact lk_left (by with_reducible assumption)) ?_
      refine optP_i (x := x) rfl (optP_i (findK_map (hperm.mem_iff.mp hxf)) ?_)
      refine law_set_s (dle rfl hd) (ok.rows x hxf) ?_
      refine hK _ trivial ?_
      refine ⟨rfl, ?_, m3⟩
      show _ = ((done ++ [x]).map fun k => setB (R k)).map AV.bytes
      rw [List.map_append, List.map_append]; rfl
    rintro ⟨m', H', l⟩ ⟨hH, h3, m3⟩
    dsimp only at hH h3 m3
    subst hH h3
    have hpf := parts_flat ok
    have hpl : (partsB fs R).length = 1 + fs.length := by unfold partsB; rw [List.length_cons, List.length_map]; (clear hpf hml hfl hsl hne hy2 hkl hG hnk ht ht0 hc1 hc0 hcl hn hd hns; omega)
    have hol : (layO (6 + 2 * fs.length) (partsB fs R)).length = 1 + fs.length := by rw [layO_length, hpl]
    have hbl := layB_length (6 + 2 * fs.length) (partsB fs R)
    have hle := layO_le (6 + 2 * fs.length) (partsB fs R) (by (clear hbl hpf hne hy2 hkl hG hnk ht ht0 hc1 hc0 hcl hn hd hns hol hpl hml hfl hsl; omega))
    have hT : tableB fs R = bes (1 :: (layO (6 + 2 * fs.length) (partsB fs R)).getD 0 0 :: (fs.length : Int) :: (layO (6 + 2 * fs.length) (partsB fs R)).drop 1) ++ layB (6 + 2 * fs.length) (partsB fs R) := rfl
    obtain ⟨o, os, ho⟩ : ∃ o os, layO (6 + 2 * fs.length) (partsB fs R) = o :: os := by
      cases h : layO (6 + 2 * fs.length) (partsB fs R) with
      | nil => rw [h] at hol; have h0 : 0 = 1 + fs.length := hol; (clear hbl hpf hne hy2 hkl hG hnk ht ht0 hc1 hc0 hcl hn hd hns hol hpl hml hfl hsl; omega)
      | cons o os => exact ⟨o, os, rfl⟩
    refine and_of (by exact fits_of (by simp only [List.length_append, List.length_map, List.length_take, List.length_drop, List.length_cons, List.length_nil, List.length_range, List.length_set, List.length_replicate]; (clear hbl hpf hne hy2 hkl hG hnk ht ht0 hc1 hc0 hcl hn hd hns hol hpl hml hsl; omega))) ?_
    refine and_of (by exact fits_of (by (clear hbl hpf hne hy2 hkl hG hnk ht ht0 hc1 hc0 hcl hn hd hns hol hpl hsl; omega))) ?_
    refine and_of (by decide) ?_
    refine law_laid_s (ps := partsB fs R) (dle rfl hd) (by (clear hbl hpf hne hy2 hkl hG hnk ht ht0 hc1 hc0 hcl hn hd hns hol hpl hml hfl hsl; omega)) (by (clear hbl hpf hne hy2 hkl hG hnk ht ht0 hc1 hc0 hcl hn hd hns hol hml hsl; omega)) (by rw [hml]; (clear hbl hne hy2 hkl hG hnk ht ht0 hc1 hc0 hcl hn hd hns hol hpl hml hsl; omega)) ?_
    rw [hml, ho]
    rw [ho] at hol hle hT
    rw [List.length_cons] at hol
    have ho1 := hle o (.head _)
    have hbs := bes_length (1 :: o :: (fs.length : Int) :: os)
    rw [List.length_cons, List.length_cons, List.length_cons] at hbs
    have hc : [AV.int 1, .int o, .int ((fs.map AV.int).length : Nat)] ++ cut ((o :: os).map AV.int) (some 1) none = (1 :: o :: (fs.length : Int) :: os).map .int := by
      rw [cut_one _ (Nat.le_add_left 1 _), hml]; rfl
    have hcl : ((1 :: o :: (fs.length : Int) :: os).map AV.int).length = os.length + 3 := List.length_map _
    refine and_of (by decide) ?_
    refine and_of (by exact fits_of (by (clear hbs ho1 hbl hpf hne hy2 hkl hG hnk ht ht0 hc1 hc0 hn hd hns hcl hol hpl hsl; omega))) ?_
    refine and_of (by exact fits_lit rfl) ?_
    refine and_of (by decide) ?_
    refine and_of (by exact fits_of (by simp only [List.length_append, List.length_map, List.length_take, List.length_drop, List.length_cons, List.length_nil, List.length_range, List.length_set, List.length_replicate]; (clear hbs ho1 hbl hpf hne hy2 hkl hG hnk ht ht0 hc1 hc0 hn hd hns hcl hpl hml hsl; omega))) ?_
    refine and_of (fits_of (by rw [hc, hcl]; (clear hbs ho1 hbl hpf hne hy2 hkl hG hnk ht ht0 hc1 hc0 hn hd hns hcl hpl hml hsl; omega))) ?_
    rw [hc]
    refine law_u16_s (dle rfl hd) ?_ (by rw [List.length_cons, List.length_cons, List.length_cons]; (clear hbs ho1 hbl hpf hne hy2 hkl hG hnk ht ht0 hc1 hc0 hn hd hns hcl hpl hml hsl; omega)) ?_
    · intro v hv
      rcases List.mem_cons.mp hv with rfl | hv
      · decide
      rcases List.mem_cons.mp hv with rfl | hv
      · exact ⟨by (clear hbs hbl hpf hne hy2 hkl hG hnk ht ht0 hc1 hc0 hn hd hns hcl hol hpl hml hfl hsl; omega), by (clear hbs hne hy2 hkl hG hnk ht ht0 hc1 hc0 hn hd hns hcl hol hpl hml hsl; omega)⟩
      rcases List.mem_cons.mp hv with rfl | hv
      · exact ⟨by (clear hbs ho1 hbl hpf hne hy2 hkl hG hnk ht ht0 hc1 hc0 hn hd hns hcl hol hpl hml hfl hsl; omega), by (clear hbs ho1 hbl hpf hne hy2 hkl hG hnk ht ht0 hc1 hc0 hn hd hns hcl hol hpl hml hsl; omega)⟩
      · have := hle v (.tail _ hv)
        exact ⟨by (clear hbs ho1 hfl hsl hne hy2 hkl hG hnk ht ht0 hc1 hc0 hn hd hns hcl hol hbl hpl hpf hml; omega), by (clear hbs hne hy2 hkl hG hnk ht ht0 hc1 hc0 hn hd hns hcl ho1 hol hpl hml hsl; omega)⟩
    have hT2 : tableB fs R = bes (1 :: o :: (fs.length : Int) :: os) ++ layB (6 + 2 * fs.length) (partsB fs R) := hT
    have htl : (tableB fs R).length ≤ 5000 := by rw [hT2, List.length_append]; (clear ho1 hne hy2 hkl hG hnk ht ht0 hc1 hc0 hn hd hns hcl hpl hml hsl; omega)
    refine and_of (by exact fits_of (by simp only [List.length_append, List.length_map, List.length_take, List.length_drop, List.length_cons, List.length_nil, List.length_range, List.length_set, List.length_replicate]; (clear htl ho1 hne hy2 hkl hG hnk ht ht0 hc1 hc0 hn hd hns hcl hpl hml hsl; omega))) ?_
    refine get_of (by assumption) ?_
    refine new_of (by with_reducible assumption) (by exact len0) (by exact app_nil) ?_
    refine new_of (by with_reducible assumption) (by exact len_s len0) (by exact app_cons app_nil) ?_
    refine Ligature_init (dle rfl hd) (by exact lk_right (by with_reducible assumption) rfl) (by exact lk_right (by with_reducible assumption) rfl) (by exact st_right (by with_reducible assumption) setL_0) ?_
    refine write_ligature_s (dle rfl hd) ⟨by exact lk_right (by with_reducible assumption) rfl, by exact lk_right (by with_reducible assumption) rfl, by exact lk_left (by with_reducible assumption), fun x hx => findK_map hx⟩ hks ok ?_
    refine sel_T (show eqB (.bytes (tableB fs R)) (.bytes (bes (1 :: o :: (fs.length : Int) :: os) ++ layB (6 + 2 * fs.length) (partsB fs R))) = true from beq_iff_eq.mpr hT2) ?_
    refine and_of (by exact fits_lit rfl) ?_
    refine and_of (by exact ⟨(by decide), (fits_lit rfl)⟩) ?_
    refine and_of (by exact fits_of (by simp only [List.length_append, List.length_map, List.length_take, List.length_drop, List.length_cons, List.length_nil, List.length_range, List.length_set, List.length_replicate]; (clear hcl hbs ho1 hol hbl hpl hpf hml hfl hsl hne hy2 hkl hG hnk ht ht0 hc1 hc0 hn hd hns; omega))) ?_
    have hat : At (([7, 7] : List Int).map (fun i => UInt8.ofNat i.toNat) ++ tableB fs R) 2 (tableB fs R) := ⟨[], by rw [List.append_nil]; rfl⟩
    refine read_ligature_s (dle rfl hd) rfl hat ok (by rw [List.length_append]; show 2 + _ ≤ _; (clear hcl hbs ho1 hol hbl hpl hpf hml hfl hsl hne hy2 hkl hG hnk ht ht0 hc1 hc0 hn hd hns; omega)) ?_
    have hrr : ∀ x ∈ fs, (R x).length ≤ 60 ∧ ∀ r ∈ R x, r.1.length ≤ 1000 := fun x hx => ⟨by have := (ok.rows x hx).few; (clear htl hcl hbs ho1 hol hbl hpl hpf hml hfl hsl hne hy2 hkl hG hnk ht ht0 hc1 hc0 hn hd hns; omega), fun r hr => by have := ((ok.rows x hx).ok r hr).short; (clear htl hcl hbs ho1 hol hbl hpl hpf hml hfl hsl hne hy2 hkl hG hnk ht ht0 hc1 hc0 hn hd hns; omega)⟩
    refine told_i (dle rfl hd) (fun x hx => findK_map hx) (by (clear htl hbs ho1 hbl hpf hne hy2 hkl hG hnk ht ht0 hc1 hc0 hn hd hns hcl hol hpl hml hsl; omega)) hrr ?_
    refine get_of (by assumption) ?_
    refine new_of (by with_reducible assumption) (by exact len_s (len_s len0)) (by exact app_cons (app_cons app_nil)) ?_
    refine new_of (by with_reducible assumption) (by exact len_s (len_s (len_s len0))) (by exact app_cons (app_cons (app_cons app_nil))) ?_
    refine Ligature_init (dle rfl hd) (by exact lk_right (by with_reducible assumption) rfl) (by exact lk_right (by with_reducible assumption) rfl) (by exact st_right (by with_reducible assumption) (setL_s (setL_s setL_0))) ?_
    refine look_of (by exact lk_right (by with_reducible assumption) rfl) ?_
    refine look_of (by exact lk_right (by with_reducible assumption) rfl) ?_
    refine told_o (dle rfl hd) ⟨by exact lk_right (by with_reducible assumption) rfl, by exact lk_right (by with_reducible assumption) rfl, by exact lk_left (by with_reducible assumption), fun x hx => findK_map hx⟩ (by (clear htl hbs ho1 hbl hpf hne hy2 hkl hG hnk ht ht0 hc1 hc0 hn hd hns hcl hol hpl hml; omega)) (fun x hx => hrr x (hperm.mem_iff.mpr hx)) ?_
    refine eq_told' (by rw [hss, hks]) ?_
    exact fin_pre hn PG.take rfl q
end

-- J0
section
open PySem PySem.W PyProof.Rows PySem.Calls
/-- the law's call, as the evaluator tells it -/
theorem finish {prog : Program} {w : World} {K : Frag} {Tb : Tab} {d : Nat} {a l : Addr} {ns : List Int} {vs : List Value} {k : Nat} {s : Shared} (T0 : TabOk K s.heap Tb) (hd : d ≤ 20) (ev : (calls Tb d).call a [.lst (ns.map .int)] [] fun v H => v = .bool true ∧ H = [])
    (g : s.heap.get? l = some (seqObj "list" vs.toArray k)) (hI : IntsAre vs ns) (hsys : ∃ b o, sysModules < b ∧ s.heap.get? b = some o) :
    wpC (model prog w) callerA (call (.ref a) [.ref l]) (fun v s' => v = .bool true ∧ (∀ b o, s.heap.get? b = some o → s'.heap.get? b = some o) ∧ s'.os = s.os ∧ s'.gens = s.gens) (fun _ _ => False) s := by
  have hA : Ok callerA d := by
    have h1 : callerA.depth ≤ 500 := by decide +kernel
    have h2 : callerA.units = 4 := rfl
    exact ⟨rfl, rfl, by (clear h2; omega), by (clear h1; omega)⟩
  have S : Sim prog w s.heap [] [] [] s.heap := ⟨rfl, List.nodup_nil, (fun a m => nomatch m), (fun a m => nomatch m), fun b o e => ⟨e, ⟨fun m => (nomatch m), fun m => (nomatch m)⟩⟩, ⟨hsys, fun m => (nomatch m)⟩, fun i a o e => (nomatch e)⟩
  have ra : RVs prog w s.heap [] [] [.lst (ns.map .int)] [.ref l] := ⟨_, _, rfl, ⟨l, vs, rfl, ⟨fun m => (nomatch m), fun m => (nomatch m)⟩, ⟨k, g⟩, RVs.of_ints hI⟩, rfl⟩
  refine call_fn (cx_ok (prog := prog) (w := w) T0 d) hA S ra ev ?_
  rintro v H' ρ' u s' ⟨rfl, rfl⟩ gg S' rv
  exact ⟨rv, fun b o e => gg.step.keep b o e (fun m => nomatch m) (fun m => nomatch m), gg.os, gg.gens⟩
end

-- J2
section
open PySem PySem.W PyProof.Rows PySem.Calls
theorem law_at2 (P : Params) : globK (K2 P) (Str.ofString "law") = some (.ref 477) := by kernel_rfl!
theorem j2 : PySem.Challenge.rw_pb0196_02.Holds := hd2 (by
  intro w s₀ s₁ mg mb G Y fa o pm cd doc dV kV ho hd hcd hD hmg hg args vals as hpre hlay hrd hwl hlo
  have KX : (K2 w.params).In s₁.heap := kIn_of Y
  refine Ground.open G ?_
  intro T B D TE TW
  have hmg2 : mg (Str.ofString "law") = some (.ref fa) := hmg
  have Tg := T.g
  have Tb := T.b
  have Ti := T.builtins
  have Tl := T.nolimit
  clear ho hd hcd hD D TE TW B hmg G T Y
  wrow_args hpre hlay hrd hwl hlo
  rename_i ns h1 h2 h3 h4 h5 as3 as2 l vs w0 hL ra w1 r0 hI hr hc hc2
  have e1 : Value.ref fa = .ref 477 := Option.some.inj (hmg2.symm.trans ((globs_at KX Tg (glob2 w.params) _).trans (law_at2 w.params)))
  rw [e1]
  obtain ⟨vs', hget⟩ : ∃ vs' : List Value, s₁.heap.get? l = some (seqObj "list" vs'.toArray 0) := by
    cases w1 with
    | list hget _ => exact ⟨_, hget⟩
  have hv : vs'.toArray = vs.toArray := by
    obtain ⟨o', e, c, n, dd⟩ := hL
    rw [hget] at e
    cases e
    cases dd
    rfl
  rw [hv] at hget
  have hsys : ∃ b o, sysModules < b ∧ s₁.heap.get? b = some o := by
    obtain ⟨c, d, es, n, sl, hl⟩ := glob2 w.params
    exact ⟨mainGlobals, _, by decide, KX _ _ hl⟩
  refine wpC_mono (finish (tab2 KX Tg Tb Ti Tl) (d := 9) (by decide) (law2_s (ns := ns) (by decide) (by omega) ⟨rfl, rfl⟩) hget hI hsys) (fun v s' z => ?_) fun _ _ x => x
  obtain ⟨rfl, hk, hos, hgens⟩ := z
  refine ⟨.inl ⟨.bool true, .bool true, [], rfl, fun _ => rfl, .bool true, ?_, fun _ => ⟨List.nodup_nil, fun a m => (nomatch m)⟩⟩, OldK.of_keep hk, hos, .of_eq (hgens.trans hg)⟩
  wrow_post)
end

end Lig

theorem PySem.Challenge.cw_pb0196_02_holds : PySem.Challenge.rw_pb0196_02.Holds := by
  exact Lig.j2
