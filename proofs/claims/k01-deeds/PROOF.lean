import PyProof.Rows.All
import Wide.All
import OpenK.AllK
import Wide.FinOn
import PySem.Str
import HandS.ForMost
import HandS.Exc
import HandS.IsInst
import HandS.Deep
import HandS.Style
import HandS.TupAny
import HandS.WordsExc
import HandS.ExcOwn
import HandS.CallSlots
import HandS.Walk
import HandS.TupSets
import HandS.HeadHook2
import HandS.HeadEnd
import HandS.Head2
import HandS.Head0
import HandS.Head1
import PySem.Challenge.RW_slatehands_k01_deeds
section
set_option autoImplicit false
set_option linter.all false
/-! IL: a small language with slots, its values, its evaluator. -/
namespace IL
open PySem

/-- values: frozen data, or a mutable object at a place of the local heap -/
inductive Vl where
  | non | bl (b : Bool) | int (i : Int) | str (x : Str)
  | tup (vs : List Vl) | lst (vs : List Vl)
  /-- a list that is read alone (the script) -/
  | scr (vs : List Vl)
  | dct (t : Bool) (es : List (Vl × Vl))
  | ins (C : Nat) (fs : List (Str × Vl))
  | ref (l : Nat)
  deriving Inhabited

/-- what stands at a place of the local heap; lk: locked (walked), t: keys are tuples -/
inductive Ob where
  | lst (vs : List Vl) | dct (lk t : Bool) (es : List (Vl × Vl)) | ins (C : Nat) (fs : List (Str × Vl))
  deriving Inhabited

abbrev Hh := List Ob
abbrev Ev := List (Option Vl)

inductive Rs (α : Type) where
  | ok (a : α) (h : Hh) | exc (C : Nat) (h : Hh) | bad

def Rs.bind {α β : Type} (r : Rs α) (f : α → Hh → Rs β) : Rs β := match r with
  | .ok a h => f a h
  | .exc C h => .exc C h
  | .bad => .bad
def Rs.of {α : Type} (o : Option α) (h : Hh) : Rs α := match o with
  | some a => .ok a h
  | none => .bad

/-- no reference at n or above, to this depth -/
def below : Nat → Nat → Vl → Bool
  | 0, _, _ => false
  | d + 1, n, v => match v with
    | .tup vs => vs.all (below d n)
    | .lst vs => vs.all (below d n)
    | .scr vs => vs.all (below d n)
    | .dct _ es => es.all fun e => below d n e.2
    | .ins _ fs => fs.all fun f => below d n f.2
    | .ref l => decide (l < n)
    | _ => true
/-- the depth to which values are looked at -/
abbrev deep : Nat := 12
def obBelow (n : Nat) : Ob → Bool
  | .lst vs => vs.all (below deep n)
  | .dct lk _ es => !lk && es.all fun e => below deep n e.2
  | .ins _ fs => fs.all fun f => below deep n f.2
def mapO {α β : Type} (f : α → Option β) : List α → Option (List β)
  | [] => some []
  | x :: xs => match f x with
    | some y => (match mapO f xs with
      | some ys => some (y :: ys)
      | none => none)
    | none => none
def pairO {α β : Type} (x : Option α) (y : Option β) : Option (α × β) := match x, y with
  | some a, some b => some (a, b)
  | _, _ => none
/-- a value without references at n or above: the objects there are read off -/
def thaw : Nat → Nat → Hh → Vl → Option Vl
  | 0, _, _, _ => none
  | d + 1, n, h, v => if below (d + 1) n v then some v else match v with
    | .tup vs => (mapO (thaw d n h) vs).map .tup
    | .lst vs => (mapO (thaw d n h) vs).map .lst
    | .scr vs => none
    | .dct t es => (mapO (fun e : Vl × Vl => pairO (some e.1) (thaw d n h e.2)) es).map (.dct t)
    | .ins C fs => (mapO (fun f : Str × Vl => pairO (some f.1) (thaw d n h f.2)) fs).map (.ins C)
    | .ref l => (match h[l]? with
      | some (.lst vs) => (mapO (thaw d n h) vs).map .lst
      | some (.dct false t es) => (mapO (fun e : Vl × Vl => pairO (some e.1) (thaw d n h e.2)) es).map (.dct t)
      | some (.ins C fs) => (mapO (fun f : Str × Vl => pairO (some f.1) (thaw d n h f.2)) fs).map (.ins C)
      | _ => none)
    | v => some v

/-- plain data to a depth: what == compares -/
def isData : Nat → Vl → Bool
  | 0, _ => false
  | d + 1, v => match v with
    | .tup vs => vs.all (isData d)
    | .lst vs => vs.all (isData d)
    | .scr vs => vs.all (isData d)
    | .dct _ _ => false
    | .ins _ _ => false
    | .ref _ => false
    | _ => true
mutual
def eqv : Vl → Vl → Bool
  | .non, .non => true
  | .bl a, .bl b => a == b
  | .bl a, .int j => (if a then 1 else 0) == j
  | .int i, .bl b => i == (if b then 1 else 0)
  | .int i, .int j => i == j
  | .str x, .str y => x == y
  | .tup xs, .tup ys => eqvs xs ys
  | .lst xs, .lst ys => eqvs xs ys
  | .lst xs, .scr ys => eqvs xs ys
  | .scr xs, .lst ys => eqvs xs ys
  | .scr xs, .scr ys => eqvs xs ys
  | _, _ => false
def eqvs : List Vl → List Vl → Bool
  | [], [] => true
  | x :: xs, y :: ys => eqv x y && eqvs xs ys
  | _, _ => false
end
def eqH (x y : Vl) (h : Hh) : Option Bool := match thaw deep 0 h x, thaw deep 0 h y with
  | some a, some b => if isData deep a && isData deep b then some (eqv a b) else none
  | _, _ => none

/-- the items of a list that is frozen or stands in the heap, of a tuple -/
def asList (h : Hh) : Vl → Option (List Vl)
  | .lst vs => some vs
  | .ref l => match h[l]? with
    | some (.lst vs) => some vs
    | _ => none
  | _ => none
def asSeq (h : Hh) : Vl → Option (List Vl)
  | .tup vs => some vs
  | .scr vs => some vs
  | v => asList h v
def asDct (h : Hh) : Vl → Option (Bool × List (Vl × Vl))
  | .dct t es => some (t, es)
  | .ref l => match h[l]? with
    | some (.dct _ t es) => some (t, es)
    | _ => none
  | _ => none
def asIns (h : Hh) : Vl → Option (Nat × List (Str × Vl))
  | .ins C fs => some (C, fs)
  | .ref l => match h[l]? with
    | some (.ins C fs) => some (C, fs)
    | _ => none
  | _ => none

/-- a key: an int or a text (t false), a tuple of such (t true) -/
def isKey1 : Vl → Bool
  | .int _ => true
  | .str _ => true
  | _ => false
def isKey (t : Bool) (v : Vl) : Bool := if t then (match v with | .tup vs => vs.all isKey1 | _ => false) else isKey1 v
def dGet (es : List (Vl × Vl)) (k : Vl) : Option Vl := (es.find? fun e => eqv e.1 k).map (·.2)
def dHas (es : List (Vl × Vl)) (k : Vl) : Bool := es.any fun e => eqv e.1 k
def dPut (es : List (Vl × Vl)) (k v : Vl) : List (Vl × Vl) := if dHas es k then es.map fun e => if eqv e.1 k then (e.1, v) else e else es ++ [(k, v)]
def dDrop (es : List (Vl × Vl)) (k : Vl) : List (Vl × Vl) := es.filter fun e => !eqv e.1 k

inductive Bop where | add | sub | mul | fdiv | mod | pow
inductive Cop where | eq | ne | lt | le | gt | ge | isin | notin | is | isnot
/-- functions of Python itself, by name -/
inductive Blt where | len | all | any | isinst (n : Nat) | list (m : Bool) | tuple | max | min | sum | int | str | lenset | dict (m t : Bool) | sorted | sortedset | sortkey
/-- methods of Python's own types, by name -/
inductive Bm where | append | extend | pop | index | get | items | insert | remove | reverse | clear | count | join | split | partition
/-- what a for walks -/
inductive Ik where | seq | rng | enum | zip | items
inductive Tg where
  | nm (i : Nat) | tp (gs : List Tg)

inductive Ex where
  | var (i : Nat)
  | cst (v : Vl)
  | gc (x : Str) (v : Vl)
  | bin (o : Bop) (a b : Ex)
  | neg (a : Ex)
  | cmp (o : Cop) (a b : Ex)
  | chn (o₁ o₂ : Cop) (a b c : Ex)
  | and (a b : Ex) | or (a b : Ex) | not (a : Ex)
  | ite (c a b : Ex)
  | tup (es : List Ex)
  | lst (m : Bool) (es : List Ex)
  | dnew (t : Bool)
  | idx (a i : Ex)
  | slc (m : Bool) (a lo hi st : Ex)
  | fld (a : Ex) (f : Str)
  | call (f : Nat) (es : List Ex)
  | meth (m : Str) (o : Ex) (es : List Ex)
  | bm (m : Bm) (o : Ex) (es : List Ex)
  | make (C : Nat) (es : List Ex)
  | blt (b : Blt) (es : List Ex)
  | lc (m : Bool) (own : List Nat) (g : Tg) (k : Ik) (es : List Ex) (cond : List Ex) (e : Ex)

inductive Sm where
  | set (i : Nat) (e : Ex)
  | setT (gs : List Tg) (e : Ex)
  | setI (o i e : Ex)
  | setS (o lo hi e : Ex)
  | setF (o : Ex) (f : Str) (e : Ex)
  | drop (e : Ex)
  | ret (e : Ex) | retN | pass
  | ife (c : Ex) (a b : List Sm)
  | for_ (g : Tg) (k : Ik) (es : List Ex) (body : List Sm)
  | whl (n : Nat) (c : Ex) (body : List Sm)
  | raise (C : Nat)
  | try_ (body : List Sm) (C : Nat) (i : Option Nat) (suite : List Sm)

inductive Fl where
  | nx (ρ : Ev) (h : Hh) | rt (v : Vl) (h : Hh) | bk (ρ : Ev) (h : Hh) | ct (ρ : Ev) (h : Hh) | ex (C : Nat) (ρ : Ev) (h : Hh) | bad

structure Fn where
  n : Nat
  size : Nat
  keep : Bool
  body : List Sm

structure Pg where
  fn : Nat → Option Fn
  /-- methods, by class -/
  mt : Nat → Str → Option Nat
  /-- fields, by class -/
  fl : Nat → Str → Bool
  init : Nat → Option Nat
  sub : Nat → Nat → Bool

def fldV (P : Pg) (f : Str) (x : Vl) (h : Hh) : Rs Vl := match asIns h x with
  | some (C, fs) => if P.fl C f then Rs.of (fs.lookup f) h else .bad
  | none => .bad

/-! ### operators -/
def binV (o : Bop) (x y : Vl) (h : Hh) : Rs Vl := match o, x, y with
  | .add, .int i, .int j => .ok (.int (i + j)) h
  | .sub, .int i, .int j => .ok (.int (i - j)) h
  | .mul, .int i, .int j => if (-(2 ^ 64) < i ∧ i < 2 ^ 64) ∨ (-(2 ^ 64) < j ∧ j < 2 ^ 64) then .ok (.int (i * j)) h else .bad
  | .fdiv, .int i, .int j => if 0 < j ∧ j < 1073741824 then .ok (.int (i / j)) h else .bad
  | .mod, .int i, .int j => if 0 < j then .ok (.int (i % j)) h else .bad
  | .pow, .int i, .int j => if 0 ≤ j ∧ j ≤ 1000 ∧ i.natAbs < 2 ^ 64 then .ok (.int (i ^ j.toNat)) h else .bad
  | .add, .str x, .str y => if x.length + y.length ≤ 16777216 then .ok (.str (x ++ y)) h else .bad
  | .add, .tup xs, .tup ys => if xs.length + ys.length ≤ 100000 then .ok (.tup (xs ++ ys)) h else .bad
  | .add, x, y => match asList h x, asList h y with
    | some xs, some ys => if xs.length + ys.length ≤ 100000 then .ok (.lst (xs ++ ys)) h else .bad
    | _, _ => .bad
  | .mul, x, .int k => match asList h x with
    | some xs => if 0 ≤ k ∧ k ≤ 1000 ∧ xs.length ≤ 100 then .ok (.lst (List.replicate k.toNat xs).flatten) h else .bad
    | _ => .bad
  | _, _, _ => .bad

def cmpI (o : Cop) (i j : Int) : Option Bool := match o with
  | .lt => some (decide (i < j))
  | .le => some (decide (i ≤ j))
  | .gt => some (decide (j < i))
  | .ge => some (decide (j ≤ i))
  | _ => none
def intsV : List Vl → Option (List Int)
  | [] => some []
  | .int i :: r => (intsV r).map (i :: ·)
  | _ => none
def lexB : List Int → List Int → Bool
  | [], [] => false
  | [], _ :: _ => true
  | _ :: _, [] => false
  | x :: xs, y :: ys => if x = y then lexB xs ys else decide (x < y)
/-- < of tuples of whole numbers -/
def ltT (xs ys : List Vl) : Option Bool := match intsV xs, intsV ys with
  | some ns, some ms => some (lexB ns ms)
  | _, _ => none
/-- a is b, b one of None, True, False -/
def isV (x y : Vl) : Option Bool := match x, y with
  | .non, .non => some true
  | .bl a, .bl b => some (a == b)
  | .bl _, .non => some false
  | .int _, .non => some false
  | .str _, .non => some false
  | .tup _, .non => some false
  | .lst _, .non => some false
  | .scr _, .non => some false
  | .ref _, .non => some false
  | .dct _ _, .non => some false
  | .ins _ _, .non => some false
  | _, _ => none
def inL (x y : Vl) (h : Hh) : Option Bool := match thaw deep 0 h x, thaw deep 0 h y with
  | some a, some (.lst bs) => if isData deep a && isData deep (.lst bs) then some (bs.any fun z => eqv z a) else none
  | _, _ => none
def flatL : Vl → Bool
  | .non => true
  | .bl _ => true
  | .int _ => true
  | .str _ => true
  | _ => false
def inH (x y : Vl) (h : Hh) : Option Bool := match y with
  | .dct t es => if isKey t x then some (dHas es x) else none
  | .ref l => (match h[l]? with
    | some (.dct _ t es) => if isKey t x then some (dHas es x) else none
    | some (.lst vs) => inL x (.ref l) h
    | _ => none)
  | .lst vs => inL x (.lst vs) h
  | .tup vs => if isData deep x && isData deep (.tup vs) then some (vs.any fun z => eqv z x) else none
  | _ => none
def cmpV (o : Cop) (x y : Vl) (h : Hh) : Rs Vl := match o with
  | .eq => Rs.of ((eqH x y h).map .bl) h
  | .ne => Rs.of ((eqH x y h).map fun b => .bl (!b)) h
  | .is => Rs.of ((isV x y).map .bl) h
  | .isnot => Rs.of ((isV x y).map fun b => .bl (!b)) h
  | .isin => Rs.of ((inH x y h).map .bl) h
  | .notin => Rs.of ((inH x y h).map fun b => .bl (!b)) h
  | .lt => match x, y with
    | .int i, .int j => .ok (.bl (decide (i < j))) h
    | .tup xs, .tup ys => Rs.of ((ltT xs ys).map .bl) h
    | _, _ => .bad
  | o => match x, y with
    | .int i, .int j => Rs.of ((cmpI o i j).map .bl) h
    | _, _ => .bad

/-- an index of any sign -/
def ixOf (n : Nat) (i : Int) : Option Nat := if 0 ≤ i then (if i < n then some i.toNat else none) else if -(n : Int) ≤ i then some (i + n).toNat else none
def idxV (x i : Vl) (h : Hh) : Rs Vl := match i with
  | .int k => (match asSeq h x with
    | some vs => Rs.of ((ixOf vs.length k).bind fun j => vs[j]?) h
    | none => (match x with
      | .str z => if z.cps.toList.length ≤ 100000 then (match (ixOf z.cps.toList.length k).bind fun j => z.cps.toList[j]? with
        | some c => .ok (.str ⟨#[c]⟩) h
        | none => .bad) else .bad
      | x => match asDct h x with
        | some (false, es) => Rs.of (dGet es (.int k)) h
        | _ => .bad))
  | k => match asDct h x with
    | some (t, es) => if isKey t k then Rs.of (dGet es k) h else .bad
    | none => .bad

/-- a bound of a slice -/
def sIx (n d : Nat) : Option Int → Nat
  | none => d
  | some v => (if v < 0 then max (v + (n : Int)) 0 else min v (n : Int)).toNat
def cut {α : Type} (xs : List α) (lo hi : Option Int) : List α := (xs.drop (sIx xs.length 0 lo)).take (sIx xs.length xs.length hi - sIx xs.length 0 lo)
def bound : Vl → Option (Option Int)
  | .non => some none
  | .int i => some (some i)
  | _ => none
/-- every second one, from the first on -/
def evens {α : Type} : List α → List α
  | [] => []
  | [x] => [x]
  | x :: _ :: r => x :: evens r
def slcV (x lo hi st : Vl) (h : Hh) : Rs Vl := match st with
  | .non => (match bound lo, bound hi with
    | some l, some u => (match x with
      | .tup vs => .ok (.tup (cut vs l u)) h
      | .str z => if z.cps.toList.length ≤ 100000 then .ok (.str ⟨(cut z.cps.toList l u).toArray⟩) h else .bad
      | x => match asList h x with
        | some vs => .ok (.lst (cut vs l u)) h
        | none => .bad)
    | _, _ => .bad)
  | .int k => (match lo, hi, asList h x with
    | .non, .non, some vs => if k = -1 then .ok (.lst vs.reverse) h else if k = 1 then .ok (.lst vs) h else if k = 2 then .ok (.lst (evens vs)) h else .bad
    | _, _, _ => .bad)
  | _ => .bad

/-- made mutable: a new place of the heap -/
def place (m : Bool) (r : Rs Vl) : Rs Vl := if m then r.bind fun v h => match v with
  | .lst vs => .ok (.ref h.length) (h ++ [.lst vs])
  | .dct t es => .ok (.ref h.length) (h ++ [.dct false t es])
  | _ => .bad
  else r

/-! ### functions of Python -/
def isinstV (n : Nat) : Vl → Bool
  | .int _ => n == 0
  | .bl _ => n == 0 || n == 1
  | .tup _ => n == 2
  | .str _ => n == 3
  | .lst _ => n == 4
  | _ => false
def instOk : Vl → Bool
  | .non => true
  | .bl _ => true
  | .int _ => true
  | .str _ => true
  | .tup _ => true
  | .lst _ => true
  | _ => false
def bools : List Vl → Option (List Bool)
  | [] => some []
  | .bl b :: r => (bools r).map (b :: ·)
  | _ => none
def maxI : List Int → Option Int
  | [] => none
  | x :: xs => some (xs.foldl max x)
def minI : List Int → Option Int
  | [] => none
  | x :: xs => some (xs.foldl min x)
/-- the unlike ones, in the order in which they are met -/
def distinct : List Vl → List Vl → List Vl
  | acc, [] => acc
  | acc, x :: xs => if acc.any (fun y => eqv y x) then distinct acc xs else distinct (acc ++ [x]) xs
def isHash (v : Vl) : Bool := match v with
  | .non => true
  | .tup vs => vs.all fun v => match v with | .int _ => true | _ => false
  | _ => false
def isEmptyD (h : Hh) (v : Vl) : Bool := match v with | .ref _ => true | _ => true
def lenV (x : Vl) (h : Hh) : Option Nat := match x with
  | .str z => if z.cps.toList.length ≤ 100000 then some z.cps.toList.length else none
  | x => match asSeq h x with
    | some vs => some vs.length
    | none => none
/-- the order of tuples: intsV, tuples of such -/
def ltV : Nat → Vl → Vl → Option Bool
  | 0, _, _ => none
  | d + 1, x, y => match x, y with
    | .int i, .int j => some (decide (i < j))
    | .tup xs, .tup ys => ltL d xs ys
    | _, _ => none
where ltL (d : Nat) : List Vl → List Vl → Option Bool
  | [], [] => some false
  | [], _ :: _ => some true
  | _ :: _, [] => some false
  | x :: xs, y :: ys => if eqv x y then ltL d xs ys else ltV d x y
def bltV (b : Blt) (vs : List Vl) (h : Hh) : Rs Vl := match b, vs with
  | .len, [x] => Rs.of ((lenV x h).map fun (n : Nat) => Vl.int (n : Int)) h
  | .all, [x] => (match asList h x with | some xs => Rs.of ((bools xs).map fun bs => .bl (bs.all id)) h | none => .bad)
  | .any, [x] => (match asList h x with | some xs => Rs.of ((bools xs).map fun bs => .bl (bs.any id)) h | none => .bad)
  | .isinst n, [x] => if instOk x then .ok (.bl (isinstV n x)) h else .bad
  | .list m, [x] => (match asSeq h x with | some xs => place m (.ok (.lst xs) h) | none => .bad)
  | .tuple, [x] => (match asSeq h x with | some xs => .ok (.tup xs) h | none => .bad)
  | .max, vs => (match vs with
    | [x] => (match asList h x with | some xs => Rs.of (((intsV xs).bind maxI).map .int) h | none => .bad)
    | vs => (match intsV vs with
      | some [i, j] => .ok (.int (if j > i then j else i)) h
      | _ => .bad))
  | .min, vs => (match vs with
    | [x] => (match asList h x with | some xs => Rs.of (((intsV xs).bind minI).map .int) h | none => .bad)
    | vs => (match intsV vs with
      | some [i, j] => .ok (.int (if j < i then j else i)) h
      | _ => .bad))
  | .lenset, [x] => (match asSeq h x with | some xs => if xs.all isHash && decide (xs.length < 64) then .ok (.int (distinct [] xs).length) h else .bad | none => .bad)
  | _, _ => .bad

/-! ### methods of lists, dicts, texts -/
/-- a list 0, a dict 1, a text 2 -/
def tyTag (h : Hh) : Vl → Option Nat
  | .lst _ => some 0
  | .dct _ _ => some 1
  | .str _ => some 2
  | .ref l => match h[l]? with
    | some (.lst _) => some 0
    | some (.dct _ _ _) => some 1
    | _ => none
  | _ => none
def bmOk : Nat → Bm → Bool
  | 0, .append => true
  | 0, .extend => true
  | _, _ => false
def bmV (t : Nat) (m : Bm) (x : Vl) (vs : List Vl) (h : Hh) : Rs Vl := match t, m, vs with
  | 0, .append, [y] => (match x with
    | .ref l => (match h[l]? with
      | some (.lst xs) => if xs.length < 100000 then .ok .non (h.set l (.lst (xs ++ [y]))) else .bad
      | _ => .bad)
    | _ => .bad)
  | 0, .extend, [y] => (match x with
    | .ref l => (match h[l]?, asList h y with
      | some (.lst xs), some ys => if xs.length + ys.length ≤ 100000 then .ok .non (h.set l (.lst (xs ++ ys))) else .bad
      | _, _ => .bad)
    | _ => .bad)
  | _, _, _ => .bad

/-! ### what a for walks -/
def enumFrom (n : Nat) : List Vl → List Vl
  | [] => []
  | x :: xs => .tup [.int n, x] :: enumFrom (n + 1) xs
inductive Itm where
  | fr (vs : List Vl) | cell (l : Nat) (n : Nat) | bad
def wSeq (h : Hh) : Vl → Itm
  | .tup xs => .fr xs
  | .lst xs => .fr xs
  | .scr xs => .fr xs
  | .ref l => match h[l]? with
    | some (.lst xs) => .cell l xs.length
    | _ => .bad
  | _ => .bad
def rngI (i j : Int) : List Vl := (List.range (j - i).toNat).map fun (k : Nat) => .int (i + k)
def wRng : Vl → Itm
  | .int j => if -1000000 < j ∧ j < 1000000 then .fr (rngI 0 j) else .bad
  | _ => .bad
def wRng2 : Vl → Vl → Itm
  | .int i, .int j => if -1000000 < i ∧ i < 1000000 ∧ -1000000 < j ∧ j < 1000000 then .fr (rngI i j) else .bad
  | _, _ => .bad
def wEnum : Vl → Itm
  | .lst xs => .fr (enumFrom 0 xs)
  | _ => .bad
def walked (k : Ik) (vs : List Vl) (h : Hh) : Itm := match vs with
  | [] => .bad
  | v :: r => (match r with
    | [] => (match k with
      | .seq => wSeq h v
      | .rng => wRng v
      | .enum => wEnum v
      | _ => .bad)
    | u :: r => (match r with
      | [] => (match k with
        | .rng => wRng2 v u
        | _ => .bad)
      | _ :: _ => .bad))

def wipeE (ρ : Ev) : List Nat → Ev
  | [] => ρ
  | v :: vs => (wipeE ρ vs).set v none

mutual
/-- the slots of a target -/
def tgNs : Tg → List Nat
  | .nm i => [i]
  | .tp gs => tgNss gs
def tgNss : List Tg → List Nat
  | [] => []
  | g :: gs => tgNs g ++ tgNss gs
end
mutual
def bindT : Tg → Vl → Ev → Option Ev
  | .nm i, v, ρ => some (ρ.set i (some v))
  | .tp gs, v, ρ => match v with
    | .tup vs => bindTs gs vs ρ
    | _ => none
def bindTs : List Tg → List Vl → Ev → Option Ev
  | [], [], ρ => some ρ
  | g :: gs, v :: vs, ρ => match bindT g v ρ with
    | some ρ' => bindTs gs vs ρ'
    | none => none
  | _, _, _ => none
end

/-- nothing may be raised here -/
def Rs.calm {α : Type} : Rs α → Rs α
  | .exc _ _ => .bad
  | r => r
/-- a comprehension's turns over items -/
def lcL (turn : Vl → Hh → Rs (Option Vl)) : List Vl → Hh → Rs (List Vl)
  | [], h => .ok [] h
  | v :: vs, h => (turn v h).bind fun o h1 => (lcL turn vs h1).bind fun r h2 => match o with
    | some y => .ok (y :: r) h2
    | none => .ok r h2
/-- .. over a list of the heap, by places -/
def lcC (turn : Vl → Hh → Rs (Option Vl)) (l : Nat) : Nat → Nat → Hh → Rs (List Vl)
  | 0, i, h => match h[l]? with
    | some (.lst xs) => if xs.length ≤ i then .ok [] h else .bad
    | _ => .bad
  | n + 1, i, h => match h[l]? with
    | some (.lst xs) => (match xs[i]? with
      | some v => (turn v h).bind fun o h1 => (lcC turn l n (i + 1) h1).bind fun r h2 => match o with
        | some y => .ok (y :: r) h2
        | none => .ok r h2
      | none => .ok [] h)
    | _ => .bad

def isNonE : Ex → Bool
  | .cst .non => true
  | _ => false
/-- a part of a slice: left out, or a whole number -/
def intR (e : Ex) (r : Rs Vl) : Rs Vl := if isNonE e then r else r.bind fun v h => match v with
  | .int i => .ok (.int i) h
  | _ => .bad
/-- a turn of a comprehension -/
def lcT (ρ : Option Ev) (ec : Ev → Hh → Rs (List Vl)) (ee : Ev → Hh → Rs Vl) (h : Hh) : Rs (Option Vl) := match ρ with
  | some ρ1 => (ec ρ1 h).calm.bind fun bs h2 => (match bs with
    | [] => (ee ρ1 h2).calm.bind fun y h3 => .ok (some y) h3
    | b :: _ => (match b with
      | .bl true => (ee ρ1 h2).calm.bind fun y h3 => .ok (some y) h3
      | .bl false => .ok none h2
      | _ => .bad))
  | none => .bad
section
variable (P : Pg) (cf : Nat → List Vl → Hh → Rs Vl)

/-- the method of an own class -/
def methF (m : Str) (x : Vl) (h : Hh) : Option Nat := match asIns h x with
  | some (C, fs) => if (fs.lookup m).isSome then none else P.mt C m
  | none => none

mutual
def evalE : Ex → Ev → Hh → Rs Vl
  | .var i, ρ, h => match ρ[i]? with
    | some (some v) => .ok v h
    | _ => .bad
  | .cst v, _, h => .ok v h
  | .gc _ v, _, h => .ok v h
  | .bin o a b, ρ, h => (evalE a ρ h).bind fun x h1 => (evalE b ρ h1).bind fun y h2 => binV o x y h2
  | .neg a, ρ, h => (evalE a ρ h).bind fun x h1 => match x with
    | .int i => .ok (.int (-i)) h1
    | _ => .bad
  | .cmp o a b, ρ, h => (evalE a ρ h).bind fun x h1 => (evalE b ρ h1).bind fun y h2 => cmpV o x y h2
  | .chn o₁ o₂ a b c, ρ, h => (evalE a ρ h).bind fun x h1 => (evalE b ρ h1).bind fun y h2 => (cmpV o₁ x y h2).bind fun r h3 => match r with
    | .bl true => (evalE c ρ h3).bind fun z h4 => cmpV o₂ y z h4
    | .bl false => .ok (.bl false) h3
    | _ => .bad
  | .and a b, ρ, h => (evalE a ρ h).bind fun x h1 => match x with
    | .bl true => evalE b ρ h1
    | .bl false => .ok (.bl false) h1
    | _ => .bad
  | .or a b, ρ, h => (evalE a ρ h).bind fun x h1 => match x with
    | .bl true => .ok (.bl true) h1
    | .bl false => evalE b ρ h1
    | _ => .bad
  | .not a, ρ, h => (evalE a ρ h).bind fun x h1 => match x with
    | .bl b => .ok (.bl (!b)) h1
    | _ => .bad
  | .ite c a b, ρ, h => (evalE c ρ h).bind fun x h1 => match x with
    | .bl true => evalE a ρ h1
    | .bl false => evalE b ρ h1
    | _ => .bad
  | .tup es, ρ, h => (evalL es ρ h).bind fun vs h1 => if vs.length ≤ 100 then .ok (.tup vs) h1 else .bad
  | .lst m es, ρ, h => (evalL es ρ h).bind fun vs h1 => if vs.length ≤ 1000 then place m (.ok (.lst vs) h1) else .bad
  | .dnew t, _, h => .ok (.ref h.length) (h ++ [.dct false t []])
  | .idx a i, ρ, h => (evalE a ρ h).bind fun x h1 => (evalE i ρ h1).bind fun y h2 => idxV x y h2
  | .slc m a lo hi st, ρ, h => (evalE a ρ h).bind fun x h1 => (intR lo (evalE lo ρ h1)).bind fun l h2 => (intR hi (evalE hi ρ h2)).bind fun u h3 => (intR st (evalE st ρ h3)).bind fun k h4 => place m (slcV x l u k h4)
  | .fld a f, ρ, h => (evalE a ρ h).bind fun x h1 => fldV P f x h1
  | .call f es, ρ, h => (evalL es ρ h).bind fun vs h1 => cf f vs h1
  | .meth m o es, ρ, h => (evalE o ρ h).bind fun x h1 => match methF P m x h1 with
    | some f => (evalL es ρ h1).bind fun vs h2 => cf f (x :: vs) h2
    | none => .bad
  | .bm m o es, ρ, h => (evalE o ρ h).bind fun x h1 => match tyTag h1 x with
    | some t => if bmOk t m then (evalL es ρ h1).bind fun vs h2 => bmV t m x vs h2 else .bad
    | none => .bad
  | .make C es, ρ, h => (evalL es ρ h).bind fun vs h1 => match P.init C with
    | some f => (cf f (.ref h1.length :: vs) (h1 ++ [.ins C []])).bind fun r h2 => match r with
      | .non => .ok (.ref h1.length) h2
      | _ => .bad
    | none => .bad
  | .blt b es, ρ, h => (evalL es ρ h).bind fun vs h1 => bltV b vs h1
  | .lc m own g k es cond e, ρ, h => (evalL es ρ h).bind fun vs h1 =>
      let turn : Vl → Hh → Rs (Option Vl) := fun v h => lcT (bindT g v (wipeE ρ own)) (fun ρ1 h => evalL cond ρ1 h) (fun ρ1 h => evalE e ρ1 h) h
      match walked k vs h1 with
      | .fr xs => if xs.length ≤ 100000 then (lcL turn xs h1).bind fun r h2 => place m (.ok (.lst r) h2) else .bad
      | .cell l n => if n ≤ 100000 then (lcC turn l n 0 h1).bind fun r h2 => place m (.ok (.lst r) h2) else .bad
      | .bad => .bad
def evalL : List Ex → Ev → Hh → Rs (List Vl)
  | [], _, h => .ok [] h
  | e :: es, ρ, h => (evalE e ρ h).bind fun v h1 => (evalL es ρ h1).bind fun vs h2 => .ok (v :: vs) h2
end

/-- a value ahead of a statement's end -/
def Rs.fl {α : Type} (r : Rs α) (ρ : Ev) (f : α → Hh → Fl) : Fl := match r with
  | .ok a h => f a h
  | .exc C h => .ex C ρ h
  | .bad => .bad

def forL (turn : Vl → Ev → Hh → Fl) : List Vl → Ev → Hh → Fl
  | [], ρ, h => .nx ρ h
  | v :: vs, ρ, h => match turn v ρ h with
    | .nx ρ' h' => forL turn vs ρ' h'
    | .ct ρ' h' => forL turn vs ρ' h'
    | .bk ρ' h' => .nx ρ' h'
    | r => r
def forC (turn : Vl → Ev → Hh → Fl) (l : Nat) : Nat → Nat → Ev → Hh → Fl
  | 0, i, ρ, h => match h[l]? with
    | some (.lst xs) => if xs.length ≤ i then .nx ρ h else .bad
    | _ => .bad
  | n + 1, i, ρ, h => match h[l]? with
    | some (.lst xs) => (match xs[i]? with
      | some v => (match turn v ρ h with
        | .nx ρ' h' => forC turn l n (i + 1) ρ' h'
        | .ct ρ' h' => forC turn l n (i + 1) ρ' h'
        | .bk ρ' h' => .nx ρ' h'
        | r => r)
      | none => .nx ρ h)
    | _ => .bad
def whlL (test : Ev → Hh → Rs Vl) (turn : Ev → Hh → Fl) : Nat → Ev → Hh → Fl
  | 0, _, _ => .bad
  | n + 1, ρ, h => Rs.fl (test ρ h) ρ fun x h1 => match x with
    | .bl true => (match turn ρ h1 with
      | .nx ρ' h' => whlL test turn n ρ' h'
      | .ct ρ' h' => whlL test turn n ρ' h'
      | .bk ρ' h' => .nx ρ' h'
      | r => r)
    | .bl false => .nx ρ h1
    | _ => .bad
def setIV (x i v : Vl) (h : Hh) : Option Hh := match x with
  | .ref l => (match h[l]? with
    | some (.lst xs) => (match i with
      | .int k => (ixOf xs.length k).map fun j => h.set l (.lst (xs.set j v))
      | _ => none)
    | some (.dct false t es) => if isKey t i && decide (es.length < 100000) then some (h.set l (.dct false t (dPut es i v))) else none
    | _ => none)
  | _ => none
def putFs (f : Str) (v : Vl) : List (Str × Vl) → List (Str × Vl)
  | [] => [(f, v)]
  | (g, u) :: r => if g = f then (f, v) :: r else (g, u) :: putFs f v r
def setFV (x : Vl) (f : Str) (v : Vl) (h : Hh) : Option Hh := match x with
  | .ref l => (match h[l]? with
    | some (.ins C fs) => if P.fl C f && decide (fs.length < 100) then some (h.set l (.ins C (putFs f v fs))) else none
    | _ => none)
  | _ => none

mutual
def execS : Sm → Ev → Hh → Fl
  | .set i e, ρ, h => Rs.fl (evalE P cf e ρ h) ρ fun v h1 => .nx (ρ.set i (some v)) h1
  | .setT gs e, ρ, h => Rs.fl (evalE P cf e ρ h) ρ fun v h1 => match v with
    | .tup vs => (match bindTs gs vs ρ with
      | some ρ' => .nx ρ' h1
      | none => .bad)
    | _ => .bad
  | .setI o i e, ρ, h => Rs.fl (evalE P cf e ρ h) ρ fun v h1 => Rs.fl (evalE P cf o ρ h1) ρ fun x h2 => Rs.fl (evalE P cf i ρ h2) ρ fun y h3 => match setIV x y v h3 with
    | some h4 => .nx ρ h4
    | none => .bad
  | .setS _ _ _ _, _, _ => .bad
  | .setF o f e, ρ, h => Rs.fl (evalE P cf e ρ h) ρ fun v h1 => Rs.fl (evalE P cf o ρ h1) ρ fun x h2 => match setFV P x f v h2 with
    | some h3 => .nx ρ h3
    | none => .bad
  | .drop e, ρ, h => Rs.fl (evalE P cf e ρ h) ρ fun _ h1 => .nx ρ h1
  | .ret e, ρ, h => Rs.fl (evalE P cf e ρ h) ρ fun v h1 => .rt v h1
  | .retN, _, h => .rt .non h
  | .pass, ρ, h => .nx ρ h
  | .ife c a b, ρ, h => Rs.fl (evalE P cf c ρ h) ρ fun x h1 => match x with
    | .bl true => execB a ρ h1
    | .bl false => execB b ρ h1
    | _ => .bad
  | .for_ g k es body, ρ, h => Rs.fl (evalL P cf es ρ h) ρ fun vs h1 =>
      let turn : Vl → Ev → Hh → Fl := fun v ρ h => match bindT g v ρ with
        | some ρ1 => execB body ρ1 h
        | none => .bad
      match walked k vs h1 with
      | .fr xs => forL turn xs ρ h1
      | .cell l n => forC turn l n 0 ρ h1
      | .bad => .bad
  | .whl n c body, ρ, h => whlL (fun ρ h => evalE P cf c ρ h) (fun ρ h => execB body ρ h) n ρ h
  | .raise C, ρ, h => .ex C ρ h
  | .try_ body C i suite, ρ, h => match execB body ρ h with
    | .ex C' ρ' h' => if P.sub C' C then execB suite ρ' h' else .ex C' ρ' h'
    | r => r
def execB : List Sm → Ev → Hh → Fl
  | [], ρ, h => .nx ρ h
  | s :: r, ρ, h => match execS s ρ h with
    | .nx ρ' h' => execB r ρ' h'
    | f => f
end
end

def startE (F : Fn) (vs : List Vl) : Ev := vs.map some ++ List.replicate (F.size - vs.length) none
def Fl.val : Fl → Rs Vl
  | .nx _ h => .ok .non h
  | .rt v h => .ok v h
  | .ex C _ h => .exc C h
  | _ => .bad
/-- behind a call: what the callee made stands no more; its answer is thawed -/
def clean (n : Nat) (h : Hh) (r : Rs Vl) : Rs Vl := match r with
  | .ok v h' => if (h'.take n).all (obBelow n) then (match thaw deep n h' v with
    | some v' => .ok v' (h'.take n)
    | none => .bad) else .bad
  | .exc C h' => if (h'.take n).all (obBelow n) then .exc C (h'.take n) else .bad
  | .bad => .bad
/-- a call as its def wants it: as it is (keep), apart (no references in), or with what it made dropped -/
def callC (P : Pg) (run : Nat → List Vl → Hh → Rs Vl) (f : Nat) (vs : List Vl) (h : Hh) : Rs Vl := match P.fn f with
  | none => .bad
  | some F => if F.keep then run f vs h else if vs.all (below deep 0) then (match run f vs [] with
      | .ok v h' => (match thaw deep 0 h' v with
        | some v' => .ok v' h
        | none => .bad)
      | .exc C _ => .exc C h
      | .bad => .bad) else clean h.length h (run f vs h)
def run (P : Pg) : Nat → Nat → List Vl → Hh → Rs Vl
  | 0, _, _, _ => .bad
  | d + 1, f, vs, h => match P.fn f with
    | none => .bad
    | some F => if vs.length = F.n then (execB P (callC P (run P d)) F.body (startE F vs) h).val else .bad
end IL
end

section
set_option autoImplicit false
set_option linter.all false
set_option Elab.async false
set_option maxRecDepth 100000
/-! IL: how its values and its local heap lie in the abstract heap of the hand layer. -/
namespace IL
open PySem L2
abbrev Frag := PySem.W.Frag

/-- what of a law's text is known: where its classes stand -/
structure Wd where
  K : Frag
  cls : Nat → Option Addr

def kVl : Key → Vl
  | .inl i => .int i
  | .inr x => .str x

section
variable (D : Wd) (F : Hp) (μ : List Addr)
mutual
inductive RV : Vl → V → Prop
  | non : RV .non .non
  | bl (b : Bool) : RV (.bl b) (.bl b)
  | int (i : Int) : RV (.int i) (.int i)
  | str {x : Str} : PyData.strOk x = true → RV (.str x) (.str x)
  | tup {vs : List Vl} {a : Addr} {us : List V} : F a = some (.tup us) → RVs vs us → RV (.tup vs) (.ref a)
  | lst {vs : List Vl} {a : Addr} {us : List V} : F a = some (.lst us) → RVs vs us → RV (.lst vs) (.ref a)
  | scr {vs : List Vl} {a : Addr} {us : List V} : SqL D.K F a us → RVs vs us → RV (.scr vs) (.ref a)
  | dT {es : List (Vl × Vl)} {a : Addr} {kvs : List (List Key × V)} : F a = some (.dT kvs) → RT es kvs → RV (.dct true es) (.ref a)
  | dK {es : List (Vl × Vl)} {a : Addr} {kvs : List (Key × V)} : F a = some (.dK kvs) → RK es kvs → RV (.dct false es) (.ref a)
  | ins {C : Nat} {fs : List (Str × Vl)} {a A dx : Addr} {gs : List (Str × V)} : F a = some (.ins A dx gs) → D.cls C = some A → RF fs gs → RV (.ins C fs) (.ref a)
  | ref {l : Nat} {a : Addr} : μ[l]? = some a → RV (.ref l) (.ref a)
inductive RVs : List Vl → List V → Prop
  | nil : RVs [] []
  | cons {v : Vl} {u : V} {vs : List Vl} {us : List V} : RV v u → RVs vs us → RVs (v :: vs) (u :: us)
inductive RT : List (Vl × Vl) → List (List Key × V) → Prop
  | nil : RT [] []
  | cons {ks : List Key} {v : Vl} {u : V} {es : List (Vl × Vl)} {kvs : List (List Key × V)} : RV v u → RT es kvs → RT ((.tup (ks.map kVl), v) :: es) ((ks, u) :: kvs)
inductive RK : List (Vl × Vl) → List (Key × V) → Prop
  | nil : RK [] []
  | cons {k : Key} {v : Vl} {u : V} {es : List (Vl × Vl)} {kvs : List (Key × V)} : RV v u → RK es kvs → RK ((kVl k, v) :: es) ((k, u) :: kvs)
inductive RF : List (Str × Vl) → List (Str × V) → Prop
  | nil : RF [] []
  | cons {f : Str} {v : Vl} {u : V} {fs : List (Str × Vl)} {gs : List (Str × V)} : RV v u → RF fs gs → RF ((f, v) :: fs) ((f, u) :: gs)
end
end

/-- the frozen objects stand; a dict may be locked -/
def FSub (F H : Hp) : Prop := ∀ a o, F a = some o → H a = some o ∨ ∃ ob, H a = some (.frz ob o) ∧ ((∃ kvs, o = .dT kvs) ∨ ∃ kvs, o = .dK kvs)
def FExt (F F' : Hp) : Prop := ∀ a o, F a = some o → F' a = some o
def MExt (μ μ' : List Addr) : Prop := ∃ t, μ' = μ ++ t

theorem FExt.refl (F : Hp) : FExt F F := fun _ _ h => h
theorem FExt.trans {F G J : Hp} (a : FExt F G) (b : FExt G J) : FExt F J := fun c o h => b c o (a c o h)
theorem MExt.refl (μ : List Addr) : MExt μ μ := ⟨[], by simp⟩
theorem MExt.trans {a b c : List Addr} (h : MExt a b) (k : MExt b c) : MExt a c := by
  obtain ⟨t, rfl⟩ := h
  obtain ⟨u, rfl⟩ := k
  exact ⟨t ++ u, by simp⟩
theorem MExt.get {μ μ' : List Addr} (h : MExt μ μ') {l : Nat} {a : Addr} (e : μ[l]? = some a) : μ'[l]? = some a := by
  obtain ⟨t, rfl⟩ := h
  rw [List.getElem?_append_left (List.getElem?_eq_some_iff.mp e).1]
  exact e
theorem SqL_mono {K : Frag} {F G : Hp} {a : Addr} {us : List V} (e : FExt F G) (h : SqL K F a us) : SqL K G a us := by
  rcases h with (h | ⟨o, h⟩) | h
  · exact .inl (.inl (e _ _ h))
  · exact .inl (.inr ⟨o, e _ _ h⟩)
  · exact .inr h
theorem SqT_mono {K : Frag} {F G : Hp} {a : Addr} {us : List V} (e : FExt F G) (h : SqT K F a us) : SqT K G a us := by
  rcases h with (h | ⟨o, h⟩) | h
  · exact .inl (.inl (e _ _ h))
  · exact .inl (.inr ⟨o, e _ _ h⟩)
  · exact .inr h
theorem FSub.sqL {K : Frag} {F H : Hp} {a : Addr} {us : List V} (e : FSub F H) (h : SqL K F a us) : SqL K H a us := by
  rcases h with (h | ⟨o, h⟩) | h
  · rcases e _ _ h with q | ⟨ob, _, ⟨k, q⟩ | ⟨k, q⟩⟩
    · exact .inl (.inl q)
    · cases q
    · cases q
  · rcases e _ _ h with q | ⟨ob, _, ⟨k, q⟩ | ⟨k, q⟩⟩
    · exact .inl (.inr ⟨_, q⟩)
    · cases q
    · cases q
  · exact .inr h
theorem FSub.sqT {K : Frag} {F H : Hp} {a : Addr} {us : List V} (e : FSub F H) (h : SqT K F a us) : SqT K H a us := by
  rcases h with (h | ⟨o, h⟩) | h
  · rcases e _ _ h with q | ⟨ob, _, ⟨k, q⟩ | ⟨k, q⟩⟩
    · exact .inl (.inl q)
    · cases q
    · cases q
  · rcases e _ _ h with q | ⟨ob, _, ⟨k, q⟩ | ⟨k, q⟩⟩
    · exact .inl (.inr ⟨_, q⟩)
    · cases q
    · cases q
  · exact .inr h
theorem FSub.tup {F H : Hp} {a : Addr} {us : List V} (e : FSub F H) (h : F a = some (.tup us)) : H a = some (.tup us) := by
  rcases e _ _ h with q | ⟨ob, _, ⟨k, q⟩ | ⟨k, q⟩⟩
  · exact q
  · cases q
  · cases q
theorem FSub.none {F H : Hp} {a : Addr} (e : FSub F H) (h : H a = none) : F a = none := by
  cases q : F a with
  | none => rfl
  | some o =>
    rcases e _ _ q with z | ⟨ob, z, _⟩
    · rw [h] at z; cases z
    · rw [h] at z; cases z

section
variable {D : Wd} {F G : Hp} {μ ν : List Addr}
mutual
theorem RV.mono (hF : FExt F G) (hm : MExt μ ν) : ∀ {v : Vl} {u : V}, RV D F μ v u → RV D G ν v u
  | _, _, .non => .non
  | _, _, .bl b => .bl b
  | _, _, .int i => .int i
  | _, _, .str x => .str x
  | _, _, .tup h r => .tup (hF _ _ h) (RVs.mono hF hm r)
  | _, _, .lst h r => .lst (hF _ _ h) (RVs.mono hF hm r)
  | _, _, .scr h r => .scr (SqL_mono hF h) (RVs.mono hF hm r)
  | _, _, .dT h r => .dT (hF _ _ h) (RT.mono hF hm r)
  | _, _, .dK h r => .dK (hF _ _ h) (RK.mono hF hm r)
  | _, _, .ins h c r => .ins (hF _ _ h) c (RF.mono hF hm r)
  | _, _, .ref h => .ref (hm.get h)
theorem RVs.mono (hF : FExt F G) (hm : MExt μ ν) : ∀ {vs : List Vl} {us : List V}, RVs D F μ vs us → RVs D G ν vs us
  | _, _, .nil => .nil
  | _, _, .cons r t => .cons (RV.mono hF hm r) (RVs.mono hF hm t)
theorem RT.mono (hF : FExt F G) (hm : MExt μ ν) : ∀ {es : List (Vl × Vl)} {kvs : List (List Key × V)}, RT D F μ es kvs → RT D G ν es kvs
  | _, _, .nil => .nil
  | _, _, .cons r t => .cons (RV.mono hF hm r) (RT.mono hF hm t)
theorem RK.mono (hF : FExt F G) (hm : MExt μ ν) : ∀ {es : List (Vl × Vl)} {kvs : List (Key × V)}, RK D F μ es kvs → RK D G ν es kvs
  | _, _, .nil => .nil
  | _, _, .cons r t => .cons (RV.mono hF hm r) (RK.mono hF hm t)
theorem RF.mono (hF : FExt F G) (hm : MExt μ ν) : ∀ {fs : List (Str × Vl)} {gs : List (Str × V)}, RF D F μ fs gs → RF D G ν fs gs
  | _, _, .nil => .nil
  | _, _, .cons r t => .cons (RV.mono hF hm r) (RF.mono hF hm t)
end
theorem RVs.length : ∀ {vs : List Vl} {us : List V}, RVs D F μ vs us → vs.length = us.length
  | _, _, .nil => rfl
  | _, _, .cons _ t => by simp [RVs.length t]
theorem RVs.get : ∀ {vs : List Vl} {us : List V} {i : Nat} {v : Vl}, RVs D F μ vs us → vs[i]? = some v → ∃ u, us[i]? = some u ∧ RV D F μ v u
  | _, _, _, _, .nil, e => by simp at e
  | _, _, 0, _, .cons r _, e => by simp at e; subst e; exact ⟨_, rfl, r⟩
  | _, _, i + 1, _, .cons _ t, e => by simpa using RVs.get (i := i) t (by simpa using e)
theorem RVs.get' : ∀ {vs : List Vl} {us : List V} {i : Nat} {u : V}, RVs D F μ vs us → us[i]? = some u → ∃ v, vs[i]? = some v ∧ RV D F μ v u
  | _, _, _, _, .nil, e => by simp at e
  | _, _, 0, _, .cons r _, e => by simp at e; subst e; exact ⟨_, rfl, r⟩
  | _, _, i + 1, _, .cons _ t, e => by simpa using RVs.get' (i := i) t (by simpa using e)
theorem RVs.append : ∀ {vs ws : List Vl} {us xs : List V}, RVs D F μ vs us → RVs D F μ ws xs → RVs D F μ (vs ++ ws) (us ++ xs)
  | _, _, _, _, .nil, k => k
  | _, _, _, _, .cons r t, k => .cons r (RVs.append t k)
theorem RVs.set {v : Vl} {u : V} (r : RV D F μ v u) : ∀ {vs : List Vl} {us : List V} (i : Nat), RVs D F μ vs us → RVs D F μ (vs.set i v) (us.set i u)
  | _, _, _, .nil => .nil
  | _, _, 0, .cons _ t => .cons r t
  | _, _, i + 1, .cons q t => .cons q (RVs.set r i t)
theorem RVs.take : ∀ {vs : List Vl} {us : List V} (n : Nat), RVs D F μ vs us → RVs D F μ (vs.take n) (us.take n)
  | _, _, 0, _ => by simpa using RVs.nil
  | _, _, _ + 1, .nil => .nil
  | _, _, n + 1, .cons r t => .cons r (RVs.take n t)
theorem RVs.drop : ∀ {vs : List Vl} {us : List V} (n : Nat), RVs D F μ vs us → RVs D F μ (vs.drop n) (us.drop n)
  | _, _, 0, r => by simpa using r
  | _, _, _ + 1, .nil => .nil
  | _, _, n + 1, .cons _ t => by simpa using RVs.drop n t
theorem RVs.reverse {vs : List Vl} {us : List V} (h : RVs D F μ vs us) : RVs D F μ vs.reverse us.reverse := by
  induction vs generalizing us with
  | nil => cases h; exact .nil
  | cons v r ih =>
    cases h with
    | cons h1 h2 =>
      simp only [List.reverse_cons]
      exact (ih h2).append (.cons h1 .nil)
end

/-- an object of the local heap -/
inductive RO (D : Wd) (F : Hp) (μ : List Addr) : Ob → HO → Prop
  | lst {vs : List Vl} {us : List V} : RVs D F μ vs us → RO D F μ (.lst vs) (.lst us)
  | dT {es : List (Vl × Vl)} {kvs : List (List Key × V)} : RT D F μ es kvs → RO D F μ (.dct false true es) (.dT kvs)
  | dK {es : List (Vl × Vl)} {kvs : List (Key × V)} : RK D F μ es kvs → RO D F μ (.dct false false es) (.dK kvs)
  | lT {es : List (Vl × Vl)} {kvs : List (List Key × V)} {ob : Obj} : RT D F μ es kvs → RO D F μ (.dct true true es) (.frz ob (.dT kvs))
  | lK {es : List (Vl × Vl)} {kvs : List (Key × V)} {ob : Obj} : RK D F μ es kvs → RO D F μ (.dct true false es) (.frz ob (.dK kvs))
  | ins {C : Nat} {A dx : Addr} {fs : List (Str × Vl)} {gs : List (Str × V)} : D.cls C = some A → RF D F μ fs gs → RO D F μ (.ins C fs) (.ins A dx gs)
theorem RO.mono {D : Wd} {F G : Hp} {μ ν : List Addr} (hF : FExt F G) (hm : MExt μ ν) {o : Ob} {u : HO} (h : RO D F μ o u) : RO D G ν o u := by
  cases h with
  | lst r => exact .lst (r.mono hF hm)
  | dT r => exact .dT (r.mono hF hm)
  | dK r => exact .dK (r.mono hF hm)
  | lT r => exact .lT (r.mono hF hm)
  | lK r => exact .lK (r.mono hF hm)
  | ins c r => exact .ins c (r.mono hF hm)

/-- the state but the frame -/
structure CS (D : Wd) (F : Hp) (μ : List Addr) (h : Hh) (H : Hp) : Prop where
  sub : FSub F H
  len : h.length = μ.length
  inj : μ.Nodup
  ob : ∀ (l : Nat) (o : Ob), h[l]? = some o → ∃ a u, μ[l]? = some a ∧ F a = none ∧ H a = some u ∧ RO D F μ o u

/-- what happened to the heap -/
structure Xt (F : Hp) (μ : List Addr) (H : Hp) (F' : Hp) (μ' : List Addr) (H' : Hp) : Prop where
  f : FExt F F'
  m : MExt μ μ'
  keep : ∀ a o, H a = some o → a ∉ μ → H' a = some o
  there : ∀ a, H a ≠ none → H' a ≠ none
  fnew : ∀ a o, F' a = some o → F a = some o ∨ H a = none ∨ ∃ xs, o = .tup xs
  mnew : ∀ a, a ∈ μ' → a ∈ μ ∨ H a = none
theorem Xt.refl (F : Hp) (μ : List Addr) (H : Hp) : Xt F μ H F μ H :=
  ⟨.refl _, .refl _, fun _ _ h _ => h, fun _ h => h, fun _ _ h => .inl h, fun _ h => .inl h⟩
theorem Xt.trans {F G J : Hp} {μ ν ξ : List Addr} {H H1 H2 : Hp} (a : Xt F μ H G ν H1) (b : Xt G ν H1 J ξ H2) : Xt F μ H J ξ H2 where
  f := a.f.trans b.f
  m := a.m.trans b.m
  keep := fun x o h n => b.keep x o (a.keep x o h n) fun z => by
    rcases a.mnew x z with q | q
    · exact n q
    · rw [q] at h; cases h
  there := fun x h => b.there x (a.there x h)
  fnew := fun x o h => by
    rcases b.fnew x o h with q | q | q
    · exact a.fnew x o q
    · refine .inr (.inl ?_)
      cases z : H x with
      | none => rfl
      | some u => exact absurd q (a.there x (by rw [z]; simp))
    · exact .inr (.inr q)
  mnew := fun x h => by
    rcases b.mnew x h with q | q
    · exact a.mnew x q
    · refine .inr ?_
      cases z : H x with
      | none => rfl
      | some u => exact absurd q (a.there x (by rw [z]; simp))

/-- behind an evaluation -/
def Post {α β : Type} (D : Wd) (R : Hp → List Addr → α → β → Prop) (F : Hp) (μ : List Addr) (H : Hp) (r : Rs α) (Q : β → Hp → Prop) (W : XK) : Prop := match r with
  | .ok v h' => ∀ F' μ' H' u, Xt F μ H F' μ' H' → CS D F' μ' h' H' → R F' μ' v u → Q u H'
  | .exc C h' => ∀ F' μ' H' A, Xt F μ H F' μ' H' → CS D F' μ' h' H' → D.cls C = some A → W (.ref A) none H'
  | .bad => False
abbrev PostV (D : Wd) := Post D (RV D)
abbrev PostL (D : Wd) := Post D (RVs D)

theorem Post.bind {α β γ δ : Type} {D : Wd} {R : Hp → List Addr → α → γ → Prop} {S : Hp → List Addr → β → δ → Prop} {F : Hp} {μ : List Addr} {H : Hp} {r : Rs α} {f : α → Hh → Rs β} {Q : δ → Hp → Prop} {W : XK}
    (p : Post D S F μ H (r.bind f) Q W) :
    Post D R F μ H r (fun u H1 => ∃ F1 μ1 v h1, Xt F μ H F1 μ1 H1 ∧ CS D F1 μ1 h1 H1 ∧ R F1 μ1 v u ∧ Post D S F1 μ1 H1 (f v h1) Q W) W := by
  cases r with
  | bad => exact p
  | exc C h1 => exact p
  | ok v h1 =>
    intro F1 μ1 H1 u x c rv
    refine ⟨F1, μ1, v, h1, x, c, rv, ?_⟩
    have p : Post D S F μ H (f v h1) Q W := p
    cases e : f v h1 with
    | bad => rw [e] at p; exact p
    | exc C h2 => rw [e] at p; exact fun F2 μ2 H2 A x2 c2 k => p F2 μ2 H2 A (x.trans x2) c2 k
    | ok w h2 => rw [e] at p; exact fun F2 μ2 H2 u2 x2 c2 r2 => p F2 μ2 H2 u2 (x.trans x2) c2 r2
theorem Post.mono {α β : Type} {D : Wd} {R : Hp → List Addr → α → β → Prop} {F : Hp} {μ : List Addr} {H : Hp} {r : Rs α} {Q Q' : β → Hp → Prop} {W : XK} (p : Post D R F μ H r Q W) (q : ∀ u H', Q u H' → Q' u H') : Post D R F μ H r Q' W := by
  cases r with
  | bad => exact p
  | exc C h1 => exact p
  | ok v h1 => exact fun F1 μ1 H1 u x c rv => q _ _ (p F1 μ1 H1 u x c rv)

/-! ### changes of the heap -/
theorem Nodup.ne_of {α : Type} {μ : List α} (n : μ.Nodup) {i j : Nat} {a b : α} (hi : μ[i]? = some a) (hj : μ[j]? = some b) (h : i ≠ j) : a ≠ b := by
  intro e
  subst e
  obtain ⟨h1, e1⟩ := List.getElem?_eq_some_iff.mp hi
  obtain ⟨h2, e2⟩ := List.getElem?_eq_some_iff.mp hj
  exact h ((List.getElem_inj n).mp (e1.trans e2.symm))
section
variable {D : Wd} {F : Hp} {μ : List Addr} {h : Hh} {H : Hp}
theorem CS.mem (c : CS D F μ h H) {a : Addr} (ha : a ∈ μ) : ∃ u, F a = none ∧ H a = some u := by
  obtain ⟨l, hl, e⟩ := List.mem_iff_getElem.mp ha
  have hl' : l < h.length := by rw [c.len]; exact hl
  obtain ⟨b, u, e1, e2, e3, _⟩ := c.ob l h[l] (List.getElem?_eq_getElem hl')
  have : b = a := by
    rw [List.getElem?_eq_getElem hl] at e1
    rw [← e]
    exact (Option.some.inj e1).symm
  subst this
  exact ⟨u, e2, e3⟩
theorem FExt.upd {p : Addr} {o : HO} (hn : F p = none) : FExt F (upd F p o) := fun a u e => by
  rw [upd_ne (ne_of_none e hn)]; exact e
/-- a new frozen object -/
theorem CS.new (c : CS D F μ h H) {p : Addr} (hp : H p = none) (o : HO) : CS D (upd F p o) μ h (upd H p o) ∧ Xt F μ H (upd F p o) μ (upd H p o) := by
  have fp := c.sub.none hp
  have hF : FExt F (upd F p o) := FExt.upd fp
  refine ⟨⟨fun a u e => ?_, c.len, c.inj, fun l ob e => ?_⟩, ⟨hF, .refl _, fun a u e _ => ?_, fun a e => ?_, fun a u e => ?_, fun a e => .inl e⟩⟩
  · by_cases q : a = p
    · subst q; rw [upd_same] at e; cases e; exact .inl upd_same
    · rw [upd_ne q] at e ⊢; exact c.sub a u e
  · obtain ⟨a, u, e1, e2, e3, e4⟩ := c.ob l ob e
    have q : a ≠ p := ne_of_none e3 hp
    exact ⟨a, u, e1, by rw [upd_ne q]; exact e2, by rw [upd_ne q]; exact e3, e4.mono hF (.refl _)⟩
  · rw [upd_ne (ne_of_none e hp)]; exact e
  · by_cases q : a = p
    · subst q; exact absurd hp e
    · rw [upd_ne q]; exact e
  · by_cases q : a = p
    · subst q; exact .inr (.inl hp)
    · rw [upd_ne q] at e; exact .inl e
/-- a new place of the local heap -/
theorem CS.place (c : CS D F μ h H) {p : Addr} (hp : H p = none) {o : Ob} {u : HO} (r : RO D F (μ ++ [p]) o u) : CS D F (μ ++ [p]) (h ++ [o]) (upd H p u) ∧ Xt F μ H F (μ ++ [p]) (upd H p u) := by
  have hm : MExt μ (μ ++ [p]) := ⟨[p], rfl⟩
  have np : p ∉ μ := fun z => by
    obtain ⟨u, _, e⟩ := c.mem z
    rw [hp] at e; cases e
  refine ⟨⟨fun a o' e => ?_, by simp [c.len], ?_, fun l ob e => ?_⟩, ⟨.refl _, hm, fun a o' e _ => ?_, fun a e => ?_, fun a o' e => .inl e, fun a e => ?_⟩⟩
  · have q : a ≠ p := fun z => by
      subst z
      rw [c.sub.none hp] at e; cases e
    rw [upd_ne q]; exact c.sub a o' e
  · rw [List.nodup_append]
    refine ⟨c.inj, by simp, fun a ha b hb => ?_⟩
    simp at hb
    subst hb
    exact fun z => np (z ▸ ha)
  · by_cases q : l < h.length
    · rw [List.getElem?_append_left q] at e
      obtain ⟨a, o', e1, e2, e3, e4⟩ := c.ob l ob e
      have qa : a ≠ p := ne_of_none e3 hp
      exact ⟨a, o', hm.get e1, e2, by rw [upd_ne qa]; exact e3, e4.mono (.refl _) hm⟩
    · have ql : l = h.length := by
        have := (List.getElem?_eq_some_iff.mp e).1
        simp at this; omega
      subst ql
      rw [List.getElem?_append_right (Nat.le_refl _)] at e
      simp at e
      subst e
      refine ⟨p, u, ?_, c.sub.none hp, upd_same, r⟩
      rw [c.len, List.getElem?_append_right (Nat.le_refl _)]; simp
  · rw [upd_ne (ne_of_none e hp)]; exact e
  · by_cases q : a = p
    · subst q; exact absurd hp e
    · rw [upd_ne q]; exact e
  · rcases List.mem_append.mp e with q | q
    · exact .inl q
    · simp at q; subst q; exact .inr hp
/-- an object of the local heap changed -/
theorem CS.put (c : CS D F μ h H) {l : Nat} {a : Addr} (hl : l < h.length) (ha : μ[l]? = some a) {o : Ob} {u : HO} (r : RO D F μ o u) : CS D F μ (h.set l o) (upd H a u) ∧ Xt F μ H F μ (upd H a u) := by
  have am : a ∈ μ := List.mem_of_getElem? ha
  obtain ⟨u0, f0, h0⟩ := c.mem am
  refine ⟨⟨fun b o' e => ?_, by simp [c.len], c.inj, fun m ob e => ?_⟩, ⟨.refl _, .refl _, fun b o' e n => ?_, fun b e => ?_, fun b o' e => .inl e, fun b e => .inl e⟩⟩
  · have q : b ≠ a := fun z => by
      subst z
      rw [f0] at e; cases e
    rw [upd_ne q]; exact c.sub b o' e
  · by_cases q : l = m
    · subst q
      rw [List.getElem?_set_self hl] at e
      cases e
      exact ⟨a, u, ha, f0, upd_same, r⟩
    · rw [List.getElem?_set_ne q] at e
      obtain ⟨b, o', e1, e2, e3, e4⟩ := c.ob m ob e
      have qb : b ≠ a := Nodup.ne_of c.inj e1 ha (Ne.symm q)
      exact ⟨b, o', e1, e2, by rw [upd_ne qb]; exact e3, e4⟩
  · have q : b ≠ a := fun z => n (z ▸ am)
    rw [upd_ne q]; exact e
  · by_cases q : b = a
    · subst q; rw [upd_same]; simp
    · rw [upd_ne q]; exact e
end
end IL
end

section
set_option autoImplicit false
set_option linter.all false
set_option Elab.async false
set_option maxRecDepth 100000
set_option maxHeartbeats 1000000
/-! IL: the operators, by values. -/
namespace IL
open PySem L2

theorem FSub.lst {F H : Hp} {a : Addr} {us : List V} (e : FSub F H) (h : F a = some (.lst us)) : H a = some (.lst us) := by
  rcases e _ _ h with q | ⟨ob, _, ⟨k, q⟩ | ⟨k, q⟩⟩
  · exact q
  · cases q
  · cases q
theorem FSub.ins {F H : Hp} {a A dx : Addr} {gs : List (Str × V)} (e : FSub F H) (h : F a = some (.ins A dx gs)) : H a = some (.ins A dx gs) := by
  rcases e _ _ h with q | ⟨ob, _, ⟨k, q⟩ | ⟨k, q⟩⟩
  · exact q
  · cases q
  · cases q
section
variable {D : Wd} {F : Hp} {μ : List Addr} {h : Hh} {H : Hp}
/-- a list of ours, as it stands -/
theorem asList_ok (c : CS D F μ h H) {v : Vl} {u : V} (r : RV D F μ v u) {vs : List Vl} (e : asList h v = some vs) : ∃ a us, u = .ref a ∧ H a = some (.lst us) ∧ RVs D F μ vs us := by
  cases r with
  | lst hf rs =>
    simp only [asList, Option.some.injEq] at e
    subst e
    exact ⟨_, _, rfl, c.sub.lst hf, rs⟩
  | @ref l a hm =>
    simp only [asList] at e
    split at e
    · rename_i xs hx
      cases e
      obtain ⟨b, o, e1, e2, e3, e4⟩ := c.ob l _ hx
      rw [hm] at e1
      cases e1
      cases e4 with
      | lst rs => exact ⟨_, _, rfl, e3, rs⟩
    · cases e
  | _ => simp [asList] at e
theorem asSeq_ok (c : CS D F μ h H) {v : Vl} {u : V} (r : RV D F μ v u) {vs : List Vl} (e : asSeq h v = some vs) : ∃ a us, u = .ref a ∧ (SqL D.K H a us ∨ SqT D.K H a us) ∧ RVs D F μ vs us := by
  cases r with
  | tup hf rs =>
    simp only [asSeq, Option.some.injEq] at e
    subst e
    exact ⟨_, _, rfl, .inr (.of (c.sub.tup hf)), rs⟩
  | scr hf rs =>
    simp only [asSeq, Option.some.injEq] at e
    subst e
    exact ⟨_, _, rfl, .inl (c.sub.sqL hf), rs⟩
  | lst hf rs =>
    obtain ⟨a, us, e1, e2, e3⟩ := asList_ok c (.lst hf rs) e
    exact ⟨a, us, e1, .inl (.of e2), e3⟩
  | ref hm =>
    obtain ⟨a, us, e1, e2, e3⟩ := asList_ok c (.ref hm) e
    exact ⟨a, us, e1, .inl (.of e2), e3⟩
  | _ => simp [asSeq, asList] at e

/-! ### a new list, tuple -/
theorem post_lst (c : CS D F μ h H) {vs : List Vl} {us : List V} (r : RVs D F μ vs us) {Q : V → Hp → Prop} {W : XK} (p : PostV D F μ H (.ok (.lst vs) h) Q W) {a : Addr} (ha : H a = none) : Q (.ref a) (upd H a (.lst us)) := by
  obtain ⟨c', x⟩ := c.new ha (.lst us)
  exact p _ _ _ _ x c' (.lst upd_same (r.mono x.f x.m))
theorem post_tup (c : CS D F μ h H) {vs : List Vl} {us : List V} (r : RVs D F μ vs us) {Q : V → Hp → Prop} {W : XK} (p : PostV D F μ H (.ok (.tup vs) h) Q W) {a : Addr} (ha : H a = none) : Q (.ref a) (upd H a (.tup us)) := by
  obtain ⟨c', x⟩ := c.new ha (.tup us)
  exact p _ _ _ _ x c' (.tup upd_same (r.mono x.f x.m))
theorem post_same {v : Vl} {u : V} (c : CS D F μ h H) (r : RV D F μ v u) {Q : V → Hp → Prop} {W : XK} (p : PostV D F μ H (.ok v h) Q W) : Q u H := p _ _ _ _ (.refl _ _ _) c r
theorem place_lst (m : Bool) (c : CS D F μ h H) {vs : List Vl} {us : List V} (r : RVs D F μ vs us) {Q : V → Hp → Prop} {W : XK} (p : PostV D F μ H (place m (.ok (.lst vs) h)) Q W) {a : Addr} (ha : H a = none) : Q (.ref a) (upd H a (.lst us)) := by
  cases m with
  | false => exact post_lst c r p ha
  | true =>
    have p : PostV D F μ H (.ok (.ref h.length) (h ++ [.lst vs])) Q W := p
    obtain ⟨c', x⟩ := c.place (o := .lst vs) (u := .lst us) ha (.lst (r.mono (.refl _) ⟨[a], rfl⟩))
    exact p _ _ _ _ x c' (.ref (by rw [c.len, List.getElem?_append_right (Nat.le_refl _)]; simp))
end

/-! ### data: == and != -/
mutual
def toPd : Vl → PyData
  | .non => .none
  | .bl b => .bool b
  | .int i => .int i
  | .str x => .str x
  | .tup vs => .tuple (toPds vs)
  | .lst vs => .list (toPds vs)
  | .scr vs => .list (toPds vs)
  | _ => .none
def toPds : List Vl → List PyData
  | [] => []
  | v :: vs => toPd v :: toPds vs
end
theorem isData_tup {d : Nat} {vs : List Vl} (h : isData d (.tup vs) = true) : ∃ k, d = k + 1 ∧ ∀ v ∈ vs, isData k v = true := by
  cases d with
  | zero => simp [isData] at h
  | succ k => exact ⟨k, rfl, by simpa [isData, List.all_eq_true] using h⟩
theorem isData_lst {d : Nat} {vs : List Vl} (h : isData d (.lst vs) = true) : ∃ k, d = k + 1 ∧ ∀ v ∈ vs, isData k v = true := by
  cases d with
  | zero => simp [isData] at h
  | succ k => exact ⟨k, rfl, by simpa [isData, List.all_eq_true] using h⟩
theorem isData_scr {d : Nat} {vs : List Vl} (h : isData d (.scr vs) = true) : ∃ k, d = k + 1 ∧ ∀ v ∈ vs, isData k v = true := by
  cases d with
  | zero => simp [isData] at h
  | succ k => exact ⟨k, rfl, by simpa [isData, List.all_eq_true] using h⟩
theorem isData_no {d : Nat} {v : Vl} (h : isData d v = true) : (∀ t es, v ≠ .dct t es) ∧ (∀ C fs, v ≠ .ins C fs) ∧ ∀ l, v ≠ .ref l := by
  cases d with
  | zero => simp [isData] at h
  | succ k => cases v <;> simp [isData] at h ⊢
section
variable {D : Wd} {F : Hp} {μ : List Addr} {h : Hh} {H : Hp}
mutual
theorem data_ok (c : CS D F μ h H) : ∀ (d : Nat) (v : Vl) (u : V), RV D F μ v u → isData d v = true → Dp D.K H u (toPd v) ∧ (toPd v).canLay0 = true ∧ (toPd v).depth ≤ d
  | _, .non, _, r, h => by cases r; exact ⟨.non, by simp [toPd, PyData.canLay0], by simp [toPd, PyData.depth]⟩
  | _, .bl b, _, r, h => by cases r; exact ⟨.bl b, by simp [toPd, PyData.canLay0], by simp [toPd, PyData.depth]⟩
  | _, .int i, _, r, h => by cases r; exact ⟨.int i, by simp [toPd, PyData.canLay0], by simp [toPd, PyData.depth]⟩
  | _, .str x, _, r, h => by
    cases r with
    | str k => exact ⟨.str x, by simpa [toPd, PyData.canLay0] using k, by simp [toPd, PyData.depth]⟩
  | d, .tup vs, _, r, h => by
    obtain ⟨k, rfl, q⟩ := isData_tup h
    cases r with
    | tup hf rs =>
      obtain ⟨dp, a, b⟩ := datas_ok c k vs _ rs q
      exact ⟨.tup (.of (c.sub.tup hf)) dp, by simpa [toPd, PyData.canLay0] using a, by simp [toPd, PyData.depth]; omega⟩
  | d, .lst vs, _, r, h => by
    obtain ⟨k, rfl, q⟩ := isData_lst h
    cases r with
    | lst hf rs =>
      obtain ⟨dp, a, b⟩ := datas_ok c k vs _ rs q
      exact ⟨.lst (.of (c.sub.lst hf)) dp, by simpa [toPd, PyData.canLay0] using a, by simp [toPd, PyData.depth]; omega⟩
  | d, .scr vs, _, r, h => by
    obtain ⟨k, rfl, q⟩ := isData_scr h
    cases r with
    | scr hf rs =>
      obtain ⟨dp, a, b⟩ := datas_ok c k vs _ rs q
      exact ⟨.lst (c.sub.sqL hf) dp, by simpa [toPd, PyData.canLay0] using a, by simp [toPd, PyData.depth]; omega⟩
  | _, .dct t es, _, _, h => absurd rfl ((isData_no h).1 t es)
  | _, .ins C fs, _, _, h => absurd rfl ((isData_no h).2.1 C fs)
  | _, .ref l, _, _, h => absurd rfl ((isData_no h).2.2 l)
theorem datas_ok (c : CS D F μ h H) : ∀ (d : Nat) (vs : List Vl) (us : List V), RVs D F μ vs us → (∀ v ∈ vs, isData d v = true) → DpAll D.K H us (toPds vs) ∧ PyData.canLayAll0 (toPds vs) = true ∧ PyData.depthAll (toPds vs) ≤ d
  | _, [], _, r, _ => by cases r; exact ⟨.nil, by simp [toPds, PyData.canLayAll0], by simp [toPds, PyData.depthAll]⟩
  | d, v :: vs, _, r, h => by
    cases r with
    | cons r1 r2 =>
      obtain ⟨p, a, b⟩ := data_ok c d v _ r1 (h v (by simp))
      obtain ⟨p', a', b'⟩ := datas_ok c d vs _ r2 fun w hw => h w (by simp [hw])
      exact ⟨.cons p p', by simp [toPds, PyData.canLayAll0, a, a'], by simp [toPds, PyData.depthAll]; omega⟩
end
theorem shaped_of {p : PyData} {d : Nat} (a : p.canLay0 = true) (b : p.depth ≤ d) (hd : d ≤ 64) : SeqAt.shaped p = true := by
  unfold SeqAt.shaped
  rw [a, Bool.true_and]
  exact decide_eq_true (Nat.le_trans b hd)
end
mutual
theorem pd_eqv : ∀ (d e : Nat) (v w : Vl), isData d v = true → isData e w = true → PyData.eqv (toPd v) (toPd w) = eqv v w
  | d, e, v, w, hv, hw => by
    have nv := isData_no hv
    have nw := isData_no hw
    cases v <;> cases w <;> first
      | exact absurd rfl (nv.1 _ _)
      | exact absurd rfl (nv.2.1 _ _)
      | exact absurd rfl (nv.2.2 _)
      | exact absurd rfl (nw.1 _ _)
      | exact absurd rfl (nw.2.1 _ _)
      | exact absurd rfl (nw.2.2 _)
      | (simp only [toPd, PyData.eqv, eqv]; done)
      | skip
    case tup.tup vs ws =>
      obtain ⟨k, rfl, q⟩ := isData_tup hv
      obtain ⟨j, rfl, q'⟩ := isData_tup hw
      simp only [toPd, PyData.eqv, eqv]
      exact pd_eqvs k j vs ws q q'
    case lst.lst vs ws =>
      obtain ⟨k, rfl, q⟩ := isData_lst hv
      obtain ⟨j, rfl, q'⟩ := isData_lst hw
      simp only [toPd, PyData.eqv, eqv]
      exact pd_eqvs k j vs ws q q'
    case lst.scr vs ws =>
      obtain ⟨k, rfl, q⟩ := isData_lst hv
      obtain ⟨j, rfl, q'⟩ := isData_scr hw
      simp only [toPd, PyData.eqv, eqv]
      exact pd_eqvs k j vs ws q q'
    case scr.lst vs ws =>
      obtain ⟨k, rfl, q⟩ := isData_scr hv
      obtain ⟨j, rfl, q'⟩ := isData_lst hw
      simp only [toPd, PyData.eqv, eqv]
      exact pd_eqvs k j vs ws q q'
    case scr.scr vs ws =>
      obtain ⟨k, rfl, q⟩ := isData_scr hv
      obtain ⟨j, rfl, q'⟩ := isData_scr hw
      simp only [toPd, PyData.eqv, eqv]
      exact pd_eqvs k j vs ws q q'
theorem pd_eqvs : ∀ (d e : Nat) (vs ws : List Vl), (∀ v ∈ vs, isData d v = true) → (∀ w ∈ ws, isData e w = true) → PyData.eqvAll (toPds vs) (toPds ws) = eqvs vs ws
  | _, _, [], [], _, _ => by simp only [toPds, PyData.eqvAll, eqvs]
  | _, _, [], _ :: _, _, _ => by simp only [toPds, PyData.eqvAll, eqvs]
  | _, _, _ :: _, [], _, _ => by simp only [toPds, PyData.eqvAll, eqvs]
  | d, e, v :: vs, w :: ws, hv, hw => by
    simp only [toPds, PyData.eqvAll, eqvs]
    rw [pd_eqv d e v w (hv v (by simp)) (hw w (by simp)), pd_eqvs d e vs ws (fun x hx => hv x (by simp [hx])) fun x hx => hw x (by simp [hx])]
end
end IL
end

section
set_option autoImplicit false
set_option linter.all false
set_option Elab.async false
set_option maxRecDepth 100000
set_option maxHeartbeats 1000000
/-! IL: values thawed. -/
namespace IL
open PySem L2
section
variable {D : Wd} {F G : Hp} {μ ν : List Addr}
theorem RVs.each {P : Vl → Prop} (k : ∀ v u, P v → RV D F μ v u → RV D G ν v u) : ∀ {vs : List Vl} {us : List V}, (∀ v ∈ vs, P v) → RVs D F μ vs us → RVs D G ν vs us
  | _, _, _, .nil => .nil
  | _, _, h, .cons r t => .cons (k _ _ (h _ (by simp)) r) (RVs.each k (fun v hv => h v (by simp [hv])) t)
theorem RT.each {P : Vl → Prop} (k : ∀ v u, P v → RV D F μ v u → RV D G ν v u) : ∀ {es : List (Vl × Vl)} {us : List (List Key × V)}, (∀ e ∈ es, P e.2) → RT D F μ es us → RT D G ν es us
  | _, _, _, .nil => .nil
  | _, _, h, .cons r t => .cons (k _ _ (h _ List.mem_cons_self) r) (RT.each k (fun v hv => h v (List.mem_cons_of_mem _ hv)) t)
theorem RK.each {P : Vl → Prop} (k : ∀ v u, P v → RV D F μ v u → RV D G ν v u) : ∀ {es : List (Vl × Vl)} {us : List (Key × V)}, (∀ e ∈ es, P e.2) → RK D F μ es us → RK D G ν es us
  | _, _, _, .nil => .nil
  | _, _, h, .cons r t => .cons (k _ _ (h _ List.mem_cons_self) r) (RK.each k (fun v hv => h v (List.mem_cons_of_mem _ hv)) t)
theorem RF.each {P : Vl → Prop} (k : ∀ v u, P v → RV D F μ v u → RV D G ν v u) : ∀ {es : List (Str × Vl)} {us : List (Str × V)}, (∀ e ∈ es, P e.2) → RF D F μ es us → RF D G ν es us
  | _, _, _, .nil => .nil
  | _, _, h, .cons r t => .cons (k _ _ (h _ List.mem_cons_self) r) (RF.each k (fun v hv => h v (List.mem_cons_of_mem _ hv)) t)
theorem RVs.map {f : Vl → Option Vl} (k : ∀ v w u, f v = some w → RV D F μ v u → RV D G ν w u) : ∀ {vs ws : List Vl} {us : List V}, mapO f vs = some ws → RVs D F μ vs us → RVs D G ν ws us
  | [], _, _, h, .nil => by simp only [mapO, Option.some.injEq] at h; subst h; exact .nil
  | v :: vs, _, _, h, .cons r t => by
    simp only [mapO] at h
    split at h
    · split at h
      · cases h
        exact .cons (k _ _ _ (by assumption) r) (RVs.map k (by assumption) t)
      · cases h
    · cases h
theorem RT.map {f : Vl → Option Vl} (k : ∀ v w u, f v = some w → RV D F μ v u → RV D G ν w u) {vs ws : List (Vl × Vl)} {us : List (List Key × V)} (h : mapO (fun e : Vl × Vl => pairO (some e.1) (f e.2)) vs = some ws) (q : RT D F μ vs us) : RT D G ν ws us := by
  induction vs generalizing ws us with
  | nil =>
    cases q
    simp only [mapO, Option.some.injEq] at h
    subst h
    exact .nil
  | cons e vs ih =>
    cases q with
    | @cons _ v u _ _ r t =>
      simp only [mapO] at h
      cases e1 : f v with
      | none => rw [e1] at h; cases h
      | some w =>
        rw [e1] at h
        simp only [pairO] at h
        split at h
        · cases h
          exact .cons (k _ _ _ e1 r) (ih (by assumption) t)
        · cases h
theorem RK.map {f : Vl → Option Vl} (k : ∀ v w u, f v = some w → RV D F μ v u → RV D G ν w u) {vs ws : List (Vl × Vl)} {us : List (Key × V)} (h : mapO (fun e : Vl × Vl => pairO (some e.1) (f e.2)) vs = some ws) (q : RK D F μ vs us) : RK D G ν ws us := by
  induction vs generalizing ws us with
  | nil =>
    cases q
    simp only [mapO, Option.some.injEq] at h
    subst h
    exact .nil
  | cons e vs ih =>
    cases q with
    | @cons _ v u _ _ r t =>
      simp only [mapO] at h
      cases e1 : f v with
      | none => rw [e1] at h; cases h
      | some w =>
        rw [e1] at h
        simp only [pairO] at h
        split at h
        · cases h
          exact .cons (k _ _ _ e1 r) (ih (by assumption) t)
        · cases h
theorem RF.map {f : Vl → Option Vl} (k : ∀ v w u, f v = some w → RV D F μ v u → RV D G ν w u) {vs ws : List (Str × Vl)} {us : List (Str × V)} (h : mapO (fun e : Str × Vl => pairO (some e.1) (f e.2)) vs = some ws) (q : RF D F μ vs us) : RF D G ν ws us := by
  induction vs generalizing ws us with
  | nil =>
    cases q
    simp only [mapO, Option.some.injEq] at h
    subst h
    exact .nil
  | cons e vs ih =>
    cases q with
    | @cons _ v u _ _ r t =>
      simp only [mapO] at h
      cases e1 : f v with
      | none => rw [e1] at h; cases h
      | some w =>
        rw [e1] at h
        simp only [pairO] at h
        split at h
        · cases h
          exact .cons (k _ _ _ e1 r) (ih (by assumption) t)
        · cases h
theorem take_get {μ : List Addr} {n l : Nat} {a : Addr} (h : l < n) (e : μ[l]? = some a) : (μ.take n)[l]? = some a := by
  rw [List.getElem?_take, if_pos h]; exact e
theorem below_ok {n : Nat} : ∀ (d : Nat) (v : Vl) (u : V), below d n v = true → RV D F μ v u → RV D F (μ.take n) v u
  | 0, _, _, h, _ => by simp [below] at h
  | d + 1, v, u, h, r => by
    have ih := @below_ok n d
    cases r with
    | non => exact .non
    | bl b => exact .bl b
    | int i => exact .int i
    | str k => exact .str k
    | tup hf rs => exact .tup hf (rs.each ih (by simpa [below, List.all_eq_true] using h))
    | lst hf rs => exact .lst hf (rs.each ih (by simpa [below, List.all_eq_true] using h))
    | scr hf rs => exact .scr hf (rs.each ih (by simpa [below, List.all_eq_true] using h))
    | dT hf rs => exact .dT hf (rs.each (P := fun v => below d n v = true) ih (by simp only [below, List.all_eq_true] at h; exact h))
    | dK hf rs => exact .dK hf (rs.each (P := fun v => below d n v = true) ih (by simp only [below, List.all_eq_true] at h; exact h))
    | ins hf c rs => exact .ins hf c (rs.each (P := fun v => below d n v = true) ih (by simp only [below, List.all_eq_true] at h; exact h))
    | ref hm => exact .ref (take_get (by simpa [below] using h) hm)
end
/-- the heap with the objects from place n on frozen -/
noncomputable def frozen (F : Hp) (μ : List Addr) (n : Nat) (H : Hp) : Hp := fun a => open Classical in if a ∈ μ.drop n then H a else F a
section
variable {D : Wd} {F : Hp} {μ : List Addr} {h : Hh} {H : Hp} {n : Nat}
theorem frozen_in {a : Addr} (e : a ∈ μ.drop n) : frozen F μ n H a = H a := by unfold frozen; rw [if_pos e]
theorem frozen_out {a : Addr} (e : a ∉ μ.drop n) : frozen F μ n H a = F a := by unfold frozen; rw [if_neg e]
theorem frozen_ext (c : CS D F μ h H) : FExt F (frozen F μ n H) := fun a o e => by
  by_cases q : a ∈ μ.drop n
  · obtain ⟨u, e1, _⟩ := c.mem (List.mem_of_mem_drop q)
    rw [e1] at e; cases e
  · rw [frozen_out q]; exact e
theorem thaw_ok (c : CS D F μ h H) : ∀ (d : Nat) (v w : Vl) (u : V), thaw d n h v = some w → RV D F μ v u → RV D (frozen F μ n H) (μ.take n) w u
  | 0, _, _, _, h, _ => by simp [thaw] at h
  | d + 1, v, w, u, ht, r => by
    have ih := @thaw_ok c d
    simp only [thaw] at ht
    split at ht
    · rename_i hb
      cases ht
      exact (below_ok (d + 1) v u hb r).mono (frozen_ext c) (.refl _)
    · rename_i hb
      have fx := frozen_ext (n := n) c
      cases r with
      | non => simp [below] at hb
      | bl b => simp [below] at hb
      | int i => simp [below] at hb
      | str k => simp [below] at hb
      | scr hf rs => cases ht
      | tup hf rs =>
        simp only [Option.map_eq_some_iff] at ht
        obtain ⟨ws, e, rfl⟩ := ht
        exact .tup (fx _ _ hf) (rs.map ih e)
      | lst hf rs =>
        simp only [Option.map_eq_some_iff] at ht
        obtain ⟨ws, e, rfl⟩ := ht
        exact .lst (fx _ _ hf) (rs.map ih e)
      | dT hf rs =>
        simp only [Option.map_eq_some_iff] at ht
        obtain ⟨ws, e, rfl⟩ := ht
        exact .dT (fx _ _ hf) (rs.map ih e)
      | dK hf rs =>
        simp only [Option.map_eq_some_iff] at ht
        obtain ⟨ws, e, rfl⟩ := ht
        exact .dK (fx _ _ hf) (rs.map ih e)
      | ins hf cc rs =>
        simp only [Option.map_eq_some_iff] at ht
        obtain ⟨ws, e, rfl⟩ := ht
        exact .ins (fx _ _ hf) cc (rs.map ih e)
      | @ref l a hm =>
        have hl : n ≤ l := by
          simp [below] at hb
          exact hb
        have am : a ∈ μ.drop n := List.mem_iff_getElem?.mpr ⟨l - n, by rw [List.getElem?_drop, show n + (l - n) = l by omega]; exact hm⟩
        have key : ∀ ob, h[l]? = some ob → ∃ uo, frozen F μ n H a = some uo ∧ RO D F μ ob uo := fun ob e => by
          obtain ⟨b, uo, e1, _, e3, e4⟩ := c.ob l ob e
          rw [hm] at e1; cases e1
          exact ⟨uo, by rw [frozen_in am]; exact e3, e4⟩
        dsimp only at ht
        split at ht
        · rename_i vs hx
          obtain ⟨uo, e1, e2⟩ := key _ hx
          simp only [Option.map_eq_some_iff] at ht
          obtain ⟨ws, e, rfl⟩ := ht
          cases e2 with
          | lst rs => exact .lst e1 (rs.map ih e)
        · rename_i t es hx
          obtain ⟨uo, e1, e2⟩ := key _ hx
          simp only [Option.map_eq_some_iff] at ht
          obtain ⟨ws, e, rfl⟩ := ht
          cases e2 with
          | dT rs => exact .dT e1 (rs.map ih e)
          | dK rs => exact .dK e1 (rs.map ih e)
        · rename_i C fs hx
          obtain ⟨uo, e1, e2⟩ := key _ hx
          simp only [Option.map_eq_some_iff] at ht
          obtain ⟨ws, e, rfl⟩ := ht
          cases e2 with
          | ins cc rs => exact .ins e1 cc (rs.map ih e)
        · cases ht
theorem frozen_sub (c : CS D F μ h H) : FSub (frozen F μ n H) H := fun a o e => by
  by_cases q : a ∈ μ.drop n
  · rw [frozen_in q] at e; exact .inl e
  · rw [frozen_out q] at e; exact c.sub a o e
/-- nothing of the local heap is held any more -/
theorem CS.bare (c : CS D F μ h H) (n : Nat) : CS D (frozen F μ n H) [] [] H :=
  ⟨frozen_sub c, rfl, List.nodup_nil, fun l o e => by simp at e⟩
/-- the places from n on are dropped -/
theorem CS.drop (c : CS D F μ h H) (hb : (h.take n).all (obBelow n) = true) : CS D (frozen F μ n H) (μ.take n) (h.take n) H := by
  refine ⟨frozen_sub c, by simp [c.len], c.inj.sublist (List.take_sublist _ _), fun l o e => ?_⟩
  have hl : l < n := by
    have := (List.getElem?_eq_some_iff.mp e).1
    simp at this; omega
  have e' : h[l]? = some o := by
    rw [List.getElem?_take, if_pos hl] at e; exact e
  obtain ⟨a, u, e1, e2, e3, e4⟩ := c.ob l o e'
  have hbo : obBelow n o = true := List.all_eq_true.mp hb o (List.mem_of_getElem? e)
  have na : a ∉ μ.drop n := fun z => by
    obtain ⟨k, hk⟩ := List.mem_iff_getElem?.mp z
    rw [List.getElem?_drop] at hk
    exact Nodup.ne_of c.inj e1 hk (by omega) rfl
  refine ⟨a, u, take_get hl e1, by rw [frozen_out na]; exact e2, e3, ?_⟩
  have fx := frozen_ext (n := n) c
  cases e4 with
  | lst rs => exact .lst ((rs.each (below_ok deep) (by simpa [obBelow, List.all_eq_true] using hbo)).mono fx (.refl _))
  | dT rs => exact .dT ((rs.each (P := fun v => below deep n v = true) (below_ok deep) (by simp only [obBelow, List.all_eq_true, Bool.and_eq_true] at hbo; exact hbo.2)).mono fx (.refl _))
  | dK rs => exact .dK ((rs.each (P := fun v => below deep n v = true) (below_ok deep) (by simp only [obBelow, List.all_eq_true, Bool.and_eq_true] at hbo; exact hbo.2)).mono fx (.refl _))
  | lT rs => simp [obBelow] at hbo
  | lK rs => simp [obBelow] at hbo
  | ins cc rs => exact .ins cc ((rs.each (P := fun v => below deep n v = true) (below_ok deep) (by simp only [obBelow, List.all_eq_true] at hbo; exact hbo)).mono fx (.refl _))
/-- what the comparison of two values leans on -/
theorem eqH_ok (c : CS D F μ h H) {x y : Vl} {u w : V} (rx : RV D F μ x u) (ry : RV D F μ y w) {b : Bool} (e : eqH x y h = some b) :
    ∃ p q, Dp D.K H u p ∧ Dp D.K H w q ∧ SeqAt.shaped p = true ∧ SeqAt.shaped q = true ∧ PyData.eqv p q = b := by
  unfold eqH at e
  split at e
  · rename_i a d ha hd
    split at e
    · rename_i hdd
      cases e
      simp only [Bool.and_eq_true] at hdd
      have c0 := c.bare 0
      have ra := thaw_ok c deep x a u ha rx
      have rd := thaw_ok c deep y d w hd ry
      rw [List.take_zero] at ra rd
      obtain ⟨p1, p2, p3⟩ := data_ok c0 deep a u ra hdd.1
      obtain ⟨q1, q2, q3⟩ := data_ok c0 deep d w rd hdd.2
      exact ⟨_, _, p1, q1, shaped_of p2 p3 (by decide), shaped_of q2 q3 (by decide), pd_eqv _ _ a d hdd.1 hdd.2⟩
    · cases e
  · cases e
end
end IL
end

section
set_option autoImplicit false
set_option linter.all false
set_option Elab.async false
set_option maxRecDepth 100000
set_option maxHeartbeats 1000000
/-! IL: operators of two values. -/
namespace IL
open PySem L2

def bopP : Bop → Operator
  | .add => .Add | .sub => .Sub | .mul => .Mult | .fdiv => .FloorDiv | .mod => .Mod | .pow => .Pow
def copP : Cop → CmpOp
  | .eq => .Eq | .ne => .NotEq | .lt => .Lt | .le => .LtE | .gt => .Gt | .ge => .GtE | .isin => .In | .notin => .NotIn | .is => .Is | .isnot => .IsNot

/-- two values of ours and what g makes of them -/
def r2 (D : Wd) (W : XK) (g : Vl → Vl → Hh → Rs Vl) : R2 := fun x y H Q => ∃ F μ h v w, CS D F μ h H ∧ RV D F μ v x ∧ RV D F μ w y ∧ PostV D F μ H (g v w h) Q W

theorem strOk_append {x y : Str} (hx : PyData.strOk x = true) (hy : PyData.strOk y = true) : PyData.strOk (x ++ y) = true := by
  have e : (x ++ y).cps = x.cps ++ y.cps := rfl
  unfold PyData.strOk at *
  rw [e, Array.all_append, hx, hy]; rfl
theorem ints_ok {D : Wd} {F : Hp} {μ : List Addr} : ∀ {vs : List Vl} {us : List V} {ns : List Int}, RVs D F μ vs us → intsV vs = some ns → us = ns.map V.int
  | [], _, _, .nil, h => by simp only [intsV, Option.some.injEq] at h; subst h; rfl
  | .int i :: vs, _, _, .cons r t, h => by
    simp only [intsV, Option.map_eq_some_iff] at h
    obtain ⟨ms, e, rfl⟩ := h
    cases r
    rw [ints_ok t e]
    rfl
  | .non :: _, _, _, _, h => by simp [intsV] at h
  | .bl _ :: _, _, _, _, h => by simp [intsV] at h
  | .str _ :: _, _, _, _, h => by simp [intsV] at h
  | .tup _ :: _, _, _, _, h => by simp [intsV] at h
  | .lst _ :: _, _, _, _, h => by simp [intsV] at h
  | .scr _ :: _, _, _, _, h => by simp [intsV] at h
  | .dct _ _ :: _, _, _, _, h => by simp [intsV] at h
  | .ins _ _ :: _, _, _, _, h => by simp [intsV] at h
  | .ref _ :: _, _, _, _, h => by simp [intsV] at h
theorem lexB_eq : ∀ xs ys : List Int, lexB xs ys = HT.lexLt xs ys
  | [], [] => rfl
  | [], _ :: _ => rfl
  | _ :: _, [] => rfl
  | x :: xs, y :: ys => by unfold lexB; rw [HT.lexLt_cons, lexB_eq xs ys]
theorem line_le {n : Nat} (h : n ≤ 100000) : n ≤ sizeLine := Nat.le_trans h (by decide)
theorem RVs.rep {D : Wd} {F : Hp} {μ : List Addr} {vs : List Vl} {us : List V} (r : RVs D F μ vs us) : ∀ k : Nat, RVs D F μ (List.replicate k vs).flatten (List.replicate k us).flatten
  | 0 => .nil
  | k + 1 => by
    rw [List.replicate_succ, List.replicate_succ, List.flatten_cons, List.flatten_cons]
    exact r.append (RVs.rep r k)
section
variable {X : Cx} {D : Wd} {W : XK}
theorem op_bin (hK : X.K = D.K) (o : Bop) : OpR X (binaryOp (bopP o)) (r2 D W (binV o)) := by
  intro pins s σ H x y v u Q I rx ry hh
  obtain ⟨F, μ, h, a, b, c, ra, rb, p⟩ := hh
  unfold binV at p
  split at p
  · cases ra; cases rb
    exact op_add pins s σ H _ _ v u Q I rx ry ⟨_, _, rfl, rfl, post_same c (.int _) p⟩
  · cases ra; cases rb
    exact op_sub pins s σ H _ _ v u Q I rx ry ⟨_, _, rfl, rfl, post_same c (.int _) p⟩
  · cases ra; cases rb
    split at p
    · rename_i hc
      exact op_mul pins s σ H _ _ v u Q I rx ry ⟨_, _, rfl, rfl, hc, post_same c (.int _) p⟩
    · exact p.elim
  · cases ra; cases rb
    split at p
    · rename_i hc
      exact op_fdiv pins s σ H _ _ v u Q I rx ry ⟨_, _, rfl, rfl, hc, post_same c (.int _) p⟩
    · exact p.elim
  · cases ra; cases rb
    split at p
    · rename_i hc
      exact op_mod pins s σ H _ _ v u Q I rx ry ⟨_, _, rfl, rfl, hc, post_same c (.int _) p⟩
    · exact p.elim
  · cases ra; cases rb
    split at p
    · rename_i hc
      exact op_pow pins s σ H _ _ v u Q I rx ry ⟨_, _, rfl, rfl, ⟨hc.1, by omega, hc.2.2⟩, post_same c (.int _) p⟩
    · exact p.elim
  · cases ra with
    | str ka =>
      cases rb with
      | str kb =>
        split at p
        · rename_i hc
          exact op_add_str pins s σ H _ _ v u Q I rx ry ⟨_, _, rfl, rfl, hc, post_same c (.str (strOk_append ka kb)) p⟩
        · exact p.elim
  · cases ra with
    | tup ha ra =>
      cases rb with
      | tup hb rb =>
        split at p
        · rename_i hc
          refine op_catA pins s σ H _ _ v u Q I rx ry ⟨_, _, _, _, rfl, rfl, .of (c.sub.tup ha), .of (c.sub.tup hb), ?_, ?_⟩
          · exact line_le (by rw [← ra.length, ← rb.length]; exact hc)
          · refine ⟨fun e => ?_, fun _ e => ?_, fun _ _ l hl => post_tup c (ra.append rb) p hl⟩
            · subst e
              cases ra
              exact post_same c (.tup hb rb) (by simpa using p)
            · subst e
              cases rb
              exact post_same c (.tup ha ra) (by simpa using p)
        · exact p.elim
  · split at p
    · rename_i xs ys hx hy
      obtain ⟨la, us, rfl, ea, qa⟩ := asList_ok c ra hx
      obtain ⟨lb, ws, rfl, eb, qb⟩ := asList_ok c rb hy
      split at p
      · rename_i hc
        refine op_cat pins s σ H _ _ v u Q I rx ry ⟨_, _, _, _, rfl, rfl, ea, eb, line_le (by rw [← qa.length, ← qb.length]; exact hc), fun l hl => ?_⟩
        exact post_lst c (qa.append qb) p hl
      · exact p.elim
    · exact p.elim
  · rename_i k hk
    split at p
    · rename_i xs hx
      obtain ⟨la, us, rfl, ea, qa⟩ := asList_ok c ra hx
      cases rb
      split at p
      · rename_i hc
        refine op_rep pins s σ H _ _ v u Q I rx ry ⟨_, _, _, rfl, rfl, ea, by omega, by omega, ?_, fun l hl => ?_⟩
        · have h1 : us.length ≤ 100 := by rw [← qa.length]; exact hc.2.2
          have h2 : k.toNat ≤ 1000 := by omega
          exact line_le (Nat.le_trans (Nat.mul_le_mul h1 h2) (by decide))
        · exact post_lst c (qa.rep k.toNat) p hl
      · exact p.elim
    · exact p.elim
  · exact p.elim
end
end IL
namespace IL
open PySem L2
theorem RV.non_iff {D : Wd} {F : Hp} {μ : List Addr} {v : Vl} {u : V} (r : RV D F μ v u) : u = V.non ↔ v = .non := by
  cases r <;> simp
section
variable {D : Wd} {F : Hp} {μ : List Addr}
theorem key1_ok : ∀ {v : Vl} {u : V}, RV D F μ v u → isKey1 v = true → ∃ k : Key, u = kV k ∧ v = kVl k := by
  intro v u r h
  cases r with
  | int i => exact ⟨.inl i, rfl, rfl⟩
  | str k => exact ⟨.inr _, rfl, rfl⟩
  | _ => simp [isKey1] at h
theorem keys_ok : ∀ {vs : List Vl} {us : List V}, RVs D F μ vs us → vs.all isKey1 = true → ∃ ks : List Key, us = ks.map kV ∧ vs = ks.map kVl
  | _, _, .nil, _ => ⟨[], rfl, rfl⟩
  | _, _, .cons r t, h => by
    rw [List.all_cons, Bool.and_eq_true] at h
    obtain ⟨k, e1, e2⟩ := key1_ok r h.1
    obtain ⟨ks, e3, e4⟩ := keys_ok t h.2
    exact ⟨k :: ks, by rw [e1, e3]; rfl, by rw [e2, e4]; rfl⟩
theorem eqv_k (k j : Key) : eqv (kVl k) (kVl j) = decide (k = j) := by
  cases k with
  | inl a =>
    cases j with
    | inl b => simp only [kVl, eqv]; by_cases e : a = b <;> simp [e]
    | inr b => simp [kVl, eqv]
  | inr a =>
    cases j with
    | inl b => simp [kVl, eqv]
    | inr b => simp only [kVl, eqv]; by_cases e : a = b <;> simp [e]
theorem eqvs_k : ∀ ks js : List Key, eqvs (ks.map kVl) (js.map kVl) = decide (ks = js)
  | [], [] => by simp [eqvs]
  | [], _ :: _ => by simp [eqvs]
  | _ :: _, [] => by simp [eqvs]
  | k :: ks, j :: js => by
    simp only [List.map_cons, eqvs, eqv_k, eqvs_k ks js]
    by_cases e : k = j <;> by_cases e' : ks = js <;> simp [e, e']
theorem RT.val {es : List (Vl × Vl)} {kvs : List (List Key × V)} (r : RT D F μ es kvs) (ks : List Key) : match dGet es (.tup (ks.map kVl)) with
    | some v => ∃ u, valV kvs ks = some u ∧ RV D F μ v u
    | none => valV kvs ks = none := by
  induction es generalizing kvs with
  | nil => cases r; simp [dGet, valV]
  | cons e es ih =>
    cases r with
    | @cons js v u _ kvs r t =>
      have ih := ih t
      by_cases q : js = ks
      · subst q
        simp only [dGet, List.find?_cons, eqv, eqvs_k, decide_true, Option.map_some]
        exact ⟨u, by rw [valV_pos rfl], r⟩
      · have : dGet ((Vl.tup (js.map kVl), v) :: es) (.tup (ks.map kVl)) = dGet es (.tup (ks.map kVl)) := by
          simp only [dGet, List.find?_cons, eqv, eqvs_k, q, decide_false]
        rw [this, valV_neg (p := (js, u)) q]
        exact ih
theorem RK.val {es : List (Vl × Vl)} {kvs : List (Key × V)} (r : RK D F μ es kvs) (k : Key) : match dGet es (kVl k) with
    | some v => ∃ u, valV kvs k = some u ∧ RV D F μ v u
    | none => valV kvs k = none := by
  induction es generalizing kvs with
  | nil => cases r; simp [dGet, valV]
  | cons e es ih =>
    cases r with
    | @cons j v u _ kvs r t =>
      have ih := ih t
      by_cases q : j = k
      · subst q
        simp only [dGet, List.find?_cons, eqv_k, decide_true, Option.map_some]
        exact ⟨u, by rw [valV_pos rfl], r⟩
      · have : dGet ((kVl j, v) :: es) (kVl k) = dGet es (kVl k) := by
          simp only [dGet, List.find?_cons, eqv_k, q, decide_false]
        rw [this, valV_neg (p := (j, u)) q]
        exact ih
theorem dHas_get (es : List (Vl × Vl)) (k : Vl) : dHas es k = (dGet es k).isSome := by
  unfold dHas dGet
  induction es with
  | nil => rfl
  | cons e es ih => rw [List.any_cons, List.find?_cons]; cases eqv e.1 k <;> simp [ih]
end
section
variable {D : Wd} {F : Hp} {μ : List Addr} {h : Hh} {H : Hp}
/-- a dict of ours at a key: what it holds there -/
theorem dict_get (c : CS D F μ h H) {v k : Vl} {u y : V} (r : RV D F μ v u) (rk : RV D F μ k y) {t : Bool} {es : List (Vl × Vl)} (e : asDct h v = some (t, es)) (hk : isKey t k = true) :
    ∃ a, u = .ref a ∧ match dGet es k with
      | some x => ∃ z, DGet H a y (some z) ∧ RV D F μ x z
      | none => DGet H a y none := by
  have fin : ∀ a, ((∃ kvs, t = true ∧ Rd H a (.dT kvs) ∧ RT D F μ es kvs) ∨ ∃ kvs, t = false ∧ Rd H a (.dK kvs) ∧ RK D F μ es kvs) → match dGet es k with
      | some x => ∃ z, DGet H a y (some z) ∧ RV D F μ x z
      | none => DGet H a y none := fun a q => by
    rcases q with ⟨kvs, rfl, hd, rt⟩ | ⟨kvs, rfl, hd, rt⟩
    · simp only [isKey, if_true] at hk
      cases rk with
      | tup hf rs =>
        obtain ⟨ks, e1, e2⟩ := keys_ok rs hk
        subst e1 e2
        have hb := c.sub.tup hf
        have q := rt.val ks
        cases e3 : dGet es (.tup (ks.map kVl)) with
        | none =>
          rw [e3] at q
          exact .inr ⟨kvs, ks, _, hd, rfl, hb, q.symm⟩
        | some x =>
          rw [e3] at q
          obtain ⟨z, e4, e5⟩ := q
          exact ⟨z, .inr ⟨kvs, ks, _, hd, rfl, hb, e4.symm⟩, e5⟩
      | _ => simp at hk
    · simp only [isKey, Bool.false_eq_true, if_false] at hk
      obtain ⟨j, rfl, rfl⟩ := key1_ok rk hk
      have q := rt.val j
      cases e3 : dGet es (kVl j) with
      | none => rw [e3] at q; exact .inl ⟨kvs, j, hd, rfl, q.symm⟩
      | some x =>
        rw [e3] at q
        obtain ⟨z, e4, e5⟩ := q
        exact ⟨z, .inl ⟨kvs, j, hd, rfl, e4.symm⟩, e5⟩
  have rd : ∀ {a : Addr} {o : HO}, F a = some o → ((∃ kvs, o = .dT kvs) ∨ ∃ kvs, o = .dK kvs) → Rd H a o := fun {a o} e _ => by
    rcases c.sub _ _ e with q | ⟨ob, q, _⟩
    · exact .inl q
    · exact .inr ⟨ob, q⟩
  cases r with
  | dT hf rt =>
    simp only [asDct, Option.some.injEq, Prod.mk.injEq] at e
    obtain ⟨rfl, rfl⟩ := e
    exact ⟨_, rfl, fin _ (.inl ⟨_, rfl, rd hf (.inl ⟨_, rfl⟩), rt⟩)⟩
  | dK hf rt =>
    simp only [asDct, Option.some.injEq, Prod.mk.injEq] at e
    obtain ⟨rfl, rfl⟩ := e
    exact ⟨_, rfl, fin _ (.inr ⟨_, rfl, rd hf (.inr ⟨_, rfl⟩), rt⟩)⟩
  | @ref l a hm =>
    simp only [asDct] at e
    split at e
    · rename_i lk t' es' hx
      cases e
      obtain ⟨b, o, e1, e2, e3, e4⟩ := c.ob l _ hx
      rw [hm] at e1
      cases e1
      refine ⟨_, rfl, fin _ ?_⟩
      cases e4 with
      | dT rt => exact .inl ⟨_, rfl, .inl e3, rt⟩
      | dK rt => exact .inr ⟨_, rfl, .inl e3, rt⟩
      | lT rt => exact .inl ⟨_, rfl, .inr ⟨_, e3⟩, rt⟩
      | lK rt => exact .inr ⟨_, rfl, .inr ⟨_, e3⟩, rt⟩
    · cases e
  | _ => simp [asDct] at e
end
end IL
end

section
set_option autoImplicit false
set_option linter.all false
set_option Elab.async false
set_option maxRecDepth 100000
set_option maxHeartbeats 1000000
/-! IL: comparisons. -/
namespace IL
open PySem L2
theorem post_of {α β : Type} {D : Wd} {R : Hp → List Addr → α → β → Prop} {F : Hp} {μ : List Addr} {H : Hp} {o : Option α} {h : Hh} {Q : β → Hp → Prop} {W : XK} (p : Post D R F μ H (Rs.of o h) Q W) : ∃ v, o = some v ∧ Post D R F μ H (.ok v h) Q W := by
  cases o with
  | none => exact p.elim
  | some v => exact ⟨v, rfl, p⟩
section
variable {D : Wd} {F : Hp} {μ : List Addr} {h : Hh} {H : Hp}
theorem thaw_data (c : CS D F μ h H) {v a : Vl} {u : V} (r : RV D F μ v u) (e : thaw deep 0 h v = some a) (hd : isData deep a = true) : Dp D.K H u (toPd a) ∧ SeqAt.shaped (toPd a) = true := by
  have c0 := c.bare 0
  have ra := thaw_ok c deep v a u e r
  rw [List.take_zero] at ra
  obtain ⟨p1, p2, p3⟩ := data_ok c0 deep a u ra hd
  exact ⟨p1, shaped_of p2 p3 (by decide)⟩
theorem any_pd {d : Nat} {a : Vl} (ha : isData deep a = true) : ∀ {bs : List Vl}, (∀ b ∈ bs, isData d b = true) → ((toPds bs).any fun z => PyData.eqv z (toPd a)) = bs.any fun z => eqv z a
  | [], _ => rfl
  | b :: bs, h => by
    simp only [toPds, List.any_cons]
    rw [pd_eqv d deep b a (h b (by simp)) ha, any_pd ha fun x hx => h x (by simp [hx])]
end
section
variable {X : Cx} {D : Wd} {W : XK}
theorem fin_b {pins : List (Addr × Obj)} {σ : L2.St} {F : Hp} {μ : List Addr} {H : Hp} {h : Hh} {s : Shared} {Q : VK} {k k' : Bool} (c : CS D F μ h H) (I : L2.Inv X pins σ H s) (p : PostV D F μ H (.ok (.bl k) h) Q W) (e : k' = k) : EP X pins σ Q (.bool k') s := by
  subst e
  exact ⟨.bl k', H, I, rfl, post_same c (.bl _) p⟩
/-- in and not in -/
theorem op_in (hK : X.K = D.K) (hu : X.A.units + 65 < cLine) {pins : List (Addr × Obj)} {s : Shared} {σ : L2.St} {H : Hp} {x y : V} {v u : Value} (I : L2.Inv X pins σ H s) (rx : RelV x v) (ry : RelV y u) {F : Hp} {μ : List Addr} {h : Hh} {a b : Vl}
    (c : CS D F μ h H) (ra : RV D F μ a x) (rb : RV D F μ b y) {k : Bool} (e : inH a b h = some k) :
    (∀ Q, Q (.bl k) H → wpAny (model X.prog X.w) X.A (compareOp .In v u) (EP X pins σ Q) X.xe s) ∧ (∀ Q, Q (.bl (!k)) H → wpAny (model X.prog X.w) X.A (compareOp .NotIn v u) (EP X pins σ Q) X.xe s) := by
  have list : ∀ {bl : Vl}, RV D F μ bl y → inL a bl h = some k → (∀ Q, Q (.bl k) H → wpAny (model X.prog X.w) X.A (compareOp .In v u) (EP X pins σ Q) X.xe s) ∧ (∀ Q, Q (.bl (!k)) H → wpAny (model X.prog X.w) X.A (compareOp .NotIn v u) (EP X pins σ Q) X.xe s) := fun {bl} rb e => by
    unfold inL at e
    split at e
    · rename_i a' bs ha hb
      split at e
      · rename_i hd
        simp only [Bool.and_eq_true] at hd
        cases e
        obtain ⟨p1, p2⟩ := thaw_data c ra ha hd.1
        obtain ⟨q1, q2⟩ := thaw_data c rb hb hd.2
        obtain ⟨d, _, hbs⟩ := isData_lst hd.2
        have e1 := any_pd hd.1 hbs
        refine ⟨fun Q q => op_inD hu pins s σ H x y v u Q I rx ry ⟨_, toPds bs, hK ▸ p1, by rw [hK]; exact q1, p2, q2, ?_⟩, fun Q q => op_notInD hu pins s σ H x y v u Q I rx ry ⟨_, toPds bs, hK ▸ p1, by rw [hK]; exact q1, p2, q2, ?_⟩⟩
        · rw [e1]; exact q
        · rw [e1]; exact q
      · cases e
    · cases e
  have dict : ∀ {t : Bool} {es : List (Vl × Vl)}, asDct h b = some (t, es) → (if isKey t a then some (dHas es a) else none) = some k → (∀ Q, Q (.bl k) H → wpAny (model X.prog X.w) X.A (compareOp .In v u) (EP X pins σ Q) X.xe s) ∧ (∀ Q, Q (.bl (!k)) H → wpAny (model X.prog X.w) X.A (compareOp .NotIn v u) (EP X pins σ Q) X.xe s) := fun {t es} ed e => by
    split at e
    · rename_i hk
      cases e
      obtain ⟨l, rfl, g⟩ := dict_get c rb ra ed hk
      obtain rfl : u = Value.ref l := ry
      rw [dHas_get]
      cases eg : dGet es a with
      | none =>
        rw [eg] at g
        exact ⟨fun Q q => d_in (by omega) I g rx fun s' I' => ⟨.bl _, H, I', rfl, q⟩, fun Q q => d_notIn (by omega) I g rx fun s' I' => ⟨.bl _, H, I', rfl, q⟩⟩
      | some z =>
        rw [eg] at g
        obtain ⟨w, g, _⟩ := g
        exact ⟨fun Q q => d_in (by omega) I g rx fun s' I' => ⟨.bl _, H, I', rfl, q⟩, fun Q q => d_notIn (by omega) I g rx fun s' I' => ⟨.bl _, H, I', rfl, q⟩⟩
    · cases e
  unfold inH at e
  split at e
  · exact dict rfl e
  · rename_i l
    split at e
    · rename_i lk t es hx
      exact dict (by simp [asDct, hx]) e
    · exact list rb e
    · cases e
  · exact list rb e
  · rename_i vs
    split at e
    · rename_i hd
      simp only [Bool.and_eq_true] at hd
      cases e
      obtain ⟨p1, p2, p3⟩ := data_ok c deep a x ra hd.1
      obtain ⟨q1, q2, q3⟩ := data_ok c deep (.tup vs) y rb hd.2
      obtain ⟨d, _, hbs⟩ := isData_tup hd.2
      have e1 := any_pd hd.1 hbs
      have q1 : Dp X.K H y (.tuple (toPds vs)) := by rw [hK]; exact q1
      have p1 : Dp X.K H x (toPd a) := by rw [hK]; exact p1
      obtain ⟨as, r1⟩ := Dp.reads I _ x v p1 rx
      obtain ⟨bs, r2⟩ := Dp.reads I _ y u q1 ry
      have room := PyProof.Rows.room_in_shaped (xs := toPds vs) (shaped_of p2 p3 (by decide)) hu
      refine ⟨fun Q q => SeqAt.in_tuple_reads r2 r1 q2 p2 room ⟨.bl _, H, I, rfl, ?_⟩, fun Q q => SeqAt.notIn_tuple_reads r2 r1 q2 p2 room ⟨.bl _, H, I, rfl, ?_⟩⟩
      · rw [e1]; exact q
      · rw [e1]; exact q
    · cases e
  · cases e
theorem op_cmp (hK : X.K = D.K) (hu : X.A.units + 65 < cLine) (o : Cop) : OpR X (compareOp (copP o)) (r2 D W (cmpV o)) := by
  intro pins s σ H x y v u Q I rx ry hh
  obtain ⟨F, μ, h, a, b, c, ra, rb, p⟩ := hh
  unfold cmpV at p
  split at p
  · obtain ⟨_, e, p⟩ := post_of p
    simp only [Option.map_eq_some_iff] at e
    obtain ⟨k, e, rfl⟩ := e
    obtain ⟨d, d', h1, h2, h3, h4, h5⟩ := eqH_ok c ra rb e
    exact op_eqD (by omega) pins s σ H x y v u Q I rx ry ⟨d, d', hK ▸ h1, hK ▸ h2, h3, h4, by rw [h5]; exact post_same c (.bl _) p⟩
  · obtain ⟨_, e, p⟩ := post_of p
    simp only [Option.map_eq_some_iff] at e
    obtain ⟨k, e, rfl⟩ := e
    obtain ⟨d, d', h1, h2, h3, h4, h5⟩ := eqH_ok c ra rb e
    exact op_neD (by omega) pins s σ H x y v u Q I rx ry ⟨d, d', hK ▸ h1, hK ▸ h2, h3, h4, by rw [h5]; exact post_same c (.bl _) p⟩
  · obtain ⟨_, e, p⟩ := post_of p
    simp only [Option.map_eq_some_iff] at e
    obtain ⟨k, e, rfl⟩ := e
    have q := post_same c (.bl k) p
    unfold isV at e
    split at e
    case h_2 =>
      cases ra; cases rb; cases e
      exact op_isBl pins s σ H _ _ v u Q I rx ry ⟨_, _, rfl, rfl, by rw [← Bool.beq_eq_decide_eq]; exact q⟩
    all_goals first
      | (cases e; done)
      | (cases rb
         refine op_isN pins s σ H x _ v u Q I rx ry ⟨rfl, ?_⟩
         cases e
         simpa [ra.non_iff] using q)
  · obtain ⟨_, e, p⟩ := post_of p
    simp only [Option.map_eq_some_iff] at e
    obtain ⟨k, e, rfl⟩ := e
    have q := post_same c (.bl (!k)) p
    unfold isV at e
    split at e
    case h_2 =>
      cases ra; cases rb; cases e
      exact op_notBl pins s σ H _ _ v u Q I rx ry ⟨_, _, rfl, rfl, by rw [← Bool.beq_eq_decide_eq]; exact q⟩
    all_goals first
      | (cases e; done)
      | (cases rb
         refine op_notN pins s σ H x _ v u Q I rx ry ⟨rfl, ?_⟩
         cases e
         simpa [ra.non_iff] using q)
  · obtain ⟨_, e, p⟩ := post_of p
    simp only [Option.map_eq_some_iff] at e
    obtain ⟨k, e, rfl⟩ := e
    exact (op_in hK hu I rx ry c ra rb e).1 Q (post_same c (.bl _) p)
  · obtain ⟨_, e, p⟩ := post_of p
    simp only [Option.map_eq_some_iff] at e
    obtain ⟨k, e, rfl⟩ := e
    exact (op_in hK hu I rx ry c ra rb e).2 Q (post_same c (.bl _) p)
  · split at p
    · cases ra; cases rb
      exact op_lt pins s σ H _ _ v u Q I rx ry ⟨_, _, rfl, rfl, post_same c (.bl _) p⟩
    · obtain ⟨_, e, p⟩ := post_of p
      simp only [Option.map_eq_some_iff] at e
      obtain ⟨k, e, rfl⟩ := e
      unfold ltT at e
      split at e
      · rename_i ns ms h1 h2
        cases e
        cases ra with
        | tup ha ra =>
          cases rb with
          | tup hb rb =>
            have e1 := ints_ok ra h1
            have e2 := ints_ok rb h2
            subst e1 e2
            exact op_ltT (by omega) pins s σ H _ _ v u Q I rx ry ⟨_, _, ns, ms, rfl, rfl, .of (c.sub.tup ha), .of (c.sub.tup hb), by rw [← lexB_eq]; exact post_same c (.bl _) p⟩
      · cases e
    · exact p.elim
  · split at p
    · cases ra; cases rb
      obtain ⟨_, e, p⟩ := post_of p
      simp only [Option.map_eq_some_iff] at e
      obtain ⟨k, e, rfl⟩ := e
      have q := post_same c (.bl k) p
      cases o <;> simp [cmpI] at e <;> subst e
      · exact op_lt pins s σ H _ _ v u Q I rx ry ⟨_, _, rfl, rfl, q⟩
      · exact op_le pins s σ H _ _ v u Q I rx ry ⟨_, _, rfl, rfl, q⟩
      · exact op_gt pins s σ H _ _ v u Q I rx ry ⟨_, _, rfl, rfl, q⟩
      · exact op_ge pins s σ H _ _ v u Q I rx ry ⟨_, _, rfl, rfl, q⟩
    · exact p.elim
end
end IL
end

section
set_option autoImplicit false
set_option linter.all false
set_option Elab.async false
set_option maxRecDepth 100000
set_option maxHeartbeats 1000000
/-! IL: subscripts, slices, fields. -/
namespace IL
open PySem L2 PyProof.Rows
theorem ixOf_at {α : Type} (xs : List α) (i : Int) : atI xs i = (ixOf xs.length i).bind fun j => xs[j]? := by
  unfold atI ixN ixOf
  rfl
section
variable {X : Cx}
def rIxD : R2 := fun x y H Q => ∃ a z, x = .ref a ∧ DGet H a y (some z) ∧ Q z H
theorem ix_dict (hu : X.A.units + 1 < cLine) : IxR X rIxD := by
  intro value slice pins s σ H x y v u Q I rx ry h hs
  obtain ⟨a, z, rfl, g, q⟩ := h
  obtain rfl : v = Value.ref a := rx
  have hT := dict_typeIs I g
  unfold subscriptTail
  refine wpAny_bind ?_
  rw [getitemInPython_of_ne hT.not_modules]
  refine wpAny_bind (wpAny_specialOf hT PySem.F.slot_dict_getitem.lookup ?_)
  have fin : wpAny (model X.prog X.w) X.A (subscripted slice false (.ref a) u) (fun r s₃ => wpAny (model X.prog X.w) X.A (letTemporaryGo value (.ref a) r >>= fun _ => pure r) (EP X pins σ Q) X.xe s₃) X.xe s := by
    rw [hs]
    exact wpAny_operating (wpAny_mono (d_getItem (Q := EP X pins σ Q) hu I g ry fun w' s3 I3 rw' => ⟨z, H, I3, rw', q⟩) (fun r s₃ h₃ => wpAny_bind (wpAny_letTemporaryGo (wpAny_pure h₃))) fun _ _ x => x)
  first
    | exact wpAny_pure (wpAny_bind fin)
    | exact wpAny_bind (wpAny_pure (wpAny_bind fin))
    | exact wpAny_bind fin
end
theorem strOk_one {z : Str} {j c : Nat} (hz : PyData.strOk z = true) (h : z.cps.toList[j]? = some c) : PyData.strOk ⟨#[c]⟩ = true := by
  unfold PyData.strOk at *
  have hm : c ∈ z.cps := by
    have := List.mem_of_getElem? h
    simpa using this
  have := (Array.all_eq_true_iff_forall_mem.mp hz) c hm
  simpa using this
theorem sIx_eq (n d : Nat) (o : Option Int) : sIx n d o = HT.sIx n d o := by
  cases o with
  | none => rfl
  | some v =>
    show (if v < 0 then max (v + (n : Int)) 0 else min v (n : Int)).toNat = (if v < 0 then (v + (n : Int)).toNat else min v.toNat n)
    by_cases h : v < 0
    · rw [if_pos h, if_pos h]; omega
    · rw [if_neg h, if_neg h]; omega
theorem strOk_sub {z : Str} {l : List Nat} (hz : PyData.strOk z = true) (h : ∀ c ∈ l, c ∈ z.cps.toList) : PyData.strOk ⟨l.toArray⟩ = true := by
  unfold PyData.strOk at *
  rw [List.all_toArray, List.all_eq_true]
  intro c hc
  have hm := h c hc
  exact (Array.all_eq_true_iff_forall_mem.mp hz) c (by simpa using hm)
section
variable {X : Cx} {D : Wd} {W : XK}
theorem ix_any (hK : X.K = D.K) (hu : X.A.units + 1 < cLine) : IxR X (r2 D W idxV) := by
  intro value slice pins s σ H x y v u Q I rx ry hh hs
  obtain ⟨F, μ, h, a, b, c, ra, rb, p⟩ := hh
  have dict : ∀ {t : Bool} {es : List (Vl × Vl)} {k : Vl}, RV D F μ k y → asDct h a = some (t, es) → isKey t k = true → PostV D F μ H (Rs.of (dGet es k) h) Q W → wpAny (model X.prog X.w) X.A (subscriptTail value slice v u) (EP X pins σ Q) X.xe s := fun {t es k} rk ed hk p => by
    obtain ⟨z, e, p⟩ := post_of p
    obtain ⟨l, rfl, g⟩ := dict_get c ra rk ed hk
    rw [e] at g
    obtain ⟨w, g, rw'⟩ := g
    exact ix_dict hu value slice pins s σ H _ y v u Q I rx ry ⟨l, w, rfl, g, post_same c rw' p⟩ hs
  unfold idxV at p
  split at p
  · rename_i k
    split at p
    · rename_i vs hv
      obtain ⟨z, e, p⟩ := post_of p
      obtain ⟨l, us, rfl, sq, rs⟩ := asSeq_ok c ra hv
      cases rb
      rw [rs.length] at e
      obtain ⟨j, e1, e2⟩ := Option.bind_eq_some_iff.mp e
      obtain ⟨w, e3, rw'⟩ := rs.get e2
      have at' : atI us k = some w := by rw [ixOf_at, e1]; exact e3
      rcases sq with sq | sq
      · exact ix_list value slice pins s σ H _ _ v u Q I rx ry ⟨l, us, k, w, rfl, rfl, hK ▸ sq, at', post_same c rw' p⟩ hs
      · exact ix_tup value slice pins s σ H _ _ v u Q I rx ry ⟨l, us, k, w, rfl, rfl, hK ▸ sq, at', post_same c rw' p⟩ hs
    · split at p
      · rename_i z _
        cases ra with
        | str kz =>
          cases rb
          split at p
          · rename_i hz
            split at p
            · rename_i c' e
              obtain ⟨j, e1, e2⟩ := Option.bind_eq_some_iff.mp e
              exact ix_str value slice pins s σ H _ _ v u Q I rx ry ⟨z, k, c', rfl, rfl, Nat.le_trans (by simpa [Str.length] using hz) (by decide), by rw [ixOf_at]; exact e, post_same c (.str (strOk_one kz e2)) p⟩ hs
            · exact p.elim
          · exact p.elim
      · split at p
        · rename_i es ed
          exact dict rb ed rfl p
        · exact p.elim
  · split at p
    · rename_i t es ed
      split at p
      · rename_i hk
        exact dict rb ed hk p
      · exact p.elim
    · exact p.elim

/-- a[lo:hi] -/
def rSl (D : Wd) (W : XK) (m : Bool) : V → Option Int → Option Int → Hp → VK → Prop := fun x lo hi H Q => ∃ F μ h v l u, CS D F μ h H ∧ RV D F μ v x ∧ bound l = some lo ∧ bound u = some hi ∧ PostV D F μ H (place m (slcV v l u .non h)) Q W
theorem RVs.cutV {F : Hp} {μ : List Addr} {vs : List Vl} {us : List V} (r : RVs D F μ vs us) (lo hi : Option Int) : RVs D F μ (IL.cut vs lo hi) (L2.cutV us lo hi) := by
  unfold IL.cut L2.cutV
  rw [sIx_eq, sIx_eq, r.length]
  exact (r.drop _).take _
theorem sl_any (hK : X.K = D.K) (m : Bool) : SlR X (rSl D W m) := by
  intro pins s σ H x v vl vu lo hi sl Q I rx hs pl pu hh
  obtain ⟨F, μ, h, a, l, u, c, ra, el, eu, p⟩ := hh
  have place_no : ∀ {r : Rs Vl}, (∀ vs h', r ≠ .ok (.lst vs) h') → (∀ t es h', r ≠ .ok (.dct t es) h') → PostV D F μ H (place m r) Q W → PostV D F μ H r Q W := fun {r} n1 n2 p => by
    cases m with
    | false => exact p
    | true =>
      cases r with
      | bad => exact p.elim
      | exc C h' => exact p
      | ok w h' =>
        cases w with
        | lst vs => exact absurd rfl (n1 _ _)
        | dct t es => exact absurd rfl (n2 _ _ _)
        | _ => exact p.elim
  unfold slcV at p
  rw [el, eu] at p
  dsimp only at p
  split at p
  · rename_i vs
    have p := place_no (by simp) (by simp) p
    cases ra with
    | tup hf rs =>
      refine sl_tupA pins s σ H _ v vl vu lo hi sl Q I rx hs pl pu ⟨_, _, rfl, .of (c.sub.tup hf), fun e => ?_, fun _ q hq => post_tup c (rs.cutV lo hi) p hq⟩
      have e1 : IL.cut vs lo hi = vs := by
        unfold IL.cut
        rw [sIx_eq, sIx_eq, rs.length, e.1, e.2]
        rw [← rs.length]; simp
      rw [e1] at p
      exact post_same c (.tup hf rs) p
  · rename_i z
    cases ra with
    | str kz =>
      split at p
      · rename_i hz
        have p := place_no (by simp) (by simp) p
        have e1 : cutS z lo hi = ⟨(IL.cut z.cps.toList lo hi).toArray⟩ := by
          unfold cutS IL.cut
          rw [sIx_eq, sIx_eq]
          simp [Str.length]
        refine sl_str pins s σ H _ v vl vu lo hi sl Q I rx hs pl pu ⟨z, rfl, Nat.le_trans (by simpa [Str.length] using hz) (by decide), ?_⟩
        rw [e1]
        refine post_same c (.str (strOk_sub kz fun k hk => ?_)) p
        unfold IL.cut at hk
        exact List.mem_of_mem_drop (List.mem_of_mem_take hk)
      · have p := place_no (by simp) (by simp) p
        exact p.elim
  · split at p
    · rename_i vs hv
      obtain ⟨l', us, rfl, ea, rs⟩ := asList_ok c ra hv
      exact sl_list pins s σ H _ v vl vu lo hi sl Q I rx hs pl pu ⟨l', us, rfl, .of ea, fun q hq => place_lst m c (rs.cutV lo hi) p hq⟩
    · have p := place_no (by simp) (by simp) p
      exact p.elim
end
end IL
end

section
set_option autoImplicit false
set_option linter.all false
set_option Elab.async false
set_option maxRecDepth 100000
set_option maxHeartbeats 1000000
/-! IL: slices with a step. -/
namespace IL
open PySem L2 PyProof.Rows
theorem evens_eq {α : Type} : ∀ xs : List α, (List.range ((xs.length + 1) / 2)).filterMap (fun k => xs[2 * k]?) = evens xs
  | [] => by simp [evens]
  | [x] => by simp [evens, List.range_succ]
  | x :: y :: r => by
    have e : ((x :: y :: r).length + 1) / 2 = (r.length + 1) / 2 + 1 := by simp only [List.length_cons]; omega
    rw [e, List.range_succ_eq_map, List.filterMap_cons, List.filterMap_map]
    simp only [Nat.mul_zero, List.getElem?_cons_zero, evens]
    rw [← evens_eq r]
    congr 1
theorem pick_one (items : Array Value) : slicePick items none none (some 1) = items.toList.toArray := by
  have h := slicePick_cut items.toList none none
  have e : slicePick items none none (some 1) = slicePick items.toList.toArray none none none := by rw [Array.toArray_toList]; rfl
  rw [e, h]
  simp only [HT.sIx, List.drop_zero, Nat.sub_zero]
  rw [List.take_of_length_le (Nat.le_refl _)]
theorem pick_two (items : Array Value) : slicePick items none none (some 2) = (evens items.toList).toArray := by
  unfold slicePick
  have e1 : sliceBounds none none (some 2) items.size = (0, (items.size : Int), 2) := by simp [sliceBounds]
  rw [e1]
  dsimp only
  have e2 : sliceRange 0 (items.size : Int) 2 = (List.range ((items.toList.length + 1) / 2)).map fun k => 2 * k := by
    unfold sliceRange
    have e3 : (if (2 : Int) > 0 then (if (0 : Int) < (items.size : Int) then ((items.size : Int) - 0 + 2 - 1) / 2 else 0) else (if (0 : Int) > (items.size : Int) then (0 - (items.size : Int) - 2 - 1) / (-2) else 0)) = (((items.toList.length + 1) / 2 : Nat) : Int) := by
      rw [if_pos (by decide), Array.length_toList]
      split <;> omega
    rw [e3]
    simp only [Int.toNat_natCast]
    apply List.map_congr_left
    intro k _
    omega
  rw [e2, List.filterMap_map, ← evens_eq]
  simp only [Function.comp_def, Array.getElem?_toList]
section
variable {X : Cx} {D : Wd} {W : XK}
theorem RVs.evens {F : Hp} {μ : List Addr} : ∀ {vs : List Vl} {us : List V}, RVs D F μ vs us → RVs D F μ (IL.evens vs) (IL.evens us)
  | _, _, .nil => .nil
  | _, _, .cons r .nil => .cons r .nil
  | _, _, .cons r (.cons _ t) => .cons r (RVs.evens t)
theorem Vals.evens : ∀ {vs : List V} {us : List Value}, Vals vs us → Vals (IL.evens vs) (IL.evens us)
  | _, _, .nil => .nil
  | _, _, .cons r .nil => .cons r .nil
  | _, _, .cons r (.cons _ t) => .cons r (Vals.evens t)
theorem evens_le {α : Type} : ∀ xs : List α, (IL.evens xs).length ≤ xs.length
  | [] => Nat.le_refl _
  | [x] => Nat.le_refl _
  | x :: y :: r => by
    have := evens_le r
    simp only [IL.evens, List.length_cons]
    omega
/-- a[::st] of a list -/
def tStep (D : Wd) (W : XK) (m : Bool) (ta ts : TE) : TE := fun σ H Q => ta σ H fun x H1 => tPart ts σ H1 fun o H2 => ∃ F μ h v k, o = some k ∧ CS D F μ h H2 ∧ RV D F μ v x ∧ PostV D F μ H2 (place m (slcV v .non .non (.int k) h)) Q W
theorem pe_step {e st : Expr} {te ts : TE} {p3 pos : Pos} (m : Bool) (he : PE X e te) (hst : PE X st ts) : PE X (.Subscript e (.Slice none none (some st) p3) pos) (tStep D W m te ts) := by
  refine ⟨fun pins s σ H Q I h => ?_⟩
  refine Subscript_ (thn (he.run pins s σ H _ I h) fun v s1 ⟨x, H1, I1, r1, q1⟩ => ?_)
  refine wpAny_Slice (thn (po_none.run pins s1 σ H1 (fun o H2 => o = none ∧ H2 = H1) I1 ⟨rfl, rfl⟩) fun vl s2 ⟨l, H2, I2, pl, el, e2⟩ => ?_)
  subst el e2
  refine thn (po_none.run pins s2 σ H2 (fun o H3 => o = none ∧ H3 = H2) I2 ⟨rfl, rfl⟩) fun vu s3 ⟨u, H3, I3, pu, eu, e3⟩ => ?_
  subst eu e3
  refine thn ((po_some hst).run pins s3 σ H3 _ I3 q1) fun vs s4 ⟨o, H4, I4, ps, F, μ, hh, a, k, eo, c, ra, p⟩ => ?_
  subst eo
  have I5 : L2.Inv X pins σ H4 { s4 with heap := s4.heap.push { cls := .type "slice", data := .fields #[vl, vu, vs] } } := I4.kept (t' := s4.toks) fun b ob q => Heap.get?_push_of_some _ q
  have main : ∀ {ws : List Vl}, asList hh a = some ws → ∃ l us, x = .ref l ∧ H4 l = some (.lst us) ∧ RVs D F μ ws us := fun {ws} e => asList_ok c ra e
  unfold slcV at p
  dsimp only at p
  cases ea : asList hh a with
  | none => rw [ea] at p; cases m <;> exact p.elim
  | some ws =>
    rw [ea] at p
    obtain ⟨l, us, rfl, hx, rs⟩ := main ea
    obtain rfl : v = Value.ref l := r1
    obtain ⟨its, r, ht, hz⟩ := I5.list (SqL.of hx)
    have hlen := r.length
    have go : ∀ {zs : List V} {xs : List Value}, slicePick its.toArray none none (some k) = xs.toArray → Vals zs xs → zs.length ≤ us.length → (∀ q, H4 q = none → Q (.ref q) (upd H4 q (.lst zs))) → (k ≠ 0) →
        wpAny (model X.prog X.w) X.A (subscriptTail e (.Slice none none (some st) p3) (.ref l) (.ref s4.heap.objs.size)) (EP X pins σ Q) X.xe { s4 with heap := s4.heap.push { cls := .type "slice", data := .fields #[vl, vu, vs] } } := fun {zs xs} e1 rz hl q k0 => by
      refine tail_any (ops := [.ref l, .ref s4.heap.objs.size]) ht.isList.typeIs (PySem.slot_list_getitem.lookup) ?_ (by with_unfolding_all rfl)
      refine wpAny_getItem_list_slice ht.isList (Heap.IsSliceOf.new _ vl vu vs) pl pu ps (by simpa using k0) ?_ (by rw [List.size_toArray]; omega)
      rw [e1]
      refine ⟨.ref _, _, I5.laid (t' := s4.toks) (o := .lst zs) (fun b ob q => Heap.get?_push_of_some _ q) (Nat.le_refl _) ?_, rfl, q _ (I5.hok.fresh (Nat.le_refl _))⟩
      exact ⟨by omega, _, 0, rz, Heap.get?_push_size _ rfl⟩
    dsimp only at p
    split at p
    · rename_i hk
      subst hk
      exact go (zs := us.reverse) (xs := its.reverse) (by rw [PySem.W.krv_pick]) r.reverse (by simp) (fun q hq => place_lst m c rs.reverse p hq) (by decide)
    · split at p
      · rename_i hk
        subst hk
        exact go (zs := us) (xs := its) (by rw [pick_one]) r (Nat.le_refl _) (fun q hq => place_lst m c rs p hq) (by decide)
      · split at p
        · rename_i hk
          subst hk
          exact go (zs := IL.evens us) (xs := IL.evens its) (by rw [pick_two]) (Vals.evens r) (evens_le us) (fun q hq => place_lst m c rs.evens p hq) (by decide)
        · cases m <;> exact p.elim
end
end IL
end

section
set_option autoImplicit false
set_option linter.all false
set_option Elab.async false
set_option maxRecDepth 100000
set_option maxHeartbeats 1000000
/-! IL: functions of Python itself. -/
namespace IL
open PySem L2 PyProof.Rows
/-- values of ours and what g makes of them -/
def rL (D : Wd) (W : XK) (g : List Vl → Hh → Rs Vl) : List V → Hp → VK → Prop := fun us H Q => ∃ F μ h vs, CS D F μ h H ∧ RVs D F μ vs us ∧ PostV D F μ H (g vs h) Q W
theorem bools_ok {D : Wd} {F : Hp} {μ : List Addr} : ∀ {vs : List Vl} {us : List V} {bs : List Bool}, RVs D F μ vs us → bools vs = some bs → us = bs.map V.bl
  | [], _, _, .nil, h => by simp only [bools, Option.some.injEq] at h; subst h; rfl
  | .bl b :: vs, _, _, .cons r t, h => by
    simp only [bools, Option.map_eq_some_iff] at h
    obtain ⟨ms, e, rfl⟩ := h
    cases r
    rw [bools_ok t e]
    rfl
  | .non :: _, _, _, _, h => by simp [bools] at h
  | .int _ :: _, _, _, _, h => by simp [bools] at h
  | .str _ :: _, _, _, _, h => by simp [bools] at h
  | .tup _ :: _, _, _, _, h => by simp [bools] at h
  | .lst _ :: _, _, _, _, h => by simp [bools] at h
  | .scr _ :: _, _, _, _, h => by simp [bools] at h
  | .dct _ _ :: _, _, _, _, h => by simp [bools] at h
  | .ins _ _ :: _, _, _, _, h => by simp [bools] at h
  | .ref _ :: _, _, _, _, h => by simp [bools] at h
theorem RVs.one {D : Wd} {F : Hp} {μ : List Addr} {v : Vl} {us : List V} (r : RVs D F μ [v] us) : ∃ u, us = [u] ∧ RV D F μ v u := by
  cases r with
  | cons r t => cases t; exact ⟨_, rfl, r⟩
theorem RVs.two {D : Wd} {F : Hp} {μ : List Addr} {v w : Vl} {us : List V} (r : RVs D F μ [v, w] us) : ∃ u x, us = [u, x] ∧ RV D F μ v u ∧ RV D F μ w x := by
  cases r with
  | cons r t =>
    obtain ⟨x, rfl, q⟩ := t.one
    exact ⟨_, x, rfl, r, q⟩
section
variable {X : Cx} {D : Wd} {W : XK}
theorem cr_len (hK : X.K = D.K) : CallR X (.builtin "len") (rL D W (bltV .len)) := by
  intro pins s σ H us vs Q I r hh
  obtain ⟨F, μ, h, xs, c, rs, p⟩ := hh
  match xs, rs, p with
  | [x], rs, p =>
    obtain ⟨u, rfl, ru⟩ := rs.one
    obtain ⟨_, e, p⟩ := post_of p
    simp only [Option.map_eq_some_iff] at e
    obtain ⟨n, e, rfl⟩ := e
    refine call_len pins s σ H _ vs Q I r ⟨u, (n : Nat), rfl, ?_, post_same c (.int _) p⟩
    unfold lenV at e
    split at e
    · cases ru with
      | str k =>
        split at e
        · rename_i z hz
          cases e
          exact ⟨Nat.le_trans (by simpa [Str.length] using hz) (by decide), by simp [Str.length]⟩
        · cases e
    · split at e
      · rename_i ws ha
        cases e
        obtain ⟨l, us, rfl, sq, rq⟩ := asSeq_ok c ru ha
        rcases sq with sq | sq
        · exact .inl ⟨us, hK ▸ sq, by rw [rq.length]⟩
        · exact .inr ⟨us, hK ▸ sq, by rw [rq.length]⟩
      · cases e
  | [], _, p => exact p.elim
  | _ :: _ :: _, _, p => exact p.elim
theorem cr_allV (hc : X.calm = true) : CallR X (.builtin "all") (rL D W (bltV .all)) := by
  intro pins s σ H us vs Q I r hh
  obtain ⟨F, μ, h, xs, c, rs, p⟩ := hh
  match xs, rs, p with
  | [x], rs, p =>
    obtain ⟨u, rfl, ru⟩ := rs.one
    simp only [bltV] at p
    split at p
    · rename_i ys hy
      obtain ⟨_, e, p⟩ := post_of p
      simp only [Option.map_eq_some_iff] at e
      obtain ⟨bs, e, rfl⟩ := e
      obtain ⟨l, ws, rfl, hl, rq⟩ := asList_ok c ru hy
      rw [bools_ok rq e] at hl
      exact cr_all hc pins s σ H _ vs Q I r ⟨l, bs, rfl, .of hl, post_same c (.bl _) p⟩
    · exact p.elim
  | [], _, p => exact p.elim
  | _ :: _ :: _, _, p => exact p.elim
theorem cr_anyV (hc : X.calm = true) : CallR X (.builtin "any") (rL D W (bltV .any)) := by
  intro pins s σ H us vs Q I r hh
  obtain ⟨F, μ, h, xs, c, rs, p⟩ := hh
  match xs, rs, p with
  | [x], rs, p =>
    obtain ⟨u, rfl, ru⟩ := rs.one
    simp only [bltV] at p
    split at p
    · rename_i ys hy
      obtain ⟨_, e, p⟩ := post_of p
      simp only [Option.map_eq_some_iff] at e
      obtain ⟨bs, e, rfl⟩ := e
      obtain ⟨l, ws, rfl, hl, rq⟩ := asList_ok c ru hy
      rw [bools_ok rq e] at hl
      exact cr_any hc pins s σ H _ vs Q I r ⟨l, bs, rfl, .of hl, post_same c (.bl _) p⟩
    · exact p.elim
  | [], _, p => exact p.elim
  | _ :: _ :: _, _, p => exact p.elim
theorem cr_listV (hK : X.K = D.K) (m : Bool) : CallR X (.type "list") (rL D W (bltV (.list m))) := by
  intro pins s σ H us vs Q I r hh
  obtain ⟨F, μ, h, xs, c, rs, p⟩ := hh
  match xs, rs, p with
  | [x], rs, p =>
    obtain ⟨u, rfl, ru⟩ := rs.one
    simp only [bltV] at p
    split at p
    · rename_i ys hy
      obtain ⟨l, ws, rfl, sq, rq⟩ := asSeq_ok c ru hy
      exact call_list_of pins s σ H _ vs Q I r ⟨l, ws, rfl, hK ▸ sq, fun q hq => place_lst m c rq p hq⟩
    · exact p.elim
  | [], _, p => exact p.elim
  | _ :: _ :: _, _, p => exact p.elim
theorem cr_tupleV (hK : X.K = D.K) : CallR X (.type "tuple") (rL D W (bltV .tuple)) := by
  intro pins s σ H us vs Q I r hh
  obtain ⟨F, μ, h, xs, c, rs, p⟩ := hh
  match xs, rs, p with
  | [x], rs, p =>
    obtain ⟨u, rfl, ru⟩ := rs.one
    simp only [bltV] at p
    split at p
    · rename_i ys hy
      cases ru with
      | tup hf rq =>
        cases hy
        exact call_tuple_of pins s σ H _ vs Q I r ⟨_, _, rfl, .inr ⟨.of (c.sub.tup hf), post_same c (.tup hf rq) p⟩⟩
      | scr hf rq =>
        cases hy
        exact call_tuple_of pins s σ H _ vs Q I r ⟨_, _, rfl, .inl ⟨hK ▸ c.sub.sqL hf, fun q hq => post_tup c rq p hq⟩⟩
      | lst hf rq =>
        obtain ⟨l, ws, e, sq, rq'⟩ := asList_ok c (.lst hf rq) hy
        cases e
        exact call_tuple_of pins s σ H _ vs Q I r ⟨_, _, rfl, .inl ⟨.of sq, fun q hq => post_tup c rq' p hq⟩⟩
      | ref hm =>
        obtain ⟨l, ws, e, sq, rq'⟩ := asList_ok c (.ref hm) hy
        cases e
        exact call_tuple_of pins s σ H _ vs Q I r ⟨_, _, rfl, .inl ⟨.of sq, fun q hq => post_tup c rq' p hq⟩⟩
      | _ => simp [asSeq, asList] at hy
    · exact p.elim
  | [], _, p => exact p.elim
  | _ :: _ :: _, _, p => exact p.elim
theorem max_mem : ∀ (xs : List Int) (x : Int), xs.foldl max x ∈ x :: xs ∧ ∀ y ∈ x :: xs, y ≤ xs.foldl max x
  | [], x => ⟨by simp, fun y hy => by simp at hy; subst hy; exact Int.le_refl _⟩
  | z :: xs, x => by
    obtain ⟨h1, h2⟩ := max_mem xs (max x z)
    refine ⟨?_, fun y hy => ?_⟩
    · simp only [List.foldl_cons]
      rcases List.mem_cons.mp h1 with e | e
      · rw [e]
        rcases (show max x z = x ∨ max x z = z by omega) with q | q <;> rw [q] <;> simp
      · exact List.mem_cons_of_mem _ (List.mem_cons_of_mem _ e)
    · simp only [List.foldl_cons]
      have h3 := h2 (max x z) (by simp)
      rcases List.mem_cons.mp hy with e | e
      · subst e; omega
      · rcases List.mem_cons.mp e with e | e
        · subst e; omega
        · exact h2 y (List.mem_cons_of_mem _ e)
theorem cr_maxV (hc : X.calm = true) : CallR X (.builtin "max") (rL D W (bltV .max)) := by
  intro pins s σ H us vs Q I r hh
  obtain ⟨F, μ, h, xs, c, rs, p⟩ := hh
  simp only [bltV] at p
  split at p
  · obtain ⟨u, rfl, ru⟩ := rs.one
    split at p
    · rename_i ys hy
      obtain ⟨_, e, p⟩ := post_of p
      simp only [Option.map_eq_some_iff] at e
      obtain ⟨k, e, rfl⟩ := e
      obtain ⟨ns, e1, e2⟩ := Option.bind_eq_some_iff.mp e
      obtain ⟨l, ws, rfl, hl, rq⟩ := asList_ok c ru hy
      rw [ints_ok rq e1] at hl
      cases ns with
      | nil => simp [maxI] at e2
      | cons n ns =>
        simp only [maxI, Option.some.injEq] at e2
        obtain ⟨m1, m2⟩ := max_mem ns n
        refine cr_max hc pins s σ H _ vs Q I r ⟨l, n :: ns, rfl, .of hl, by simp, fun m hm hle => ?_⟩
        have a1 := m2 m hm
        have a2 := hle _ m1
        have a3 : m = k := by omega
        subst a3
        exact post_same c (.int _) p
    · exact p.elim
  · split at p
    · rename_i i j e
      have e1 := ints_ok rs e
      subst e1
      exact call_max2 hc pins s σ H _ vs Q I r ⟨i, j, rfl, post_same c (.int _) p⟩
    · exact p.elim
theorem min_mem : ∀ (xs : List Int) (x : Int), xs.foldl min x ∈ x :: xs ∧ ∀ y ∈ x :: xs, xs.foldl min x ≤ y
  | [], x => ⟨by simp, fun y hy => by simp at hy; subst hy; exact Int.le_refl _⟩
  | z :: xs, x => by
    obtain ⟨h1, h2⟩ := min_mem xs (min x z)
    refine ⟨?_, fun y hy => ?_⟩
    · simp only [List.foldl_cons]
      rcases List.mem_cons.mp h1 with e | e
      · rw [e]
        rcases (show min x z = x ∨ min x z = z by omega) with q | q <;> rw [q] <;> simp
      · exact List.mem_cons_of_mem _ (List.mem_cons_of_mem _ e)
    · simp only [List.foldl_cons]
      have h3 := h2 (min x z) (by simp)
      rcases List.mem_cons.mp hy with e | e
      · subst e; omega
      · rcases List.mem_cons.mp e with e | e
        · subst e; omega
        · exact h2 y (List.mem_cons_of_mem _ e)
theorem cr_minV (hc : X.calm = true) : CallR X (.builtin "min") (rL D W (bltV .min)) := by
  intro pins s σ H us vs Q I r hh
  obtain ⟨F, μ, h, xs, c, rs, p⟩ := hh
  simp only [bltV] at p
  split at p
  · obtain ⟨u, rfl, ru⟩ := rs.one
    split at p
    · rename_i ys hy
      obtain ⟨_, e, p⟩ := post_of p
      simp only [Option.map_eq_some_iff] at e
      obtain ⟨k, e, rfl⟩ := e
      obtain ⟨ns, e1, e2⟩ := Option.bind_eq_some_iff.mp e
      obtain ⟨l, ws, rfl, hl, rq⟩ := asList_ok c ru hy
      rw [ints_ok rq e1] at hl
      cases ns with
      | nil => simp [minI] at e2
      | cons n ns =>
        simp only [minI, Option.some.injEq] at e2
        obtain ⟨m1, m2⟩ := min_mem ns n
        refine cr_min hc pins s σ H _ vs Q I r ⟨l, n :: ns, rfl, .of hl, by simp, fun m hm hle => ?_⟩
        have a1 := m2 m hm
        have a2 := hle _ m1
        have a3 : m = k := by omega
        subst a3
        exact post_same c (.int _) p
    · exact p.elim
  · split at p
    · rename_i i j e
      have e1 := ints_ok rs e
      subst e1
      exact call_min2 hc pins s σ H _ vs Q I r ⟨i, j, rfl, post_same c (.int _) p⟩
    · exact p.elim
end
end IL
end

section
set_option autoImplicit false
set_option linter.all false
set_option Elab.async false
set_option maxRecDepth 100000
set_option maxHeartbeats 1000000
/-! IL: calls of defs. -/
namespace IL
open PySem L2 PyProof.Rows
/-- what the def f promises at depth d -/
def spF (D : Wd) (P : Pg) (d f : Nat) : Sp := fun us H Q E => (∃ G, P.fn f = some G ∧ us.length = G.n) ∧ ∃ F μ h vs, CS D F μ h H ∧ RVs D F μ vs us ∧ PostV D F μ H (run P d f vs h) Q E
section
variable {D : Wd} {F : Hp} {μ : List Addr} {h : Hh} {H : Hp}
theorem frozen_fresh {F' : Hp} {μ' : List Addr} {H' : Hp} {h' : Hh} {n : Nat} (x : Xt F μ H F' μ' H') (c' : CS D F' μ' h' H') (hn : ∀ a ∈ μ'.drop n, H a = none) {a : Addr} {o : Ob} {u : HO} (fa : F a = none) (ha : H a = some u) (hu : H' a = some u) (r : RO D F μ o u) : frozen F' μ' n H' a = none := by
  have na : a ∉ μ'.drop n := fun z => by
    rw [hn a z] at ha; cases ha
  rw [frozen_out na]
  cases q : F' a with
  | none => rfl
  | some o' =>
    rcases x.fnew a o' q with z | z | ⟨xs, z⟩
    · rw [fa] at z; cases z
    · rw [ha] at z; cases z
    · subst z
      have := c'.sub.tup q
      rw [hu] at this
      cases this
      cases r
/-- a callee that had nothing of the local heap -/
theorem back_apart (c : CS D F μ h H) {F' : Hp} {μ' : List Addr} {H' : Hp} {h' : Hh} (x : Xt F [] H F' μ' H') (c' : CS D F' μ' h' H') : CS D (frozen F' μ' 0 H') μ h H' ∧ Xt F μ H (frozen F' μ' 0 H') μ H' := by
  have hn : ∀ a ∈ μ'.drop 0, H a = none := fun a ha => by
    rw [List.drop_zero] at ha
    rcases x.mnew a ha with z | z
    · simp at z
    · exact z
  have fx : FExt F (frozen F' μ' 0 H') := x.f.trans (frozen_ext c')
  refine ⟨⟨frozen_sub c', c.len, c.inj, fun l o e => ?_⟩, ⟨fx, .refl _, fun a o e _ => x.keep a o e (by simp), x.there, fun a o e => ?_, fun a ha => .inl ha⟩⟩
  · obtain ⟨a, u, e1, e2, e3, e4⟩ := c.ob l o e
    have hu := x.keep a u e3 (by simp)
    refine ⟨a, u, e1, ?_, hu, e4.mono fx (.refl _)⟩
    have na : a ∉ μ'.drop 0 := fun z => by
      rw [hn a z] at e3; cases e3
    rw [frozen_out na]
    cases q : F' a with
    | none => rfl
    | some o' =>
      rcases x.fnew a o' q with z | z | ⟨xs, z⟩
      · rw [e2] at z; cases z
      · rw [e3] at z; cases z
      · subst z
        have := c'.sub.tup q
        rw [hu] at this
        cases this
        cases e4
  · by_cases z : a ∈ μ'.drop 0
    · exact .inr (.inl (hn a z))
    · rw [frozen_out z] at e
      exact x.fnew a o e
/-- a callee that had the local heap: what it made is dropped -/
theorem back_clean (c : CS D F μ h H) {F' : Hp} {μ' : List Addr} {H' : Hp} {h' : Hh} (x : Xt F μ H F' μ' H') (c' : CS D F' μ' h' H') (hb : (h'.take h.length).all (obBelow h.length) = true) :
    CS D (frozen F' μ' h.length H') μ (h'.take h.length) H' ∧ Xt F μ H (frozen F' μ' h.length H') μ H' := by
  have ht : μ'.take h.length = μ := by
    obtain ⟨t, rfl⟩ := x.m
    rw [c.len, List.take_append_of_le_length (Nat.le_refl _), List.take_length]
  have cd := c'.drop hb
  rw [ht] at cd
  have hn : ∀ a ∈ μ'.drop h.length, H a = none := fun a ha => by
    rcases x.mnew a (List.mem_of_mem_drop ha) with z | z
    · exfalso
      have nd := c'.inj
      rw [← List.take_append_drop h.length μ', ht, List.nodup_append] at nd
      exact nd.2.2 a z a ha rfl
    · exact z
  refine ⟨cd, ⟨x.f.trans (frozen_ext c'), .refl _, x.keep, x.there, fun a o e => ?_, fun a ha => .inl ha⟩⟩
  by_cases z : a ∈ μ'.drop h.length
  · exact .inr (.inl (hn a z))
  · rw [frozen_out z] at e
    exact x.fnew a o e
/-- THE CALL: what its def promises gives what callC tells -/
theorem call_reads {P : Pg} {d f : Nat} (c : CS D F μ h H) {vs : List Vl} {us : List V} (r : RVs D F μ vs us) {Q : VK} {E : XK} (p : PostV D F μ H (callC P (run P d) f vs h) Q E) : spF D P d f us H Q E := by
  unfold callC at p
  split at p
  · exact p.elim
  · rename_i G hG
    have key : ∀ vs' h', run P d f vs' h' ≠ .bad → vs'.length = G.n := fun vs' h' hne => by
      cases d with
      | zero => exact absurd rfl hne
      | succ d =>
        unfold run at hne
        rw [hG] at hne
        dsimp only at hne
        split at hne
        · assumption
        · exact absurd rfl hne
    split at p
    · refine ⟨⟨G, hG, ?_⟩, F, μ, h, vs, c, r, p⟩
      rw [← r.length]
      exact key vs h fun e => by rw [e] at p; exact p
    · split at p
      · rename_i hp
        have c0 : CS D F [] [] H := ⟨c.sub, rfl, List.nodup_nil, fun l o e => by simp at e⟩
        have r0 : RVs D F [] vs us := by
          have := r.each (G := F) (ν := μ.take 0) (P := fun v => below deep 0 v = true) (below_ok deep) (List.all_eq_true.mp hp)
          simpa using this
        cases er : run P d f vs [] with
        | bad => rw [er] at p; exact p.elim
        | exc C h' =>
          rw [er] at p
          refine ⟨⟨G, hG, by rw [← r.length]; exact key vs [] (by rw [er]; simp)⟩, F, [], [], vs, c0, r0, ?_⟩
          rw [er]
          intro F' μ' H' A x c' k
          obtain ⟨c2, x2⟩ := back_apart c x c'
          exact p _ _ _ A x2 c2 k
        | ok v h' =>
          rw [er] at p
          refine ⟨⟨G, hG, by rw [← r.length]; exact key vs [] (by rw [er]; simp)⟩, F, [], [], vs, c0, r0, ?_⟩
          rw [er]
          intro F' μ' H' u x c' rv
          dsimp only at p
          split at p
          · rename_i v' hv
            obtain ⟨c2, x2⟩ := back_apart c x c'
            have rt := thaw_ok c' deep v v' u hv rv
            rw [List.take_zero] at rt
            exact p _ _ _ u x2 c2 (rt.mono (.refl _) ⟨μ, by simp⟩)
          · exact p.elim
      · cases er : run P d f vs h with
        | bad => rw [er] at p; exact p.elim
        | exc C h' =>
          rw [er] at p
          refine ⟨⟨G, hG, by rw [← r.length]; exact key vs h (by rw [er]; simp)⟩, F, μ, h, vs, c, r, ?_⟩
          rw [er]
          intro F' μ' H' A x c' k
          simp only [clean] at p
          split at p
          · rename_i hb
            obtain ⟨c2, x2⟩ := back_clean c x c' hb
            exact p _ _ _ A x2 c2 k
          · exact p.elim
        | ok v h' =>
          rw [er] at p
          refine ⟨⟨G, hG, by rw [← r.length]; exact key vs h (by rw [er]; simp)⟩, F, μ, h, vs, c, r, ?_⟩
          rw [er]
          intro F' μ' H' u x c' rv
          simp only [clean] at p
          split at p
          · rename_i hb
            split at p
            · rename_i v' hv
              obtain ⟨c2, x2⟩ := back_clean c x c' hb
              have rt := thaw_ok c' deep v v' u hv rv
              have ht : μ'.take h.length = μ := by
                obtain ⟨t, rfl⟩ := x.m
                rw [c.len, List.take_append_of_le_length (Nat.le_refl _), List.take_length]
              rw [ht] at rt
              exact p _ _ _ u x2 c2 rt
            · exact p.elim
          · exact p.elim
end
end IL
end

section
set_option autoImplicit false
set_option linter.all false
set_option Elab.async false
set_option maxRecDepth 100000
set_option maxHeartbeats 1000000
/-! IL: does a body of ours say what the text says? -/
namespace IL
open PySem L2 PyProof.Rows
/-- the names of a module's top -/
structure Gt where
  fn : Str → Option Nat
  cl : Str → Option Nat
  cn : Str → Option Vl
  bl : Str → Bool

def visB (sc : Scope) (x : Str) : Bool := match sc.names.lookup x with
  | some .local => true
  | some .cell => true
  | some .free => true
  | _ => false
def glB (sc : Scope) (x : Str) : Bool := match sc.names.lookup x with
  | some .globalImplicit => true
  | _ => false
def plainNm (x : Str) : Bool := !(x == ("__debug__" : Str)) && !(x == ("__classdict__" : Str)) && !(x == ("__name__" : Str))
def notSuper : Expr → Bool
  | .Call (.Name x _) [] [] _ => !(x == ("super" : Str))
  | _ => true
def constOk : Vl → Const → Bool
  | .non, .none => true
  | .bl a, .bool b => a == b
  | .int i, .int j => i == j
  | .str x, .str y => x == y && PyData.strOk x
  | _, _ => false
def sameC : Vl → Vl → Bool
  | .int i, .int j => i == j
  | .str x, .str y => x == y && PyData.strOk x
  | _, _ => false
def isOp : Bop → Operator → Bool
  | .add, .Add => true | .sub, .Sub => true | .mul, .Mult => true | .fdiv, .FloorDiv => true | .mod, .Mod => true | .pow, .Pow => true
  | _, _ => false
def isCop : Cop → CmpOp → Bool
  | .eq, .Eq => true | .ne, .NotEq => true | .lt, .Lt => true | .le, .LtE => true | .gt, .Gt => true | .ge, .GtE => true | .isin, .In => true | .notin, .NotIn => true | .is, .Is => true | .isnot, .IsNot => true
  | _, _ => false
theorem isOp_eq {o : Bop} {p : Operator} (h : isOp o p = true) : p = bopP o := by
  cases o <;> cases p <;> first | rfl | cases h
theorem isCop_eq {o : Cop} {p : CmpOp} (h : isCop o p = true) : p = copP o := by
  cases o <;> cases p <;> first | rfl | cases h
def tyName : Nat → Str
  | 0 => "int" | 1 => "bool" | 2 => "tuple" | 3 => "str" | _ => "list"
/-- a function of Python by its name -/
def bltName : Blt → Option Str
  | .len => some "len" | .all => some "all" | .any => some "any" | .max => some "max" | .min => some "min"
  | _ => none
def tyFn : Blt → Option Str
  | .list _ => some "list" | .tuple => some "tuple"
  | _ => none
def bmName : Bm → Str
  | .append => "append" | .extend => "extend" | .pop => "pop" | .index => "index" | .get => "get" | .items => "items" | .insert => "insert" | .remove => "remove" | .reverse => "reverse" | .clear => "clear" | .count => "count" | .join => "join" | .split => "split" | .partition => "partition"
/-- what is walked, by what its parts fit -/
def chkI1 (G : Gt) (k : Ik) (sc : Scope) (e : Expr) (fL : List Expr → Bool) : Bool := match k with
  | .seq => fL [e]
  | .rng => (match e with
    | .Call (.Name x _) xs [] _ => x == ("range" : Str) && glB sc x && G.bl x && (xs.length == 1 || xs.length == 2) && fL xs
    | _ => false)
  | .enum => (match e with
    | .Call (.Name x _) xs [] _ => x == ("enumerate" : Str) && glB sc x && G.bl x && xs.length == 1 && fL xs
    | _ => false)
  | _ => false
section
variable (G : Gt) (N : List Str)
/-- enumerate's pairs are taken apart at once -/
def tgK : Ik → Tg → Bool
  | .enum, .tp _ => true
  | .enum, _ => false
  | _, _ => true
def ownP (own : List Nat) : List (Str × Nat) := own.map fun i => (N.getD i Str.empty, i)
mutual
def chkT : Tg → Scope → Expr → Bool
  | .nm i, sc, e => match e with
    | .Name x _ => decide (N[i]? = some x) && (match sc.names.lookup x with | some .local => true | some .cell => true | _ => false)
    | _ => false
  | .tp gs, sc, e => match e with
    | .Tuple es _ _ => chkTs gs sc es
    | _ => false
def chkTs : List Tg → Scope → List Expr → Bool
  | [], _, [] => true
  | g :: gs, sc, e :: es => chkT g sc e && chkTs gs sc es
  | _, _, _ => false
end
mutual
def chkE : Ex → Scope → Expr → Bool
  | .var i, sc, e => match e with
    | .Name x _ => decide (N[i]? = some x) && visB sc x && plainNm x
    | _ => false
  | .cst v, _, e => match e with
    | .Constant k _ _ => constOk v k
    | _ => false
  | .gc x v, sc, e => match e with
    | .Name y _ => x == y && glB sc x && plainNm x && (match G.cn x with | some w => sameC v w | none => false)
    | _ => false
  | .bin o a b, sc, e => match e with
    | .BinOp x p y _ => isOp o p && chkE a sc x && chkE b sc y
    | _ => false
  | .neg a, sc, e => match e with
    | .UnaryOp .USub x _ => chkE a sc x
    | _ => false
  | .cmp o a b, sc, e => match e with
    | .Compare x [p] [y] _ => isCop o p && chkE a sc x && chkE b sc y
    | _ => false
  | .chn o₁ o₂ a b c, sc, e => match e with
    | .Compare x [p, q] [y, z] _ => isCop o₁ p && isCop o₂ q && chkE a sc x && chkE b sc y && chkE c sc z
    | _ => false
  | .and a b, sc, e => match e with
    | .BoolOp .And [x, y] _ => chkE a sc x && chkE b sc y
    | .BoolOp .And (x :: y :: z :: r) p => chkE a sc x && chkE b sc (.BoolOp .And (y :: z :: r) p)
    | _ => false
  | .or a b, sc, e => match e with
    | .BoolOp .Or [x, y] _ => chkE a sc x && chkE b sc y
    | .BoolOp .Or (x :: y :: z :: r) p => chkE a sc x && chkE b sc (.BoolOp .Or (y :: z :: r) p)
    | _ => false
  | .not a, sc, e => match e with
    | .UnaryOp .Not x _ => chkE a sc x
    | _ => false
  | .ite c a b, sc, e => match e with
    | .IfExp t x y _ => chkE c sc t && chkE a sc x && chkE b sc y
    | _ => false
  | .tup es, sc, e => match e with
    | .Tuple xs _ _ => chkL es sc xs
    | _ => false
  | .lst _ es, sc, e => match e with
    | .List xs _ => chkL es sc xs
    | _ => false
  | .dnew _, _, e => match e with
    | .Dict [] [] _ => true
    | _ => false
  | .idx a i, sc, e => match e with
    | .Subscript x y _ => chkE a sc x && chkE i sc y
    | _ => false
  | .slc _ a lo hi st, sc, e => match e with
    | .Subscript x (.Slice l u none _) _ => isNonE st && chkE a sc x && (match l with | some l => !isNonE lo && chkE lo sc l | none => isNonE lo) && (match u with | some u => !isNonE hi && chkE hi sc u | none => isNonE hi)
    | .Subscript x (.Slice none none (some k) _) _ => (isNonE lo && isNonE hi && !isNonE st) && chkE a sc x && chkE st sc k
    | _ => false
  | .fld a f, sc, e => match e with
    | .Attribute x g _ => f == g && notSuper x && chkE a sc x
    | _ => false
  | .call f es, sc, e => match e with
    | .Call (.Name x _) xs [] _ => glB sc x && plainNm x && decide (G.fn x = some f) && chkL es sc xs
    | _ => false
  | .meth m o es, sc, e => match e with
    | .Call (.Attribute x n ap) xs [] cp => m == n && (ap.endLine == cp.line) && notSuper x && decide (xs.length < 20) && chkE o sc x && chkL es sc xs
    | _ => false
  | .bm m o es, sc, e => match e with
    | .Call (.Attribute x n ap) xs [] cp => bmName m == n && (ap.endLine == cp.line) && notSuper x && decide (xs.length < 20) && chkE o sc x && chkL es sc xs
    | _ => false
  | .make C es, sc, e => match e with
    | .Call (.Name x _) xs [] _ => glB sc x && plainNm x && decide (G.cl x = some C) && chkL es sc xs
    | _ => false
  | .blt b es, sc, e => match e with
    | .Call (.Name x _) xs [] _ => glB sc x && plainNm x && G.bl x && (match b, xs with
      | .isinst n, [y, .Name t _] => x == ("isinstance" : Str) && t == tyName n && glB sc t && plainNm t && G.bl t && decide (n < 5) && chkL es sc [y]
      | .isinst _, _ => false
      | .lenset, [.Call (.Name y _) [z] [] _] => x == ("len" : Str) && y == ("set" : Str) && glB sc y && plainNm y && G.bl y && chkL es sc [z]
      | .lenset, _ => false
      | b, xs => (decide (bltName b = some x) || decide (tyFn b = some x)) && !xs.isEmpty && chkL es sc xs)
    | _ => false
  | .lc _ own g k es cond e', sc, e => match e with
    | .ListComp elt [⟨tg, iter, ifs, 0⟩] scope _ => blkC N sc scope (ownP N own) && (tgNs g).all (own.contains ·) && tgK k g && chkT N g scope tg && chkI1 G k sc iter (chkL es sc) && (match cond, ifs with | [], [] => true | [c], [t] => chkE c scope t | _, _ => false) && chkE e' scope elt
    | _ => false
def chkL : List Ex → Scope → List Expr → Bool
  | [], _, [] => true
  | a :: as, sc, x :: xs => chkE a sc x && chkL as sc xs
  | _, _, _ => false
end
/-- what a for walks -/
def chkI (k : Ik) (es : List Ex) (sc : Scope) (e : Expr) : Bool := chkI1 G k sc e (chkL G N es sc)
end
end IL
end

section
set_option autoImplicit false
set_option linter.all false
set_option Elab.async false
set_option maxRecDepth 100000
set_option maxHeartbeats 1000000
/-! IL: where one stands. -/
namespace IL
open PySem L2 PyProof.Rows
/-- the world at depth d: what the text's top has left, and what its defs promise -/
structure WOk (D : Wd) (P : Pg) (d : Nat) (G : Gt) (prog : Program) (w : World) (K : Frag) (mg : Str → Option Value) (base : Heap) : Prop where
  hK : K = D.K
  fns : ∀ x f, G.fn x = some f → ∃ fa fd ps, mg x = some (.ref fa) ∧ PySem.W.keepIn K (.ref fa) = true ∧ Binds K fd ps [] ∧ FnOk prog w K mg base (L2.CX prog w) (2 * d) fa fd ps (spF D P d f)
  mts : ∀ C A m f, D.cls C = some A → P.mt C m = some f → ∃ fa fd ps, Cls K A ∧ Meth K A m fa ∧ Binds K fd ps [] ∧ FnOk prog w K mg base (L2.CX prog w) (2 * d) fa fd ps (spF D P d f)
  mks : ∀ x C, G.cl x = some C → ∃ f A fa fd ps, P.init C = some f ∧ D.cls C = some A ∧ mg x = some (.ref A) ∧ Mk K A fa ∧ Binds K fd ps [] ∧ FnOk prog w K mg base (L2.CX prog w) (2 * d) fa fd ps (spF D P d f)
  kp : ∀ C f F, P.init C = some f → P.fn f = some F → F.keep = true
  fls : ∀ C A f, D.cls C = some A → P.fl C f = true → Cls K A ∧ NoAttr K A f
  blt : ∀ x, G.bl x = true → mg x = none
  cst : ∀ x v, G.cn x = some v → ∃ u, mg x = some u ∧ ((∃ i, v = .int i ∧ RelV (.int i) u) ∨ ∃ z, v = .str z ∧ RelV (.str z) u)

/-- a place in the text, whose names are told by the written scope sc -/
structure XOk (D : Wd) (P : Pg) (d : Nat) (G : Gt) (N : List Str) (sc : Scope) (W : WX) (X : Cx) : Prop where
  w : WOk D P d G X.prog X.w X.K X.mg X.base
  hN : X.N = N
  nd : N.Nodup
  calm : X.calm = true
  room : Room (2 * d + 1) X.A
  vis : ∀ x, visB sc x = true → Vis X.env.scope x
  gl : ∀ x, glB sc x = true → Gl X x
  loc : ∀ x, (sc.names.lookup x = some .local ∨ sc.names.lookup x = some .cell) → Loc X.env.scope x ∧ (X.fn x = true ∨ X.env.scope.names.lookup x = some .local)
  free : ∀ x k, sc.names.lookup x = some k → (k = .cell ∨ k = .free) → X.env.scope.names.lookup x = some .cell ∨ X.env.scope.names.lookup x = some .free
  tk : Takes X W
section
variable {D : Wd} {P : Pg} {d : Nat} {G : Gt} {N : List Str} {sc : Scope} {W : WX} {X : Cx}
theorem XOk.hK (o : XOk D P d G N sc W X) : X.K = D.K := o.w.hK
theorem XOk.hu (o : XOk D P d G N sc W X) : X.A.units + 65 < cLine := by
  have := o.room.un
  omega
theorem look_free {sc : Scope} : ∀ {names : List (Str × NameKind)} {x : Str}, names.lookup x = some .free →
    (names.map fun (n, k) => if (k == NameKind.free && sc.kind == .function && sc.names.lookup n == some .cell) then (n, NameKind.cell) else (n, k)).lookup x = some .free ∨
    (names.map fun (n, k) => if (k == NameKind.free && sc.kind == .function && sc.names.lookup n == some .cell) then (n, NameKind.cell) else (n, k)).lookup x = some .cell
  | [], _, h => by simp at h
  | (n, k₀) :: r, x, h => by
    have ih := @look_free sc r x
    show List.lookup x ((if (k₀ == NameKind.free && sc.kind == .function && sc.names.lookup n == some .cell) = true then (n, NameKind.cell) else (n, k₀)) :: (r.map _)) = some .free ∨ List.lookup x ((if (k₀ == NameKind.free && sc.kind == .function && sc.names.lookup n == some .cell) = true then (n, NameKind.cell) else (n, k₀)) :: (r.map _)) = some .cell
    by_cases hc : (k₀ == NameKind.free && sc.kind == .function && sc.names.lookup n == some .cell) = true
    · rw [if_pos hc]
      cases hx : x == n with
      | true => right; simp only [List.lookup_cons, hx]
      | false =>
        simp only [List.lookup_cons, hx] at h ⊢
        exact ih h
    · rw [if_neg hc]
      cases hx : x == n with
      | true =>
        simp only [List.lookup_cons, hx] at h ⊢
        left; exact h
      | false =>
        simp only [List.lookup_cons, hx] at h ⊢
        exact ih h
/-- within a comprehension -/
theorem XOk.blk (o : XOk D P d G N sc W X) (s : Shared) (H : Hp) (scope : Scope) (hk : scope.kind = .function) (C : Addr) (cl : List (Str × Addr)) (fp : List Addr) : XOk D P d G N scope (fun _ _ _ _ => False) (X.blk s H scope (compEnvC scope cl C X.env) fp) where
  w := o.w
  hN := o.hN
  nd := o.nd
  calm := o.calm
  room := o.room
  vis := fun x h => by
    unfold visB at h
    split at h
    · rename_i e; exact .inl (lookup_relS_keep (by decide) e)
    · rename_i e; exact .inr (.inl (lookup_relS_keep (by decide) e))
    · rename_i e
      rcases look_free (sc := X.env.scope) e with q | q
      · exact .inr (.inr q)
      · exact .inr (.inl q)
    · cases h
  gl := fun x h => by
    unfold glB at h
    split at h
    · rename_i e; exact lookup_relS_keep (by decide) e
    · cases h
  loc := fun x h => by
    rcases h with e | e
    · have q : (compEnvC scope cl C X.env).scope.names.lookup x = some .local := lookup_relS_keep (by decide) e
      exact ⟨.inl q, .inr q⟩
    · have q : (compEnvC scope cl C X.env).scope.names.lookup x = some .cell := lookup_relS_keep (by decide) e
      refine ⟨.inr q, .inl ?_⟩
      show (scope.names.lookup x == some .cell) = true
      rw [e]; rfl
  free := fun x k e h => by
    rcases h with rfl | rfl
    · exact .inl (lookup_relS_keep (by decide) e)
    · exact (look_free (sc := X.env.scope) e).symm
  tk := takes0
end

/-- the frame -/
def ER (D : Wd) (F : Hp) (μ : List Addr) (ρ : Ev) (σ : L2.St) : Prop := ρ.length = σ.length ∧ ∀ (i : Nat) (v : Vl), ρ[i]? = some (some v) → ∃ u, σ[i]? = some (some u) ∧ RV D F μ v u
theorem ER.mono {D : Wd} {F G : Hp} {μ ν : List Addr} (hF : FExt F G) (hm : MExt μ ν) {ρ : Ev} {σ : L2.St} (e : ER D F μ ρ σ) : ER D G ν ρ σ :=
  ⟨e.1, fun i v h => let ⟨u, h1, h2⟩ := e.2 i v h; ⟨u, h1, h2.mono hF hm⟩⟩
theorem ER.set {D : Wd} {F : Hp} {μ : List Addr} {ρ : Ev} {σ : L2.St} (e : ER D F μ ρ σ) (i : Nat) {v : Vl} {u : V} (r : RV D F μ v u) : ER D F μ (ρ.set i (some v)) (σ.set i (some u)) := by
  refine ⟨by simp [e.1], fun j w h => ?_⟩
  by_cases q : i = j
  · subst q
    by_cases hl : i < ρ.length
    · rw [List.getElem?_set_self hl] at h
      cases h
      exact ⟨u, by rw [List.getElem?_set_self (by rw [← e.1]; exact hl)], r⟩
    · rw [List.getElem?_eq_none (by simpa using hl)] at h
      cases h
  · rw [List.getElem?_set_ne q] at h
    obtain ⟨u', h1, h2⟩ := e.2 j w h
    exact ⟨u', by rw [List.getElem?_set_ne q]; exact h1, h2⟩
theorem ER.setNone {D : Wd} {F : Hp} {μ : List Addr} {ρ : Ev} {σ : L2.St} (e : ER D F μ ρ σ) (i : Nat) : ER D F μ (ρ.set i none) (σ.set i none) := by
  refine ⟨by simp [e.1], fun j w h => ?_⟩
  by_cases q : i = j
  · subst q
    by_cases hl : i < ρ.length
    · rw [List.getElem?_set_self hl] at h
      cases h
    · rw [List.getElem?_eq_none (by simpa using hl)] at h
      cases h
  · rw [List.getElem?_set_ne q] at h
    obtain ⟨u', h1, h2⟩ := e.2 j w h
    exact ⟨u', by rw [List.getElem?_set_ne q]; exact h1, h2⟩
theorem ER.wipe {D : Wd} {F : Hp} {μ : List Addr} {ρ : Ev} {σ : L2.St} (e : ER D F μ ρ σ) : ∀ vs : List Nat, ER D F μ (wipeE ρ vs) (wipe σ vs)
  | [] => e
  | v :: vs => (ER.wipe e vs).setNone v

/-- what an expression of ours reads -/
def tE (D : Wd) (W : WX) (ev : Ev → Hh → Rs Vl) : TE := fun σ H Q => ∃ F μ ρ h, CS D F μ h H ∧ ER D F μ ρ σ ∧ PostV D F μ H (ev ρ h) Q (WE W σ)
def tL (D : Wd) (W : WX) (ev : Ev → Hh → Rs (List Vl)) : TA := fun σ H Q => ∃ F μ ρ h, CS D F μ h H ∧ ER D F μ ρ σ ∧ PostL D F μ H (ev ρ h) Q (WE W σ)
/-- a truth value wanted -/
def asB (r : Rs Vl) : Rs Bool := r.bind fun v h => match v with
  | .bl b => .ok b h
  | _ => .bad
def RB (_ : Hp) (_ : List Addr) (a b : Bool) : Prop := a = b
def tT (D : Wd) (W : WX) (ev : Ev → Hh → Rs Vl) : TT := fun σ H Q => ∃ F μ ρ h, CS D F μ h H ∧ ER D F μ ρ σ ∧ Post D RB F μ H (asB (ev ρ h)) Q (WE W σ)
theorem _root_.L2.PE.imp {X : Cx} {e : Expr} {t t' : TE} (h : PE X e t) (q : ∀ σ H Q, t' σ H Q → t σ H Q) : PE X e t' := ⟨fun pins s σ H Q I w => h.run pins s σ H Q I (q σ H Q w)⟩
theorem _root_.L2.PT.imp {X : Cx} {e : Expr} {t t' : TT} (h : PT X e t) (q : ∀ σ H Q, t' σ H Q → t σ H Q) : PT X e t' := ⟨fun pins s σ H Q I w => h.run pins s σ H Q I (q σ H Q w)⟩
theorem _root_.L2.PW.imp {X : Cx} {e : Expr} {t t' : TT} (h : PW X e t) (q : ∀ σ H Q, t' σ H Q → t σ H Q) : PW X e t' := ⟨fun wh pins s σ H Q I w => h.run wh pins s σ H Q I (q σ H Q w)⟩
theorem _root_.L2.PA.imp {X : Cx} {e : List Expr} {t t' : TA} (h : PA X e t) (q : ∀ σ H Q, t' σ H Q → t σ H Q) : PA X e t' := ⟨fun pos pins s σ H Q I w => h.run pos pins s σ H Q I (q σ H Q w)⟩
end IL
end

section
set_option autoImplicit false
set_option linter.all false
set_option Elab.async false
set_option maxRecDepth 100000
set_option maxHeartbeats 4000000
/-! IL: expressions, one rule each. -/
namespace IL
open PySem L2 PyProof.Rows
section
variable {D : Wd} {P : Pg} {d : Nat} {G : Gt} {N : List Str} {sc : Scope} {W : WX} {X : Cx}
/-- what is shown of an expression -/
structure EOk (D : Wd) (W : WX) (X : Cx) (ev : Ev → Hh → Rs Vl) (e : Expr) : Prop where
  pe : PE X e (tE D W ev)
  pt : PT X e (tT D W ev)
/-- a plain test -/
theorem eok_val {ev : Ev → Hh → Rs Vl} {e : Expr} (h : PE X e (tE D W ev)) (he : ∀ whole, isTrue e X.env whole = (do let v ← whole; standAt e.pos; holding [v] (truthy v))) : EOk D W X ev e := by
  refine ⟨h, (pt_val h he).imp fun σ H Q q => ?_⟩
  obtain ⟨F, μ, ρ, h, c, er, p⟩ := q
  refine ⟨F, μ, ρ, h, c, er, (Post.bind p).mono fun u H' q => ?_⟩
  obtain ⟨F1, μ1, v, h1, x, c1, r, p⟩ := q
  cases r with
  | bl b => exact ⟨b, rfl, p _ _ _ _ (.refl _ _ _) c1 rfl⟩
  | _ => exact p.elim
/-- two expressions, and what g makes of them -/
theorem two_reads {ea eb : Ev → Hh → Rs Vl} {g : Vl → Vl → Hh → Rs Vl} {σ : L2.St} {H : Hp} {Q : VK} (q : tE D W (fun ρ h => (ea ρ h).bind fun x h1 => (eb ρ h1).bind fun y h2 => g x y h2) σ H Q) :
    tE D W ea σ H fun x H1 => tE D W eb σ H1 fun y H2 => r2 D (WE W σ) g x y H2 Q := by
  obtain ⟨F, μ, ρ, h, c, er, p⟩ := q
  refine ⟨F, μ, ρ, h, c, er, (Post.bind p).mono fun x H1 q => ?_⟩
  obtain ⟨F1, μ1, v, h1, x1, c1, r1, p⟩ := q
  refine ⟨F1, μ1, ρ, h1, c1, er.mono x1.f x1.m, (Post.bind p).mono fun y H2 q => ?_⟩
  obtain ⟨F2, μ2, w, h2, x2, c2, rr, p⟩ := q
  exact ⟨F2, μ2, h2, v, w, c2, r1.mono x2.f x2.m, rr, p⟩
theorem e_var {i : Nat} {x : Str} {pos : Pos} (o : XOk D P d G N sc W X) (hi : N[i]? = some x) (hv : visB sc x = true) (hp : plainNm x = true) : EOk D W X (fun ρ h => match ρ[i]? with | some (some v) => .ok v h | _ => .bad) (.Name x pos) := by
  simp only [plainNm, Bool.and_eq_true, Bool.not_eq_true'] at hp
  refine eok_val ((pe_var (i := i) (by rw [o.hN]; exact hi) (o.vis x hv) hp.1.1 hp.1.2).imp fun σ H Q q => ?_) (by intro _; rfl)
  obtain ⟨F, μ, ρ, h, c, er, p⟩ := q
  dsimp only at p
  split at p
  · rename_i v hv
    obtain ⟨u, h1, h2⟩ := er.2 i v hv
    exact ⟨u, h1, post_same c h2 p⟩
  · exact p.elim
theorem e_cst {v : Vl} {k : Const} {j : Nat} {pos : Pos} (hk : constOk v k = true) : EOk D W X (fun _ h => .ok v h) (.Constant k j pos) := by
  refine eok_val ?_ (by intro _; rfl)
  have go : ∀ {u : V}, PE X (.Constant k j pos) (tC u) → (∀ F μ, RV D F μ v u) → PE X (.Constant k j pos) (tE D W (fun _ h => .ok v h)) := fun {u} pe r => pe.imp fun σ H Q q => by
    obtain ⟨F, μ, ρ, h, c, er, p⟩ := q
    exact post_same c (r F μ) p
  cases v <;> cases k <;> try (cases hk; done)
  · exact go pe_non fun _ _ => .non
  · have e := eq_of_beq hk
    subst e
    exact go pe_bl fun _ _ => .bl _
  · have e := eq_of_beq hk
    subst e
    exact go pe_int fun _ _ => .int _
  · simp only [constOk, Bool.and_eq_true] at hk
    have e := eq_of_beq hk.1
    subst e
    exact go pe_str fun _ _ => .str hk.2
theorem e_gc {x : Str} {v w : Vl} {pos : Pos} (o : XOk D P d G N sc W X) (hg : glB sc x = true) (hp : plainNm x = true) (hc : G.cn x = some w) (hs : sameC v w = true) : EOk D W X (fun _ h => .ok v h) (.Name x pos) := by
  simp only [plainNm, Bool.and_eq_true, Bool.not_eq_true'] at hp
  refine eok_val ?_ (by intro _; rfl)
  obtain ⟨u, hm, hr⟩ := o.w.cst x w hc
  have go : ∀ {z : V}, RelV z u → (∀ F μ, RV D F μ v z) → PE X (.Name x pos) (tE D W (fun _ h => .ok v h)) := fun {z} rz r => (pe_glob (o.gl x hg) hm rz hp.1.1).imp fun σ H Q q => by
    obtain ⟨F, μ, ρ, h, c, er, p⟩ := q
    exact post_same c (r F μ) p
  rcases hr with ⟨i, e, r⟩ | ⟨z, e, r⟩
  · subst e
    cases v <;> try (cases hs; done)
    have e := eq_of_beq hs
    subst e
    exact go r fun _ _ => .int _
  · subst e
    cases v <;> try (cases hs; done)
    simp only [sameC, Bool.and_eq_true] at hs
    have e := eq_of_beq hs.1
    subst e
    exact go r fun _ _ => .str hs.2
variable {ea eb ec : Ev → Hh → Rs Vl} {a b c : Expr} {pos : Pos}
theorem e_bin (k : XOk D P d G N sc W X) (o : Bop) (ha : EOk D W X ea a) (hb : EOk D W X eb b) : EOk D W X (fun ρ h => (ea ρ h).bind fun x h1 => (eb ρ h1).bind fun y h2 => binV o x y h2) (.BinOp a (bopP o) b pos) := by
  refine eok_val ?_ (by intro _; rfl)
  refine ⟨fun pins s σ H Q I q => ?_⟩
  exact (pe_op (op_bin (D := D) (W := WE W σ) k.hK o) ha.pe hb.pe).run pins s σ H Q I (two_reads q)
theorem e_cmp (k : XOk D P d G N sc W X) (o : Cop) (ha : EOk D W X ea a) (hb : EOk D W X eb b) (hm : ∀ p, behindInMarks p b = false) : EOk D W X (fun ρ h => (ea ρ h).bind fun x h1 => (eb ρ h1).bind fun y h2 => cmpV o x y h2) (.Compare a [copP o] [b] pos) := by
  refine ⟨⟨fun pins s σ H Q I q => ?_⟩, ⟨fun pins s σ H Q I q => ?_⟩⟩
  · exact (pe_cmpR (op_cmp (D := D) (W := WE W σ) k.hK k.hu o) ha.pe hb.pe (hm _)).run pins s σ H Q I (two_reads q)
  · refine (pt_cmpR (op_cmp (D := D) (W := WE W σ) k.hK k.hu o) ha.pe hb.pe (hm _)).run pins s σ H Q I ?_
    have q' : tE D W (fun ρ h => (ea ρ h).bind fun x h1 => (eb ρ h1).bind fun y h2 => cmpV o x y h2) σ H fun x H' => ∃ k, x = .bl k ∧ Q k H' := by
      obtain ⟨F, μ, ρ, h, c, er, p⟩ := q
      refine ⟨F, μ, ρ, h, c, er, (Post.bind p).mono fun u H' q => ?_⟩
      obtain ⟨F1, μ1, v, h1, x, c1, r, p⟩ := q
      cases r with
      | bl b => exact ⟨b, rfl, p _ _ _ _ (.refl _ _ _) c1 rfl⟩
      | _ => exact p.elim
    exact two_reads q'
theorem e_neg (ha : EOk D W X ea a) : EOk D W X (fun ρ h => (ea ρ h).bind fun x h1 => match x with | .int i => .ok (.int (-i)) h1 | _ => .bad) (.UnaryOp .USub a pos) := by
  have pe : PE X (.UnaryOp .USub a pos) (tE D W fun ρ h => (ea ρ h).bind fun x h1 => match x with | .int i => .ok (.int (-i)) h1 | _ => .bad) := by
    refine (pe_un un_neg ha.pe).imp fun σ H Q q => ?_
    obtain ⟨F, μ, ρ, h, c, er, p⟩ := q
    refine ⟨F, μ, ρ, h, c, er, (Post.bind p).mono fun u H' q => ?_⟩
    obtain ⟨F1, μ1, v, h1, x, c1, r, p⟩ := q
    cases r with
    | int i => exact ⟨i, rfl, post_same c1 (.int _) p⟩
    | _ => exact p.elim
  exact eok_val pe (by intro _; rfl)
theorem test_bind {α β : Type} {S : Hp → List Addr → α → β → Prop} {F : Hp} {μ : List Addr} {H : Hp} {r : Rs Vl} {f : Vl → Hh → Rs α} {Q : β → Hp → Prop} {E : XK} (hf : ∀ v h, (∀ b, v ≠ .bl b) → f v h = .bad) (p : Post D S F μ H (r.bind f) Q E) :
    Post D RB F μ H (asB r) (fun b H1 => ∃ F1 μ1 h1, Xt F μ H F1 μ1 H1 ∧ CS D F1 μ1 h1 H1 ∧ Post D S F1 μ1 H1 (f (.bl b) h1) Q E) E := by
  cases r with
  | bad => exact p
  | exc C h => exact p
  | ok v h =>
    have p : Post D S F μ H (f v h) Q E := p
    by_cases q : ∃ b, v = .bl b
    · obtain ⟨b, rfl⟩ := q
      intro F1 μ1 H1 u x c e
      cases e
      refine ⟨F1, μ1, h, x, c, ?_⟩
      cases e : f (.bl b) h with
      | bad => rw [e] at p; exact p
      | exc C h2 => rw [e] at p; exact fun F2 μ2 H2 A x2 c2 k => p F2 μ2 H2 A (x.trans x2) c2 k
      | ok w h2 => rw [e] at p; exact fun F2 μ2 H2 u2 x2 c2 r2 => p F2 μ2 H2 u2 (x.trans x2) c2 r2
    · rw [hf v h fun b e => q ⟨b, e⟩] at p
      exact p.elim
theorem val_bl {α β : Type} {S : Hp → List Addr → α → β → Prop} {F : Hp} {μ : List Addr} {H : Hp} {r : Rs Vl} {f : Vl → Hh → Rs α} {Q : β → Hp → Prop} {E : XK} (hf : ∀ v h, (∀ b, v ≠ .bl b) → f v h = .bad) (p : Post D S F μ H (r.bind f) Q E) :
    PostV D F μ H r (fun u H1 => ∃ b F1 μ1 h1, u = .bl b ∧ Xt F μ H F1 μ1 H1 ∧ CS D F1 μ1 h1 H1 ∧ Post D S F1 μ1 H1 (f (.bl b) h1) Q E) E := by
  refine (Post.bind p).mono fun u H1 q => ?_
  obtain ⟨F1, μ1, v, h1, x, c1, r1, p⟩ := q
  by_cases q : ∃ b, v = .bl b
  · obtain ⟨b, rfl⟩ := q
    cases r1
    exact ⟨b, F1, μ1, h1, rfl, x, c1, p⟩
  · rw [hf v h1 fun b e => q ⟨b, e⟩] at p
    exact p.elim
abbrev fAnd (eb : Ev → Hh → Rs Vl) (ρ : Ev) : Vl → Hh → Rs Vl := fun x h1 => match x with | .bl true => eb ρ h1 | .bl false => .ok (.bl false) h1 | _ => .bad
abbrev fOr (eb : Ev → Hh → Rs Vl) (ρ : Ev) : Vl → Hh → Rs Vl := fun x h1 => match x with | .bl true => .ok (.bl true) h1 | .bl false => eb ρ h1 | _ => .bad
abbrev fNot : Vl → Hh → Rs Vl := fun x h1 => match x with | .bl b => .ok (.bl (!b)) h1 | _ => .bad
abbrev fIte (ea eb : Ev → Hh → Rs Vl) (ρ : Ev) : Vl → Hh → Rs Vl := fun x h1 => match x with | .bl true => ea ρ h1 | .bl false => eb ρ h1 | _ => .bad
theorem no_bl {α : Type} {f : Vl → Hh → Rs α} (h : ∀ (v : Vl) (h : Hh), f v h ≠ .bad → ∃ b, v = .bl b) : ∀ v h, (∀ b, v ≠ .bl b) → f v h = .bad := fun v hh q => by
  by_cases e : f v hh = .bad
  · exact e
  · obtain ⟨b, e⟩ := h v hh e
    exact absurd e (q b)
theorem fAnd_bl {ρ : Ev} : ∀ v h, (∀ b, v ≠ .bl b) → fAnd eb ρ v h = .bad := fun v h q => by
  cases v <;> first | rfl | exact absurd rfl (q _)
theorem fOr_bl {ρ : Ev} : ∀ v h, (∀ b, v ≠ .bl b) → fOr eb ρ v h = .bad := fun v h q => by
  cases v <;> first | rfl | exact absurd rfl (q _)
theorem fNot_bl : ∀ v h, (∀ b, v ≠ .bl b) → fNot v h = .bad := fun v h q => by
  cases v <;> first | rfl | exact absurd rfl (q _)
theorem fIte_bl {ρ : Ev} : ∀ v h, (∀ b, v ≠ .bl b) → fIte ea eb ρ v h = .bad := fun v h q => by
  cases v <;> first | rfl | exact absurd rfl (q _)
theorem asB_bind {r : Rs Vl} {f : Vl → Hh → Rs Vl} : asB (r.bind f) = r.bind fun x h => asB (f x h) := by
  cases r <;> rfl
theorem and_val {rest : Expr → Expr} (ha : PE X a (tE D W ea)) {t : TE} (hb : ∀ σ H Q, tE D W eb σ H Q → t σ H Q) : ∀ σ H Q, tE D W (fun ρ h => (ea ρ h).bind (fAnd eb ρ)) σ H Q → tAndV (tE D W ea) t σ H Q := fun σ H Q q => by
  obtain ⟨F, μ, ρ, h, c, er, p⟩ := q
  refine ⟨F, μ, ρ, h, c, er, (val_bl fAnd_bl p).mono fun u H1 q => ?_⟩
  obtain ⟨b, F1, μ1, h1, rfl, x, c1, p⟩ := q
  refine ⟨b, rfl, ?_⟩
  cases b with
  | true => rw [if_pos rfl]; exact hb _ _ _ ⟨F1, μ1, ρ, h1, c1, er.mono x.f x.m, p⟩
  | false => rw [if_neg Bool.false_ne_true]; exact post_same c1 (.bl _) p
theorem or_val (ha : PE X a (tE D W ea)) {t : TE} (hb : ∀ σ H Q, tE D W eb σ H Q → t σ H Q) : ∀ σ H Q, tE D W (fun ρ h => (ea ρ h).bind (fOr eb ρ)) σ H Q → tOrV (tE D W ea) t σ H Q := fun σ H Q q => by
  obtain ⟨F, μ, ρ, h, c, er, p⟩ := q
  refine ⟨F, μ, ρ, h, c, er, (val_bl fOr_bl p).mono fun u H1 q => ?_⟩
  obtain ⟨b, F1, μ1, h1, rfl, x, c1, p⟩ := q
  refine ⟨b, rfl, ?_⟩
  cases b with
  | false => rw [if_neg Bool.false_ne_true]; exact hb _ _ _ ⟨F1, μ1, ρ, h1, c1, er.mono x.f x.m, p⟩
  | true => rw [if_pos rfl]; exact post_same c1 (.bl _) p
theorem and_tst {t : TT} (hb : ∀ σ H Q, tT D W eb σ H Q → t σ H Q) : ∀ σ H Q, tT D W (fun ρ h => (ea ρ h).bind (fAnd eb ρ)) σ H Q → tAnd (tT D W ea) t σ H Q := fun σ H Q q => by
  obtain ⟨F, μ, ρ, h, c, er, p⟩ := q
  rw [asB_bind] at p
  refine ⟨F, μ, ρ, h, c, er, (test_bind (fun v h q => by rw [fAnd_bl v h q]; rfl) p).mono fun b H1 q => ?_⟩
  obtain ⟨F1, μ1, h1, x, c1, p⟩ := q
  cases b with
  | true => rw [if_pos rfl]; exact hb _ _ _ ⟨F1, μ1, ρ, h1, c1, er.mono x.f x.m, p⟩
  | false => rw [if_neg Bool.false_ne_true]; exact p _ _ _ _ (.refl _ _ _) c1 rfl
theorem or_tst {t : TT} (hb : ∀ σ H Q, tT D W eb σ H Q → t σ H Q) : ∀ σ H Q, tT D W (fun ρ h => (ea ρ h).bind (fOr eb ρ)) σ H Q → tOr (tT D W ea) t σ H Q := fun σ H Q q => by
  obtain ⟨F, μ, ρ, h, c, er, p⟩ := q
  rw [asB_bind] at p
  refine ⟨F, μ, ρ, h, c, er, (test_bind (fun v h q => by rw [fOr_bl v h q]; rfl) p).mono fun b H1 q => ?_⟩
  obtain ⟨F1, μ1, h1, x, c1, p⟩ := q
  cases b with
  | false => rw [if_neg Bool.false_ne_true]; exact hb _ _ _ ⟨F1, μ1, ρ, h1, c1, er.mono x.f x.m, p⟩
  | true => rw [if_pos rfl]; exact p _ _ _ _ (.refl _ _ _) c1 rfl
/-- and, or: the whole as a value, as a test whatever stands around -/
structure WOkE (D : Wd) (W : WX) (X : Cx) (ev : Ev → Hh → Rs Vl) (e : Expr) : Prop where
  pe : PE X e (tE D W ev)
  pw : PW X e (tT D W ev)
theorem WOkE.eok {ev : Ev → Hh → Rs Vl} {e : Expr} (h : WOkE D W X ev e) : EOk D W X ev e := ⟨h.pe, h.pw.pt⟩
theorem e_and2 (ha : EOk D W X ea a) (hb : EOk D W X eb b) : WOkE D W X (fun ρ h => (ea ρ h).bind (fAnd eb ρ)) (.BoolOp .And [a, b] pos) :=
  ⟨(pe_and ha.pe (pe_one hb.pe)).imp (and_val (rest := id) ha.pe fun _ _ _ q => q), (pw_and ha.pt (pw_and1 hb.pt)).imp (and_tst fun _ _ _ q => q)⟩
theorem e_or2 (ha : EOk D W X ea a) (hb : EOk D W X eb b) : WOkE D W X (fun ρ h => (ea ρ h).bind (fOr eb ρ)) (.BoolOp .Or [a, b] pos) :=
  ⟨(pe_or ha.pe (pe_one hb.pe)).imp (or_val ha.pe fun _ _ _ q => q), (pw_or ha.pt (pw_or1 hb.pt)).imp (or_tst fun _ _ _ q => q)⟩
theorem e_andN {y z : Expr} {r : List Expr} (ha : EOk D W X ea a) (hb : WOkE D W X eb (.BoolOp .And (y :: z :: r) pos)) : WOkE D W X (fun ρ h => (ea ρ h).bind (fAnd eb ρ)) (.BoolOp .And (a :: y :: z :: r) pos) :=
  ⟨(pe_and ha.pe hb.pe).imp (and_val (rest := id) ha.pe fun _ _ _ q => q), (pw_and ha.pt hb.pw).imp (and_tst fun _ _ _ q => q)⟩
theorem e_orN {y z : Expr} {r : List Expr} (ha : EOk D W X ea a) (hb : WOkE D W X eb (.BoolOp .Or (y :: z :: r) pos)) : WOkE D W X (fun ρ h => (ea ρ h).bind (fOr eb ρ)) (.BoolOp .Or (a :: y :: z :: r) pos) :=
  ⟨(pe_or ha.pe hb.pe).imp (or_val ha.pe fun _ _ _ q => q), (pw_or ha.pt hb.pw).imp (or_tst fun _ _ _ q => q)⟩
theorem e_not (ha : EOk D W X ea a) : EOk D W X (fun ρ h => (ea ρ h).bind fNot) (.UnaryOp .Not a pos) := by
  refine ⟨(pe_not ha.pe).imp fun σ H Q q => ?_, (pt_not ha.pt).imp fun σ H Q q => ?_⟩
  · obtain ⟨F, μ, ρ, h, c, er, p⟩ := q
    refine ⟨F, μ, ρ, h, c, er, (val_bl fNot_bl p).mono fun u H1 q => ?_⟩
    obtain ⟨b, F1, μ1, h1, rfl, x, c1, p⟩ := q
    exact ⟨b, rfl, post_same c1 (.bl _) p⟩
  · obtain ⟨F, μ, ρ, h, c, er, p⟩ := q
    rw [asB_bind] at p
    refine ⟨F, μ, ρ, h, c, er, (test_bind (fun v h q => by rw [fNot_bl v h q]; rfl) p).mono fun b H1 q => ?_⟩
    obtain ⟨F1, μ1, h1, x, c1, p⟩ := q
    exact p _ _ _ _ (.refl _ _ _) c1 rfl
theorem e_ite (hc : EOk D W X ec c) (ha : EOk D W X ea a) (hb : EOk D W X eb b) : PE X (.IfExp c a b pos) (tE D W fun ρ h => (ec ρ h).bind (fIte ea eb ρ)) := by
  refine (pe_ifExp hc.pt ha.pe hb.pe).imp fun σ H Q q => ?_
  obtain ⟨F, μ, ρ, h, c, er, p⟩ := q
  refine ⟨F, μ, ρ, h, c, er, (test_bind fIte_bl p).mono fun b H1 q => ?_⟩
  obtain ⟨F1, μ1, h1, x, c1, p⟩ := q
  cases b with
  | true => rw [if_pos rfl]; exact ⟨F1, μ1, ρ, h1, c1, er.mono x.f x.m, p⟩
  | false => rw [if_neg Bool.false_ne_true]; exact ⟨F1, μ1, ρ, h1, c1, er.mono x.f x.m, p⟩
end
end IL
end

section
set_option autoImplicit false
set_option linter.all false
set_option Elab.async false
set_option maxRecDepth 100000
set_option maxHeartbeats 4000000
/-! IL: displays, subscripts, calls. -/
namespace IL
open PySem L2 PyProof.Rows
section
variable {D : Wd} {P : Pg} {d : Nat} {G : Gt} {N : List Str} {sc : Scope} {W : WX} {X : Cx}
variable {ea eb ec : Ev → Hh → Rs Vl} {el : Ev → Hh → Rs (List Vl)} {a b c : Expr} {es : List Expr} {pos : Pos}
theorem e_iteOk (hc : EOk D W X ec c) (ha : EOk D W X ea a) (hb : EOk D W X eb b) : EOk D W X (fun ρ h => (ec ρ h).bind (fIte ea eb ρ)) (.IfExp c a b pos) := by
  refine ⟨e_ite hc ha hb, ⟨fun pins s σ H Q I q => ?_⟩⟩
  obtain ⟨F, μ, ρ, h, c, er, p⟩ := q
  rw [asB_bind] at p
  refine isTrue_IfExp (thn (hc.pt.run pins s σ H _ I ⟨F, μ, ρ, h, c, er, test_bind (fun v h q => by rw [fIte_bl v h q]; rfl) p⟩) fun k s1 hk => ?_)
  obtain ⟨H1, I1, F1, μ1, h1, x, c1, p⟩ := hk
  cases k with
  | true => exact ha.pt.run pins s1 σ H1 Q I1 ⟨F1, μ1, ρ, h1, c1, er.mono x.f x.m, p⟩
  | false => exact hb.pt.run pins s1 σ H1 Q I1 ⟨F1, μ1, ρ, h1, c1, er.mono x.f x.m, p⟩
/-- not a star -/
def noStar : Expr → Bool
  | .Starred _ _ => false
  | _ => true
theorem star_eq {e : Expr} (h : noStar e = true) (es : List Expr) (env : Env) : starEach (e :: es) env = (false, eval e env) :: starEach es env := by
  cases e <;> first | rfl | cases h
theorem l_nil : PA X [] (tL D W fun _ h => .ok [] h) := pa_nil.imp fun σ H Q q => by
  obtain ⟨F, μ, ρ, h, c, er, p⟩ := q
  exact p _ _ _ _ (.refl _ _ _) c .nil
theorem l_cons (ha : EOk D W X ea a) (hs : noStar a = true) (hl : PA X es (tL D W el)) : PA X (a :: es) (tL D W fun ρ h => (ea ρ h).bind fun v h1 => (el ρ h1).bind fun vs h2 => .ok (v :: vs) h2) :=
  (pa_cons ha.pe hl (star_eq hs _ _)).imp fun σ H Q q => by
    obtain ⟨F, μ, ρ, h, c, er, p⟩ := q
    refine ⟨F, μ, ρ, h, c, er, (Post.bind p).mono fun u H1 q => ?_⟩
    obtain ⟨F1, μ1, v, h1, x1, c1, r1, p⟩ := q
    refine ⟨F1, μ1, ρ, h1, c1, er.mono x1.f x1.m, (Post.bind (R := RVs D) p).mono fun us H2 q => ?_⟩
    obtain ⟨F2, μ2, vs, h2, x2, c2, r2, p⟩ := q
    exact p _ _ _ _ (.refl _ _ _) c2 (.cons (r1.mono x2.f x2.m) r2)
theorem stars_plain : ∀ {es : List Expr} {env : Env} {cpos : Pos}, es.all noStar = true → (backTo cpos (starEach es env)).any (·.1) = false
  | [], _, _, _ => rfl
  | e :: es, env, cpos, h => by
    rw [List.all_cons, Bool.and_eq_true] at h
    rw [star_eq h.1]
    show (false || (backTo cpos (starEach es env)).any (·.1)) = false
    rw [stars_plain h.2]; rfl
theorem stars_all : ∀ {es : List Expr} {env : Env} {cpos : Pos}, es.all noStar = true → (backTo cpos (starEach es env)).all (fun x => !x.1) = true
  | [], _, _, _ => rfl
  | e :: es, env, cpos, h => by
    rw [List.all_cons, Bool.and_eq_true] at h
    rw [star_eq h.1]
    show (true && (backTo cpos (starEach es env)).all (fun x => !x.1)) = true
    rw [stars_all h.2]; rfl
theorem e_tup {j : Nat} (hl : PA X es (tL D W el)) : EOk D W X (fun ρ h => (el ρ h).bind fun vs h1 => if vs.length ≤ 100 then .ok (.tup vs) h1 else .bad) (.Tuple es j pos) := by
  refine eok_val ((pe_tup hl).imp fun σ H Q q => ?_) (by intro _; rfl)
  obtain ⟨F, μ, ρ, h, c, er, p⟩ := q
  refine ⟨F, μ, ρ, h, c, er, (Post.bind p).mono fun us H1 q => ?_⟩
  obtain ⟨F1, μ1, vs, h1, x, c1, r, p⟩ := q
  split at p
  · rename_i hv
    exact ⟨line_le (by rw [← r.length]; omega), fun l hl => post_tup c1 r p hl⟩
  · exact p.elim
theorem e_lst (m : Bool) (hl : PA X es (tL D W el)) : EOk D W X (fun ρ h => (el ρ h).bind fun vs h1 => if vs.length ≤ 1000 then place m (.ok (.lst vs) h1) else .bad) (.List es pos) := by
  refine eok_val ((pe_lst hl).imp fun σ H Q q => ?_) (by intro _; rfl)
  obtain ⟨F, μ, ρ, h, c, er, p⟩ := q
  refine ⟨F, μ, ρ, h, c, er, (Post.bind p).mono fun us H1 q => ?_⟩
  obtain ⟨F1, μ1, vs, h1, x, c1, r, p⟩ := q
  split at p
  · rename_i hv
    exact ⟨line_le (by rw [← r.length]; omega), fun l hl => place_lst m c1 r p hl⟩
  · exact p.elim
theorem e_dnew (t : Bool) : EOk D W X (fun _ h => .ok (.ref h.length) (h ++ [.dct false t []])) (.Dict [] [] pos) := by
  cases t with
  | true =>
    refine eok_val (pe_dnewT.imp fun σ H Q q => ?_) (by intro _; rfl)
    obtain ⟨F, μ, ρ, h, c, er, p⟩ := q
    intro l hl
    obtain ⟨c', x⟩ := c.place (o := .dct false true []) (u := .dT []) hl (.dT .nil)
    exact p _ _ _ _ x c' (.ref (by rw [c.len, List.getElem?_append_right (Nat.le_refl _)]; simp))
  | false =>
    refine eok_val (pe_dnewK.imp fun σ H Q q => ?_) (by intro _; rfl)
    obtain ⟨F, μ, ρ, h, c, er, p⟩ := q
    intro l hl
    obtain ⟨c', x⟩ := c.place (o := .dct false false []) (u := .dK []) hl (.dK .nil)
    exact p _ _ _ _ x c' (.ref (by rw [c.len, List.getElem?_append_right (Nat.le_refl _)]; simp))
theorem e_idx (k : XOk D P d G N sc W X) (ha : EOk D W X ea a) (hb : EOk D W X eb b) (hs : PlainIx b) : EOk D W X (fun ρ h => (ea ρ h).bind fun x h1 => (eb ρ h1).bind fun y h2 => idxV x y h2) (.Subscript a b pos) := by
  refine eok_val ⟨fun pins s σ H Q I q => ?_⟩ (by intro _; rfl)
  have hu := k.hu
  exact (pe_ix (ix_any (D := D) (W := WE W σ) k.hK (by omega)) ha.pe hb.pe hs).run pins s σ H Q I (two_reads q)
/-- a slice's part -/
def tO (D : Wd) (W : WX) (ev : Ev → Hh → Rs Vl) : TO := fun σ H Q => ∃ F μ ρ h, CS D F μ h H ∧ ER D F μ ρ σ ∧ Post D (fun _ _ v o => bound v = some o) F μ H (ev ρ h) Q (WE W σ)
theorem o_none : PO X none (tO D W fun _ h => .ok .non h) := ⟨fun pins s σ H Q I q => by
  obtain ⟨F, μ, ρ, h, c, er, p⟩ := q
  exact po_none.run pins s σ H Q I (p _ _ _ _ (.refl _ _ _) c rfl)⟩
def intF : Vl → Hh → Rs Vl := fun v h => match v with
  | .int i => .ok (.int i) h
  | _ => .bad
theorem int_reads {F : Hp} {μ : List Addr} {H : Hp} {r : Rs Vl} {R : V → Hp → Prop} {E : XK} {Q : Option Int → Hp → Prop} (p : Post D (fun _ _ v o => bound v = some o) F μ H (r.bind intF) Q E) : PostV D F μ H r (fun u H1 => ∃ i, u = .int i ∧ Q (some i) H1) E := by
  cases r with
  | bad => exact p
  | exc C h => exact p
  | ok v h =>
    have p : Post D (fun _ _ v o => bound v = some o) F μ H (intF v h) Q E := p
    intro F1 μ1 H1 u x c1 r
    cases r with
    | int i => exact ⟨i, rfl, p _ _ _ _ x c1 rfl⟩
    | _ => exact p.elim
theorem o_some (ha : EOk D W X ea a) : PO X (some a) (tO D W fun ρ h => (ea ρ h).bind intF) := ⟨fun pins s σ H Q I q => by
  refine (po_some ha.pe).run pins s σ H Q I ?_
  obtain ⟨F, μ, ρ, h, c, er, p⟩ := q
  exact ⟨F, μ, ρ, h, c, er, int_reads (R := fun _ _ => True) p⟩⟩
theorem e_slc (k : XOk D P d G N sc W X) (m : Bool) {lo hi : Option Expr} {p2 : Pos} {el eh : Ev → Hh → Rs Vl} (ha : EOk D W X ea a) (hl : PO X lo (tO D W el)) (hh : PO X hi (tO D W eh)) :
    EOk D W X (fun ρ h => (ea ρ h).bind fun x h1 => (el ρ h1).bind fun l h2 => (eh ρ h2).bind fun u h3 => place m (slcV x l u .non h3)) (.Subscript a (.Slice lo hi none p2) pos) := by
  refine eok_val ⟨fun pins s σ H Q I q => ?_⟩ (by intro _; rfl)
  refine (pe_slice (sl_any (D := D) (W := WE W σ) k.hK m) ha.pe hl hh).run pins s σ H Q I ?_
  obtain ⟨F, μ, ρ, h, c, er, p⟩ := q
  refine ⟨F, μ, ρ, h, c, er, (Post.bind p).mono fun x H1 q => ?_⟩
  obtain ⟨F1, μ1, v, h1, x1, c1, r1, p⟩ := q
  refine ⟨F1, μ1, ρ, h1, c1, er.mono x1.f x1.m, (Post.bind p).mono fun l H2 q => ?_⟩
  obtain ⟨F2, μ2, w, h2, x2, c2, r2, p⟩ := q
  refine ⟨F2, μ2, ρ, h2, c2, (er.mono x1.f x1.m).mono x2.f x2.m, (Post.bind p).mono fun u H3 q => ?_⟩
  obtain ⟨F3, μ3, y, h3, x3, c3, r3, p⟩ := q
  exact ⟨F3, μ3, h3, v, w, y, c3, (r1.mono x2.f x2.m).mono x3.f x3.m, r2, r3, p⟩
theorem e_step (k : XOk D P d G N sc W X) (m : Bool) {p2 : Pos} (ha : EOk D W X ea a) (hb : EOk D W X eb b) :
    EOk D W X (fun ρ h => (ea ρ h).bind fun x h1 => ((eb ρ h1).bind intF).bind fun l h2 => place m (slcV x .non .non l h2)) (.Subscript a (.Slice none none (some b) p2) pos) := by
  refine eok_val ⟨fun pins s σ H Q I q => ?_⟩ (by intro _; rfl)
  refine (pe_step (D := D) (W := WE W σ) m ha.pe hb.pe).run pins s σ H Q I ?_
  obtain ⟨F, μ, ρ, h, c, er, p⟩ := q
  refine ⟨F, μ, ρ, h, c, er, (Post.bind p).mono fun x H1 q => ?_⟩
  obtain ⟨F1, μ1, v, h1, x1, c1, r1, p⟩ := q
  refine ⟨F1, μ1, ρ, h1, c1, er.mono x1.f x1.m, ?_⟩
  have p2 : Post D (fun _ _ v o => bound v = some o) F1 μ1 H1 ((eb ρ h1).bind intF) (fun o H2 => ∃ F μ h v' k, o = some k ∧ CS D F μ h H2 ∧ RV D F μ v' x ∧ PostV D F μ H2 (place m (slcV v' .non .non (.int k) h)) Q (WE W σ)) (WE W σ) := by
    cases e : eb ρ h1 with
    | bad => rw [e] at p; exact p
    | exc C h => rw [e] at p; exact p
    | ok w h2 =>
      rw [e] at p
      cases w with
      | int i =>
        intro F2 μ2 H2 o x2 c2 eo
        cases eo
        refine ⟨F2, μ2, h2, v, i, rfl, c2, r1.mono x2.f x2.m, ?_⟩
        have p : PostV D F1 μ1 H1 (place m (slcV v .non .non (.int i) h2)) Q (WE W σ) := p
        cases e : place m (slcV v .non .non (.int i) h2) with
        | bad => rw [e] at p; exact p
        | exc C h3 => rw [e] at p; exact fun F3 μ3 H3 A x3 c3 k => p F3 μ3 H3 A (x2.trans x3) c3 k
        | ok z h3 => rw [e] at p; exact fun F3 μ3 H3 u3 x3 c3 r3 => p F3 μ3 H3 u3 (x2.trans x3) c3 r3
      | _ => exact p.elim
  exact int_reads (R := fun _ _ => True) p2
theorem base_eq {e : Expr} (h : notSuper e = true) (f : Str) (env : Env) : attributeBase e f env (eval e env) = eval e env := by
  cases e <;> try rfl
  rename_i func args kws pos
  cases func <;> try rfl
  rename_i id ipos
  cases args <;> try rfl
  cases kws <;> try rfl
  simp only [notSuper, Bool.not_eq_true'] at h
  unfold attributeBase
  have : (id != ("super" : Str)) = true := by rw [bne, h]; rfl
  simp only [this, Bool.true_or, if_true]
theorem RF.look {F : Hp} {μ : List Addr} {f : Str} {v : Vl} : ∀ {fs : List (Str × Vl)} {gs : List (Str × V)}, RF D F μ fs gs → fs.lookup f = some v → ∃ u, gs.lookup f = some u ∧ RV D F μ v u
  | _, _, .nil, h => by simp at h
  | _, _, .cons (f := g) r t, h => by
    rw [List.lookup_cons] at h ⊢
    cases e : f == g with
    | true => rw [e] at h; cases h; exact ⟨_, rfl, r⟩
    | false => rw [e] at h; exact RF.look t h
theorem RF.noLook {F : Hp} {μ : List Addr} {f : Str} : ∀ {fs : List (Str × Vl)} {gs : List (Str × V)}, RF D F μ fs gs → fs.lookup f = none → gs.lookup f = none
  | _, _, .nil, h => rfl
  | _, _, .cons (f := g) r t, h => by
    rw [List.lookup_cons] at h ⊢
    cases e : f == g with
    | true => rw [e] at h; cases h
    | false => rw [e] at h; exact RF.noLook t h
/-- an instance of ours as it stands -/
theorem asIns_ok {F : Hp} {μ : List Addr} {h : Hh} {H : Hp} (c : CS D F μ h H) {v : Vl} {u : V} (r : RV D F μ v u) {C : Nat} {fs : List (Str × Vl)} (e : asIns h v = some (C, fs)) : ∃ a A dx gs, u = .ref a ∧ H a = some (.ins A dx gs) ∧ D.cls C = some A ∧ RF D F μ fs gs := by
  cases r with
  | ins hf hc rf =>
    simp only [asIns, Option.some.injEq, Prod.mk.injEq] at e
    obtain ⟨rfl, rfl⟩ := e
    exact ⟨_, _, _, _, rfl, c.sub.ins hf, hc, rf⟩
  | @ref l a hm =>
    simp only [asIns] at e
    split at e
    · rename_i C' fs' hx
      cases e
      obtain ⟨b, o, e1, e2, e3, e4⟩ := c.ob l _ hx
      rw [hm] at e1
      cases e1
      cases e4 with
      | ins hc rf => exact ⟨_, _, _, _, rfl, e3, hc, rf⟩
    · cases e
  | _ => simp [asIns] at e
theorem e_fld (k : XOk D P d G N sc W X) (f : Str) (ha : EOk D W X ea a) (hn : notSuper a = true) : EOk D W X (fun ρ h => (ea ρ h).bind fun x h1 => fldV P f x h1) (.Attribute a f pos) := by
  refine eok_val ((pe_fld ha.pe (base_eq hn f _)).imp fun σ H Q q => ?_) (by intro _; rfl)
  obtain ⟨F, μ, ρ, h, c, er, p⟩ := q
  refine ⟨F, μ, ρ, h, c, er, (Post.bind p).mono fun x H1 q => ?_⟩
  obtain ⟨F1, μ1, v, h1, x1, c1, r1, p⟩ := q
  unfold fldV at p
  split at p
  · rename_i C fs e
    obtain ⟨l, A, dx, gs, rfl, hl, hc, rf⟩ := asIns_ok c1 r1 e
    split at p
    · rename_i hf
      obtain ⟨w, e, p⟩ := post_of p
      obtain ⟨u, e2, ru⟩ := rf.look e
      obtain ⟨cl, na⟩ := k.w.fls C A f hc hf
      exact ⟨l, A, dx, gs, u, rfl, hl, cl, na, e2, post_same c1 ru p⟩
    · exact p.elim
  · exact p.elim
end
end IL
end

section
set_option autoImplicit false
set_option linter.all false
set_option Elab.async false
set_option maxRecDepth 100000
set_option maxHeartbeats 4000000
/-! IL: calls. -/
namespace IL
open PySem L2 PyProof.Rows
section
variable {D : Wd} {P : Pg} {d : Nat} {G : Gt} {N : List Str} {sc : Scope} {W : WX} {X : Cx}
variable {ea eb ec : Ev → Hh → Rs Vl} {el : Ev → Hh → Rs (List Vl)} {a b c o : Expr} {es : List Expr} {pos p apos : Pos}
theorem plain_db {x : Str} (h : plainNm x = true) : (x == ("__debug__" : Str)) = false := by
  simp only [plainNm, Bool.and_eq_true, Bool.not_eq_true'] at h
  exact h.1.1
theorem plain_nm {x : Str} (h : plainNm x = true) : x ≠ ("__name__" : Str) := fun e => by
  simp only [plainNm, Bool.and_eq_true, Bool.not_eq_true'] at h
  have := h.2
  rw [e] at this
  simp at this
theorem nil_reads {sp : Sp} {R : L2.St → Hp → VK → XK} (hn : el = fun _ h => .ok [] h) {σ : L2.St} {H : Hp} {Q : List V → Hp → Prop} (q : tL D W el σ H Q) : Q [] H := by
  subst hn
  obtain ⟨F, μ, ρ, h, c, er, p⟩ := q
  exact p _ _ _ _ (.refl _ _ _) c .nil
/-- f(..) -/
theorem e_call (k : XOk D P d G N sc W X) {x : Str} {f : Nat} (hg : glB sc x = true) (hp : plainNm x = true) (hf : G.fn x = some f) (hs : es.all noStar = true) (hl : PA X es (tL D W el)) (hn : es = [] → el = fun _ h => .ok [] h) :
    EOk D W X (fun ρ h => (el ρ h).bind fun vs h1 => callC P (run P d) f vs h1) (.Call (.Name x p) es [] pos) := by
  obtain ⟨fa, fd, ps, hm, kp, bd, ok⟩ := k.w.fns x f hf
  have rd : ∀ σ H Q, tE D W (fun ρ h => (el ρ h).bind fun vs h1 => callC P (run P d) f vs h1) σ H Q → tL D W el σ H fun us H1 => spF D P d f us H1 Q (WE W σ) := fun σ H Q q => by
    obtain ⟨F, μ, ρ, h, c, er, p⟩ := q
    refine ⟨F, μ, ρ, h, c, er, (Post.bind p).mono fun us H1 q => ?_⟩
    obtain ⟨F1, μ1, vs, h1, x1, c1, r1, p⟩ := q
    exact call_reads c1 r1 p
  refine eok_val ⟨fun pins s σ H Q I q => ?_⟩ (by intro _; rfl)
  have hr : Room (2 * d) X.A := k.room.mono (by omega)
  refine wpAny_Call_Name_kw (ld_glob I (k.gl x hg) hm ?_ (plain_db hp))
  cases es with
  | nil => exact PySem.W.callWith_K0 I.kIn kp (run_fnS (us := []) ok hr bd (passAt k.tk σ) I .nil (nil_reads (sp := spF D P d f) (R := fun _ _ _ => fun _ _ _ => True) (hn rfl) (rd σ H Q q)))
  | cons e es =>
    rw [List.all_cons, Bool.and_eq_true] at hs
    refine PySem.W.callWith_K (h₀ := X.base) I.ok.mod.kin kp (thn (hl.run pos pins s σ H _ I (rd σ H Q q)) fun us s1 ⟨vs, H1, I1, r, q⟩ => ⟨I1.kIn, ?_⟩) (star_eq hs.1 _ _) (stars_plain hs.2)
    exact run_fnS ok hr bd (passAt k.tk σ) I1 r q
/-- an instance is made, what its __init__ raises is wished for at the slots -/
theorem make_at {A fa : Addr} {fd : FuncData} {ps : List Str} {sp : Sp} {n : Nat} {E : XK} {σ : L2.St} {H : Hp} {s : Shared} {Q : VK} {pins : List (Addr × Obj)} {us : List Value} {vs : List V} (mk : Mk X.K A fa)
    (ok : FnOk X.prog X.w X.K X.mg X.base (L2.CX X.prog X.w) n fa fd ps sp) (room : Room (n + 1) X.A) (bd : Binds X.K fd ps []) (pa : PassesAt (L2.CX X.prog X.w) X σ E) (I : L2.Inv X pins σ H s) (r : Vals vs us)
    (q : ∀ y dy, H y = none → H dy = none → dy ≠ y → sp (.ref y :: vs) (upd (upd H dy (.own y)) y (.ins A dy [])) (fun v H2 => v = .non ∧ Q (.ref y) H2) E) : wpAny (model X.prog X.w) X.A (call (.ref A) us) (EP X pins σ Q) X.xe s := by
  have f1 : H (s.heap.objs.size + 1) = none := I.hok.fresh (Nat.le_add_right _ 1)
  have f0 : H s.heap.objs.size = none := I.hok.fresh Nat.le.refl
  have q1 := q _ _ f1 f0 (Nat.ne_of_lt (Nat.lt_add_one _))
  have J := Inv.made (C := A) I
  have rs : Vals (V.ref (s.heap.objs.size + 1) :: vs) (Value.ref (s.heap.objs.size + 1) :: us) := .cons rfl r
  have hlen : (Value.ref (s.heap.objs.size + 1) :: us).length = ps.length := rs.length.symm.trans (ok.len _ _ _ _ q1)
  have b := bd _ (Value.ref (s.heap.objs.size + 1) :: us) J.kIn (by rw [List.append_nil]; exact hlen)
  rw [List.append_nil] at b
  have go := ok.run _ X.stack _ _ ⟨_, []⟩ _ _ _ E (room.make A us []) (J.env0.make A us []) b rs q1
  refine wpAny_call (make_map I.kIn mk.makes mk.init (beq_iff_eq.mp mk.fn) (codeAny_mono go fun res s2 hres => ?_))
  match res, hres with
  | .error e, hres => exact pa pins _ _ e s2 J hres
  | .ok (.ret u), hres =>
    obtain ⟨v, H2, J2, ru, ev, q2⟩ := J.after hres
    subst ev
    exact ⟨ru, V.ref (s.heap.objs.size + 1), H2, J2, rfl, q2⟩
  | .ok .next, hres => exact hres.elim
  | .ok .brk, hres => exact hres.elim
  | .ok .cont, hres => exact hres.elim
/-- C(..) -/
theorem e_make (k : XOk D P d G N sc W X) {x : Str} {C : Nat} (hg : glB sc x = true) (hp : plainNm x = true) (hf : G.cl x = some C) (hs : es.all noStar = true) (hl : PA X es (tL D W el)) (hn : es = [] → el = fun _ h => .ok [] h) :
    EOk D W X (fun ρ h => (el ρ h).bind fun vs h1 => match P.init C with
      | some f => (run P d f (.ref h1.length :: vs) (h1 ++ [.ins C []])).bind fun r h2 => match r with
        | .non => .ok (.ref h1.length) h2
        | _ => .bad
      | none => .bad) (.Call (.Name x p) es [] pos) := by
  refine eok_val ?_ (by intro _; rfl)
  obtain ⟨f, A, fa, fd, ps, hi, hc, hm, mk, bd, ok⟩ := k.w.mks x C hf
  rw [hi]
  dsimp only
  have rd : ∀ σ H Q, tE D W (fun ρ h => (el ρ h).bind fun vs h1 => (run P d f (.ref h1.length :: vs) (h1 ++ [.ins C []])).bind fun r h2 => match r with
      | .non => .ok (.ref h1.length) h2
      | _ => .bad) σ H Q → tL D W el σ H fun us H1 => ∀ y dy, H1 y = none → H1 dy = none → dy ≠ y → spF D P d f (.ref y :: us) (upd (upd H1 dy (.own y)) y (.ins A dy [])) (fun v H2 => v = .non ∧ Q (.ref y) H2) (WE W σ) := fun σ H Q q => by
    obtain ⟨F, μ, ρ, h, c, er, p⟩ := q
    refine ⟨F, μ, ρ, h, c, er, (Post.bind p).mono fun us H1 q => ?_⟩
    obtain ⟨F1, μ1, vs, h1, x1, c1, r1, p⟩ := q
    intro y dy ny ndy ne
    -- the instance's own dict stands frozen, the instance is new in the local heap
    obtain ⟨c2, x2⟩ := c1.new ndy (.own y)
    have ny2 : upd H1 dy (.own y) y = none := by rw [upd_ne (Ne.symm ne)]; exact ny
    obtain ⟨c3, x3⟩ := c2.place (o := .ins C []) (u := .ins A dy []) ny2 (.ins hc .nil)
    have hl3 : (μ1 ++ [y])[h1.length]? = some y := by rw [c1.len, List.getElem?_append_right (Nat.le_refl _)]; simp
    have x13 := x2.trans x3
    have len : ∀ r, run P d f (.ref h1.length :: vs) (h1 ++ [.ins C []]) = r → r ≠ .bad → ∃ G, P.fn f = some G ∧ (V.ref y :: us).length = G.n := fun r e hne => by
      cases d with
      | zero => exact absurd e.symm hne
      | succ d =>
        unfold run at e
        split at e
        · exact absurd e.symm hne
        · rename_i G hG
          split at e
          · rename_i hlen
            exact ⟨G, hG, by rw [← hlen]; simp [r1.length]⟩
          · exact absurd e.symm hne
    have rs : RVs D (upd F1 dy (.own y)) (μ1 ++ [y]) (.ref h1.length :: vs) (.ref y :: us) := .cons (.ref hl3) (r1.mono x13.f x13.m)
    cases er : run P d f (.ref h1.length :: vs) (h1 ++ [.ins C []]) with
    | bad => rw [er] at p; exact p.elim
    | exc C' h2 =>
      rw [er] at p
      refine ⟨len _ er (by simp), _, _, _, _, c3, rs, ?_⟩
      rw [er]
      exact fun F4 μ4 H4 A' x4 c4 k => p F4 μ4 H4 A' (x13.trans x4) c4 k
    | ok v h2 =>
      rw [er] at p
      refine ⟨len _ er (by simp), _, _, _, _, c3, rs, ?_⟩
      rw [er]
      intro F4 μ4 H4 u x4 c4 r4
      cases r4 with
      | non => exact ⟨rfl, p F4 μ4 H4 (.ref y) (x13.trans x4) c4 (.ref (x4.m.get hl3))⟩
      | _ => exact p.elim
  refine ⟨fun pins s σ H Q I q => ?_⟩
  refine wpAny_Call_Name_kw (ld_glob I (k.gl x hg) hm ?_ (plain_db hp))
  have mkrun : ∀ {us : List Value} {vs : List V} {s1 : Shared} {H1 : Hp}, L2.Inv X pins σ H1 s1 → Vals vs us → (∀ y dy, H1 y = none → H1 dy = none → dy ≠ y → spF D P d f (.ref y :: vs) (upd (upd H1 dy (.own y)) y (.ins A dy [])) (fun v H2 => v = .non ∧ Q (.ref y) H2) (WE W σ)) →
      wpAny (model X.prog X.w) X.A (call (.ref A) us) (EP X pins σ Q) X.xe s1 := fun {us vs s1 H1} I1 r q =>
    make_at mk ok k.room bd (passAt k.tk σ) I1 r q
  cases es with
  | nil => exact PySem.W.callWith_K0 I.kIn mk.kp (mkrun I .nil (nil_reads (sp := spF D P d f) (R := fun _ _ _ => fun _ _ _ => True) (hn rfl) (rd σ H Q q)))
  | cons e es =>
    rw [List.all_cons, Bool.and_eq_true] at hs
    refine PySem.W.callWith_K (h₀ := X.base) I.ok.mod.kin mk.kp (thn (hl.run pos pins s σ H _ I (rd σ H Q q)) fun us s1 ⟨vs, H1, I1, r, q⟩ => ⟨I1.kIn, ?_⟩) (star_eq hs.1 _ _) (stars_plain hs.2)
    exact mkrun I1 r q
end
end IL
end

section
set_option autoImplicit false
set_option linter.all false
set_option Elab.async false
set_option maxRecDepth 100000
set_option maxHeartbeats 4000000
/-! IL: methods, functions of Python. -/
namespace IL
open PySem L2 PyProof.Rows
section
variable {D : Wd} {P : Pg} {d : Nat} {G : Gt} {N : List Str} {sc : Scope} {W : WX} {X : Cx}
variable {ea eb ec : Ev → Hh → Rs Vl} {el : Ev → Hh → Rs (List Vl)} {a b c o : Expr} {es : List Expr} {pos p apos : Pos}
theorem few_ok {cpos : Pos} (hs : es.all noStar = true) (hl : es.length < 20) : ((backTo cpos (starEach es X.env)).all (fun x => !x.1) && (backToKw cpos (keywordEach [] X.env)).all (fun x => x.1.isSome)
      && decide (es.length + ([] : List Keyword).length + (if ([] : List Keyword).isEmpty then 0 else 1) < 30)) = true := by
  rw [stars_all hs]
  have h2 : (backToKw cpos (keywordEach [] X.env)).all (fun x => x.1.isSome) = true := rfl
  rw [h2]
  simp
  omega
/-- how a method is called: what stands ahead of it -/
theorem meth_eval {m : Str} (hn : notSuper o = true) (hs : es.all noStar = true) (hl : es.length < 20) (hline : (apos.endLine == pos.line) = true) : ∃ pl, eval (.Call (.Attribute o m apos) es [] pos) X.env = (do
      let ov ← eval o X.env
      standAt apos.atName
      let (f, first) ← holding [ov] (getMethod ov m pl)
      callWith pos f first (backTo pos (starEach es X.env)) (backToKw pos (keywordEach [] X.env))) := by
  have few : methodCallForm (es.length + ([] : List Keyword).length) (backTo pos (starEach es X.env)) (backToKw pos (keywordEach [] X.env)) = true := by
    have e0 : backToKw pos (keywordEach [] X.env) = [] := rfl
    unfold methodCallForm
    rw [stars_all hs, e0]
    simp
    omega
  refine ⟨(do return (← importBound o X.env).getD true), ?_⟩
  rw [arm_eval_Call, base_eq hn]
  unfold methodCall methodCallPos calleeOf
  rw [few]
  simp only [hline, Bool.not_true, Bool.false_or, if_true]
  rfl
/-- o.m(..), m a method of an own class -/
theorem e_meth (k : XOk D P d G N sc W X) {m : Str} (ho : EOk D W X ea o) (hn : notSuper o = true) (hs : es.all noStar = true) (hl : es.length < 20) (hline : (apos.endLine == pos.line) = true) (hp : PA X es (tL D W el)) (hnil : es = [] → el = fun _ h => .ok [] h) :
    EOk D W X (fun ρ h => (ea ρ h).bind fun x h1 => match methF P m x h1 with
      | some f => (el ρ h1).bind fun vs h2 => callC P (run P d) f (x :: vs) h2
      | none => .bad) (.Call (.Attribute o m apos) es [] pos) := by
  refine eok_val ⟨fun pins s σ H Q I q => ?_⟩ (by intro _; rfl)
  obtain ⟨pl, ht⟩ := meth_eval (X := X) (m := m) hn hs hl hline
  have hr : Room (2 * d) X.A := k.room.mono (by omega)
  obtain ⟨F, μ, ρ, h, c, er, p⟩ := q
  refine PySem.W.methodCall_KW (pl := pl) (thn (ho.pe.run pins s σ H _ I ⟨F, μ, ρ, h, c, er, Post.bind p⟩) fun u s1 hu => ?_) ht
  obtain ⟨x, H1, I1, rx, F1, μ1, v, h1, x1, c1, r1, p⟩ := hu
  split at p
  · rename_i f hf
    unfold methF at hf
    split at hf
    · rename_i C fs hi
      split at hf
      · cases hf
      · rename_i hnf
        obtain ⟨l, A, dx, gs, rfl, hl1, hc, rf⟩ := asIns_ok c1 r1 hi
        obtain ⟨fa, fd, ps, cl, hm, bd, ok⟩ := k.w.mts C A m f hc hf
        obtain rfl : u = Value.ref l := rx
        have nl : gs.lookup m = none := rf.noLook (by
          cases e : fs.lookup m with
          | none => rfl
          | some z => rw [e] at hnf; exact absurd rfl hnf)
        refine getmeth_ok I1 hl1 cl hm nl ?_
        have rd : tL D W el σ H1 fun us H2 => spF D P d f (.ref l :: us) H2 Q (WE W σ) := by
          refine ⟨F1, μ1, ρ, h1, c1, er.mono x1.f x1.m, (Post.bind p).mono fun us H2 q => ?_⟩
          obtain ⟨F2, μ2, vs, h2, x2, c2, r2, p⟩ := q
          exact call_reads c2 (.cons (r1.mono x2.f x2.m) r2) p
        cases es with
        | nil => exact PySem.W.callWith_K0 (first := [.ref l]) I1.kIn hm.kp (run_fnS (us := [.ref l]) (vs := [.ref l]) ok hr bd (passAt k.tk σ) I1 (.cons rfl .nil) (nil_reads (sp := spF D P d f) (R := fun _ _ _ => fun _ _ _ => True) (hnil rfl) rd))
        | cons e es =>
          rw [List.all_cons, Bool.and_eq_true] at hs
          refine PySem.W.callWith_K (first := [.ref l]) (h₀ := X.base) I.ok.mod.kin hm.kp (thn (hp.run pos pins s1 σ H1 _ I1 rd) fun us s2 ⟨vs, H2, I2, r, q⟩ => ⟨I2.kIn, ?_⟩) (star_eq hs.1 _ _) (stars_plain hs.2)
          exact run_fnS (us := .ref l :: us) (vs := .ref l :: vs) ok hr bd (passAt k.tk σ) I2 (.cons rfl r) q
    · cases hf
  · exact p.elim
/-- f(..) of Python's own, by values -/
theorem e_blt (k : XOk D P d G N sc W X) {x : Str} {b : Blt} {v : Value} (hg : glB sc x = true) (hp : plainNm x = true) (hx : G.bl x = true) (hv : bootBuiltins x = some v) (hc : ∀ E, CallR X v (rL D E (bltV b))) (hb : (∃ id, v = .builtin id) ∨ ∃ T, v = .type T) (hs : es.all noStar = true) (hne : es ≠ []) (hl : PA X es (tL D W el)) :
    EOk D W X (fun ρ h => (el ρ h).bind fun vs h1 => bltV b vs h1) (.Call (.Name x p) es [] pos) := by
  refine eok_val ⟨fun pins s σ H Q I q => ?_⟩ (by intro _; rfl)
  have rd : tCB (rL D (WE W σ) (bltV b)) (tL D W el) σ H Q := by
    obtain ⟨F, μ, ρ, h, c, er, p⟩ := q
    refine ⟨F, μ, ρ, h, c, er, (Post.bind p).mono fun us H1 q => ?_⟩
    obtain ⟨F1, μ1, vs, h1, x1, c1, r1, p⟩ := q
    exact ⟨F1, μ1, h1, vs, c1, r1, p⟩
  match es, hne, hs, hl with
  | e :: es, _, hs, hl =>
    rw [List.all_cons, Bool.and_eq_true] at hs
    have se := star_eq hs.1 es X.env
    have sp := stars_plain (env := X.env) (cpos := pos) hs.2
    rcases hb with ⟨id, rfl⟩ | ⟨T, rfl⟩
    · exact (pe_callB (hc (WE W σ)) (k.gl x hg) (k.w.blt x hx) hv hl (plain_nm hp) (plain_db hp) se sp).run pins s σ H Q I rd
    · exact (pe_callTy (hc (WE W σ)) (k.gl x hg) (k.w.blt x hx) hv hl (plain_nm hp) (plain_db hp) se sp).run pins s σ H Q I rd
/-- isinstance(x, T) -/
theorem isinst_tab : ∀ n, n < 5 → ∀ t ∈ ["NoneType", "bool", "int", "str", "tuple", "list"], ∃ T, tyName n = Str.ofString T ∧ bootBuiltins (tyName n) = some (.type T) ∧ kitB t T = some (
    (n == 0 && (t == "int" || t == "bool")) || (n == 1 && t == "bool") || (n == 2 && t == "tuple") || (n == 3 && t == "str") || (n == 4 && t == "list")) := by
  intro n hn
  match n, hn with
  | 0, _ => intro t ht; refine ⟨"int", rfl, by decide +kernel, ?_⟩; simp at ht; rcases ht with rfl | rfl | rfl | rfl | rfl | rfl <;> decide +kernel
  | 1, _ => intro t ht; refine ⟨"bool", rfl, by decide +kernel, ?_⟩; simp at ht; rcases ht with rfl | rfl | rfl | rfl | rfl | rfl <;> decide +kernel
  | 2, _ => intro t ht; refine ⟨"tuple", rfl, by decide +kernel, ?_⟩; simp at ht; rcases ht with rfl | rfl | rfl | rfl | rfl | rfl <;> decide +kernel
  | 3, _ => intro t ht; refine ⟨"str", rfl, by decide +kernel, ?_⟩; simp at ht; rcases ht with rfl | rfl | rfl | rfl | rfl | rfl <;> decide +kernel
  | 4, _ => intro t ht; refine ⟨"list", rfl, by decide +kernel, ?_⟩; simp at ht; rcases ht with rfl | rfl | rfl | rfl | rfl | rfl <;> decide +kernel
  | n + 5, h => omega
theorem e_isi (k : XOk D P d G N sc W X) {n : Nat} {t : Str} {p2 : Pos} (hn : n < 5) (ht : t = tyName n) (hgt : glB sc t = true) (hpt : plainNm t = true) (hxt : G.bl t = true) (hg : glB sc ("isinstance" : Str) = true) (hx : G.bl ("isinstance" : Str) = true) (hs : noStar a = true) (ha : EOk D W X ea a) :
    EOk D W X (fun ρ h => (ea ρ h).bind fun x h1 => bltV (.isinst n) [x] h1) (.Call (.Name ("isinstance" : Str) p) [a, .Name t p2] [] pos) := by
  refine eok_val ⟨fun pins s σ H Q I q => ?_⟩ (by intro _; rfl)
  obtain ⟨T, e1, e2, _⟩ := isinst_tab n hn "int" (by simp)
  have pt : PE X (.Name t p2) (tC (.ty T)) := pe_bltn (k.gl t hgt) (k.w.blt t hxt) (by rw [ht]; exact e2) (show RelV (.ty T) (.type T) from rfl) (plain_nm hpt) (plain_db hpt)
  have pl : PA X [a, .Name t p2] (tCons (tE D W ea) (tCons (tC (.ty T)) tNil)) := pa_cons ha.pe (pa_cons pt pa_nil) (star_eq hs _ _)
  refine (pe_callB call_isi (k.gl _ hg) (k.w.blt _ hx) (by decide +kernel) pl (by decide) (by decide) (star_eq hs _ _) rfl).run pins s σ H Q I ?_
  obtain ⟨F, μ, ρ, h, c, er, p⟩ := q
  refine ⟨F, μ, ρ, h, c, er, (Post.bind p).mono fun x H1 q => ?_⟩
  obtain ⟨F1, μ1, v, h1, x1, c1, r1, p⟩ := q
  have fin : ∀ ty b, ty ∈ ["NoneType", "bool", "int", "str", "tuple", "list"] → TyX X.K H1 x (.type ty) → ((n == 0 && (ty == "int" || ty == "bool")) || (n == 1 && ty == "bool") || (n == 2 && ty == "tuple") || (n == 3 && ty == "str") || (n == 4 && ty == "list")) = b → isinstV n v = b → PostV D F1 μ1 H1 (.ok (.bl (isinstV n v)) h1) Q (WE W σ) → tC (.ty T) σ H1 fun y H2 => tNil σ H2 fun ys H3 => rIsi X.K (x :: (y :: ys)) H3 Q := fun ty b hm tx e3 e4 p => by
    obtain ⟨T', f1, f2, f3⟩ := isinst_tab n hn ty hm
    have : T' = T := by
      rw [e2] at f2
      cases f2; rfl
    subst this
    refine ⟨x, .ty T', .type ty, .type T', _, rfl, .ty T', tx, kit_ty f3, ?_⟩
    rw [e3, ← e4]
    exact post_same c1 (.bl _) p
  simp only [bltV] at p
  split at p
  · rename_i hd
    cases r1 with
    | non => exact fin "NoneType" _ (by simp) (.base .non) rfl (by simp [isinstV]) p
    | bl b => exact fin "bool" _ (by simp) (.base (.bl b)) rfl (by simp [isinstV]) p
    | int i => exact fin "int" _ (by simp) (.base (.int i)) rfl (by simp [isinstV]) p
    | str kx => exact fin "str" _ (by simp) (.base (.str _)) rfl (by simp [isinstV]) p
    | tup hf rs => exact fin "tuple" _ (by simp) (.base (.tup (c1.sub.tup hf))) rfl (by simp [isinstV]) p
    | lst hf rs => exact fin "list" _ (by simp) (.base (.lst (c1.sub.lst hf))) rfl (by simp [isinstV]) p
    | scr hf rs => simp [instOk] at hd
    | dT hf rs => simp [instOk] at hd
    | dK hf rs => simp [instOk] at hd
    | ins hf hc rs => simp [instOk] at hd
    | ref hm => simp [instOk] at hd
  · exact p.elim
end
end IL
end

section
set_option autoImplicit false
set_option linter.all false
set_option Elab.async false
set_option maxRecDepth 100000
set_option maxHeartbeats 4000000
/-! IL: methods of Python's own types. -/
namespace IL
open PySem L2 PyProof.Rows
/-- a method of a built-in type, by values -/
def rM (D : Wd) (E : XK) (t : Nat) (m : Bm) : V → List V → Hp → VK → Prop := fun x us H Q => ∃ F μ h v vs, CS D F μ h H ∧ RV D F μ v x ∧ RVs D F μ vs us ∧ PostV D F μ H (bmV t m v vs h) Q E
section
variable {D : Wd} {P : Pg} {d : Nat} {G : Gt} {N : List Str} {sc : Scope} {W : WX} {X : Cx}
/-- what is known of a method of type t -/
structure BmOk (D : Wd) (X : Cx) (t : Nat) (m : Bm) (T id : String) : Prop where
  pa : PlainAttrs T
  slot : Slot T (bmName m) id
  ty : typeOf (.builtin id) = pure (.type "method_descriptor")
  run : ∀ E, MtR X id (rM D E t m)
theorem place_ref {F : Hp} {μ : List Addr} {h : Hh} {H : Hp} (c : CS D F μ h H) {l : Nat} {x : V} (r : RV D F μ (.ref l) x) {o : Ob} (e : h[l]? = some o) : ∃ a u, x = .ref a ∧ μ[l]? = some a ∧ l < h.length ∧ H a = some u ∧ RO D F μ o u := by
  cases r with
  | ref hm =>
    obtain ⟨b, u, e1, e2, e3, e4⟩ := c.ob l o e
    rw [hm] at e1
    cases e1
    exact ⟨_, u, rfl, hm, (List.getElem?_eq_some_iff.mp e).1, e3, e4⟩
theorem bm_append : BmOk D X 0 .append "list" "list.append" where
  pa := PySem.F.plainAttrs_list
  slot := PySem.F.slot_list_append
  ty := PySem.F.type_list_append
  run := by
    intro E pins s σ H x us v ws Q I rx rv hh
    obtain ⟨F, μ, h, a, vs, c, ra, rs, p⟩ := hh
    unfold bmV at p
    split at p <;> first | exact p.elim | skip
    · rename_i y e
      split at p
      · rename_i l
        split at p
        · rename_i xs hx
          split at p
          · rename_i hlen
            obtain ⟨b, u, rfl, hm, hl, hb, ro⟩ := place_ref c ra hx
            cases ro with
            | lst rq =>
              obtain ⟨w, rfl, rw'⟩ := rs.one
              obtain ⟨c', x'⟩ := c.put hl hm (RO.lst (rq.append (.cons rw' .nil)))
              refine mt_append pins s σ H _ _ v ws Q I rx rv ⟨b, _, w, rfl, rfl, hb, ?_, p _ _ _ _ x' c' .non⟩
              have := rq.length
              exact Nat.lt_of_lt_of_le (by rw [← this]; exact hlen) (by decide : 100000 ≤ sizeLine)
          · exact p.elim
        · exact p.elim
      · exact p.elim
    · rename_i e; cases e
theorem bm_extend : BmOk D X 0 .extend "list" "list.extend" where
  pa := PySem.F.plainAttrs_list
  slot := PySem.F.slot_list_extend
  ty := PySem.F.type_list_extend
  run := by
    intro E pins s σ H x us v ws Q I rx rv hh
    obtain ⟨F, μ, h, a, vs, c, ra, rs, p⟩ := hh
    unfold bmV at p
    split at p <;> first | exact p.elim | skip
    · rename_i e; cases e
    · rename_i y e
      split at p
      · rename_i l
        split at p
        · rename_i xs ys hx hy
          split at p
          · rename_i hlen
            obtain ⟨b, u, rfl, hm, hl, hb, ro⟩ := place_ref c ra hx
            cases ro with
            | lst rq =>
              obtain ⟨w, rfl, rw'⟩ := rs.one
              obtain ⟨b2, zs, rfl, hb2, rz⟩ := asList_ok c rw' hy
              obtain ⟨c', x'⟩ := c.put hl hm (RO.lst (rq.append rz))
              refine mt_extend pins s σ H _ _ v ws Q I rx rv ⟨b, b2, _, zs, rfl, rfl, hb, hb2, ?_, p _ _ _ _ x' c' .non⟩
              exact line_le (by rw [← rq.length, ← rz.length]; exact hlen)
          · exact p.elim
        · exact p.elim
      · exact p.elim
theorem bm_tab (t : Nat) (m : Bm) (h : bmOk t m = true) : ∃ T id, BmOk D X t m T id ∧ T = (if t = 0 then "list" else if t = 1 then "dict" else "str") := by
  unfold bmOk at h
  split at h
  · exact ⟨_, _, bm_append, rfl⟩
  · exact ⟨_, _, bm_extend, rfl⟩
  · cases h
/-- the type of what a method is of -/
theorem tag_ok {F : Hp} {μ : List Addr} {h : Hh} {H : Hp} (c : CS D F μ h H) {v : Vl} {x : V} (r : RV D F μ v x) {t : Nat} (e : tyTag h v = some t) {u : Value} (rx : RelV x u) {pins : List (Addr × Obj)} {s : Shared} {σ : L2.St} (I : L2.Inv X pins σ H s) :
    s.TypeIs u (if t = 0 then "list" else if t = 1 then "dict" else "str") ∧ ∀ b, u = .ref b → ∃ o, s.heap.get? b = some o ∧ o.dict = none := by
  have list : ∀ {a : Addr} {us : List V}, H a = some (.lst us) → x = .ref a → s.TypeIs u "list" ∧ ∀ b, u = .ref b → ∃ o, s.heap.get? b = some o ∧ o.dict = none := fun {a us} hl ex => by
    subst ex
    exact tyV_is I rx (T := "list") (.inl ⟨rfl, us, .of hl⟩)
  have dict : ∀ {a : Addr}, IsD H a → x = .ref a → s.TypeIs u "dict" ∧ ∀ b, u = .ref b → ∃ o, s.heap.get? b = some o ∧ o.dict = none := fun {a} hd ex => by
    subst ex
    cases (show u = Value.ref a from rx)
    obtain ⟨t1, t2, _⟩ := isD_at I hd
    exact ⟨t1, t2⟩
  cases r with
  | lst hf rs => cases e; exact list (c.sub.lst hf) rfl
  | dT hf rs =>
    cases e
    rcases c.sub _ _ hf with q | ⟨ob, q, _⟩
    · exact dict (.inr ⟨_, .inl q⟩) rfl
    · exact dict (.inr ⟨_, .inr ⟨ob, q⟩⟩) rfl
  | dK hf rs =>
    cases e
    rcases c.sub _ _ hf with q | ⟨ob, q, _⟩
    · exact dict (.inl ⟨_, .inl q⟩) rfl
    · exact dict (.inl ⟨_, .inr ⟨ob, q⟩⟩) rfl
  | str hz =>
    cases e
    exact tyV_is I rx (T := "str") (show "str" = "str" from rfl)
  | @ref l a hm =>
    simp only [tyTag] at e
    split at e
    · rename_i xs hx
      cases e
      obtain ⟨b, o, e1, e2, e3, e4⟩ := c.ob l _ hx
      rw [hm] at e1; cases e1
      cases e4
      exact list e3 rfl
    · rename_i lk k es hx
      cases e
      obtain ⟨b, o, e1, e2, e3, e4⟩ := c.ob l _ hx
      rw [hm] at e1; cases e1
      cases e4 with
      | dT rt => exact dict (.inr ⟨_, .inl e3⟩) rfl
      | dK rt => exact dict (.inl ⟨_, .inl e3⟩) rfl
      | lT rt => exact dict (.inr ⟨_, .inr ⟨_, e3⟩⟩) rfl
      | lK rt => exact dict (.inl ⟨_, .inr ⟨_, e3⟩⟩) rfl
    · cases e
  | _ => cases e
variable {ea : Ev → Hh → Rs Vl} {el : Ev → Hh → Rs (List Vl)} {o : Expr} {es : List Expr} {pos apos : Pos}
theorem e_bm (k : XOk D P d G N sc W X) {m : Bm} (ho : EOk D W X ea o) (hn : notSuper o = true) (hs : es.all noStar = true) (hl : es.length < 20) (hline : (apos.endLine == pos.line) = true) (hp : PA X es (tL D W el)) (hnil : es = [] → el = fun _ h => .ok [] h) :
    EOk D W X (fun ρ h => (ea ρ h).bind fun x h1 => match tyTag h1 x with
    | some t => if bmOk t m then (el ρ h1).bind fun vs h2 => bmV t m x vs h2 else .bad
    | none => .bad) (.Call (.Attribute o (bmName m) apos) es [] pos) := by
  refine eok_val ⟨fun pins s σ H Q I q => ?_⟩ (by intro _; rfl)
  obtain ⟨F, μ, ρ, h, c, er, p⟩ := q
  refine wpAny_Call_method_late (base_eq hn _ _) (few_ok hs hl) hline rfl (thn (ho.pe.run pins s σ H _ I ⟨F, μ, ρ, h, c, er, Post.bind p⟩) fun u s1 hu => ?_)
  obtain ⟨x, H1, I1, rx, F1, μ1, v, h1, x1, c1, r1, p⟩ := hu
  split at p
  · rename_i t ht
    split at p
    · rename_i hok
      obtain ⟨T, id, B, eT⟩ := bm_tab (D := D) (X := X) t m hok
      obtain ⟨t1, t2⟩ := tag_ok c1 r1 ht rx I1
      refine ⟨T, id, B.pa, B.slot, B.ty, by rw [eT]; exact t1, t2, ?_⟩
      have rd : tL D W el σ H1 fun us H2 => rM D (WE W σ) t m x us H2 Q := by
        refine ⟨F1, μ1, ρ, h1, c1, er.mono x1.f x1.m, (Post.bind p).mono fun us H2 q => ?_⟩
        obtain ⟨F2, μ2, vs, h2, x2, c2, r2, p⟩ := q
        exact ⟨F2, μ2, h2, v, vs, c2, r1.mono x2.f x2.m, r2, p⟩
      cases es with
      | nil => exact Calls.callWith_builtin rfl (PySem.evalArgs_none (B.run (WE W σ) pins s1 σ H1 x [] u [] Q I1 rx .nil (nil_reads (sp := fun _ _ _ _ => True) (R := fun _ _ _ => fun _ _ _ => True) (hnil rfl) rd)))
      | cons e es =>
        rw [List.all_cons, Bool.and_eq_true] at hs
        have hA := hp.run pos pins s1 σ H1 _ I1 rd
        have se := star_eq hs.1 es X.env
        have sp : (backTo pos (starEach (e :: es) X.env)).any (·.1) = false := stars_plain (by rw [List.all_cons, hs.1, hs.2]; rfl)
        rw [se] at hA sp ⊢
        refine Calls.callWith_builtin sp (Calls.evalArgs_plain ?_)
        exact thn hA fun us s2 ⟨vs, H2, I2, r2, q2⟩ => B.run (WE W σ) pins s2 σ H2 x vs u us Q I2 rx r2 q2
    · exact p.elim
  · exact p.elim
end
end IL
end

section
set_option autoImplicit false
set_option linter.all false
set_option Elab.async false
set_option maxRecDepth 100000
set_option maxHeartbeats 4000000
/-! IL: what is walked. -/
namespace IL
open PySem L2 PyProof.Rows
/-- a walk over frozen items -/
structure Wk (D : Wd) (J : It) (F : Hp) (μ : List Addr) (xs : List Vl) : Prop where
  goes : ∀ i H, i < xs.length → FSub F H → J.go i H
  stops : ∀ H, FSub F H → J.stop xs.length H
  yields : ∀ i H x H' v, xs[i]? = some v → FSub F H → J.yld i H x H' → ∀ F2 μ2 h2, FExt F F2 → MExt μ μ2 → CS D F2 μ2 h2 H → ∃ F3, CS D F3 μ2 h2 H' ∧ Xt F2 μ2 H F3 μ2 H' ∧ RV D F3 μ2 v x
section
variable {D : Wd} {F : Hp} {μ : List Addr} {xs : List Vl} {us : List V} {a : Addr}
theorem wk_list {K : Frag} (h : ∀ H, FSub F H → SqL K H a us) (r : RVs D F μ xs us) : Wk D (Itl K a) F μ xs := by
  have w := walk_list (K := K) (a := a) (xs := us)
  refine ⟨fun i H hi hs => w.goes i H (by rw [← r.length]; exact hi) (h H hs), fun H hs => by rw [r.length]; exact w.stops H (h H hs), fun i H x H' v hv hs hy F2 μ2 h2 hF hm c => ?_⟩
  obtain ⟨u, hu, ru⟩ := r.get hv
  obtain ⟨e1, e2⟩ := w.yields i H x H' (List.getElem?_eq_some_iff.mp hu).1 (h H hs) hy
  subst e1
  rw [hu] at e2
  cases e2
  exact ⟨F2, c, .refl _ _ _, ru.mono hF hm⟩
theorem wk_tup {K : Frag} (h : ∀ H, FSub F H → SqT K H a us) (r : RVs D F μ xs us) : Wk D (Itt K a) F μ xs := by
  have w := walk_tup (K := K) (a := a) (xs := us)
  refine ⟨fun i H hi hs => w.goes i H (by rw [← r.length]; exact hi) (h H hs), fun H hs => by rw [r.length]; exact w.stops H (h H hs), fun i H x H' v hv hs hy F2 μ2 h2 hF hm c => ?_⟩
  obtain ⟨u, hu, ru⟩ := r.get hv
  obtain ⟨e1, e2⟩ := w.yields i H x H' (List.getElem?_eq_some_iff.mp hu).1 (h H hs) hy
  subst e1
  rw [hu] at e2
  cases e2
  exact ⟨F2, c, .refl _ _ _, ru.mono hF hm⟩
theorem wk_rng (lo : Int) (n : Nat) : Wk D (Itr lo n) F μ ((List.range n).map fun (i : Nat) => Vl.int (lo + i)) := by
  refine ⟨fun i H hi _ => (by simpa using hi : i < n), fun H _ => by simp [Itr], fun i H x H' v hv hs hy F2 μ2 h2 hF hm c => ?_⟩
  obtain ⟨e1, e2⟩ := hy
  subst e1 e2
  have hi := (List.getElem?_eq_some_iff.mp hv).1
  simp at hi
  have : v = .int (lo + i) := by
    rw [List.getElem?_map, List.getElem?_range hi] at hv
    cases hv; rfl
  subst this
  exact ⟨F2, c, .refl _ _ _, .int _⟩
theorem enum_length (n : Nat) : ∀ xs : List Vl, (enumFrom n xs).length = xs.length := by
  intro xs
  induction xs generalizing n with
  | nil => rfl
  | cons x xs ih => simp [enumFrom, ih]
theorem enum_get : ∀ (xs : List Vl) (n i : Nat) (v : Vl), (enumFrom n xs)[i]? = some v → ∃ x, xs[i]? = some x ∧ v = .tup [.int ((n + i : Nat) : Int), x]
  | [], _, _, _, h => by simp [enumFrom] at h
  | x :: xs, n, 0, v, h => by
    simp [enumFrom] at h
    exact ⟨x, by simp, by rw [← h]; simp⟩
  | x :: xs, n, i + 1, v, h => by
    simp only [enumFrom, List.getElem?_cons_succ] at h
    obtain ⟨y, h1, h2⟩ := enum_get xs (n + 1) i v h
    exact ⟨y, by simpa using h1, by rw [h2]; congr 3; omega⟩
theorem wk_enum {K : Frag} (h : ∀ H, FSub F H → SqL K H a us) (r : RVs D F μ xs us) : Wk D (Ite K a) F μ (enumFrom 0 xs) := by
  have w := walk_enum (K := K) (a := a) (xs := us)
  refine ⟨fun i H hi hs => w.goes i H (by rw [← r.length, ← enum_length 0]; exact hi) (h H hs), fun H hs => by rw [enum_length, r.length]; exact w.stops H (h H hs), fun i H x H' v hv hs hy F2 μ2 h2 hF hm c => ?_⟩
  obtain ⟨z, hz, ev⟩ := enum_get xs 0 i v hv
  obtain ⟨u, hu, ru⟩ := r.get hz
  obtain ⟨T, y1, y2, e1, hT, e2, e3, e4⟩ := w.yields i H x H' (List.getElem?_eq_some_iff.mp hu).1 (h H hs) hy
  cases e3
  have e4 : us[i]? = some y2 := e4
  rw [hu] at e4
  cases e4
  subst e1 e2 ev
  obtain ⟨c', x'⟩ := c.new hT (.tup [.int (i : Nat), u])
  refine ⟨_, c', x', .tup upd_same (.cons ?_ (.cons ((ru.mono hF hm).mono x'.f x'.m) .nil))⟩
  simp only [Nat.zero_add]
  exact .int _
end
/-- what a walk's source reads -/
def WR (D : Wd) (F : Hp) (μ : List Addr) (h : Hh) (k : Ik) (vs : List Vl) (R : It → Hp → Prop) (H : Hp) : Prop := match walked k vs h with
  | .fr xs => ∀ J, Wk D J F μ xs → R J H
  | .cell l _ => ∀ a, μ[l]? = some a → R (Itl D.K a) H
  | .bad => False
def tW (D : Wd) (W : WX) (k : Ik) (el : Ev → Hh → Rs (List Vl)) : TI := fun σ H R => ∃ F μ ρ h, CS D F μ h H ∧ ER D F μ ρ σ ∧ PostL D F μ H (el ρ h) (fun us H1 => ∃ F1 μ1 h1 vs, Xt F μ H F1 μ1 H1 ∧ CS D F1 μ1 h1 H1 ∧ RVs D F1 μ1 vs us ∧ el ρ h = .ok vs h1 ∧ WR D F1 μ1 h1 k vs R H1) (WE W σ)
section
variable {D : Wd} {P : Pg} {d : Nat} {G : Gt} {N : List Str} {sc : Scope} {W : WX} {X : Cx}
variable {ea : Ev → Hh → Rs Vl} {el : Ev → Hh → Rs (List Vl)} {a tg : Expr} {es : List Expr} {pos p : Pos}
/-- one item as a list of one -/
abbrev one (ea : Ev → Hh → Rs Vl) : Ev → Hh → Rs (List Vl) := fun ρ h => (ea ρ h).bind fun v h1 => Rs.bind (.ok [] h1) fun vs h2 => .ok (v :: vs) h2
theorem one_eq (ρ : Ev) (h : Hh) : one ea ρ h = (ea ρ h).bind fun v h1 => .ok [v] h1 := rfl
theorem pi_seq (k : XOk D P d G N sc W X) (ha : EOk D W X ea a) : PI X tg a (tW D W .seq (one ea)) := by
  refine ⟨fun pins s σ H R I q => ?_⟩
  obtain ⟨F, μ, ρ, h, c, er, q⟩ := q
  have hK := k.hK
  -- by what the source is
  cases e : ea ρ h with
  | bad =>
    rw [one_eq, e] at q
    exact q.elim
  | exc C h1 =>
    rw [one_eq, e] at q
    refine (pi_list ha.pe).run pins s σ H R I ⟨F, μ, ρ, h, c, er, ?_⟩
    rw [e]
    exact q
  | ok v h1 =>
    have el1 : one ea ρ h = .ok [v] h1 := by rw [one_eq, e]; rfl
    rw [el1] at q
    have q : ∀ F1 μ1 H1 u, Xt F μ H F1 μ1 H1 → CS D F1 μ1 h1 H1 → RV D F1 μ1 v u → ∃ F2 μ2, Xt F μ H F2 μ2 H1 ∧ CS D F2 μ2 h1 H1 ∧ RV D F2 μ2 v u ∧ WR D F2 μ2 h1 .seq [v] R H1 := fun F1 μ1 H1 u x c1 r => by
      obtain ⟨F2, μ2, h2, vs, x2, c2, r2, e2, w⟩ := q F1 μ1 H1 [u] x c1 (.cons r .nil)
      cases e2
      cases r2 with
      | cons r2 _ => exact ⟨F2, μ2, x2, c2, r2, w⟩
    have viaL : (∀ F1 μ1 H1 u, Xt F μ H F1 μ1 H1 → CS D F1 μ1 h1 H1 → RV D F1 μ1 v u → ∃ b, u = .ref b ∧ (∃ ys, SqL X.K H1 b ys) ∧ R (Itl X.K b) H1) → wpAny (model X.prog X.w) X.A (eval a X.env) (fun v s1 => wpAny (model X.prog X.w) X.A (pyIter v) (PIE X pins σ tg R) X.xe s1) X.xe s := fun z => by
      refine (pi_list ha.pe).run pins s σ H R I ⟨F, μ, ρ, h, c, er, ?_⟩
      rw [e]
      exact z
    cases v with
    | tup xs =>
      refine (pi_tup ha.pe).run pins s σ H R I ⟨F, μ, ρ, h, c, er, ?_⟩
      rw [e]
      intro F1 μ1 H1 u x c1 r
      obtain ⟨F2, μ2, x2, c2, r2, w⟩ := q F1 μ1 H1 u x c1 r
      cases r2 with
      | tup hf rs =>
        refine ⟨_, rfl, ⟨_, .of (c2.sub.tup hf)⟩, w _ (wk_tup (fun H hs => .of (hs.tup hf)) rs)⟩
    | lst xs =>
      refine viaL fun F1 μ1 H1 u x c1 r => ?_
      obtain ⟨F2, μ2, x2, c2, r2, w⟩ := q F1 μ1 H1 u x c1 r
      cases r2 with
      | lst hf rs => exact ⟨_, rfl, ⟨_, .of (c2.sub.lst hf)⟩, w _ (wk_list (fun H hs => .of (hs.lst hf)) rs)⟩
    | scr xs =>
      refine viaL fun F1 μ1 H1 u x c1 r => ?_
      obtain ⟨F2, μ2, x2, c2, r2, w⟩ := q F1 μ1 H1 u x c1 r
      cases r2 with
      | scr hf rs =>
        rw [hK]
        exact ⟨_, rfl, ⟨_, c2.sub.sqL hf⟩, w _ (wk_list (fun H hs => hs.sqL hf) rs)⟩
    | ref l =>
      refine viaL fun F1 μ1 H1 u x c1 r => ?_
      obtain ⟨F2, μ2, x2, c2, r2, w⟩ := q F1 μ1 H1 u x c1 r
      cases r2 with
      | ref hm =>
        unfold WR walked wSeq at w
        dsimp only at w
        cases e3 : h1[l]? with
        | none => rw [e3] at w; exact w.elim
        | some o =>
          rw [e3] at w
          cases o with
          | lst ys =>
            obtain ⟨b, o, e4, e5, e6, e7⟩ := c2.ob l _ e3
            rw [hm] at e4
            cases e4
            cases e7
            rw [hK]
            exact ⟨_, rfl, ⟨_, .of e6⟩, w _ hm⟩
          | dct lk t es => exact w.elim
          | ins C fs => exact w.elim
    | _ =>
      refine viaL fun F1 μ1 H1 u x c1 r => ?_
      obtain ⟨F2, μ2, x2, c2, r2, w⟩ := q F1 μ1 H1 u x c1 r
      exact w.elim
theorem pi_rng (k : XOk D P d G N sc W X) (hg : glB sc ("range" : Str) = true) (hx : G.bl ("range" : Str) = true) (hs : es.all noStar = true) (hn : es.length = 1 ∨ es.length = 2) (hl : PA X es (tL D W el)) (hlen : ∀ ρ h vs h', el ρ h = .ok vs h' → vs.length = es.length) : PI X tg (.Call (.Name ("range" : Str) p) es [] pos) (tW D W .rng el) := by
  refine ⟨fun pins s σ H R I q => ?_⟩
  obtain ⟨F, μ, ρ, h, c, er, q⟩ := q
  have cnv : ∀ {Q : List V → Hp → Prop}, (∀ us H1, (∃ F1 μ1 h1 vs, Xt F μ H F1 μ1 H1 ∧ CS D F1 μ1 h1 H1 ∧ RVs D F1 μ1 vs us ∧ el ρ h = .ok vs h1 ∧ WR D F1 μ1 h1 .rng vs R H1) → Q us H1) → tL D W el σ H Q := fun {Q} z => ⟨F, μ, ρ, h, c, er, q.mono z⟩
  match es, hn, hl, hs, hlen with
  | [a], _, hl, hs, hlen =>
    rw [List.all_cons, Bool.and_eq_true] at hs
    refine (pi_range1 (k.gl _ hg) (k.w.blt _ hx) hl (star_eq hs.1 _ _)).run pins s σ H R I (cnv fun us H1 z => ?_)
    obtain ⟨F1, μ1, h1, vs, x, c1, rs, e, w⟩ := z
    have hv := hlen ρ h vs h1 e
    match vs, hv, rs, w with
    | [v], _, rs, w =>
      obtain ⟨u, rfl, r⟩ := rs.one
      have w : match wRng v with
        | .fr xs => ∀ J, Wk D J F1 μ1 xs → R J H1
        | .cell l _ => ∀ a, μ1[l]? = some a → R (Itl D.K a) H1
        | .bad => False := w
      cases r with
      | int j =>
        by_cases hj : -1000000 < j ∧ j < 1000000
        · simp only [wRng, if_pos hj] at w
          refine ⟨j, rfl, by omega, by omega, w _ ?_⟩
          have := wk_rng (D := D) (F := F1) (μ := μ1) 0 j.toNat
          simpa [rngI] using this
        · simp only [wRng, if_neg hj] at w
      | _ => exact w.elim
  | [a, b], _, hl, hs, hlen =>
    rw [List.all_cons, List.all_cons, Bool.and_eq_true, Bool.and_eq_true] at hs
    have s2 := star_eq hs.2.1 [] X.env
    refine (pi_range2 (k.gl _ hg) (k.w.blt _ hx) hl (by rw [star_eq hs.1, s2]; rfl) s2).run pins s σ H R I (cnv fun us H1 z => ?_)
    obtain ⟨F1, μ1, h1, vs, x, c1, rs, e, w⟩ := z
    have hv := hlen ρ h vs h1 e
    match vs, hv, rs, w with
    | [v, v'], _, rs, w =>
      obtain ⟨u, u', rfl, r, r'⟩ := rs.two
      have w : match wRng2 v v' with
        | .fr xs => ∀ J, Wk D J F1 μ1 xs → R J H1
        | .cell l _ => ∀ a, μ1[l]? = some a → R (Itl D.K a) H1
        | .bad => False := w
      cases r with
      | int i =>
        cases r' with
        | int j =>
          by_cases hj : -1000000 < i ∧ i < 1000000 ∧ -1000000 < j ∧ j < 1000000
          · simp only [wRng2, if_pos hj] at w
            exact ⟨i, j, rfl, ⟨by omega, by omega, by omega, by omega⟩, w _ (wk_rng i _)⟩
          · simp only [wRng2, if_neg hj] at w
        | _ => exact w.elim
      | _ => exact w.elim
  | [], h, _, _, _ => simp at h
  | _ :: _ :: _ :: _, h, _, _, _ => simp at h
theorem pi_en (k : XOk D P d G N sc W X) {elts : List Expr} {kk : Nat} {tpos : Pos} (hg : glB sc ("enumerate" : Str) = true) (hx : G.bl ("enumerate" : Str) = true) (hs : noStar a = true) (hl : PA X [a] (tL D W el)) : PI X (.Tuple elts kk tpos) (.Call (.Name ("enumerate" : Str) p) [a] [] pos) (tW D W .enum el) := by
  refine ⟨fun pins s σ H R I q => ?_⟩
  obtain ⟨F, μ, ρ, h, c, er, q⟩ := q
  refine (pi_enum (k.gl _ hg) (k.w.blt _ hx) hl (star_eq hs _ _)).run pins s σ H R I ⟨F, μ, ρ, h, c, er, q.mono fun us H1 z => ?_⟩
  obtain ⟨F1, μ1, h1, vs, x, c1, rs, e, w⟩ := z
  match vs, rs, w with
  | [v], rs, w =>
    obtain ⟨u, rfl, r⟩ := rs.one
    have w : match wEnum v with
        | .fr xs => ∀ J, Wk D J F1 μ1 xs → R J H1
        | .cell l _ => ∀ a, μ1[l]? = some a → R (Itl D.K a) H1
        | .bad => False := w
    cases r with
    | lst hf rq => exact ⟨_, _, rfl, .of (c1.sub.lst hf), w _ (wk_enum (fun H hs => .of (hs.lst hf)) rq)⟩
    | _ => exact w.elim
  | [], _, w => exact w.elim
  | [_, _], _, w => exact w.elim
  | _ :: _ :: _ :: _, _, w => exact w.elim
end
end IL
end

section
set_option autoImplicit false
set_option linter.all false
set_option Elab.async false
set_option maxRecDepth 100000
set_option maxHeartbeats 4000000
/-! IL: targets. -/
namespace IL
open PySem L2 PyProof.Rows
/-- only the slots is are stored -/
def SetAt (is : List Nat) (σ σ' : L2.St) : Prop := σ'.length = σ.length ∧ ∀ j, j ∉ is → σ'[j]? = σ[j]?
theorem SetAt.refl (is : List Nat) (σ : L2.St) : SetAt is σ σ := ⟨rfl, fun _ _ => rfl⟩
theorem SetAt.one {is : List Nat} {σ : L2.St} {i : Nat} {x : Option V} (h : i ∈ is) : SetAt is σ (σ.set i x) :=
  ⟨by simp, fun j hj => List.getElem?_set_ne fun e => hj (by rw [← e]; exact h)⟩
theorem SetAt.trans {is js ks : List Nat} {σ τ υ : L2.St} (a : SetAt is σ τ) (b : SetAt js τ υ) (h1 : ∀ i ∈ is, i ∈ ks) (h2 : ∀ i ∈ js, i ∈ ks) : SetAt ks σ υ :=
  ⟨b.1.trans a.1, fun j hj => (b.2 j fun z => hj (h2 j z)).trans (a.2 j fun z => hj (h1 j z))⟩
theorem wipe_get : ∀ (vs : List Nat) (σ : L2.St) (j : Nat), (wipe σ vs)[j]? = if j ∈ vs ∧ j < σ.length then some none else σ[j]?
  | [], σ, j => by simp [wipe]
  | v :: vs, σ, j => by
    unfold wipe
    by_cases e : v = j
    · subst e
      by_cases hl : v < σ.length
      · rw [List.getElem?_set_self (by rw [wipe_length]; exact hl), if_pos ⟨by simp, hl⟩]
      · rw [List.getElem?_eq_none (by simp [wipe_length]; omega), if_neg (fun z => hl z.2), List.getElem?_eq_none (by omega)]
    · rw [List.getElem?_set_ne e, wipe_get vs σ j]
      simp [Ne.symm e]
theorem SetAt.wiped {is own : List Nat} {σ σ' : L2.St} (a : SetAt is σ σ') (h : ∀ i ∈ is, i ∈ own) : wipe σ' own = wipe σ own := by
  apply List.ext_getElem?
  intro j
  rw [wipe_get, wipe_get, a.1]
  by_cases e : j ∈ own
  · by_cases hl : j < σ.length
    · rw [if_pos ⟨e, hl⟩, if_pos ⟨e, hl⟩]
    · rw [if_neg (fun z => hl z.2), if_neg (fun z => hl z.2), List.getElem?_eq_none (by rw [a.1]; omega), List.getElem?_eq_none (by omega)]
  · rw [if_neg (fun z => e z.1), if_neg (fun z => e z.1)]
    exact a.2 j fun z => e (h j z)
section
variable {D : Wd} {P : Pg} {d : Nat} {G : Gt} {N : List Str} {sc : Scope} {W : WX} {X : Cx}
mutual
def tgT (K : Frag) : Tg → TG
  | .nm i => gName i
  | .tp gs => gTup K gs.length (tgTs K gs)
def tgTs (K : Frag) : List Tg → TGs
  | [] => gNil
  | g :: gs => gCons (tgT K g) (tgTs K gs)
end
/-- what a target does -/
structure GOk (D : Wd) (g : Tg) (t : TG) : Prop where
  go : ∀ {F : Hp} {μ : List Addr} {h : Hh} {H : Hp} {ρ ρ' : Ev} {σ : L2.St} {v : Vl} {u : V} {Q : L2.St → Hp → Prop}, CS D F μ h H → ER D F μ ρ σ → RV D F μ v u → bindT g v ρ = some ρ' → (∀ σ', ER D F μ ρ' σ' → SetAt (tgNs g) σ σ' → Q σ' H) → t u σ H Q
structure GsOk (D : Wd) (gs : List Tg) (t : TGs) : Prop where
  go : ∀ {F : Hp} {μ : List Addr} {h : Hh} {H : Hp} {ρ ρ' : Ev} {σ : L2.St} {vs : List Vl} {us : List V} {Q : L2.St → Hp → Prop}, CS D F μ h H → ER D F μ ρ σ → RVs D F μ vs us → bindTs gs vs ρ = some ρ' → (∀ σ', ER D F μ ρ' σ' → SetAt (tgNss gs) σ σ' → Q σ' H) → t us σ H Q
theorem tgt_plain {g : Tg} {e : Expr} (h : chkT N g sc e = true) (es : List Expr) (env : Env) : assignEach (e :: es) env = (false, assign e env) :: assignEach es env := by
  cases g <;> cases e <;> first | rfl | (simp [chkT] at h)
theorem tgts_plain : ∀ {gs : List Tg} {es : List Expr}, chkTs N gs sc es = true → ∀ env, (assignEach es env).length = gs.length ∧ (assignEach es env).findIdx? (·.1) = none
  | [], [], _, env => ⟨rfl, rfl⟩
  | [], _ :: _, h, _ => by simp [chkTs] at h
  | _ :: _, [], h, _ => by simp [chkTs] at h
  | g :: gs, e :: es, h, env => by
    simp only [chkTs, Bool.and_eq_true] at h
    obtain ⟨h1, h2⟩ := tgts_plain h.2 env
    rw [tgt_plain h.1]
    refine ⟨by simp [h1], ?_⟩
    rw [List.findIdx?_cons]
    simp [h2]
theorem bindTs_len : ∀ {gs : List Tg} {vs : List Vl} {ρ ρ' : Ev}, bindTs gs vs ρ = some ρ' → vs.length = gs.length
  | [], [], _, _, _ => rfl
  | [], _ :: _, _, _, h => by simp [bindTs] at h
  | _ :: _, [], _, _, h => by simp [bindTs] at h
  | g :: gs, v :: vs, ρ, ρ', h => by
    simp only [bindTs] at h
    split at h
    · simp [bindTs_len h]
    · cases h
mutual
theorem g_ok (k : XOk D P d G N sc W X) : ∀ (g : Tg) (e : Expr), chkT N g sc e = true → PG X e (tgT D.K g) ∧ GOk D g (tgT D.K g)
  | .nm i, e, h => by
    cases e <;> simp only [chkT, Bool.and_eq_true, decide_eq_true_eq, Bool.false_eq_true] at h
    rename_i x pos
    obtain ⟨hi, hl⟩ := h
    have hloc : sc.names.lookup x = some .local ∨ sc.names.lookup x = some .cell := by
      split at hl
      · exact .inl (by assumption)
      · exact .inr (by assumption)
      · cases hl
    obtain ⟨l1, l2⟩ := k.loc x hloc
    refine ⟨pg_name (by rw [k.hN]; exact k.nd) (by rw [k.hN]; exact hi) l1 l2, ⟨fun {F μ h H ρ ρ' σ v u Q} c er r hb q => ?_⟩⟩
    simp only [bindT, Option.some.injEq] at hb
    subst hb
    exact q _ (er.set i r) (.one (by simp [tgNs]))
  | .tp gs, e, h => by
    cases e <;> simp only [chkT, Bool.false_eq_true] at h
    rename_i es j pos
    obtain ⟨pg, ok⟩ := gs_ok k gs es h
    obtain ⟨p1, p2⟩ := tgts_plain h X.env
    refine ⟨by have z := pg_tup (pos := pos) (k := j) k.calm pg p1 p2; rw [k.hK] at z; exact z, ⟨fun {F μ h H ρ ρ' σ v u Q} c er r hb q => ?_⟩⟩
    simp only [bindT] at hb
    cases r with
    | tup hf rs =>
      exact ⟨_, _, rfl, .of (c.sub.tup hf), by rw [← rs.length]; exact bindTs_len hb, ok.go c er rs hb fun σ' er' sa => q σ' er' (by simpa [tgNs] using sa)⟩
    | _ => simp at hb
theorem gs_ok (k : XOk D P d G N sc W X) : ∀ (gs : List Tg) (es : List Expr), chkTs N gs sc es = true → PGs X es (tgTs D.K gs) ∧ GsOk D gs (tgTs D.K gs)
  | [], [], _ => ⟨pgs_nil, ⟨fun {F μ h H ρ ρ' σ vs us Q} c er r hb q => by
      cases vs with
      | nil =>
        simp only [bindTs, Option.some.injEq] at hb
        subst hb
        cases r
        exact ⟨rfl, q σ er (.refl _ _)⟩
      | cons v vs => simp [bindTs] at hb⟩⟩
  | [], _ :: _, h => by simp [chkTs] at h
  | _ :: _, [], h => by simp [chkTs] at h
  | g :: gs, e :: es, h => by
    simp only [chkTs, Bool.and_eq_true] at h
    obtain ⟨pg1, ok1⟩ := g_ok k g e h.1
    obtain ⟨pg2, ok2⟩ := gs_ok k gs es h.2
    refine ⟨pgs_cons pg1 pg2 (by rw [tgt_plain h.1]; rfl), ⟨fun {F μ h H ρ ρ' σ vs us Q} c er r hb q => ?_⟩⟩
    cases r with
    | nil => simp [bindTs] at hb
    | cons r1 r2 =>
      simp only [bindTs] at hb
      split at hb
      · rename_i ρ1 h1
        refine ⟨_, _, rfl, ok1.go c er r1 h1 fun σ1 er1 sa1 => ?_⟩
        exact ok2.go c er1 r2 hb fun σ2 er2 sa2 => q σ2 er2 (sa1.trans sa2 (fun i hi => by simp [tgNss, hi]) fun i hi => by simp [tgNss, hi])
      · cases hb
end
end
end IL
end

section
set_option autoImplicit false
set_option linter.all false
set_option Elab.async false
set_option maxRecDepth 100000
set_option maxHeartbeats 4000000
/-! IL: comprehensions. -/
namespace IL
open PySem L2 PyProof.Rows
section
variable {D : Wd} {P : Pg} {d : Nat} {G : Gt} {N : List Str} {sc : Scope} {W : WX} {X : Cx}
/-- an object that is none of ours changes -/
theorem CS.off {F : Hp} {μ : List Addr} {h : Hh} {H : Hp} (c : CS D F μ h H) {a : Addr} {o : HO} (hF : F a = none) (hm : a ∉ μ) : CS D F μ h (upd H a o) := by
  refine ⟨fun b u e => ?_, c.len, c.inj, fun l ob e => ?_⟩
  · rw [upd_ne fun z => by rw [z, hF] at e; cases e]; exact c.sub b u e
  · obtain ⟨b, u, e1, e2, e3, e4⟩ := c.ob l ob e
    have : b ≠ a := fun z => hm (z ▸ List.mem_of_getElem? e1)
    exact ⟨b, u, e1, e2, by rw [upd_ne this]; exact e3, e4⟩
theorem Xt.off {F : Hp} {μ : List Addr} {H : Hp} {F' : Hp} {μ' : List Addr} {H' : Hp} (x : Xt F μ H F' μ' H') {a : Addr} {o : HO} (ha : H a = none) : Xt F μ H F' μ' (upd H' a o) :=
  ⟨x.f, x.m, fun b u e n => by rw [upd_ne fun z => by rw [z, ha] at e; cases e]; exact x.keep b u e n, fun b e => by rw [upd_ne fun z => e (by rw [z]; exact ha)]; exact x.there b e, x.fnew, x.mnew⟩
/-- an object that is none of ours stays -/
theorem Xt.stay {F : Hp} {μ : List Addr} {H : Hp} {F' : Hp} {μ' : List Addr} {H' : Hp} {h' : Hh} (x : Xt F μ H F' μ' H') (c : CS D F' μ' h' H') {a : Addr} {xs : List V} (ha : H a = some (.lst xs)) (hF : F a = none) (hm : a ∉ μ) : H' a = some (.lst xs) ∧ F' a = none ∧ a ∉ μ' := by
  have h1 := x.keep a _ ha hm
  refine ⟨h1, ?_, fun z => ?_⟩
  · cases e : F' a with
    | none => rfl
    | some o =>
      rcases x.fnew a o e with q | q | ⟨ys, q⟩
      · rw [hF] at q; cases q
      · rw [ha] at q; cases q
      · subst q
        have := c.sub.tup e
        rw [h1] at this; cases this
  · rcases x.mnew a z with q | q
    · exact hm q
    · rw [ha] at q; cases q
theorem calm_ok {α : Type} {r : Rs α} {v : α} {h : Hh} (e : r.calm = .ok v h) : r = .ok v h := by
  cases r with
  | ok => exact e
  | exc => cases e
  | bad => cases e
theorem bind_ok {α β : Type} {r : Rs α} {f : α → Hh → Rs β} {v : β} {h : Hh} (e : r.bind f = .ok v h) : ∃ w h1, r = .ok w h1 ∧ f w h1 = .ok v h := by
  cases r with
  | ok w h1 => exact ⟨w, h1, rfl, e⟩
  | exc => cases e
  | bad => cases e
abbrev W0 : WX := fun _ _ _ _ => False
/-- the turn's reading: what is made goes behind the list at L -/
theorem lc_turn {ec : Ev → Hh → Rs (List Vl)} {ee : Ev → Hh → Rs Vl} {g : Tg} {own : List Nat} {tt : TT} (gok : GOk D g (tgT D.K g)) (hown : ∀ i ∈ tgNs g, i ∈ own)
    (htt : ∀ {F : Hp} {μ : List Addr} {ρ : Ev} {h : Hh} {σ : L2.St} {H : Hp} {bs : List Vl} {h' : Hh} {Q : Bool → Hp → Prop}, CS D F μ h H → ER D F μ ρ σ → ec ρ h = .ok bs h' →
      (∀ F' μ' H' b, Xt F μ H F' μ' H' → CS D F' μ' h' H' → (bs = [] ∧ b = true ∨ ∃ r, bs = .bl b :: r) → Q b H') → ((∀ b r, bs = b :: r → ∃ c, b = .bl c)) → tt σ H Q)
    {F : Hp} {μ : List Addr} {h : Hh} {H : Hp} {ρ : Ev} {σ : L2.St} {v : Vl} {x : V} {L : Addr} {acc : List V} {o : Option Vl} {h' : Hh} {Nx : Hp → Prop}
    (c : CS D F μ h H) (er : ER D F μ ρ σ) (r : RV D F μ v x) (hL : H L = some (.lst acc)) (hF : F L = none) (hm : L ∉ μ) (hacc : acc.length < sizeLine)
    (e : lcT (bindT g v (wipeE ρ own)) ec ee h = .ok o h')
    (nx : ∀ F' μ' H' ys zs, Xt F μ H F' μ' H' → CS D F' μ' h' H' → H' L = some (.lst acc) → F' L = none → L ∉ μ' → RVs D F' μ' ys zs → ys = o.toList → ∀ H'', (zs = [] → H'' = H') → (∀ z, zs = [z] → H'' = upd H' L (.lst (acc ++ [z]))) → Nx H'') :
    tgT D.K g x (wipe σ own) H fun σ2 H2 => wipe σ2 own = wipe σ own ∧ tt σ2 H2 fun b H3 => if b = true then tE D W0 ee σ2 H3 (fun y H4 => ∃ acc, H4 L = some (.lst acc) ∧ acc.length < sizeLine ∧ Nx (upd H4 L (.lst (acc ++ [y])))) else Nx H3 := by
  unfold lcT at e
  split at e
  · rename_i ρ1 hb
    refine gok.go c (er.wipe own) r hb fun σ2 er2 sa => ⟨?_, ?_⟩
    · have := sa.wiped hown
      rw [this]
      apply List.ext_getElem?
      intro j
      rw [wipe_get, wipe_get, wipe_length]
      split <;> simp_all
    · obtain ⟨bs, h1, e1, e2⟩ := bind_ok e
      have e1 := calm_ok e1
      have isb : ∀ b r, bs = b :: r → ∃ c, b = .bl c := fun b r hb => by
        subst hb
        dsimp only at e2
        split at e2
        · exact ⟨_, rfl⟩
        · exact ⟨_, rfl⟩
        · cases e2
      refine htt c er2 e1 (fun F' μ' H' b x1 c1 hbs => ?_) isb
      obtain ⟨l1, l2, l3⟩ := x1.stay c1 hL hF hm
      have yes : (ee ρ1 h1).calm.bind (fun y h3 => Rs.ok (some y) h3) = .ok o h' → tE D W0 ee σ2 H' (fun y H4 => ∃ acc, H4 L = some (.lst acc) ∧ acc.length < sizeLine ∧ Nx (upd H4 L (.lst (acc ++ [y])))) := fun e3 => by
        obtain ⟨y, h2, e4, e5⟩ := bind_ok e3
        have e4 := calm_ok e4
        cases e5
        refine ⟨F', μ', ρ1, h1, c1, er2.mono x1.f x1.m, ?_⟩
        rw [e4]
        intro F2 μ2 H2 u x2 c2 r2
        obtain ⟨m1, m2, m3⟩ := x2.stay c2 l1 l2 l3
        exact ⟨acc, m1, hacc, nx F2 μ2 H2 [y] [u] (x1.trans x2) c2 m1 m2 m3 (.cons r2 .nil) rfl _ (by simp) fun z hz => by cases hz; rfl⟩
      rcases hbs with ⟨rfl, rfl⟩ | ⟨r', rfl⟩
      · rw [if_pos rfl]
        exact yes e2
      · cases b with
        | true =>
          rw [if_pos rfl]
          exact yes e2
        | false =>
          rw [if_neg Bool.false_ne_true]
          cases e2
          exact nx F' μ' H' [] [] x1 c1 l1 l2 l3 .nil rfl _ (fun _ => rfl) (by simp)
  · cases e
theorem FSub.ext {F F' H : Hp} (x : FExt F F') (s : FSub F' H) : FSub F H := fun a o e => s a o (x a o e)
/-- the tests of a comprehension, as its reading wants them -/
def TtOk (D : Wd) (ec : Ev → Hh → Rs (List Vl)) (tt : TT) : Prop := ∀ {F : Hp} {μ : List Addr} {ρ : Ev} {h : Hh} {σ : L2.St} {H : Hp} {bs : List Vl} {h' : Hh} {Q : Bool → Hp → Prop}, CS D F μ h H → ER D F μ ρ σ → ec ρ h = .ok bs h' →
      (∀ F' μ' H' b, Xt F μ H F' μ' H' → CS D F' μ' h' H' → (bs = [] ∧ b = true ∨ ∃ r, bs = .bl b :: r) → Q b H') → ((∀ b r, bs = b :: r → ∃ c, b = .bl c)) → tt σ H Q
/-- what is made so far -/
structure Sofar (D : Wd) (F1 : Hp) (μ1 : List Addr) (H1 : Hp) (L : Addr) (i : Nat) (done : List Vl) (h2 : Hh) (H : Hp) : Prop where
  ex : ∃ F2 μ2 us, Xt F1 μ1 H1 F2 μ2 H ∧ CS D F2 μ2 h2 H ∧ H L = some (.lst us) ∧ F2 L = none ∧ L ∉ μ2 ∧ RVs D F2 μ2 done us ∧ us.length ≤ i
theorem sofar0 {F1 : Hp} {μ1 : List Addr} {h1 : Hh} {H1 : Hp} (c : CS D F1 μ1 h1 H1) {L : Addr} (hL : H1 L = none) : Sofar D F1 μ1 H1 L 0 [] h1 (upd H1 L (.lst [])) := by
  have f0 := c.sub.none hL
  have m0 : L ∉ μ1 := fun z => by
    obtain ⟨u, _, e⟩ := c.mem z
    rw [hL] at e; cases e
  exact ⟨F1, μ1, [], (Xt.refl _ _ _).off hL, c.off f0 m0, upd_same, f0, m0, .nil, Nat.le_refl _⟩
theorem sofar_end {F1 : Hp} {μ1 : List Addr} {H1 : Hp} {L : Addr} {i : Nat} {done : List Vl} {h2 : Hh} {H : Hp} (hL : H1 L = none) (w : Sofar D F1 μ1 H1 L i done h2 H) (m : Bool) {Q : VK} {E : XK} (p : PostV D F1 μ1 H1 (place m (.ok (.lst done) h2)) Q E) : Q (.ref L) H := by
  obtain ⟨F2, μ2, us, x, c, l1, l2, l3, rs, hi⟩ := w.ex
  cases m with
  | false =>
    have hx : FExt F2 (upd F2 L (.lst us)) := FExt.upd l2
    refine p (upd F2 L (.lst us)) μ2 H (.ref L) ⟨x.f.trans hx, x.m, x.keep, x.there, fun a o e => ?_, x.mnew⟩ ⟨fun a o e => ?_, c.len, c.inj, fun l ob e => ?_⟩ (.lst upd_same (rs.mono hx (.refl _)))
    · by_cases q : a = L
      · subst q; exact .inr (.inl hL)
      · rw [upd_ne q] at e; exact x.fnew a o e
    · by_cases q : a = L
      · subst q; rw [upd_same] at e; cases e; exact .inl l1
      · rw [upd_ne q] at e; exact c.sub a o e
    · obtain ⟨a, u, e1, e2, e3, e4⟩ := c.ob l ob e
      have q : a ≠ L := fun z => l3 (z ▸ List.mem_of_getElem? e1)
      exact ⟨a, u, e1, by rw [upd_ne q]; exact e2, e3, e4.mono hx (.refl _)⟩
  | true =>
    have p : PostV D F1 μ1 H1 (.ok (.ref h2.length) (h2 ++ [.lst done])) Q E := p
    have hm : MExt μ2 (μ2 ++ [L]) := ⟨[L], rfl⟩
    refine p F2 (μ2 ++ [L]) H (.ref L) ⟨x.f, x.m.trans hm, x.keep, x.there, x.fnew, fun a e => ?_⟩ ⟨c.sub, by simp [c.len], ?_, fun l ob e => ?_⟩ (.ref (by rw [c.len, List.getElem?_append_right (Nat.le_refl _)]; simp))
    · rcases List.mem_append.mp e with q | q
      · exact x.mnew a q
      · simp at q; subst q; exact .inr hL
    · rw [List.nodup_append]
      refine ⟨c.inj, by simp, fun a ha b hb => ?_⟩
      simp at hb
      subst hb
      exact fun z => l3 (z ▸ ha)
    · by_cases q : l < h2.length
      · rw [List.getElem?_append_left q] at e
        obtain ⟨a, u, e1, e2, e3, e4⟩ := c.ob l ob e
        exact ⟨a, u, hm.get e1, e2, e3, e4.mono (.refl _) hm⟩
      · have ql : l = h2.length := by
          have := (List.getElem?_eq_some_iff.mp e).1
          simp at this; omega
        subst ql
        rw [List.getElem?_append_right (Nat.le_refl _)] at e
        simp at e
        subst e
        exact ⟨L, .lst us, by rw [c.len, List.getElem?_append_right (Nat.le_refl _)]; simp, l2, l1, .lst (rs.mono (.refl _) hm)⟩
/-- one turn, from what is made so far -/
theorem sofar_turn {ec : Ev → Hh → Rs (List Vl)} {ee : Ev → Hh → Rs Vl} {g : Tg} {own : List Nat} {tt : TT} (gok : GOk D g (tgT D.K g)) (hown : ∀ i ∈ tgNs g, i ∈ own) (htt : TtOk D ec tt)
    {F1 : Hp} {μ1 : List Addr} {H1 : Hp} {ρ : Ev} {σ : L2.St} {L : Addr} (hL : H1 L = none) (er : ER D F1 μ1 ρ σ) {i : Nat} {done : List Vl} {h2 h3 : Hh} {v : Vl} {x : V} {o : Option Vl} {us : List V} {F3 : Hp} {μ2 : List Addr} {H' : Hp}
    (x1 : Xt F1 μ1 H1 F3 μ2 H') (c : CS D F3 μ2 h2 H') (r : RV D F3 μ2 v x) (l1 : H' L = some (.lst us)) (l2 : F3 L = none) (l3 : L ∉ μ2) (rs : RVs D F3 μ2 done us) (hi : us.length ≤ i) (hs : i < 100000)
    (e : lcT (bindT g v (wipeE ρ own)) ec ee h2 = .ok o h3) {Nx : Hp → Prop} (nx : ∀ H'', Sofar D F1 μ1 H1 L (i + 1) (done ++ o.toList) h3 H'' → Nx H'') :
    tgT D.K g x (wipe σ own) H' fun σ2 H2 => wipe σ2 own = wipe σ own ∧ tt σ2 H2 fun b H3 => if b = true then tE D W0 ee σ2 H3 (fun y H4 => ∃ acc, H4 L = some (.lst acc) ∧ acc.length < sizeLine ∧ Nx (upd H4 L (.lst (acc ++ [y])))) else Nx H3 := by
  refine lc_turn gok hown (fun c er e q b => htt c er e q b) c (er.mono x1.f x1.m) r l1 l2 l3 (Nat.lt_of_le_of_lt hi (Nat.lt_of_lt_of_le hs (by decide : 100000 ≤ sizeLine))) e fun F' μ' H2 ys zs x2 c2 m1 m2 m3 rz ey H3 z0 z1 => ?_
  subst ey
  have x12 := x1.trans x2
  cases o with
  | none =>
    cases rz
    rw [z0 rfl]
    exact nx _ ⟨F', μ', us, x12, c2, m1, m2, m3, by simpa using rs.mono x2.f x2.m, Nat.le_succ_of_le hi⟩
  | some y =>
    obtain ⟨z, rfl, rzz⟩ := RVs.one rz
    rw [z1 z rfl]
    exact nx _ ⟨F', μ', us ++ [z], x12.off hL, c2.off m2 m3, upd_same, m2, m3, (rs.mono x2.f x2.m).append (.cons rzz .nil), by simp; omega⟩
/-- over frozen items -/
theorem lc_fr {ec : Ev → Hh → Rs (List Vl)} {ee : Ev → Hh → Rs Vl} {g : Tg} {own : List Nat} {tt : TT} (gok : GOk D g (tgT D.K g)) (hown : ∀ i ∈ tgNs g, i ∈ own) (htt : TtOk D ec tt)
    {F1 : Hp} {μ1 : List Addr} {h1 : Hh} {H1 : Hp} {ρ : Ev} {σ : L2.St} (c : CS D F1 μ1 h1 H1) (er : ER D F1 μ1 ρ σ) {J : It} {xs : List Vl} (wk : Wk D J F1 μ1 xs) (hlen : xs.length ≤ 100000) {all : List Vl} {hE : Hh}
    (e : lcL (fun v h => lcT (bindT g v (wipeE ρ own)) ec ee h) xs h1 = .ok all hE) {m : Bool} {Q : VK} {E : XK} (p : PostV D F1 μ1 H1 (place m (.ok (.lst all) hE)) Q E) :
    ∀ L, H1 L = none → ∃ Wp : Nat → Nat → Hp → Prop, (∃ m, Wp 0 m (upd H1 L (.lst []))) ∧ ∀ i m H, Wp i m H →
      (J.stop i H ∧ Q (.ref L) H) ∨ (J.go i H ∧ ∃ Nx : Hp → Prop, (∀ H', Nx H' → ∃ m', m' < m ∧ Wp (i + 1) m' H') ∧ ∀ x H', J.yld i H x H' → tgT D.K g x (wipe σ own) H' fun σ2 H2 => wipe σ2 own = wipe σ own ∧ tt σ2 H2 fun b H3 =>
        if b = true then tE D W0 ee σ2 H3 (fun y H4 => ∃ acc, H4 L = some (.lst acc) ∧ acc.length < sizeLine ∧ Nx (upd H4 L (.lst (acc ++ [y])))) else Nx H3) := by
  intro L hL
  let turn : Vl → Hh → Rs (Option Vl) := fun v h => lcT (bindT g v (wipeE ρ own)) ec ee h
  refine ⟨fun i n H => n = xs.length - i ∧ i ≤ xs.length ∧ ∃ done rest h2, Sofar D F1 μ1 H1 L i done h2 H ∧ lcL turn (xs.drop i) h2 = .ok rest hE ∧ done ++ rest = all, ⟨xs.length, rfl, Nat.zero_le _, [], all, h1, sofar0 c hL, e, rfl⟩, ?_⟩
  rintro i n H ⟨rfl, hi, done, rest, h2, w, e2, ea⟩
  obtain ⟨F2, μ2, us, x2, c2, l1, l2, l3, rs, hus⟩ := id w.ex
  have s1 : FSub F1 H := FSub.ext x2.f c2.sub
  by_cases hlt : i < xs.length
  · refine .inr ⟨wk.goes i H hlt s1, fun H' => ∃ done rest h2, Sofar D F1 μ1 H1 L (i + 1) done h2 H' ∧ lcL turn (xs.drop (i + 1)) h2 = .ok rest hE ∧ done ++ rest = all, fun H' z => ⟨xs.length - (i + 1), by omega, rfl, hlt, z⟩, fun x H' hy => ?_⟩
    rw [List.drop_eq_getElem_cons hlt] at e2
    obtain ⟨o, h3, f1, f2⟩ := bind_ok e2
    obtain ⟨r, h4, f3, f4⟩ := bind_ok f2
    obtain ⟨F3, c3, x3, rv⟩ := wk.yields i H x H' xs[i] (List.getElem?_eq_getElem hlt) s1 hy F2 μ2 h2 x2.f x2.m c2
    obtain ⟨n1, n2, n3⟩ := x3.stay c3 l1 l2 l3
    refine sofar_turn gok hown htt hL er (x2.trans x3) c3 rv n1 n2 n3 (rs.mono x3.f x3.m) hus (by omega) f1 fun H'' s => ?_
    refine ⟨_, r, h3, s, ?_⟩
    cases o with
    | none =>
      cases f4
      exact ⟨f3, by simpa using ea⟩
    | some y =>
      cases f4
      exact ⟨f3, by simpa using ea⟩
  · have ei : i = xs.length := by omega
    subst ei
    refine .inl ⟨wk.stops H s1, ?_⟩
    rw [List.drop_length] at e2
    have e2 : (Rs.ok [] h2 : Rs (List Vl)) = .ok rest hE := e2
    cases e2
    rw [List.append_nil] at ea
    subst ea
    exact sofar_end hL w m p
/-- over a list of the local heap -/
theorem lc_ce {ec : Ev → Hh → Rs (List Vl)} {ee : Ev → Hh → Rs Vl} {g : Tg} {own : List Nat} {tt : TT} (gok : GOk D g (tgT D.K g)) (hown : ∀ i ∈ tgNs g, i ∈ own) (htt : TtOk D ec tt)
    {F1 : Hp} {μ1 : List Addr} {h1 : Hh} {H1 : Hp} {ρ : Ev} {σ : L2.St} (c : CS D F1 μ1 h1 H1) (er : ER D F1 μ1 ρ σ) {l n0 : Nat} {a : Addr} (hl : μ1[l]? = some a) (hlen : n0 ≤ 100000) {all : List Vl} {hE : Hh}
    (e : lcC (fun v h => lcT (bindT g v (wipeE ρ own)) ec ee h) l n0 0 h1 = .ok all hE) {m : Bool} {Q : VK} {E : XK} (p : PostV D F1 μ1 H1 (place m (.ok (.lst all) hE)) Q E) :
    ∀ L, H1 L = none → ∃ Wp : Nat → Nat → Hp → Prop, (∃ m, Wp 0 m (upd H1 L (.lst []))) ∧ ∀ i m H, Wp i m H →
      ((Itl D.K a).stop i H ∧ Q (.ref L) H) ∨ ((Itl D.K a).go i H ∧ ∃ Nx : Hp → Prop, (∀ H', Nx H' → ∃ m', m' < m ∧ Wp (i + 1) m' H') ∧ ∀ x H', (Itl D.K a).yld i H x H' → tgT D.K g x (wipe σ own) H' fun σ2 H2 => wipe σ2 own = wipe σ own ∧ tt σ2 H2 fun b H3 =>
        if b = true then tE D W0 ee σ2 H3 (fun y H4 => ∃ acc, H4 L = some (.lst acc) ∧ acc.length < sizeLine ∧ Nx (upd H4 L (.lst (acc ++ [y])))) else Nx H3) := by
  intro L hL
  let turn : Vl → Hh → Rs (Option Vl) := fun v h => lcT (bindT g v (wipeE ρ own)) ec ee h
  refine ⟨fun i n H => n + i = n0 ∧ ∃ done rest h2, Sofar D F1 μ1 H1 L i done h2 H ∧ lcC turn l n i h2 = .ok rest hE ∧ done ++ rest = all, ⟨n0, rfl, [], all, h1, sofar0 c hL, e, rfl⟩, ?_⟩
  rintro i n H ⟨hn, done, rest, h2, w, e2, ea⟩
  obtain ⟨F2, μ2, us, x2, c2, l1, l2, l3, rs, hus⟩ := id w.ex
  have hl2 := x2.m.get hl
  -- the list as it stands
  have cell : ∀ ys, h2[l]? = some (.lst ys) → ∃ zs, SqL D.K H a zs ∧ RVs D F2 μ2 ys zs := fun ys hy => by
    obtain ⟨b, u, e1, e3, e4, e5⟩ := c2.ob l _ hy
    rw [hl2] at e1
    cases e1
    cases e5 with
    | lst q => exact ⟨_, .of e4, q⟩
  have fin : ∀ ys, h2[l]? = some (.lst ys) → ys.length ≤ i → rest = [] → hE = h2 → (Itl D.K a).stop i H ∧ Q (.ref L) H := fun ys hy hle e3 e4 => by
    obtain ⟨zs, sq, q⟩ := cell ys hy
    subst e3 e4
    rw [List.append_nil] at ea
    subst ea
    exact ⟨⟨zs, sq, by rw [← q.length]; exact hle⟩, sofar_end hL w m p⟩
  cases n with
  | zero =>
    simp only [lcC] at e2
    split at e2
    · rename_i ys hy
      split at e2
      · rename_i hle
        cases e2
        exact .inl (fin ys hy hle rfl rfl)
      · cases e2
    · cases e2
  | succ n =>
    simp only [lcC] at e2
    split at e2
    · rename_i ys hy
      split at e2
      · rename_i v hv
        obtain ⟨zs, sq, q⟩ := cell ys hy
        obtain ⟨z, hz, rz⟩ := q.get hv
        refine .inr ⟨⟨zs, z, sq, hz⟩, fun H' => ∃ done rest h2, Sofar D F1 μ1 H1 L (i + 1) done h2 H' ∧ lcC turn l n (i + 1) h2 = .ok rest hE ∧ done ++ rest = all, fun H' q => ⟨n, by omega, by omega, q⟩, fun x H' hyl => ?_⟩
        obtain ⟨rfl, hx⟩ := hyl
        have := hx zs sq
        rw [hz] at this
        cases this
        obtain ⟨o, h3, f1, f2⟩ := bind_ok e2
        obtain ⟨r, h4, f3, f4⟩ := bind_ok f2
        refine sofar_turn gok hown htt hL er x2 c2 rz l1 l2 l3 rs hus (by omega) f1 fun H'' s => ?_
        refine ⟨_, r, h3, s, ?_⟩
        cases o with
        | none =>
          cases f4
          exact ⟨f3, by simpa using ea⟩
        | some y =>
          cases f4
          exact ⟨f3, by simpa using ea⟩
      · rename_i hv
        cases e2
        exact .inl (fin ys hy (List.getElem?_eq_none_iff.mp hv) rfl rfl)
    · cases e2
end
end IL
end

section
set_option autoImplicit false
set_option linter.all false
set_option Elab.async false
set_option maxRecDepth 100000
set_option maxHeartbeats 4000000
/-! IL: comprehensions, put together. -/
namespace IL
open PySem L2 PyProof.Rows
section
variable {D : Wd} {P : Pg} {d : Nat} {G : Gt} {N : List Str} {sc : Scope} {W : WX} {X : Cx}
theorem Post.from {α β : Type} {R : Hp → List Addr → α → β → Prop} {F : Hp} {μ : List Addr} {H : Hp} {F1 : Hp} {μ1 : List Addr} {H1 : Hp} {r : Rs α} {Q : β → Hp → Prop} {E : XK} (x : Xt F μ H F1 μ1 H1) (p : Post D R F μ H r Q E) : Post D R F1 μ1 H1 r Q E := by
  cases r with
  | bad => exact p
  | exc C h => exact fun F2 μ2 H2 A x2 c2 k => p F2 μ2 H2 A (x.trans x2) c2 k
  | ok v h => exact fun F2 μ2 H2 u x2 c2 r => p F2 μ2 H2 u (x.trans x2) c2 r
theorem lcT_no {ρ : Option Ev} {ec : Ev → Hh → Rs (List Vl)} {ee : Ev → Hh → Rs Vl} {h : Hh} (C : Nat) (h' : Hh) : lcT ρ ec ee h ≠ .exc C h' := by
  have a : ∀ (ρ1 : Ev) (h2 : Hh), ((ee ρ1 h2).calm.bind fun y h3 => Rs.ok (some y) h3) ≠ .exc C h' := fun ρ1 h2 => by
    cases ee ρ1 h2 <;> simp [Rs.calm, Rs.bind]
  unfold lcT
  split
  · rename_i ρ1
    cases ec ρ1 h with
    | bad => simp [Rs.calm, Rs.bind]
    | exc => simp [Rs.calm, Rs.bind]
    | ok bs h2 =>
      simp only [Rs.calm, Rs.bind]
      split
      · exact a ρ1 h2
      · split
        · exact a ρ1 h2
        · simp
        · simp
  · simp
theorem lcL_no {turn : Vl → Hh → Rs (Option Vl)} (ht : ∀ v h C h', turn v h ≠ .exc C h') : ∀ (xs : List Vl) (h : Hh) (C : Nat) (h' : Hh), lcL turn xs h ≠ .exc C h'
  | [], h, C, h' => by simp [lcL]
  | x :: xs, h, C, h' => by
    simp only [lcL]
    cases e : turn x h with
    | bad => simp [Rs.bind]
    | exc C2 h2 => exact absurd e (ht _ _ _ _)
    | ok o h1 =>
      simp only [Rs.bind]
      cases e2 : lcL turn xs h1 with
      | bad => simp
      | exc C2 h2 => exact absurd e2 (lcL_no ht xs _ _ _)
      | ok r h2 => cases o <;> simp
theorem lcC_no {turn : Vl → Hh → Rs (Option Vl)} {l : Nat} (ht : ∀ v h C h', turn v h ≠ .exc C h') : ∀ (n i : Nat) (h : Hh) (C : Nat) (h' : Hh), lcC turn l n i h ≠ .exc C h'
  | 0, i, h, C, h' => by
    simp only [lcC]
    split
    · split <;> simp
    · simp
  | n + 1, i, h, C, h' => by
    simp only [lcC]
    split
    · split
      · rename_i v _
        cases e : turn v h with
        | bad => simp [Rs.bind]
        | exc C2 h2 => exact absurd e (ht _ _ _ _)
        | ok o h1 =>
          simp only [Rs.bind]
          cases e2 : lcC turn l n (i + 1) h1 with
          | bad => simp
          | exc C2 h2 => exact absurd e2 (lcC_no ht n _ _ _ _)
          | ok r h2 => cases o <;> simp
      · simp
    · simp
/-- a comprehension's value -/
abbrev lcEv (m : Bool) (own : List Nat) (g : Tg) (k : Ik) (el ec : Ev → Hh → Rs (List Vl)) (ee : Ev → Hh → Rs Vl) : Ev → Hh → Rs Vl := fun ρ h => (el ρ h).bind fun vs h1 =>
  let turn : Vl → Hh → Rs (Option Vl) := fun v h => lcT (bindT g v (wipeE ρ own)) ec ee h
  match walked k vs h1 with
  | .fr xs => if xs.length ≤ 100000 then (lcL turn xs h1).bind fun r h2 => place m (.ok (.lst r) h2) else .bad
  | .cell l n => if n ≤ 100000 then (lcC turn l n 0 h1).bind fun r h2 => place m (.ok (.lst r) h2) else .bad
  | .bad => .bad
theorem lc_reads {m : Bool} {own : List Nat} {g : Tg} {k : Ik} {el ec : Ev → Hh → Rs (List Vl)} {ee : Ev → Hh → Rs Vl} {tt : TT} (gok : GOk D g (tgT D.K g)) (hown : ∀ i ∈ tgNs g, i ∈ own) (htt : TtOk D ec tt) :
    ∀ σ H Q, tE D W (lcEv m own g k el ec ee) σ H Q → tLc (tW D W k el) (tgT D.K g) tt (tE D W0 ee) own σ H Q := by
  intro σ H Q q
  obtain ⟨F, μ, ρ, h, c, er, p⟩ := q
  refine ⟨F, μ, ρ, h, c, er, ?_⟩
  unfold lcEv at p
  cases e : el ρ h with
  | bad => rw [e] at p; exact p
  | exc C h1 => rw [e] at p; exact p
  | ok vs h1 =>
    rw [e] at p
    intro F1 μ1 H1 us x c1 rs
    refine ⟨F1, μ1, h1, vs, x, c1, rs, rfl, ?_⟩
    have p := Post.from x p
    unfold WR
    have no := fun v h C h' => @lcT_no (bindT g v (wipeE ρ own)) ec ee h C h'
    simp only [Rs.bind] at p
    split at p
    · rename_i xs ew
      split at p
      · rename_i hlen
        try rw [ew]
        intro J wk
        cases el2 : lcL (fun v h => lcT (bindT g v (wipeE ρ own)) ec ee h) xs h1 with
        | bad => rw [el2] at p; exact p.elim
        | exc C h2 => exact absurd el2 (lcL_no no xs h1 C h2)
        | ok all hE =>
          rw [el2] at p
          exact lc_fr gok hown htt c1 (er.mono x.f x.m) wk hlen el2 p
      · exact p.elim
    · rename_i l n ew
      split at p
      · rename_i hlen
        try rw [ew]
        intro a ha
        cases el2 : lcC (fun v h => lcT (bindT g v (wipeE ρ own)) ec ee h) l n 0 h1 with
        | bad => rw [el2] at p; exact p.elim
        | exc C h2 => exact absurd el2 (lcC_no no n 0 h1 C h2)
        | ok all hE =>
          rw [el2] at p
          exact lc_ce gok hown htt c1 (er.mono x.f x.m) ha hlen el2 p
      · exact p.elim
    · exact p.elim
theorem tt_nil : TtOk D (fun _ h => .ok [] h) tYes := fun c er e q _ => by
  cases e
  exact q _ _ _ true (.refl _ _ _) c (.inl ⟨rfl, rfl⟩)
theorem tt_one {ea : Ev → Hh → Rs Vl} : TtOk D (one ea) (tT D W0 ea) := fun {F μ ρ h σ H bs h' Q} c er e q isb => by
  refine ⟨F, μ, ρ, h, c, er, ?_⟩
  rw [one_eq] at e
  obtain ⟨v, h1, e1, e2⟩ := bind_ok e
  cases e2
  obtain ⟨b, rfl⟩ := isb v [] rfl
  rw [e1]
  intro F' μ' H' u x c' eb
  cases eb
  exact q F' μ' H' b x c' (.inr ⟨[], rfl⟩)
theorem own_map (N : List Str) (own : List Nat) : (ownP N own).map (·.2) = own := by
  unfold ownP
  rw [List.map_map]
  simp [Function.comp_def]
theorem blk_ok (k : XOk D P d G N sc W X) {scope : Scope} {own : List (Str × Nat)} (h : blkC N sc scope own = true) : BlkOk X.N X.env.scope scope own := by
  have b := blkOk_by h
  rw [k.hN]
  exact ⟨b.kind, b.uniq, b.ix, fun y hy e => (b.free y hy e).elim (fun z => k.free _ _ z (.inl rfl)) fun z => k.free _ _ z (.inr rfl), b.own⟩
/-- the parts of a comprehension -/
structure LOk (D : Wd) (P : Pg) (d : Nat) (G : Gt) (N : List Str) (W : WX) (X : Cx) (g : Tg) (own : List Nat) (k : Ik) (el ec : Ev → Hh → Rs (List Vl)) (ee : Ev → Hh → Rs Vl) (tg iter : Expr) (ifs : List Expr) (elt : Expr) (scope : Scope) (tt : TT) : Prop where
  pi : PI X tg iter (tW D W k el)
  blk : BlkOk X.N X.env.scope scope (ownP N own)
  tgt : chkT N g scope tg = true
  hown : ∀ i ∈ tgNs g, i ∈ own
  htt : TtOk D ec tt
  pt : ∀ X', XOk D P d G N scope W0 X' → PTs X' ifs tt
  pe : ∀ X', XOk D P d G N scope W0 X' → PE X' elt (tE D W0 ee)
  hs : ∀ x, foldedSetIterable iter X.env x = pure x
variable {m : Bool} {own : List Nat} {g : Tg} {kk : Ik} {el ec : Ev → Hh → Rs (List Vl)} {ee : Ev → Hh → Rs Vl} {tt : TT} {tg iter elt : Expr} {ifs : List Expr} {scope : Scope} {pos spos py : Pos}
theorem e_lc (k : XOk D P d G N sc W X) (o : LOk D P d G N W X g own kk el ec ee tg iter ifs elt scope tt) : PE X (.ListComp elt [⟨tg, iter, ifs, 0⟩] scope pos) (tE D W (lcEv m own g kk el ec ee)) := by
  have bk : ∀ s H C cl fp, XOk D P d G N scope W0 (X.blk s H scope (compEnvC scope cl C X.env) fp) := fun s H C cl fp => k.blk s H scope o.blk.kind C cl fp
  have z := pe_lc (pos := pos) k.calm (by rw [k.hN]; exact k.nd) o.pi o.blk (fun s H C cl fp => (g_ok (bk s H C cl fp) g tg o.tgt).1) (fun s H C cl fp => o.pt _ (bk s H C cl fp)) (fun s H C cl fp => o.pe _ (bk s H C cl fp)) o.hs
  rw [own_map] at z
  exact z.imp (lc_reads (g_ok (bk X.s_0 X.H_0 0 [] []) g tg o.tgt).2 o.hown o.htt)
end
end IL
end

section
set_option autoImplicit false
set_option linter.all false
set_option Elab.async false
set_option maxRecDepth 100000
set_option maxHeartbeats 8000000
/-! IL: sets of tuples of whole numbers and None. -/
namespace IL
theorem lt_len {α : Type} {xs : List α} {i : Nat} {x : α} (h : xs[i]? = some x) : i < xs.length := (List.getElem?_eq_some_iff.mp h).1
namespace SX
open PySem PySem.Spec PyProof.Rows L2
abbrev Ky := Option (List Int)
/-- the value v stands for the key -/
def Is (P : Program) (w : World) (h : Heap) : Ky → Value → Prop
  | none, v => v = .none
  | some k, v => ∃ b, v = .ref b ∧ IsT P w h k b
def hsh (P : Program) (w : World) : Ky → Int
  | none => reduceHash 0xFCA86420
  | some k => thash P w k
section
variable {P : Program} {w : World} {A : Around} {E : Value → Shared → Prop} {s : Shared}
theorem Is.keep {h h' : Heap} {k : Ky} {v : Value} (x : Is P w h k v) (g : ∀ c o, h.get? c = some o → h'.get? c = some o) : Is P w h' k v := by
  cases k with
  | none => exact x
  | some k => obtain ⟨b, e, t⟩ := x; exact ⟨b, e, isT_keep t g⟩
/-- the set's own object is none of its items -/
theorem Is.same {h h' : Heap} {k : Ky} {v : Value} {a : Addr} {o : Obj} {es : Array (Int × Value)} {n : Nat} {t : SetTable} (x : Is P w h k v) (ho : h.get? a = some o) (hd : o.data = .set es n t) (sb : Heap.SameBut a h h') : Is P w h' k v := by
  cases k with
  | none => exact x
  | some k => obtain ⟨b, e, t⟩ := x; exact ⟨b, e, isT_same t ho hd sb⟩
theorem tup_is {h : Heap} {k : List Int} {b : Addr} (t : IsT P w h k b) : ∃ its, h.IsTuple b its := by
  obtain ⟨o, its, n, ho, hc, hd, _⟩ := t
  exact ⟨its, o, ho, hc, n, hd⟩
theorem eq_is {x y : Ky} {u v : Value} {Q : Bool → Shared → Prop} (hu : A.units < cLine) (hx : Is P w s.heap x u) (hy : Is P w s.heap y v) (q : Q (decide (x = y)) s) : wpAny (model P w) A (eqBool u v) Q E s := by
  cases x with
  | none =>
    have e : u = .none := hx
    subst e
    cases y with
    | none =>
      have e : v = .none := hy
      subst e
      exact SeqAt.EqAt.same _ _ _ _ _ q
    | some l =>
      obtain ⟨b, rfl, t⟩ := hy
      obtain ⟨its, hb⟩ := tup_is t
      exact SeqAt.EqAt.none_tuple hb hu _ _ _ _ q
  | some k =>
    obtain ⟨a, rfl, t⟩ := hx
    cases y with
    | none =>
      have e : v = .none := hy
      subst e
      obtain ⟨its, hb⟩ := tup_is t
      exact SeqAt.EqAt.tuple_none hb hu _ _ _ _ q
    | some l =>
      obtain ⟨b, rfl, t'⟩ := hy
      have e : (decide ((some k : Ky) = some l)) = decide (k = l) := by
        by_cases c : k = l <;> simp [c]
      rw [e] at q
      exact wpAny_eqBool_tuple hu t t' q
theorem by_is {k : Ky} {v : Value} {Q : Bool → Shared → Prop} (x : Is P w s.heap k v) (q : Q true s) : wpAny (model P w) A (hashByValue 8 v) Q E s := by
  cases k with
  | none =>
    have e : v = .none := x
    subst e
    exact wpAny_pure q
  | some k =>
    obtain ⟨b, rfl, t⟩ := x
    exact hashBy_tup t q
theorem same_is {k : Ky} {v : Value} {Q : Bool → Shared → Prop} (x : Is P w s.heap k v) (q : Q true s) : wpAny (model P w) A (isSame v v) Q E s := by
  cases k with
  | none =>
    have e : v = .none := x
    subst e
    exact wpAny_isSame_plain rfl q
  | some k =>
    obtain ⟨b, rfl, t⟩ := x
    exact wpAny_isSame_ref_self q
theorem hash_is {k : Ky} {v : Value} {Q : Int → Shared → Prop} (hu : A.units < cLine) (x : Is P w s.heap k v) (q : ∀ n, Q (hsh P w k) { s with toks := s.toks + n }) : wpAny (model P w) A (pyHash v) Q E s := by
  cases k with
  | none =>
    have e : v = .none := x
    subst e
    exact (noneKind P w).pyHash (k := none) rfl (q 1)
  | some k =>
    obtain ⟨b, rfl, t⟩ := x
    exact wpAny_pyHash_tuple hu t (q _)
theorem quiet_is {k : Ky} {v : Value} {Q : Bool → Shared → Prop} (x : Is P w s.heap k v) (q : Q true s) : wpAny (model P w) A (eqIsQuiet 8 v) Q E s := by
  cases k with
  | none =>
    have e : v = .none := x
    subst e
    exact wpAny_pure q
  | some k =>
    obtain ⟨b, rfl, t⟩ := x
    exact wpAny_eqIsQuiet_tuple t q
theorem cls_is {k : Ky} {v : Value} {Q : Bool → Shared → Prop} (x : Is P w s.heap k v) (q : Q false s) : wpAny (model P w) A (ofAClassStatement 8 v) Q E s := by
  cases k with
  | none =>
    have e : v = .none := x
    subst e
    exact wpAny_pure q
  | some k =>
    obtain ⟨b, rfl, t⟩ := x
    exact ofAClass_tup t q
theorem seen_is {k : Ky} {v : Value} {Q : Bool → Shared → Prop} (x : Is P w s.heap k v) {ys : List Value} (hy : ∀ y ∈ ys, ∃ l, Is P w s.heap l y) (q : Q false s) : wpAny (model P w) A (searchCouldBeSeen v ys) Q E s := by
  unfold searchCouldBeSeen
  refine wpAny_bind ?_
  refine wpAny_forIn_list _ (fun left r s' => r.1 = none ∧ s' = s ∧ ∀ y ∈ left, ∃ l, Is P w s.heap l y) _ ?_ ?_ _ _ ⟨rfl, rfl, hy⟩
  · rintro y left r s' ⟨hr, rfl, all⟩
    obtain ⟨l, hl⟩ := all y List.mem_cons_self
    have more : ∀ y ∈ left, ∃ l, Is P w s'.heap l y := fun z hz => all z (List.mem_cons_of_mem _ hz)
    dsimp only
    refine wpAny_ite_split (fun _ => wpAny_pure ⟨rfl, rfl, more⟩) fun _ => ?_
    refine wpAny_bind (quiet_is x ?_)
    simp only [Bool.not_true, Bool.false_eq_true, if_false]
    refine wpAny_bind (quiet_is hl ?_)
    simp only [Bool.not_true, Bool.false_eq_true, if_false]
    refine wpAny_bind (cls_is x ?_)
    simp only [Bool.false_eq_true, if_false]
    refine wpAny_bind (cls_is hl ?_)
    simp only [Bool.false_eq_true, if_false]
    exact wpAny_pure ⟨rfl, rfl, more⟩
  · rintro ⟨r1, r2⟩ s' ⟨hr, rfl, _⟩
    simp only at hr
    subst hr
    exact wpAny_pure q
end
end SX
end IL
end

section
set_option autoImplicit false
set_option linter.all false
set_option Elab.async false
set_option maxRecDepth 100000
set_option maxHeartbeats 8000000
/-! IL: such a set's table; the search in it. -/
namespace IL
namespace SX
open PySem PySem.Spec PyProof.Rows L2
/-- an item: a value and its key -/
abbrev It2 := Value × Ky
def ent (P : Program) (w : World) (p : It2) : Int × Value := (hsh P w p.2, p.1)
structure SR (P : Program) (w : World) (h : Heap) (a : Addr) (L : List It2) (es : Array (Int × Value)) (n : Nat) (t : SetTable) : Prop where
  ob : ∃ o, h.get? a = some o ∧ o.ExactSet ∧ o.data = .set es n t
  rows : es.toList = L.map (ent P w)
  tab : TabOk t (L.map fun p => hsh P w p.2)
  nd : (L.map (·.2)).Nodup
  is : ∀ p ∈ L, Is P w h p.2 p.1
  plain : t.plain = true
  led : w.params.followText "set-order" = true ∨ t.led = true
  room : L.length * 5 < t.mask * 3
  few : L.length < 64
section
variable {P : Program} {w : World} {A : Around} {E : Value → Shared → Prop} {s : Shared} {a : Addr} {L : List It2} {es : Array (Int × Value)} {n : Nat} {t : SetTable}
theorem size_rows {L : List It2} {es : Array (Int × Value)} (r : es.toList = L.map (ent P w)) : es.size = L.length := by
  have := congrArg List.length r
  simpa using this
theorem SR.size (R : SR P w s.heap a L es n t) : es.size = L.length := size_rows R.rows
theorem SR.psz (R : SR P w s.heap a L es n t) : t.place.size = L.length := by
  have := R.tab.sz
  rwa [List.length_map] at this
theorem SR.fits (R : SR P w s.heap a L es n t) : t.fits es.size = true := by
  have h1 := R.psz
  have h2 := R.size
  have h3 := R.room
  unfold SetTable.fits SetTable.fill
  rw [R.tab.dm]
  simp only [Bool.and_eq_true, beq_iff_eq, decide_eq_true_eq]
  refine ⟨by omega, ?_⟩
  show t.place.size + 0 ≤ t.mask
  omega
theorem SR.at_ (R : SR P w s.heap a L es n t) {i : Nat} {p : It2} (h : L[i]? = some p) : es[i]? = some (ent P w p) := by
  rw [← Array.getElem?_toList, R.rows, List.getElem?_map, h]
  rfl
theorem SR.keeps {h h' : Heap} (R : SR P w h a L es n t) (ha : ∀ o, h.get? a = some o → h'.get? a = some o) (g : ∀ p ∈ L, Is P w h' p.2 p.1) : SR P w h' a L es n t := by
  obtain ⟨o, ho, r⟩ := R.ob
  exact { R with ob := ⟨o, ha o ho, r⟩, is := g }
/-- the way of a hash -/
abbrev wy (t : SetTable) (h : Int) (c : Nat) : SetTable.Probe := nth t.mask (runAt t.mask (SetTable.bits h % (t.mask + 1)) (SetTable.bits h)) c
theorem nodummy (m : Nat) : ∀ (c : Nat) (p : SetTable.Probe), p.dummy = none → (nth m p c).dummy = none
  | 0, p, h => h
  | c + 1, p, h => nodummy m c (adv m p) (by unfold adv; split <;> exact h)
/-- from the c-th place of the way on -/
theorem srch (R : SR P w s.heap a L es n t) {v : Value} {k : Ky} (x : Is P w s.heap k v) (hu : A.units < cLine) {K : Nat} (lim : K < 10 * SetTable.turns t.mask)
    (off : way t.mask (hsh P w k) K ∉ t.place.toList) (on : ∀ c, c < K → way t.mask (hsh P w k) c ∈ t.place.toList) {Q : SetFound → Shared → Prop}
    (yes : k ∈ L.map (·.2) → Q (.there none) s) (no : k ∉ L.map (·.2) → Q (.free (way t.mask (hsh P w k) K) false) s) :
    ∀ (f c : Nat) (from_ : Option SetTable.Probe), from_.getD (t.probeStart (hsh P w k)) = wy t (hsh P w k) c → c ≤ K → K - c < f →
      (∀ (i : Nat) p, L[i]? = some p → p.2 = k → ∃ c', c ≤ c' ∧ c' < K ∧ t.place.toList[i]? = some (way t.mask (hsh P w k) c')) →
      wpAny (model P w) A (setSearchFrom a v (hsh P w k) true f from_) Q E s := by
  intro f
  induction f with
  | zero => intro c from_ _ _ hf _; exact absurd hf (Nat.not_lt_zero _)
  | succ f ih =>
    intro c from_ start hc hf hre
    obtain ⟨o, ho, hex, hd⟩ := R.ob
    rw [setSearchFrom_succ]
    refine wpAny_bind (wpAny_setState_of ho hd R.fits ?_)
    have gw : t.gaveWay = false := by
      unfold SetTable.gaveWay
      rw [mask_odd R.tab.mok]
      rfl
    simp only [gw, Bool.false_eq_true, if_false]
    try refine wpAny_bind (wpAny_pure ?_)
    have shift : ∀ q, nth t.mask (wy t (hsh P w k) c) q = wy t (hsh P w k) (c + q) := fun q => (nth_add t.mask c _ q).symm
    have jay : ∀ q, (nth t.mask (wy t (hsh P w k) c) q).j = way t.mask (hsh P w k) (c + q) := fun q => congrArg SetTable.Probe.j (shift q)
    have at_ : ∀ (i : Nat) p, L[i]? = some p → (es[i]?.map (·.1)).getD 0 = hsh P w p.2 := fun i p hp => by rw [R.at_ hp]; rfl
    rw [start]
    rcases go_spec t R.tab.ris R.tab.dm (fun i => (es[i]?.map (·.1)).getD 0) (hsh P w k) (10 * SetTable.turns t.mask) (K - c) (wy t (hsh P w k) c) (nodummy _ _ _ rfl) (by omega)
      (fun q hq => by rw [jay]; exact on (c + q) (by omega)) (by rw [jay, show c + (K - c) = K by omega]; exact off) with ⟨q, i, hq, hi, hh, hno, met⟩ | ⟨hno, met⟩
    · have met' : t.probe (fun i => (es[i]?.map (·.1)).getD 0) (hsh P w k) (wy t (hsh P w k) c) = some (.candidate (way t.mask (hsh P w k) (c + q)) i (wy t (hsh P w k) (c + (q + 1)))) := by
        rw [← jay, ← shift]; exact met
      rw [met']
      dsimp only
      rw [jay] at hi
      have il : i < L.length := by
        have h1 := lt_len hi
        rw [Array.length_toList, R.psz] at h1
        exact h1
      obtain ⟨p, hp⟩ : ∃ p, L[i]? = some p := ⟨L[i], List.getElem?_eq_getElem il⟩
      have pm : p ∈ L := List.mem_of_getElem? hp
      have rest : wpAny (model P w) A (searchRest a v (hsh P w k) true f es t (way t.mask (hsh P w k) (c + q)) i (wy t (hsh P w k) (c + (q + 1)))) Q E s := by
        unfold searchRest
        rw [R.at_ hp]
        dsimp only [ent]
        refine wpAny_bind (wpAny_holding (eq_is hu (R.is p pm) x ?_))
        refine wpAny_bind (wpAny_setState_of ho hd R.fits ?_)
        by_cases same : p.2 = k
        · simp only [same, decide_true, Bool.true_and, if_true]
          exact wpAny_pure (yes (List.mem_map.mpr ⟨p, pm, same⟩))
        · simp only [same, decide_false, Bool.and_false, Bool.false_eq_true, if_false]
          try refine wpAny_bind (wpAny_pure ?_)
          rw [sameMem]
          have live : t.slot (way t.mask (hsh P w k) (c + q)) = .live i := slot_live R.tab.ris hi
          simp only [if_true, live, R.at_ hp]
          dsimp only [ent]
          refine wpAny_bind (same_is (R.is p pm) (wpAny_bind (wpAny_pure ?_)))
          simp only [if_true]
          refine ih (c + (q + 1)) _ rfl (by omega) (by omega) fun i0 p0 h0 k0 => ?_
          obtain ⟨c', a1, a2, a3⟩ := hre i0 p0 h0 k0
          refine ⟨c', Nat.lt_of_not_le fun le => ?_, a2, a3⟩
          have le : c' ≤ c + q := le
          by_cases ec : c' = c + q
          · rw [ec] at a3
            have z := slot_live R.tab.ris a3
            rw [live] at z
            cases z
            rw [hp] at h0
            cases h0
            exact same k0
          · exact hno (c' - c) i0 (by omega) (by rw [jay, show c + (c' - c) = c' by omega]; exact a3) ((at_ i0 p0 h0).trans (by rw [k0]))
      by_cases hl : t.led = true
      · simp only [hl, Bool.not_true, Bool.false_eq_true, if_false]
        try refine wpAny_bind (wpAny_pure ?_)
        exact rest
      · simp only [hl, Bool.not_false, if_true]
        refine wpAny_bind (seen_is x (fun y hy => ?_) ?_)
        · obtain ⟨e, he, rfl⟩ := List.mem_map.mp hy
          have he1 : e ∈ es.toList := by
            have z : e ∈ es ∧ e.1 = hsh P w k := by simpa using he
            simpa using z.1
          rw [R.rows] at he1
          obtain ⟨p2, hp2, rfl⟩ := List.mem_map.mp he1
          exact ⟨p2.2, R.is p2 hp2⟩
        · simp only [Bool.false_eq_true, if_false]
          try refine wpAny_bind (wpAny_pure ?_)
          exact rest
    · have met' : t.probe (fun i => (es[i]?.map (·.1)).getD 0) (hsh P w k) (wy t (hsh P w k) c) = some (.empty (way t.mask (hsh P w k) K) none) := by
        have z : way t.mask (hsh P w k) K = (nth t.mask (wy t (hsh P w k) c) (K - c)).j := by rw [jay, show c + (K - c) = K by omega]
        rw [z]
        exact met
      rw [met']
      dsimp only
      refine wpAny_pure (no fun hm => ?_)
      obtain ⟨p0, m0, k0⟩ := List.mem_map.mp hm
      obtain ⟨i0, h0⟩ := List.getElem?_of_mem m0
      obtain ⟨c', a1, a2, a3⟩ := hre i0 p0 h0 k0
      exact hno (c' - c) i0 (by omega) (by rw [jay, show c + (c' - c) = c' by omega]; exact a3) ((at_ i0 p0 h0).trans (by rw [k0]))
theorem srch0 (R : SR P w s.heap a L es n t) {v : Value} {k : Ky} (x : Is P w s.heap k v) (hu : A.units < cLine) {Q : SetFound → Shared → Prop} (yes : k ∈ L.map (·.2) → Q (.there none) s)
    (no : ∀ K, k ∉ L.map (·.2) → way t.mask (hsh P w k) K ∉ t.place.toList → (∀ c, c < K → way t.mask (hsh P w k) c ∈ t.place.toList) → Q (.free (way t.mask (hsh P w k) K) false) s) :
    wpAny (model P w) A (setSearch a v (hsh P w k) true) Q E s := by
  have room := R.room
  obtain ⟨K, lim, off, on⟩ := R.tab.first (by rw [List.length_map]; omega) (hsh P w k)
  have small : 10 * SetTable.turns t.mask ≤ 1420 := by
    unfold SetTable.turns
    rcases R.tab.mok with e | e | e <;> omega
  unfold setSearch
  refine srch R x hu lim off on yes (fun h => no K h off on) 100000 0 none rfl (Nat.zero_le _) (by omega) fun i p hp hk => ?_
  have hi : (L.map fun p => hsh P w p.2)[i]? = some (hsh P w k) := by rw [List.getElem?_map, hp, ← hk]; rfl
  have il : i < t.place.toList.length := by
    have := lt_len hp
    rw [Array.length_toList, R.psz]
    exact this
  have hj := List.getElem?_eq_getElem il
  obtain ⟨c, hc, e⟩ := R.tab.before off hi hj
  exact ⟨c, Nat.zero_le _, hc, by rw [hj, e]⟩
end
end SX
end IL
end

section
set_option autoImplicit false
set_option linter.all false
set_option Elab.async false
set_option maxRecDepth 100000
set_option maxHeartbeats 8000000
/-! IL: adding to such a set. -/
namespace IL
namespace SX
open PySem PySem.Spec PyProof.Rows L2
section
variable {P : Program} {w : World} {A : Around} {E : Value → Shared → Prop} {s : Shared} {a : Addr} {L : List It2} {es : Array (Int × Value)} {n : Nat} {t : SetTable}
theorem perm_in {α : Type} (L : List α) (p : Nat) (x : α) : (L.take p ++ x :: L.drop p).Perm (x :: L) := put_perm L p x
/-- the rows in another order -/
theorem reorder (r : es.toList = L.map (ent P w)) {order : Array Nat} (hp : order.toList.Perm (List.range L.length)) :
    ∃ L2 : List It2, (order.filterMap (es[·]?)).toList = L2.map (ent P w) ∧ L2.Perm L ∧ (L2.map fun p => hsh P w p.2) = order.toList.map fun i => (es.map (·.1)).getD i 0 := by
  have sz := size_rows r
  have each : ∀ i, i < L.length → ∃ p, L[i]? = some p ∧ es[i]? = some (ent P w p) := fun i hi => by
    refine ⟨L[i], List.getElem?_eq_getElem hi, ?_⟩
    rw [← Array.getElem?_toList, r, List.getElem?_map, List.getElem?_eq_getElem hi]
    rfl
  have go : ∀ l : List Nat, (∀ i ∈ l, i < L.length) → ∃ L2 : List It2, l.filterMap (fun i => es[i]?) = L2.map (ent P w) ∧ L2 = l.filterMap (fun i => L[i]?) ∧ (L2.map fun p => hsh P w p.2) = l.map fun i => (es.map (·.1)).getD i 0 := by
    intro l
    induction l with
    | nil => intro _; exact ⟨[], rfl, rfl, rfl⟩
    | cons i l ih =>
      intro hl
      obtain ⟨p, e1, e2⟩ := each i (hl i List.mem_cons_self)
      obtain ⟨L2, g1, g2, g3⟩ := ih fun j hj => hl j (List.mem_cons_of_mem _ hj)
      refine ⟨p :: L2, by rw [List.filterMap_cons_some e2, g1]; rfl, by rw [List.filterMap_cons_some e1, g2], ?_⟩
      have e3 : (es.map (·.1)).getD i 0 = hsh P w p.2 := by
        have z : (es.map (·.1))[i]? = some (hsh P w p.2) := by rw [Array.getElem?_map, e2]; rfl
        simp [Array.getD_eq_getD_getElem?, z]
      rw [List.map_cons, List.map_cons, g3, e3]
  obtain ⟨L2, g1, g2, g3⟩ := go order.toList fun i hi => List.mem_range.mp (hp.mem_iff.mp hi)
  refine ⟨L2, by simpa using g1, ?_, g3⟩
  have h1 : L2.Perm ((List.range L.length).filterMap fun i => L[i]?) := by rw [g2]; exact hp.filterMap _
  have h2 : (List.range L.length).filterMap (fun i => L[i]?) = L := by
    have go2 : ∀ m, m ≤ L.length → (List.range m).filterMap (fun i => L[i]?) = L.take m := by
      intro m
      induction m with
      | zero => intro _; rfl
      | succ m ih =>
        intro hm
        rw [List.range_succ, List.filterMap_append, ih (Nat.le_of_lt hm), List.take_succ, List.getElem?_eq_getElem hm, List.filterMap_cons_some (List.getElem?_eq_getElem hm)]
        rfl
    rw [go2 L.length (Nat.le_refl _), List.take_length]
  rw [h2] at h1
  exact h1
/-- laid anew, larger -/
theorem larger {o : Obj} (ho : s.heap.get? a = some o) (hex : o.ExactSet) (hd : o.data = .set es n t) (rows : es.toList = L.map (ent P w)) (psz : t.place.size = es.size) (dm : t.dummies = #[]) (fl : es.size ≤ t.mask)
    (nd : (L.map (·.2)).Nodup) (is : ∀ p ∈ L, Is P w s.heap p.2 p.1) (pl : t.plain = true) (ld : w.params.followText "set-order" = true ∨ t.led = true) (few : L.length < 64) {wanted M : Nat}
    (hw : SetTable.sizeAbove wanted - 1 = M) (hM : MaskOk M) (hw2 : SetTable.sizeAbove wanted ≤ 128) (hn : L.length * 5 < M * 3) {Q : Unit → Shared → Prop}
    (q : ∀ h' L' es' n' t', Heap.SameBut a s.heap h' → SR P w h' a L' es' n' t' → L'.Perm L → Q () { s with heap := h' }) : wpAny (model P w) A (setRelay a wanted) Q E s := by
  have sz := size_rows rows
  have fits : t.fits es.size = true := by
    unfold SetTable.fits SetTable.fill
    rw [dm]
    simp only [Bool.and_eq_true, beq_iff_eq, decide_eq_true_eq]
    refine ⟨psz, ?_⟩
    show t.place.size + 0 ≤ t.mask
    omega
  obtain ⟨t', order, e, hp, T, em, el, ep, ed⟩ := relaid_ok t (hs := es.map (·.1)) (wanted := wanted) hw hM (by rw [Array.size_map, sz]; omega)
  rw [Array.size_map, sz] at hp
  obtain ⟨L2, r1, r2, r3⟩ := reorder rows hp
  rw [← r3] at T
  have sz2 : (order.filterMap (es[·]?)).size = L.length := by rw [size_rows r1, r2.length_eq]
  rw [setRelay_eq]
  refine wpAny_bind (wpAny_setState_of ho hd fits ?_)
  dsimp only
  refine wp_if_neg (by rw [sizeLine_eq]; omega) ?_
  try refine wpAny_bind (wpAny_pure ?_)
  rw [e]
  dsimp only
  refine wpAny_bind ?_
  refine wp_if_neg (by rw [sz2, sz]; simp) ?_
  try refine wpAny_bind (wpAny_pure ?_)
  refine wpAny_pure ?_
  refine wpAny_storeSet_of ho hd ?_ (by rw [sz2, sizeLine_eq]; omega)
  have sb : Heap.SameBut a s.heap (s.heap.update a (Obj.putSet (order.filterMap (es[·]?)) t')) := Heap.SameBut.update ..
  refine q _ L2 (order.filterMap (es[·]?)) (n + 1) t' sb ⟨⟨_, store_at ho hd, ⟨hex.1, hex.2.1, hex.2.2⟩, rfl⟩, r1, T, (r2.map (·.2)).nodup_iff.mpr nd, fun p pm => (is p (r2.mem_iff.mp pm)).same ho hd sb, by rw [ep]; exact pl, by rw [el]; exact ld, ?_, by rw [r2.length_eq]; exact few⟩ r2
  rw [r2.length_eq, em]
  exact hn
/-- a new row stands: stored, the table grown if it's full -/
theorem stored {o : Obj} (ho : s.heap.get? a = some o) (hex : o.ExactSet) (hd : o.data = .set es n t) {L1 : List It2} {es1 : Array (Int × Value)} {t1 : SetTable} {m : Nat} (rows : es1.toList = L1.map (ent P w)) (T : TabOk t1 (L1.map fun p => hsh P w p.2))
    (nd : (L1.map (·.2)).Nodup) (is : ∀ p ∈ L1, Is P w s.heap p.2 p.1) (pl : t1.plain = true) (ld : w.params.followText "set-order" = true ∨ t1.led = true) (few : L1.length < 64) (hm : L1.length = m + 1) (mk : MaskOk t1.mask) (was : m * 5 < t1.mask * 3) (fill : t1.fill = m + 1)
    {dum : Bool} (hdum : dum = false) {Q : Bool → Shared → Prop} (q : ∀ h' L' es' n' t', Heap.SameBut a s.heap h' → SR P w h' a L' es' n' t' → L'.Perm L1 → Q true { s with heap := h' }) :
    wpAny (model P w) A (do
      storeSet a es1 t1
      if !dum && t1.tooFull then setRelay a (SetTable.grown (m + 1))
      return true) Q E s := by
  subst hdum
  have sz := size_rows rows
  refine wpAny_bind (wpAny_storeSet_of ho hd ?_ (by rw [sz, hm, sizeLine_eq]; omega))
  have sb : Heap.SameBut a s.heap (s.heap.update a (Obj.putSet es1 t1)) := Heap.SameBut.update ..
  have ho1 := store_at (es' := es1) (t' := t1) ho hd
  have is1 : ∀ p ∈ L1, Is P w (s.heap.update a (Obj.putSet es1 t1)) p.2 p.1 := fun p pm => (is p pm).same ho hd sb
  generalize s.heap.update a (Obj.putSet es1 t1) = h1 at sb ho1 is1 ⊢
  have psz : t1.place.size = es1.size := by
    have := T.sz
    rw [List.length_map] at this
    rw [this, sz]
  by_cases hf : t1.tooFull = true
  · simp only [hf, Bool.not_false, Bool.and_self, if_true]
    have full : (m + 1) * 5 ≥ t1.mask * 3 := by
      unfold SetTable.tooFull at hf
      rw [decide_eq_true_eq, fill] at hf
      exact hf
    have cs : (t1.mask = 7 ∧ m = 4) ∨ (t1.mask = 31 ∧ m = 18) := by
      rcases mk with e | e | e
      · left; rw [e] at full was; exact ⟨e, by omega⟩
      · right; rw [e] at full was; exact ⟨e, by omega⟩
      · exfalso; rw [e] at full; omega
    have go : ∀ M, SetTable.sizeAbove (SetTable.grown (m + 1)) - 1 = M → MaskOk M → SetTable.sizeAbove (SetTable.grown (m + 1)) ≤ 128 → (m + 1) * 5 < M * 3 →
        wpAny (model P w) A (do setRelay a (SetTable.grown (m + 1)); return true) Q E { s with heap := h1 } := fun M g1 g2 g3 g4 => by
      refine wpAny_bind (larger (s := { s with heap := h1 }) ho1 ⟨hex.1, hex.2.1, hex.2.2⟩ rfl rows psz T.dm (by rw [sz, hm]; rcases cs with ⟨e, e2⟩ | ⟨e, e2⟩ <;> omega) nd is1 pl ld few g1 g2 g3 (by rw [hm]; exact g4) ?_)
      intro h2 L2 es2 n2 t2 sb2 R2 pm2
      exact wpAny_pure (q h2 L2 es2 n2 t2 (sb.trans sb2) R2 pm2)
    rcases cs with ⟨_, e2⟩ | ⟨_, e2⟩
    · exact go 31 (by rw [e2, size_20]) (.inr (.inl rfl)) (by rw [e2, size_20]; decide) (by omega)
    · exact go 127 (by rw [e2, size_76]) (.inr (.inr rfl)) (by rw [e2, size_76]; decide) (by omega)
  · simp only [hf, Bool.and_false, Bool.false_eq_true, if_false]
    try refine wpAny_bind (wpAny_pure ?_)
    refine wpAny_pure (q h1 L1 es1 _ t1 sb ⟨⟨_, ho1, ⟨hex.1, hex.2.1, hex.2.2⟩, rfl⟩, rows, T, nd, is1, pl, ld, ?_, few⟩ (.refl _))
    unfold SetTable.tooFull at hf
    rw [decide_eq_true_eq, fill] at hf
    rw [hm]
    omega
end
end SX
end IL
end

section
set_option autoImplicit false
set_option linter.all false
set_option Elab.async false
set_option maxRecDepth 100000
set_option maxHeartbeats 8000000
/-! IL: adding, all cases. -/
namespace IL
namespace SX
open PySem PySem.Spec PyProof.Rows L2
section
variable {P : Program} {w : World} {A : Around} {E : Value → Shared → Prop} {s : Shared} {a : Addr} {L : List It2} {es : Array (Int × Value)} {n : Nat} {t : SetTable}
/-- the new row's place and table -/
theorem put_row (R : SR P w s.heap a L es n t) {v : Value} {k : Ky} (x : Is P w s.heap k v) {K : Nat} (hm : k ∉ L.map (·.2)) (off : way t.mask (hsh P w k) K ∉ t.place.toList) (on : ∀ c, c < K → way t.mask (hsh P w k) c ∈ t.place.toList) (few : L.length + 1 < 64) :
    ∃ L1 : List It2, (SetTable.insertAt es (t.put (way t.mask (hsh P w k) K)).2 (hsh P w k, v)).toList = L1.map (ent P w) ∧ TabOk (t.put (way t.mask (hsh P w k) K)).1 (L1.map fun p => hsh P w p.2) ∧ (L1.map (·.2)).Nodup ∧ (∀ p ∈ L1, Is P w s.heap p.2 p.1) ∧
      L1.Perm ((v, k) :: L) ∧ (t.put (way t.mask (hsh P w k) K)).1.mask = t.mask ∧ (t.put (way t.mask (hsh P w k) K)).1.led = t.led ∧ (t.put (way t.mask (hsh P w k) K)).1.plain = t.plain ∧ (t.put (way t.mask (hsh P w k) K)).1.fill = L.length + 1 := by
  obtain ⟨q1, q2, q3, q4, q5, q6, q7, q8, q9⟩ := R.tab.put off on
  have pm := perm_in L (SetTable.below t.place (way t.mask (hsh P w k) K)) (v, k)
  refine ⟨L.take (SetTable.below t.place (way t.mask (hsh P w k) K)) ++ (v, k) :: L.drop (SetTable.below t.place (way t.mask (hsh P w k) K)), ?_, ?_, ?_, fun p hp => ?_, pm, q4, q5, q6, by rw [q9, List.length_map]⟩
  · rw [q1, SetTable.toList_insertAt, R.rows]
    simp only [List.map_append, List.map_cons, List.map_take, List.map_drop]
    rfl
  · have e : (L.take (SetTable.below t.place (way t.mask (hsh P w k) K)) ++ (v, k) :: L.drop (SetTable.below t.place (way t.mask (hsh P w k) K))).map (fun p => hsh P w p.2) = (L.map fun p => hsh P w p.2).take (SetTable.below t.place (way t.mask (hsh P w k) K)) ++ hsh P w k :: (L.map fun p => hsh P w p.2).drop (SetTable.below t.place (way t.mask (hsh P w k) K)) := by
      simp only [List.map_append, List.map_cons, List.map_take, List.map_drop]
    rw [e]
    exact q3
  · refine (pm.map (·.2)).nodup_iff.mpr ?_
    rw [List.map_cons]
    exact List.nodup_cons.mpr ⟨hm, R.nd⟩
  · rcases List.mem_cons.mp (pm.mem_iff.mp hp) with e | hp
    · rw [e]; exact x
    · exact R.is p hp
/-- an entry that is looked for by value -/
theorem scan_none {h : Heap} {k : Ky} {v : Value} (x : Is P w h k v) (q : v.scannable = true) : k = none ∧ v = .none := by
  cases k with
  | none => exact ⟨rfl, x⟩
  | some k => obtain ⟨b, rfl, _⟩ := x; cases q
theorem adds (R : SR P w s.heap a L es n t) {v : Value} {k : Ky} (x : Is P w s.heap k v) (hu : A.units < cLine) (few : L.length + 1 < 64) {Q : Bool → Shared → Prop}
    (q : ∀ b h' L' es' n' t', Heap.SameBut a s.heap h' → SR P w h' a L' es' n' t' → (k ∈ L.map (·.2) → L' = L) → (k ∉ L.map (·.2) → L'.Perm ((v, k) :: L)) → Q b { s with heap := h' }) :
    wpAny (model P w) A (setAddHashed a v (hsh P w k)) Q E s := by
  obtain ⟨o, ho, hex, hd⟩ := R.ob
  have sz := R.size
  have room := R.room
  unfold setAddHashed
  refine wpAny_holding ?_
  rw [show (100000 : Nat) = 99999 + 1 from rfl, setAddHashedIn_succ]
  refine wpAny_bind (wpAny_setState_of ho hd R.fits ?_)
  dsimp only
  by_cases hs : byScan v es = true
  · -- None alone
    refine wp_if_pos hs ?_
    unfold byScan at hs
    simp only [Bool.and_eq_true, decide_eq_true_eq] at hs
    obtain ⟨⟨s1, s2⟩, s3⟩ := hs
    obtain ⟨rfl, rfl⟩ := scan_none x s1
    have all : ∀ p ∈ L, p.2 = none := fun p hp => by
      have m : ent P w p ∈ es.toList := by rw [R.rows]; exact List.mem_map.mpr ⟨p, hp, rfl⟩
      have z := (Array.all_eq_true_iff_forall_mem.mp s3) (ent P w p) (by simpa using m)
      exact (scan_none (R.is p hp) z).1
    refine wpAny_bind ?_
    unfold setAddByScan
    refine wpAny_bind (wpAny_rule ?_)
    cases L with
    | nil =>
      have e0 : es = #[] := by
        apply Array.toList_inj.mp
        rw [R.rows]
        rfl
      obtain ⟨p0, hp0⟩ : ∃ p, p = t.place.toList := ⟨_, rfl⟩
      have pe : t.place.toList = [] := by
        have := R.psz
        rw [List.length_nil] at this
        rw [← List.length_eq_zero_iff, Array.length_toList]
        exact this
      have off : way t.mask (hsh P w none) 0 ∉ t.place.toList := by rw [pe]; simp
      have on : ∀ c, c < 0 → way t.mask (hsh P w none) c ∈ t.place.toList := fun c hc => absurd hc (Nat.not_lt_zero _)
      obtain ⟨L1, r1, r2, r3, r4, r5, r6, r7, r8, r9⟩ := put_row R (v := .none) (k := none) rfl (K := 0) (by simp) off on few
      have free : t.freeSlot (hsh P w none) = some (way t.mask (hsh P w none) 0, false) := by
        have pos : 0 < 10 * SetTable.turns t.mask := by unfold SetTable.turns; omega
        unfold SetTable.freeSlot
        rcases go_spec t R.tab.ris R.tab.dm (fun _ => hsh P w none + 1) (hsh P w none) (10 * SetTable.turns t.mask) 0 (t.probeStart (hsh P w none)) rfl pos (fun k hk => absurd hk (Nat.not_lt_zero _)) off with ⟨_, _, hk, _⟩ | ⟨_, met⟩
        · exact absurd hk (Nat.not_lt_zero _)
        · have met' : t.probe (fun _ => hsh P w none + 1) (hsh P w none) (t.probeStart (hsh P w none)) = some (.empty (way t.mask (hsh P w none) 0) none) := met
          rw [met']
          rfl
      have scan0 : setScan a .none (hsh P w none) true es = pure .absent := by rw [e0]; rfl
      rw [scan0]
      refine wpAny_bind (wpAny_pure ?_)
      dsimp only
      try refine wpAny_bind (wpAny_pure ?_)
      have sz1 : (SetTable.insertAt es (t.put (way t.mask (hsh P w none) 0)).2 (hsh P w none, Value.none)).size = 1 := by
        rw [size_rows r1, r5.length_eq]; rfl
      have fits1 : (t.put (way t.mask (hsh P w none) 0)).1.fits (SetTable.insertAt es (t.put (way t.mask (hsh P w none) 0)).2 (hsh P w none, Value.none)).size = true := by
        rw [sz1]
        unfold SetTable.fits
        rw [r9, r6]
        have z := r2.sz
        rw [List.length_map, r5.length_eq] at z
        rw [z]
        simp only [List.length_cons, List.length_nil, Bool.and_eq_true, beq_iff_eq, decide_eq_true_eq]
        simp only [List.length_nil] at room
        refine ⟨trivial, by omega⟩
      have lay : layNew t es (hsh P w none) .none = (SetTable.insertAt es (t.put (way t.mask (hsh P w none) 0)).2 (hsh P w none, Value.none), (t.put (way t.mask (hsh P w none) 0)).1, false, false) := by
        unfold layNew
        rw [free]
        dsimp only
        rw [fits1]
        unfold SetTable.orStandIn
        rw [if_pos fits1]
        rfl
      rw [lay]
      dsimp only
      refine wpAny_bind (wpAny_pure ?_)
      rw [r8, R.plain]
      simp only [if_true]
      refine wpAny_bind (by_is (k := none) rfl ?_)
      simp only [if_true]
      have nf : (t.put (way t.mask (hsh P w none) 0)).1.tooFull = false := by
        unfold SetTable.tooFull
        rw [r9, r6]
        simp only [List.length_nil] at room ⊢
        rw [decide_eq_false_iff_not]
        rcases R.tab.mok with e | e | e <;> omega
      generalize SetTable.insertAt es (t.put (way t.mask (hsh P w none) 0)).2 (hsh P w none, Value.none) = es1 at r1 sz1 ⊢
      generalize (t.put (way t.mask (hsh P w none) 0)).1 = t1 at r2 r6 r7 r8 r9 nf ⊢
      refine wpAny_bind (wpAny_storeSet_of ho hd ?_ (by rw [sz1, sizeLine_eq]; omega))
      have sb : Heap.SameBut a s.heap (s.heap.update a (Obj.putSet es1 t1)) := Heap.SameBut.update ..
      simp only [nf, Bool.and_false, Bool.false_eq_true, if_false]
      try refine wpAny_bind (wpAny_pure ?_)
      refine wpAny_pure ?_
      dsimp only
      refine wpAny_pure (q true _ L1 es1 _ t1 sb ⟨⟨_, store_at ho hd, ⟨hex.1, hex.2.1, hex.2.2⟩, rfl⟩, r1, r2, r3, fun p pm => (r4 p pm).same ho hd sb, by rw [r8]; exact R.plain, by rw [r7]; exact R.led, ?_, by rw [r5.length_eq]; exact few⟩ (fun z => absurd z (by simp)) fun _ => r5)
      rw [r5.length_eq, r6]
      simp only [List.length_cons, List.length_nil]
      rcases R.tab.mok with e | e | e <;> omega
    | cons p L =>
      have k0 : p.2 = none := all p List.mem_cons_self
      have v0 : p.1 = .none := by
        have z := R.is p List.mem_cons_self
        rw [k0] at z
        exact z
      have hin : (none : Ky) ∈ (p :: L).map (·.2) := List.mem_map.mpr ⟨p, List.mem_cons_self, k0⟩
      have el : es.toList = (hsh P w none, Value.none) :: L.map (ent P w) := by
        rw [R.rows, List.map_cons]
        unfold ent
        rw [k0, v0]
      have scan1 : setScan a .none (hsh P w none) true es = setScanFrom a .none (hsh P w none) true ((hsh P w none, Value.none) :: L.map (ent P w)) 0 := by rw [← el]; rfl
      rw [scan1]
      unfold setScanFrom
      simp only [beq_self_eq_true, if_true]
      refine wpAny_bind (wpAny_bind (wpAny_setEpoch_of ho hd R.fits (wpAny_bind (SeqAt.EqAt.same _ _ _ _ _ ?_))))
      simp only [Bool.and_self, if_true]
      refine wpAny_pure ?_
      dsimp only
      refine wpAny_pure ?_
      dsimp only
      exact wpAny_pure (q false s.heap _ es n t (Heap.SameBut.refl a s.heap) R (fun _ => rfl) fun z => absurd hin z)
  · refine wp_if_neg hs ?_
    try refine wpAny_bind (wpAny_pure ?_)
    refine wpAny_bind (srch0 R x hu (fun hm => ?_) fun K hm off on => ?_)
    · exact wpAny_pure (q false s.heap L es n t (Heap.SameBut.refl a s.heap) R (fun _ => rfl) fun z => absurd hm z)
    · dsimp only
      refine wpAny_bind (wpAny_setState_of ho hd R.fits ?_)
      dsimp only
      obtain ⟨L1, r1, r2, r3, r4, r5, r6, r7, r8, r9⟩ := put_row R x hm off on few
      rw [r8, R.plain]
      simp only [if_true]
      refine wpAny_bind (by_is x ?_)
      simp only [if_true]
      have z := stored (P := P) (w := w) (A := A) (E := E) (Q := Q) (m := L.length) (dum := false) ho hex hd r1 r2 r3 r4 (by rw [r8]; exact R.plain) (by rw [r7]; exact R.led) (by rw [r5.length_eq]; exact few) r5.length_eq (by rw [r6]; exact R.tab.mok) (by rw [r6]; exact room) r9 rfl
        fun h' L' es' n' t' sb R' pm => q true h' L' es' n' t' sb R' (fun z => absurd z hm) fun _ => pm.trans r5
      rw [sz]
      exact z
end
end SX
end IL
end

section
set_option autoImplicit false
set_option linter.all false
set_option Elab.async false
set_option maxRecDepth 100000
set_option maxHeartbeats 8000000
/-! IL: set(..) of such items. -/
namespace IL
namespace SX
open PySem PySem.Spec PyProof.Rows L2
abbrev obS (w : World) : Obj := { cls := .type "set", dict := none, data := .set #[] 0 (.fresh 0 0 (!w.params.followText "set-order")) }
abbrev hpS (w : World) (h : Heap) : Heap := h.push (obS w)
/-- what the first i items have brought -/
structure Brought (ks : List It2) (i : Nat) (L : List It2) : Prop where
  sub : ∀ p ∈ L, p ∈ ks.take i
  all : ∀ p ∈ ks.take i, p.2 ∈ L.map (·.2)
  len : L.length ≤ i
theorem Brought.next {ks L L' : List It2} {i : Nat} {x : It2} (g : Brought ks i L) (h : ks[i]? = some x) (c1 : x.2 ∈ L.map (·.2) → L' = L) (c2 : x.2 ∉ L.map (·.2) → L'.Perm (x :: L)) : Brought ks (i + 1) L' := by
  have tk := take_next h
  by_cases c : x.2 ∈ L.map (·.2)
  · rw [c1 c]
    refine ⟨fun p hp => by rw [tk]; exact List.mem_append_left _ (g.sub p hp), fun p hp => ?_, Nat.le_succ_of_le g.len⟩
    rw [tk] at hp
    rcases List.mem_append.mp hp with z | z
    · exact g.all p z
    · rw [List.mem_singleton.mp z]; exact c
  · have pm := c2 c
    refine ⟨fun p hp => ?_, fun p hp => ?_, by rw [pm.length_eq, List.length_cons]; exact Nat.succ_le_succ g.len⟩
    · rw [tk]
      rcases List.mem_cons.mp (pm.mem_iff.mp hp) with e | z
      · exact List.mem_append_right _ (by rw [e]; exact List.mem_singleton.mpr rfl)
      · exact List.mem_append_left _ (g.sub p z)
    · rw [(pm.map (·.2)).mem_iff, List.map_cons]
      rw [tk] at hp
      rcases List.mem_append.mp hp with z | z
      · exact List.mem_cons_of_mem _ (g.all p z)
      · rw [List.mem_singleton.mp z]; exact List.mem_cons_self
section
variable {P : Program} {w : World} {A : Around} {E : Value → Shared → Prop} {s : Shared}
theorem fresh_SR {h : Heap} {a : Addr} (ho : h.get? a = some (obS w)) : SR P w h a [] #[] 0 (.fresh 0 0 (!w.params.followText "set-order")) where
  ob := ⟨_, ho, ⟨rfl, rfl, rfl⟩, rfl⟩
  rows := rfl
  tab := ⟨List.Pairwise.nil, rfl, rfl, .inl rfl, fun x hx => (by cases hx), fun i h j hi => (by simp at hi)⟩
  nd := List.nodup_nil
  is := fun p hp => (by cases hp)
  plain := rfl
  led := by
    show _ ∨ (!w.params.followText "set-order") = true
    cases w.params.followText "set-order" <;> simp
  room := by show 0 * 5 < 7 * 3; decide
  few := by show 0 < 64; decide
/-- the loop that fills it -/
theorem fills {I : Addr} {fp wr : List Addr} {G : Array GenState → Array GenState → Prop} {n : Nat} {Pv : Nat → Value → Prop} {St : Nat → Shared → Prop} {R : Result → Shared → Prop}
    (W : WalksS P w A.in1 I fp wr G n Pv St) (S : Addr) (out : S ∉ fp) (ks : List It2) (hn : n = ks.length) (few : ks.length < 64) (hval : ∀ i v, Pv i v → ∃ p, ks[i]? = some p ∧ v = p.1)
    (h0 : Heap) (hk : ∀ p ∈ ks, Is P w h0 p.2 p.1) (hS0 : h0.get? S = none) (hw0 : ∀ b ∈ wr, h0.get? b = none) (hu : A.in1.units < cLine) :
    ∀ (k i : Nat) (s : Shared), n - i = k → i ≤ n → St i s → (∀ b o, h0.get? b = some o → s.heap.get? b = some o) → (∃ L es ep t, SR P w s.heap S L es ep t ∧ Brought ks i L) →
      (∀ s' L es ep t, Moved (S :: wr) G s s' → SR P w s'.heap S L es ep t → Brought ks n L → (∀ b o, h0.get? b = some o → s'.heap.get? b = some o) → R (.ok (.ret .none)) s') →
      codeAny (model P w) A (.builtin "set.update.loop" ⟨[.ref S, .ref I], []⟩) R s := by
  have outw : S ∉ wr := fun h => out (W.sub _ h)
  have keepM : ∀ {s s' : Shared}, Moved wr G s s' → (∀ b o, h0.get? b = some o → s.heap.get? b = some o) → ∀ b o, h0.get? b = some o → s'.heap.get? b = some o := fun hm g b o e =>
    hm.heap b o (fun hb => by rw [hw0 b hb] at e; cases e) (g b o e)
  intro k
  induction k with
  | zero =>
    intro i s hk' hi st g ⟨L, es, ep, t, hS, br⟩ fin
    obtain rfl : i = n := by omega
    refine codeAny_builtin F.entry_set_update_loop ?_
    rw [Around.under_plainId F.plain_set_update_loop _]
    show wpAny _ A.in1 (pyNext (.ref I) >>= _) _ _ s
    refine wpAny_bind (W.done s _ _ st fun s' hm => ?_)
    show wpAny _ A.in1 (ret Value.none) _ _ s'
    have g' := keepM hm g
    exact wpAny_pure (fin s' L es ep t (hm.mono fun b hb => List.mem_cons_of_mem _ hb) (hS.keeps (fun o e => hm.heap S o outw e) fun p hp => (hk p (List.mem_of_mem_take (br.sub p hp))).keep g') br g')
  | succ k ih =>
    intro i s hk' hi st g ⟨L, es, ep, t, hS, br⟩ fin
    have lt : i < n := by omega
    refine codeAny_builtin F.entry_set_update_loop ?_
    rw [Around.under_plainId F.plain_set_update_loop _]
    show wpAny _ A.in1 (pyNext (.ref I) >>= _) _ _ s
    refine wpAny_bind (W.item i s _ _ lt st fun v s' hP st' hm => ?_)
    obtain ⟨p, hp, rfl⟩ := hval i v hP
    have g' := keepM hm g
    have hS' : SR P w s'.heap S L es ep t := hS.keeps (fun o e => hm.heap S o outw e) fun q hq => (hk q (List.mem_of_mem_take (br.sub q hq))).keep g'
    have hx : Is P w s'.heap p.2 p.1 := (hk p (List.mem_of_getElem? hp)).keep g'
    show wpAny _ A.in1 (holding [p.1] (setAdd S p.1) >>= _) _ _ s'
    refine wpAny_bind (wpAny_holding ?_)
    unfold setAdd
    refine wpAny_holding (wpAny_bind (hash_is hu hx fun tn => ?_))
    have bl := br.len
    refine adds (s := { s' with toks := s'.toks + tn }) hS' hx hu (by omega) fun b h' L' es' ep' t' sb S2 c1 c2 => ?_
    have br' : Brought ks (i + 1) L' := br.next hp c1 c2
    have g2 : ∀ b o, h0.get? b = some o → h'.get? b = some o := fun b o e => (sb.2 b fun z => by rw [z, hS0] at e; cases e).trans (g' b o e)
    refine wpAny_pure ⟨plainId_quiet F.plain_set_update_loop _, ih (i + 1) _ (by omega) lt (W.frame _ s' _ _ st' (Nat.le_add_right _ _) fun b hb o e => ?_) g2 ⟨L', es', ep', t', S2, br'⟩ fun s'' L2 es2 ep2 t2 hm2 hS2 b2 g3 => ?_⟩
    · exact (sb.2 b fun z => out (by rw [← z]; exact hb)).trans e
    · refine fin s'' L2 es2 ep2 t2 (Moved.trans W.gtrans ((hm.mono fun b hb => List.mem_cons_of_mem _ hb).then_heap (Nat.le_add_right _ _) fun b o hb e => ?_) hm2) hS2 b2 g3
      exact (sb.2 b fun z => hb (by rw [z]; exact List.mem_cons_self)).trans e
/-- what set(..) leaves -/
abbrev Left (P : Program) (w : World) (s : Shared) (ks : List It2) (Q : Value → Shared → Prop) : Prop := ∀ (h' : Heap) (tk : Nat) L es ep t, SR P w h' s.heap.objs.size L es ep t → Brought ks ks.length L → (∀ b o, s.heap.get? b = some o → h'.get? b = some o) → Q (.ref s.heap.objs.size) { s with heap := h', toks := tk }
theorem gone {h : Heap} {b : Addr} (hb : h.objs.size ≤ b) : h.get? b = none := by
  cases q : h.get? b with
  | none => rfl
  | some o => exact absurd (Nat.lt_of_lt_of_le (Heap.lt_size q) hb) (Nat.lt_irrefl _)
/-- what the last step of set(..) is to reach -/
abbrev Fin1 (P : Program) (w : World) (s : Shared) (ks : List It2) (r : Value) (s₂ : Shared) : Prop := r = .none ∧ ∃ h' tk L es ep t, s₂ = { s with heap := h', toks := tk } ∧ SR P w h' s.heap.objs.size L es ep t ∧ Brought ks ks.length L ∧ (∀ b o, s.heap.get? b = some o → h'.get? b = some o)
theorem makes {x : Addr} {ks : List It2} {Q : Value → Shared → Prop}
    (src : codeAny (model P w) A.in1 (.call (.builtin "set.__init__") ⟨[.ref s.heap.objs.size, .ref x], []⟩) (wants (Fin1 P w s ks) E) { s with heap := hpS w s.heap })
    (q : Left P w s ks Q) : wpAny (model P w) A (call (.type "set") [.ref x]) Q E s := by
  obtain ⟨c, tl, hmro⟩ := F.called_set.mro
  have m1 := F.called_set.made
  have m2 := F.called_set.sub
  refine wpAny_call (codeAny_of_tree ?_)
  show wpAny _ _ (callAny (.type "set") _) _ _ _
  refine wpAny_pure ⟨Code.quiet_builtin _ (by decide +kernel), codeAny_builtin F.entry_type_call ?_⟩
  rw [Around.under_plain (weight_type_call_type "set" [.ref x] []) rfl]
  have m3 := F.called_set.notType
  have m4 := F.called_set.canCreate
  have m5 := F.typeCall_set_1 (.ref x)
  repeat (any_goals (first | assumption | wp_step))
  refine codeAny_mono (code_set_led1 (.ref x) (E := E) (Q₁ := fun obj s₁ => obj = .ref s.heap.objs.size ∧ s₁ = { s with heap := hpS w s.heap }) ⟨rfl, rfl⟩) fun r s₁ hr => ?_
  cases r with
  | error e => exact hr
  | ok fl =>
    cases fl with
    | ret obj =>
      obtain ⟨rfl, rfl⟩ := hr
      have hS : (hpS w s.heap).get? s.heap.objs.size = some (obS w) := Heap.get?_push_size _ rfl
      have hT : Shared.TypeIs { s with heap := hpS w s.heap } (.ref s.heap.objs.size) "set" := ⟨_, hS, rfl⟩
      have m6 := F.called_set.init.lookup
      have m7 := F.called_set.init.bind (.ref s.heap.objs.size)
      repeat (any_goals (first | assumption | wp_step))
      refine codeAny_mono src fun r₂ s₂ hr₂ => ?_
      cases r₂ with
      | error e => exact hr₂
      | ok fl₂ =>
        cases fl₂ with
        | ret r =>
          obtain ⟨rfl, h', tk, L, es, ep, t, rfl, hS', g', hk'⟩ := hr₂
          repeat (any_goals (first | assumption | wp_step))
          exact q _ _ _ _ _ _ hS' g' hk'
        | _ => exact hr₂.elim
    | _ => exact hr.elim
/-- set(xs), xs a list or a tuple -/
theorem call_sx {l : Addr} {items : Array Value} {ks : List It2} {Q : Value → Shared → Prop} (hh : A.handled = none) (hl : s.heap.IsList l items ∨ s.heap.IsTuple l items) (hit : items.toList = ks.map (·.1)) (hk : ∀ p ∈ ks, Is P w s.heap p.2 p.1) (few : ks.length < 64) (hu : A.units + 3 < cLine) (q : Left P w s ks Q) :
    wpAny (model P w) A (call (.type "set") [.ref l]) Q E s := by
  have isz : items.size = ks.length := by
    have := congrArg List.length hit
    simpa using this
  have hS : (hpS w s.heap).get? s.heap.objs.size = some (obS w) := Heap.get?_push_size _ rfl
  have hT : Shared.TypeIs { s with heap := hpS w s.heap } (.ref s.heap.objs.size) "set" := ⟨_, hS, rfl⟩
  refine makes (ks := ks) (codeAny_call_builtin (R := wants (Fin1 P w s ks) E) F.called_set.init.plain F.entry_set_init (check_set_init_1 hT ?_)) q
  have zl : (hpS w s.heap).objs.size = s.heap.objs.size + 1 := Heap.size_push ..
  have lt : l < s.heap.objs.size := by
    rcases hl with ⟨o, ho, _⟩ | ⟨o, ho, _⟩ <;> exact Heap.lt_size ho
  have ne : l ≠ (hpS w s.heap).objs.size := by rw [zl]; exact Nat.ne_of_lt (Nat.lt_succ_of_lt lt)
  have hh3 : A.in1.in1.in1.handled = none := by simp [hh]
  have out : s.heap.objs.size ∉ [(hpS w s.heap).objs.size, l] := by
    rw [zl]
    simp only [List.mem_cons, List.not_mem_nil, or_false, not_or]
    exact ⟨Nat.ne_of_lt (Nat.lt_succ_self _), Nat.ne_of_gt lt⟩
  have hval : ∀ (i : Nat) (v : Value), items[i]? = some v → ∃ p, ks[i]? = some p ∧ v = p.1 := fun i v hv => by
    rw [← Array.getElem?_toList, hit, List.getElem?_map] at hv
    cases e : ks[i]? with
    | none => rw [e] at hv; cases hv
    | some p => rw [e] at hv; cases hv; exact ⟨p, rfl, rfl⟩
  rcases hl with hl | hl
  · obtain ⟨ol, hol, hcl, nl, hdl⟩ := hl
    obtain ⟨ocls, odict, odata, oslots⟩ := ol
    simp only at hcl hdl
    subst hcl hdl
    have hol' : (hpS w s.heap).get? l = some { cls := .type "list", dict := odict, data := .seq items nl, slots := oslots } := Heap.get?_push_of_some _ hol
    have n1 := F.sub_list_set
    have n2 := F.sub_list_frozenset
    have n3 : (Value.type "list" == Value.type "dict") = false := by decide
    have hl1 : (hpS w s.heap).IsList l items := ⟨_, hol', rfl, nl, rfl⟩
    unfold Builtin.«set.__init__» noKeywords Builtin.Frozenset.updateFrom
    generalize hPI : pyIter = PI
    wp_walk
    subst hPI
    refine wpAny_pyIter_list hl1 ?_
    refine wpAny_bind (wpAny_runValue ?_)
    refine fills ((Walks.list hh3 _ l ne items).toS) s.heap.objs.size out ks isz few hval s.heap hk (gone (Nat.le_refl _)) (fun b hb => gone (by
      rw [List.mem_singleton.mp hb, zl]
      exact Nat.le_succ _)) hu (items.size - 0) 0 _ (by omega) (Nat.zero_le _) ⟨⟨_, Heap.get?_push_size _ rfl, rfl, rfl⟩, hl1.push _⟩ (fun b o e => Heap.get?_push_of_some _ (Heap.get?_push_of_some _ e)) ⟨[], #[], 0, _, fresh_SR (Heap.get?_push_of_some _ hS), fun p hp => (by cases hp), fun p hp => (by simp at hp), Nat.le_refl _⟩ fun s' L es ep t hm hS' g' hk' => ?_
    obtain ⟨h', g2, d', tk', os'⟩ := s'
    have eg : g2 = s.gens := hm.gens
    have ed : d' = s.drawn := hm.drawn
    have eo : os' = s.os := hm.os
    subst eg ed eo
    show wpAny _ _ _ _ _ _
    refine wpAny_pure ?_
    show wpAny _ _ (ret Value.none) _ _ _
    rw [isz] at g'
    exact wpAny_pure ⟨rfl, h', tk', L, es, ep, t, rfl, hS', g', hk'⟩
  · obtain ⟨ol, hol, hcl, nl, hdl⟩ := hl
    obtain ⟨ocls, odict, odata, oslots⟩ := ol
    simp only at hcl hdl
    subst hcl hdl
    have hol' : (hpS w s.heap).get? l = some { cls := .type "tuple", dict := odict, data := .seq items nl, slots := oslots } := Heap.get?_push_of_some _ hol
    have n1 := F.sub_tuple_set
    have n2 := F.sub_tuple_frozenset
    have n3 : (Value.type "tuple" == Value.type "dict") = false := by decide
    have hl1 : (hpS w s.heap).IsTuple l items := ⟨_, hol', rfl, nl, rfl⟩
    unfold Builtin.«set.__init__» noKeywords Builtin.Frozenset.updateFrom
    generalize hPI : pyIter = PI
    wp_walk
    subst hPI
    refine wpAny_pyIter_tuple hl1 ?_
    refine wpAny_bind (wpAny_runValue ?_)
    refine fills ((Walks.tuple hh3 _ l ne items).toS) s.heap.objs.size out ks isz few hval s.heap hk (gone (Nat.le_refl _)) (fun b hb => gone (by
      rw [List.mem_singleton.mp hb, zl]
      exact Nat.le_succ _)) hu (items.size - 0) 0 _ (by omega) (Nat.zero_le _) ⟨⟨_, Heap.get?_push_size _ rfl, rfl, rfl⟩, hl1.push _⟩ (fun b o e => Heap.get?_push_of_some _ (Heap.get?_push_of_some _ e)) ⟨[], #[], 0, _, fresh_SR (Heap.get?_push_of_some _ hS), fun p hp => (by cases hp), fun p hp => (by simp at hp), Nat.le_refl _⟩ fun s' L es ep t hm hS' g' hk' => ?_
    obtain ⟨h', g2, d', tk', os'⟩ := s'
    have eg : g2 = s.gens := hm.gens
    have ed : d' = s.drawn := hm.drawn
    have eo : os' = s.os := hm.os
    subst eg ed eo
    show wpAny _ _ _ _ _ _
    refine wpAny_pure ?_
    show wpAny _ _ (ret Value.none) _ _ _
    rw [isz] at g'
    exact wpAny_pure ⟨rfl, h', tk', L, es, ep, t, rfl, hS', g', hk'⟩
end
end SX
end IL
end

section
set_option autoImplicit false
set_option linter.all false
set_option Elab.async false
set_option maxRecDepth 100000
set_option maxHeartbeats 8000000
/-! IL: len(set(..)). -/
namespace IL
open PySem L2 PyProof.Rows
open SX
def intOf : Vl → Int
  | .int i => i
  | _ => 0
def kyOf : Vl → Ky
  | .tup vs => some (vs.map intOf)
  | _ => none
theorem ints_eq : ∀ {vs : List Vl}, (vs.all fun v => match v with | .int _ => true | _ => false) = true → vs = (vs.map intOf).map .int
  | [], _ => rfl
  | v :: vs, h => by
    rw [List.all_cons, Bool.and_eq_true] at h
    have ih := ints_eq h.2
    cases v <;> simp at h
    simp only [List.map_cons, intOf]
    rw [← ih]
theorem eqvs_ints : ∀ ns ms : List Int, eqvs (ns.map .int) (ms.map .int) = decide (ns = ms)
  | [], [] => rfl
  | [], _ :: _ => by simp [eqvs]
  | _ :: _, [] => by simp [eqvs]
  | n :: ns, m :: ms => by
    simp only [List.map_cons, eqvs, eqvs_ints ns ms, eqv]
    by_cases e : n = m <;> by_cases e' : ns = ms <;> simp [e, e']
theorem eqv_ky {x y : Vl} (hx : isHash x = true) (hy : isHash y = true) : eqv x y = decide (kyOf x = kyOf y) := by
  cases x <;> (try (simp [isHash] at hx; done)) <;> cases y <;> (try (simp [isHash] at hy; done))
  · rfl
  · simp [eqv, kyOf]
  · simp [eqv, kyOf]
  · rename_i vs ws
    simp only [isHash] at hx hy
    have e1 := ints_eq hx
    have e2 := ints_eq hy
    have z := eqvs_ints (vs.map intOf) (ws.map intOf)
    rw [← e1, ← e2] at z
    simp only [kyOf, eqv]
    rw [z]
    by_cases c : vs.map intOf = ws.map intOf <;> simp [c]
theorem distinct_ok : ∀ (xs acc : List Vl), (∀ x ∈ acc, isHash x = true) → (∀ x ∈ xs, isHash x = true) → (acc.map kyOf).Nodup →
    ((distinct acc xs).map kyOf).Nodup ∧ (∀ k, k ∈ (distinct acc xs).map kyOf ↔ k ∈ acc.map kyOf ∨ k ∈ xs.map kyOf)
  | [], acc, ha, _, nd => by simp [distinct, nd]
  | x :: xs, acc, ha, hx, nd => by
    have hx0 := hx x List.mem_cons_self
    have hx1 := fun y hy => hx y (List.mem_cons_of_mem _ hy)
    unfold distinct
    by_cases c : (acc.any fun y => eqv y x) = true
    · rw [if_pos c]
      obtain ⟨i1, i2⟩ := distinct_ok xs acc ha hx1 nd
      refine ⟨i1, fun k => ?_⟩
      rw [i2 k, List.map_cons, List.mem_cons]
      obtain ⟨y, hy, e⟩ := List.any_eq_true.mp c
      rw [eqv_ky (ha y hy) hx0, decide_eq_true_eq] at e
      have m : kyOf x ∈ acc.map kyOf := by rw [← e]; exact List.mem_map.mpr ⟨y, hy, rfl⟩
      constructor
      · rintro (h | h)
        · exact .inl h
        · exact .inr (.inr h)
      · rintro (h | h | h)
        · exact .inl h
        · rw [h]; exact .inl m
        · exact .inr h
    · rw [if_neg c]
      have nm : kyOf x ∉ acc.map kyOf := fun m => by
        obtain ⟨y, hy, e⟩ := List.mem_map.mp m
        refine c (List.any_eq_true.mpr ⟨y, hy, ?_⟩)
        rw [eqv_ky (ha y hy) hx0, decide_eq_true_eq]
        exact e
      obtain ⟨i1, i2⟩ := distinct_ok xs (acc ++ [x]) (fun y hy => by
        rcases List.mem_append.mp hy with h | h
        · exact ha y h
        · rw [List.mem_singleton.mp h]; exact hx0) hx1 (by
        rw [List.map_append, List.nodup_append]
        refine ⟨nd, by simp, fun a h1 b h2 => ?_⟩
        rw [List.map_cons, List.map_nil, List.mem_singleton] at h2
        rw [h2]
        exact fun e => nm (by rw [← e]; exact h1))
      refine ⟨i1, fun k => ?_⟩
      rw [i2 k, List.map_append, List.mem_append, List.map_cons, List.map_nil, List.mem_singleton, List.map_cons, List.mem_cons]
      constructor
      · rintro ((h | h) | h)
        · exact .inl h
        · exact .inr (.inl h)
        · exact .inr (.inr h)
      · rintro (h | h | h)
        · exact .inl (.inl h)
        · exact .inl (.inr h)
        · exact .inr h
theorem nd_le {α : Type} [DecidableEq α] : ∀ (l m : List α), l.Nodup → (∀ x ∈ l, x ∈ m) → l.length ≤ m.length
  | [], _, _, _ => Nat.zero_le _
  | x :: l, m, nd, h => by
    have hx := h x List.mem_cons_self
    obtain ⟨n1, n2⟩ := List.nodup_cons.mp nd
    have ih := nd_le l (m.erase x) n2 fun y hy => (List.mem_erase_of_ne (fun e => n1 (by rw [← e]; exact hy))).mpr (h y (List.mem_cons_of_mem _ hy))
    rw [List.length_erase_of_mem hx] at ih
    have pos : 0 < m.length := List.length_pos_of_mem hx
    simp only [List.length_cons]
    omega
theorem nd_eq {α : Type} [DecidableEq α] {l m : List α} (h1 : l.Nodup) (h2 : m.Nodup) (h : ∀ x, x ∈ l ↔ x ∈ m) : l.length = m.length :=
  Nat.le_antisymm (nd_le l m h1 fun x hx => (h x).mp hx) (nd_le m l h2 fun x hx => (h x).mpr hx)
section
variable {D : Wd} {P : Pg} {d : Nat} {G : Gt} {N : List Str} {sc : Scope} {W : WX} {X : Cx}
variable {ea : Ev → Hh → Rs Vl} {a : Expr} {p p2 q2 pos : Pos}
/-- items of ours as items of a set -/
theorem its_ok {pins : List (Addr × Obj)} {σ : L2.St} {H : Hp} {s : Shared} {F : Hp} {μ : List Addr} {h : Hh} (I : L2.Inv X pins σ H s) (c : CS D F μ h H) : ∀ {xs : List Vl} {us : List V} {its : List Value}, RVs D F μ xs us → Vals us its → (∀ x ∈ xs, isHash x = true) →
    its = (its.zip (xs.map kyOf)).map (·.1) ∧ (its.zip (xs.map kyOf)).map (·.2) = xs.map kyOf ∧ ∀ q ∈ its.zip (xs.map kyOf), SX.Is X.prog X.w s.heap q.2 q.1
  | [], _, _, .nil, .nil, _ => ⟨rfl, rfl, fun q hq => by simp at hq⟩
  | x :: xs, _, _, .cons r rs, .cons v vs, hh => by
    obtain ⟨i1, i2, i3⟩ := its_ok I c rs vs fun y hy => hh y (List.mem_cons_of_mem _ hy)
    have h0 := hh x List.mem_cons_self
    simp only [List.map_cons, List.zip_cons_cons]
    refine ⟨by rw [← i1], by rw [i2], fun q hq => ?_⟩
    rcases List.mem_cons.mp hq with e | hq
    · subst e
      cases r with
      | non => cases v; exact rfl
      | tup hf rt =>
        cases v
        simp only [isHash] at h0
        rename_i vs' b us'
        have e1 := ints_eq h0
        refine ⟨b, rfl, I.isT ?_⟩
        have e2 : us' = (vs'.map intOf).map V.int := by
          have rt2 := rt
          rw [e1] at rt2
          clear rt e1 hf h0 i1 i2 i3
          generalize vs'.map intOf = ns at rt2 ⊢
          induction ns generalizing us' with
          | nil => cases rt2; rfl
          | cons n ns ih =>
            cases rt2 with
            | cons r1 r2 => cases r1; rw [ih r2]; rfl
        rw [← e2]
        exact .of (c.sub.tup hf)
      | _ => simp [isHash] at h0
    · exact i3 q hq
theorem e_lenset (k : XOk D P d G N sc W X) (hg : glB sc ("len" : Str) = true) (hx : G.bl ("len" : Str) = true) (hg2 : glB sc ("set" : Str) = true) (hx2 : G.bl ("set" : Str) = true) (hs : noStar a = true) (ha : EOk D W X ea a) :
    EOk D W X (fun ρ h => (ea ρ h).bind fun x h1 => bltV .lenset [x] h1) (.Call (.Name ("len" : Str) p) [.Call (.Name ("set" : Str) p2) [a] [] q2] [] pos) := by
  refine eok_val ⟨fun pins s σ H Q I q => ?_⟩ (by intro _; rfl)
  refine Call_ (ld_blt I (k.gl _ hg) (k.w.blt _ hx) PySem.boot_len ?_)
  refine PyProof.Rows.callWith_builtin1 (PyProof.Rows.args_cons ?_ rfl) rfl rfl
  refine Call_ (ld_blt I (k.gl _ hg2) (k.w.blt _ hx2) PyProof.Rows.boot_set ?_)
  have na := star_eq hs [] X.env
  obtain ⟨F, μ, ρ, h, c, er, p⟩ := q
  refine PyProof.Rows.callWith_type1 (PyProof.Rows.args_cons (thn (ha.pe.run pins s σ H _ I ⟨F, μ, ρ, h, c, er, Post.bind p⟩) fun v s1 hv => PyProof.Rows.args_nil ?_) na) na rfl
  obtain ⟨u, H1, I1, ru, F1, μ1, x, h1, x1, c1, r1, p⟩ := hv
  simp only [bltV] at p
  split at p
  · rename_i xs hxs
    split at p
    · rename_i hok
      simp only [Bool.and_eq_true, decide_eq_true_eq, List.all_eq_true] at hok
      obtain ⟨hh, few⟩ := hok
      obtain ⟨l, us, eu, hq, rs⟩ : ∃ l us, u = V.ref l ∧ (SqL X.K H1 l us ∨ SqT X.K H1 l us) ∧ RVs D F1 μ1 xs us := by
        rw [k.hK]
        exact asSeq_ok c1 r1 hxs
      subst eu
      cases ru
      obtain ⟨its, rv, src⟩ : ∃ its : List Value, Vals us its ∧ (s1.heap.IsList l its.toArray ∨ s1.heap.IsTuple l its.toArray) := by
        rcases hq with hq | hq
        · obtain ⟨its, rv, pl, hz⟩ := I1.list hq
          exact ⟨its, rv, .inl pl.isList⟩
        · obtain ⟨its, rv, ht, hz⟩ := I1.tuple hq
          exact ⟨its, rv, .inr ht⟩
      obtain ⟨i1, i2, i3⟩ := its_ok I1 c1 rs rv hh
      have len : (its.zip (xs.map kyOf)).length = xs.length := by
        have := congrArg List.length i2
        simpa using this
      refine SX.call_sx (ks := its.zip (xs.map kyOf)) (I1.ok.hd k.calm) src (by simpa using i1) i3 (by rw [len]; exact few) (by have := k.hu; omega) fun h' tk L es ep t R br hk => ?_
      refine PyProof.Rows.args_nil ?_
      obtain ⟨o, ho, hex, hd⟩ := R.ob
      have I2 : L2.Inv X pins σ H1 { s1 with heap := h', toks := tk } := I1.kept fun b o e => hk b o e
      have num : L.length = (distinct [] xs).length := by
        obtain ⟨d1, d2⟩ := distinct_ok xs [] (by simp) hh (by simp)
        have z := nd_eq R.nd d1 fun y => by
          rw [d2 y]
          simp only [List.map_nil, List.not_mem_nil, false_or]
          constructor
          · intro hy
            obtain ⟨q, hq, e⟩ := List.mem_map.mp hy
            have := br.sub q hq
            rw [List.take_length] at this
            rw [← i2, ← e]
            exact List.mem_map.mpr ⟨q, this, rfl⟩
          · intro hy
            rw [← i2] at hy
            obtain ⟨q, hq, e⟩ := List.mem_map.mp hy
            rw [← e]
            exact br.all q (by rw [List.take_length]; exact hq)
        simpa using z
      have sz := size_rows R.rows
      have few2 := R.few
      refine call_len_set ho hex hd (SR.fits (s := { s1 with heap := h' }) R) (by rw [sz]; omega) ⟨.int L.length, H1, I2.tok _, ⟨_, by rw [sz]⟩, ?_⟩
      rw [num]
      exact post_same c1 (.int _) p
    · exact p.elim
  · exact p.elim
end
end IL
end

section
set_option autoImplicit false
set_option linter.all false
set_option Elab.async false
set_option maxRecDepth 100000
set_option maxHeartbeats 8000000
/-! IL: every expression. -/
namespace IL
open PySem L2 PyProof.Rows
section
variable {D : Wd} {P : Pg} {d : Nat} {G : Gt} {N : List Str}
theorem EOk.eq {W : WX} {X : Cx} {ev ev' : Ev → Hh → Rs Vl} {e : Expr} (h : ∀ ρ h, ev' ρ h = ev ρ h) (k : EOk D W X ev e) : EOk D W X ev' e := by
  have : ev' = ev := by funext ρ h'; exact h ρ h'
  rw [this]; exact k
theorem WOkE.eq {W : WX} {X : Cx} {ev ev' : Ev → Hh → Rs Vl} {e : Expr} (h : ∀ ρ h, ev' ρ h = ev ρ h) (k : WOkE D W X ev e) : WOkE D W X ev' e := by
  have : ev' = ev := by funext ρ h'; exact h ρ h'
  rw [this]; exact k
theorem PA.eq {W : WX} {X : Cx} {ev ev' : Ev → Hh → Rs (List Vl)} {es : List Expr} (h : ∀ ρ h, ev' ρ h = ev ρ h) (k : PA X es (tL D W ev)) : PA X es (tL D W ev') := by
  have : ev' = ev := by funext ρ h'; exact h ρ h'
  rw [this]; exact k
theorem chk_noStar {i : Ex} {sc : Scope} {e : Expr} (h : chkE G N i sc e = true) : noStar e = true := by
  cases e <;> first | rfl | (cases i <;> simp [chkE] at h)
theorem chks_noStar : ∀ {is : List Ex} {sc : Scope} {es : List Expr}, chkL G N is sc es = true → es.all noStar = true
  | [], _, [], _ => rfl
  | [], _, _ :: _, h => by simp [chkL] at h
  | _ :: _, _, [], h => by simp [chkL] at h
  | i :: is, sc, e :: es, h => by
    simp only [chkL, Bool.and_eq_true] at h
    rw [List.all_cons, chk_noStar h.1, chks_noStar h.2]; rfl
theorem chk_noSet {i : Ex} {sc : Scope} {e : Expr} (h : chkE G N i sc e = true) : ∀ (env : Env) x, foldedSetIterable e env x = pure x := by
  intro env x
  cases e <;> first | rfl | (cases i <;> simp [chkE] at h)
theorem chk_noMark {i : Ex} {sc : Scope} {e : Expr} (h : chkE G N i sc e = true) : ∀ p, behindInMarks p e = false := by
  intro p
  cases e <;> first | (cases p <;> rfl) | (cases i <;> simp [chkE] at h)
theorem chk_plainIx {i : Ex} {sc : Scope} {e : Expr} (h : chkE G N i sc e = true) : PlainIx e := by
  intro o x
  cases e <;> first | rfl | (cases i <;> simp [chkE] at h)
theorem chks_nil {is : List Ex} {sc : Scope} (h : chkL G N is sc [] = true) : is = [] := by
  cases is with
  | nil => rfl
  | cons => simp [chkL] at h
theorem chks_len : ∀ {is : List Ex} {sc : Scope} {es : List Expr}, chkL G N is sc es = true → is.length = es.length
  | [], _, [], _ => rfl
  | [], _, _ :: _, h => by simp [chkL] at h
  | _ :: _, _, [], h => by simp [chkL] at h
  | i :: is, sc, e :: es, h => by
    simp only [chkL, Bool.and_eq_true] at h
    simp [chks_len h.2]
theorem evalL_len {cf : Nat → List Vl → Hh → Rs Vl} : ∀ (is : List Ex) (ρ : Ev) (h : Hh) (vs : List Vl) (h' : Hh), evalL P cf is ρ h = .ok vs h' → vs.length = is.length
  | [], ρ, h, vs, h', e => by simp only [evalL] at e; cases e; rfl
  | i :: is, ρ, h, vs, h', e => by
    simp only [evalL] at e
    obtain ⟨v, h1, e1, e2⟩ := bind_ok e
    obtain ⟨ws, h2, e3, e4⟩ := bind_ok e2
    cases e4
    simp
    exact evalL_len is ρ h1 ws _ e3
theorem lit_len (x : Blt) (hb : ∀ n, x ≠ .isinst n) : True := trivial
theorem blt_known {sc : Scope} {W : WX} {X : Cx} (k : XOk D P d G N sc W X) {b : Blt} {x : Str} (h : bltName b = some x ∨ tyFn b = some x) : ∃ v, bootBuiltins x = some v ∧ (∀ E, CallR X v (rL D E (bltV b))) ∧ ((∃ id, v = .builtin id) ∨ ∃ T, v = .type T) := by
  cases b <;> simp only [bltName, tyFn, Option.some.injEq, reduceCtorEq, or_false, false_or, or_self] at h <;> subst h
  · exact ⟨.builtin "len", by decide +kernel, fun E => cr_len k.hK, .inl ⟨_, rfl⟩⟩
  · exact ⟨.builtin "all", by decide +kernel, fun E => cr_allV k.calm, .inl ⟨_, rfl⟩⟩
  · exact ⟨.builtin "any", by decide +kernel, fun E => cr_anyV k.calm, .inl ⟨_, rfl⟩⟩
  · exact ⟨.type "list", by decide +kernel, fun E => cr_listV k.hK _, .inr ⟨_, rfl⟩⟩
  · exact ⟨.type "tuple", by decide +kernel, fun E => cr_tupleV k.hK, .inr ⟨_, rfl⟩⟩
  · exact ⟨.builtin "max", by decide +kernel, fun E => cr_maxV k.calm, .inl ⟨_, rfl⟩⟩
  · exact ⟨.builtin "min", by decide +kernel, fun E => cr_minV k.calm, .inl ⟨_, rfl⟩⟩
abbrev fChn (o₂ : Cop) (ec : Ev → Hh → Rs Vl) (ρ : Ev) (y : Vl) : Vl → Hh → Rs Vl := fun r h3 => match r with
  | .bl true => (ec ρ h3).bind fun z h4 => cmpV o₂ y z h4
  | .bl false => .ok (.bl false) h3
  | _ => .bad
theorem fChn_bl {o₂ : Cop} {ec : Ev → Hh → Rs Vl} {ρ : Ev} {y : Vl} : ∀ v h, (∀ b, v ≠ .bl b) → fChn o₂ ec ρ y v h = .bad := fun v h q => by
  cases v <;> first | rfl | exact absurd rfl (q _)
theorem chn_reads {W : WX} {o₁ o₂ : Cop} {ea eb ec : Ev → Hh → Rs Vl} {σ : L2.St} {H : Hp} {Q : VK} (q : tE D W (fun ρ h => (ea ρ h).bind fun x h1 => (eb ρ h1).bind fun y h2 => (cmpV o₁ x y h2).bind (fChn o₂ ec ρ y)) σ H Q) :
    tChain (r2 D (WE W σ) (cmpV o₁)) (r2 D (WE W σ) (cmpV o₂)) (tE D W ea) (tE D W eb) (tE D W ec) σ H Q := by
  obtain ⟨F, μ, ρ, h, c, er, p⟩ := q
  refine ⟨F, μ, ρ, h, c, er, (Post.bind p).mono fun x H1 q => ?_⟩
  obtain ⟨F1, μ1, v, h1, x1, c1, r1, p⟩ := q
  refine ⟨F1, μ1, ρ, h1, c1, er.mono x1.f x1.m, (Post.bind p).mono fun y H2 q => ?_⟩
  obtain ⟨F2, μ2, w, h2, x2, c2, r2', p⟩ := q
  refine ⟨F2, μ2, h2, v, w, c2, r1.mono x2.f x2.m, r2', (val_bl fChn_bl p).mono fun z H3 q => ?_⟩
  obtain ⟨b, F3, μ3, h3, rfl, x3, c3, p⟩ := q
  refine ⟨b, rfl, ?_⟩
  cases b with
  | false => rw [if_neg Bool.false_ne_true]; exact post_same c3 (.bl _) p
  | true =>
    rw [if_pos rfl]
    refine ⟨F3, μ3, ρ, h3, c3, ((er.mono x1.f x1.m).mono x2.f x2.m).mono x3.f x3.m, (Post.bind p).mono fun t H4 q => ?_⟩
    obtain ⟨F4, μ4, t', h4, x4, c4, r4, p⟩ := q
    exact ⟨F4, μ4, h4, w, t', c4, (r2'.mono x3.f x3.m).mono x4.f x4.m, r4, p⟩
theorem e_chn {sc : Scope} {W : WX} {X : Cx} (k : XOk D P d G N sc W X) (o₁ o₂ : Cop) {ea eb ec : Ev → Hh → Rs Vl} {a b c : Expr} {pos : Pos} (ha : EOk D W X ea a) (hb : EOk D W X eb b) (hc : EOk D W X ec c) (hm : ∀ p, behindInMarks p c = false) :
    EOk D W X (fun ρ h => (ea ρ h).bind fun x h1 => (eb ρ h1).bind fun y h2 => (cmpV o₁ x y h2).bind (fChn o₂ ec ρ y)) (.Compare a [copP o₁, copP o₂] [b, c] pos) := by
  have m : lastMarks [copP o₁, copP o₂] [b, c] = false := hm _
  refine ⟨⟨fun pins s σ H Q I q => ?_⟩, ⟨fun pins s σ H Q I q => ?_⟩⟩
  · exact (pe_chain (op_cmp (D := D) (W := WE W σ) k.hK k.hu o₁) (op_cmp (D := D) (W := WE W σ) k.hK k.hu o₂) ha.pe hb.pe hc.pe m).run pins s σ H Q I (chn_reads q)
  · refine (pt_chain (op_cmp (D := D) (W := WE W σ) k.hK k.hu o₁) (op_cmp (D := D) (W := WE W σ) k.hK k.hu o₂) ha.pe hb.pe hc.pe m).run pins s σ H Q I (chn_reads ?_)
    obtain ⟨F, μ, ρ, h, c, er, p⟩ := q
    refine ⟨F, μ, ρ, h, c, er, (Post.bind p).mono fun u H' q => ?_⟩
    obtain ⟨F1, μ1, v, h1, x, c1, r, p⟩ := q
    cases r with
    | bl b => exact ⟨b, rfl, p _ _ _ _ (.refl _ _ _) c1 rfl⟩
    | _ => exact p.elim
theorem callC_keep {P : Pg} {rn : Nat → List Vl → Hh → Rs Vl} {f : Nat} {vs : List Vl} {h : Hh} (hk : ∀ F, P.fn f = some F → F.keep = true) (hn : P.fn f = none → rn f vs h = .bad) : callC P rn f vs h = rn f vs h := by
  unfold callC
  split
  · rename_i e; rw [hn e]
  · rename_i F e; rw [if_pos (hk F e)]
theorem run_none {P : Pg} {d f : Nat} {vs : List Vl} {h : Hh} (e : P.fn f = none) : run P d f vs h = .bad := by
  cases d with
  | zero => rfl
  | succ d => unfold run; rw [e]
abbrev ev (P : Pg) (d : Nat) := evalE P (callC P (run P d))
abbrev evl (P : Pg) (d : Nat) := evalL P (callC P (run P d))
mutual
theorem eE : ∀ (i : Ex) {sc : Scope} {W : WX} {X : Cx}, XOk D P d G N sc W X → ∀ e, chkE G N i sc e = true → EOk D W X (ev P d i) e
  | .var i, sc, W, X, k, e, h => by
    cases e <;> simp only [chkE, Bool.and_eq_true, decide_eq_true_eq, Bool.false_eq_true] at h
    exact (e_var k h.1.1 h.1.2 h.2).eq fun ρ h => by simp only [ev, evalE] <;> rfl
  | .cst v, sc, W, X, k, e, h => by
    cases e <;> simp only [chkE, Bool.false_eq_true] at h
    exact (e_cst h).eq fun ρ h => by simp only [ev, evalE] <;> rfl
  | .gc x v, sc, W, X, k, e, h => by
    cases e <;> simp only [chkE, Bool.and_eq_true, Bool.false_eq_true] at h
    obtain ⟨⟨⟨h1, h2⟩, h3⟩, h4⟩ := h
    split at h4
    · rename_i w hw
      have e1 := eq_of_beq h1
      subst e1
      exact (e_gc k h2 h3 hw h4).eq fun ρ h => by simp only [ev, evalE] <;> rfl
    · cases h4
  | .bin o a b, sc, W, X, k, e, h => by
    cases e <;> simp only [chkE, Bool.and_eq_true, Bool.false_eq_true] at h
    obtain ⟨⟨h1, h2⟩, h3⟩ := h
    have e1 := isOp_eq h1
    subst e1
    exact (e_bin k o (eE a k _ h2) (eE b k _ h3)).eq fun ρ h => by simp only [ev, evalE] <;> rfl
  | .neg a, sc, W, X, k, e, h => by
    unfold chkE at h
    split at h
    · exact (e_neg (eE a k _ h)).eq fun ρ h => by simp only [ev, evalE] <;> rfl
    · cases h
  | .cmp o a b, sc, W, X, k, e, h => by
    unfold chkE at h
    split at h
    · simp only [Bool.and_eq_true] at h
      obtain ⟨⟨h1, h2⟩, h3⟩ := h
      have e1 := isCop_eq h1
      subst e1
      exact (e_cmp k o (eE a k _ h2) (eE b k _ h3) (chk_noMark h3)).eq fun ρ h => by simp only [ev, evalE] <;> rfl
    · cases h
  | .chn o₁ o₂ a b c, sc, W, X, k, e, h => by
    unfold chkE at h
    split at h
    · simp only [Bool.and_eq_true] at h
      obtain ⟨⟨⟨⟨h1, h2⟩, h3⟩, h4⟩, h5⟩ := h
      have e1 := isCop_eq h1
      have e2 := isCop_eq h2
      subst e1 e2
      exact (e_chn k o₁ o₂ (eE a k _ h3) (eE b k _ h4) (eE c k _ h5) (chk_noMark h5)).eq fun ρ h => by simp only [ev, evalE] <;> rfl
    · cases h
  | .and a b, sc, W, X, k, e, h => by
    unfold chkE at h
    split at h
    · simp only [Bool.and_eq_true] at h
      exact (e_and2 (eE a k _ h.1) (eE b k _ h.2)).eok.eq fun ρ h => by simp only [ev, evalE] <;> rfl
    · simp only [Bool.and_eq_true] at h
      exact (e_andN (eE a k _ h.1) (eW b k _ _ _ h.2)).eok.eq fun ρ h => by simp only [ev, evalE] <;> rfl
    · cases h
  | .or a b, sc, W, X, k, e, h => by
    unfold chkE at h
    split at h
    · simp only [Bool.and_eq_true] at h
      exact (e_or2 (eE a k _ h.1) (eE b k _ h.2)).eok.eq fun ρ h => by simp only [ev, evalE] <;> rfl
    · simp only [Bool.and_eq_true] at h
      exact (e_orN (eE a k _ h.1) (eW b k _ _ _ h.2)).eok.eq fun ρ h => by simp only [ev, evalE] <;> rfl
    · cases h
  | .not a, sc, W, X, k, e, h => by
    unfold chkE at h
    split at h
    · exact (e_not (eE a k _ h)).eq fun ρ h => by simp only [ev, evalE] <;> rfl
    · cases h
  | .ite c a b, sc, W, X, k, e, h => by
    unfold chkE at h
    split at h
    · simp only [Bool.and_eq_true] at h
      obtain ⟨⟨h1, h2⟩, h3⟩ := h
      exact (e_iteOk (eE c k _ h1) (eE a k _ h2) (eE b k _ h3)).eq fun ρ h => by simp only [ev, evalE] <;> rfl
    · cases h
  | .tup es, sc, W, X, k, e, h => by
    unfold chkE at h
    split at h
    · exact (e_tup (eL es k _ h)).eq fun ρ h => by simp only [ev, evalE] <;> rfl
    · cases h
  | .lst m es, sc, W, X, k, e, h => by
    unfold chkE at h
    split at h
    · exact (e_lst m (eL es k _ h)).eq fun ρ h => by simp only [ev, evalE] <;> rfl
    · cases h
  | .dnew t, sc, W, X, k, e, h => by
    unfold chkE at h
    split at h
    · exact (e_dnew t).eq fun ρ h => by simp only [ev, evalE] <;> rfl
    · cases h
  | .idx a i, sc, W, X, k, e, h => by
    unfold chkE at h
    split at h
    · simp only [Bool.and_eq_true] at h
      exact (e_idx k (eE a k _ h.1) (eE i k _ h.2) (chk_plainIx h.2)).eq fun ρ h => by simp only [ev, evalE] <;> rfl
    · cases h
  | .slc m a lo hi st, sc, W, X, k, e, h => by
    unfold chkE at h
    split at h
    · rename_i x l u p1 p2
      simp only [Bool.and_eq_true] at h
      obtain ⟨⟨⟨h1, h2⟩, h3⟩, h4⟩ := h
      have part : ∀ (y : Ex) (o : Option Expr), (∀ e', o = some e' → chkE G N y sc e' = true → EOk D W X (ev P d y) e') → (match o with | some l => !isNonE y && chkE G N y sc l | none => isNonE y) = true → PO X o (tO D W fun ρ h => intR y (ev P d y ρ h)) := fun y o ih hh => by
        cases o with
        | none =>
          dsimp only at hh
          have : (fun (ρ : Ev) (h : Hh) => intR y (ev P d y ρ h)) = fun _ h => .ok .non h := by
            funext ρ h'
            unfold intR
            rw [if_pos hh]
            cases y <;> try (simp [isNonE] at hh; done)
            rename_i v
            cases v <;> try (simp [isNonE] at hh; done)
            simp only [ev, evalE]
          rw [this]
          exact o_none
        | some l =>
          simp only [Bool.and_eq_true, Bool.not_eq_true'] at hh
          have : (fun (ρ : Ev) (h : Hh) => intR y (ev P d y ρ h)) = fun ρ h => (ev P d y ρ h).bind intF := by
            funext ρ h'
            unfold intR
            rw [if_neg (by rw [hh.1]; exact Bool.false_ne_true)]
            rfl
          rw [this]
          exact o_some (ih l rfl hh.2)
      have st0 : st = .cst .non := by
        cases st <;> try (simp [isNonE] at h1; done)
        rename_i v
        cases v <;> first | rfl | (simp [isNonE] at h1)
      subst st0
      refine (e_slc k m (eE a k _ h2) (part lo l (fun e' _ hc => eE lo k e' hc) h3) (part hi u (fun e' _ hc => eE hi k e' hc) h4)).eq fun ρ h => ?_
      simp only [ev, evalE]
      congr 1
    · rename_i x kx p1 p2
      simp only [Bool.and_eq_true] at h
      obtain ⟨⟨⟨⟨h1, h2⟩, h2'⟩, h3⟩, h4⟩ := h
      have lo0 : lo = .cst .non := by
        cases lo <;> try (simp [isNonE] at h1; done)
        rename_i v
        cases v <;> first | rfl | (simp [isNonE] at h1)
      have hi0 : hi = .cst .non := by
        cases hi <;> try (simp [isNonE] at h2; done)
        rename_i v
        cases v <;> first | rfl | (simp [isNonE] at h2)
      subst lo0 hi0
      refine (e_step k m (eE a k _ h3) (eE st k _ h4)).eq fun ρ h => ?_
      simp only [Bool.not_eq_true'] at h2'
      have hh : ∀ h, intR st (evalE P (callC P (run P d)) st ρ h) = (evalE P (callC P (run P d)) st ρ h).bind intF := fun h => by
        unfold intR
        rw [if_neg (by rw [h2']; exact Bool.false_ne_true)]
        rfl
      have z : ∀ h1, intR (.cst .non) (Rs.ok Vl.non h1) = .ok .non h1 := fun _ => rfl
      simp only [ev, evalE, z, hh]
      rfl
    · cases h
  | .fld a f, sc, W, X, k, e, h => by
    unfold chkE at h
    split at h
    · simp only [Bool.and_eq_true] at h
      obtain ⟨⟨h1, h2⟩, h3⟩ := h
      have e1 := eq_of_beq h1
      subst e1
      exact (e_fld k f (eE a k _ h3) h2).eq fun ρ h => by simp only [ev, evalE] <;> rfl
    · cases h
  | .call f es, sc, W, X, k, e, h => by
    unfold chkE at h
    split at h
    · simp only [Bool.and_eq_true, decide_eq_true_eq] at h
      obtain ⟨⟨⟨h1, h2⟩, h3⟩, h4⟩ := h
      refine (e_call k h1 h2 h3 (chks_noStar h4) (eL es k _ h4) fun en => ?_).eq fun ρ h => by simp only [ev, evalE] <;> rfl
      subst en
      rw [chks_nil h4]
      funext ρ h'
      simp only [evl, evalL] <;> rfl
    · cases h
  | .meth m o es, sc, W, X, k, e, h => by
    unfold chkE at h
    split at h
    · simp only [Bool.and_eq_true, decide_eq_true_eq] at h
      obtain ⟨⟨⟨⟨⟨h1, h2⟩, h3⟩, h4⟩, h5⟩, h6⟩ := h
      have e1 := eq_of_beq h1
      subst e1
      refine (e_meth k (eE o k _ h5) h3 (chks_noStar h6) h4 h2 (eL es k _ h6) fun en => ?_).eq fun ρ h => by simp only [ev, evalE] <;> rfl
      subst en
      rw [chks_nil h6]
      funext ρ h'
      simp only [evl, evalL] <;> rfl
    · cases h
  | .bm m o es, sc, W, X, k, e, h => by
    unfold chkE at h
    split at h
    · simp only [Bool.and_eq_true, decide_eq_true_eq] at h
      obtain ⟨⟨⟨⟨⟨h1, h2⟩, h3⟩, h4⟩, h5⟩, h6⟩ := h
      have e1 := eq_of_beq h1
      subst e1
      refine (e_bm k (eE o k _ h5) h3 (chks_noStar h6) h4 h2 (eL es k _ h6) fun en => ?_).eq fun ρ h => by simp only [ev, evalE] <;> rfl
      subst en
      rw [chks_nil h6]
      funext ρ h'
      simp only [evl, evalL] <;> rfl
    · cases h
  | .make C es, sc, W, X, k, e, h => by
    unfold chkE at h
    split at h
    · simp only [Bool.and_eq_true, decide_eq_true_eq] at h
      obtain ⟨⟨⟨h1, h2⟩, h3⟩, h4⟩ := h
      refine (e_make k h1 h2 h3 (chks_noStar h4) (eL es k _ h4) fun en => ?_).eq fun ρ h => ?_
      · subst en
        rw [chks_nil h4]
        funext ρ h'
        simp only [evl, evalL] <;> rfl
      · simp only [ev, evalE]
        congr 1
        funext vs h1
        cases hi : P.init C with
        | none => rfl
        | some f =>
          dsimp only
          (rw [callC_keep (fun F e => k.w.kp C f F hi e) run_none]) <;> rfl
    · cases h
  | .blt b es, sc, W, X, k, e, h => by
    unfold chkE at h
    split at h
    · simp only [Bool.and_eq_true] at h
      obtain ⟨⟨⟨h1, h2⟩, h3⟩, h4⟩ := h
      split at h4
      · rename_i n y t p2
        simp only [Bool.and_eq_true, decide_eq_true_eq] at h4
        obtain ⟨⟨⟨⟨⟨⟨g1, g2⟩, g3⟩, g4⟩, g5⟩, g6⟩, g7⟩ := h4
        have e1 := eq_of_beq g1
        have e2 := eq_of_beq g2
        subst e1
        obtain ⟨i, ei, ih, hs⟩ := eO es k y g7
        refine (e_isi k g6 e2 g3 g4 g5 h1 h3 hs ih).eq fun ρ h => ?_
        rw [ei]
        simp only [ev, evalE, evalL]
        cases evalE P (callC P (run P d)) i ρ h <;> rfl
      · cases h4
      · rename_i y t p2 p3
        simp only [Bool.and_eq_true] at h4
        obtain ⟨⟨⟨⟨⟨g1, g2⟩, g3⟩, g4⟩, g5⟩, g6⟩ := h4
        have e1 := eq_of_beq g1
        have e2 := eq_of_beq g2
        subst e1 e2
        obtain ⟨i, ei, ih, hs⟩ := eO es k _ g6
        refine (e_lenset k h1 h3 g3 g5 hs ih).eq fun ρ h => ?_
        rw [ei]
        simp only [ev, evalE, evalL]
        cases evalE P (callC P (run P d)) i ρ h <;> rfl
      · cases h4
      · simp only [Bool.and_eq_true, Bool.or_eq_true, decide_eq_true_eq, Bool.not_eq_true'] at h4
        obtain ⟨⟨g1, g2⟩, g3⟩ := h4
        obtain ⟨v, b1, b2, b3⟩ := blt_known k g1
        refine (e_blt k h1 h2 h3 b1 b2 b3 (chks_noStar g3) (fun z => ?_) (eL es k _ g3)).eq fun ρ h => by simp only [ev, evalE] <;> rfl
        subst z
        simp at g2
    · cases h
  | .lc m own g kk es cond e', sc, W, X, k, e, h => by
    unfold chkE at h
    split at h
    · rename_i elt tg iter ifs scope p1
      simp only [Bool.and_eq_true] at h
      obtain ⟨⟨⟨⟨⟨⟨h1, h2⟩, h3⟩, h4⟩, h5⟩, h6⟩, h7⟩ := h
      have hown : ∀ i ∈ tgNs g, i ∈ own := fun i hi => by
        have z := (List.all_eq_true.mp h2) i hi
        simpa using z
      have pi := eI kk es k iter h5 g tg scope h3 h4
      have pe : ∀ X', XOk D P d G N scope W0 X' → PE X' elt (tE D W0 (ev P d e')) := fun X' k' => (eE e' k' _ h7).pe
      have fin : ∀ (ec : Ev → Hh → Rs (List Vl)) (tt : TT), (∀ ρ h, evl P d cond ρ h = ec ρ h) → TtOk D ec tt → (∀ X', XOk D P d G N scope W0 X' → PTs X' ifs tt) → EOk D W X (ev P d (.lc m own g kk es cond e')) (.ListComp elt [⟨tg, iter, ifs, 0⟩] scope p1) := fun ec tt he htt pt => by
        have o : LOk D P d G N W X g own kk (evl P d es) ec (ev P d e') tg iter ifs elt scope tt := ⟨pi.1, blk_ok k h1, h4, hown, htt, pt, pe, pi.2⟩
        refine (eok_val (e_lc (pos := p1) (m := m) k o) (by intro _; rfl)).eq fun ρ h => ?_
        have he' : ec = evl P d cond := by funext ρ h; exact (he ρ h).symm
        subst he'
        (simp only [ev, evalE]) <;> rfl
      obtain ⟨ec, tt, e1, e2, e3⟩ := eC cond scope ifs h6
      exact fin ec tt e1 e2 e3
    · cases h
termination_by i => (sizeOf i, 0)
theorem eC : ∀ (cond : List Ex) (scope : Scope) (ifs : List Expr), (match cond, ifs with | [], [] => true | [c], [t] => chkE G N c scope t | _, _ => false) = true → ∃ (ec : Ev → Hh → Rs (List Vl)) (tt : TT), (∀ ρ h, evl P d cond ρ h = ec ρ h) ∧ TtOk D ec tt ∧ (∀ X', XOk D P d G N scope W0 X' → PTs X' ifs tt)
  | [], scope, [], h => ⟨_, _, fun ρ h => by simp only [evl, evalL] <;> rfl, tt_nil, fun X' k' => pts_nil⟩
  | [c], scope, [t], h => ⟨_, _, fun ρ h => by simp only [evl, evalL] <;> rfl, tt_one (ea := ev P d c), fun X' k' => pts_one (eE c k' _ h).pt⟩
  | [], _, _ :: _, h => by simp at h
  | [_], _, [], h => by simp at h
  | [_], _, _ :: _ :: _, h => by simp at h
  | _ :: _ :: _, _, [], h => by simp at h
  | _ :: _ :: _, _, _ :: _, h => by simp at h
termination_by cond => (sizeOf cond, 1)
theorem eO : ∀ (es : List Ex) {sc : Scope} {W : WX} {X : Cx}, XOk D P d G N sc W X → ∀ e, chkL G N es sc [e] = true → ∃ i, es = [i] ∧ EOk D W X (ev P d i) e ∧ noStar e = true
  | [i], sc, W, X, k, e, h => by
    simp only [chkL, Bool.and_true] at h
    exact ⟨i, rfl, eE i k e h, chk_noStar h⟩
  | [], _, _, _, _, _, h => by simp [chkL] at h
  | _ :: _ :: _, _, _, _, _, _, h => by simp [chkL] at h
termination_by es => (sizeOf es, 1)
theorem eI : ∀ (kk : Ik) (es : List Ex) {sc : Scope} {W : WX} {X : Cx}, XOk D P d G N sc W X → ∀ iter, chkI G N kk es sc iter = true → ∀ (g : Tg) (tg : Expr) (scope : Scope), tgK kk g = true → chkT N g scope tg = true → PI X tg iter (tW D W kk (evl P d es)) ∧ ∀ x, foldedSetIterable iter X.env x = pure x
  | .seq, [a], sc, W, X, k, iter, h, g, tg, scope, h3, h4 => by
    have h : chkE G N a sc iter = true := by simpa only [chkI, chkI1, chkL, Bool.and_true] using h
    have z := pi_seq (tg := tg) k (eE a k _ h)
    have e : one (ev P d a) = evl P d [a] := by
      funext ρ h'
      simp only [evl, evalL] <;> rfl
    rw [e] at z
    exact ⟨z, chk_noSet h _⟩
  | .seq, [], _, _, _, _, _, h, _, _, _, _, _ => by simp [chkI, chkI1, chkL] at h
  | .seq, _ :: _ :: _, _, _, _, _, _, h, _, _, _, _, _ => by simp [chkI, chkI1, chkL] at h
  | .rng, es, sc, W, X, k, iter, h, g, tg, scope, h3, h4 => by
    unfold chkI chkI1 at h
    dsimp only at h
    split at h
    · rename_i x p1 xs p2
      simp only [Bool.and_eq_true, Bool.or_eq_true, beq_iff_eq] at h
      obtain ⟨⟨⟨⟨h1, h2⟩, h5⟩, h6⟩, h7⟩ := h
      subst h1
      refine ⟨pi_rng k h2 h5 (chks_noStar h7) h6 (eL es k _ h7) fun ρ h vs h' e => ?_, fun x => rfl⟩
      rw [evalL_len _ _ _ _ _ e, chks_len h7]
    · cases h
  | .enum, es, sc, W, X, k, iter, h, g, tg, scope, h3, h4 => by
    unfold chkI chkI1 at h
    dsimp only at h
    split at h
    · rename_i x p1 xs p2
      simp only [Bool.and_eq_true, beq_iff_eq] at h
      obtain ⟨⟨⟨⟨h1, h2⟩, h5⟩, h6⟩, h7⟩ := h
      subst h1
      cases g with
      | nm i => simp [tgK] at h3
      | tp gs =>
        cases tg <;> simp only [chkT, Bool.false_eq_true] at h4
        match xs, h6, h7 with
        | [y], _, h7 =>
          have hs := chks_noStar h7
          rw [List.all_cons, Bool.and_eq_true] at hs
          exact ⟨pi_en k h2 h5 hs.1 (eL es k _ h7), fun x => rfl⟩
    · cases h
  | .zip, _, _, _, _, _, _, h, _, _, _, _, _ => by simp [chkI, chkI1, chkL] at h
  | .items, _, _, _, _, _, _, h, _, _, _, _, _ => by simp [chkI, chkI1, chkL] at h
termination_by _ es => (sizeOf es, 1)
theorem eW : ∀ (i : Ex) {sc : Scope} {W : WX} {X : Cx}, XOk D P d G N sc W X → ∀ op vs p, chkE G N i sc (.BoolOp op vs p) = true → WOkE D W X (ev P d i) (.BoolOp op vs p)
  | .and a b, sc, W, X, k, op, vs, p, h => by
    unfold chkE at h
    split at h
    · rename_i e1; cases e1
      simp only [Bool.and_eq_true] at h
      exact (e_and2 (eE a k _ h.1) (eE b k _ h.2)).eq fun ρ h => by simp only [ev, evalE] <;> rfl
    · rename_i e1; cases e1
      simp only [Bool.and_eq_true] at h
      exact (e_andN (eE a k _ h.1) (eW b k _ _ _ h.2)).eq fun ρ h => by simp only [ev, evalE] <;> rfl
    · cases h
  | .or a b, sc, W, X, k, op, vs, p, h => by
    unfold chkE at h
    split at h
    · rename_i e1; cases e1
      simp only [Bool.and_eq_true] at h
      exact (e_or2 (eE a k _ h.1) (eE b k _ h.2)).eq fun ρ h => by simp only [ev, evalE] <;> rfl
    · rename_i e1; cases e1
      simp only [Bool.and_eq_true] at h
      exact (e_orN (eE a k _ h.1) (eW b k _ _ _ h.2)).eq fun ρ h => by simp only [ev, evalE] <;> rfl
    · cases h
  | .var _, _, _, _, _, _, _, _, h => by simp [chkE] at h
  | .cst _, _, _, _, _, _, _, _, h => by simp [chkE] at h
  | .gc _ _, _, _, _, _, _, _, _, h => by simp [chkE] at h
  | .bin _ _ _, _, _, _, _, _, _, _, h => by simp [chkE] at h
  | .neg _, _, _, _, _, _, _, _, h => by simp [chkE] at h
  | .cmp _ _ _, _, _, _, _, _, _, _, h => by simp [chkE] at h
  | .chn _ _ _ _ _, _, _, _, _, _, _, _, h => by simp [chkE] at h
  | .not _, _, _, _, _, _, _, _, h => by simp [chkE] at h
  | .ite _ _ _, _, _, _, _, _, _, _, h => by simp [chkE] at h
  | .tup _, _, _, _, _, _, _, _, h => by simp [chkE] at h
  | .lst _ _, _, _, _, _, _, _, _, h => by simp [chkE] at h
  | .dnew _, _, _, _, _, _, _, _, h => by simp [chkE] at h
  | .idx _ _, _, _, _, _, _, _, _, h => by simp [chkE] at h
  | .slc _ _ _ _ _, _, _, _, _, _, _, _, h => by simp [chkE] at h
  | .fld _ _, _, _, _, _, _, _, _, h => by simp [chkE] at h
  | .call _ _, _, _, _, _, _, _, _, h => by simp [chkE] at h
  | .meth _ _ _, _, _, _, _, _, _, _, h => by simp [chkE] at h
  | .bm _ _ _, _, _, _, _, _, _, _, h => by simp [chkE] at h
  | .make _ _, _, _, _, _, _, _, _, h => by simp [chkE] at h
  | .blt _ _, _, _, _, _, _, _, _, h => by simp [chkE] at h
  | .lc _ _ _ _ _ _ _, _, _, _, _, _, _, _, h => by simp [chkE] at h
termination_by i => (sizeOf i, 0)
theorem eL : ∀ (is : List Ex) {sc : Scope} {W : WX} {X : Cx}, XOk D P d G N sc W X → ∀ es, chkL G N is sc es = true → PA X es (tL D W (evl P d is))
  | [], sc, W, X, k, [], h => PA.eq (fun ρ h => by simp only [evl, evalL] <;> rfl) l_nil
  | [], _, _, _, _, _ :: _, h => by simp [chkL] at h
  | _ :: _, _, _, _, _, [], h => by simp [chkL] at h
  | i :: is, sc, W, X, k, e :: es, h => by
    simp only [chkL, Bool.and_eq_true] at h
    exact PA.eq (fun ρ h => by simp only [evl, evalL] <;> rfl) (l_cons (eE i k _ h.1) (chk_noStar h.1) (eL is k _ h.2))
termination_by is => (sizeOf is, 0)
end
end
end IL
end

section
set_option autoImplicit false
set_option linter.all false
set_option Elab.async false
set_option maxRecDepth 100000
set_option maxHeartbeats 4000000
/-! IL: stores into lists, dicts, instances. -/
namespace IL
open PySem L2 PyProof.Rows
section
variable {D : Wd} {F : Hp} {μ : List Addr} {h : Hh} {H : Hp}
theorem RT.has {es : List (Vl × Vl)} {kvs : List (List Key × V)} (r : RT D F μ es kvs) (ks : List Key) : dHas es (.tup (ks.map kVl)) = kvs.any fun kv => decide (kv.1 = ks) := by
  induction es generalizing kvs with
  | nil => cases r; rfl
  | cons e es ih =>
    cases r with
    | @cons js v u _ kvs r t =>
      have ih := ih t
      unfold dHas at ih ⊢
      rw [List.any_cons, List.any_cons, ih]
      simp only [eqv, eqvs_k]
theorem RK.has {es : List (Vl × Vl)} {kvs : List (Key × V)} (r : RK D F μ es kvs) (k : Key) : dHas es (kVl k) = kvs.any fun kv => decide (kv.1 = k) := by
  induction es generalizing kvs with
  | nil => cases r; rfl
  | cons e es ih =>
    cases r with
    | @cons j v u _ kvs r t =>
      have ih := ih t
      unfold dHas at ih ⊢
      rw [List.any_cons, List.any_cons, ih]
      simp only [eqv_k]
theorem RT.maps {es : List (Vl × Vl)} {kvs : List (List Key × V)} (r : RT D F μ es kvs) (ks : List Key) {v : Vl} {u : V} (rv : RV D F μ v u) : RT D F μ (es.map fun e => if eqv e.1 (.tup (ks.map kVl)) then (e.1, v) else e) (kvs.map fun kv => if kv.1 = ks then (kv.1, u) else kv) := by
  induction es generalizing kvs with
  | nil => cases r; exact .nil
  | cons e es ih =>
    cases r with
    | @cons js v' u' _ kvs r t =>
      have ih := ih t
      simp only [List.map_cons, eqv, eqvs_k]
      by_cases q : js = ks
      · simp only [q, decide_true, if_true]
        exact .cons rv ih
      · simp only [q, decide_false, Bool.false_eq_true, if_false]
        exact .cons r ih
theorem RK.maps {es : List (Vl × Vl)} {kvs : List (Key × V)} (r : RK D F μ es kvs) (k : Key) {v : Vl} {u : V} (rv : RV D F μ v u) : RK D F μ (es.map fun e => if eqv e.1 (kVl k) then (e.1, v) else e) (kvs.map fun kv => if kv.1 = k then (kv.1, u) else kv) := by
  induction es generalizing kvs with
  | nil => cases r; exact .nil
  | cons e es ih =>
    cases r with
    | @cons j v' u' _ kvs r t =>
      have ih := ih t
      simp only [List.map_cons, eqv_k]
      by_cases q : j = k
      · simp only [q, decide_true, if_true]
        exact .cons rv ih
      · simp only [q, decide_false, Bool.false_eq_true, if_false]
        exact .cons r ih
theorem RT.app {es : List (Vl × Vl)} {kvs : List (List Key × V)} (r : RT D F μ es kvs) (ks : List Key) {v : Vl} {u : V} (rv : RV D F μ v u) : RT D F μ (es ++ [(.tup (ks.map kVl), v)]) (kvs ++ [(ks, u)]) := by
  induction es generalizing kvs with
  | nil => cases r; exact .cons rv .nil
  | cons e es ih =>
    cases r with
    | cons r t => exact .cons r (ih t)
theorem RK.app {es : List (Vl × Vl)} {kvs : List (Key × V)} (r : RK D F μ es kvs) (k : Key) {v : Vl} {u : V} (rv : RV D F μ v u) : RK D F μ (es ++ [(kVl k, v)]) (kvs ++ [(k, u)]) := by
  induction es generalizing kvs with
  | nil => cases r; exact .cons rv .nil
  | cons e es ih =>
    cases r with
    | cons r t => exact .cons r (ih t)
theorem RT.put {es : List (Vl × Vl)} {kvs : List (List Key × V)} (r : RT D F μ es kvs) (ks : List Key) {v : Vl} {u : V} (rv : RV D F μ v u) : RT D F μ (dPut es (.tup (ks.map kVl)) v) (putK kvs ks u) := by
  unfold dPut putK
  rw [r.has ks]
  split
  · exact r.maps ks rv
  · exact r.app ks rv
theorem RK.put {es : List (Vl × Vl)} {kvs : List (Key × V)} (r : RK D F μ es kvs) (k : Key) {v : Vl} {u : V} (rv : RV D F μ v u) : RK D F μ (dPut es (kVl k) v) (putK kvs k u) := by
  unfold dPut putK
  rw [r.has k]
  split
  · exact r.maps k rv
  · exact r.app k rv
theorem RT.length {es : List (Vl × Vl)} {kvs : List (List Key × V)} (r : RT D F μ es kvs) : es.length = kvs.length := by
  induction es generalizing kvs with
  | nil => cases r; rfl
  | cons e es ih => cases r with | cons r t => simp [ih t]
theorem RK.length {es : List (Vl × Vl)} {kvs : List (Key × V)} (r : RK D F μ es kvs) : es.length = kvs.length := by
  induction es generalizing kvs with
  | nil => cases r; rfl
  | cons e es ih => cases r with | cons r t => simp [ih t]
theorem RF.put {f : Str} {v : Vl} {u : V} (rv : RV D F μ v u) : ∀ {fs : List (Str × Vl)} {gs : List (Str × V)}, RF D F μ fs gs → RF D F μ (putFs f v fs) (putF f u gs)
  | _, _, .nil => .cons rv .nil
  | _, _, .cons (f := g) r t => by
    unfold putFs putF
    split
    · rename_i e; subst e; exact .cons rv t
    · exact .cons r (RF.put rv t)
theorem RF.length : ∀ {fs : List (Str × Vl)} {gs : List (Str × V)}, RF D F μ fs gs → fs.length = gs.length
  | _, _, .nil => rfl
  | _, _, .cons r t => by simp [RF.length t]
/-- o[i] = v -/
def setR (D : Wd) : TSet := fun o i v H Q => ∃ F μ h x y w, CS D F μ h H ∧ RV D F μ x o ∧ RV D F μ y i ∧ RV D F μ w v ∧ match setIV x y w h with
  | some h' => ∀ F' μ' H', Xt F μ H F' μ' H' → CS D F' μ' h' H' → Q H'
  | none => False
theorem pset {X : Cx} (hK : X.K = D.K) (hu : X.A.units + 65 < cLine) : PSet X (setR D) := by
  intro pins s σ H o i v ov iv u Q I ro ri rv hh
  obtain ⟨F, μ, h, x, y, w, c, rx, ry, rw', p⟩ := hh
  cases e : setIV x y w h with
  | none => rw [e] at p; exact p.elim
  | some h' =>
    rw [e] at p
    unfold setIV at e
    cases rx with
    | @ref l a hm =>
      dsimp only at e
      split at e
      · rename_i xs hx
        obtain ⟨b, u', e1, e2, e3, e4⟩ := c.ob l _ hx
        rw [hm] at e1
        cases e1
        cases e4 with
        | @lst _ us r =>
          cases ry with
          | int k =>
            simp only [Option.map_eq_some_iff] at e
            obtain ⟨j, ej, rfl⟩ := e
            obtain ⟨c', x'⟩ := c.put (lt_len hx) hm (RO.lst (r.set rw' j))
            refine set_list pins s σ H _ _ v ov iv u Q I ro ri rv ⟨_, us, k, j, rfl, rfl, e3, ?_, p _ _ _ x' c'⟩
            rw [← r.length]
            exact ej
          | _ => simp at e
      · rename_i t es hx
        split at e
        · rename_i hk
          cases e
          simp only [Bool.and_eq_true, decide_eq_true_eq] at hk
          obtain ⟨hk, hl⟩ := hk
          obtain ⟨b, u', e1, e2, e3, e4⟩ := c.ob l _ hx
          rw [hm] at e1
          cases e1
          have hsz : (100000 : Nat) < sizeLine := by rw [sizeLine_eq]; decide
          obtain rfl : ov = Value.ref a := ro
          cases e4 with
          | @dT _ kvs r =>
            simp only [isKey, if_true] at hk
            cases ry with
            | tup hf rs =>
              obtain ⟨ks, f1, f2⟩ := keys_ok rs hk
              subst f1 f2
              have hb := c.sub.tup hf
              obtain ⟨c', x'⟩ := c.put (lt_len hx) hm (RO.dT (r.put ks rw'))
              have q := p _ _ _ x' c'
              exact d_setItem (by omega) I (.t e3 hb (by rw [← r.length]; omega)) ri rv fun s' I' => ⟨_, I', q⟩
            | _ => simp at hk
          | @dK _ kvs r =>
            simp only [isKey, Bool.false_eq_true, if_false] at hk
            obtain ⟨k, rfl, rfl⟩ := key1_ok ry hk
            obtain ⟨c', x'⟩ := c.put (lt_len hx) hm (RO.dK (r.put k rw'))
            have q := p _ _ _ x' c'
            exact d_setItem (by omega) I (.k e3 (by rw [← r.length]; omega)) ri rv fun s' I' => ⟨_, I', q⟩
        · cases e
      · cases e
    | _ => simp at e
end
end IL
end

section
set_option autoImplicit false
set_option linter.all false
set_option Elab.async false
set_option maxRecDepth 100000
set_option maxHeartbeats 4000000
/-! IL: statements. -/
namespace IL
open PySem L2 PyProof.Rows
def notLc : Expr → Bool
  | .ListComp _ _ _ _ => false
  | _ => true
def notTupE : Expr → Bool
  | .Tuple _ _ _ => false
  | _ => true
def isLc : Ex → Bool
  | .lc _ _ _ _ _ _ _ => true
  | _ => false
/-- name = [..]: on the name's own line, the name not told anew within -/
def locB (sc : Scope) (x : Str) : Bool := match sc.names.lookup x with
  | some .local => true
  | some .cell => true
  | _ => false
def lcFits (sc : Scope) (x : Str) (p : Pos) (v : Expr) : Bool := match v with
  | .ListComp _ _ scope lp => decide (sc.names.lookup x = some .cell) || (p.line == lp.line) && !(scope.names.any fun (n, k) => n == x && (k == .local || k == .cell))
  | _ => true
section
variable (G : Gt) (N : List Str)
mutual
def chkS : Sm → Scope → Stmt → Bool
  | .set i e, sc, s => match s with
    | .Assign [.Name x p] v _ => decide (N[i]? = some x) && locB sc x && chkE G N e sc v && lcFits sc x p v
    | _ => false
  | .setT gs e, sc, s => match s with
    | .Assign [.Tuple ts k p] v _ => chkT N (.tp gs) sc (.Tuple ts k p) && notLc v && notTupE v && chkE G N e sc v
    | _ => false
  | .setI o i e, sc, s => match s with
    | .Assign [.Subscript x y _] v _ => notLc v && chkE G N o sc x && chkE G N i sc y && chkE G N e sc v
    | _ => false
  | .setF o f e, sc, s => match s with
    | .Assign [.Attribute x g _] v _ => f == g && notLc v && chkE G N o sc x && chkE G N e sc v
    | _ => false
  | .drop e, sc, s => match s with
    | .Expr v _ => notLc v && chkE G N e sc v
    | _ => false
  | .ret e, sc, s => match s with
    | .Return (some v) _ => chkE G N e sc v
    | _ => false
  | .retN, _, s => match s with
    | .Return none _ => true
    | _ => false
  | .pass, _, s => match s with
    | .Pass _ => true
    | _ => false
  | .ife c a b, sc, s => match s with
    | .If t x y _ => chkE G N c sc t && chkB a sc x && chkB b sc y
    | _ => false
  | .for_ g k es body, sc, s => match s with
    | .For tg iter b [] _ => tgK k g && chkT N g sc tg && chkI G N k es sc iter && chkB body sc b
    | _ => false
  | .whl _ c body, sc, s => match s with
    | .While t b [] _ => chkE G N c sc t && chkB body sc b
    | _ => false
  | _, _, _ => false
def chkB : List Sm → Scope → List Stmt → Bool
  | [], _, [] => true
  | s :: ss, sc, x :: xs => chkS s sc x && chkB ss sc xs
  | _, _, _ => false
end
end
/-- a statement's place: in a def's body -/
structure SOk (D : Wd) (P : Pg) (d : Nat) (G : Gt) (N : List Str) (sc : Scope) (W : WX) (X : Cx) : Prop extends XOk D P d G N sc W X where
  sceq : X.env.scope = sc
  kind : X.env.scope.kind = .function
  pass : PassesOwn (model X.prog X.w) X.A X.env X.xe
  own : X.stack = X.env :: X.outer
  frame : X.env.frame = some X.env.locals
/-- what stands behind a statement of ours -/
def FlQ (D : Wd) (W : WX) (F : Hp) (μ : List Addr) (H : Hp) (f : Fl) (E : Ends) : Prop := match f with
  | .nx ρ' h' => ∀ F' μ' H' σ', Xt F μ H F' μ' H' → CS D F' μ' h' H' → ER D F' μ' ρ' σ' → E.nx σ' H'
  | .bk ρ' h' => ∀ F' μ' H' σ', Xt F μ H F' μ' H' → CS D F' μ' h' H' → ER D F' μ' ρ' σ' → E.bk σ' H'
  | .ct ρ' h' => ∀ F' μ' H' σ', Xt F μ H F' μ' H' → CS D F' μ' h' H' → ER D F' μ' ρ' σ' → E.ct σ' H'
  | .rt v h' => ∀ F' μ' H' u, Xt F μ H F' μ' H' → CS D F' μ' h' H' → RV D F' μ' v u → E.rt u H'
  | .ex C ρ' h' => ∀ F' μ' H' σ' A, Xt F μ H F' μ' H' → CS D F' μ' h' H' → ER D F' μ' ρ' σ' → D.cls C = some A → W (.ref A) none σ' H'
  | .bad => False
theorem FlQ.from {D : Wd} {W : WX} {F : Hp} {μ : List Addr} {H : Hp} {F1 : Hp} {μ1 : List Addr} {H1 : Hp} {f : Fl} {E : Ends} (x : Xt F μ H F1 μ1 H1) (p : FlQ D W F μ H f E) : FlQ D W F1 μ1 H1 f E := by
  cases f with
  | bad => exact p
  | ex C ρ' h' => exact fun F2 μ2 H2 σ' A x2 => p F2 μ2 H2 σ' A (x.trans x2)
  | rt v h' => exact fun F2 μ2 H2 u x2 => p F2 μ2 H2 u (x.trans x2)
  | nx ρ' h' => exact fun F2 μ2 H2 σ' x2 => p F2 μ2 H2 σ' (x.trans x2)
  | bk ρ' h' => exact fun F2 μ2 H2 σ' x2 => p F2 μ2 H2 σ' (x.trans x2)
  | ct ρ' h' => exact fun F2 μ2 H2 σ' x2 => p F2 μ2 H2 σ' (x.trans x2)
/-- an expression ahead of a statement's end -/
theorem fl_bind {α β : Type} {D : Wd} {W : WX} {R : Hp → List Addr → α → β → Prop} {F : Hp} {μ : List Addr} {H : Hp} {r : Rs α} {ρ : Ev} {σ : L2.St} {f : α → Hh → Fl} {E : Ends} (er : ER D F μ ρ σ) (p : FlQ D W F μ H (Rs.fl r ρ f) E) :
    Post D R F μ H r (fun u H1 => ∃ F1 μ1 v h1, Xt F μ H F1 μ1 H1 ∧ CS D F1 μ1 h1 H1 ∧ R F1 μ1 v u ∧ FlQ D W F1 μ1 H1 (f v h1) E) (WE W σ) := by
  cases r with
  | bad => exact p
  | exc C h => exact fun F1 μ1 H1 A x c k => p F1 μ1 H1 σ A x c (er.mono x.f x.m) k
  | ok v h => exact fun F1 μ1 H1 u x c rr => ⟨F1, μ1, v, h, x, c, rr, p.from x⟩
def tS (D : Wd) (W : WX) (ev : Ev → Hh → Fl) : TS := fun E σ H => ∃ F μ ρ h, CS D F μ h H ∧ ER D F μ ρ σ ∧ FlQ D W F μ H (ev ρ h) E
theorem _root_.L2.PS.imp {X : Cx} {st : Stmt} {t t' : TS} (h : PS X st t) (q : ∀ E σ H, t' E σ H → t E σ H) : PS X st t' := ⟨fun pins s σ H D I w => h.run pins s σ H D I (q D σ H w)⟩
theorem _root_.L2.PSs.imp {X : Cx} {st : List Stmt} {t t' : TS} (h : PSs X st t) (q : ∀ E σ H, t' E σ H → t E σ H) : PSs X st t' := ⟨fun pins s σ H D I w => h.run pins s σ H D I (q D σ H w)⟩
/-- a turn of a for ends -/
theorem forL_cases {turn : Vl → Ev → Hh → Fl} {v : Vl} {vs : List Vl} {ρ : Ev} {h : Hh} : forL turn (v :: vs) ρ h = (match turn v ρ h with
    | .nx ρ' h' => forL turn vs ρ' h'
    | .ct ρ' h' => forL turn vs ρ' h'
    | .bk ρ' h' => .nx ρ' h'
    | r => r) := rfl
section
variable {D : Wd} {W : WX} {E : Ends} {ev : Ev → Hh → Fl} {g : Tg}
/-- the turn of a for -/
abbrev turnF (g : Tg) (body : Ev → Hh → Fl) : Vl → Ev → Hh → Fl := fun v ρ h => match bindT g v ρ with
  | some ρ1 => body ρ1 h
  | none => .bad
/-- a turn done: what the loop's rest is -/
theorem turn_reads (gok : GOk D g (tgT D.K g)) {tb : TS} {F2 : Hp} {μ2 : List Addr} {h2 : Hh} {H2 : Hp} {ρ : Ev} {σ : L2.St} {v : Vl} {u : V} (c : CS D F2 μ2 h2 H2) (er : ER D F2 μ2 ρ σ) (r : RV D F2 μ2 v u)
    (hb : ∀ E σ H, tS D W ev E σ H → tb E σ H) {N : L2.St → Hp → Prop} {rest : Ev → Hh → Fl}
    (hN : ∀ F3 μ3 h3 H3 ρ3 σ3, Xt F2 μ2 H2 F3 μ3 H3 → CS D F3 μ3 h3 H3 → ER D F3 μ3 ρ3 σ3 → FlQ D W F3 μ3 H3 (rest ρ3 h3) E → N σ3 H3)
    (p : FlQ D W F2 μ2 H2 (match turnF g ev v ρ h2 with
      | .nx ρ' h' => rest ρ' h'
      | .ct ρ' h' => rest ρ' h'
      | .bk ρ' h' => .nx ρ' h'
      | r => r) E) : tgT D.K g u σ H2 fun σ2 H2 => tb { E with nx := N, ct := N, bk := E.nx } σ2 H2 := by
  cases e : bindT g v ρ with
  | none => simp only [turnF, e] at p; exact p.elim
  | some ρ1 =>
    simp only [turnF, e] at p
    refine gok.go c er r e fun σ' er' _ => hb _ _ _ ⟨F2, μ2, ρ1, h2, c, er', ?_⟩
    cases e2 : ev ρ1 h2 with
    | bad => rw [e2] at p; exact p.elim
    | ex C ρ' h' => rw [e2] at p; exact p
    | rt v h' => rw [e2] at p; exact p
    | nx ρ' h' => rw [e2] at p; exact fun F' μ' H' σ' x c' er' => hN F' μ' h' H' ρ' σ' x c' er' (p.from x)
    | ct ρ' h' => rw [e2] at p; exact fun F' μ' H' σ' x c' er' => hN F' μ' h' H' ρ' σ' x c' er' (p.from x)
    | bk ρ' h' => rw [e2] at p; exact p
/-- a for over frozen items -/
theorem for_fr (gok : GOk D g (tgT D.K g)) {tb : TS} (hb : ∀ E σ H, tS D W ev E σ H → tb E σ H) {J : It} {F1 : Hp} {μ1 : List Addr} {h1 : Hh} {H1 : Hp} {ρ : Ev} {σ : L2.St} {xs : List Vl} (wk : Wk D J F1 μ1 xs) (c : CS D F1 μ1 h1 H1) (er : ER D F1 μ1 ρ σ)
    (p : FlQ D W F1 μ1 H1 (forL (turnF g ev) xs ρ h1) E) :
    ∃ W : Nat → Nat → L2.St → Hp → Prop, (∃ m, W 0 m σ H1) ∧ ∀ i m σ H, W i m σ H →
      (J.stop i H ∧ E.nx σ H) ∨ (J.go i H ∧ ∃ N : L2.St → Hp → Prop, (∀ σ' H', N σ' H' → ∃ m', m' < m ∧ W (i + 1) m' σ' H') ∧ ∀ x H', J.yld i H x H' → tgT D.K g x σ H' fun σ2 H2 => tb { E with nx := N, ct := N, bk := E.nx } σ2 H2) := by
  let Pv : Nat → L2.St → Hp → Prop := fun i σ H => ∃ F μ ρ h, FExt F1 F ∧ MExt μ1 μ ∧ CS D F μ h H ∧ ER D F μ ρ σ ∧ FlQ D W F μ H (forL (turnF g ev) (xs.drop i) ρ h) E
  refine ⟨fun i m σ H => m = xs.length - i ∧ i ≤ xs.length ∧ Pv i σ H, ⟨_, rfl, Nat.zero_le _, F1, μ1, ρ, h1, .refl _, .refl _, c, er, by simpa using p⟩, ?_⟩
  rintro i m σ H ⟨rfl, hi, F, μ, ρ, h, hF, hm, c, er, p⟩
  have hs : FSub F1 H := FSub.ext hF c.sub
  by_cases hlt : i < xs.length
  · refine .inr ⟨wk.goes i H hlt hs, Pv (i + 1), fun σ' H' p' => ⟨_, by omega, rfl, hlt, p'⟩, fun x H' hy => ?_⟩
    obtain ⟨F3, c3, x3, r3⟩ := wk.yields i H x H' xs[i] (by simp [hlt]) hs hy F μ h hF hm c
    rw [List.drop_eq_getElem_cons hlt, forL_cases] at p
    refine turn_reads gok c3 (er.mono x3.f x3.m) r3 hb (fun F4 μ4 h4 H4 ρ4 σ4 x4 c4 er4 p4 => ⟨F4, μ4, ρ4, h4, (hF.trans x3.f).trans x4.f, (hm.trans x3.m).trans x4.m, c4, er4, p4⟩) (p.from x3)
  · have e : i = xs.length := by omega
    subst e
    rw [List.drop_length] at p
    exact .inl ⟨wk.stops H hs, p _ _ _ _ (.refl _ _ _) c er⟩
end
end IL
end

section
set_option autoImplicit false
set_option linter.all false
set_option Elab.async false
set_option maxRecDepth 100000
set_option maxHeartbeats 8000000
/-! IL: statements, all. -/
namespace IL
open PySem L2 PyProof.Rows
section
variable {D : Wd} {W : WX} {E : Ends} {ev : Ev → Hh → Fl} {g : Tg}
/-- a for over a list of the heap -/
theorem for_ce (gok : GOk D g (tgT D.K g)) {tb : TS} (hb : ∀ E σ H, tS D W ev E σ H → tb E σ H) {F1 : Hp} {μ1 : List Addr} {h1 : Hh} {H1 : Hp} {ρ : Ev} {σ : L2.St} {l n0 : Nat} {a : Addr} (hl : μ1[l]? = some a) (c : CS D F1 μ1 h1 H1) (er : ER D F1 μ1 ρ σ)
    (p : FlQ D W F1 μ1 H1 (forC (turnF g ev) l n0 0 ρ h1) E) :
    ∃ W : Nat → Nat → L2.St → Hp → Prop, (∃ m, W 0 m σ H1) ∧ ∀ i m σ H, W i m σ H →
      ((Itl D.K a).stop i H ∧ E.nx σ H) ∨ ((Itl D.K a).go i H ∧ ∃ N : L2.St → Hp → Prop, (∀ σ' H', N σ' H' → ∃ m', m' < m ∧ W (i + 1) m' σ' H') ∧ ∀ x H', (Itl D.K a).yld i H x H' → tgT D.K g x σ H' fun σ2 H2 => tb { E with nx := N, ct := N, bk := E.nx } σ2 H2) := by
  let Pv : Nat → Nat → L2.St → Hp → Prop := fun i n σ H => ∃ F μ ρ h, FExt F1 F ∧ MExt μ1 μ ∧ CS D F μ h H ∧ ER D F μ ρ σ ∧ FlQ D W F μ H (forC (turnF g ev) l n i ρ h) E
  refine ⟨fun i n σ H => Pv i n σ H, ⟨n0, F1, μ1, ρ, h1, .refl _, .refl _, c, er, p⟩, ?_⟩
  rintro i n σ H ⟨F, μ, ρ, h, hF, hm, c, er, p⟩
  have hl2 := hm.get hl
  have cell : ∀ ys, h[l]? = some (.lst ys) → ∃ zs, SqL D.K H a zs ∧ RVs D F μ ys zs := fun ys hy => by
    obtain ⟨b, u, e1, e3, e4, e5⟩ := c.ob l _ hy
    rw [hl2] at e1
    cases e1
    cases e5 with
    | lst q => exact ⟨_, .of e4, q⟩
  cases n with
  | zero =>
    simp only [forC] at p
    split at p
    · rename_i ys hy
      split at p
      · rename_i hle
        obtain ⟨zs, sq, q⟩ := cell ys hy
        exact .inl ⟨⟨zs, sq, by rw [← q.length]; exact hle⟩, p _ _ _ _ (.refl _ _ _) c er⟩
      · exact p.elim
    · exact p.elim
  | succ n =>
    simp only [forC] at p
    split at p
    · rename_i ys hy
      obtain ⟨zs, sq, q⟩ := cell ys hy
      split at p
      · rename_i v hv
        obtain ⟨z, hz, rz⟩ := q.get hv
        refine .inr ⟨⟨zs, z, sq, hz⟩, Pv (i + 1) n, fun σ' H' p' => ⟨n, by omega, p'⟩, fun x H' hyl => ?_⟩
        obtain ⟨rfl, hx⟩ := hyl
        have := hx zs sq
        rw [hz] at this
        cases this
        exact turn_reads gok c er rz hb (fun F4 μ4 h4 H4 ρ4 σ4 x4 c4 er4 p4 => ⟨F4, μ4, ρ4, h4, hF.trans x4.f, hm.trans x4.m, c4, er4, p4⟩) p
      · rename_i hv
        exact .inl ⟨⟨zs, sq, by rw [← q.length]; exact List.getElem?_eq_none_iff.mp hv⟩, p _ _ _ _ (.refl _ _ _) c er⟩
    · exact p.elim
/-- a test ahead of a statement's end -/
theorem fl_test {F : Hp} {μ : List Addr} {H : Hp} {r : Rs Vl} {ρ : Ev} {σ : L2.St} {f : Vl → Hh → Fl} (hf : ∀ v h, (∀ b, v ≠ .bl b) → f v h = .bad) (er : ER D F μ ρ σ) (p : FlQ D W F μ H (Rs.fl r ρ f) E) :
    Post D RB F μ H (asB r) (fun b H1 => ∃ F1 μ1 h1, Xt F μ H F1 μ1 H1 ∧ CS D F1 μ1 h1 H1 ∧ FlQ D W F1 μ1 H1 (f (.bl b) h1) E) (WE W σ) := by
  cases r with
  | bad => exact p
  | exc C h => exact fun F1 μ1 H1 A x c k => p F1 μ1 H1 σ A x c (er.mono x.f x.m) k
  | ok v h =>
    have p : FlQ D W F μ H (f v h) E := p
    by_cases q : ∃ b, v = .bl b
    · obtain ⟨b, rfl⟩ := q
      intro F1 μ1 H1 u x c e
      cases e
      exact ⟨F1, μ1, h, x, c, p.from x⟩
    · rw [hf v h fun b e => q ⟨b, e⟩] at p
      exact p.elim
theorem whl_reads {test : Ev → Hh → Rs Vl} {turn : Ev → Hh → Fl} {σ : L2.St} {H : Hp} {n : Nat} (q : tS D W (fun ρ h => whlL test turn n ρ h) E σ H) : tWhile (tT D W test) (tS D W turn) E σ H := by
  refine ⟨fun n σ H => tS D W (fun ρ h => whlL test turn n ρ h) E σ H, ⟨n, q⟩, ?_⟩
  rintro n σ H ⟨F, μ, ρ, h, c, er, p⟩
  cases n with
  | zero => exact p.elim
  | succ n =>
    simp only [whlL] at p
    refine ⟨F, μ, ρ, h, c, er, (fl_test (fun v h q => by cases v <;> first | rfl | exact absurd rfl (q _)) er p).mono fun b H1 q => ?_⟩
    obtain ⟨F1, μ1, h1, x, c1, p⟩ := q
    have er1 := er.mono x.f x.m
    cases b with
    | false => rw [if_neg Bool.false_ne_true]; exact p _ _ _ _ (.refl _ _ _) c1 er1
    | true =>
      rw [if_pos rfl]
      refine ⟨fun σ H => tS D W (fun ρ h => whlL test turn n ρ h) E σ H, fun σ' H' q => ⟨n, by omega, q⟩, F1, μ1, ρ, h1, c1, er1, ?_⟩
      dsimp only at p
      cases e2 : turn ρ h1 with
      | bad => rw [e2] at p; exact p.elim
      | ex C ρ' h' => rw [e2] at p; exact p
      | rt v h' => rw [e2] at p; exact p
      | nx ρ' h' => rw [e2] at p; exact fun F' μ' H' σ' x c' er' => ⟨F', μ', ρ', h', c', er', p.from x⟩
      | ct ρ' h' => rw [e2] at p; exact fun F' μ' H' σ' x c' er' => ⟨F', μ', ρ', h', c', er', p.from x⟩
      | bk ρ' h' => rw [e2] at p; exact p
end
section
variable {D : Wd} {P : Pg} {d : Nat} {G : Gt} {N : List Str}
/-- the parts of a comprehension of ours -/
theorem lcOk {m : Bool} {own : List Nat} {g : Tg} {kk : Ik} {es cond : List Ex} {e' : Ex} {sc : Scope} {W : WX} {X : Cx} (k : XOk D P d G N sc W X) {elt : Expr} {gens : List Comprehension} {scope : Scope} {pos : Pos}
    (h : chkE G N (.lc m own g kk es cond e') sc (.ListComp elt gens scope pos) = true) : ∃ tg iter ifs tt, gens = [⟨tg, iter, ifs, 0⟩] ∧ LOk D P d G N W X g own kk (evl P d es) (evl P d cond) (ev P d e') tg iter ifs elt scope tt := by
  unfold chkE at h
  split at h
  · rename_i e1
    cases e1
    rename_i tg iter ifs
    simp only [Bool.and_eq_true] at h
    obtain ⟨⟨⟨⟨⟨⟨h1, h2⟩, h3⟩, h4⟩, h5⟩, h6⟩, h7⟩ := h
    have pi := eI kk es k iter h5 g tg scope h3 h4
    obtain ⟨ec, tt, e1, e2, e3⟩ := eC (P := P) (d := d) (D := D) cond scope ifs h6
    have he' : ec = evl P d cond := by funext ρ h; exact (e1 ρ h).symm
    subst he'
    exact ⟨tg, iter, ifs, tt, rfl, pi.1, blk_ok k h1, h4, fun i hi => by simpa using (List.all_eq_true.mp h2) i hi, e2, e3, fun X' k' => (eE e' k' _ h7).pe, pi.2⟩
  · cases h
abbrev xs (P : Pg) (d : Nat) := execS P (callC P (run P d))
abbrev xb (P : Pg) (d : Nat) := execB P (callC P (run P d))
theorem _root_.L2.PS.eq {X : Cx} {W : WX} {st : Stmt} {a b : Ev → Hh → Fl} (h : ∀ ρ h, b ρ h = a ρ h) (k : PS X st (tS D W a)) : PS X st (tS D W b) := by
  have : b = a := by funext ρ h'; exact h ρ h'
  rw [this]; exact k
theorem _root_.L2.PSs.eq {X : Cx} {W : WX} {st : List Stmt} {a b : Ev → Hh → Fl} (h : ∀ ρ h, b ρ h = a ρ h) (k : PSs X st (tS D W a)) : PSs X st (tS D W b) := by
  have : b = a := by funext ρ h'; exact h ρ h'
  rw [this]; exact k
theorem sw_no {i : Ex} {sc : Scope} {v : Expr} (h : chkE G N i sc v = true) (hn : notLc v = true) (t : Option Expr) (l : Nat) (env : Env) : swapsWith v t l env = pure false := by
  cases v <;> first | rfl | (cases i <;> simp [chkE] at h; done) | (simp [notLc, notTupE] at hn; done)
theorem sws_no {i : Ex} {sc : Scope} {v : Expr} (h : chkE G N i sc v = true) (hn : notLc v = true) (t : Expr) (l : Nat) (env : Env) : swapsWithSole [t] v l env = pure false := sw_no h hn (some t) l env
theorem st_no {i : Ex} {sc : Scope} {v : Expr} (h : chkE G N i sc v = true) (hn : notTupE v = true) (ts : List Expr) (k : Nat) (p : Pos) (env : Env) : swappedStores [.Tuple ts k p] v env = pure none := by
  cases v <;> first | rfl | (cases i <;> simp [chkE] at h; done) | (simp [notLc, notTupE] at hn; done)
theorem tgtT_plain {gs : List Tg} {sc : Scope} {e : Expr} (h : chkT N (.tp gs) sc e = true) (env : Env) : (assignEach [e] env).map (·.2) = [assign e env] := by
  rw [tgt_plain h]; rfl
theorem pg_subOk {X : Cx} {sc : Scope} {i : Ex} {o x : Expr} {p : Pos} (h : chkE G N i sc x = true) : ∀ v, assign (.Subscript o x p) X.env v = (do
      let ov ← holding [v] (eval o X.env)
      let iv ← holding [v, ov] (eval x X.env)
      standAt p
      holding [v, ov, iv] (setItem ov iv v)
      release [v, ov, iv] []) := by
  intro v
  cases x <;> first | rfl | (cases i <;> simp [chkE] at h)
section
variable {sc : Scope} {W : WX} {X : Cx}
theorem sw_cell {elt : Expr} {gs : List Comprehension} {scope : Scope} {pos py : Pos} {y : Str} {l : Nat} {env : Env} (hy : env.scope.names.lookup y = some .cell) : swapsWith (.ListComp elt gs scope pos) (some (.Name y py)) l env = pure false := by
  have ky : env.kindOf y = some .cell := hy
  unfold swapsWith
  simp only [ky]
  have e : (some NameKind.cell == some NameKind.local) = false := by decide
  rw [e, Bool.and_false, Bool.false_and, Bool.false_and]
theorem s_set {i : Nat} {x : Str} {p pos : Pos} {e : Ex} {v : Expr} (k : SOk D P d G N sc W X) (hi : N[i]? = some x) (hl : locB sc x = true) (he : chkE G N e sc v = true)
    (hs : lcFits sc x p v = true) :
    PS X (.Assign [.Name x p] v pos) (tS D W fun ρ h => Rs.fl (ev P d e ρ h) ρ fun v h1 => .nx (ρ.set i (some v)) h1) := by
  have hl2 : sc.names.lookup x = some .local ∨ sc.names.lookup x = some .cell := by
    unfold locB at hl
    split at hl
    · exact .inl (by assumption)
    · exact .inr (by assumption)
    · cases hl
  obtain ⟨lo, lf⟩ := k.loc x hl2
  have rd : ∀ {te : TE}, (∀ σ H Q, tE D W (ev P d e) σ H Q → te σ H Q) → ∀ E σ H, tS D W (fun ρ h => Rs.fl (ev P d e ρ h) ρ fun v h1 => .nx (ρ.set i (some v)) h1) E σ H → tAsg te (gName i) E σ H := fun {te} z E σ H q => by
    obtain ⟨F, μ, ρ, h, c, er, p⟩ := q
    refine z _ _ _ ⟨F, μ, ρ, h, c, er, (fl_bind er p).mono fun u H1 q => ?_⟩
    obtain ⟨F1, μ1, w, h1, x1, c1, r1, p⟩ := q
    exact p _ _ _ _ (.refl _ _ _) c1 ((er.mono x1.f x1.m).set i r1)
  by_cases hn : notLc v = true
  · exact (ps_set (by rw [k.hN]; exact k.nd) (by rw [k.hN]; exact hi) lo (eE e k.toXOk v he).pe (sw_no he hn _ _ _) lf).imp (rd fun _ _ _ q => q)
  · cases v <;> try (exact absurd rfl hn)
    rename_i elt gens scope lp
    by_cases hc : sc.names.lookup x = some .cell
    · exact (ps_set (by rw [k.hN]; exact k.nd) (by rw [k.hN]; exact hi) lo (eE e k.toXOk _ he).pe (sw_cell (by rw [k.sceq]; exact hc)) lf).imp (rd fun _ _ _ q => q)
    have hx : X.env.scope.names.lookup x = some .local := by
      rw [k.sceq]
      exact hl2.resolve_right hc
    cases e <;> try (simp [chkE] at he; done)
    rename_i m own g kk es cond e'
    obtain ⟨tg, iter, ifs, tt, rfl, o⟩ := lcOk (D := D) (P := P) (d := d) (W := W) k.toXOk he
    simp only [lcFits, Bool.and_eq_true, Bool.not_eq_true', Bool.or_eq_true, decide_eq_true_eq, hc, false_or] at hs
    have bk : ∀ s H C cl fp, XOk D P d G N scope W0 (X.blk s H scope (compEnvC scope cl C X.env) fp) := fun s H C cl fp => k.toXOk.blk s H scope o.blk.kind C cl fp
    have z := ps_setLc (pos := lp) (spos := pos) k.calm (by rw [k.hN]; exact k.nd) (by rw [k.hN]; exact hi) hx (sw_true k.kind hx hs.1 hs.2) o.pi o.blk (fun s H C cl fp => (g_ok (bk s H C cl fp) g tg o.tgt).1) (fun s H C cl fp => o.pt _ (bk s H C cl fp)) (fun s H C cl fp => o.pe _ (bk s H C cl fp)) o.hs
    rw [own_map] at z
    refine z.imp (rd fun σ H Q q => lc_reads (m := m) (g_ok (bk X.s_0 X.H_0 0 [] []) g tg o.tgt).2 o.hown o.htt σ H Q ?_)
    have e1 : ev P d (.lc m own g kk es cond e') = lcEv m own g kk (evl P d es) (evl P d cond) (ev P d e') := by
      funext ρ h
      (simp only [ev, evalE]) <;> rfl
    rw [← e1]
    exact q
end
end
end IL
end

section
set_option autoImplicit false
set_option linter.all false
set_option Elab.async false
set_option maxRecDepth 100000
set_option maxHeartbeats 8000000
/-! IL: every statement. -/
namespace IL
open PySem L2 PyProof.Rows
section
variable {D : Wd} {P : Pg} {d : Nat} {G : Gt} {N : List Str}
/-- what a for of ours reads -/
theorem for_reads {W : WX} {E : Ends} {k : Ik} {g : Tg} {el : Ev → Hh → Rs (List Vl)} {bd : Ev → Hh → Fl} {tb : TS} (gok : GOk D g (tgT D.K g)) (hb : ∀ E σ H, tS D W bd E σ H → tb E σ H) {σ : L2.St} {H : Hp}
    (q : tS D W (fun ρ h => Rs.fl (el ρ h) ρ fun vs h1 => match walked k vs h1 with
      | .fr xs => forL (turnF g bd) xs ρ h1
      | .cell l n => forC (turnF g bd) l n 0 ρ h1
      | .bad => .bad) E σ H) : tFor (tW D W k el) (tgT D.K g) tb E σ H := by
  obtain ⟨F, μ, ρ, h, c, er, p⟩ := q
  refine ⟨F, μ, ρ, h, c, er, ?_⟩
  dsimp only at p
  cases e : el ρ h with
  | bad => rw [e] at p; exact p
  | exc C h1 => rw [e] at p; exact fun F1 μ1 H1 A x c k => p F1 μ1 H1 σ A x c (er.mono x.f x.m) k
  | ok vs h1 =>
    rw [e] at p
    intro F1 μ1 H1 us x c1 rs
    refine ⟨F1, μ1, h1, vs, x, c1, rs, rfl, ?_⟩
    have p := p.from x
    have er1 := er.mono x.f x.m
    unfold WR
    simp only [Rs.fl] at p
    split at p
    · rename_i ys ew
      try rw [ew]
      exact fun J wk => for_fr gok hb wk c1 er1 p
    · rename_i l n ew
      try rw [ew]
      exact fun a ha => for_ce gok hb ha c1 er1 p
    · exact p.elim
mutual
theorem sS : ∀ (s : Sm) {sc : Scope} {W : WX} {X : Cx}, SOk D P d G N sc W X → ∀ st, chkS G N s sc st = true → PS X st (tS D W (xs P d s))
  | .set i e, sc, W, X, k, st, h => by
    unfold chkS at h
    split at h
    · simp only [Bool.and_eq_true, decide_eq_true_eq] at h
      obtain ⟨⟨⟨h1, h2⟩, h3⟩, h4⟩ := h
      exact (s_set (d := d) (P := P) k h1 h2 h3 h4).eq fun ρ h => by simp only [xs, execS] <;> rfl
    · cases h
  | .setT gs e, sc, W, X, k, st, h => by
    unfold chkS at h
    split at h
    · simp only [Bool.and_eq_true] at h
      obtain ⟨⟨⟨h1, h2⟩, h3⟩, h4⟩ := h
      obtain ⟨pg, gok⟩ := g_ok k.toXOk (.tp gs) _ h1
      refine ((ps_asg (eE e k.toXOk _ h4).pe pg (sws_no h4 h2 _ _ _) (st_no h4 h3 _ _ _ _) (tgtT_plain h1 _)).imp fun E σ H q => ?_).eq (a := fun ρ h => Rs.fl (ev P d e ρ h) ρ fun v h1 => match v with
        | .tup vs => (match bindTs gs vs ρ with
          | some ρ' => .nx ρ' h1
          | none => .bad)
        | _ => .bad) fun ρ h => by simp only [xs, execS] <;> rfl
      obtain ⟨F, μ, ρ, h, c, er, p⟩ := q
      refine ⟨F, μ, ρ, h, c, er, (fl_bind er p).mono fun u H1 q => ?_⟩
      obtain ⟨F1, μ1, w, h1, x1, c1, r1, p⟩ := q
      split at p
      · rename_i vs
        split at p
        · rename_i ρ' hb
          exact gok.go c1 (er.mono x1.f x1.m) r1 (by simpa only [bindT] using hb) fun σ' er' _ => p _ _ _ _ (.refl _ _ _) c1 er'
        · exact p.elim
      · exact p.elim
    · cases h
  | .setI o i e, sc, W, X, k, st, h => by
    unfold chkS at h
    split at h
    · simp only [Bool.and_eq_true] at h
      obtain ⟨⟨⟨h1, h2⟩, h3⟩, h4⟩ := h
      rename_i pp _ _
      have pg := pg_sub (pos := pp) (eE (d := d) (P := P) o k.toXOk _ h2).pe (eE (d := d) (P := P) i k.toXOk _ h3).pe (pset (D := D) k.hK k.hu) (pg_subOk h3)
      refine ((ps_asg (eE e k.toXOk _ h4).pe pg (sws_no h4 h1 _ _ _) rfl rfl).imp fun E σ H q => ?_).eq (a := fun ρ h => Rs.fl (ev P d e ρ h) ρ fun v h1 => Rs.fl (ev P d o ρ h1) ρ fun x h2 => Rs.fl (ev P d i ρ h2) ρ fun y h3 => match setIV x y v h3 with
        | some h4 => .nx ρ h4
        | none => .bad) fun ρ h => by simp only [xs, execS] <;> rfl
      obtain ⟨F, μ, ρ, h, c, er, p⟩ := q
      refine ⟨F, μ, ρ, h, c, er, (fl_bind er p).mono fun u H1 q => ?_⟩
      obtain ⟨F1, μ1, w, h1, x1, c1, r1, p⟩ := q
      have er1 := er.mono x1.f x1.m
      refine ⟨F1, μ1, ρ, h1, c1, er1, (fl_bind er1 p).mono fun v H2 q => ?_⟩
      obtain ⟨F2, μ2, x, h2, x2, c2, r2, p⟩ := q
      have er2 := er1.mono x2.f x2.m
      refine ⟨F2, μ2, ρ, h2, c2, er2, (fl_bind er2 p).mono fun z H3 q => ?_⟩
      obtain ⟨F3, μ3, y, h3, x3, c3, r3, p⟩ := q
      have er3 := er2.mono x3.f x3.m
      refine ⟨F3, μ3, h3, x, y, w, c3, r2.mono x3.f x3.m, r3, (r1.mono x2.f x2.m).mono x3.f x3.m, ?_⟩
      split
      · rename_i h4 e4
        rw [e4] at p
        exact fun F' μ' H' x' c' => p F' μ' H' σ x' c' (er3.mono x'.f x'.m)
      · rename_i e4
        rw [e4] at p
        exact p
    · cases h
  | .setS _ _ _ _, _, _, _, _, _, h => by simp [chkS] at h
  | .setF o f e, sc, W, X, k, st, h => by
    unfold chkS at h
    split at h
    · simp only [Bool.and_eq_true] at h
      obtain ⟨⟨⟨h1, h2⟩, h3⟩, h4⟩ := h
      have e1 := eq_of_beq h1
      subst e1
      refine ((ps_fld (eE (d := d) (P := P) o k.toXOk _ h3).pe (eE (d := d) (P := P) e k.toXOk _ h4).pe (sw_no h4 h2 _ _ _)).imp fun E σ H q => ?_).eq (a := fun ρ h => Rs.fl (ev P d e ρ h) ρ fun v h1 => Rs.fl (ev P d o ρ h1) ρ fun x h2 => match setFV P x f v h2 with
        | some h3 => .nx ρ h3
        | none => .bad) fun ρ h => by simp only [xs, execS] <;> rfl
      obtain ⟨F, μ, ρ, h, c, er, p⟩ := q
      refine ⟨F, μ, ρ, h, c, er, (fl_bind er p).mono fun u H1 q => ?_⟩
      obtain ⟨F1, μ1, w, h1, x1, c1, r1, p⟩ := q
      have er1 := er.mono x1.f x1.m
      refine ⟨F1, μ1, ρ, h1, c1, er1, (fl_bind er1 p).mono fun v H2 q => ?_⟩
      obtain ⟨F2, μ2, x, h2, x2, c2, r2, p⟩ := q
      have er2 := er1.mono x2.f x2.m
      cases e5 : setFV P x f w h2 with
      | none => rw [e5] at p; exact p.elim
      | some h3 =>
        rw [e5] at p
        unfold setFV at e5
        cases r2 with
        | @ref l a hm =>
          dsimp only at e5
          split at e5
          · rename_i C fs hl
            split at e5
            · rename_i hf
              cases e5
              simp only [Bool.and_eq_true, decide_eq_true_eq] at hf
              obtain ⟨b, u', e1, e2, e3, e4⟩ := c2.ob l _ hl
              rw [hm] at e1
              cases e1
              cases e4 with
              | @ins _ A dx _ gs hc rf =>
                obtain ⟨cl, na⟩ := k.w.fls C A f hc hf.1
                obtain ⟨c', x'⟩ := c2.put (lt_len hl) hm (RO.ins (dx := dx) hc (RF.put (f := f) (r1.mono x2.f x2.m) rf))
                refine ⟨_, A, dx, gs, rfl, e3, cl, na, by rw [← rf.length]; omega, ?_⟩
                exact p _ _ _ σ x' c' (er2.mono x'.f x'.m)
            · cases e5
          · cases e5
        | _ => simp at e5
    · cases h
  | .drop e, sc, W, X, k, st, h => by
    unfold chkS at h
    split at h
    · simp only [Bool.and_eq_true] at h
      refine ((ps_expr (eE (d := d) (P := P) e k.toXOk _ h.2).pe (sw_no h.2 h.1 _ _ _)).imp fun E σ H q => ?_).eq (a := fun ρ h => Rs.fl (ev P d e ρ h) ρ fun _ h1 => .nx ρ h1) fun ρ h => by simp only [xs, execS] <;> rfl
      obtain ⟨F, μ, ρ, h, c, er, p⟩ := q
      refine ⟨F, μ, ρ, h, c, er, (fl_bind er p).mono fun u H1 q => ?_⟩
      obtain ⟨F1, μ1, w, h1, x1, c1, r1, p⟩ := q
      exact p _ _ _ _ (.refl _ _ _) c1 (er.mono x1.f x1.m)
    · cases h
  | .ret e, sc, W, X, k, st, h => by
    unfold chkS at h
    split at h
    · refine ((ps_ret (eE (d := d) (P := P) e k.toXOk _ h).pe).imp fun E σ H q => ?_).eq (a := fun ρ h => Rs.fl (ev P d e ρ h) ρ fun v h1 => .rt v h1) fun ρ h => by simp only [xs, execS] <;> rfl
      obtain ⟨F, μ, ρ, h, c, er, p⟩ := q
      refine ⟨F, μ, ρ, h, c, er, (fl_bind er p).mono fun u H1 q => ?_⟩
      obtain ⟨F1, μ1, w, h1, x1, c1, r1, p⟩ := q
      exact p _ _ _ _ (.refl _ _ _) c1 r1
    · cases h
  | .retN, sc, W, X, k, st, h => by
    unfold chkS at h
    split at h
    · refine (ps_retN.imp fun E σ H q => ?_).eq (a := fun ρ h => .rt .non h) fun ρ h => by simp only [xs, execS] <;> rfl
      obtain ⟨F, μ, ρ, h, c, er, p⟩ := q
      exact p _ _ _ _ (.refl _ _ _) c .non
    · cases h
  | .pass, sc, W, X, k, st, h => by
    unfold chkS at h
    split at h
    · refine (ps_pass.imp fun E σ H q => ?_).eq (a := fun ρ h => .nx ρ h) fun ρ h => by simp only [xs, execS] <;> rfl
      obtain ⟨F, μ, ρ, h, c, er, p⟩ := q
      exact p _ _ _ _ (.refl _ _ _) c er
    · cases h
  | .ife c a b, sc, W, X, k, st, h => by
    unfold chkS at h
    split at h
    · simp only [Bool.and_eq_true] at h
      obtain ⟨⟨h1, h2⟩, h3⟩ := h
      refine ((ps_if (eE (d := d) (P := P) c k.toXOk _ h1).pt (sB a k _ h2) (sB b k _ h3)).imp fun E σ H q => ?_).eq (a := fun ρ h => Rs.fl (ev P d c ρ h) ρ fun x h1 => match x with
        | .bl true => xb P d a ρ h1
        | .bl false => xb P d b ρ h1
        | _ => .bad) fun ρ h => by simp only [xs, execS] <;> rfl
      obtain ⟨F, μ, ρ, h, c, er, p⟩ := q
      refine ⟨F, μ, ρ, h, c, er, (fl_test (fun v h q => by cases v <;> first | rfl | exact absurd rfl (q _)) er p).mono fun b H1 q => ?_⟩
      obtain ⟨F1, μ1, h1, x, c1, p⟩ := q
      have er1 := er.mono x.f x.m
      cases b with
      | true => rw [if_pos rfl]; exact ⟨F1, μ1, ρ, h1, c1, er1, p⟩
      | false => rw [if_neg Bool.false_ne_true]; exact ⟨F1, μ1, ρ, h1, c1, er1, p⟩
    · cases h
  | .for_ g kk es body, sc, W, X, k, st, h => by
    unfold chkS at h
    split at h
    · simp only [Bool.and_eq_true] at h
      obtain ⟨⟨⟨h1, h2⟩, h3⟩, h4⟩ := h
      obtain ⟨pg, gok⟩ := g_ok k.toXOk g _ h2
      obtain ⟨pi, hs⟩ := eI (d := d) (P := P) kk es k.toXOk _ h3 g _ _ h1 h2
      exact ((ps_for k.pass k.calm pi pg (sB body k _ h4) hs).imp fun E σ H q => for_reads gok (fun _ _ _ q => q) q).eq fun ρ h => by simp only [xs, execS] <;> rfl
    · cases h
  | .whl n c body, sc, W, X, k, st, h => by
    unfold chkS at h
    split at h
    · simp only [Bool.and_eq_true] at h
      exact ((ps_while k.pass (eE (d := d) (P := P) c k.toXOk _ h.1).pt (sB body k _ h.2)).imp fun E σ H q => whl_reads (n := n) q).eq fun ρ h => by simp only [xs, execS] <;> rfl
    · cases h
  | .raise _, _, _, _, _, _, h => by simp [chkS] at h
  | .try_ _ _ _ _, _, _, _, _, _, h => by simp [chkS] at h
termination_by s => sizeOf s
theorem sB : ∀ (ss : List Sm) {sc : Scope} {W : WX} {X : Cx}, SOk D P d G N sc W X → ∀ sts, chkB G N ss sc sts = true → PSs X sts (tS D W (xb P d ss))
  | [], sc, W, X, k, [], h => by
    refine (pss_nil.imp fun E σ H q => ?_).eq (a := fun ρ h => .nx ρ h) fun ρ h => by simp only [xb, execB] <;> rfl
    obtain ⟨F, μ, ρ, h, c, er, p⟩ := q
    exact p _ _ _ _ (.refl _ _ _) c er
  | [], _, _, _, _, _ :: _, h => by simp [chkB] at h
  | _ :: _, _, _, _, _, [], h => by simp [chkB] at h
  | s :: ss, sc, W, X, k, st :: sts, h => by
    simp only [chkB, Bool.and_eq_true] at h
    refine ((pss_cons (sS s k st h.1) (sB ss k sts h.2)).imp fun E σ H q => ?_).eq (a := fun ρ h => match xs P d s ρ h with
      | .nx ρ' h' => xb P d ss ρ' h'
      | f => f) fun ρ h => by simp only [xb, execB] <;> rfl
    obtain ⟨F, μ, ρ, h, c, er, p⟩ := q
    refine ⟨F, μ, ρ, h, c, er, ?_⟩
    dsimp only at p
    cases e : xs P d s ρ h with
    | bad => rw [e] at p; exact p
    | ex C ρ' h' => rw [e] at p; exact p
    | rt v h' => rw [e] at p; exact p
    | bk ρ' h' => rw [e] at p; exact p
    | ct ρ' h' => rw [e] at p; exact p
    | nx ρ' h' => rw [e] at p; exact fun F' μ' H' σ' x c' er' => ⟨F', μ', ρ', h', c', er', p.from x⟩
termination_by ss => sizeOf ss
end
end
end IL
end

section
set_option autoImplicit false
set_option linter.all false
set_option Elab.async false
set_option maxRecDepth 100000
set_option maxHeartbeats 8000000
/-! IL: defs, by data. -/
namespace IL
open PySem L2 PyProof.Rows
/-- a def of the text -/
structure FD where
  id : Nat
  /-- its class, by name and number -/
  cl : Option (Str × Nat)
  name : Str
  st : Stmt
  N : List Str
  ps : List Str
structure Dat where
  fds : List FD
  cls : List (Str × Nat)
  exs : List (Str × Nat)
  cis : List (Str × Int)
  css : List (Str × Str)
  bls : List Str
  /-- class, field -/
  flds : List (Nat × Str)
def FD.at_ (f : FD) : Str × Option Str := match f.cl with
  | none => (f.name, none)
  | some (c, _) => (c, some f.name)
def FD.qual (f : FD) : Str := match f.cl with
  | none => f.name
  | some (c, _) => c ++ ("." : Str) ++ f.name
def FD.defD (f : FD) : He.DefD := ⟨f.at_, f.name, f.qual, defArgs f.st, defBody f.st, defScope f.st, [], []⟩
def FD.isTop (f : FD) : Bool := match f.cl with
  | none => true
  | _ => false
def FD.isOf (C : Nat) (f : FD) : Bool := match f.cl with
  | some (_, k) => k == C
  | _ => false
def Dat.nameOf (t : Dat) (C : Nat) : Option Str := ((t.cls ++ t.exs).find? fun p => p.2 == C).map (·.1)
def Dat.mt (t : Dat) (C : Nat) (m : Str) : Option Nat := (t.fds.find? fun f => f.isOf C && f.name == m).map (·.id)
def Dat.fl (t : Dat) (C : Nat) (f : Str) : Bool := t.flds.any fun p => p.1 == C && p.2 == f
def Dat.init (t : Dat) (C : Nat) : Option Nat := if t.cls.any (fun p => p.2 == C) then t.mt C "__init__" else none
def Dat.pg (t : Dat) (fn : Nat → Option Fn) (sub : Nat → Nat → Bool) : Pg := ⟨fn, t.mt, t.fl, t.init, sub⟩
def Dat.gt (t : Dat) : Gt where
  fn := fun x => (t.fds.find? fun f => f.isTop && f.name == x).map (·.id)
  cl := fun x => (t.cls.find? fun p => p.1 == x).map (·.2)
  cn := fun x => match t.cis.find? fun p => p.1 == x with
    | some p => some (.int p.2)
    | none => (t.css.find? fun p => p.1 == x).map fun p => .str p.2
  bl := fun x => t.bls.any fun y => y == x
/-- the facts of the head -/
def Dat.fas (t : Dat) : List He.Fa := (t.fds.map fun f => match f.cl with
    | none => He.Fa.glo f.name
    | some (c, _) => if f.name == ("__init__" : Str) then He.Fa.mkr c else He.Fa.meth c f.name)
  ++ t.cls.flatMap (fun p => [He.Fa.glo p.1, He.Fa.cls p.1])
  ++ t.cis.map (fun p => He.Fa.int p.1 p.2)
  ++ t.css.map (fun p => He.Fa.str p.1 p.2)
  ++ t.bls.map He.Fa.free
  ++ t.flds.filterMap (fun p => (t.nameOf p.1).map fun c => He.Fa.noat c p.2)
  ++ t.exs.flatMap (fun p => [He.Fa.glo p.1, He.Fa.exc p.1])
def Dat.defs (t : Dat) : List He.DefD := t.fds.map FD.defD
/-- the world of a law -/
def Dat.wd (t : Dat) (K : PySem.W.Frag) : Wd := ⟨K, fun C => (t.nameOf C).map (He.ga K)⟩
/-- a def fits its body -/
structure FOk (t : Dat) (P : Pg) (f : FD) : Prop where
  ex : ∃ F, P.fn f.id = some F ∧ F.n = f.ps.length ∧ F.size = f.N.length ∧ chkB t.gt f.N F.body (defScope f.st) (defBody f.st) = true
  sc : FnScope f.N f.ps (defScope f.st)
  bd : ∀ (kV doc pm : Value) (an : Option Addr) (cdv ct : Value) (us : List Value), us.length = f.ps.length → bindArgs (PySem.W.fnOf f.name f.qual (defArgs f.st) (defBody f.st) (defScope f.st) .none kV doc pm an cdv ct) ⟨us, []⟩ = pure (f.ps.zip us)
/-- classes by number and name -/
structure TOk (t : Dat) (P : Pg) : Prop where
  /-- a def's class is one of the table's, and by that name -/
  own : ∀ f ∈ t.fds, ∀ c C, f.cl = some (c, C) → t.nameOf C = some c ∧ (c, C) ∈ t.cls
  cls : ∀ p ∈ t.cls, t.nameOf p.2 = some p.1
  kp : ∀ f ∈ t.fds, f.name = ("__init__" : Str) → ∀ F, P.fn f.id = some F → F.keep = true
  /-- an own class has an __init__ -/
  ini : ∀ p ∈ t.cls, ∃ f, t.init p.2 = some f
  fl : ∀ p ∈ t.flds, ∃ c, (c, p.1) ∈ t.cls
section
variable {t : Dat} {K : PySem.W.Frag}
theorem Dat.fact (c : He.SaysD t.fas t.defs K) {f : He.Fa} (h : f ∈ t.fas) : f.ok K = true := by
  obtain ⟨i, hi⟩ := List.getElem?_of_mem h
  exact c.fact i hi
theorem Dat.def_ (c : He.SaysD t.fas t.defs K) {f : FD} (h : f ∈ t.fds) : ∃ fd, FunD K f.name f.qual (defArgs f.st) (defBody f.st) (defScope f.st) [] [] (He.fAd K f.at_) fd := by
  obtain ⟨i, hi⟩ := List.getElem?_of_mem h
  exact c.def_ i (d := f.defD) (by unfold Dat.defs; rw [List.getElem?_map, hi]; rfl)
theorem fas_fd {f : FD} (h : f ∈ t.fds) : (match f.cl with
    | none => He.Fa.glo f.name
    | some (c, _) => if f.name == ("__init__" : Str) then He.Fa.mkr c else He.Fa.meth c f.name) ∈ t.fas := by
  unfold Dat.fas
  simp only [List.mem_append, List.mem_map]
  exact .inl (.inl (.inl (.inl (.inl (.inl ⟨f, h, rfl⟩)))))
theorem fas_cl {p : Str × Nat} (h : p ∈ t.cls) : He.Fa.glo p.1 ∈ t.fas ∧ He.Fa.cls p.1 ∈ t.fas := by
  unfold Dat.fas
  simp only [List.mem_append, List.mem_flatMap]
  exact ⟨.inl (.inl (.inl (.inl (.inl (.inr ⟨p, h, by simp⟩))))), .inl (.inl (.inl (.inl (.inl (.inr ⟨p, h, by simp⟩)))))⟩
theorem fas_int {p : Str × Int} (h : p ∈ t.cis) : He.Fa.int p.1 p.2 ∈ t.fas := by
  unfold Dat.fas
  simp only [List.mem_append, List.mem_map]
  exact .inl (.inl (.inl (.inl (.inr ⟨p, h, rfl⟩))))
theorem fas_str {p : Str × Str} (h : p ∈ t.css) : He.Fa.str p.1 p.2 ∈ t.fas := by
  unfold Dat.fas
  simp only [List.mem_append, List.mem_map]
  exact .inl (.inl (.inl (.inr ⟨p, h, rfl⟩)))
theorem fas_bl {x : Str} (h : x ∈ t.bls) : He.Fa.free x ∈ t.fas := by
  unfold Dat.fas
  simp only [List.mem_append, List.mem_map]
  exact .inl (.inl (.inr ⟨x, h, rfl⟩))
theorem fas_fl {p : Nat × Str} (h : p ∈ t.flds) {c : Str} (e : t.nameOf p.1 = some c) : He.Fa.noat c p.2 ∈ t.fas := by
  unfold Dat.fas
  simp only [List.mem_append, List.mem_filterMap]
  exact .inl (.inr ⟨p, h, by rw [e]; rfl⟩)
variable {P : Pg} {prog : Program} {w : World} {mg : Str → Option Value} {base : Heap}
/-- what the defs promise at depth d -/
def AllOk (t : Dat) (P : Pg) (prog : Program) (w : World) (K : PySem.W.Frag) (mg : Str → Option Value) (base : Heap) (d : Nat) : Prop := ∀ f ∈ t.fds, ∃ fd, Binds K fd f.ps [] ∧ FnOk prog w K mg base (L2.CX prog w) (2 * d) (He.fAd K f.at_) fd f.ps (spF (t.wd K) P d f.id)
theorem mt_of {C : Nat} {m : Str} {i : Nat} (h : t.mt C m = some i) : ∃ f ∈ t.fds, ∃ c, f.cl = some (c, C) ∧ f.name = m ∧ f.id = i := by
  unfold Dat.mt at h
  simp only [Option.map_eq_some_iff] at h
  obtain ⟨f, hf, e⟩ := h
  have h1 := List.find?_some hf
  simp only [Bool.and_eq_true, beq_iff_eq] at h1
  refine ⟨f, List.mem_of_find?_eq_some hf, ?_⟩
  unfold FD.isOf at h1
  obtain ⟨h1, h2⟩ := h1
  split at h1
  · rename_i c k e1
    have := beq_iff_eq.mp h1
    subst this
    exact ⟨c, e1, h2, e⟩
  · cases h1
/-- the world at depth d -/
theorem wok {sub : Nat → Nat → Bool} {fn : Nat → Option Fn} (hP : P = t.pg fn sub) (T : TOk t P) (X : K.In base) (Gn : base.Ns mainGlobals mg) (c : He.SaysD t.fas t.defs K) {d : Nat} (A : AllOk t P prog w K mg base d) : WOk (t.wd K) P d t.gt prog w K mg base where
  hK := rfl
  fns := fun x f h => by
    simp only [Dat.gt, Option.map_eq_some_iff] at h
    obtain ⟨g, hg, e⟩ := h
    have h1 := List.find?_some hg
    simp only [Bool.and_eq_true, beq_iff_eq] at h1
    have hm := List.mem_of_find?_eq_some hg
    obtain ⟨fd, b, ok⟩ := A g hm
    have F := Dat.def_ c hm
    have fa := Dat.fact c (fas_fd hm)
    obtain ⟨h1, h2⟩ := h1
    unfold FD.isTop at h1
    cases e1 : g.cl with
    | some q => rw [e1] at h1; cases h1
    | none =>
      rw [e1] at fa
      have at' : He.fAd K g.at_ = He.ga K x := by unfold FD.at_; rw [e1, ← h2]; rfl
      rw [at'] at ok F
      subst e
      rw [h2] at fa
      obtain ⟨fd', F'⟩ := F
      exact ⟨_, fd, g.ps, He.glo_ok X Gn fa, F'.kp, b, ok⟩
  mts := fun C A' m f hc hm => by
    rw [hP] at hm
    obtain ⟨g, hg, cn, e1, e2, e3⟩ := mt_of hm
    obtain ⟨fd, b, ok⟩ := A g hg
    have fa := Dat.fact c (fas_fd hg)
    obtain ⟨o1, o2⟩ := T.own g hg cn C e1
    have fc := Dat.fact c (fas_cl o2).2
    simp only [Dat.wd, o1, Option.map_some, Option.some.injEq] at hc
    subst hc
    have at' : He.fAd K g.at_ = He.ma K (He.ga K cn) m := by unfold FD.at_; rw [e1, ← e2]; rfl
    rw [at', e3] at ok
    refine ⟨_, fd, g.ps, He.cls_ok fc, ?_, b, ok⟩
    rw [e1] at fa
    dsimp only at fa
    split at fa
    · rename_i en
      have q := He.mkr_ok fa
      have F := Dat.def_ c hg
      rw [at'] at F
      obtain ⟨fd', F'⟩ := F
      have en := beq_iff_eq.mp en
      rw [e2] at en
      subst en
      exact ⟨q.init, q.fn, F'.kp⟩
    · rw [e2] at fa
      exact He.meth_ok fa
  mks := fun x C h => by
    simp only [Dat.gt, Option.map_eq_some_iff] at h
    obtain ⟨p, hp, e⟩ := h
    have h1 := List.find?_some hp
    have h1 := beq_iff_eq.mp h1
    have hm := List.mem_of_find?_eq_some hp
    subst e h1
    obtain ⟨f, hf⟩ := T.ini p hm
    have hf2 : t.mt p.2 "__init__" = some f := by
      unfold Dat.init at hf
      split at hf
      · exact hf
      · cases hf
    obtain ⟨g, hg, cn, e1, e2, e3⟩ := mt_of hf2
    obtain ⟨fd, b, ok⟩ := A g hg
    have fa := Dat.fact c (fas_fd hg)
    obtain ⟨o1, o2⟩ := T.own g hg cn _ e1
    have o3 := T.cls p hm
    rw [o1] at o3
    cases o3
    rw [e1] at fa
    dsimp only at fa
    rw [if_pos (by rw [e2]; exact beq_self_eq_true _)] at fa
    have at' : He.fAd K g.at_ = He.ma K (He.ga K p.1) "__init__" := by unfold FD.at_; rw [e1, e2]; rfl
    rw [at', e3] at ok
    exact ⟨f, He.ga K p.1, _, fd, g.ps, by rw [hP]; exact hf, by simp only [Dat.wd, o1, Option.map_some], He.glo_ok X Gn (Dat.fact c (fas_cl hm).1), He.mkr_ok fa, b, ok⟩
  kp := fun C f F h e => by
    rw [hP] at h
    have h : t.init C = some f := h
    unfold Dat.init at h
    split at h
    · obtain ⟨g, hg, cn, e1, e2, e3⟩ := mt_of h
      exact T.kp g hg e2 F (by rw [e3]; exact e)
    · cases h
  fls := fun C A' f hc h => by
    rw [hP] at h
    have h : t.fl C f = true := h
    unfold Dat.fl at h
    obtain ⟨p, hp, e⟩ := List.any_eq_true.mp h
    simp only [Bool.and_eq_true, beq_iff_eq] at e
    obtain ⟨e1, e2⟩ := e
    obtain ⟨cn, hcn⟩ := T.fl p hp
    have o1 := T.cls _ hcn
    subst e1 e2
    dsimp only at o1
    simp only [Dat.wd, o1, Option.map_some, Option.some.injEq] at hc
    subst hc
    exact ⟨He.cls_ok (Dat.fact c (fas_cl hcn).2), He.noat_ok (Dat.fact c (fas_fl hp o1))⟩
  blt := fun x h => by
    simp only [Dat.gt] at h
    obtain ⟨y, hy, e⟩ := List.any_eq_true.mp h
    have e := beq_iff_eq.mp e
    subst e
    exact He.free_ok X Gn (Dat.fact c (fas_bl hy))
  cst := fun x v h => by
    simp only [Dat.gt] at h
    split at h
    · rename_i p hp
      have h1 := List.find?_some hp
      have h1 := beq_iff_eq.mp h1
      have hm := List.mem_of_find?_eq_some hp
      cases h
      subst h1
      obtain ⟨tg, e⟩ := He.int_ok X Gn (Dat.fact c (fas_int hm))
      exact ⟨_, e, .inl ⟨_, rfl, ⟨tg, rfl⟩⟩⟩
    · simp only [Option.map_eq_some_iff] at h
      obtain ⟨p, hp, e⟩ := h
      have h1 := List.find?_some hp
      have h1 := beq_iff_eq.mp h1
      have hm := List.mem_of_find?_eq_some hp
      subst e h1
      obtain ⟨tg, e⟩ := He.str_ok X Gn (Dat.fact c (fas_str hm))
      exact ⟨_, e, .inr ⟨_, rfl, ⟨tg, rfl⟩⟩⟩
theorem er_start {D : Wd} {F : Hp} {μ : List Addr} {N : List Str} {G : Fn} {vs : List Vl} {us : List V} (hs : G.size = N.length) (r : RVs D F μ vs us) : ER D F μ (startE G vs) (L2.start N us) := by
  unfold startE L2.start
  refine ⟨by simp [r.length, hs], fun i v h => ?_⟩
  by_cases hi : i < vs.length
  · rw [List.getElem?_append_left (by simpa using hi), List.getElem?_map] at h
    cases e : vs[i]? with
    | none => rw [e] at h; cases h
    | some x =>
      rw [e] at h
      cases h
      obtain ⟨u, hu, ru⟩ := r.get e
      refine ⟨u, ?_, ru⟩
      rw [List.getElem?_append_left (by simpa [← r.length] using hi), List.getElem?_map, hu]
      rfl
  · rw [List.getElem?_append_right (by simpa using hi), List.getElem?_replicate] at h
    split at h <;> cases h
/-- one def more deeply -/
theorem stepOk {d : Nat} (W : WOk (t.wd K) P d t.gt prog w K mg base) {f : FD} (ok : FOk t P f) {fd : FuncData} (F : FunD K f.name f.qual (defArgs f.st) (defBody f.st) (defScope f.st) [] [] (He.fAd K f.at_) fd) : FnOk prog w K mg base (L2.CX prog w) (2 * (d + 1)) (He.fAd K f.at_) fd f.ps (spF (t.wd K) P (d + 1) f.id) := by
    obtain ⟨G, g1, g2, g3, g4⟩ := ok.ex
    have e2 : 2 * (d + 1) = (2 * d + 1) + 1 := by omega
    rw [e2]
    refine F.ok ok.sc (fun vs H Q E h => ?_) fun cdv A outer s H vs Q E hr h => ?_
    · obtain ⟨⟨G', e1, e2⟩, _⟩ := h
      rw [g1] at e1
      cases e1
      rw [e2, g2]
    · obtain ⟨_, F', μ, hh, ws, cs, rv, p⟩ := h
      have k : SOk (t.wd K) P d t.gt f.N (defScope f.st) (fun cls d _ H => E cls d H) (cxOf (L2.CX prog w) prog w K mg base f.N f.qual (defScope f.st) (He.fAd K f.at_) cdv A outer s H E) :=
        { w := W
          hN := rfl
          nd := ok.sc.nd
          calm := rfl
          room := hr
          vis := fun x h => by
            unfold visB at h
            split at h
            · rename_i e; exact .inl e
            · rename_i e; exact .inr (.inl e)
            · rename_i e; exact .inr (.inr e)
            · cases h
          gl := fun x h => by
            unfold glB at h
            split at h
            · rename_i e; exact e
            · cases h
          loc := fun x h => ⟨h, .inl rfl⟩
          free := fun x kk e h => by
            rcases h with rfl | rfl
            · exact .inl e
            · exact .inr e
          tk := takes_of rfl rfl rfl rfl
          sceq := rfl
          kind := ok.sc.kind
          pass := passes_of rfl
          own := rfl
          frame := rfl }
      refine ⟨_, sB G.body k _ g4, F', μ, startE G ws, hh, cs, er_start g3 rv, ?_⟩
      unfold run at p
      rw [g1] at p
      dsimp only at p
      split at p
      · have p : PostV (t.wd K) F' μ H (xb P d G.body (startE G ws) hh).val Q E := p
        unfold FlQ
        cases e : xb P d G.body (startE G ws) hh with
        | bad => rw [e] at p; exact p.elim
        | bk _ _ => rw [e] at p; exact p.elim
        | ct _ _ => rw [e] at p; exact p.elim
        | rt v h' => rw [e] at p; exact p
        | nx ρ' h' => rw [e] at p; exact fun F2 μ2 H2 σ2 x2 c2 _ => p F2 μ2 H2 .non x2 c2 .non
        | ex C ρ' h' => rw [e] at p; exact fun F2 μ2 H2 σ2 A2 x2 c2 _ k2 => p F2 μ2 H2 A2 x2 c2 k2
      · exact p.elim
/-- every def, at every depth -/
theorem allOk {sub : Nat → Nat → Bool} {fn : Nat → Option Fn} (hP : P = t.pg fn sub) (T : TOk t P) (O : ∀ f ∈ t.fds, FOk t P f) (X : K.In base) (Gn : base.Ns mainGlobals mg) (c : He.SaysD t.fas t.defs K) : ∀ d, AllOk t P prog w K mg base d
  | 0 => fun f hf => by
    obtain ⟨fd, F⟩ := Dat.def_ c hf
    have ok := O f hf
    obtain ⟨G, g1, g2, g3, g4⟩ := ok.ex
    refine ⟨fd, F.bindsN ok.bd, ⟨fun vs H Q E h => ?_, fun A outer s H args us vs Q E hr he hb hv hs => ?_⟩⟩
    · obtain ⟨⟨G', e1, e2⟩, _⟩ := h
      rw [g1] at e1
      cases e1
      rw [e2, g2]
    · obtain ⟨_, F', μ, h, ws, _, _, p⟩ := hs
      exact p.elim
  | d + 1 => fun f hf => by
    obtain ⟨fd, F⟩ := Dat.def_ c hf
    exact ⟨fd, F.bindsN (O f hf).bd, stepOk (wok (prog := prog) (w := w) hP T X Gn c (allOk hP T O X Gn c d)) (O f hf) F⟩
theorem ints_rv {D : Wd} {F : Hp} {μ : List Addr} : ∀ ns : List Int, RVs D F μ (ns.map .int) (ns.map V.int)
  | [] => .nil
  | n :: ns => .cons (.int n) (ints_rv ns)
/-- THE END: a law whose bodies fit -/
theorem walkIL {l : PySem.W.OpenLaw} {n d m : Nat} {q : Program} {loose : List Str} {XP : (Str → Option Value) → Heap → Prop} {dr : DefRec} {sub : Nat → Nat → Bool} {fn : Nat → Option Fn} {lw : FD} {x : Str}
    (hP : P = t.pg fn sub) (T : TOk t P) (O : ∀ f ∈ t.fds, FOk t P f) (hw : lw ∈ t.fds) (hx : lw.ps = [x]) (ht : lw.cl = none) (hnm : dr.name = lw.name)
    (hn : l.most = some n) (hn2 : n ≤ sizeLine) (hdf : dr.params.defaults = []) (hr : Room (2 * (d + 1)) callerA)
    (math : ∀ ns : List Int, ns.length ≤ n → ∃ h, run P (d + 1) lw.id [.scr (ns.map .int)] [] = .ok (.bl true) h) :
    PySem.W.WalkO q loose XP (He.hookD m t.fas t.defs).says l.row.toRowW dr [] (fun f vs => PySem.call f vs) := by
  refine Att.attach_call hn hdf fun w s₀ s₁ mg mb fa o pm cd doc a vs ns Gh Y ho hd hcd hmg hobj hints hlen hg => ?_
  obtain ⟨K, KX, c⟩ := Y
  obtain ⟨fd, F⟩ := Dat.def_ c hw
  have hcx : ∀ (H : Hp) (e : Value) (s' : Shared), L2.CX l.prog w [] H s₁ (fun _ _ _ => False) e s' → False := fun H e s' z => by
    obtain ⟨_, _, _, _, _, _, _, _, _, _, _, _, z⟩ := z
    exact z
  have g := He.glo_ok KX Gh.T.g (x := lw.name) (by
    have z := Dat.fact c (fas_fd hw)
    rw [ht] at z
    exact z)
  have hmg : mg lw.name = some (.ref fa) := by rw [← hnm]; exact hmg
  have efa : fa = He.fAd K lw.at_ := by
    rw [g] at hmg
    have e1 : He.fAd K lw.at_ = He.ga K lw.name := by unfold FD.at_; rw [ht]; rfl
    rw [e1]
    cases hmg
    rfl
  have ok := O lw hw
  refine law_call KX Gh.T.g Gh.T.b Gh.T.builtins Gh.T.nolimit hg hobj hints (Nat.le_trans hlen hn2) hr (fun base KB GB => ?_) (x := x) (sp := spF (t.wd K) P (d + 1) lw.id) (fd := fd) (fun s u => ?_) (fun H hO hS => ?_) hcx
  · have z := stepOk (prog := l.prog) (w := w) (mg := mg) (base := base) (wok (prog := l.prog) (w := w) hP T KB GB c (allOk hP T O KB GB c d)) ok F
    rw [hx] at z
    rw [efa]
    exact z
  · have z := F.bindsA (ps := lw.ps) ok.bd s [u] (by rw [hx]; rfl)
    rw [hx] at z
    exact z
  · obtain ⟨G, g1, g2, g3, g4⟩ := ok.ex
    refine ⟨⟨G, g1, by rw [g2, hx]; rfl⟩, H, [], [], [.scr (ns.map .int)], ⟨fun b o e => .inl e, rfl, .nil, fun l o e => by simp at e⟩, .cons (.scr hS ?_) .nil, ?_⟩
    · exact ints_rv ns
    · obtain ⟨h, e⟩ := math ns hlen
      rw [e]
      intro F' μ' H' u x' c' r
      cases r
      rfl
end
end IL
end

section
set_option autoImplicit false
set_option linter.all false
set_option Elab.async false
set_option maxRecDepth 100000
set_option maxHeartbeats 8000000
/-! IL: what fits, by Bool. -/
namespace IL
open PySem L2 PyProof.Rows
def scB (N ps : List Str) (sc : Scope) : Bool :=
  (match sc.kind with | .function => true | _ => false) && !sc.isCoroutine && !sc.isGenerator && decide N.Nodup && decide (N.take ps.length = ps) &&
  (ps.all fun x => match sc.names.lookup x with | some .local => true | some .cell => true | _ => false) &&
  (sc.names.all fun y => match y.2 with | .free => false | _ => true)
theorem sc_by {N ps : List Str} {sc : Scope} (h : scB N ps sc = true) : FnScope N ps sc := by
  unfold scB at h
  simp only [Bool.and_eq_true, Bool.not_eq_true', decide_eq_true_eq, List.all_eq_true] at h
  obtain ⟨⟨⟨⟨⟨⟨h1, h2⟩, h3⟩, h4⟩, h5⟩, h6⟩, h7⟩ := h
  refine ⟨?_, h2, h3, h4, h5, fun x hx => ?_, fun y hy e => ?_⟩
  · split at h1
    · assumption
    · cases h1
  · have q := h6 x hx
    split at q
    · exact .inl (by assumption)
    · exact .inr (by assumption)
    · cases q
  · have q := h7 y hy
    rw [e] at q
    cases q
def fokB (t : Dat) (P : Pg) (f : FD) : Bool := scB f.N f.ps (defScope f.st) && (match P.fn f.id with
  | some F => decide (F.n = f.ps.length) && decide (F.size = f.N.length) && chkB t.gt f.N F.body (defScope f.st) (defBody f.st)
  | none => false)
theorem fok_by {t : Dat} {P : Pg} {f : FD} (h : fokB t P f = true) (b : ∀ (kV doc pm : Value) (an : Option Addr) (cdv ct : Value) (us : List Value), us.length = f.ps.length → bindArgs (PySem.W.fnOf f.name f.qual (defArgs f.st) (defBody f.st) (defScope f.st) .none kV doc pm an cdv ct) ⟨us, []⟩ = pure (f.ps.zip us)) : FOk t P f := by
  unfold fokB at h
  rw [Bool.and_eq_true] at h
  obtain ⟨h1, h2⟩ := h
  refine ⟨?_, sc_by h1, b⟩
  split at h2
  · rename_i F e
    simp only [Bool.and_eq_true, decide_eq_true_eq] at h2
    exact ⟨F, e, h2.1.1, h2.1.2, h2.2⟩
  · cases h2
def tokB (t : Dat) (P : Pg) : Bool :=
  (t.fds.all fun f => match f.cl with
    | some (c, C) => decide (t.nameOf C = some c) && decide ((c, C) ∈ t.cls)
    | none => true) &&
  (t.cls.all fun p => decide (t.nameOf p.2 = some p.1)) &&
  (t.fds.all fun f => !decide (f.name = ("__init__" : Str)) || (match P.fn f.id with
    | some F => F.keep
    | none => true)) &&
  (t.cls.all fun p => (t.init p.2).isSome) &&
  (t.flds.all fun p => t.cls.any fun q => decide (q.2 = p.1))
theorem tok_by {t : Dat} {P : Pg} (h : tokB t P = true) : TOk t P := by
  unfold tokB at h
  simp only [Bool.and_eq_true, List.all_eq_true] at h
  obtain ⟨⟨⟨⟨h1, h2⟩, h3⟩, h4⟩, h5⟩ := h
  refine ⟨fun f hf c C e => ?_, fun p hp => of_decide_eq_true (h2 p hp), fun f hf e F eF => ?_, fun p hp => Option.isSome_iff_exists.mp (h4 p hp), fun p hp => ?_⟩
  · have q := h1 f hf
    rw [e] at q
    simp only [Bool.and_eq_true, decide_eq_true_eq] at q
    exact q
  · have q := h3 f hf
    rw [eF, e] at q
    simpa using q
  · obtain ⟨q, hq, e⟩ := List.any_eq_true.mp (h5 p hp)
    exact ⟨q.1, by rw [← of_decide_eq_true e]; exact hq⟩
/-- the arguments bind: by their number -/
theorem bd_of {n : Nat} {ps : List Str} {t : List Value → Prop} (h : ∀ us : List Value, us.length = n → t us) (e : ps.length = n) (us : List Value) (hl : us.length = ps.length) : t us := h us (hl.trans e)
end IL
end

section
set_option autoImplicit false
set_option linter.all false
set_option Elab.async false
set_option maxRecDepth 100000
set_option maxHeartbeats 0
open PySem L2
namespace IL
def top (i : Nat) : Stmt := PySem.Challenge.pw_slatehands_k01_deeds.main.body.getD i (.Pass ⟨0, 0, 0, 0⟩)
/-- is_whole(thing, low, high) slots 0:thing 1:low 2:high -/
def b1 : List Sm := [.ret (.and (.blt (.isinst 0) [(.var 0)]) (.and (.not (.blt (.isinst 1) [(.var 0)])) (.chn .le .le (.var 1) (.var 0) (.var 2))))]
/-- is_box(thing) slots 0:thing 1:one -/
def b2 : List Sm := [.ife (.or (.not (.blt (.isinst 2) [(.var 0)])) (.cmp .ne (.blt .len [(.var 0)]) (.cst (.int 4)))) [.ret (.cst (.bl false))] [],
    .ife (.not (.blt .all [(.lc false [1] (.nm 1) .seq [(.slc false (.var 0) (.cst .non) (.cst (.int 2)) (.cst .non))] [] (.call 1 [(.var 1), (.bin .sub (.cst (.int 0)) (.gc "FARTHEST" (.int 20))), (.gc "FARTHEST" (.int 20))]))])) [.ret (.cst (.bl false))] [],
    .ret (.blt .all [(.lc false [1] (.nm 1) .seq [(.slc false (.var 0) (.cst (.int 2)) (.cst .non) (.cst .non))] [] (.call 1 [(.var 1), (.cst (.int 1)), (.gc "LARGEST" (.int 8))]))])]
/-- is_stamp(thing) slots 0:thing -/
def b3 : List Sm := [.ife (.or (.not (.blt (.isinst 2) [(.var 0)])) (.cmp .ne (.blt .len [(.var 0)]) (.cst (.int 2)))) [.ret (.cst (.bl false))] [],
    .ret (.and (.call 1 [(.idx (.var 0) (.cst (.int 0))), (.cst (.int 1)), (.bin .pow (.cst (.int 10)) (.cst (.int 6)))]) (.call 1 [(.idx (.var 0) (.cst (.int 1))), (.cst (.int 0)), (.bin .sub (.gc "MOST_HANDS" (.int 3)) (.cst (.int 1)))]))]
/-- are_stamps(thing) slots 0:thing 1:one -/
def b4 : List Sm := [.ife (.or (.not (.blt (.isinst 2) [(.var 0)])) (.or (.not (.chn .le .le (.cst (.int 2)) (.blt .len [(.var 0)]) (.gc "MOST_MEMBERS" (.int 3)))) (.not (.blt .all [(.lc false [1] (.nm 1) .seq [(.var 0)] [] (.call 3 [(.var 1)]))])))) [.ret (.cst (.bl false))] [],
    .ret (.cmp .eq (.blt .lenset [(.var 0)]) (.blt .len [(.var 0)]))]
/-- is_deed(thing) slots 0:thing 1:word 2:one -/
def b5 : List Sm := [.ife (.or (.not (.blt (.isinst 2) [(.var 0)])) (.or (.cmp .lt (.blt .len [(.var 0)]) (.cst (.int 2))) (.not (.blt (.isinst 3) [(.idx (.var 0) (.cst (.int 0)))])))) [.ret (.cst (.bl false))] [],
    .set 1 (.idx (.var 0) (.cst (.int 0))),
    .ife (.cmp .eq (.var 1) (.cst (.str "draw"))) [.ret (.and (.cmp .eq (.blt .len [(.var 0)]) (.cst (.int 2))) (.call 2 [(.idx (.var 0) (.cst (.int 1)))]))] [],
    .ife (.cmp .eq (.var 1) (.cst (.str "group"))) [.ret (.and (.cmp .eq (.blt .len [(.var 0)]) (.cst (.int 2))) (.call 4 [(.idx (.var 0) (.cst (.int 1)))]))] [],
    .ife (.not (.call 3 [(.idx (.var 0) (.cst (.int 1)))])) [.ret (.cst (.bl false))] [],
    .ife (.cmp .eq (.var 1) (.cst (.str "move"))) [.ret (.and (.cmp .eq (.blt .len [(.var 0)]) (.cst (.int 4))) (.blt .all [(.lc false [2] (.nm 2) .seq [(.slc false (.var 0) (.cst (.int 2)) (.cst .non) (.cst .non))] [] (.call 1 [(.var 2), (.bin .sub (.cst (.int 0)) (.gc "FARTHEST" (.int 20))), (.gc "FARTHEST" (.int 20))]))]))] [],
    .ife (.cmp .eq (.var 1) (.cst (.str "size"))) [.ret (.and (.cmp .eq (.blt .len [(.var 0)]) (.cst (.int 4))) (.blt .all [(.lc false [2] (.nm 2) .seq [(.slc false (.var 0) (.cst (.int 2)) (.cst .non) (.cst .non))] [] (.call 1 [(.var 2), (.cst (.int 1)), (.gc "LARGEST" (.int 8))]))]))] [],
    .ife (.cmp .eq (.var 1) (.cst (.str "colour"))) [.ret (.and (.cmp .eq (.blt .len [(.var 0)]) (.cst (.int 3))) (.call 1 [(.idx (.var 0) (.cst (.int 2))), (.cst (.int 0)), (.gc "MOST_COLOUR" (.int 7))]))] [],
    .ret (.and (.cmp .eq (.blt .len [(.var 0)]) (.cst (.int 2))) (.cmp .isin (.var 1) (.tup [(.cst (.str "raise")), (.cst (.str "lower")), (.cst (.str "ungroup")), (.cst (.str "erase")), (.cst (.str "lock")), (.cst (.str "unlock")), (.cst (.str "undo"))])))]
/-- is_letter(thing) slots 0:thing -/
def b6 : List Sm := [.ife (.or (.not (.blt (.isinst 2) [(.var 0)])) (.or (.cmp .ne (.blt .len [(.var 0)]) (.cst (.int 3))) (.not (.call 3 [(.idx (.var 0) (.cst (.int 0)))])))) [.ret (.cst (.bl false))] [],
    .ret (.and (.call 1 [(.idx (.var 0) (.cst (.int 1))), (.cst (.int 0)), (.bin .pow (.cst (.int 10)) (.cst (.int 6)))]) (.call 5 [(.idx (.var 0) (.cst (.int 2)))]))]
/-- _law_cell(_law_script, _law_k) slots 0:_law_script 1:_law_k -/
def b7 : List Sm := [.ife (.cmp .lt (.var 1) (.blt .len [(.var 0)])) [.ret (.idx (.var 0) (.var 1))] [],
    .ife (.cmp .eq (.var 0) (.lst false [])) [.ret (.cst (.int 0))] [],
    .ret (.bin .add (.bin .mul (.idx (.var 0) (.bin .mod (.var 1) (.blt .len [(.var 0)]))) (.cst (.int 31))) (.var 1))]
/-- _law_pick(_law_script, _law_k, _law_many) slots 0:_law_script 1:_law_k 2:_law_many 3:_law_drawn -/
def b8 : List Sm := [.set 3 (.bin .mod (.bin .mul (.bin .add (.call 7 [(.var 0), (.var 1)]) (.bin .mul (.cst (.int 6151)) (.bin .add (.var 1) (.cst (.int 1))))) (.cst (.int 40692))) (.cst (.int 2147483399))),
    .ret (.bin .mod (.bin .mod (.bin .add (.bin .mul (.var 3) (.var 3)) (.bin .fdiv (.var 3) (.cst (.int 31)))) (.cst (.int 2147483629))) (.var 2))]
/-- _law_deed(_law_script, _law_at, _law_names) slots 0:_law_script 1:_law_at 2:_law_names 3:_law_name 4:_law_way 5:_law_box 6:_law_start 7:_law_some 8:_law_words -/
def b9 : List Sm := [.set 3 (.tup [(.cst (.int 2)), (.cst (.int 1))]),
    .ife (.cmp .ne (.var 2) (.lst false [])) [.set 3 (.idx (.var 2) (.call 8 [(.var 0), (.var 1), (.blt .len [(.var 2)])]))] [],
    .set 4 (.call 8 [(.var 0), (.bin .add (.var 1) (.cst (.int 1))), (.cst (.int 25))]),
    .ife (.or (.cmp .lt (.blt .len [(.var 2)]) (.cst (.int 3))) (.cmp .lt (.var 4) (.cst (.int 5)))) [.set 5 (.tup [(.call 8 [(.var 0), (.bin .add (.var 1) (.cst (.int 2))), (.cst (.int 12))]), (.call 8 [(.var 0), (.bin .add (.var 1) (.cst (.int 3))), (.cst (.int 12))])]),
    .ret (.tup [(.cst (.str "draw")), (.bin .add (.var 5) (.tup [(.bin .add (.cst (.int 1)) (.call 8 [(.var 0), (.bin .add (.var 1) (.cst (.int 4))), (.cst (.int 6))])), (.bin .add (.cst (.int 1)) (.call 8 [(.var 0), (.bin .add (.var 1) (.cst (.int 5))), (.cst (.int 6))]))]))])] [],
    .ife (.cmp .lt (.var 4) (.cst (.int 9))) [.set 6 (.call 8 [(.var 0), (.bin .add (.var 1) (.cst (.int 2))), (.bin .sub (.blt .len [(.var 2)]) (.cst (.int 1)))]),
    .set 7 (.slc false (.var 2) (.var 6) (.bin .add (.bin .add (.var 6) (.cst (.int 2))) (.call 8 [(.var 0), (.bin .add (.var 1) (.cst (.int 3))), (.cst (.int 2))])) (.cst .non)),
    .ret (.tup [(.cst (.str "group")), (.blt .tuple [(.slc false (.var 7) (.cst .non) (.cst .non) (.bin .sub (.cst (.int 1)) (.bin .mul (.cst (.int 2)) (.call 8 [(.var 0), (.bin .add (.var 1) (.cst (.int 4))), (.cst (.int 2))]))))])])] [],
    .ife (.cmp .lt (.var 4) (.cst (.int 11))) [.ret (.tup [(.cst (.str "move")), (.var 3), (.bin .sub (.call 8 [(.var 0), (.bin .add (.var 1) (.cst (.int 2))), (.cst (.int 9))]) (.cst (.int 4))), (.bin .sub (.call 8 [(.var 0), (.bin .add (.var 1) (.cst (.int 3))), (.cst (.int 9))]) (.cst (.int 4)))])] [],
    .ife (.cmp .eq (.var 4) (.cst (.int 11))) [.ret (.tup [(.cst (.str "size")), (.var 3), (.bin .add (.cst (.int 1)) (.call 8 [(.var 0), (.bin .add (.var 1) (.cst (.int 2))), (.cst (.int 8))])), (.bin .add (.cst (.int 1)) (.call 8 [(.var 0), (.bin .add (.var 1) (.cst (.int 3))), (.cst (.int 8))]))])] [],
    .ife (.cmp .eq (.var 4) (.cst (.int 12))) [.ret (.tup [(.cst (.str "colour")), (.var 3), (.call 8 [(.var 0), (.bin .add (.var 1) (.cst (.int 2))), (.cst (.int 8))])])] [],
    .set 8 (.lst false [(.cst (.str "raise")), (.cst (.str "lower")), (.cst (.str "ungroup")), (.cst (.str "erase")), (.cst (.str "lock")), (.cst (.str "unlock")), (.cst (.str "undo")), (.cst (.str "lock")), (.cst (.str "lock")), (.cst (.str "erase")), (.cst (.str "erase")), (.cst (.str "erase"))]),
    .ret (.tup [(.idx (.var 8) (.bin .sub (.var 4) (.cst (.int 13)))), (.var 3)])]
/-- _law_story(_law_script, _law_at, _law_many) slots 0:_law_script 1:_law_at 2:_law_many 3:_law_made 4:_law_last 5:_law_numbers 6:_law_k 7:_law_hand 8:_law_words 9:_law_names 10:_law_letter 11:_law_deed_here -/
def b10 : List Sm := [.set 3 (.lst true []),
    .set 4 (.lst true [(.cst (.int 0)), (.cst (.int 0)), (.cst (.int 0))]),
    .set 5 (.lst true [(.cst (.int 0)), (.cst (.int 0)), (.cst (.int 0))]),
    .for_ (.nm 6) .rng [(.call 8 [(.var 0), (.var 1), (.bin .add (.var 2) (.cst (.int 1)))])] [.set 7 (.call 8 [(.var 0), (.bin .add (.bin .add (.var 1) (.cst (.int 1))) (.bin .mul (.cst (.int 10)) (.var 6))), (.cst (.int 3))]),
    .set 8 (.ite (.cmp .gt (.call 8 [(.var 0), (.bin .add (.bin .add (.var 1) (.cst (.int 9))) (.bin .mul (.cst (.int 10)) (.var 6))), (.cst (.int 5))]) (.cst (.int 0))) (.tup [(.cst (.str "draw")), (.cst (.str "group"))]) (.tup [(.cst (.str "draw")), (.cst (.str "group")), (.cst (.str "undo")), (.cst (.str "move"))])),
    .set 9 (.lc false [10] (.nm 10) .seq [(.var 3)] [(.cmp .isin (.idx (.idx (.var 10) (.cst (.int 2))) (.cst (.int 0))) (.var 8))] (.idx (.var 10) (.cst (.int 0)))),
    .setI (.var 4) (.var 7) (.blt .max [(.bin .add (.idx (.var 4) (.var 7)) (.cst (.int 1))), (.bin .add (.cst (.int 1)) (.bin .fdiv (.var 6) (.cst (.int 2))))]),
    .set 11 (.call 9 [(.var 0), (.bin .add (.bin .add (.var 1) (.cst (.int 2))) (.bin .mul (.cst (.int 10)) (.var 6))), (.var 9)]),
    .drop (.bm .append (.var 3) [(.tup [(.tup [(.idx (.var 4) (.var 7)), (.var 7)]), (.idx (.var 5) (.var 7)), (.var 11)])]),
    .setI (.var 5) (.var 7) (.bin .add (.idx (.var 5) (.var 7)) (.cst (.int 1)))],
    .ret (.var 3)]
/-- _law_bad(_law_cell_here) slots 0:_law_cell_here 1:_law_one 2:_law_some -/
def b11 : List Sm := [.set 1 (.tup [(.cst (.int 1)), (.cst (.int 0))]),
    .set 2 (.lst true [(.tup [(.cst (.str "draw"))]), (.tup [(.cst (.str "draw")), (.tup [(.cst (.int 0)), (.cst (.int 0)), (.cst (.int 1))])]), (.tup [(.cst (.str "draw")), (.tup [(.cst (.int 0)), (.cst (.int 0)), (.cst (.int 0)), (.cst (.int 1))])]), (.tup [(.cst (.str "draw")), (.tup [(.cst (.int 21)), (.cst (.int 0)), (.cst (.int 1)), (.cst (.int 1))])]), (.tup [(.cst (.str "draw")), (.tup [(.cst (.int 0)), (.cst (.int 0)), (.cst (.int 9)), (.cst (.int 1))])])]),
    .drop (.bm .extend (.var 2) [(.lst false [(.tup [(.cst (.str "draw")), (.lst false [(.cst (.int 0)), (.cst (.int 0)), (.cst (.int 1)), (.cst (.int 1))])]), (.tup [(.cst (.str "draw")), (.tup [(.cst (.bl true)), (.cst (.int 0)), (.cst (.int 1)), (.cst (.int 1))])]), (.tup [(.cst (.str "move")), (.var 1), (.cst (.int 1))]), (.tup [(.cst (.str "move")), (.var 1), (.cst (.int 21)), (.cst (.int 0))])])]),
    .drop (.bm .append (.var 2) [(.tup [(.cst (.str "move")), (.var 1), (.cst (.int 0)), (.cst .non)])]),
    .drop (.bm .extend (.var 2) [(.lst false [(.tup [(.cst (.str "size")), (.var 1), (.cst (.int 0)), (.cst (.int 1))]), (.tup [(.cst (.str "size")), (.var 1), (.cst (.int 1)), (.cst (.int 9))]), (.tup [(.cst (.str "colour")), (.var 1), (.cst (.int 8))]), (.tup [(.cst (.str "colour")), (.var 1), (.neg (.cst (.int 1)))]), (.tup [(.cst (.str "colour")), (.var 1)])])]),
    .drop (.bm .extend (.var 2) [(.lst false [(.tup [(.cst (.str "raise"))]), (.tup [(.cst (.str "raise")), (.var 1), (.cst (.int 1))]), (.tup [(.cst (.str "raise")), (.tup [(.cst (.int 0)), (.cst (.int 0))])]), (.tup [(.cst (.str "raise")), (.tup [(.cst (.int 1)), (.cst (.int 3))])]), (.tup [(.cst (.str "raise")), (.lst false [(.cst (.int 1)), (.cst (.int 0))])])])]),
    .drop (.bm .append (.var 2) [(.tup [(.cst (.str "raise")), (.tup [(.cst (.int 1)), (.cst (.bl true))])])]),
    .drop (.bm .extend (.var 2) [(.lst false [(.tup [(.cst (.str "group")), (.tup [(.var 1)])]), (.tup [(.cst (.str "group")), (.tup [(.var 1), (.var 1)])]), (.tup [(.cst (.str "group")), (.lst false [(.var 1), (.tup [(.cst (.int 2)), (.cst (.int 0))])])]), (.tup [(.cst (.str "turn")), (.var 1)])])]),
    .drop (.bm .append (.var 2) [(.tup [(.cst (.str "group")), (.tup [(.var 1), (.tup [(.cst (.int 2)), (.cst (.int 0))]), (.cst .non)])])]),
    .drop (.bm .extend (.var 2) [(.lst false [(.cst .non), (.tup []), (.cst (.str "raise")), (.lst false [(.cst (.str "raise")), (.var 1)]), (.tup [(.cst (.int 5)), (.var 1)]), (.tup [(.cst (.str "lock")), (.cst .non)]), (.tup [(.cst (.str "undo")), (.tup [(.cst (.int 1)), (.cst (.int 0)), (.cst (.int 0))])])])]),
    .drop (.bm .append (.var 2) [(.tup [(.cst (.str "erase")), (.tup [(.bin .add (.bin .pow (.cst (.int 10)) (.cst (.int 6))) (.cst (.int 1))), (.cst (.int 0))])])]),
    .ret (.idx (.var 2) (.bin .mod (.var 0) (.blt .len [(.var 2)])))]
/-- law(_law_script) slots 0:_law_script 1:_law_letters 2:_law_letter 3:_law_one 4:_law_word 5:_law_bad_here 6:_law_good 7:_law_some 8:_law_many 9:_law_k 10:_law_boxes -/
def b12 : List Sm := [.set 1 (.call 10 [(.var 0), (.cst (.int 0)), (.cst (.int 8))]),
    .for_ (.nm 2) .seq [(.var 1)] [.ife (.or (.cmp .isnot (.call 5 [(.idx (.var 2) (.cst (.int 2)))]) (.cst (.bl true))) (.cmp .isnot (.call 6 [(.var 2)]) (.cst (.bl true)))) [.ret (.cst (.bl false))] []],
    .set 3 (.tup [(.cst (.int 1)), (.cst (.int 0))]),
    .for_ (.nm 4) .seq [(.tup [(.cst (.str "raise")), (.cst (.str "lower")), (.cst (.str "ungroup")), (.cst (.str "erase")), (.cst (.str "lock")), (.cst (.str "unlock")), (.cst (.str "undo"))])] [.ife (.cmp .isnot (.call 5 [(.tup [(.var 4), (.var 3)])]) (.cst (.bl true))) [.ret (.cst (.bl false))] []],
    .set 5 (.call 11 [(.call 8 [(.var 0), (.cst (.int 200)), (.bin .pow (.cst (.int 10)) (.cst (.int 6)))])]),
    .ife (.or (.cmp .isnot (.call 5 [(.var 5)]) (.cst (.bl false))) (.cmp .isnot (.call 6 [(.tup [(.var 3), (.cst (.int 0)), (.var 5)])]) (.cst (.bl false)))) [.ret (.cst (.bl false))] [],
    .set 6 (.tup [(.cst (.str "raise")), (.var 3)]),
    .set 7 (.lst false [(.tup [(.var 3), (.cst (.int 0))]), (.tup [(.var 3), (.neg (.cst (.int 1))), (.var 6)]), (.tup [(.var 3), (.cst (.bl true)), (.var 6)]), (.tup [(.tup [(.cst (.int 0)), (.cst (.int 0))]), (.cst (.int 0)), (.var 6)]), (.lst false [(.var 3), (.cst (.int 0)), (.var 6)]), (.cst .non), (.tup [(.var 3), (.cst (.int 0)), (.var 6), (.cst (.int 0))])]),
    .ife (.cmp .isnot (.call 6 [(.idx (.var 7) (.call 8 [(.var 0), (.cst (.int 201)), (.cst (.int 7))]))]) (.cst (.bl false))) [.ret (.cst (.bl false))] [],
    .ife (.cmp .ne (.lc false [7] (.nm 7) .seq [(.tup [(.tup [(.tup [(.cst (.int 1)), (.cst (.int 0))]), (.tup [(.cst (.int 0)), (.cst (.int 0))])]), (.tup [(.tup [(.cst (.int 1)), (.cst (.int 0))]), (.cst .non)]), (.tup [(.tup [(.cst (.int 1)), (.cst (.int 0))]), (.tup [(.cst (.int 2)), (.cst (.int 3))])])])] [] (.call 5 [(.tup [(.cst (.str "group")), (.var 7)])])) (.bin .mul (.lst false [(.cst (.bl false))]) (.cst (.int 3)))) [.ret (.cst (.bl false))] [],
    .set 8 (.bin .add (.cst (.int 3)) (.call 8 [(.var 0), (.cst (.int 202)), (.cst (.int 2))])),
    .ife (.cmp .ne (.call 5 [(.tup [(.cst (.str "group")), (.blt .tuple [(.lc false [9] (.nm 9) .rng [(.var 8)] [] (.tup [(.bin .add (.var 9) (.cst (.int 1))), (.cst (.int 0))]))])])]) (.cmp .lt (.var 8) (.cst (.int 4)))) [.ret (.cst (.bl false))] [],
    .set 10 (.lst false [(.tup [(.cst (.int 0)), (.cst (.int 0)), (.cst (.int 1))]), (.tup [(.cst (.int 0)), (.cst (.int 0)), (.cst (.int 1)), (.cst (.int 0))]), (.cst .non), (.lst false [(.cst (.int 0)), (.cst (.int 0)), (.cst (.int 1)), (.cst (.int 1))]), (.tup [(.cst (.int 0)), (.cst (.int 0)), (.cst (.int 1)), (.cst (.bl true))]), (.tup [(.neg (.cst (.int 21))), (.cst (.int 0)), (.cst (.int 1)), (.cst (.int 1))])]),
    .ret (.and (.cmp .is (.call 2 [(.tup [(.neg (.cst (.int 20))), (.cst (.int 20)), (.cst (.int 8)), (.cst (.int 1))])]) (.cst (.bl true))) (.cmp .is (.call 2 [(.idx (.var 10) (.call 8 [(.var 0), (.cst (.int 203)), (.cst (.int 6))]))]) (.cst (.bl false))))]
def tbl : Nat → Option Fn
  | 1 => some ⟨3, 3, false, b1⟩
  | 2 => some ⟨1, 2, false, b2⟩
  | 3 => some ⟨1, 1, false, b3⟩
  | 4 => some ⟨1, 2, false, b4⟩
  | 5 => some ⟨1, 3, false, b5⟩
  | 6 => some ⟨1, 1, false, b6⟩
  | 7 => some ⟨2, 2, false, b7⟩
  | 8 => some ⟨3, 4, false, b8⟩
  | 9 => some ⟨3, 9, false, b9⟩
  | 10 => some ⟨3, 12, false, b10⟩
  | 11 => some ⟨1, 3, false, b11⟩
  | 12 => some ⟨1, 11, false, b12⟩
  | _ => none
def f1 : FD := ⟨1, none, ("is_whole" : Str), top 6, ["thing", "low", "high"], ["thing", "low", "high"]⟩
def f2 : FD := ⟨2, none, ("is_box" : Str), top 7, ["thing", "one"], ["thing"]⟩
def f3 : FD := ⟨3, none, ("is_stamp" : Str), top 8, ["thing"], ["thing"]⟩
def f4 : FD := ⟨4, none, ("are_stamps" : Str), top 9, ["thing", "one"], ["thing"]⟩
def f5 : FD := ⟨5, none, ("is_deed" : Str), top 10, ["thing", "word", "one"], ["thing"]⟩
def f6 : FD := ⟨6, none, ("is_letter" : Str), top 11, ["thing"], ["thing"]⟩
def f7 : FD := ⟨7, none, ("_law_cell" : Str), top 13, ["_law_script", "_law_k"], ["_law_script", "_law_k"]⟩
def f8 : FD := ⟨8, none, ("_law_pick" : Str), top 14, ["_law_script", "_law_k", "_law_many", "_law_drawn"], ["_law_script", "_law_k", "_law_many"]⟩
def f9 : FD := ⟨9, none, ("_law_deed" : Str), top 15, ["_law_script", "_law_at", "_law_names", "_law_name", "_law_way", "_law_box", "_law_start", "_law_some", "_law_words"], ["_law_script", "_law_at", "_law_names"]⟩
def f10 : FD := ⟨10, none, ("_law_story" : Str), top 16, ["_law_script", "_law_at", "_law_many", "_law_made", "_law_last", "_law_numbers", "_law_k", "_law_hand", "_law_words", "_law_names", "_law_letter", "_law_deed_here"], ["_law_script", "_law_at", "_law_many"]⟩
def f11 : FD := ⟨11, none, ("_law_bad" : Str), top 17, ["_law_cell_here", "_law_one", "_law_some"], ["_law_cell_here"]⟩
def f12 : FD := ⟨12, none, ("law" : Str), top 18, ["_law_script", "_law_letters", "_law_letter", "_law_one", "_law_word", "_law_bad_here", "_law_good", "_law_some", "_law_many", "_law_k", "_law_boxes"], ["_law_script"]⟩
def dat : Dat where
  fds := [f1, f2, f3, f4, f5, f6, f7, f8, f9, f10, f11, f12]
  cls := []
  exs := []
  cis := [("FARTHEST", 20), ("LARGEST", 8), ("MOST_COLOUR", 7), ("MOST_MEMBERS", 3), ("MOST_HANDS", 3)]
  css := []
  bls := ["bool", "len", "all", "isinstance", "tuple", "max", "int", "str", "set", "range"]
  flds := []
def prg : Pg := dat.pg tbl fun a b => a == b || b == 10
abbrev lawF : FD := f12
theorem tok : TOk dat prg := tok_by (by decide +kernel)
theorem ok1 : FOk dat prg f1 := fok_by (by decide +kernel) fun _ _ _ _ _ _ us hl => match us, hl with | [_, _, _], _ => rfl
theorem ok2 : FOk dat prg f2 := fok_by (by decide +kernel) fun _ _ _ _ _ _ us hl => match us, hl with | [_], _ => rfl
theorem ok3 : FOk dat prg f3 := fok_by (by decide +kernel) fun _ _ _ _ _ _ us hl => match us, hl with | [_], _ => rfl
theorem ok4 : FOk dat prg f4 := fok_by (by decide +kernel) fun _ _ _ _ _ _ us hl => match us, hl with | [_], _ => rfl
theorem ok5 : FOk dat prg f5 := fok_by (by decide +kernel) fun _ _ _ _ _ _ us hl => match us, hl with | [_], _ => rfl
theorem ok6 : FOk dat prg f6 := fok_by (by decide +kernel) fun _ _ _ _ _ _ us hl => match us, hl with | [_], _ => rfl
theorem ok7 : FOk dat prg f7 := fok_by (by decide +kernel) fun _ _ _ _ _ _ us hl => match us, hl with | [_, _], _ => rfl
theorem ok8 : FOk dat prg f8 := fok_by (by decide +kernel) fun _ _ _ _ _ _ us hl => match us, hl with | [_, _, _], _ => rfl
theorem ok9 : FOk dat prg f9 := fok_by (by decide +kernel) fun _ _ _ _ _ _ us hl => match us, hl with | [_, _, _], _ => rfl
theorem ok10 : FOk dat prg f10 := fok_by (by decide +kernel) fun _ _ _ _ _ _ us hl => match us, hl with | [_, _, _], _ => rfl
theorem ok11 : FOk dat prg f11 := fok_by (by decide +kernel) fun _ _ _ _ _ _ us hl => match us, hl with | [_], _ => rfl
theorem ok12 : FOk dat prg f12 := fok_by (by decide +kernel) fun _ _ _ _ _ _ us hl => match us, hl with | [_], _ => rfl
theorem oks : ∀ f ∈ dat.fds, FOk dat prg f := by
  intro f hf
  simp only [dat, List.mem_cons, List.not_mem_nil, or_false] at hf
  rcases hf with rfl | rfl | rfl | rfl | rfl | rfl | rfl | rfl | rfl | rfl | rfl | rfl
  · exact ok1
  · exact ok2
  · exact ok3
  · exact ok4
  · exact ok5
  · exact ok6
  · exact ok7
  · exact ok8
  · exact ok9
  · exact ok10
  · exact ok11
  · exact ok12
end IL
end

section
set_option autoImplicit false
set_option linter.all false
set_option Elab.async false
set_option maxRecDepth 100000
set_option maxHeartbeats 1000000
/-! the mathematics: first words. -/
namespace IL
open PySem
theorem callC_ok {P : Pg} {rn : Nat → List Vl → Hh → Rs Vl} {f : Nat} {F : Fn} {vs : List Vl} {h h' : Hh} {v v' : Vl} (hf : P.fn f = some F) (hk : F.keep = false) (hb : vs.all (below deep 0) = true) (hr : rn f vs [] = .ok v h') (ht : thaw deep 0 h' v = some v') : callC P rn f vs h = .ok v' h := by
  unfold callC
  rw [hf]
  simp only [hk, Bool.false_eq_true, if_false, hb, if_true, hr, ht]
theorem thaw_of {n : Nat} {h : Hh} {v : Vl} (hb : below deep n v = true) : thaw deep n h v = some v := by
  unfold thaw
  rw [if_pos hb]
/-- a call that answers with plain data -/
theorem callC_val {P : Pg} {rn : Nat → List Vl → Hh → Rs Vl} {f : Nat} {F : Fn} {vs : List Vl} {h h' : Hh} {v : Vl} (hf : P.fn f = some F) (hk : F.keep = false) (hb : vs.all (below deep 0) = true) (hr : rn f vs [] = .ok v h') (ht : below deep 0 v = true) : callC P rn f vs h = .ok v h :=
  callC_ok hf hk hb hr (thaw_of ht)
theorem run_eq {P : Pg} {d f : Nat} {F : Fn} {vs : List Vl} {h : Hh} (hf : P.fn f = some F) (hl : vs.length = F.n) : run P (d + 1) f vs h = (execB P (callC P (run P d)) F.body (startE F vs) h).val := by
  unfold run
  rw [hf]
  simp only [hl, if_true]
/-! ### is_whole -/
def isW (v : Vl) (lo hi : Int) : Bool := match v with
  | .int i => decide (lo ≤ i) && decide (i ≤ hi)
  | _ => false
theorem run_whole {d : Nat} {v : Vl} {lo hi : Int} (hv : instOk v = true) : run prg (d + 1) 1 [v, .int lo, .int hi] [] = .ok (.bl (isW v lo hi)) [] := by
  rw [run_eq (F := ⟨3, 3, false, b1⟩) rfl rfl]
  cases v <;> simp [instOk] at hv <;> simp [b1, execB, execS, evalE, evalL, Rs.bind, Rs.fl, startE, Fl.val, bltV, instOk, isinstV, isW, cmpV, cmpI, Rs.of]
  rename_i i
  by_cases c : lo ≤ i <;> simp [c]
end IL
end

section
set_option autoImplicit false
set_option linter.all false
set_option Elab.async false
set_option maxRecDepth 100000
set_option maxHeartbeats 1000000
namespace IL
open PySem
abbrev scr (ns : List Int) : Vl := .scr (ns.map .int)
theorem below_scr (ns : List Int) : below deep 0 (scr ns) = true := by
  show (ns.map Vl.int).all (below 11 0) = true
  rw [List.all_eq_true]
  intro x hx
  obtain ⟨n, _, rfl⟩ := List.mem_map.mp hx
  rfl
theorem data_scr (ns : List Int) : isData deep (scr ns) = true := by
  show (ns.map Vl.int).all (isData 11) = true
  rw [List.all_eq_true]
  intro x hx
  obtain ⟨n, _, rfl⟩ := List.mem_map.mp hx
  rfl
def cellI (ns : List Int) (k : Int) : Int := if k < ns.length then ns.getD k.toNat 0 else if ns = [] then 0 else ns.getD (k % ns.length).toNat 0 * 31 + k
theorem idx_scr {ns : List Int} {k : Int} {h : Hh} (h0 : 0 ≤ k) (h1 : k < ns.length) : idxV (scr ns) (.int k) h = .ok (.int (ns.getD k.toNat 0)) h := by
  have hn : k.toNat < ns.length := by omega
  simp [idxV, asSeq, ixOf, h0, h1, hn, Rs.of]
theorem len_scr {ns : List Int} {h : Hh} : bltV .len [scr ns] h = .ok (.int ns.length) h := by
  simp [bltV, lenV, asSeq, Rs.of]
theorem lt_int {i j : Int} {h : Hh} : cmpV .lt (.int i) (.int j) h = .ok (.bl (decide (i < j))) h := rfl
theorem eq_nil {ns : List Int} {h : Hh} : cmpV .eq (scr ns) (.lst []) h = .ok (.bl (decide (ns = []))) h := by
  have e : eqH (scr ns) (.lst []) h = some (decide (ns = [])) := by
    unfold eqH
    have z : thaw deep 0 h (scr ns) = some (scr ns) := thaw_of (below_scr ns)
    rw [z, thaw_of (v := .lst []) rfl]
    simp only [data_scr]
    cases ns <;> simp [isData, eqv, eqvs]
  simp [cmpV, e, Rs.of]
theorem run_cell {d : Nat} {ns : List Int} {k : Int} (hk : 0 ≤ k) : run prg (d + 1) 7 [scr ns, .int k] [] = .ok (.int (cellI ns k)) [] := by
  rw [run_eq (F := ⟨2, 2, false, b7⟩) rfl rfl]
  unfold cellI
  have ev : ∀ x y : Vl, startE ⟨2, 2, false, b7⟩ [x, y] = [some x, some y] := fun _ _ => rfl
  rw [ev]
  by_cases c : k < ns.length
  · simp [b7, execB, execS, evalE, evalL, Rs.bind, Rs.fl, Fl.val, len_scr, lt_int, c, idx_scr hk c]
  · by_cases c2 : ns = []
    · have q : ∀ h, cmpV .eq (scr ns) (.lst []) h = .ok (.bl true) h := fun h => by rw [eq_nil]; simp [c2]
      rw [if_neg c, if_pos c2]
      simp [b7, execB, execS, evalE, evalL, Rs.bind, Rs.fl, Fl.val, len_scr, lt_int, c, place, q]
    · have pos : 0 < ns.length := List.length_pos_iff.mpr c2
      have p2 : (0 : Int) < ns.length := by omega
      have g := fun h => idx_scr (ns := ns) (k := k % ns.length) (h := h) (Int.emod_nonneg _ (by omega)) (Int.emod_lt_of_pos _ p2)
      simp [b7, execB, execS, evalE, evalL, Rs.bind, Rs.fl, Fl.val, len_scr, lt_int, c, place, eq_nil, c2, binV, p2, g, pos]
def drawnI (ns : List Int) (k : Int) : Int := (cellI ns k + 6151 * (k + 1)) * 40692 % 2147483399
def pickI (ns : List Int) (k m : Int) : Int := (drawnI ns k * drawnI ns k + drawnI ns k / 31) % 2147483629 % m
theorem pick_lt {ns : List Int} {k m : Int} (hm : 0 < m) : 0 ≤ pickI ns k m ∧ pickI ns k m < m := ⟨Int.emod_nonneg _ (by omega), Int.emod_lt_of_pos _ hm⟩
theorem call_cell {d : Nat} {ns : List Int} {k : Int} {h : Hh} (hk : 0 ≤ k) : callC prg (run prg (d + 1)) 7 [scr ns, .int k] h = .ok (.int (cellI ns k)) h :=
  callC_val (F := ⟨2, 2, false, b7⟩) rfl rfl (by simp [below_scr]; rfl) (run_cell hk) rfl
theorem run_pick {d : Nat} {ns : List Int} {k m : Int} (hk : 0 ≤ k) (hm : 0 < m) : run prg (d + 2) 8 [scr ns, .int k, .int m] [] = .ok (.int (pickI ns k m)) [] := by
  rw [run_eq (F := ⟨3, 4, false, b8⟩) rfl rfl]
  have d1 : 0 ≤ drawnI ns k := Int.emod_nonneg _ (by omega)
  have d2 : drawnI ns k < 2147483399 := Int.emod_lt_of_pos _ (by omega)
  have d3 : (-18446744073709551616 < drawnI ns k ∧ drawnI ns k < 18446744073709551616) := by omega
  have e : (cellI ns k + 6151 * (k + 1)) * 40692 % 2147483399 = drawnI ns k := rfl
  simp [b8, execB, execS, evalE, evalL, Rs.bind, Rs.fl, startE, Fl.val, call_cell hk, binV, e, d3, hm, pickI]
theorem call_pick {d : Nat} {ns : List Int} {k m : Int} {h : Hh} (hk : 0 ≤ k) (hm : 0 < m) : callC prg (run prg (d + 2)) 8 [scr ns, .int k, .int m] h = .ok (.int (pickI ns k m)) h :=
  callC_val (F := ⟨3, 4, false, b8⟩) rfl rfl (by simp [below_scr]; exact ⟨rfl, rfl⟩) (run_pick hk hm) rfl
end IL
end

section
set_option autoImplicit false
set_option linter.all false
set_option Elab.async false
set_option maxRecDepth 100000
set_option maxHeartbeats 1000000
namespace IL
open PySem
theorem call_whole {d : Nat} {v : Vl} {lo hi : Int} {h : Hh} (hv : instOk v = true) (hb : below deep 0 v = true) : callC prg (run prg (d + 1)) 1 [v, .int lo, .int hi] h = .ok (.bl (isW v lo hi)) h :=
  callC_val (F := ⟨3, 3, false, b1⟩) rfl rfl (by simp [hb]; exact ⟨rfl, rfl⟩) (run_whole hv) rfl
theorem call_wholeI {d : Nat} {i lo hi : Int} {h : Hh} : callC prg (run prg (d + 1)) 1 [.int i, .int lo, .int hi] h = .ok (.bl (decide (lo ≤ i) && decide (i ≤ hi))) h := call_whole rfl rfl
/-! ### is_box, is_stamp -/
theorem run_box {d : Nat} {x y w t : Int} : run prg (d + 2) 2 [.tup [.int x, .int y, .int w, .int t]] [] = .ok (.bl (decide (-20 ≤ x) && decide (x ≤ 20) && (decide (-20 ≤ y) && decide (y ≤ 20)) && (decide (1 ≤ w) && decide (w ≤ 8) && (decide (1 ≤ t) && decide (t ≤ 8))))) [] := by
  rw [run_eq (F := ⟨1, 2, false, b2⟩) rfl rfl]
  have ev : ∀ x : Vl, startE ⟨1, 2, false, b2⟩ [x] = [some x, none] := fun _ => rfl
  rw [ev]
  have l4 : ∀ h, bltV .len [.tup [.int x, .int y, .int w, .int t]] h = .ok (.int 4) h := fun _ => rfl
  have i2 : ∀ (vs : List Vl) h, bltV (.isinst 2) [.tup vs] h = .ok (.bl true) h := fun _ _ => rfl
  have n4 : ∀ h, cmpV .ne (.int 4) (.int 4) h = .ok (.bl false) h := fun _ => rfl
  have s1 : ∀ h, slcV (.tup [.int x, .int y, .int w, .int t]) .non (.int 2) .non h = .ok (.tup [.int x, .int y]) h := fun _ => rfl
  have s2 : ∀ h, slcV (.tup [.int x, .int y, .int w, .int t]) (.int 2) .non .non h = .ok (.tup [.int w, .int t]) h := fun _ => rfl
  have al : ∀ (a b : Bool) h, bltV .all [.lst [.bl a, .bl b]] h = .ok (.bl (a && b)) h := fun a b h => by simp [bltV, asList, bools, Rs.of]
  have sb : ∀ i j h, binV .sub (.int i) (.int j) h = .ok (.int (i - j)) h := fun _ _ _ => rfl
  by_cases c : (-20 ≤ x ∧ x ≤ 20) ∧ -20 ≤ y ∧ y ≤ 20
  · simp [b2, execB, execS, evalE, evalL, Rs.bind, Rs.fl, Fl.val, l4, i2, n4, s1, s2, al, sb, intR, isNonE, place, walked, wSeq, lcL, lcT, Rs.calm, bindT, wipeE, call_wholeI, c.1.1, c.1.2, c.2.1, c.2.2]
  · have e : (decide (-20 ≤ x) && decide (x ≤ 20) && (decide (-20 ≤ y) && decide (y ≤ 20))) = false := by
      rw [Bool.eq_false_iff]
      intro z
      simp only [Bool.and_eq_true, decide_eq_true_eq] at z
      exact c z
    simp [b2, execB, execS, evalE, evalL, Rs.bind, Rs.fl, Fl.val, l4, i2, n4, s1, s2, al, sb, intR, isNonE, place, walked, wSeq, lcL, lcT, Rs.calm, bindT, wipeE, call_wholeI, e]
abbrev encS (s : Int × Int) : Vl := .tup [.int s.1, .int s.2]
def okS (s : Int × Int) : Bool := decide (1 ≤ s.1) && decide (s.1 ≤ 1000000) && (decide (0 ≤ s.2) && decide (s.2 ≤ 2))
theorem pw6 {h : Hh} : binV .pow (.int 10) (.int 6) h = .ok (.int 1000000) h := rfl
theorem sub_int {i j : Int} {h : Hh} : binV .sub (.int i) (.int j) h = .ok (.int (i - j)) h := rfl
theorem add_int {i j : Int} {h : Hh} : binV .add (.int i) (.int j) h = .ok (.int (i + j)) h := rfl
theorem isi2 {vs : List Vl} {h : Hh} : bltV (.isinst 2) [.tup vs] h = .ok (.bl true) h := rfl
theorem len_tup {vs : List Vl} {h : Hh} : bltV .len [.tup vs] h = .ok (.int vs.length) h := rfl
theorem ne_int {i j : Int} {h : Hh} : cmpV .ne (.int i) (.int j) h = .ok (.bl (!decide (i = j))) h := by
  show Rs.of (Option.map (fun b => Vl.bl (!b)) (some (i == j))) h = _
  rfl
theorem eq_int {i j : Int} {h : Hh} : cmpV .eq (.int i) (.int j) h = .ok (.bl (decide (i = j))) h := rfl
theorem idx_tup {vs : List Vl} {i : Nat} {v : Vl} {h : Hh} (e : vs[i]? = some v) : idxV (.tup vs) (.int i) h = .ok v h := by
  have lt : i < vs.length := (List.getElem?_eq_some_iff.mp e).1
  have e2 : vs[i] = v := by
    rw [List.getElem?_eq_getElem lt] at e
    cases e
    rfl
  simp [idxV, asSeq, ixOf, lt, e2, Rs.of]
theorem idx_0 {v : Vl} {vs : List Vl} {h : Hh} : idxV (.tup (v :: vs)) (.int 0) h = .ok v h := idx_tup (i := 0) rfl
theorem idx_1 {u v : Vl} {vs : List Vl} {h : Hh} : idxV (.tup (u :: v :: vs)) (.int 1) h = .ok v h := idx_tup (i := 1) rfl
theorem idx_2 {u v x : Vl} {vs : List Vl} {h : Hh} : idxV (.tup (u :: v :: x :: vs)) (.int 2) h = .ok x h := idx_tup (i := 2) rfl
theorem run_stamp {d : Nat} {s : Int × Int} : run prg (d + 2) 3 [encS s] [] = .ok (.bl (okS s)) [] := by
  obtain ⟨t, n⟩ := s
  rw [run_eq (F := ⟨1, 1, false, b3⟩) rfl rfl]
  have ev : ∀ x : Vl, startE ⟨1, 1, false, b3⟩ [x] = [some x] := fun _ => rfl
  rw [ev]
  by_cases c : 1 ≤ t ∧ t ≤ 1000000
  · simp [b3, execB, execS, evalE, evalL, Rs.bind, Rs.fl, Fl.val, isi2, len_tup, ne_int, idx_0, idx_1, pw6, sub_int, call_wholeI, okS, c.1, c.2]
  · have e : (decide (1 ≤ t) && decide (t ≤ 1000000)) = false := by
      rw [Bool.eq_false_iff]
      intro z
      simp only [Bool.and_eq_true, decide_eq_true_eq] at z
      exact c z
    simp [b3, execB, execS, evalE, evalL, Rs.bind, Rs.fl, Fl.val, isi2, len_tup, ne_int, idx_0, idx_1, pw6, sub_int, call_wholeI, okS, e]
theorem call_stamp {d : Nat} {s : Int × Int} {h : Hh} : callC prg (run prg (d + 2)) 3 [encS s] h = .ok (.bl (okS s)) h :=
  callC_val (F := ⟨1, 1, false, b3⟩) rfl rfl rfl run_stamp rfl
/-- a comprehension all of whose turns are told -/
theorem lcL_map {α : Type} {turn : Vl → Hh → Rs (Option Vl)} {h : Hh} {g f : α → Vl} : ∀ {xs : List α}, (∀ a ∈ xs, turn (g a) h = .ok (some (f a)) h) → lcL turn (xs.map g) h = .ok (xs.map f) h
  | [], _ => rfl
  | a :: xs, t => by
    simp only [List.map_cons, lcL, t a List.mem_cons_self, Rs.bind, lcL_map fun b hb => t b (List.mem_cons_of_mem _ hb)]
theorem bools_map {α : Type} (f : α → Bool) : ∀ xs : List α, bools (xs.map fun a => Vl.bl (f a)) = some (xs.map f)
  | [] => rfl
  | a :: xs => by simp [bools, bools_map f xs]
theorem all_map {α : Type} (f : α → Bool) (xs : List α) (h : Hh) : bltV .all [.lst (xs.map fun a => Vl.bl (f a))] h = .ok (.bl (xs.all f)) h := by
  simp [bltV, asList, bools_map, Rs.of, List.all_map]
theorem distinct_stamps {ns : List (Int × Int)} (nd : ns.Nodup) : (distinct [] (ns.map encS)).length = ns.length := by
  have hh : ∀ x ∈ ns.map encS, isHash x = true := fun x hx => by
    obtain ⟨s, _, rfl⟩ := List.mem_map.mp hx
    rfl
  obtain ⟨d1, d2⟩ := distinct_ok (ns.map encS) [] (by simp) hh (by simp)
  have e : ((distinct [] (ns.map encS)).map kyOf).length = ((ns.map encS).map kyOf).length := by
    refine nd_eq d1 ?_ fun x => by rw [d2 x]; simp
    rw [List.map_map]
    refine List.Pairwise.map _ (fun a b ne => ?_) nd
    intro z
    apply ne
    simp only [Function.comp, kyOf, List.map_cons, List.map_nil, intOf, Option.some.injEq, List.cons.injEq, and_true] at z
    exact Prod.ext z.1 z.2
  simpa using e
theorem lenset_stamps {ns : List (Int × Int)} {h : Hh} (nd : ns.Nodup) (few : ns.length < 64) : bltV .lenset [.tup (ns.map encS)] h = .ok (.int ns.length) h := by
  have hh : ((ns.map encS).all isHash) = true := by
    rw [List.all_eq_true]
    intro x hx
    obtain ⟨s, _, rfl⟩ := List.mem_map.mp hx
    rfl
  simp only [bltV, asSeq, hh, List.length_map, few, decide_true, Bool.and_self, if_true, distinct_stamps nd]
theorem run_stamps {d : Nat} {ns : List (Int × Int)} (l2 : 2 ≤ ns.length) (l3 : ns.length ≤ 3) (ok : ∀ s ∈ ns, okS s = true) (nd : ns.Nodup) : run prg (d + 3) 4 [.tup (ns.map encS)] [] = .ok (.bl true) [] := by
  rw [run_eq (F := ⟨1, 2, false, b4⟩) rfl rfl]
  have ev : ∀ x : Vl, startE ⟨1, 2, false, b4⟩ [x] = [some x, none] := fun _ => rfl
  rw [ev]
  have c1 : ∀ h, cmpV .le (.int 2) (.int ns.length) h = .ok (.bl true) h := fun h => by
    simp [cmpV, cmpI, Rs.of]; omega
  have c2 : ∀ h, cmpV .le (.int ns.length) (.int 3) h = .ok (.bl true) h := fun h => by
    simp [cmpV, cmpI, Rs.of]; omega
  have ln : ∀ h, bltV .len [.tup (ns.map encS)] h = .ok (.int ns.length) h := fun h => by rw [len_tup, List.length_map]
  have al : ns.all okS = true := List.all_eq_true.mpr ok
  have lt : ns.length ≤ 100000 := by omega
  have lc : ∀ h, evalE prg (callC prg (run prg (d + 2))) (.lc false [1] (.nm 1) .seq [(.var 0)] [] (.call 3 [(.var 1)])) [some (.tup (ns.map encS)), none] h = .ok (.lst (ns.map fun s => .bl (okS s))) h := fun h => by
    have z := fun turn t => lcL_map (turn := turn) (h := h) (g := encS) (f := fun s => Vl.bl (okS s)) (xs := ns) t
    simp only [evalE, evalL, Rs.bind, List.getElem?_cons_zero, walked, wSeq, List.length_map, lt, if_true]
    rw [z]
    · rfl
    · intro s _
      simp [evalE, evalL, Rs.bind, lcT, Rs.calm, bindT, wipeE, call_stamp]
  have le : ∀ h, bltV .lenset [.tup (ns.map encS)] h = .ok (.int ns.length) h := fun h => lenset_stamps nd (by omega)
  simp [b4, execB, execS, evalE, evalL, Rs.bind, Rs.fl, Fl.val, isi2, ln, c1, c2, ↓lc, all_map, al, le, eq_int]
end IL
end

section
set_option autoImplicit false
set_option linter.all false
set_option Elab.async false
set_option maxRecDepth 100000
set_option maxHeartbeats 2000000
namespace IL
open PySem
/-- the deeds a story tells -/
inductive Dd where
  | draw (x y w t : Int)
  | group (ns : List (Int × Int))
  | move (n : Int × Int) (x y : Int)
  | size (n : Int × Int) (x y : Int)
  | colour (n : Int × Int) (c : Int)
  | word (i : Nat) (n : Int × Int)
def wordAt : Nat → Str
  | 0 => "raise" | 1 => "lower" | 2 => "ungroup" | 3 => "erase" | 4 => "lock" | 5 => "unlock" | _ => "undo"
def encD : Dd → Vl
  | .draw x y w t => .tup [.str "draw", .tup [.int x, .int y, .int w, .int t]]
  | .group ns => .tup [.str "group", .tup (ns.map encS)]
  | .move n x y => .tup [.str "move", encS n, .int x, .int y]
  | .size n x y => .tup [.str "size", encS n, .int x, .int y]
  | .colour n c => .tup [.str "colour", encS n, .int c]
  | .word i n => .tup [.str (wordAt i), encS n]
def okD : Dd → Prop
  | .draw x y w t => (-20 ≤ x ∧ x ≤ 20) ∧ (-20 ≤ y ∧ y ≤ 20) ∧ (1 ≤ w ∧ w ≤ 8) ∧ 1 ≤ t ∧ t ≤ 8
  | .group ns => 2 ≤ ns.length ∧ ns.length ≤ 3 ∧ (∀ s ∈ ns, okS s = true) ∧ ns.Nodup
  | .move n x y => okS n = true ∧ (-20 ≤ x ∧ x ≤ 20) ∧ -20 ≤ y ∧ y ≤ 20
  | .size n x y => okS n = true ∧ (1 ≤ x ∧ x ≤ 8) ∧ 1 ≤ y ∧ y ≤ 8
  | .colour n c => okS n = true ∧ 0 ≤ c ∧ c ≤ 7
  | .word i n => okS n = true
theorem below_tup {n : Nat} {vs : List Vl} (h : ∀ v ∈ vs, below 11 n v = true) : below deep n (.tup vs) = true := by
  show vs.all (below 11 n) = true
  exact List.all_eq_true.mpr h
theorem below_ns {k : Nat} (ns : List (Int × Int)) : (ns.map encS).all (below (k + 2) 0) = true := by
  rw [List.all_eq_true]
  intro v hv
  obtain ⟨s, _, rfl⟩ := List.mem_map.mp hv
  rfl
theorem below_deed (x : Dd) {k : Nat} : below (k + 4) 0 (encD x) = true := by
  cases x <;> try rfl
  rename_i ns
  show ([Vl.str "group", .tup (ns.map encS)].all (below (k + 3) 0)) = true
  simp only [List.all_cons, List.all_nil, Bool.and_true]
  exact below_ns (k := k) ns
theorem call_box {d : Nat} {x y w t : Int} {h : Hh} : callC prg (run prg (d + 2)) 2 [.tup [.int x, .int y, .int w, .int t]] h = .ok (.bl (decide (-20 ≤ x) && decide (x ≤ 20) && (decide (-20 ≤ y) && decide (y ≤ 20)) && (decide (1 ≤ w) && decide (w ≤ 8) && (decide (1 ≤ t) && decide (t ≤ 8))))) h :=
  callC_val (F := ⟨1, 2, false, b2⟩) rfl rfl rfl run_box rfl
theorem call_stamps {d : Nat} {ns : List (Int × Int)} {h : Hh} (l2 : 2 ≤ ns.length) (l3 : ns.length ≤ 3) (ok : ∀ s ∈ ns, okS s = true) (nd : ns.Nodup) : callC prg (run prg (d + 3)) 4 [.tup (ns.map encS)] h = .ok (.bl true) h :=
  callC_val (F := ⟨1, 2, false, b4⟩) rfl rfl (by simp only [List.all_cons, List.all_nil, Bool.and_true]; exact below_ns (k := 9) ns) (run_stamps l2 l3 ok nd) rfl
theorem eq_str {x y : Str} {h : Hh} : cmpV .eq (.str x) (.str y) h = .ok (.bl (x == y)) h := rfl
theorem isi3 {x : Str} {h : Hh} : bltV (.isinst 3) [.str x] h = .ok (.bl true) h := rfl
theorem run_deed {d : Nat} {x : Dd} (ok : okD x) : run prg (d + 4) 5 [encD x] [] = .ok (.bl true) [] := by
  rw [run_eq (F := ⟨1, 3, false, b5⟩) rfl rfl]
  have ev : ∀ x : Vl, startE ⟨1, 3, false, b5⟩ [x] = [some x, none, none] := fun _ => rfl
  rw [ev]
  have al : ∀ (a b : Bool) h, bltV .all [.lst [.bl a, .bl b]] h = .ok (.bl (a && b)) h := fun a b h => by simp [bltV, asList, bools, Rs.of]
  have s2 : ∀ (u v x y : Vl) h, slcV (.tup [u, v, x, y]) (.int 2) .non .non h = .ok (.tup [x, y]) h := fun _ _ _ _ _ => rfl
  have q1 : (("draw" : Str) == "draw") = true := by decide
  have q2 : (("group" : Str) == "draw") = false := by decide
  have q3 : (("group" : Str) == "group") = true := by decide
  have q4 : (("move" : Str) == "draw") = false := by decide
  have q5 : (("move" : Str) == "group") = false := by decide
  have q6 : (("move" : Str) == "move") = true := by decide
  have q7 : (("size" : Str) == "draw") = false := by decide
  have q8 : (("size" : Str) == "group") = false := by decide
  have q9 : (("size" : Str) == "move") = false := by decide
  have q10 : (("size" : Str) == "size") = true := by decide
  have q11 : (("colour" : Str) == "draw") = false := by decide
  have q12 : (("colour" : Str) == "group") = false := by decide
  have q13 : (("colour" : Str) == "move") = false := by decide
  have q14 : (("colour" : Str) == "size") = false := by decide
  have q15 : (("colour" : Str) == "colour") = true := by decide
  cases x with
  | draw x y w t =>
    obtain ⟨⟨a1, a2⟩, ⟨a3, a4⟩, ⟨a5, a6⟩, a7, a8⟩ := ok
    simp [encD, b5, execB, execS, evalE, evalL, Rs.bind, Rs.fl, Fl.val, isi2, isi3, len_tup, lt_int, idx_0, idx_1, eq_str, eq_int, q1, call_box, a1, a2, a3, a4, a5, a6, a7, a8]
  | group ns =>
    obtain ⟨a1, a2, a3, a4⟩ := ok
    have cs : ∀ h, callC prg (run prg (d + 3)) 4 [.tup (ns.map encS)] h = .ok (.bl true) h := fun h => call_stamps a1 a2 a3 a4
    simp [encD, b5, execB, execS, evalE, evalL, Rs.bind, Rs.fl, Fl.val, isi2, isi3, len_tup, lt_int, idx_0, idx_1, eq_str, eq_int, q2, q3, cs]
  | move n x y =>
    obtain ⟨a0, ⟨a1, a2⟩, a3, a4⟩ := ok
    have cs : ∀ h, callC prg (run prg (d + 3)) 3 [encS n] h = .ok (.bl true) h := fun h => by rw [← a0]; exact call_stamp (d := d + 1)
    simp [encD, b5, execB, execS, evalE, evalL, Rs.bind, Rs.fl, Fl.val, isi2, isi3, len_tup, lt_int, idx_0, idx_1, eq_str, eq_int, q4, q5, q6, cs, s2, al, sub_int, intR, isNonE, place, walked, wSeq, lcL, lcT, Rs.calm, bindT, wipeE, call_wholeI, a1, a2, a3, a4]
  | size n x y =>
    obtain ⟨a0, ⟨a1, a2⟩, a3, a4⟩ := ok
    have cs : ∀ h, callC prg (run prg (d + 3)) 3 [encS n] h = .ok (.bl true) h := fun h => by rw [← a0]; exact call_stamp (d := d + 1)
    simp [encD, b5, execB, execS, evalE, evalL, Rs.bind, Rs.fl, Fl.val, isi2, isi3, len_tup, lt_int, idx_0, idx_1, eq_str, eq_int, q7, q8, q9, q10, cs, s2, al, sub_int, intR, isNonE, place, walked, wSeq, lcL, lcT, Rs.calm, bindT, wipeE, call_wholeI, a1, a2, a3, a4]
  | colour n c =>
    obtain ⟨a0, a1, a2⟩ := ok
    have cs : ∀ h, callC prg (run prg (d + 3)) 3 [encS n] h = .ok (.bl true) h := fun h => by rw [← a0]; exact call_stamp (d := d + 1)
    simp [encD, b5, execB, execS, evalE, evalL, Rs.bind, Rs.fl, Fl.val, isi2, isi3, len_tup, lt_int, idx_0, idx_1, idx_2, eq_str, eq_int, q11, q12, q13, q14, q15, cs, call_wholeI, a1, a2]
  | word i n =>
    have a0 : okS n = true := ok
    have cs : ∀ h, callC prg (run prg (d + 3)) 3 [encS n] h = .ok (.bl true) h := fun h => by rw [← a0]; exact call_stamp (d := d + 1)
    have w1 : (wordAt i == ("draw" : Str)) = false ∧ (wordAt i == ("group" : Str)) = false ∧ (wordAt i == ("move" : Str)) = false ∧ (wordAt i == ("size" : Str)) = false ∧ (wordAt i == ("colour" : Str)) = false := by
      unfold wordAt
      split <;> decide
    have w2 : ∀ h, cmpV .isin (.str (wordAt i)) (.tup [.str "raise", .str "lower", .str "ungroup", .str "erase", .str "lock", .str "unlock", .str "undo"]) h = .ok (.bl true) h := fun h => by
      unfold wordAt
      split <;> rfl
    obtain ⟨b1', b2', b3', b4', b5'⟩ := w1
    simp [encD, b5, execB, execS, evalE, evalL, Rs.bind, Rs.fl, Fl.val, isi2, isi3, len_tup, lt_int, idx_0, idx_1, eq_str, eq_int, b1', b2', b3', b4', b5', w2, cs]
theorem call_deed {d : Nat} {x : Dd} {h : Hh} (ok : okD x) : callC prg (run prg (d + 4)) 5 [encD x] h = .ok (.bl true) h :=
  callC_val (F := ⟨1, 3, false, b5⟩) rfl rfl (by simp only [List.all_cons, List.all_nil, Bool.and_true]; exact below_deed x (k := 8)) (run_deed ok) rfl
end IL
end

section
set_option autoImplicit false
set_option linter.all false
set_option Elab.async false
set_option maxRecDepth 100000
set_option maxHeartbeats 2000000
namespace IL
open PySem
structure Lt where
  s : Int × Int
  n : Int
  x : Dd
def encL (l : Lt) : Vl := .tup [encS l.s, .int l.n, encD l.x]
def okL (l : Lt) : Prop := okS l.s = true ∧ (0 ≤ l.n ∧ l.n ≤ 1000000) ∧ okD l.x
theorem below_letter (l : Lt) {k : Nat} : below (k + 5) 0 (encL l) = true := by
  show ([encS l.s, .int l.n, encD l.x].all (below (k + 4) 0)) = true
  simp only [List.all_cons, List.all_nil, Bool.and_true, Bool.and_eq_true]
  exact ⟨rfl, rfl, below_deed l.x (k := k)⟩
theorem run_letter {d : Nat} {l : Lt} (ok : okL l) : run prg (d + 5) 6 [encL l] [] = .ok (.bl true) [] := by
  obtain ⟨a0, ⟨a1, a2⟩, a3⟩ := ok
  rw [run_eq (F := ⟨1, 1, false, b6⟩) rfl rfl]
  have ev : ∀ x : Vl, startE ⟨1, 1, false, b6⟩ [x] = [some x] := fun _ => rfl
  rw [ev]
  have cs : ∀ h, callC prg (run prg (d + 4)) 3 [encS l.s] h = .ok (.bl true) h := fun h => by rw [← a0]; exact call_stamp (d := d + 2)
  have cd : ∀ h, callC prg (run prg (d + 4)) 5 [encD l.x] h = .ok (.bl true) h := fun h => call_deed a3
  simp [encL, b6, execB, execS, evalE, evalL, Rs.bind, Rs.fl, Fl.val, isi2, len_tup, ne_int, idx_0, idx_1, idx_2, pw6, call_wholeI, cs, cd, a1, a2]
theorem call_letter {d : Nat} {l : Lt} {h : Hh} (ok : okL l) : callC prg (run prg (d + 5)) 6 [encL l] h = .ok (.bl true) h :=
  callC_val (F := ⟨1, 1, false, b6⟩) rfl rfl (by simp only [List.all_cons, List.all_nil, Bool.and_true]; exact below_letter l (k := 7)) (run_letter ok) rfl
/-! ### what a story's deed is -/
abbrev nms (ns : List (Int × Int)) : Vl := .lst (ns.map encS)
theorem len_lst {vs : List Vl} {h : Hh} : bltV .len [.lst vs] h = .ok (.int vs.length) h := rfl
theorem idx_lst {vs : List Vl} {i : Int} {v : Vl} {h : Hh} (h0 : 0 ≤ i) (e : vs[i.toNat]? = some v) : idxV (.lst vs) (.int i) h = .ok v h := by
  have lt : i.toNat < vs.length := (List.getElem?_eq_some_iff.mp e).1
  have l2 : i < vs.length := by omega
  have e2 : vs[i.toNat] = v := by
    rw [List.getElem?_eq_getElem lt] at e
    cases e
    rfl
  simp [idxV, asSeq, asList, ixOf, h0, l2, lt, e2, Rs.of]
theorem ne_nil {ns : List (Int × Int)} {h : Hh} : cmpV .ne (nms ns) (.lst []) h = .ok (.bl (!decide (ns = []))) h := by
  have b1 : below deep 0 (nms ns) = true := below_ns (k := 9) ns
  have d1 : isData deep (nms ns) = true := by
    show (ns.map encS).all (isData 11) = true
    rw [List.all_eq_true]
    intro v hv
    obtain ⟨s, _, rfl⟩ := List.mem_map.mp hv
    rfl
  have e : eqH (nms ns) (.lst []) h = some (decide (ns = [])) := by
    unfold eqH
    rw [thaw_of b1, thaw_of (v := .lst []) rfl]
    simp only [d1]
    cases ns <;> simp [isData, eqv, eqvs]
  simp [cmpV, e, Rs.of]
end IL
end

section
set_option autoImplicit false
set_option linter.all false
set_option Elab.async false
set_option maxRecDepth 100000
set_option maxHeartbeats 4000000
namespace IL
open PySem
abbrev SL := List (Int × Int)
def nameI (ns : List Int) (a : Int) (names : SL) : Int × Int := if names = [] then (2, 1) else names.getD (pickI ns a names.length).toNat (2, 1)
def wordNo : Nat → Nat
  | 0 => 0 | 1 => 1 | 2 => 2 | 3 => 3 | 4 => 4 | 5 => 5 | 6 => 6 | 7 => 4 | 8 => 4 | _ => 3
def deedI (ns : List Int) (a : Int) (names : SL) : Dd :=
  if names.length < 3 ∨ pickI ns (a + 1) 25 < 5 then .draw (pickI ns (a + 2) 12) (pickI ns (a + 3) 12) (1 + pickI ns (a + 4) 6) (1 + pickI ns (a + 5) 6)
  else if pickI ns (a + 1) 25 < 9 then
    (let some := (names.drop (pickI ns (a + 2) (names.length - 1)).toNat).take (2 + pickI ns (a + 3) 2).toNat
    .group (if pickI ns (a + 4) 2 = 0 then some else some.reverse))
  else if pickI ns (a + 1) 25 < 11 then .move (nameI ns a names) (pickI ns (a + 2) 9 - 4) (pickI ns (a + 3) 9 - 4)
  else if pickI ns (a + 1) 25 = 11 then .size (nameI ns a names) (1 + pickI ns (a + 2) 8) (1 + pickI ns (a + 3) 8)
  else if pickI ns (a + 1) 25 = 12 then .colour (nameI ns a names) (pickI ns (a + 2) 8)
  else .word (wordNo (pickI ns (a + 1) 25 - 13).toNat) (nameI ns a names)
theorem name_ok {ns : List Int} {a : Int} {names : SL} (ok : ∀ s ∈ names, okS s = true) : okS (nameI ns a names) = true := by
  unfold nameI
  split
  · rfl
  · rename_i c
    have pos : 0 < names.length := List.length_pos_iff.mpr c
    obtain ⟨p1, p2⟩ := pick_lt (ns := ns) (k := a) (m := names.length) (by omega)
    have lt : (pickI ns a names.length).toNat < names.length := by omega
    rw [List.getD_eq_getElem?_getD, List.getElem?_eq_getElem lt]
    exact ok _ (List.getElem_mem lt)
theorem deed_ok {ns : List Int} {a : Int} {names : SL} (ok : ∀ s ∈ names, okS s = true) (nd : names.Nodup) : okD (deedI ns a names) := by
  have nok := name_ok (ns := ns) (a := a) ok
  have pk := fun (k m : Int) (hm : 0 < m) => pick_lt (ns := ns) (k := k) (m := m) hm
  unfold deedI
  split
  · have h1 := pk (a + 2) 12 (by omega)
    have h2 := pk (a + 3) 12 (by omega)
    have h3 := pk (a + 4) 6 (by omega)
    have h4 := pk (a + 5) 6 (by omega)
    refine ⟨⟨?_, ?_⟩, ⟨?_, ?_⟩, ⟨?_, ?_⟩, ?_, ?_⟩ <;> omega
  · rename_i c
    split
    · have h1 := pk (a + 2) (names.length - 1) (by omega)
      have h2 := pk (a + 3) 2 (by omega)
      have all : ∀ l : SL, l = (names.drop (pickI ns (a + 2) (names.length - 1)).toNat).take (2 + pickI ns (a + 3) 2).toNat → okD (.group l) := fun l e => by
        subst e
        refine ⟨?_, ?_, fun s hs => ok s (List.mem_of_mem_drop (List.mem_of_mem_take hs)), (nd.sublist (List.drop_sublist _ _)).sublist (List.take_sublist _ _)⟩
        · rw [List.length_take, List.length_drop]; omega
        · rw [List.length_take, List.length_drop]; omega
      dsimp only
      split
      · exact all _ rfl
      · obtain ⟨g1, g2, g3, g4⟩ := all _ rfl
        exact ⟨by rw [List.length_reverse]; exact g1, by rw [List.length_reverse]; exact g2, fun s hs => g3 s (List.mem_reverse.mp hs), (List.reverse_perm _).nodup_iff.mpr g4⟩
    · split
      · have h1 := pk (a + 2) 9 (by omega)
        have h2 := pk (a + 3) 9 (by omega)
        refine ⟨nok, ⟨?_, ?_⟩, ?_, ?_⟩ <;> omega
      · split
        · have h1 := pk (a + 2) 8 (by omega)
          have h2 := pk (a + 3) 8 (by omega)
          refine ⟨nok, ⟨?_, ?_⟩, ?_, ?_⟩ <;> omega
        · split
          · have h1 := pk (a + 2) 8 (by omega)
            refine ⟨nok, ?_, ?_⟩ <;> omega
          · exact nok
theorem slc_names {ns : SL} {lo hi : Int} {h : Hh} (h0 : 0 ≤ lo) (h1 : lo ≤ ns.length) (h2 : lo ≤ hi) : slcV (nms ns) (.int lo) (.int hi) .non h = .ok (nms ((ns.drop lo.toNat).take (hi - lo).toNat)) h := by
  have e : cut (ns.map encS) (some lo) (some hi) = ((ns.drop lo.toNat).take (hi - lo).toNat).map encS := by
    unfold cut sIx
    rw [List.map_take, List.map_drop, List.length_map]
    have a1 : ¬ lo < 0 := by omega
    have a2 : ¬ hi < 0 := by omega
    simp only [a1, a2, if_false]
    have a3 : (min lo (ns.length : Int)).toNat = lo.toNat := by omega
    rw [a3]
    by_cases c : hi ≤ ns.length
    · have a4 : (min hi (ns.length : Int)).toNat - lo.toNat = (hi - lo).toNat := by omega
      rw [a4]
    · have a4 : (min hi (ns.length : Int)).toNat - lo.toNat = ns.length - lo.toNat := by omega
      rw [a4, List.take_of_length_le (by rw [List.length_drop, List.length_map]; omega), List.take_of_length_le (by rw [List.length_drop, List.length_map]; omega)]
  simp [slcV, bound, asList, e]
theorem slc_rev {ns : SL} {h : Hh} : slcV (nms ns) .non .non (.int (-1)) h = .ok (nms ns.reverse) h := by
  simp [slcV, asList]
theorem slc_one {ns : SL} {h : Hh} : slcV (nms ns) .non .non (.int 1) h = .ok (nms ns) h := by
  simp [slcV, asList]
theorem add_tup {xs ys : List Vl} {h : Hh} (l : xs.length + ys.length ≤ 100000) : binV .add (.tup xs) (.tup ys) h = .ok (.tup (xs ++ ys)) h := by
  simp [binV, l]
theorem tup_lst {xs : List Vl} {h : Hh} : bltV .tuple [.lst xs] h = .ok (.tup xs) h := rfl
theorem execB_app {P : Pg} {cf : Nat → List Vl → Hh → Rs Vl} : ∀ (xs ys : List Sm) (ρ : Ev) (h : Hh), execB P cf (xs ++ ys) ρ h = (match execB P cf xs ρ h with
    | .nx ρ' h' => execB P cf ys ρ' h'
    | f => f)
  | [], ys, ρ, h => rfl
  | x :: xs, ys, ρ, h => by
    simp only [List.cons_append, execB]
    cases execS P cf x ρ h <;> simp only []
    exact execB_app xs ys _ _
theorem run_story_deed {d : Nat} {ns : List Int} {a : Int} {names : SL} (ha : 0 ≤ a) : run prg (d + 3) 9 [scr ns, .int a, nms names] [] = .ok (encD (deedI ns a names)) [] := by
  rw [run_eq (F := ⟨3, 9, false, b9⟩) rfl rfl]
  have ev : ∀ x y z : Vl, startE ⟨3, 9, false, b9⟩ [x, y, z] = [some x, some y, some z, none, none, none, none, none, none] := fun _ _ _ => rfl
  rw [ev]
  have pc : ∀ (k m : Int) h, 0 ≤ k → 0 < m → callC prg (run prg (d + 2)) 8 [scr ns, .int k, .int m] h = .ok (.int (pickI ns k m)) h := fun k m h hk hm => call_pick hk hm
  have pk := fun (k m : Int) (hm : 0 < m) => pick_lt (ns := ns) (k := k) (m := m) hm
  have ln : ∀ h, bltV .len [nms names] h = .ok (.int names.length) h := fun h => by rw [len_lst, List.length_map]
  have p1 : ∀ h, callC prg (run prg (d + 2)) 8 [scr ns, .int (a + 1), .int 25] h = .ok (.int (pickI ns (a + 1) 25)) h := fun h => pc _ _ h (by omega) (by omega)
  -- the name
  have nm : ∀ h, execB prg (callC prg (run prg (d + 2))) [.set 3 (.tup [(.cst (.int 2)), (.cst (.int 1))]), .ife (.cmp .ne (.var 2) (.lst false [])) [.set 3 (.idx (.var 2) (.call 8 [(.var 0), (.var 1), (.blt .len [(.var 2)])]))] []] [some (scr ns), some (.int a), some (nms names), none, none, none, none, none, none] h = .nx [some (scr ns), some (.int a), some (nms names), some (encS (nameI ns a names)), none, none, none, none, none] h := fun h => by
    by_cases c : names = []
    · have q : ∀ h, cmpV .ne (nms names) (.lst []) h = .ok (.bl false) h := fun h => by rw [ne_nil]; simp [c]
      unfold nameI
      rw [if_pos c]
      simp [execB, execS, evalE, evalL, Rs.bind, Rs.fl, place, q]
    · have q : ∀ h, cmpV .ne (nms names) (.lst []) h = .ok (.bl true) h := fun h => by rw [ne_nil]; simp [c]
      have pos : 0 < names.length := List.length_pos_iff.mpr c
      obtain ⟨g1, g2⟩ := pk a names.length (by omega)
      have lt : (pickI ns a names.length).toNat < names.length := by omega
      have p0 : ∀ h, callC prg (run prg (d + 2)) 8 [scr ns, .int a, .int names.length] h = .ok (.int (pickI ns a names.length)) h := fun h => pc _ _ h ha (by omega)
      have ix : ∀ h, idxV (nms names) (.int (pickI ns a names.length)) h = .ok (encS (nameI ns a names)) h := fun h => by
        refine idx_lst g1 ?_
        unfold nameI
        rw [if_neg c, List.getElem?_map, List.getD_eq_getElem?_getD, List.getElem?_eq_getElem lt]
        rfl
      simp [execB, execS, evalE, evalL, Rs.bind, Rs.fl, place, q, ln, p0, ix]
  have sp : b9 = b9.take 2 ++ b9.drop 2 := rfl
  show (execB prg (callC prg (run prg (d + 2))) b9 [some (scr ns), some (.int a), some (nms names), none, none, none, none, none, none] []).val = _
  rw [sp, execB_app]
  have n2 := nm []
  rw [show b9.take 2 = [.set 3 (.tup [(.cst (.int 2)), (.cst (.int 1))]), .ife (.cmp .ne (.var 2) (.lst false [])) [.set 3 (.idx (.var 2) (.call 8 [(.var 0), (.var 1), (.blt .len [(.var 2)])]))] []] from rfl, n2]
  dsimp only
  have w1 := pk (a + 1) 25 (by omega)
  have c2 := fun m h => pc (a + 2) m h (by omega)
  have c3 := fun m h => pc (a + 3) m h (by omega)
  have c4 := fun m h => pc (a + 4) m h (by omega)
  have c5 := fun m h => pc (a + 5) m h (by omega)
  unfold deedI
  by_cases k1 : names.length < 3 ∨ pickI ns (a + 1) 25 < 5
  · rw [if_pos k1]
    have t1 : ((names.length : Int) < 3 ∨ pickI ns (a + 1) 25 < 5) := by
      rcases k1 with z | z
      · exact .inl (by omega)
      · exact .inr z
    by_cases z : (names.length : Int) < 3
    · simp [b9, execB, execS, evalE, evalL, Rs.bind, Rs.fl, Fl.val, p1, add_int, lt_int, ln, z, c2, c3, c4, c5, add_tup, encD]
    · have z2 := t1.resolve_left z
      simp [b9, execB, execS, evalE, evalL, Rs.bind, Rs.fl, Fl.val, p1, add_int, lt_int, ln, z, z2, c2, c3, c4, c5, add_tup, encD]
  · rw [if_neg k1]
    have z : ¬ (names.length : Int) < 3 := by omega
    have z2 : ¬ pickI ns (a + 1) 25 < 5 := by omega
    by_cases k2 : pickI ns (a + 1) 25 < 9
    · rw [if_pos k2]
      have s1 := pk (a + 2) (names.length - 1) (by omega)
      have s2 := pk (a + 3) 2 (by omega)
      have s3 := pk (a + 4) 2 (by omega)
      have cut : ∀ h, slcV (nms names) (.int (pickI ns (a + 2) (names.length - 1))) (.int (pickI ns (a + 2) (names.length - 1) + 2 + pickI ns (a + 3) 2)) .non h = .ok (nms ((names.drop (pickI ns (a + 2) (names.length - 1)).toNat).take (2 + pickI ns (a + 3) 2).toNat)) h := fun h => by
        have e : (2 + pickI ns (a + 3) 2) = pickI ns (a + 2) (names.length - 1) + 2 + pickI ns (a + 3) 2 - pickI ns (a + 2) (names.length - 1) := by omega
        rw [slc_names s1.1 (by omega) (by omega)]
        conv => rhs; rw [e]
      have c2' : ∀ h, callC prg (run prg (d + 2)) 8 [scr ns, .int (a + 2), .int (names.length - 1)] h = .ok (.int (pickI ns (a + 2) (names.length - 1))) h := fun h => c2 _ h (by omega)
      generalize ((names.drop (pickI ns (a + 2) (names.length - 1)).toNat).take (2 + pickI ns (a + 3) 2).toNat) = some' at cut ⊢
      have mi : ∀ (i j : Int) h, binV .mul (.int i) (.int j) h = if (-(2 ^ 64) < i ∧ i < 2 ^ 64) ∨ (-(2 ^ 64) < j ∧ j < 2 ^ 64) then .ok (.int (i * j)) h else .bad := fun _ _ _ => rfl
      by_cases k0 : pickI ns (a + 4) 2 = 0
      · simp [b9, execB, execS, evalE, evalL, Rs.bind, Rs.fl, Fl.val, p1, add_int, sub_int, mi, lt_int, eq_int, ln, z, z2, k2, place, c2', c3, c4, cut, k0, intR, isNonE, slc_one, tup_lst, encD]
      · have k9 : pickI ns (a + 4) 2 = 1 := by omega
        simp [b9, execB, execS, evalE, evalL, Rs.bind, Rs.fl, Fl.val, p1, add_int, sub_int, mi, lt_int, eq_int, ln, z, z2, k2, place, c2', c3, c4, cut, k9, intR, isNonE, slc_rev, tup_lst, encD]
    · rw [if_neg k2]
      by_cases k3 : pickI ns (a + 1) 25 < 11
      · rw [if_pos k3]
        simp [b9, execB, execS, evalE, evalL, Rs.bind, Rs.fl, Fl.val, p1, add_int, sub_int, lt_int, ln, z, z2, k2, k3, c2, c3, encD]
      · rw [if_neg k3]
        by_cases k4 : pickI ns (a + 1) 25 = 11
        · rw [if_pos k4]
          simp [b9, execB, execS, evalE, evalL, Rs.bind, Rs.fl, Fl.val, p1, add_int, sub_int, lt_int, eq_int, ln, z, k4, c2, c3, encD]
        · rw [if_neg k4]
          by_cases k5 : pickI ns (a + 1) 25 = 12
          · rw [if_pos k5]
            simp [b9, execB, execS, evalE, evalL, Rs.bind, Rs.fl, Fl.val, p1, add_int, sub_int, lt_int, eq_int, ln, z, k5, c2, encD]
          · rw [if_neg k5]
            have ix : ∀ h, idxV (.lst [.str "raise", .str "lower", .str "ungroup", .str "erase", .str "lock", .str "unlock", .str "undo", .str "lock", .str "lock", .str "erase", .str "erase", .str "erase"]) (.int (pickI ns (a + 1) 25 - 13)) h = .ok (.str (wordAt (wordNo (pickI ns (a + 1) 25 - 13).toNat))) h := fun h => by
              refine idx_lst (by omega) ?_
              have b : (pickI ns (a + 1) 25 - 13).toNat < 12 := by omega
              generalize (pickI ns (a + 1) 25 - 13).toNat = i at b ⊢
              match i, b with
              | 0, _ => rfl | 1, _ => rfl | 2, _ => rfl | 3, _ => rfl | 4, _ => rfl | 5, _ => rfl | 6, _ => rfl | 7, _ => rfl | 8, _ => rfl | 9, _ => rfl | 10, _ => rfl | 11, _ => rfl
              | i + 12, b => exact absurd b (by omega)
            simp [b9, execB, execS, evalE, evalL, Rs.bind, Rs.fl, Fl.val, p1, add_int, sub_int, lt_int, eq_int, ln, z, z2, k2, k3, k4, k5, place, ix, encD]
end IL
end

section
set_option autoImplicit false
set_option linter.all false
set_option Elab.async false
set_option maxRecDepth 100000
set_option maxHeartbeats 4000000
namespace IL
open PySem
theorem call_story_deed {d : Nat} {ns : List Int} {a : Int} {names : SL} {h : Hh} (ha : 0 ≤ a) : callC prg (run prg (d + 3)) 9 [scr ns, .int a, nms names] h = .ok (encD (deedI ns a names)) h :=
  callC_val (F := ⟨3, 9, false, b9⟩) rfl rfl (by simp only [List.all_cons, List.all_nil, Bool.and_true, Bool.and_eq_true]; exact ⟨below_scr ns, rfl, below_ns (k := 9) names⟩) (run_story_deed ha) (below_deed _ (k := 8))
theorem lcL_filter {α : Type} {turn : Vl → Hh → Rs (Option Vl)} {h : Hh} {g f : α → Vl} {p : α → Bool} : ∀ {xs : List α}, (∀ a ∈ xs, turn (g a) h = .ok (if p a then some (f a) else none) h) → lcL turn (xs.map g) h = .ok ((xs.filter p).map f) h
  | [], _ => rfl
  | a :: xs, t => by
    have ih := lcL_filter fun b hb => t b (List.mem_cons_of_mem _ hb)
    simp only [List.map_cons, lcL, t a List.mem_cons_self, Rs.bind, ih, List.filter_cons]
    cases p a <;> simp
/-- a walk over a list of the heap that stays as it is -/
theorem lcC_eq {turn : Vl → Hh → Rs (Option Vl)} {l : Nat} {h : Hh} {xs : List Vl} (hl : h[l]? = some (.lst xs)) (ht : ∀ v ∈ xs, ∃ o, turn v h = .ok o h) : ∀ (n i : Nat), n + i = xs.length → lcC turn l n i h = lcL turn (xs.drop i) h
  | 0, i, e => by
    have : i = xs.length := by omega
    subst this
    simp [lcC, hl, lcL]
  | n + 1, i, e => by
    have lt : i < xs.length := by omega
    obtain ⟨o, ho⟩ := ht xs[i] (List.getElem_mem lt)
    rw [List.drop_eq_getElem_cons lt]
    simp only [lcC, hl, List.getElem?_eq_getElem lt, lcL, ho, Rs.bind, lcC_eq hl ht n (i + 1) (by omega)]
def wordOf : Dd → Str
  | .draw .. => "draw" | .group .. => "group" | .move .. => "move" | .size .. => "size" | .colour .. => "colour" | .word i _ => wordAt i
theorem idx_word {x : Dd} {h : Hh} : idxV (encD x) (.int 0) h = .ok (.str (wordOf x)) h := by
  cases x <;> exact idx_0
abbrev wds (m : Bool) : List Str := if m then ["draw", "group"] else ["draw", "group", "undo", "move"]
def isNm (m : Bool) (x : Dd) : Bool := (wds m).any fun z => z == wordOf x
theorem in_words {m : Bool} {w : Str} {h : Hh} : cmpV .isin (.str w) (.tup ((wds m).map .str)) h = .ok (.bl ((wds m).any fun z => z == w)) h := by
  cases m <;> rfl
/-- one more letter: what is made, the hands' clocks, the hands' numbers -/
structure Sy where
  made : List Lt
  last : List Int
  nums : List Int
def namesI (ns : List Int) (a k : Int) (s : Sy) : SL := (s.made.filter fun l => isNm (decide (0 < pickI ns (a + 9 + 10 * k) 5)) l.x).map (·.s)
def handI (ns : List Int) (a k : Int) : Int := pickI ns (a + 1 + 10 * k) 3
def stepI (ns : List Int) (a k : Int) (s : Sy) : Sy :=
  let j := (handI ns a k).toNat
  let t := if 1 + k / 2 > s.last.getD j 0 + 1 then 1 + k / 2 else s.last.getD j 0 + 1
  ⟨s.made ++ [⟨(t, handI ns a k), s.nums.getD j 0, deedI ns (a + 2 + 10 * k) (namesI ns a k s)⟩], s.last.set j t, s.nums.set j (s.nums.getD j 0 + 1)⟩
def heapS (s : Sy) : Hh := [.lst (s.made.map encL), .lst (s.last.map .int), .lst (s.nums.map .int)]
theorem idx_ref {xs : List Vl} {l : Nat} {i : Int} {v : Vl} {h : Hh} (hl : h[l]? = some (.lst xs)) (h0 : 0 ≤ i) (e : xs[i.toNat]? = some v) : idxV (.ref l) (.int i) h = .ok v h := by
  have lt : i.toNat < xs.length := (List.getElem?_eq_some_iff.mp e).1
  have l2 : i < xs.length := by omega
  have e2 : xs[i.toNat] = v := by
    rw [List.getElem?_eq_getElem lt] at e
    cases e
    rfl
  simp [idxV, asSeq, asList, hl, ixOf, h0, l2, lt, e2, Rs.of]
theorem get_int {xs : List Int} {i : Int} (h0 : 0 ≤ i) (h1 : i < xs.length) : (xs.map Vl.int)[i.toNat]? = some (.int (xs.getD i.toNat 0)) := by
  have lt : i.toNat < xs.length := by omega
  simp [lt]
theorem set_ref {xs : List Vl} {l : Nat} {i : Int} {v : Vl} {h : Hh} (hl : h[l]? = some (.lst xs)) (h0 : 0 ≤ i) (h1 : i < xs.length) : setIV (.ref l) (.int i) v h = some (h.set l (.lst (xs.set i.toNat v))) := by
  simp [setIV, hl, ixOf, h0, h1]
theorem app_ref {xs : List Vl} {l : Nat} {v : Vl} {h : Hh} (hl : h[l]? = some (.lst xs)) (h1 : xs.length < 100000) : bmV 0 .append (.ref l) [v] h = .ok .non (h.set l (.lst (xs ++ [v]))) := by
  simp [bmV, hl, h1]
theorem gt_int {i j : Int} {h : Hh} : cmpV .gt (.int i) (.int j) h = .ok (.bl (decide (j < i))) h := rfl
theorem max_int {i j : Int} {h : Hh} : bltV .max [.int i, .int j] h = .ok (.int (if j > i then j else i)) h := rfl
theorem mul_int {i j : Int} {h : Hh} (c : -(2 ^ 64) < i ∧ i < 2 ^ 64) : binV .mul (.int i) (.int j) h = .ok (.int (i * j)) h := by
  show (if _ then _ else _) = _
  rw [if_pos (.inl c)]
theorem div_int {i j : Int} {h : Hh} (c : 0 < j ∧ j < 1073741824) : binV .fdiv (.int i) (.int j) h = .ok (.int (i / j)) h := by
  show (if _ then _ else _) = _
  rw [if_pos c]
/-- one turn's letters and names, whatever stood in the loop's slots -/
theorem story_turn {d : Nat} {ns : List Int} {a m k : Int} {s : Sy} (ha : 0 ≤ a) (hk : 0 ≤ k) (l1 : s.last.length = 3) (l2 : s.nums.length = 3) (lm : s.made.length < 1000) (x6 x7 x8 x9 x10 x11 : Option Vl) :
    ∃ y6 y7 y8 y9 y10 y11, (match bindT (.nm 6) (.int k) [some (scr ns), some (.int a), some (.int m), some (.ref 0), some (.ref 1), some (.ref 2), x6, x7, x8, x9, x10, x11] with
      | some ρ1 => execB prg (callC prg (run prg (d + 3))) [.set 7 (.call 8 [(.var 0), (.bin .add (.bin .add (.var 1) (.cst (.int 1))) (.bin .mul (.cst (.int 10)) (.var 6))), (.cst (.int 3))]),
    .set 8 (.ite (.cmp .gt (.call 8 [(.var 0), (.bin .add (.bin .add (.var 1) (.cst (.int 9))) (.bin .mul (.cst (.int 10)) (.var 6))), (.cst (.int 5))]) (.cst (.int 0))) (.tup [(.cst (.str "draw")), (.cst (.str "group"))]) (.tup [(.cst (.str "draw")), (.cst (.str "group")), (.cst (.str "undo")), (.cst (.str "move"))])),
    .set 9 (.lc false [10] (.nm 10) .seq [(.var 3)] [(.cmp .isin (.idx (.idx (.var 10) (.cst (.int 2))) (.cst (.int 0))) (.var 8))] (.idx (.var 10) (.cst (.int 0)))),
    .setI (.var 4) (.var 7) (.blt .max [(.bin .add (.idx (.var 4) (.var 7)) (.cst (.int 1))), (.bin .add (.cst (.int 1)) (.bin .fdiv (.var 6) (.cst (.int 2))))]),
    .set 11 (.call 9 [(.var 0), (.bin .add (.bin .add (.var 1) (.cst (.int 2))) (.bin .mul (.cst (.int 10)) (.var 6))), (.var 9)]),
    .drop (.bm .append (.var 3) [(.tup [(.tup [(.idx (.var 4) (.var 7)), (.var 7)]), (.idx (.var 5) (.var 7)), (.var 11)])]),
    .setI (.var 5) (.var 7) (.bin .add (.idx (.var 5) (.var 7)) (.cst (.int 1)))] ρ1 (heapS s)
      | none => .bad) = .nx [some (scr ns), some (.int a), some (.int m), some (.ref 0), some (.ref 1), some (.ref 2), y6, y7, y8, y9, y10, y11] (heapS (stepI ns a k s)) := by
  have hd := pick_lt (ns := ns) (k := a + 1 + 10 * k) (m := 3) (by omega)
  have c1 : ∀ h, callC prg (run prg (d + 3)) 8 [scr ns, .int (a + 1 + 10 * k), .int 3] h = .ok (.int (handI ns a k)) h := fun h => call_pick (d := d + 1) (by omega) (by omega)
  have c2 : ∀ h, callC prg (run prg (d + 3)) 8 [scr ns, .int (a + 9 + 10 * k), .int 5] h = .ok (.int (pickI ns (a + 9 + 10 * k) 5)) h := fun h => call_pick (d := d + 1) (by omega) (by omega)
  have hd : 0 ≤ handI ns a k ∧ handI ns a k < 3 := hd
  have c3 : ∀ h, callC prg (run prg (d + 3)) 9 [scr ns, .int (a + 2 + 10 * k), nms (namesI ns a k s)] h = .ok (encD (deedI ns (a + 2 + 10 * k) (namesI ns a k s))) h := fun h => call_story_deed (by omega)
  have m10 : ∀ h, binV .mul (.int 10) (.int k) h = .ok (.int (10 * k)) h := fun h => mul_int (by omega)
  have dv : ∀ h, binV .fdiv (.int k) (.int 2) h = .ok (.int (k / 2)) h := fun h => div_int (by omega)
  have lc : ∀ x9 x10 x11, evalE prg (callC prg (run prg (d + 3))) (.lc false [10] (.nm 10) .seq [(.var 3)] [(.cmp .isin (.idx (.idx (.var 10) (.cst (.int 2))) (.cst (.int 0))) (.var 8))] (.idx (.var 10) (.cst (.int 0)))) [some (scr ns), some (.int a), some (.int m), some (.ref 0), some (.ref 1), some (.ref 2), some (.int k), some (.int (handI ns a k)), some (.tup ((wds (decide (0 < pickI ns (a + 9 + 10 * k) 5))).map .str)), x9, x10, x11] (heapS s) = .ok (nms (namesI ns a k s)) (heapS s) := fun x9 x10 x11 => by
    have tn : ∀ l ∈ s.made, ∀ x9 x10 x11, lcT (bindT (.nm 10) (encL l) (wipeE [some (scr ns), some (.int a), some (.int m), some (.ref 0), some (.ref 1), some (.ref 2), some (.int k), some (.int (handI ns a k)), some (.tup ((wds (decide (0 < pickI ns (a + 9 + 10 * k) 5))).map .str)), x9, x10, x11] [10])) (fun ρ1 h => evalL prg (callC prg (run prg (d + 3))) [(.cmp .isin (.idx (.idx (.var 10) (.cst (.int 2))) (.cst (.int 0))) (.var 8))] ρ1 h) (fun ρ1 h => evalE prg (callC prg (run prg (d + 3))) (.idx (.var 10) (.cst (.int 0))) ρ1 h) (heapS s) = .ok (if isNm (decide (0 < pickI ns (a + 9 + 10 * k) 5)) l.x then some (encS l.s) else none) (heapS s) := fun l _ x9 x10 x11 => by
      have g2 : ∀ h, idxV (encL l) (.int 2) h = .ok (encD l.x) h := fun h => idx_2
      have g0 : ∀ h, idxV (encL l) (.int 0) h = .ok (encS l.s) h := fun h => idx_0
      unfold isNm
      simp only [lcT, bindT, wipeE, evalE, evalL, Rs.bind, Rs.calm, List.set, List.getElem?_cons_succ, List.getElem?_cons_zero, g2, idx_word, in_words]
      cases ((wds (decide (0 < pickI ns (a + 9 + 10 * k) 5))).any fun z => z == wordOf l.x) <;> simp [g0, Rs.calm]
    have h0 : (heapS s)[0]? = some (.lst (s.made.map encL)) := rfl
    have len : (s.made.map encL).length ≤ 100000 := by rw [List.length_map]; omega
    simp only [evalE, evalL, Rs.bind, List.getElem?_cons_succ, List.getElem?_cons_zero, walked, wSeq, h0, len, if_true]
    rw [lcC_eq h0 (fun v hv => by
      obtain ⟨l, hl, rfl⟩ := List.mem_map.mp hv
      exact ⟨_, tn l hl x9 x10 x11⟩) _ 0 rfl, List.drop_zero, lcL_filter (f := fun l => encS l.s) (p := fun l => isNm (decide (0 < pickI ns (a + 9 + 10 * k) 5)) l.x) fun l hl => tn l hl x9 x10 x11]
    simp [place, namesI, List.map_map, Function.comp_def]
  refine ⟨some (.int k), some (.int (handI ns a k)), some (.tup ((wds (decide (0 < pickI ns (a + 9 + 10 * k) 5))).map .str)), some (nms (namesI ns a k s)), x10, some (encD (deedI ns (a + 2 + 10 * k) (namesI ns a k s))), ?_⟩
  have ite : ∀ x8 x9 x10 x11 h, evalE prg (callC prg (run prg (d + 3))) (.ite (.cmp .gt (.call 8 [(.var 0), (.bin .add (.bin .add (.var 1) (.cst (.int 9))) (.bin .mul (.cst (.int 10)) (.var 6))), (.cst (.int 5))]) (.cst (.int 0))) (.tup [(.cst (.str "draw")), (.cst (.str "group"))]) (.tup [(.cst (.str "draw")), (.cst (.str "group")), (.cst (.str "undo")), (.cst (.str "move"))])) [some (scr ns), some (.int a), some (.int m), some (.ref 0), some (.ref 1), some (.ref 2), some (.int k), some (.int (handI ns a k)), x8, x9, x10, x11] h = .ok (.tup ((wds (decide (0 < pickI ns (a + 9 + 10 * k) 5))).map .str)) h := fun x8 x9 x10 x11 h => by
    by_cases c : 0 < pickI ns (a + 9 + 10 * k) 5 <;> simp [evalE, evalL, Rs.bind, add_int, m10, c2, gt_int, c] <;> rfl
  have j3 : (handI ns a k).toNat < 3 := by omega
  have L0 : ∀ (A C : Ob), idxV (.ref 1) (.int (handI ns a k)) [A, .lst (s.last.map .int), C] = .ok (.int (s.last.getD (handI ns a k).toNat 0)) [A, .lst (s.last.map .int), C] := fun A C => idx_ref rfl hd.1 (get_int hd.1 (by omega))
  have L1 : ∀ (A C : Ob) (t : Int), idxV (.ref 1) (.int (handI ns a k)) [A, .lst ((s.last.map .int).set (handI ns a k).toNat (.int t)), C] = .ok (.int t) [A, .lst ((s.last.map .int).set (handI ns a k).toNat (.int t)), C] := fun A C t => idx_ref rfl hd.1 (by rw [List.getElem?_set_self (by rw [List.length_map]; omega)])
  have N0 : ∀ (A B : Ob), idxV (.ref 2) (.int (handI ns a k)) [A, B, .lst (s.nums.map .int)] = .ok (.int (s.nums.getD (handI ns a k).toNat 0)) [A, B, .lst (s.nums.map .int)] := fun A B => idx_ref rfl hd.1 (get_int hd.1 (by omega))
  have SL1 : ∀ (A C : Ob) (v : Vl), setIV (.ref 1) (.int (handI ns a k)) v [A, .lst (s.last.map .int), C] = some [A, .lst ((s.last.map .int).set (handI ns a k).toNat v), C] := fun A C v => set_ref rfl hd.1 (by rw [List.length_map]; omega)
  have SN : ∀ (A B : Ob) (v : Vl), setIV (.ref 2) (.int (handI ns a k)) v [A, B, .lst (s.nums.map .int)] = some [A, B, .lst ((s.nums.map .int).set (handI ns a k).toNat v)] := fun A B v => set_ref rfl hd.1 (by rw [List.length_map]; omega)
  have AP : ∀ (B C : Ob) (v : Vl), bmV 0 .append (.ref 0) [v] [.lst (s.made.map encL), B, C] = .ok .non [.lst (s.made.map encL ++ [v]), B, C] := fun B C v => app_ref rfl (by rw [List.length_map]; omega)
  unfold heapS at lc ⊢
  simp [bindT, execB, execS, evalE, evalL, Rs.bind, Rs.fl, add_int, m10, c1, ↓ite, ↓lc, L0, L1, N0, SL1, SN, AP, max_int, dv, c3, tyTag, bmOk]
  simp [stepI, List.map_set, encL]
end IL
end

section
set_option autoImplicit false
set_option linter.all false
set_option Elab.async false
set_option maxRecDepth 100000
set_option maxHeartbeats 4000000
namespace IL
open PySem
def storyN (ns : List Int) (a : Int) : Nat → Sy
  | 0 => ⟨[], [0, 0, 0], [0, 0, 0]⟩
  | i + 1 => stepI ns a i (storyN ns a i)
structure SyOk (i : Nat) (s : Sy) : Prop where
  len : s.made.length = i
  l1 : s.last.length = 3
  l2 : s.nums.length = 3
  ok : ∀ l ∈ s.made, okL l
  nd : (s.made.map (·.s)).Nodup
  le : ∀ l ∈ s.made, l.s.1 ≤ s.last.getD l.s.2.toNat 0
  b1 : ∀ j, 0 ≤ s.last.getD j 0 ∧ s.last.getD j 0 ≤ i
  b2 : ∀ j, 0 ≤ s.nums.getD j 0 ∧ s.nums.getD j 0 ≤ i
theorem getD_set (l : List Int) (i j : Nat) (v : Int) (hi : i < l.length) : (l.set i v).getD j 0 = if i = j then v else l.getD j 0 := by
  rw [List.getD_eq_getElem?_getD, List.getD_eq_getElem?_getD, List.getElem?_set]
  by_cases e : i = j
  · subst e; simp [hi]
  · simp [e]
theorem names_sub {ns : List Int} {a k : Int} {s : Sy} : ∀ x ∈ namesI ns a k s, ∃ l ∈ s.made, l.s = x := fun x hx => by
  unfold namesI at hx
  obtain ⟨l, hl, e⟩ := List.mem_map.mp hx
  exact ⟨l, (List.mem_filter.mp hl).1, e⟩
theorem step_ok {ns : List Int} {a : Int} {i : Nat} {s : Sy} (hi : i < 1000) (w : SyOk i s) : SyOk (i + 1) (stepI ns a i s) := by
  obtain ⟨len, l1, l2, ok, nd, le, b1, b2⟩ := w
  have hd : 0 ≤ handI ns a i ∧ handI ns a i < 3 := pick_lt (by omega)
  have j3 : (handI ns a i).toNat < 3 := by omega
  have B := b1 (handI ns a i).toNat
  have C := b2 (handI ns a i).toNat
  have t0 : s.last.getD (handI ns a i).toNat 0 + 1 ≤ (if 1 + (i : Int) / 2 > s.last.getD (handI ns a i).toNat 0 + 1 then 1 + (i : Int) / 2 else s.last.getD (handI ns a i).toNat 0 + 1) := by
    split <;> omega
  have t1 : (if 1 + (i : Int) / 2 > s.last.getD (handI ns a i).toNat 0 + 1 then 1 + (i : Int) / 2 else s.last.getD (handI ns a i).toNat 0 + 1) ≤ i + 1 := by
    split <;> omega
  have fresh : ∀ l ∈ s.made, l.s ≠ ((if 1 + (i : Int) / 2 > s.last.getD (handI ns a i).toNat 0 + 1 then 1 + (i : Int) / 2 else s.last.getD (handI ns a i).toNat 0 + 1), handI ns a i) := fun l hl e => by
    have z := le l hl
    rw [e] at z
    dsimp only at z
    omega
  have names : ∀ x ∈ namesI ns a i s, okS x = true := fun x hx => by
    obtain ⟨l, hl, rfl⟩ := names_sub x hx
    exact (ok l hl).1
  have nnd : (namesI ns a i s).Nodup := by
    unfold namesI
    exact nd.sublist (List.Sublist.map _ List.filter_sublist)
  have new : okL ⟨((if 1 + (i : Int) / 2 > s.last.getD (handI ns a i).toNat 0 + 1 then 1 + (i : Int) / 2 else s.last.getD (handI ns a i).toNat 0 + 1), handI ns a i), s.nums.getD (handI ns a i).toNat 0, deedI ns (a + 2 + 10 * i) (namesI ns a i s)⟩ := by
    refine ⟨?_, ⟨C.1, by dsimp only; omega⟩, deed_ok names nnd⟩
    unfold okS
    simp only [Bool.and_eq_true, decide_eq_true_eq]
    refine ⟨⟨by omega, by omega⟩, hd.1, by omega⟩
  refine ⟨by simp [stepI, len], by simp [stepI, l1], by simp [stepI, l2], fun l hl => ?_, ?_, fun l hl => ?_, fun j => ?_, fun j => ?_⟩
  · simp only [stepI, List.mem_append, List.mem_singleton] at hl
    rcases hl with hl | rfl
    · exact ok l hl
    · exact new
  · simp only [stepI, List.map_append, List.map_cons, List.map_nil]
    rw [List.nodup_append]
    refine ⟨nd, by simp, fun x hx y hy => ?_⟩
    obtain ⟨l, hl, rfl⟩ := List.mem_map.mp hx
    rw [List.mem_singleton.mp hy]
    exact fresh l hl
  · simp only [stepI, List.mem_append, List.mem_singleton] at hl ⊢
    rw [getD_set _ _ _ _ (by omega)]
    rcases hl with hl | rfl
    · have z := le l hl
      split
      · rename_i e
        rw [← e] at z
        omega
      · exact z
    · rw [if_pos rfl]
      exact Int.le_refl _
  · simp only [stepI]
    rw [getD_set _ _ _ _ (by omega)]
    have := b1 j
    split
    · exact ⟨by omega, by push_cast; exact t1⟩
    · push_cast; omega
  · simp only [stepI]
    rw [getD_set _ _ _ _ (by omega)]
    have := b2 j
    split
    · push_cast; omega
    · push_cast; omega
theorem story_ok {ns : List Int} {a : Int} : ∀ i : Nat, i ≤ 1000 → SyOk i (storyN ns a i)
  | 0, _ => ⟨rfl, rfl, rfl, fun l hl => by simp [storyN] at hl, by simp [storyN], fun l hl => by simp [storyN] at hl, fun j => by
      match j with
      | 0 => exact ⟨Int.le_refl _, Int.le_refl _⟩
      | 1 => exact ⟨Int.le_refl _, Int.le_refl _⟩
      | 2 => exact ⟨Int.le_refl _, Int.le_refl _⟩
      | j + 3 => exact ⟨Int.le_refl _, Int.le_refl _⟩, fun j => by
      match j with
      | 0 => exact ⟨Int.le_refl _, Int.le_refl _⟩
      | 1 => exact ⟨Int.le_refl _, Int.le_refl _⟩
      | 2 => exact ⟨Int.le_refl _, Int.le_refl _⟩
      | j + 3 => exact ⟨Int.le_refl _, Int.le_refl _⟩⟩
  | i + 1, h => step_ok (by omega) (story_ok i (by omega))
end IL
end

section
set_option autoImplicit false
set_option linter.all false
set_option Elab.async false
set_option maxRecDepth 100000
set_option maxHeartbeats 4000000
namespace IL
open PySem
def body10 : List Sm := match b10[3]? with
  | some (Sm.for_ _ _ _ b) => b
  | _ => []
theorem b10_eq : b10 = [.set 3 (.lst true []), .set 4 (.lst true [(.cst (.int 0)), (.cst (.int 0)), (.cst (.int 0))]), .set 5 (.lst true [(.cst (.int 0)), (.cst (.int 0)), (.cst (.int 0))]),
    .for_ (.nm 6) .rng [(.call 8 [(.var 0), (.var 1), (.bin .add (.var 2) (.cst (.int 1)))])] body10, .ret (.var 3)] := rfl
abbrev turn10 (d : Nat) : Vl → Ev → Hh → Fl := fun v ρ h => match bindT (.nm 6) v ρ with
  | some ρ1 => execB prg (callC prg (run prg (d + 3))) body10 ρ1 h
  | none => .bad
theorem story_loop {d : Nat} {ns : List Int} {a m : Int} (ha : 0 ≤ a) : ∀ (c i : Nat), i + c ≤ 900 → ∀ x6 x7 x8 x9 x10 x11 : Option Vl, ∃ y6 y7 y8 y9 y10 y11 : Option Vl,
    forL (turn10 d) ((List.range' i c).map fun (k : Nat) => Vl.int (0 + k)) [some (scr ns), some (.int a), some (.int m), some (.ref 0), some (.ref 1), some (.ref 2), x6, x7, x8, x9, x10, x11] (heapS (storyN ns a i)) =
      .nx [some (scr ns), some (.int a), some (.int m), some (.ref 0), some (.ref 1), some (.ref 2), y6, y7, y8, y9, y10, y11] (heapS (storyN ns a (i + c)))
  | 0, i, _, x6, x7, x8, x9, x10, x11 => ⟨x6, x7, x8, x9, x10, x11, rfl⟩
  | c + 1, i, hc, x6, x7, x8, x9, x10, x11 => by
    have w := story_ok (ns := ns) (a := a) i (by omega)
    obtain ⟨z6, z7, z8, z9, z10, z11, e⟩ := story_turn (d := d) (ns := ns) (a := a) (m := m) (k := (i : Int)) (s := storyN ns a i) ha (by omega) w.l1 w.l2 (by rw [w.len]; omega) x6 x7 x8 x9 x10 x11
    obtain ⟨y6, y7, y8, y9, y10, y11, e2⟩ := story_loop (d := d) (ns := ns) (a := a) (m := m) ha c (i + 1) (by omega) z6 z7 z8 z9 z10 z11
    refine ⟨y6, y7, y8, y9, y10, y11, ?_⟩
    have e3 : turn10 d (.int (0 + (i : Int))) [some (scr ns), some (.int a), some (.int m), some (.ref 0), some (.ref 1), some (.ref 2), x6, x7, x8, x9, x10, x11] (heapS (storyN ns a i)) = .nx [some (scr ns), some (.int a), some (.int m), some (.ref 0), some (.ref 1), some (.ref 2), z6, z7, z8, z9, z10, z11] (heapS (storyN ns a (i + 1))) := by
      rw [Int.zero_add]
      exact e
    rw [List.range'_succ, List.map_cons]
    simp only [forL, e3]
    rw [e2, show i + 1 + c = i + (c + 1) by omega]
theorem run_story {d : Nat} {ns : List Int} {a m : Int} (ha : 0 ≤ a) (hm : 0 ≤ m) (hm2 : m ≤ 800) : run prg (d + 4) 10 [scr ns, .int a, .int m] [] = .ok (.ref 0) (heapS (storyN ns a (pickI ns a (m + 1)).toNat)) := by
  rw [run_eq (F := ⟨3, 12, false, b10⟩) rfl rfl]
  have ev : ∀ x y z : Vl, startE ⟨3, 12, false, b10⟩ [x, y, z] = [some x, some y, some z, none, none, none, none, none, none, none, none, none] := fun _ _ _ => rfl
  rw [ev]
  have pk := pick_lt (ns := ns) (k := a) (m := m + 1) (by omega)
  have c1 : ∀ h, callC prg (run prg (d + 3)) 8 [scr ns, .int a, .int (m + 1)] h = .ok (.int (pickI ns a (m + 1))) h := fun h => call_pick (d := d + 1) ha (by omega)
  have wk : ∀ h, walked .rng [.int (pickI ns a (m + 1))] h = .fr (rngI 0 (pickI ns a (m + 1))) := fun h => by
    simp only [walked, wRng]
    rw [if_pos (by omega)]
  obtain ⟨y6, y7, y8, y9, y10, y11, e⟩ := story_loop (d := d) (ns := ns) (a := a) (m := m) ha (pickI ns a (m + 1)).toNat 0 (by omega) none none none none none none
  have r0 : rngI 0 (pickI ns a (m + 1)) = (List.range' 0 (pickI ns a (m + 1)).toNat).map fun (k : Nat) => Vl.int (0 + k) := by
    unfold rngI
    rw [Int.sub_zero, List.range_eq_range']
  have h0 : heapS (storyN ns a 0) = [.lst [], .lst [.int 0, .int 0, .int 0], .lst [.int 0, .int 0, .int 0]] := rfl
  rw [Nat.zero_add, h0, ← r0] at e
  rw [b10_eq]
  simp only [execB, execS, evalE, evalL, Rs.bind, Rs.fl, place, if_true, List.getElem?_cons_zero, List.getElem?_cons_succ, add_int, c1, wk, List.length_nil, List.length_cons, List.nil_append, List.cons_append, List.set, Nat.zero_le, Nat.reduceAdd, Nat.reduceLeDiff]
  generalize hf : forL _ (rngI 0 (pickI ns a (m + 1))) _ _ = f
  have hf2 := hf.symm.trans e
  rw [hf2]
  rfl
end IL
end

section
set_option autoImplicit false
set_option linter.all false
set_option Elab.async false
set_option maxRecDepth 100000
set_option maxHeartbeats 4000000
namespace IL
open PySem
theorem mapO_same {f : Vl → Option Vl} : ∀ xs : List Vl, (∀ x ∈ xs, f x = some x) → mapO f xs = some xs
  | [], _ => rfl
  | x :: xs, h => by
    simp only [mapO, h x List.mem_cons_self, mapO_same xs fun y hy => h y (List.mem_cons_of_mem _ hy)]
theorem call_story {d : Nat} {ns : List Int} {a m : Int} {h : Hh} (ha : 0 ≤ a) (hm : 0 ≤ m) (hm2 : m ≤ 800) : callC prg (run prg (d + 4)) 10 [scr ns, .int a, .int m] h = .ok (.lst ((storyN ns a (pickI ns a (m + 1)).toNat).made.map encL)) h := by
  refine callC_ok (F := ⟨3, 12, false, b10⟩) rfl rfl (by simp only [List.all_cons, List.all_nil, Bool.and_true, Bool.and_eq_true]; exact ⟨below_scr ns, rfl, rfl⟩) (run_story ha hm hm2) ?_
  show (mapO (thaw 11 0 _) _).map Vl.lst = _
  rw [mapO_same _ fun x hx => ?_]
  · rfl
  · obtain ⟨l, _, rfl⟩ := List.mem_map.mp hx
    have b := below_letter l (k := 6)
    unfold thaw
    rw [if_pos b]
def isF : Rs Vl → Bool
  | .ok (.bl false) [] => true
  | _ => false
theorem isF_eq {r : Rs Vl} (h : isF r = true) : r = .ok (.bl false) [] := by
  unfold isF at h
  split at h
  · rfl
  · cases h
def badL : List Vl := match execB prg (fun _ _ _ => .bad) (b11.take 11) [some (.int 0), none, none] [] with
  | .nx _ h => (match h[0]? with
    | some (Ob.lst xs) => xs
    | _ => [])
  | _ => []
theorem bad_pre {cf : Nat → List Vl → Hh → Rs Vl} {p : Int} : execB prg cf (b11.take 11) [some (.int p), none, none] [] = .nx [some (.int p), some (.tup [.int 1, .int 0]), some (.ref 0)] [.lst badL] := by
  rfl
theorem bad_len : badL.length = 34 := by decide +kernel
theorem bad_plain : badL.all (below deep 0) = true := by decide +kernel
def badAt (p : Int) : Vl := badL.getD (p % 34).toNat .non
theorem bad_get (p : Int) : badL[(p % 34).toNat]? = some (badAt p) := by
  have h0 : 0 ≤ p % 34 := Int.emod_nonneg _ (by omega)
  have h1 : p % 34 < 34 := Int.emod_lt_of_pos _ (by omega)
  have lt : (p % 34).toNat < badL.length := by rw [bad_len]; omega
  unfold badAt
  rw [List.getD_eq_getElem?_getD, List.getElem?_eq_getElem lt]
  rfl
theorem run_bad {d : Nat} {p : Int} : run prg (d + 1) 11 [.int p] [] = .ok (badAt p) [.lst badL] := by
  rw [run_eq (F := ⟨1, 3, false, b11⟩) rfl rfl]
  have ev : ∀ x : Vl, startE ⟨1, 3, false, b11⟩ [x] = [some x, none, none] := fun _ => rfl
  rw [ev]
  have sp : b11 = b11.take 11 ++ [.ret (.idx (.var 2) (.bin .mod (.var 0) (.blt .len [(.var 2)])))] := rfl
  show (execB prg (callC prg (run prg d)) b11 [some (.int p), none, none] []).val = _
  rw [sp, execB_app, bad_pre]
  dsimp only
  have ln : bltV .len [.ref 0] [.lst badL] = .ok (.int 34) [.lst badL] := by
    show Rs.of (some (Vl.int (badL.length : Nat))) _ = _
    rw [bad_len]
    rfl
  have md : binV .mod (.int p) (.int 34) [.lst badL] = .ok (.int (p % 34)) [.lst badL] := rfl
  have ix : idxV (.ref 0) (.int (p % 34)) [.lst badL] = .ok (badAt p) [.lst badL] := idx_ref (l := 0) rfl (Int.emod_nonneg _ (by omega)) (bad_get p)
  simp [execB, execS, evalE, evalL, Rs.bind, Rs.fl, Fl.val, ln, md, ix]
theorem bad_below (p : Int) : below deep 0 (badAt p) = true := List.all_eq_true.mp bad_plain _ (List.mem_of_getElem? (bad_get p))
theorem call_bad {d : Nat} {p : Int} {h : Hh} : callC prg (run prg (d + 1)) 11 [.int p] h = .ok (badAt p) h :=
  callC_val (F := ⟨1, 3, false, b11⟩) rfl rfl rfl run_bad (bad_below p)
theorem bad_deeds : ((List.range 34).all fun i => isF (run prg 8 5 [badL.getD i .non] [])) = true := by decide +kernel
theorem bad_letters : ((List.range 34).all fun i => isF (run prg 8 6 [.tup [.tup [.int 1, .int 0], .int 0, badL.getD i .non]] [])) = true := by decide +kernel
theorem call_bad_deed {p : Int} {h : Hh} : callC prg (run prg 8) 5 [badAt p] h = .ok (.bl false) h := by
  have h0 : 0 ≤ p % 34 := Int.emod_nonneg _ (by omega)
  have h1 : p % 34 < 34 := Int.emod_lt_of_pos _ (by omega)
  exact callC_val (F := ⟨1, 3, false, b5⟩) rfl rfl (by simp [bad_below]) (isF_eq (List.all_eq_true.mp bad_deeds (p % 34).toNat (List.mem_range.mpr (by omega)))) rfl
theorem call_bad_letter {p : Int} {h : Hh} : callC prg (run prg 8) 6 [.tup [.tup [.int 1, .int 0], .int 0, badAt p]] h = .ok (.bl false) h := by
  have h0 : 0 ≤ p % 34 := Int.emod_nonneg _ (by omega)
  have h1 : p % 34 < 34 := Int.emod_lt_of_pos _ (by omega)
  have b : below 11 0 (badAt p) = true := by
    have z : badL.all (below 11 0) = true := by decide +kernel
    exact List.all_eq_true.mp z _ (List.mem_of_getElem? (bad_get p))
  refine callC_val (F := ⟨1, 1, false, b6⟩) rfl rfl ?_ (isF_eq (List.all_eq_true.mp bad_letters (p % 34).toNat (List.mem_range.mpr (by omega)))) rfl
  simp only [List.all_cons, List.all_nil, Bool.and_true]
  show ([Vl.tup [.int 1, .int 0], .int 0, badAt p].all (below 11 0)) = true
  simp only [List.all_cons, List.all_nil, Bool.and_true, b]
  rfl
end IL
end

section
set_option autoImplicit false
set_option linter.all false
set_option Elab.async false
set_option maxRecDepth 100000
set_option maxHeartbeats 8000000
namespace IL
open PySem
abbrev cf8 : Nat → List Vl → Hh → Rs Vl := callC prg (run prg 8)
abbrev st10 : Vl := .tup [.int 1, .int 0]
/-- a call of a def of st10 answer at a plain value -/
theorem call_f {v : Vl} {b : Vl} {f : Nat} {F : Fn} {h : Hh} (hf : prg.fn f = some F) (hk : F.keep = false) (hb : below deep 0 v = true) (hr : run prg 8 f [v] [] = .ok b []) (ht : below deep 0 b = true) : cf8 f [v] h = .ok b h :=
  callC_val hf hk (by simp [hb]) hr ht
def isT : Rs Vl → Bool
  | .ok (.bl true) [] => true
  | _ => false
theorem isT_eq {r : Rs Vl} (h : isT r = true) : r = .ok (.bl true) [] := by
  unfold isT at h
  split at h
  · rfl
  · cases h
theorem deed_f {v : Vl} (hb : below deep 0 v = true) (hr : isF (run prg 8 5 [v] []) = true) (h : Hh) : cf8 5 [v] h = .ok (.bl false) h := call_f (F := ⟨1, 3, false, b5⟩) rfl rfl hb (isF_eq hr) rfl
theorem deed_t {v : Vl} (hb : below deep 0 v = true) (hr : isT (run prg 8 5 [v] []) = true) (h : Hh) : cf8 5 [v] h = .ok (.bl true) h := call_f (F := ⟨1, 3, false, b5⟩) rfl rfl hb (isT_eq hr) rfl
def someL : List Vl := [.tup [st10, .int 0], .tup [st10, .int (-1), .tup [.str "raise", st10]], .tup [st10, .bl true, .tup [.str "raise", st10]], .tup [.tup [.int 0, .int 0], .int 0, .tup [.str "raise", st10]], .lst [st10, .int 0, .tup [.str "raise", st10]], .non, .tup [st10, .int 0, .tup [.str "raise", st10], .int 0]]
theorem some_all : ((List.range 7).all fun i => isF (run prg 8 6 [someL.getD i .non] []) && below deep 0 (someL.getD i .non)) = true := by decide +kernel
def boxL : List Vl := [.tup [.int 0, .int 0, .int 1], .tup [.int 0, .int 0, .int 1, .int 0], .non, .lst [.int 0, .int 0, .int 1, .int 1], .tup [.int 0, .int 0, .int 1, .bl true], .tup [.int (-21), .int 0, .int 1, .int 1]]
theorem box_all : ((List.range 6).all fun i => isF (run prg 8 2 [boxL.getD i .non] []) && below deep 0 (boxL.getD i .non)) = true := by decide +kernel
theorem some_f {i : Nat} (hi : i < 7) (h : Hh) : cf8 6 [someL.getD i .non] h = .ok (.bl false) h := by
  have z := List.all_eq_true.mp some_all i (List.mem_range.mpr hi)
  rw [Bool.and_eq_true] at z
  exact call_f (F := ⟨1, 1, false, b6⟩) rfl rfl z.2 (isF_eq z.1) rfl
theorem box_f {i : Nat} (hi : i < 6) (h : Hh) : cf8 2 [boxL.getD i .non] h = .ok (.bl false) h := by
  have z := List.all_eq_true.mp box_all i (List.mem_range.mpr hi)
  rw [Bool.and_eq_true] at z
  exact call_f (F := ⟨1, 2, false, b2⟩) rfl rfl z.2 (isF_eq z.1) rfl
end IL
end

section
set_option autoImplicit false
set_option linter.all false
set_option Elab.async false
set_option maxRecDepth 100000
set_option maxHeartbeats 8000000
namespace IL
open PySem
theorem forL_inv {turn : Vl → Ev → Hh → Fl} (I : Ev → Hh → Prop) : ∀ (xs : List Vl) (ρ : Ev) (h : Hh), (∀ v ∈ xs, ∀ ρ h, I ρ h → ∃ ρ' h', turn v ρ h = .nx ρ' h' ∧ I ρ' h') → I ρ h → ∃ ρ' h', forL turn xs ρ h = .nx ρ' h' ∧ I ρ' h'
  | [], ρ, h, _, i => ⟨ρ, h, rfl, i⟩
  | v :: vs, ρ, h, t, i => by
    obtain ⟨ρ1, h1, e, i1⟩ := t v List.mem_cons_self ρ h i
    obtain ⟨ρ2, h2, e2, i2⟩ := forL_inv I vs ρ1 h1 (fun w hw => t w (List.mem_cons_of_mem _ hw)) i1
    refine ⟨ρ2, h2, ?_, i2⟩
    simp only [forL, e, e2]
theorem ex_nx {P : Pg} {cf : Nat → List Vl → Hh → Rs Vl} {s : Sm} {r : List Sm} {ρ ρ' : Ev} {h h' : Hh} (e : execS P cf s ρ h = .nx ρ' h') : execB P cf (s :: r) ρ h = execB P cf r ρ' h' := by
  simp only [execB, e]
theorem isnot_bl {a b : Bool} {h : Hh} : cmpV .isnot (.bl a) (.bl b) h = .ok (.bl (!(a == b))) h := rfl
theorem is_bl {a b : Bool} {h : Hh} : cmpV .is (.bl a) (.bl b) h = .ok (.bl (a == b)) h := rfl
abbrev lets (ns : List Int) : List Lt := (storyN ns 0 (pickI ns 0 9).toNat).made
theorem lets_ok (ns : List Int) : ∀ l ∈ lets ns, okL l := by
  have p := pick_lt (ns := ns) (k := 0) (m := 9) (by omega)
  exact (story_ok (ns := ns) (a := 0) (pickI ns 0 9).toNat (by omega)).ok
theorem c_story (ns : List Int) (h : Hh) : cf8 10 [scr ns, .int 0, .int 8] h = .ok (.lst ((lets ns).map encL)) h := call_story (d := 4) (by omega) (by omega) (by omega)
theorem c_deed {x : Dd} (ok : okD x) (h : Hh) : cf8 5 [encD x] h = .ok (.bl true) h := call_deed (d := 4) ok
theorem c_letter {l : Lt} (ok : okL l) (h : Hh) : cf8 6 [encL l] h = .ok (.bl true) h := call_letter (d := 3) ok
theorem c_pick {ns : List Int} {k m : Int} (hk : 0 ≤ k) (hm : 0 < m) (h : Hh) : cf8 8 [scr ns, .int k, .int m] h = .ok (.int (pickI ns k m)) h := call_pick (d := 6) hk hm
/-- the first loop -/
theorem loop1 {ns : List Int} : ∃ y, execS prg cf8 (.for_ (.nm 2) .seq [(.var 1)] [.ife (.or (.cmp .isnot (.call 5 [(.idx (.var 2) (.cst (.int 2)))]) (.cst (.bl true))) (.cmp .isnot (.call 6 [(.var 2)]) (.cst (.bl true)))) [.ret (.cst (.bl false))] []])
    [some (scr ns), some (.lst ((lets ns).map encL)), none, none, none, none, none, none, none, none, none] [] = .nx [some (scr ns), some (.lst ((lets ns).map encL)), y, none, none, none, none, none, none, none, none] [] := by
  simp only [execS, evalL, evalE, Rs.bind, Rs.fl, List.getElem?_cons_zero, List.getElem?_cons_succ, walked, wSeq]
  obtain ⟨ρ', h', e, ⟨y, e1, e2⟩⟩ := forL_inv (turn := fun v ρ h => match bindT (.nm 2) v ρ with
      | some ρ1 => execB prg cf8 [.ife (.or (.cmp .isnot (.call 5 [(.idx (.var 2) (.cst (.int 2)))]) (.cst (.bl true))) (.cmp .isnot (.call 6 [(.var 2)]) (.cst (.bl true)))) [.ret (.cst (.bl false))] []] ρ1 h
      | none => .bad) (fun ρ h => ∃ y, ρ = [some (scr ns), some (.lst ((lets ns).map encL)), y, none, none, none, none, none, none, none, none] ∧ h = []) ((lets ns).map encL) [some (scr ns), some (.lst ((lets ns).map encL)), none, none, none, none, none, none, none, none, none] [] (by
    intro v hv ρ h ⟨y, e1, e2⟩
    subst e1 e2
    obtain ⟨l, hl, rfl⟩ := List.mem_map.mp hv
    have ok := lets_ok ns l hl
    have g2 : ∀ h, idxV (encL l) (.int 2) h = .ok (encD l.x) h := fun h => idx_2
    refine ⟨[some (scr ns), some (.lst ((lets ns).map encL)), some (encL l), none, none, none, none, none, none, none, none], [], ?_, ⟨_, rfl, rfl⟩⟩
    simp [bindT, execB, execS, evalE, evalL, Rs.bind, Rs.fl, g2, c_deed ok.2.2, c_letter ok, isnot_bl]) ⟨none, rfl, rfl⟩
  subst e1 e2
  exact ⟨y, e⟩
def words7 : List Vl := [.str "raise", .str "lower", .str "ungroup", .str "erase", .str "lock", .str "unlock", .str "undo"]
theorem words_t : (words7.all fun w => isT (run prg 8 5 [.tup [w, st10]] []) && below deep 0 (.tup [w, st10])) = true := by decide +kernel
theorem loop2 {a b c : Option Vl} : ∃ y, execS prg cf8 (.for_ (.nm 4) .seq [(.tup [(.cst (.str "raise")), (.cst (.str "lower")), (.cst (.str "ungroup")), (.cst (.str "erase")), (.cst (.str "lock")), (.cst (.str "unlock")), (.cst (.str "undo"))])] [.ife (.cmp .isnot (.call 5 [(.tup [(.var 4), (.var 3)])]) (.cst (.bl true))) [.ret (.cst (.bl false))] []])
    [a, b, c, some st10, none, none, none, none, none, none, none] [] = .nx [a, b, c, some st10, y, none, none, none, none, none, none] [] := by
  simp only [execS, evalL, evalE, Rs.bind, Rs.fl, List.getElem?_cons_zero, List.getElem?_cons_succ, walked, wSeq, List.length_cons, List.length_nil, Nat.reduceAdd, Nat.reduceLeDiff, if_true]
  obtain ⟨ρ', h', e, ⟨y, e1, e2⟩⟩ := forL_inv (turn := fun v ρ h => match bindT (.nm 4) v ρ with
      | some ρ1 => execB prg cf8 [.ife (.cmp .isnot (.call 5 [(.tup [(.var 4), (.var 3)])]) (.cst (.bl true))) [.ret (.cst (.bl false))] []] ρ1 h
      | none => .bad) (fun ρ h => ∃ y, ρ = [a, b, c, some st10, y, none, none, none, none, none, none] ∧ h = []) words7 [a, b, c, some st10, none, none, none, none, none, none, none] [] (by
    intro v hv ρ h ⟨y, e1, e2⟩
    subst e1 e2
    have z := List.all_eq_true.mp words_t v hv
    rw [Bool.and_eq_true] at z
    have t := fun h => deed_t z.2 z.1 h
    refine ⟨[a, b, c, some st10, some v, none, none, none, none, none, none], [], ?_, ⟨_, rfl, rfl⟩⟩
    simp [bindT, execB, execS, evalE, evalL, Rs.bind, Rs.fl, t, isnot_bl]) ⟨none, rfl, rfl⟩
  subst e1 e2
  exact ⟨y, e⟩
theorem groups_f : isF (run prg 8 5 [.tup [.str "group", .tup [st10, .tup [.int 0, .int 0]]]] []) = true ∧ isF (run prg 8 5 [.tup [.str "group", .tup [st10, .non]]] []) = true ∧ isF (run prg 8 5 [.tup [.str "group", .tup [st10, .tup [.int 2, .int 3]]]] []) = true := by decide +kernel
theorem many_b : isT (run prg 8 5 [.tup [.str "group", .tup [.tup [.int 1, .int 0], .tup [.int 2, .int 0], .tup [.int 3, .int 0]]]] []) = true ∧ isF (run prg 8 5 [.tup [.str "group", .tup [.tup [.int 1, .int 0], .tup [.int 2, .int 0], .tup [.int 3, .int 0], .tup [.int 4, .int 0]]]] []) = true := by decide +kernel
theorem box_t : isT (run prg 8 2 [.tup [.int (-20), .int 20, .int 8, .int 1]] []) = true := by decide +kernel
theorem math (ns : List Int) (h : ns.length ≤ 63) : ∃ h, run prg (8 + 1) lawF.id [.scr (ns.map .int)] [] = .ok (.bl true) h := by
  refine ⟨[], ?_⟩
  show run prg (8 + 1) 12 [scr ns] [] = _
  rw [run_eq (F := ⟨1, 11, false, b12⟩) rfl rfl]
  have ev : ∀ x : Vl, startE ⟨1, 11, false, b12⟩ [x] = [some x, none, none, none, none, none, none, none, none, none, none] := fun _ => rfl
  rw [ev]
  obtain ⟨y1, l1⟩ := loop1 (ns := ns)
  obtain ⟨y2, l2⟩ := loop2 (a := some (scr ns)) (b := some (.lst ((lets ns).map encL))) (c := y1)
  have p1 : ∀ h, cf8 8 [scr ns, .int 200, .int 1000000] h = .ok (.int (pickI ns 200 1000000)) h := fun h => c_pick (by omega) (by omega) h
  have p2 : ∀ h, cf8 8 [scr ns, .int 201, .int 7] h = .ok (.int (pickI ns 201 7)) h := fun h => c_pick (by omega) (by omega) h
  have p3 : ∀ h, cf8 8 [scr ns, .int 202, .int 2] h = .ok (.int (pickI ns 202 2)) h := fun h => c_pick (by omega) (by omega) h
  have p4 : ∀ h, cf8 8 [scr ns, .int 203, .int 6] h = .ok (.int (pickI ns 203 6)) h := fun h => c_pick (by omega) (by omega) h
  have q2 := pick_lt (ns := ns) (k := 201) (m := 7) (by omega)
  have q3 := pick_lt (ns := ns) (k := 202) (m := 2) (by omega)
  have q4 := pick_lt (ns := ns) (k := 203) (m := 6) (by omega)
  have cb : ∀ p h, cf8 11 [.int p] h = .ok (badAt p) h := fun p h => call_bad (d := 7)
  have cbd : ∀ p h, cf8 5 [badAt p] h = .ok (.bl false) h := fun p h => call_bad_deed
  have cbl : ∀ p h, cf8 6 [.tup [.tup [.int 1, .int 0], .int 0, badAt p]] h = .ok (.bl false) h := fun p h => call_bad_letter
  have i2 : ∀ h, idxV (.lst someL) (.int (pickI ns 201 7)) h = .ok (someL.getD (pickI ns 201 7).toNat .non) h := fun h => idx_lst q2.1 (by
    have : (pickI ns 201 7).toNat < 7 := by omega
    generalize (pickI ns 201 7).toNat = i at this
    match i, this with
    | 0, _ => rfl | 1, _ => rfl | 2, _ => rfl | 3, _ => rfl | 4, _ => rfl | 5, _ => rfl | 6, _ => rfl
    | i + 7, b => exact absurd b (by omega))
  have i4 : ∀ h, idxV (.lst boxL) (.int (pickI ns 203 6)) h = .ok (boxL.getD (pickI ns 203 6).toNat .non) h := fun h => idx_lst q4.1 (by
    have : (pickI ns 203 6).toNat < 6 := by omega
    generalize (pickI ns 203 6).toNat = i at this
    match i, this with
    | 0, _ => rfl | 1, _ => rfl | 2, _ => rfl | 3, _ => rfl | 4, _ => rfl | 5, _ => rfl
    | i + 6, b => exact absurd b (by omega))
  have s2 := fun h => some_f (i := (pickI ns 201 7).toNat) (by omega) h
  have s4 := fun h => box_f (i := (pickI ns 203 6).toNat) (by omega) h
  obtain ⟨v2, i2, s2⟩ : ∃ u, (∀ h, idxV (.lst someL) (.int (pickI ns 201 7)) h = .ok u h) ∧ ∀ h, cf8 6 [u] h = .ok (.bl false) h := ⟨_, i2, s2⟩
  obtain ⟨v4, i4, s4⟩ : ∃ u, (∀ h, idxV (.lst boxL) (.int (pickI ns 203 6)) h = .ok u h) ∧ ∀ h, cf8 2 [u] h = .ok (.bl false) h := ⟨_, i4, s4⟩
  have g1 := fun h => deed_f (v := .tup [.str "group", .tup [st10, .tup [.int 0, .int 0]]]) rfl groups_f.1 h
  have g2 := fun h => deed_f (v := .tup [.str "group", .tup [st10, .non]]) rfl groups_f.2.1 h
  have g3 := fun h => deed_f (v := .tup [.str "group", .tup [st10, .tup [.int 2, .int 3]]]) rfl groups_f.2.2 h
  have bt := fun h => call_f (f := 2) (v := .tup [.int (-20), .int 20, .int 8, .int 1]) (b := .bl true) (F := ⟨1, 2, false, b2⟩) (h := h) rfl rfl rfl (isT_eq box_t) rfl
  have m1 := fun h => deed_t (v := .tup [.str "group", .tup [.tup [.int 1, .int 0], .tup [.int 2, .int 0], .tup [.int 3, .int 0]]]) rfl many_b.1 h
  have m2 := fun h => deed_f (v := .tup [.str "group", .tup [.tup [.int 1, .int 0], .tup [.int 2, .int 0], .tup [.int 3, .int 0], .tup [.int 4, .int 0]]]) rfl many_b.2 h
  have e5 : ∀ h, binV .pow (.int 10) (.int 6) h = .ok (.int 1000000) h := fun h => rfl
  have g0 : ∀ a b c d e f g k l m n h, evalE prg cf8 (.cmp .ne (.lc false [7] (.nm 7) .seq [(.tup [(.tup [(.tup [(.cst (.int 1)), (.cst (.int 0))]), (.tup [(.cst (.int 0)), (.cst (.int 0))])]), (.tup [(.tup [(.cst (.int 1)), (.cst (.int 0))]), (.cst .non)]), (.tup [(.tup [(.cst (.int 1)), (.cst (.int 0))]), (.tup [(.cst (.int 2)), (.cst (.int 3))])])])] [] (.call 5 [(.tup [(.cst (.str "group")), (.var 7)])])) (.bin .mul (.lst false [(.cst (.bl false))]) (.cst (.int 3)))) [a, b, c, d, e, f, g, k, l, m, n] h = .ok (.bl false) h := fun a b c d e f g k l m n h => by
    simp [evalE, evalL, Rs.bind, walked, wSeq, lcL, lcT, bindT, wipeE, Rs.calm, g1, g2, g3, place]
    rfl
  have mn : ∀ a b c d e f g k m n h, evalE prg cf8 (.cmp .ne (.call 5 [(.tup [(.cst (.str "group")), (.blt .tuple [(.lc false [9] (.nm 9) .rng [(.var 8)] [] (.tup [(.bin .add (.var 9) (.cst (.int 1))), (.cst (.int 0))]))])])]) (.cmp .lt (.var 8) (.cst (.int 4)))) [a, b, c, d, e, f, g, k, some (.int (3 + pickI ns 202 2)), m, n] h = .ok (.bl false) h := fun a b c d e f g k m n h => by
    have z : pickI ns 202 2 = 0 ∨ pickI ns 202 2 = 1 := by omega
    rcases z with z | z
    · rw [z]
      have w : ∀ h, walked .rng [.int (3 + 0)] h = .fr [.int 0, .int 1, .int 2] := fun h => rfl
      simp [evalE, evalL, Rs.bind, w, lcL, lcT, bindT, wipeE, Rs.calm, place, add_int, tup_lst, m1, lt_int]
      simp [walked, wRng, rngI, List.range_succ, evalE, evalL, Rs.bind, lcL, lcT, bindT, wipeE, Rs.calm, place, add_int, tup_lst, m1, lt_int]
      rfl
    · rw [z]
      simp [evalE, evalL, Rs.bind, walked, wRng, rngI, List.range_succ, lcL, lcT, bindT, wipeE, Rs.calm, place, add_int, tup_lst, m2, lt_int]
      rfl
  let L : Option Vl := some (.lst ((lets ns).map encL))
  let S : Option Vl := some (scr ns)
  show (execB prg cf8 b12 [S, none, none, none, none, none, none, none, none, none, none] []).val = _
  unfold b12
  rw [ex_nx (ρ' := [S, L, none, none, none, none, none, none, none, none, none]) (h' := []) (by simp [execS, evalE, evalL, Rs.bind, Rs.fl, c_story, S, L])]
  rw [ex_nx l1]
  rw [ex_nx (ρ' := [S, L, y1, some st10, none, none, none, none, none, none, none]) (h' := []) rfl]
  rw [ex_nx l2]
  rw [ex_nx (ρ' := [S, L, y1, some st10, y2, some (badAt (pickI ns 200 1000000)), none, none, none, none, none]) (h' := []) (by simp [execS, evalE, evalL, Rs.bind, Rs.fl, e5, p1, cb, S, L])]
  rw [ex_nx (ρ' := [S, L, y1, some st10, y2, some (badAt (pickI ns 200 1000000)), none, none, none, none, none]) (h' := []) (by simp [execB, execS, evalE, evalL, Rs.bind, Rs.fl, cbd, cbl, isnot_bl, S, L])]
  rw [ex_nx (ρ' := [S, L, y1, some st10, y2, some (badAt (pickI ns 200 1000000)), some (.tup [.str "raise", st10]), none, none, none, none]) (h' := []) rfl]
  rw [ex_nx (ρ' := [S, L, y1, some st10, y2, some (badAt (pickI ns 200 1000000)), some (.tup [.str "raise", st10]), some (.lst someL), none, none, none]) (h' := []) rfl]
  rw [ex_nx (ρ' := [S, L, y1, some st10, y2, some (badAt (pickI ns 200 1000000)), some (.tup [.str "raise", st10]), some (.lst someL), none, none, none]) (h' := []) (by simp [execB, execS, evalE, evalL, Rs.bind, Rs.fl, p2, i2, s2, isnot_bl, S, L])]
  rw [ex_nx (ρ' := [S, L, y1, some st10, y2, some (badAt (pickI ns 200 1000000)), some (.tup [.str "raise", st10]), some (.lst someL), none, none, none]) (h' := []) (by simp only [execS, g0, Rs.fl]; rfl)]
  rw [ex_nx (ρ' := [S, L, y1, some st10, y2, some (badAt (pickI ns 200 1000000)), some (.tup [.str "raise", st10]), some (.lst someL), some (.int (3 + pickI ns 202 2)), none, none]) (h' := []) (by simp [execB, execS, evalE, evalL, Rs.bind, Rs.fl, p3, add_int, S, L])]
  rw [ex_nx (ρ' := [S, L, y1, some st10, y2, some (badAt (pickI ns 200 1000000)), some (.tup [.str "raise", st10]), some (.lst someL), some (.int (3 + pickI ns 202 2)), none, none]) (h' := []) (by simp only [execS, mn, Rs.fl]; rfl)]
  rw [ex_nx (ρ' := [S, L, y1, some st10, y2, some (badAt (pickI ns 200 1000000)), some (.tup [.str "raise", st10]), some (.lst someL), some (.int (3 + pickI ns 202 2)), none, some (.lst boxL)]) (h' := []) rfl]
  simp [execB, execS, evalE, evalL, Rs.bind, Rs.fl, Fl.val, bt, p4, i4, s4, is_bl, S, L]
end IL
end

section
namespace IL
abbrev dep : Nat := 8
end IL
end

section
set_option autoImplicit false
set_option linter.all false
set_option Elab.async false
set_option maxRecDepth 100000
set_option maxHeartbeats 0
open PySem L2
namespace IL
def loose0 : List Str := ["FARTHEST", "LARGEST", "MOST_COLOUR", "MOST_MEMBERS", "MOST_HANDS", "is_whole", "is_box", "is_stamp", "are_stamps", "is_deed", "is_letter", "_law_cell", "_law_pick", "_law_deed", "_law_story", "_law_bad"]
abbrev R : PySem.W.OpenRow := PySem.W.OpenLaw.row PySem.Challenge.rw_slatehands_k01_deeds
abbrev qv : Program := PySem.W.view R.prog [18]
abbrev hk : PySem.W.Hook := He.hookD 5 dat.fas dat.defs
def names : List Str := loose0
def ob (s : PySem.W.SharedT) : He.AlD := He.obsDG 5 dat.fas dat.defs (HandSHeadRun.getT s)
theorem ob_eq (s : PySem.W.SharedT) : ob s = hk.obs s.abs := He.obsDG_eq (HandSHeadRun.getT_eq s)
theorem run0 (w : World) : HandSHeadRun.RunEq R qv hk ob 3000 names w := by
  intro os
  kernel_rfl
end IL
open PySem PySem.W PySem.Calls PyProof.Rows
theorem PySem.Challenge.cw_slatehands_k01_deeds_holds : PySem.Challenge.rw_slatehands_k01_deeds.Holds := by
  w_on; o_law
  refine HandSHeadRun.head_any (r := OpenLaw.row PySem.Challenge.rw_slatehands_k01_deeds) (q := IL.qv) (H := IL.hk) (ob := IL.ob) (M := 3000) (loose := IL.names) (d := HandSHeadRun.topDef (OpenLaw.row PySem.Challenge.rw_slatehands_k01_deeds).prog 18) (kwd := []) IL.ob_eq
    (by kernel_rfl) (fun s => by kernel_rfl) IL.run0 (by kernel_rfl) (by kernel_rfl) (by kernel_rfl) (by rfl) (by first | assumption | decide +kernel) (by decide +kernel) ⟨rfl, rfl, rfl, rfl, rfl, by decide +kernel⟩ ?hw ?hc
  case hw => w_witness2
  case hc => exact IL.walkIL (l := PySem.Challenge.rw_slatehands_k01_deeds) (n := 63) (d := IL.dep) (lw := IL.lawF) (x := "_law_script") rfl IL.tok IL.oks (List.mem_of_getElem? (i := 11) rfl) rfl rfl (by kernel_rfl) rfl (by decide) (by kernel_rfl) ⟨rfl, by decide, by decide⟩ IL.math
end
