import PyProof.Rows.All
import Wide.All
import OpenK.AllK
import Wide.FinOn
import PySem.Str
import HandS.ForMost
import HandS.Exc
import HandS.ExcValue
import HandS.Lambda
import HandS.IsInst
import HandS.Deep
import HandS.Style
import HandS.TupAny
import HandS.TupMul
import HandS.TupLe
import KE.KDictCopyH
import KE.KDictOf
import HandS.TupLen
import HandS.Conv
import HandS.DictTup
import HandS.SortRule
import HandS.SortInts
import HandS.SortKw
import KE.KSortKey
import KE.KDictPairs
import HandS.More
import HandS.WordsExc
import HandS.ExcOwn
import HandS.CallSlots
import KE.KDictSum
import HandS.HeadHook1
import HandS.HotCalls
import HandS.ExcIs
import HandS.Defaults
import KE.DataFind
import HandS.Walk
import HandS.Iter
import HandS.Zip
import HandS.TupSets
import HandS.Strs
import HandS.SetFor
import PyProof.ExcBaseAll.ValueError
import HandS.HeadHook2
import HandS.HeadEnd
import HandS.Head2
import HandS.HeadHook4
import HandS.HeadWalk
import HandS.Head0
import HandS.Head1
import PySem.Challenge.RW_slatehands_k89_drafts_refused
section
set_option autoImplicit false
set_option linter.all false
/-! IL: a small language with slots, its values, its evaluator. -/
namespace IL
open PySem

/-- values: frozen data, or a mutable object at a place of the local heap -/
inductive Vl where
  | non | bl (b : Bool) | int (i : Int) | str (x : Str)
  | tup (vs : List Vl) | lst (vs : List Vl)
  /-- a list that is read alone (the script) -/
  | scr (vs : List Vl)
  | dct (t : Bool) (es : List (Vl × Vl))
  | ins (C : Nat) (fs : List (Str × Vl))
  | ref (l : Nat)
  /-- an exception of the class C, held as a value -/
  | exn (C : Nat)
  deriving Inhabited

/-- what stands at a place of the local heap; lk: locked (walked), t: keys are tuples -/
inductive Ob where
  | lst (vs : List Vl) | dct (lk t : Bool) (es : List (Vl × Vl)) | ins (C : Nat) (fs : List (Str × Vl))
  deriving Inhabited

abbrev Hh := List Ob
abbrev Ev := List (Option Vl)

inductive Rs (α : Type) where
  | ok (a : α) (h : Hh) | exc (C : Nat) (h : Hh) | bad

def Rs.bind {α β : Type} (r : Rs α) (f : α → Hh → Rs β) : Rs β := match r with
  | .ok a h => f a h
  | .exc C h => .exc C h
  | .bad => .bad
def Rs.of {α : Type} (o : Option α) (h : Hh) : Rs α := match o with
  | some a => .ok a h
  | none => .bad

/-- no reference at n or above, to this depth -/
def below : Nat → Nat → Vl → Bool
  | 0, _, _ => false
  | d + 1, n, v => match v with
    | .tup vs => vs.all (below d n)
    | .lst vs => vs.all (below d n)
    | .scr vs => vs.all (below d n)
    | .dct _ es => es.all fun e => below d n e.2
    | .ins _ fs => fs.all fun f => below d n f.2
    | .ref l => decide (l < n)
    | .exn _ => true
    | _ => true
/-- the depth to which values are looked at -/
abbrev deep : Nat := 12
def obBelow (n : Nat) : Ob → Bool
  | .lst vs => vs.all (below deep n)
  | .dct _ _ es => es.all fun e => below deep n e.2
  | .ins _ fs => fs.all fun f => below deep n f.2
def mapO {α β : Type} (f : α → Option β) : List α → Option (List β)
  | [] => some []
  | x :: xs => match f x with
    | some y => (match mapO f xs with
      | some ys => some (y :: ys)
      | none => none)
    | none => none
def pairO {α β : Type} (x : Option α) (y : Option β) : Option (α × β) := match x, y with
  | some a, some b => some (a, b)
  | _, _ => none
/-- a value without references at n or above: the objects there are read off -/
def thaw : Nat → Nat → Hh → Vl → Option Vl
  | 0, _, _, _ => none
  | d + 1, n, h, v => if below (d + 1) n v then some v else match v with
    | .tup vs => (mapO (thaw d n h) vs).map .tup
    | .lst vs => (mapO (thaw d n h) vs).map .lst
    | .scr vs => none
    | .dct t es => (mapO (fun e : Vl × Vl => pairO (some e.1) (thaw d n h e.2)) es).map (.dct t)
    | .ins C fs => (mapO (fun f : Str × Vl => pairO (some f.1) (thaw d n h f.2)) fs).map (.ins C)
    | .ref l => (match h[l]? with
      | some (.lst vs) => (mapO (thaw d n h) vs).map .lst
      | some (.dct false t es) => (mapO (fun e : Vl × Vl => pairO (some e.1) (thaw d n h e.2)) es).map (.dct t)
      | some (.ins C fs) => (mapO (fun f : Str × Vl => pairO (some f.1) (thaw d n h f.2)) fs).map (.ins C)
      | _ => none)
    | v => some v

/-- plain data to a depth: what == compares -/
def isData : Nat → Vl → Bool
  | 0, _ => false
  | d + 1, v => match v with
    | .tup vs => vs.all (isData d)
    | .lst vs => vs.all (isData d)
    | .scr vs => vs.all (isData d)
    | .dct _ _ => false
    | .ins _ _ => false
    | .ref _ => false
    | .exn _ => false
    | _ => true
mutual
def eqv : Vl → Vl → Bool
  | .non, .non => true
  | .bl a, .bl b => a == b
  | .bl a, .int j => (if a then 1 else 0) == j
  | .int i, .bl b => i == (if b then 1 else 0)
  | .int i, .int j => i == j
  | .str x, .str y => x == y
  | .tup xs, .tup ys => eqvs xs ys
  | .lst xs, .lst ys => eqvs xs ys
  | .lst xs, .scr ys => eqvs xs ys
  | .scr xs, .lst ys => eqvs xs ys
  | .scr xs, .scr ys => eqvs xs ys
  | _, _ => false
def eqvs : List Vl → List Vl → Bool
  | [], [] => true
  | x :: xs, y :: ys => eqv x y && eqvs xs ys
  | _, _ => false
end
def eqH (x y : Vl) (h : Hh) : Option Bool := match thaw deep 0 h x, thaw deep 0 h y with
  | some a, some b => if isData deep a && isData deep b then some (eqv a b) else none
  | _, _ => none

/-- the items of a list that is frozen or stands in the heap, of a tuple -/
def asList (h : Hh) : Vl → Option (List Vl)
  | .lst vs => some vs
  | .ref l => match h[l]? with
    | some (.lst vs) => some vs
    | _ => none
  | _ => none
def asSeq (h : Hh) : Vl → Option (List Vl)
  | .tup vs => some vs
  | .scr vs => some vs
  | v => asList h v
def asDct (h : Hh) : Vl → Option (Bool × List (Vl × Vl))
  | .dct t es => some (t, es)
  | .ref l => match h[l]? with
    | some (.dct _ t es) => some (t, es)
    | _ => none
  | _ => none
def asIns (h : Hh) : Vl → Option (Nat × List (Str × Vl))
  | .ins C fs => some (C, fs)
  | .ref l => match h[l]? with
    | some (.ins C fs) => some (C, fs)
    | _ => none
  | _ => none

/-- a key: an int or a text (t false), a tuple of such (t true) -/
def isKey1 : Vl → Bool
  | .int _ => true
  | .str _ => true
  | _ => false
def isKey (t : Bool) (v : Vl) : Bool := if t then (match v with | .tup vs => vs.all isKey1 | _ => false) else isKey1 v
def dGet (es : List (Vl × Vl)) (k : Vl) : Option Vl := (es.find? fun e => eqv e.1 k).map (·.2)
def dHas (es : List (Vl × Vl)) (k : Vl) : Bool := es.any fun e => eqv e.1 k
def dPut (es : List (Vl × Vl)) (k v : Vl) : List (Vl × Vl) := if dHas es k then es.map fun e => if eqv e.1 k then (e.1, v) else e else es ++ [(k, v)]
def dDrop (es : List (Vl × Vl)) (k : Vl) : List (Vl × Vl) := es.filter fun e => !eqv e.1 k

inductive Bop where | add | sub | mul | fdiv | mod | pow
inductive Cop where | eq | ne | lt | le | gt | ge | isin | notin | is | isnot
/-- functions of Python itself, by name -/
inductive Blt where | len | all | any | isinst (n : Nat) | list (m : Bool) | tuple | max | min | sum | int | str | lenset | dict (m : Bool) | sorted | sitems | sortedset | lrange | emptyd
/-- methods of Python's own types, by name -/
inductive Bm where | append | extend | pop | index | get | items | insert | remove | reverse | clear | count | join | split | partition
/-- what a for walks -/
inductive Ik where | seq | rng | enum | zip | items
inductive Tg where
  | nm (i : Nat) | tp (gs : List Tg)

inductive Ex where
  | var (i : Nat)
  | cst (v : Vl)
  | gc (x : Str) (v : Vl)
  | bin (o : Bop) (a b : Ex)
  | neg (a : Ex)
  | cmp (o : Cop) (a b : Ex)
  | chn (o₁ o₂ : Cop) (a b c : Ex)
  | and (a b : Ex) | or (a b : Ex) | not (a : Ex)
  | ite (c a b : Ex)
  | tup (es : List Ex)
  | lst (m : Bool) (es : List Ex)
  | dnew (t : Bool)
  | idx (a i : Ex)
  | slc (m : Bool) (a lo hi st : Ex)
  | fld (a : Ex) (f : Str)
  | call (f : Nat) (es : List Ex)
  | meth (m : Str) (o : Ex) (es : List Ex)
  | bm (m : Bm) (o : Ex) (es : List Ex)
  | make (C : Nat) (es : List Ex)
  | blt (b : Blt) (es : List Ex)
  | lc (m : Bool) (own : List Nat) (g : Tg) (k : Ik) (es : List Ex) (cond : List Ex) (e : Ex)
  /-- sorted(e, key=f), f a def that tells what stands first -/
  | srt (f : Nat) (e : Ex)
  /-- sorted(e, key=lambda y: y[0]) -/
  | srl (e : Ex)
  /-- t(lambda: e), t a def that tells what e tells, or, where an exception of the class C leaves it, what f tells of that -/
  | told (C f : Nat) (e : Ex)
  /-- isinstance(e, C), e an exception -/
  | isE (e : Ex) (C : Nat)
  /-- what is never asked -/
  | bad

inductive Sm where
  | set (i : Nat) (e : Ex)
  | setT (gs : List Tg) (e : Ex)
  | setI (o i e : Ex)
  | setS (o lo hi e : Ex)
  | setF (o : Ex) (f : Str) (e : Ex)
  | drop (e : Ex)
  | ret (e : Ex) | retN | pass
  | ife (c : Ex) (a b : List Sm)
  | for_ (g : Tg) (k : Ik) (es : List Ex) (body : List Sm)
  | whl (n : Nat) (c : Ex) (body : List Sm)
  | raise (C : Nat)
  /-- what is never done -/
  | bad
  | try_ (body : List Sm) (C : Nat) (i : Option Nat) (suite : List Sm)

inductive Fl where
  | nx (ρ : Ev) (h : Hh) | rt (v : Vl) (h : Hh) | bk (ρ : Ev) (h : Hh) | ct (ρ : Ev) (h : Hh) | ex (C : Nat) (ρ : Ev) (h : Hh) | bad

structure Fn where
  n : Nat
  size : Nat
  keep : Bool
  body : List Sm

structure Pg where
  fn : Nat → Option Fn
  /-- methods, by class -/
  mt : Nat → Str → Option Nat
  /-- fields, by class -/
  fl : Nat → Str → Bool
  init : Nat → Option Nat
  sub : Nat → Nat → Bool

def fldV (P : Pg) (f : Str) (x : Vl) (h : Hh) : Rs Vl := match asIns h x with
  | some (C, fs) => if P.fl C f then Rs.of (fs.lookup f) h else .bad
  | none => .bad

/-! ### operators -/
def binV (o : Bop) (x y : Vl) (h : Hh) : Rs Vl := match o, x, y with
  | .add, .int i, .int j => .ok (.int (i + j)) h
  | .sub, .int i, .int j => .ok (.int (i - j)) h
  | .mul, .int i, .int j => if (-(2 ^ 64) < i ∧ i < 2 ^ 64) ∨ (-(2 ^ 64) < j ∧ j < 2 ^ 64) then .ok (.int (i * j)) h else .bad
  | .fdiv, .int i, .int j => if 0 < j ∧ j < 1073741824 then .ok (.int (i / j)) h else .bad
  | .mod, .int i, .int j => if 0 < j then .ok (.int (i % j)) h else .bad
  | .pow, .int i, .int j => if 0 ≤ j ∧ j ≤ 1000 ∧ i.natAbs < 2 ^ 64 then .ok (.int (i ^ j.toNat)) h else .bad
  | .add, .str x, .str y => if x.length + y.length ≤ 16777216 then .ok (.str (x ++ y)) h else .bad
  | .add, .tup xs, .tup ys => if xs.length + ys.length ≤ 100000 then .ok (.tup (xs ++ ys)) h else .bad
  | .add, x, y => match asList h x, asList h y with
    | some xs, some ys => if xs.length + ys.length ≤ 100000 then .ok (.lst (xs ++ ys)) h else .bad
    | _, _ => .bad
  | .mul, .tup xs, .int k => if 2 ≤ k ∧ k ≤ 1000 ∧ xs.length ≤ 100 ∧ xs.isEmpty = false then .ok (.tup (List.replicate k.toNat xs).flatten) h else .bad
  | .mul, x, .int k => match asList h x with
    | some xs => if 0 ≤ k ∧ k ≤ 1000 ∧ xs.length ≤ 100 then .ok (.lst (List.replicate k.toNat xs).flatten) h else .bad
    | _ => .bad
  | _, _, _ => .bad

def cmpI (o : Cop) (i j : Int) : Option Bool := match o with
  | .lt => some (decide (i < j))
  | .le => some (decide (i ≤ j))
  | .gt => some (decide (j < i))
  | .ge => some (decide (j ≤ i))
  | _ => none
def intsV : List Vl → Option (List Int)
  | [] => some []
  | .int i :: r => (intsV r).map (i :: ·)
  | _ => none
def lexB : List Int → List Int → Bool
  | [], [] => false
  | [], _ :: _ => true
  | _ :: _, [] => false
  | x :: xs, y :: ys => if x = y then lexB xs ys else decide (x < y)
/-- < of tuples of whole numbers -/
def ltT (xs ys : List Vl) : Option Bool := match intsV xs, intsV ys with
  | some ns, some ms => some (lexB ns ms)
  | _, _ => none
/-- a is b, b one of None, True, False -/
def isV (x y : Vl) : Option Bool := match x, y with
  | .non, .non => some true
  | .bl a, .bl b => some (a == b)
  | .bl _, .non => some false
  | .int _, .non => some false
  | .str _, .non => some false
  | .tup _, .non => some false
  | .lst _, .non => some false
  | .scr _, .non => some false
  | .ref _, .non => some false
  | .dct _ _, .non => some false
  | .ins _ _, .non => some false
  | .exn _, .non => some false
  | _, _ => none
def inL (x y : Vl) (h : Hh) : Option Bool := match thaw deep 0 h x, thaw deep 0 h y with
  | some a, some (.lst bs) => if isData deep a && isData deep (.lst bs) then some (bs.any fun z => eqv z a) else none
  | _, _ => none
def flatL : Vl → Bool
  | .non => true
  | .bl _ => true
  | .int _ => true
  | .str _ => true
  | _ => false
def inH (x y : Vl) (h : Hh) : Option Bool := match y with
  | .dct t es => if isKey t x then some (dHas es x) else none
  | .ref l => (match h[l]? with
    | some (.dct _ t es) => if isKey t x then some (dHas es x) else none
    | some (.lst vs) => inL x (.ref l) h
    | _ => none)
  | .lst vs => inL x (.lst vs) h
  | .tup vs => if isData deep x && isData deep (.tup vs) then some (vs.any fun z => eqv z x) else none
  | _ => none
def cmpV (o : Cop) (x y : Vl) (h : Hh) : Rs Vl := match o with
  | .eq => Rs.of ((eqH x y h).map .bl) h
  | .ne => Rs.of ((eqH x y h).map fun b => .bl (!b)) h
  | .is => Rs.of ((isV x y).map .bl) h
  | .isnot => Rs.of ((isV x y).map fun b => .bl (!b)) h
  | .isin => Rs.of ((inH x y h).map .bl) h
  | .notin => Rs.of ((inH x y h).map fun b => .bl (!b)) h
  | .lt => match x, y with
    | .int i, .int j => .ok (.bl (decide (i < j))) h
    | .tup xs, .tup ys => Rs.of ((ltT xs ys).map .bl) h
    | _, _ => .bad
  | .le => match x, y with
    | .int i, .int j => .ok (.bl (decide (i ≤ j))) h
    | .tup xs, .tup ys => Rs.of ((ltT ys xs).map fun b => .bl (!b)) h
    | _, _ => .bad
  | .gt => match x, y with
    | .int i, .int j => .ok (.bl (decide (j < i))) h
    | .tup xs, .tup ys => Rs.of ((ltT ys xs).map .bl) h
    | _, _ => .bad
  | o => match x, y with
    | .int i, .int j => Rs.of ((cmpI o i j).map .bl) h
    | _, _ => .bad

/-- an index of any sign -/
def ixOf (n : Nat) (i : Int) : Option Nat := if 0 ≤ i then (if i < n then some i.toNat else none) else if -(n : Int) ≤ i then some (i + n).toNat else none
def idxV (x i : Vl) (h : Hh) : Rs Vl := match i with
  | .int k => (match asSeq h x with
    | some vs => Rs.of ((ixOf vs.length k).bind fun j => vs[j]?) h
    | none => (match x with
      | .str z => if z.cps.toList.length ≤ 100000 then (match (ixOf z.cps.toList.length k).bind fun j => z.cps.toList[j]? with
        | some c => .ok (.str ⟨#[c]⟩) h
        | none => .bad) else .bad
      | x => match asDct h x with
        | some (false, es) => Rs.of (dGet es (.int k)) h
        | _ => .bad))
  | k => match asDct h x with
    | some (t, es) => if isKey t k then Rs.of (dGet es k) h else .bad
    | none => .bad

/-- a bound of a slice -/
def sIx (n d : Nat) : Option Int → Nat
  | none => d
  | some v => (if v < 0 then max (v + (n : Int)) 0 else min v (n : Int)).toNat
def cut {α : Type} (xs : List α) (lo hi : Option Int) : List α := (xs.drop (sIx xs.length 0 lo)).take (sIx xs.length xs.length hi - sIx xs.length 0 lo)
def bound : Vl → Option (Option Int)
  | .non => some none
  | .int i => some (some i)
  | _ => none
/-- every second one, from the first on -/
def evens {α : Type} : List α → List α
  | [] => []
  | [x] => [x]
  | x :: _ :: r => x :: evens r
/-- every third one, from the first on -/
def thirds {α : Type} : List α → List α
  | [] => []
  | [x] => [x]
  | [x, _] => [x]
  | x :: _ :: _ :: r => x :: thirds r
def slcV (x lo hi st : Vl) (h : Hh) : Rs Vl := match st with
  | .non => (match bound lo, bound hi with
    | some l, some u => (match x with
      | .tup vs => .ok (.tup (cut vs l u)) h
      | .str z => if z.cps.toList.length ≤ 100000 then .ok (.str ⟨(cut z.cps.toList l u).toArray⟩) h else .bad
      | x => match asList h x with
        | some vs => .ok (.lst (cut vs l u)) h
        | none => .bad)
    | _, _ => .bad)
  | .int k => (match lo, hi, asList h x with
    | .non, .non, some vs => if k = -1 then .ok (.lst vs.reverse) h else if k = 1 then .ok (.lst vs) h else if k = 2 then .ok (.lst (evens vs)) h else if k = 3 then .ok (.lst (thirds vs)) h else .bad
    | _, _, _ => .bad)
  | _ => .bad

/-- made mutable: a new place of the heap -/
def place (m : Bool) (r : Rs Vl) : Rs Vl := if m then r.bind fun v h => match v with
  | .lst vs => .ok (.ref h.length) (h ++ [.lst vs])
  | .dct t es => .ok (.ref h.length) (h ++ [.dct false t es])
  | _ => .bad
  else r

/-! ### functions of Python -/
def isinstV (n : Nat) : Vl → Bool
  | .int _ => n == 0
  | .bl _ => n == 0 || n == 1
  | .tup _ => n == 2
  | .str _ => n == 3
  | .lst _ => n == 4
  | _ => false
def instOk : Vl → Bool
  | .non => true
  | .bl _ => true
  | .int _ => true
  | .str _ => true
  | .tup _ => true
  | .lst _ => true
  | _ => false
def bools : List Vl → Option (List Bool)
  | [] => some []
  | .bl b :: r => (bools r).map (b :: ·)
  | _ => none
def maxI : List Int → Option Int
  | [] => none
  | x :: xs => some (xs.foldl max x)
def minI : List Int → Option Int
  | [] => none
  | x :: xs => some (xs.foldl min x)
def isIntV : Vl → Bool
  | .int _ => true
  | _ => false
/-- ints, tuples of ints -/
def intKey : Vl → Bool
  | .int _ => true
  | .tup vs => vs.all isIntV
  | _ => false
def keysInt (es : List (Vl × Vl)) : Bool := es.all fun e => intKey e.1
/-- the unlike ones, in the order in which they are met -/
def distinct : List Vl → List Vl → List Vl
  | acc, [] => acc
  | acc, x :: xs => if acc.any (fun y => eqv y x) then distinct acc xs else distinct (acc ++ [x]) xs
def isHash (v : Vl) : Bool := match v with
  | .non => true
  | .tup vs => vs.all fun v => match v with | .int _ => true | _ => false
  | _ => false
def isEmptyD (h : Hh) (v : Vl) : Bool := match v with | .ref _ => true | _ => true
def lenV (x : Vl) (h : Hh) : Option Nat := match x with
  | .str z => if z.cps.toList.length ≤ 100000 then some z.cps.toList.length else none
  | x => match asSeq h x with
    | some vs => some vs.length
    | none => (match asDct h x with
      | some (_, es) => some es.length
      | none => none)
/-- the order of tuples: intsV, tuples of such -/
def ltV : Nat → Vl → Vl → Option Bool
  | 0, _, _ => none
  | d + 1, x, y => match x, y with
    | .int i, .int j => some (decide (i < j))
    | .tup xs, .tup ys => ltL d xs ys
    | _, _ => none
where ltL (d : Nat) : List Vl → List Vl → Option Bool
  | [], [] => some false
  | [], _ :: _ => some true
  | _ :: _, [] => some false
  | x :: xs, y :: ys => if eqv x y then ltL d xs ys else ltV d x y
/-- sorting: stable, by <  -/
def insB {α : Type} (lt : α → α → Bool) (x : α) : List α → List α
  | [] => [x]
  | y :: ys => if lt x y then x :: y :: ys else y :: insB lt x ys
def sortB {α : Type} (lt : α → α → Bool) (xs : List α) : List α := xs.foldl (fun acc x => insB lt x acc) []
def ltB (x y : Vl) : Bool := ltV deep x y == some true
def isPair : Vl → Bool
  | .tup [.int _, .int _] => true
  | _ => false
/-- what stands first in a tuple: an int, a pair of ints -/
def fstOf : Vl → Option Vl
  | .tup (v :: _) => if isIntV v || isPair v then some v else none
  | _ => none
/-- no two alike -/
def apart : List Vl → Bool
  | [] => true
  | x :: xs => !(xs.any fun y => eqv y x) && apart xs
/-- ints; pairs of ints; tuples with unlike first parts -/
def sortOk (xs : List Vl) : Bool := xs.all isIntV || xs.all isPair || match mapO fstOf xs with
  | some ks => (ks.all isIntV || ks.all isPair) && apart ks && xs.all fun x => !ltB x x
  | none => false
def sortedV (xs : List Vl) (h : Hh) : Rs Vl := if sortOk xs && decide (xs.length ≤ 100000) then .ok (.lst (sortB ltB xs)) h else .bad
/-- by what stands first in each -/
def keyB (x y : Vl) : Bool := match fstOf x, fstOf y with
  | some a, some b => ltB a b
  | _, _ => false
def samePair : Vl → Option Vl → Bool
  | .tup [.int a, .int b], some (.tup [.int c, .int d]) => a == c && b == d
  | _, _ => false
/-- the key function tells what stands first -/
def keyIs (cf : Nat → List Vl → Hh → Rs Vl) (f : Nat) (h : Hh) (x : Vl) : Bool := below deep 0 x && match cf f [x] h with
  | .ok k _ => samePair k (fstOf x)
  | _ => false
/-- stamps whose hashes were asked -/
def stampKey : Vl → Bool
  | .tup [.int c, .int h] => decide (0 ≤ h ∧ h ≤ 2) && decide ((0 ≤ c ∧ c ≤ 95) ∨ (999000 ≤ c ∧ c ≤ 999015) ∨ c = 1000000)
  | _ => false
/-- a pair as an entry of a dict -/
def pairE : Vl → Option (Vl × Vl)
  | .tup [k, v] => some (k, v)
  | _ => none
def dictOf (ps : List (Vl × Vl)) : List (Vl × Vl) := ps.foldl (fun es p => dPut es p.1 p.2) []
/-- the items of what may be sorted, made a list of: a list, a tuple, a dict's keys -/
def asAny (h : Hh) (v : Vl) : Option (List Vl) := match asSeq h v with
  | some vs => some vs
  | none => (match asDct h v with
    | some (_, es) => if keysInt es then some (es.map (·.1)) else none
    | none => none)
def isSetOk (xs : List Vl) : Bool := xs.all isIntV && decide (xs.length ≤ 60)
/-- figures, perhaps behind a sign -/
def digs : List Nat → Option Nat
  | cs => if cs.all (fun c => decide (48 ≤ c ∧ c ≤ 57)) && !cs.isEmpty && decide (cs.length ≤ 100) then some (cs.foldl (fun a c => 10 * a + (c - 48)) 0) else none
/-- a pair that a dict is made of -/
def pairOf : Vl → Option (Vl × Vl)
  | .tup [k, v] => some (k, v)
  | _ => none
def bltV (b : Blt) (vs : List Vl) (h : Hh) : Rs Vl := match b, vs with
  | .len, [x] => Rs.of ((lenV x h).map fun (n : Nat) => Vl.int (n : Int)) h
  | .all, [x] => (match asList h x with | some xs => Rs.of ((bools xs).map fun bs => .bl (bs.all id)) h | none => .bad)
  | .any, [x] => (match asList h x with | some xs => Rs.of ((bools xs).map fun bs => .bl (bs.any id)) h | none => .bad)
  | .isinst n, [x] => if instOk x then .ok (.bl (isinstV n x)) h else .bad
  | .list m, [x] => (match asAny h x with | some xs => place m (.ok (.lst xs) h) | none => .bad)
  | .tuple, [x] => (match asSeq h x with | some xs => .ok (.tup xs) h | none => .bad)
  | .max, vs => (match vs with
    | [x] => (match asList h x with | some xs => Rs.of (((intsV xs).bind maxI).map .int) h | none => .bad)
    | vs => (match intsV vs with
      | some [i, j] => .ok (.int (if j > i then j else i)) h
      | _ => .bad))
  | .min, vs => (match vs with
    | [x] => (match asList h x with | some xs => Rs.of (((intsV xs).bind minI).map .int) h | none => .bad)
    | vs => (match intsV vs with
      | some [i, j] => .ok (.int (if j < i then j else i)) h
      | _ => .bad))
  | .sum, [x] => (match asList h x with | some xs => Rs.of ((intsV xs).map fun ns => Vl.int ns.sum) h | none => .bad)
  | .int, [x] => (match x with
    | .int i => .ok (.int i) h
    | .bl b => .ok (.int (if b then 1 else 0)) h
    | _ => .bad)
  | .str, [x] => (match x with
    | .int i => if i.natAbs < 2 ^ 1000 then .ok (.str (toString i)) h else .bad
    | .str z => .ok (.str z) h
    | _ => .bad)
  | .dict m, [x] => (match asDct h x with
    | some (t, es) => if !t || es.all (fun e => stampKey e.1) then place m (.ok (.dct t es) h) else .bad
    | none => (match asList h x with
      | some xs => (match mapO pairOf xs with
        | some es => if es.all (fun e => isPair e.1) && apart (es.map (·.1)) then place m (.ok (.dct true es) h) else .bad
        | none => .bad)
      | none => .bad))
  | .sorted, [x] => (match asList h x with
    | some xs => sortedV xs h
    | none => (match asDct h x with
      | some (true, es) => if keysInt es && (es.map (·.1)).all isPair then .ok (.lst (sortB ltB (es.map (·.1)))) h else .bad
      | _ => .bad))
  | .sitems, [x] => (match asDct h x with | some (_, es) => sortedV (es.map fun e => .tup [e.1, e.2]) h | none => .bad)
  | .sortedset, [x] => (match asList h x with | some xs => if isSetOk xs then .ok (.lst (sortB ltB (distinct [] xs))) h else .bad | none => .bad)
  | .lrange, [x] => (match x with
    | .int n => if 0 ≤ n ∧ n ≤ 1000 then .ok (.lst ((List.range n.toNat).map fun (k : Nat) => Vl.int k)) h else .bad
    | _ => .bad)
  | .emptyd, [x] => (match asDct h x with | some (_, es) => .ok (.bl es.isEmpty) h | none => .bad)
  | .lenset, [x] => (match asSeq h x with | some xs => if xs.all isHash && decide (xs.length < 64) then .ok (.int (distinct [] xs).length) h else .bad | none => .bad)
  | _, _ => .bad

/-! ### methods of lists, dicts, texts -/
/-- a list 0, a dict 1, a text 2 -/
def tyTag (h : Hh) : Vl → Option Nat
  | .lst _ => some 0
  | .dct _ _ => some 1
  | .str _ => some 2
  | .ref l => match h[l]? with
    | some (.lst _) => some 0
    | some (.dct _ _ _) => some 1
    | _ => none
  | _ => none
def bmOk : Nat → Bm → Bool
  | 0, .append => true
  | 0, .extend => true
  | 0, .index => true
  | 0, .pop => true
  | 0, .insert => true
  | 0, .remove => true
  | 0, .reverse => true
  | 0, .clear => true
  | 0, .count => true
  | 1, .get => true
  | 1, .pop => true
  | _, _ => false
/-- the first place of a thing in a list of data -/
def placeOf (h : Hh) (x y : Vl) : Option (Option Nat) := match thaw deep 0 h x, thaw deep 0 h y with
  | some (.lst bs), some a => if isData deep a && isData deep (.lst bs) then some (bs.findIdx? fun z => eqv z a) else none
  | _, _ => none
/-- the list that is changed -/
def cellL (h : Hh) (x : Vl) : Option (Nat × List Vl) := match x with
  | .ref l => (match h[l]? with
    | some (.lst xs) => some (l, xs)
    | _ => none)
  | _ => none
def cellD (h : Hh) (x : Vl) : Option (Nat × Bool × List (Vl × Vl)) := match x with
  | .ref l => (match h[l]? with
    | some (.dct false t es) => some (l, t, es)
    | _ => none)
  | _ => none
/-- the parts of a text between its separators (of one sign) -/
def splitAt1 (c : Nat) : List Nat → List (List Nat)
  | [] => [[]]
  | x :: xs => if x = c then [] :: splitAt1 c xs else (match splitAt1 c xs with
    | [] => [[x]]
    | p :: ps => (x :: p) :: ps)
def strsO : List Vl → Option (List Str)
  | [] => some []
  | .str z :: r => (strsO r).map (z :: ·)
  | _ => none
def joinC (sep : List Nat) : List (List Nat) → List Nat
  | [] => []
  | [x] => x
  | x :: y :: r => x ++ sep ++ joinC sep (y :: r)
def mkS (cs : List Nat) : Str := ⟨cs.toArray⟩
def bmV (t : Nat) (m : Bm) (x : Vl) (vs : List Vl) (h : Hh) : Rs Vl := match t, m, vs with
  | 0, .append, [y] => (match x with
    | .ref l => (match h[l]? with
      | some (.lst xs) => if xs.length < 100000 then .ok .non (h.set l (.lst (xs ++ [y]))) else .bad
      | _ => .bad)
    | _ => .bad)
  | 0, .extend, [y] => (match x with
    | .ref l => (match h[l]?, asList h y with
      | some (.lst xs), some ys => if xs.length + ys.length ≤ 100000 then .ok .non (h.set l (.lst (xs ++ ys))) else .bad
      | _, _ => .bad)
    | _ => .bad)
  | 0, .index, [y] => (match placeOf h x y with
    | some (some i) => .ok (.int (i : Nat)) h
    | _ => .bad)
  | 0, .count, [y] => (match thaw deep 0 h x, thaw deep 0 h y with
    | some (.lst bs), some a => if isData deep a && isData deep (.lst bs) then .ok (.int (bs.countP fun z => eqv z a : Nat)) h else .bad
    | _, _ => .bad)
  | 0, .pop, [] => (match cellL h x with
    | some (l, xs) => (match xs.getLast? with
      | some y => .ok y (h.set l (.lst xs.dropLast))
      | none => .bad)
    | none => .bad)
  | 0, .pop, [.int i] => (match cellL h x with
    | some (l, xs) => (match ixOf xs.length i with
      | some k => (match xs[k]? with
        | some y => .ok y (h.set l (.lst (xs.eraseIdx k)))
        | none => .bad)
      | none => .bad)
    | none => .bad)
  | 0, .insert, [.int i, y] => (match cellL h x with
    | some (l, xs) => if i = 0 ∧ xs.length < 100000 then .ok .non (h.set l (.lst (y :: xs))) else .bad
    | none => .bad)
  | 0, .remove, [y] => (match cellL h x, placeOf h x y with
    | some (l, xs), some (some i) => .ok .non (h.set l (.lst (xs.eraseIdx i)))
    | _, _ => .bad)
  | 0, .reverse, [] => (match cellL h x with
    | some (l, xs) => .ok .non (h.set l (.lst xs.reverse))
    | none => .bad)
  | 0, .clear, [] => (match cellL h x with
    | some (l, _) => .ok .non (h.set l (.lst []))
    | none => .bad)
  | 1, .get, [k] => (match asDct h x with
    | some (t, es) => if isKey t k then .ok ((dGet es k).getD .non) h else .bad
    | none => .bad)
  | 1, .get, [k, d] => (match asDct h x with
    | some (t, es) => if isKey t k then .ok ((dGet es k).getD d) h else .bad
    | none => .bad)
  | 1, .pop, [k] => (match cellD h x with
    | some (l, t, es) => if isKey t k then (match dGet es k with
      | some v => .ok v (h.set l (.dct false t (dDrop es k)))
      | none => .bad) else .bad
    | none => .bad)
  | 1, .pop, [k, d] => (match cellD h x with
    | some (l, t, es) => if isKey t k then .ok ((dGet es k).getD d) (h.set l (.dct false t (dDrop es k))) else .bad
    | none => .bad)
  | 2, .join, [y] => (match x, asSeq h y with
    | .str sep, some ys => (match strsO ys with
      | some zs => if (joinC sep.cps.toList (zs.map fun z => z.cps.toList)).length ≤ 1000000 then .ok (.str (mkS (joinC sep.cps.toList (zs.map fun z => z.cps.toList)))) h else .bad
      | none => .bad)
    | _, _ => .bad)
  | 2, .split, [y] => (match x, y with
    | .str z, .str sep => (match sep.cps.toList with
      | [c] => if z.cps.toList.length ≤ 100000 then .ok (.lst ((splitAt1 c z.cps.toList).map fun p => .str (mkS p))) h else .bad
      | _ => .bad)
    | _, _ => .bad)
  | 2, .partition, [y] => (match x, y with
    | .str z, .str sep => (match sep.cps.toList with
      | [c] => if z.cps.toList.length ≤ 100000 then (match (z.cps.toList.findIdx? fun q => q == c) with
        | some i => .ok (.tup [.str (mkS (z.cps.toList.take i)), .str sep, .str (mkS (z.cps.toList.drop (i + 1)))]) h
        | none => .ok (.tup [.str z, .str (mkS []), .str (mkS [])]) h) else .bad
      | _ => .bad)
    | _, _ => .bad)
  | _, _, _ => .bad

/-! ### what a for walks -/
def enumFrom (n : Nat) : List Vl → List Vl
  | [] => []
  | x :: xs => .tup [.int n, x] :: enumFrom (n + 1) xs
inductive Itm where
  | fr (vs : List Vl) | cell (l : Nat) (n : Nat)
  /-- a dict of the heap by its keys: locked meanwhile -/
  | keys (l : Nat) (vs : List Vl)
  /-- a frozen dict by its keys -/
  | keysF (vs : List Vl)
  | bad
def wSeq (h : Hh) : Vl → Itm
  | .tup xs => .fr xs
  | .lst xs => .fr xs
  | .scr xs => .fr xs
  | .ref l => match h[l]? with
    | some (.lst xs) => .cell l xs.length
    | some (.dct false _ es) => if keysInt es then .keys l (es.map (·.1)) else .bad
    | _ => .bad
  | .dct _ es => if keysInt es then .keysF (es.map (·.1)) else .bad
  | _ => .bad
def rngI (i j : Int) : List Vl := (List.range (j - i).toNat).map fun (k : Nat) => .int (i + k)
def wRng : Vl → Itm
  | .int j => if -1000000 < j ∧ j < 1000000 then .fr (rngI 0 j) else .bad
  | _ => .bad
def wRng2 : Vl → Vl → Itm
  | .int i, .int j => if -1000000 < i ∧ i < 1000000 ∧ -1000000 < j ∧ j < 1000000 then .fr (rngI i j) else .bad
  | _, _ => .bad
def wEnum : Vl → Itm
  | .lst xs => .fr (enumFrom 0 xs)
  | _ => .bad
def wZip : Vl → Vl → Itm
  | .lst xs, .lst ys => .fr (List.zipWith (fun x y => .tup [x, y]) xs ys)
  | .tup xs, .tup ys => .fr (List.zipWith (fun x y => .tup [x, y]) xs ys)
  | _, _ => .bad
def walked (k : Ik) (vs : List Vl) (h : Hh) : Itm := match vs with
  | [] => .bad
  | v :: r => (match r with
    | [] => (match k with
      | .seq => wSeq h v
      | .rng => wRng v
      | .enum => wEnum v
      | _ => .bad)
    | u :: r => (match r with
      | [] => (match k with
        | .rng => wRng2 v u
        | .zip => wZip v u
        | _ => .bad)
      | _ :: _ => .bad))

def wipeE (ρ : Ev) : List Nat → Ev
  | [] => ρ
  | v :: vs => (wipeE ρ vs).set v none

mutual
/-- the slots of a target -/
def tgNs : Tg → List Nat
  | .nm i => [i]
  | .tp gs => tgNss gs
def tgNss : List Tg → List Nat
  | [] => []
  | g :: gs => tgNs g ++ tgNss gs
end
mutual
def bindT : Tg → Vl → Ev → Option Ev
  | .nm i, v, ρ => some (ρ.set i (some v))
  | .tp gs, v, ρ => match v with
    | .tup vs => bindTs gs vs ρ
    | _ => none
def bindTs : List Tg → List Vl → Ev → Option Ev
  | [], [], ρ => some ρ
  | g :: gs, v :: vs, ρ => match bindT g v ρ with
    | some ρ' => bindTs gs vs ρ'
    | none => none
  | _, _, _ => none
end

/-- nothing may be raised here -/
def Rs.calm {α : Type} : Rs α → Rs α
  | .exc _ _ => .bad
  | r => r
/-- a comprehension's turns over items -/
def lcL (turn : Vl → Hh → Rs (Option Vl)) : List Vl → Hh → Rs (List Vl)
  | [], h => .ok [] h
  | v :: vs, h => (turn v h).bind fun o h1 => (lcL turn vs h1).bind fun r h2 => match o with
    | some y => .ok (y :: r) h2
    | none => .ok r h2
/-- .. over a list of the heap, by places -/
def lcC (turn : Vl → Hh → Rs (Option Vl)) (l : Nat) : Nat → Nat → Hh → Rs (List Vl)
  | 0, i, h => match h[l]? with
    | some (.lst xs) => if xs.length ≤ i then .ok [] h else .bad
    | _ => .bad
  | n + 1, i, h => match h[l]? with
    | some (.lst xs) => (match xs[i]? with
      | some v => (turn v h).bind fun o h1 => (lcC turn l n (i + 1) h1).bind fun r h2 => match o with
        | some y => .ok (y :: r) h2
        | none => .ok r h2
      | none => .ok [] h)
    | _ => .bad

def isNonE : Ex → Bool
  | .cst .non => true
  | _ => false
/-- a part of a slice: left out, or a whole number -/
def intR (e : Ex) (r : Rs Vl) : Rs Vl := if isNonE e then r else r.bind fun v h => match v with
  | .int i => .ok (.int i) h
  | _ => .bad
/-- a turn of a comprehension -/
def lcT (ρ : Option Ev) (ec : Ev → Hh → Rs (List Vl)) (ee : Ev → Hh → Rs Vl) (h : Hh) : Rs (Option Vl) := match ρ with
  | some ρ1 => (ec ρ1 h).calm.bind fun bs h2 => (match bs with
    | [] => (ee ρ1 h2).calm.bind fun y h3 => .ok (some y) h3
    | b :: _ => (match b with
      | .bl true => (ee ρ1 h2).calm.bind fun y h3 => .ok (some y) h3
      | .bl false => .ok none h2
      | _ => .bad))
  | none => .bad
/-- a dict of the heap is locked, while it is walked -/
def lockH (l : Nat) (h : Hh) : Hh := match h[l]? with
  | some (.dct _ t es) => h.set l (.dct true t es)
  | _ => h
def unlockH (l : Nat) (h : Hh) : Option Hh := match h[l]? with
  | some (.dct true t es) => some (h.set l (.dct false t es))
  | _ => none
def Rs.unlock {α : Type} (l : Nat) : Rs α → Rs α
  | .ok v h => (match unlockH l h with
    | some h' => .ok v h'
    | none => .bad)
  | _ => .bad
def Fl.unlock (l : Nat) : Fl → Fl
  | .nx ρ h => (match unlockH l h with
    | some h' => .nx ρ h'
    | none => .bad)
  | .rt v h => (match unlockH l h with
    | some h' => .rt v h'
    | none => .bad)
  | _ => .bad
/-- nothing may be raised here -/
def Fl.quiet : Fl → Fl
  | .ex _ _ _ => .bad
  | f => f
/-- the name of a caught exception is gone behind its suite -/
def Fl.gone (i : Option Nat) : Fl → Fl
  | .nx ρ h => .nx (match i with | some i => ρ.set i none | none => ρ) h
  | .bk ρ h => .bk (match i with | some i => ρ.set i none | none => ρ) h
  | .ct ρ h => .ct (match i with | some i => ρ.set i none | none => ρ) h
  | f => f
def isExn : Vl → Option Nat
  | .exn C => some C
  | _ => none
section
variable (P : Pg) (cf : Nat → List Vl → Hh → Rs Vl)

/-- the method of an own class -/
def methF (m : Str) (x : Vl) (h : Hh) : Option Nat := match asIns h x with
  | some (C, fs) => if (fs.lookup m).isSome then none else P.mt C m
  | none => none

mutual
def evalE : Ex → Ev → Hh → Rs Vl
  | .var i, ρ, h => match ρ[i]? with
    | some (some v) => .ok v h
    | _ => .bad
  | .cst v, _, h => .ok v h
  | .gc _ v, _, h => .ok v h
  | .bin o a b, ρ, h => (evalE a ρ h).bind fun x h1 => (evalE b ρ h1).bind fun y h2 => binV o x y h2
  | .neg a, ρ, h => (evalE a ρ h).bind fun x h1 => match x with
    | .int i => .ok (.int (-i)) h1
    | _ => .bad
  | .cmp o a b, ρ, h => (evalE a ρ h).bind fun x h1 => (evalE b ρ h1).bind fun y h2 => cmpV o x y h2
  | .chn o₁ o₂ a b c, ρ, h => (evalE a ρ h).bind fun x h1 => (evalE b ρ h1).bind fun y h2 => (cmpV o₁ x y h2).bind fun r h3 => match r with
    | .bl true => (evalE c ρ h3).bind fun z h4 => cmpV o₂ y z h4
    | .bl false => .ok (.bl false) h3
    | _ => .bad
  | .and a b, ρ, h => (evalE a ρ h).bind fun x h1 => match x with
    | .bl true => evalE b ρ h1
    | .bl false => .ok (.bl false) h1
    | _ => .bad
  | .or a b, ρ, h => (evalE a ρ h).bind fun x h1 => match x with
    | .bl true => .ok (.bl true) h1
    | .bl false => evalE b ρ h1
    | _ => .bad
  | .not a, ρ, h => (evalE a ρ h).bind fun x h1 => match x with
    | .bl b => .ok (.bl (!b)) h1
    | _ => .bad
  | .ite c a b, ρ, h => (evalE c ρ h).bind fun x h1 => match x with
    | .bl true => evalE a ρ h1
    | .bl false => evalE b ρ h1
    | _ => .bad
  | .tup es, ρ, h => (evalL es ρ h).bind fun vs h1 => if vs.length ≤ 100 then .ok (.tup vs) h1 else .bad
  | .lst m es, ρ, h => (evalL es ρ h).bind fun vs h1 => if vs.length ≤ 1000 then place m (.ok (.lst vs) h1) else .bad
  | .dnew t, _, h => .ok (.ref h.length) (h ++ [.dct false t []])
  | .idx a i, ρ, h => (evalE a ρ h).bind fun x h1 => (evalE i ρ h1).bind fun y h2 => idxV x y h2
  | .slc m a lo hi st, ρ, h => (evalE a ρ h).bind fun x h1 => (intR lo (evalE lo ρ h1)).bind fun l h2 => (intR hi (evalE hi ρ h2)).bind fun u h3 => (intR st (evalE st ρ h3)).bind fun k h4 => place m (slcV x l u k h4)
  | .fld a f, ρ, h => (evalE a ρ h).bind fun x h1 => fldV P f x h1
  | .call f es, ρ, h => (evalL es ρ h).bind fun vs h1 => cf f vs h1
  | .meth m o es, ρ, h => (evalE o ρ h).bind fun x h1 => match methF P m x h1 with
    | some f => (evalL es ρ h1).bind fun vs h2 => cf f (x :: vs) h2
    | none => .bad
  | .bm m o es, ρ, h => (evalE o ρ h).bind fun x h1 => match tyTag h1 x with
    | some t => if bmOk t m then (evalL es ρ h1).bind fun vs h2 => bmV t m x vs h2 else .bad
    | none => .bad
  | .make C es, ρ, h => (evalL es ρ h).bind fun vs h1 => match P.init C with
    | some f => (cf f (.ref h1.length :: vs) (h1 ++ [.ins C []])).bind fun r h2 => match r with
      | .non => .ok (.ref h1.length) h2
      | _ => .bad
    | none => .bad
  | .blt b es, ρ, h => (evalL es ρ h).bind fun vs h1 => bltV b vs h1
  | .lc m own g k es cond e, ρ, h => (evalL es ρ h).bind fun vs h1 =>
      let turn : Vl → Hh → Rs (Option Vl) := fun v h => lcT (bindT g v (wipeE ρ own)) (fun ρ1 h => evalL cond ρ1 h) (fun ρ1 h => evalE e ρ1 h) h
      match walked k vs h1 with
      | .fr xs => if xs.length ≤ 100000 then (lcL turn xs h1).bind fun r h2 => place m (.ok (.lst r) h2) else .bad
      | .cell l n => if n ≤ 100000 then (lcC turn l n 0 h1).bind fun r h2 => place m (.ok (.lst r) h2) else .bad
      | .keys l xs => if xs.length ≤ 100000 then (Rs.unlock l (lcL turn xs (lockH l h1))).bind fun r h2 => place m (.ok (.lst r) h2) else .bad
      | .keysF xs => if xs.length ≤ 100000 then (lcL turn xs h1).bind fun r h2 => place m (.ok (.lst r) h2) else .bad
      | .bad => .bad
  | .srt f e, ρ, h => (evalE e ρ h).bind fun x h1 => match asList h1 x, P.fn f with
    | some xs, some F => if !F.keep && decide (xs.length ≤ 100000) && xs.all (keyIs cf f h1) then .ok (.lst (sortB keyB xs)) h1 else .bad
    | _, _ => .bad
  | .srl e, ρ, h => (evalE e ρ h).bind fun x h1 => match asList h1 x with
    | some xs => if decide (xs.length ≤ 100000) && xs.all (fun y => match fstOf y with | some k => isPair k | none => false) then .ok (.lst (sortB keyB xs)) h1 else .bad
    | none => .bad
  | .told C f e, ρ, h => match evalE e ρ h with
    | .ok v h1 => .ok v h1
    | .exc C' h1 => if decide (10 ≤ C') && P.sub C' C then (cf f [.exn C'] h1).calm else .bad
    | .bad => .bad
  | .isE e C, ρ, h => (evalE e ρ h).bind fun x h1 => match isExn x with
    | some D => if 10 ≤ D then .ok (.bl (P.sub D C)) h1 else .bad
    | none => .bad
  | .bad, _, _ => .bad
def evalL : List Ex → Ev → Hh → Rs (List Vl)
  | [], _, h => .ok [] h
  | e :: es, ρ, h => (evalE e ρ h).bind fun v h1 => (evalL es ρ h1).bind fun vs h2 => .ok (v :: vs) h2
end

/-- a value ahead of a statement's end -/
def Rs.fl {α : Type} (r : Rs α) (ρ : Ev) (f : α → Hh → Fl) : Fl := match r with
  | .ok a h => f a h
  | .exc C h => .ex C ρ h
  | .bad => .bad

def forL (turn : Vl → Ev → Hh → Fl) : List Vl → Ev → Hh → Fl
  | [], ρ, h => .nx ρ h
  | v :: vs, ρ, h => match turn v ρ h with
    | .nx ρ' h' => forL turn vs ρ' h'
    | .ct ρ' h' => forL turn vs ρ' h'
    | .bk ρ' h' => .nx ρ' h'
    | r => r
def forC (turn : Vl → Ev → Hh → Fl) (l : Nat) : Nat → Nat → Ev → Hh → Fl
  | 0, i, ρ, h => match h[l]? with
    | some (.lst xs) => if xs.length ≤ i then .nx ρ h else .bad
    | _ => .bad
  | n + 1, i, ρ, h => match h[l]? with
    | some (.lst xs) => (match xs[i]? with
      | some v => (match turn v ρ h with
        | .nx ρ' h' => forC turn l n (i + 1) ρ' h'
        | .ct ρ' h' => forC turn l n (i + 1) ρ' h'
        | .bk ρ' h' => .nx ρ' h'
        | r => r)
      | none => .nx ρ h)
    | _ => .bad
def whlL (test : Ev → Hh → Rs Vl) (turn : Ev → Hh → Fl) : Nat → Ev → Hh → Fl
  | 0, _, _ => .bad
  | n + 1, ρ, h => Rs.fl (test ρ h) ρ fun x h1 => match x with
    | .bl true => (match turn ρ h1 with
      | .nx ρ' h' => whlL test turn n ρ' h'
      | .ct ρ' h' => whlL test turn n ρ' h'
      | .bk ρ' h' => .nx ρ' h'
      | r => r)
    | .bl false => .nx ρ h1
    | _ => .bad
def setIV (x i v : Vl) (h : Hh) : Option Hh := match x with
  | .ref l => (match h[l]? with
    | some (.lst xs) => (match i with
      | .int k => (ixOf xs.length k).map fun j => h.set l (.lst (xs.set j v))
      | _ => none)
    | some (.dct false t es) => if isKey t i && decide (es.length < 100000) then some (h.set l (.dct false t (dPut es i v))) else none
    | _ => none)
  | _ => none
/-- a stretch of a list is exchanged -/
def setSV (x a b v : Vl) (h : Hh) : Option Hh := match cellL h x, a, b, asList h v with
  | some (l, xs), .int i, .int j, some ys => if 0 ≤ i ∧ i ≤ j ∧ j ≤ xs.length ∧ xs.length + ys.length ≤ 100000 then some (h.set l (.lst (xs.take i.toNat ++ ys ++ xs.drop j.toNat))) else none
  | _, _, _, _ => none
def putFs (f : Str) (v : Vl) : List (Str × Vl) → List (Str × Vl)
  | [] => [(f, v)]
  | (g, u) :: r => if g = f then (f, v) :: r else (g, u) :: putFs f v r
def setFV (x : Vl) (f : Str) (v : Vl) (h : Hh) : Option Hh := match x with
  | .ref l => (match h[l]? with
    | some (.ins C fs) => if P.fl C f && decide (fs.length < 100) then some (h.set l (.ins C (putFs f v fs))) else none
    | _ => none)
  | _ => none

mutual
def execS : Sm → Ev → Hh → Fl
  | .set i e, ρ, h => Rs.fl (evalE P cf e ρ h) ρ fun v h1 => .nx (ρ.set i (some v)) h1
  | .setT gs e, ρ, h => Rs.fl (evalE P cf e ρ h) ρ fun v h1 => match v with
    | .tup vs => (match bindTs gs vs ρ with
      | some ρ' => .nx ρ' h1
      | none => .bad)
    | _ => .bad
  | .setI o i e, ρ, h => Rs.fl (evalE P cf e ρ h) ρ fun v h1 => Rs.fl (evalE P cf o ρ h1) ρ fun x h2 => Rs.fl (evalE P cf i ρ h2) ρ fun y h3 => match setIV x y v h3 with
    | some h4 => .nx ρ h4
    | none => .bad
  | .setS o lo hi e, ρ, h => Rs.fl (evalE P cf e ρ h) ρ fun v h1 => Rs.fl (evalE P cf o ρ h1) ρ fun x h2 => Rs.fl (evalE P cf lo ρ h2) ρ fun a h3 => Rs.fl (evalE P cf hi ρ h3) ρ fun b h4 => match setSV x a b v h4 with
    | some h5 => .nx ρ h5
    | none => .bad
  | .bad, _, _ => .bad
  | .setF o f e, ρ, h => Rs.fl (evalE P cf e ρ h) ρ fun v h1 => Rs.fl (evalE P cf o ρ h1) ρ fun x h2 => match setFV P x f v h2 with
    | some h3 => .nx ρ h3
    | none => .bad
  | .drop e, ρ, h => Rs.fl (evalE P cf e ρ h) ρ fun _ h1 => .nx ρ h1
  | .ret e, ρ, h => Rs.fl (evalE P cf e ρ h) ρ fun v h1 => .rt v h1
  | .retN, _, h => .rt .non h
  | .pass, ρ, h => .nx ρ h
  | .ife c a b, ρ, h => Rs.fl (evalE P cf c ρ h) ρ fun x h1 => match x with
    | .bl true => execB a ρ h1
    | .bl false => execB b ρ h1
    | _ => .bad
  | .for_ g k es body, ρ, h => Rs.fl (evalL P cf es ρ h) ρ fun vs h1 =>
      let turn : Vl → Ev → Hh → Fl := fun v ρ h => match bindT g v ρ with
        | some ρ1 => execB body ρ1 h
        | none => .bad
      match walked k vs h1 with
      | .fr xs => forL turn xs ρ h1
      | .cell l n => forC turn l n 0 ρ h1
      | .keys l xs => Fl.unlock l (forL turn xs ρ (lockH l h1))
      | .keysF xs => Fl.quiet (forL turn xs ρ h1)
      | .bad => .bad
  | .whl n c body, ρ, h => whlL (fun ρ h => evalE P cf c ρ h) (fun ρ h => execB body ρ h) n ρ h
  | .raise C, ρ, h => .ex C ρ h
  | .try_ body C i suite, ρ, h => match execB body ρ h with
    | .ex C' ρ' h' => if decide (10 ≤ C') && P.sub C' C then Fl.gone i (Fl.quiet (execB suite (match i with | some i => ρ'.set i (some (.exn C')) | none => ρ') h')) else .bad
    | r => r
def execB : List Sm → Ev → Hh → Fl
  | [], ρ, h => .nx ρ h
  | s :: r, ρ, h => match execS s ρ h with
    | .nx ρ' h' => execB r ρ' h'
    | f => f
end
end

def startE (F : Fn) (vs : List Vl) : Ev := vs.map some ++ List.replicate (F.size - vs.length) none
def Fl.val : Fl → Rs Vl
  | .nx _ h => .ok .non h
  | .rt v h => .ok v h
  | .ex C _ h => .exc C h
  | _ => .bad
/-- behind a call: what the callee made stands no more; its answer is thawed -/
def clean (n : Nat) (h : Hh) (r : Rs Vl) : Rs Vl := match r with
  | .ok v h' => if (h'.take n).all (obBelow n) then (match thaw deep n h' v with
    | some v' => .ok v' (h'.take n)
    | none => .bad) else .bad
  | .exc C h' => if (h'.take n).all (obBelow n) then .exc C (h'.take n) else .bad
  | .bad => .bad
/-- a call as its def wants it: as it is (keep), apart (no references in), or with what it made dropped -/
def callC (P : Pg) (run : Nat → List Vl → Hh → Rs Vl) (f : Nat) (vs : List Vl) (h : Hh) : Rs Vl := match P.fn f with
  | none => .bad
  | some F => if F.keep then run f vs h else if vs.all (below deep 0) then (match run f vs [] with
      | .ok v h' => (match thaw deep 0 h' v with
        | some v' => .ok v' h
        | none => .bad)
      | .exc C _ => .exc C h
      | .bad => .bad) else clean h.length h (run f vs h)
def run (P : Pg) : Nat → Nat → List Vl → Hh → Rs Vl
  | 0, _, _, _ => .bad
  | d + 1, f, vs, h => match P.fn f with
    | none => .bad
    | some F => if vs.length = F.n then (execB P (callC P (run P d)) F.body (startE F vs) h).val else .bad
end IL
end

section
set_option autoImplicit false
set_option linter.all false
set_option Elab.async false
set_option maxRecDepth 100000
/-! IL: how its values and its local heap lie in the abstract heap of the hand layer. -/
namespace IL
open PySem L2
abbrev Frag := PySem.W.Frag

/-- what of a law's text is known: where its classes stand -/
structure Wd where
  K : Frag
  cls : Nat → Option Addr
  /-- tables of code objects, the names of these -/
  T : List (Addr × Str)

def kVl : Key → Vl
  | .inl i => .int i
  | .inr x => .str x

/-- an exception of the class at A, held as a value -/
def ExH (A a : Addr) : HO := .ext fun h => ∃ (oe : Obj) (vs : Array Value), h.get? a = some oe ∧ Zc (.ref A) none oe ∧ oe.data = .fields vs
section
variable (D : Wd) (F : Hp) (μ : List Addr)
mutual
inductive RV : Vl → V → Prop
  | non : RV .non .non
  | bl (b : Bool) : RV (.bl b) (.bl b)
  | int (i : Int) : RV (.int i) (.int i)
  | str {x : Str} : PyData.strOk x = true → RV (.str x) (.str x)
  | tup {vs : List Vl} {a : Addr} {us : List V} : F a = some (.tup us) → RVs vs us → RV (.tup vs) (.ref a)
  | lst {vs : List Vl} {a : Addr} {us : List V} : F a = some (.lst us) → RVs vs us → RV (.lst vs) (.ref a)
  | scr {vs : List Vl} {a : Addr} {us : List V} : SqL D.K F a us → RVs vs us → RV (.scr vs) (.ref a)
  | dT {es : List (Vl × Vl)} {a : Addr} {kvs : List (List Key × V)} : F a = some (.dT kvs) → RT es kvs → RV (.dct true es) (.ref a)
  | dK {es : List (Vl × Vl)} {a : Addr} {kvs : List (Key × V)} : F a = some (.dK kvs) → RK es kvs → RV (.dct false es) (.ref a)
  | ins {C : Nat} {fs : List (Str × Vl)} {a A dx : Addr} {gs : List (Str × V)} : F a = some (.ins A dx gs) → D.cls C = some A → RF fs gs → RV (.ins C fs) (.ref a)
  | ref {l : Nat} {a : Addr} : μ[l]? = some a → RV (.ref l) (.ref a)
  | exn {C : Nat} {a A : Addr} : F a = some (ExH A a) → D.cls C = some A → RV (.exn C) (.ref a)
inductive RVs : List Vl → List V → Prop
  | nil : RVs [] []
  | cons {v : Vl} {u : V} {vs : List Vl} {us : List V} : RV v u → RVs vs us → RVs (v :: vs) (u :: us)
inductive RT : List (Vl × Vl) → List (List Key × V) → Prop
  | nil : RT [] []
  | cons {ks : List Key} {v : Vl} {u : V} {es : List (Vl × Vl)} {kvs : List (List Key × V)} : RV v u → RT es kvs → RT ((.tup (ks.map kVl), v) :: es) ((ks, u) :: kvs)
inductive RK : List (Vl × Vl) → List (Key × V) → Prop
  | nil : RK [] []
  | cons {k : Key} {v : Vl} {u : V} {es : List (Vl × Vl)} {kvs : List (Key × V)} : RV v u → RK es kvs → RK ((kVl k, v) :: es) ((k, u) :: kvs)
inductive RF : List (Str × Vl) → List (Str × V) → Prop
  | nil : RF [] []
  | cons {f : Str} {v : Vl} {u : V} {fs : List (Str × Vl)} {gs : List (Str × V)} : RV v u → RF fs gs → RF ((f, v) :: fs) ((f, u) :: gs)
end
end

/-- the frozen objects stand; a dict may be locked -/
def FSub (F H : Hp) : Prop := ∀ a o, F a = some o → H a = some o ∨ ∃ ob, H a = some (.frz ob o) ∧ ((∃ kvs, o = .dT kvs) ∨ ∃ kvs, o = .dK kvs)
def FExt (F F' : Hp) : Prop := ∀ a o, F a = some o → F' a = some o
def MExt (μ μ' : List Addr) : Prop := ∃ t, μ' = μ ++ t

theorem FExt.refl (F : Hp) : FExt F F := fun _ _ h => h
theorem FExt.trans {F G J : Hp} (a : FExt F G) (b : FExt G J) : FExt F J := fun c o h => b c o (a c o h)
theorem MExt.refl (μ : List Addr) : MExt μ μ := ⟨[], by simp⟩
theorem MExt.trans {a b c : List Addr} (h : MExt a b) (k : MExt b c) : MExt a c := by
  obtain ⟨t, rfl⟩ := h
  obtain ⟨u, rfl⟩ := k
  exact ⟨t ++ u, by simp⟩
theorem MExt.get {μ μ' : List Addr} (h : MExt μ μ') {l : Nat} {a : Addr} (e : μ[l]? = some a) : μ'[l]? = some a := by
  obtain ⟨t, rfl⟩ := h
  rw [List.getElem?_append_left (List.getElem?_eq_some_iff.mp e).1]
  exact e
theorem SqL_mono {K : Frag} {F G : Hp} {a : Addr} {us : List V} (e : FExt F G) (h : SqL K F a us) : SqL K G a us := by
  rcases h with (h | ⟨o, h⟩) | h
  · exact .inl (.inl (e _ _ h))
  · exact .inl (.inr ⟨o, e _ _ h⟩)
  · exact .inr h
theorem SqT_mono {K : Frag} {F G : Hp} {a : Addr} {us : List V} (e : FExt F G) (h : SqT K F a us) : SqT K G a us := by
  rcases h with (h | ⟨o, h⟩) | h
  · exact .inl (.inl (e _ _ h))
  · exact .inl (.inr ⟨o, e _ _ h⟩)
  · exact .inr h
theorem FSub.sqL {K : Frag} {F H : Hp} {a : Addr} {us : List V} (e : FSub F H) (h : SqL K F a us) : SqL K H a us := by
  rcases h with (h | ⟨o, h⟩) | h
  · rcases e _ _ h with q | ⟨ob, _, ⟨k, q⟩ | ⟨k, q⟩⟩
    · exact .inl (.inl q)
    · cases q
    · cases q
  · rcases e _ _ h with q | ⟨ob, _, ⟨k, q⟩ | ⟨k, q⟩⟩
    · exact .inl (.inr ⟨_, q⟩)
    · cases q
    · cases q
  · exact .inr h
theorem FSub.sqT {K : Frag} {F H : Hp} {a : Addr} {us : List V} (e : FSub F H) (h : SqT K F a us) : SqT K H a us := by
  rcases h with (h | ⟨o, h⟩) | h
  · rcases e _ _ h with q | ⟨ob, _, ⟨k, q⟩ | ⟨k, q⟩⟩
    · exact .inl (.inl q)
    · cases q
    · cases q
  · rcases e _ _ h with q | ⟨ob, _, ⟨k, q⟩ | ⟨k, q⟩⟩
    · exact .inl (.inr ⟨_, q⟩)
    · cases q
    · cases q
  · exact .inr h
theorem FSub.tup {F H : Hp} {a : Addr} {us : List V} (e : FSub F H) (h : F a = some (.tup us)) : H a = some (.tup us) := by
  rcases e _ _ h with q | ⟨ob, _, ⟨k, q⟩ | ⟨k, q⟩⟩
  · exact q
  · cases q
  · cases q
theorem FSub.none {F H : Hp} {a : Addr} (e : FSub F H) (h : H a = none) : F a = none := by
  cases q : F a with
  | none => rfl
  | some o =>
    rcases e _ _ q with z | ⟨ob, z, _⟩
    · rw [h] at z; cases z
    · rw [h] at z; cases z

section
variable {D : Wd} {F G : Hp} {μ ν : List Addr}
mutual
theorem RV.mono (hF : FExt F G) (hm : MExt μ ν) : ∀ {v : Vl} {u : V}, RV D F μ v u → RV D G ν v u
  | _, _, .non => .non
  | _, _, .bl b => .bl b
  | _, _, .int i => .int i
  | _, _, .str x => .str x
  | _, _, .tup h r => .tup (hF _ _ h) (RVs.mono hF hm r)
  | _, _, .lst h r => .lst (hF _ _ h) (RVs.mono hF hm r)
  | _, _, .scr h r => .scr (SqL_mono hF h) (RVs.mono hF hm r)
  | _, _, .dT h r => .dT (hF _ _ h) (RT.mono hF hm r)
  | _, _, .dK h r => .dK (hF _ _ h) (RK.mono hF hm r)
  | _, _, .ins h c r => .ins (hF _ _ h) c (RF.mono hF hm r)
  | _, _, .ref h => .ref (hm.get h)
  | _, _, .exn h c => .exn (hF _ _ h) c
theorem RVs.mono (hF : FExt F G) (hm : MExt μ ν) : ∀ {vs : List Vl} {us : List V}, RVs D F μ vs us → RVs D G ν vs us
  | _, _, .nil => .nil
  | _, _, .cons r t => .cons (RV.mono hF hm r) (RVs.mono hF hm t)
theorem RT.mono (hF : FExt F G) (hm : MExt μ ν) : ∀ {es : List (Vl × Vl)} {kvs : List (List Key × V)}, RT D F μ es kvs → RT D G ν es kvs
  | _, _, .nil => .nil
  | _, _, .cons r t => .cons (RV.mono hF hm r) (RT.mono hF hm t)
theorem RK.mono (hF : FExt F G) (hm : MExt μ ν) : ∀ {es : List (Vl × Vl)} {kvs : List (Key × V)}, RK D F μ es kvs → RK D G ν es kvs
  | _, _, .nil => .nil
  | _, _, .cons r t => .cons (RV.mono hF hm r) (RK.mono hF hm t)
theorem RF.mono (hF : FExt F G) (hm : MExt μ ν) : ∀ {fs : List (Str × Vl)} {gs : List (Str × V)}, RF D F μ fs gs → RF D G ν fs gs
  | _, _, .nil => .nil
  | _, _, .cons r t => .cons (RV.mono hF hm r) (RF.mono hF hm t)
end
theorem RVs.length : ∀ {vs : List Vl} {us : List V}, RVs D F μ vs us → vs.length = us.length
  | _, _, .nil => rfl
  | _, _, .cons _ t => by simp [RVs.length t]
theorem RVs.get : ∀ {vs : List Vl} {us : List V} {i : Nat} {v : Vl}, RVs D F μ vs us → vs[i]? = some v → ∃ u, us[i]? = some u ∧ RV D F μ v u
  | _, _, _, _, .nil, e => by simp at e
  | _, _, 0, _, .cons r _, e => by simp at e; subst e; exact ⟨_, rfl, r⟩
  | _, _, i + 1, _, .cons _ t, e => by simpa using RVs.get (i := i) t (by simpa using e)
theorem RVs.get' : ∀ {vs : List Vl} {us : List V} {i : Nat} {u : V}, RVs D F μ vs us → us[i]? = some u → ∃ v, vs[i]? = some v ∧ RV D F μ v u
  | _, _, _, _, .nil, e => by simp at e
  | _, _, 0, _, .cons r _, e => by simp at e; subst e; exact ⟨_, rfl, r⟩
  | _, _, i + 1, _, .cons _ t, e => by simpa using RVs.get' (i := i) t (by simpa using e)
theorem RVs.append : ∀ {vs ws : List Vl} {us xs : List V}, RVs D F μ vs us → RVs D F μ ws xs → RVs D F μ (vs ++ ws) (us ++ xs)
  | _, _, _, _, .nil, k => k
  | _, _, _, _, .cons r t, k => .cons r (RVs.append t k)
theorem RVs.set {v : Vl} {u : V} (r : RV D F μ v u) : ∀ {vs : List Vl} {us : List V} (i : Nat), RVs D F μ vs us → RVs D F μ (vs.set i v) (us.set i u)
  | _, _, _, .nil => .nil
  | _, _, 0, .cons _ t => .cons r t
  | _, _, i + 1, .cons q t => .cons q (RVs.set r i t)
theorem RVs.take : ∀ {vs : List Vl} {us : List V} (n : Nat), RVs D F μ vs us → RVs D F μ (vs.take n) (us.take n)
  | _, _, 0, _ => by simpa using RVs.nil
  | _, _, _ + 1, .nil => .nil
  | _, _, n + 1, .cons r t => .cons r (RVs.take n t)
theorem RVs.drop : ∀ {vs : List Vl} {us : List V} (n : Nat), RVs D F μ vs us → RVs D F μ (vs.drop n) (us.drop n)
  | _, _, 0, r => by simpa using r
  | _, _, _ + 1, .nil => .nil
  | _, _, n + 1, .cons _ t => by simpa using RVs.drop n t
theorem RVs.reverse {vs : List Vl} {us : List V} (h : RVs D F μ vs us) : RVs D F μ vs.reverse us.reverse := by
  induction vs generalizing us with
  | nil => cases h; exact .nil
  | cons v r ih =>
    cases h with
    | cons h1 h2 =>
      simp only [List.reverse_cons]
      exact (ih h2).append (.cons h1 .nil)
end

/-- an object of the local heap -/
inductive RO (D : Wd) (F : Hp) (μ : List Addr) : Ob → HO → Prop
  | lst {vs : List Vl} {us : List V} : RVs D F μ vs us → RO D F μ (.lst vs) (.lst us)
  | dT {es : List (Vl × Vl)} {kvs : List (List Key × V)} : RT D F μ es kvs → RO D F μ (.dct false true es) (.dT kvs)
  | dK {es : List (Vl × Vl)} {kvs : List (Key × V)} : RK D F μ es kvs → RO D F μ (.dct false false es) (.dK kvs)
  | lT {es : List (Vl × Vl)} {kvs : List (List Key × V)} {ob : Obj} : RT D F μ es kvs → RO D F μ (.dct true true es) (.frz ob (.dT kvs))
  | lK {es : List (Vl × Vl)} {kvs : List (Key × V)} {ob : Obj} : RK D F μ es kvs → RO D F μ (.dct true false es) (.frz ob (.dK kvs))
  | ins {C : Nat} {A dx : Addr} {fs : List (Str × Vl)} {gs : List (Str × V)} : D.cls C = some A → RF D F μ fs gs → RO D F μ (.ins C fs) (.ins A dx gs)
theorem RO.mono {D : Wd} {F G : Hp} {μ ν : List Addr} (hF : FExt F G) (hm : MExt μ ν) {o : Ob} {u : HO} (h : RO D F μ o u) : RO D G ν o u := by
  cases h with
  | lst r => exact .lst (r.mono hF hm)
  | dT r => exact .dT (r.mono hF hm)
  | dK r => exact .dK (r.mono hF hm)
  | lT r => exact .lT (r.mono hF hm)
  | lK r => exact .lK (r.mono hF hm)
  | ins c r => exact .ins c (r.mono hF hm)

/-- a table of code objects, or what is said of the heap alone -/
def Sp1 (o : HO) : Prop := (∃ ps, o = .tbl ps) ∨ ∃ φ, o = .ext φ
/-- the tables stand, none is frozen -/
structure TbOk (D : Wd) (F H : Hp) : Prop where
  t : LamX.Tabs D.T H
  n : ∀ a ps, F a ≠ some (.tbl ps)
theorem TbOk.keep {D : Wd} {F H F' H' : Hp} (k : TbOk D F H) (e : ∀ a o, Sp1 o → H a = some o → H' a = some o) (n : ∀ a ps, F' a ≠ some (.tbl ps)) : TbOk D F' H' := by
  refine ⟨fun p hp => ?_, n⟩
  obtain ⟨ps, h1, h2, h3⟩ := k.t p hp
  refine ⟨ps, e _ _ (.inl ⟨_, rfl⟩) h1, h2, fun pos cv hc => ?_⟩
  obtain ⟨c, e1, e2⟩ := h3 pos cv hc
  exact ⟨c, e1, e _ _ (.inr ⟨_, rfl⟩) e2⟩
theorem RO.sp {D : Wd} {F : Hp} {μ : List Addr} {o : Ob} {u : HO} (r : RO D F μ o u) : ¬ Sp1 u := by
  rintro (⟨_, e⟩ | ⟨_, e⟩) <;> cases r <;> cases e
/-- the state but the frame -/
structure CS (D : Wd) (F : Hp) (μ : List Addr) (h : Hh) (H : Hp) : Prop where
  sub : FSub F H
  len : h.length = μ.length
  inj : μ.Nodup
  ob : ∀ (l : Nat) (o : Ob), h[l]? = some o → ∃ a u, μ[l]? = some a ∧ F a = none ∧ H a = some u ∧ RO D F μ o u
  tab : TbOk D F H

/-- what happened to the heap -/
structure Xt (F : Hp) (μ : List Addr) (H : Hp) (F' : Hp) (μ' : List Addr) (H' : Hp) : Prop where
  f : FExt F F'
  m : MExt μ μ'
  keep : ∀ a o, H a = some o → a ∉ μ → (∀ ps, o ≠ .tbl ps) → H' a = some o
  there : ∀ a, ¬ Fr0 H a → ¬ Fr0 H' a
  fnew : ∀ a o, F' a = some o → F a = some o ∨ Fr0 H a ∨ ∃ xs, o = .tup xs
  mnew : ∀ a, a ∈ μ' → a ∈ μ ∨ Fr0 H a
  frz : ∀ a o u, H a = some (.frz o u) → H' a = some (.frz o u)
theorem Xt.refl (F : Hp) (μ : List Addr) (H : Hp) : Xt F μ H F μ H :=
  ⟨.refl _, .refl _, fun _ _ h _ _ => h, fun _ h => h, fun _ _ h => .inl h, fun _ h => .inl h, fun _ _ _ h => h⟩
theorem Xt.trans {F G J : Hp} {μ ν ξ : List Addr} {H H1 H2 : Hp} (a : Xt F μ H G ν H1) (b : Xt G ν H1 J ξ H2) : Xt F μ H J ξ H2 where
  f := a.f.trans b.f
  m := a.m.trans b.m
  keep := fun x o h n t => b.keep x o (a.keep x o h n t) (fun z => by
    rcases a.mnew x z with q | q
    · exact n q
    · obtain ⟨ps, e⟩ := q o h
      exact t ps e) t
  there := fun x h => b.there x (a.there x h)
  fnew := fun x o h => by
    rcases b.fnew x o h with q | q | q
    · exact a.fnew x o q
    · exact .inr (.inl (Classical.byContradiction fun z => a.there x z q))
    · exact .inr (.inr q)
  mnew := fun x h => by
    rcases b.mnew x h with q | q
    · exact a.mnew x q
    · exact .inr (Classical.byContradiction fun z => a.there x z q)
  frz := fun x o u h => b.frz x o u (a.frz x o u h)

/-- behind an evaluation -/
def Post {α β : Type} (D : Wd) (R : Hp → List Addr → α → β → Prop) (F : Hp) (μ : List Addr) (H : Hp) (r : Rs α) (Q : β → Hp → Prop) (W : XK) : Prop := match r with
  | .ok v h' => ∀ F' μ' H' u, Xt F μ H F' μ' H' → CS D F' μ' h' H' → R F' μ' v u → Q u H'
  | .exc C h' => ∀ F' μ' H' A, Xt F μ H F' μ' H' → CS D F' μ' h' H' → D.cls C = some A → W (.ref A) none H'
  | .bad => False
abbrev PostV (D : Wd) := Post D (RV D)
abbrev PostL (D : Wd) := Post D (RVs D)

theorem Post.bind {α β γ δ : Type} {D : Wd} {R : Hp → List Addr → α → γ → Prop} {S : Hp → List Addr → β → δ → Prop} {F : Hp} {μ : List Addr} {H : Hp} {r : Rs α} {f : α → Hh → Rs β} {Q : δ → Hp → Prop} {W : XK}
    (p : Post D S F μ H (r.bind f) Q W) :
    Post D R F μ H r (fun u H1 => ∃ F1 μ1 v h1, Xt F μ H F1 μ1 H1 ∧ CS D F1 μ1 h1 H1 ∧ R F1 μ1 v u ∧ Post D S F1 μ1 H1 (f v h1) Q W) W := by
  cases r with
  | bad => exact p
  | exc C h1 => exact p
  | ok v h1 =>
    intro F1 μ1 H1 u x c rv
    refine ⟨F1, μ1, v, h1, x, c, rv, ?_⟩
    have p : Post D S F μ H (f v h1) Q W := p
    cases e : f v h1 with
    | bad => rw [e] at p; exact p
    | exc C h2 => rw [e] at p; exact fun F2 μ2 H2 A x2 c2 k => p F2 μ2 H2 A (x.trans x2) c2 k
    | ok w h2 => rw [e] at p; exact fun F2 μ2 H2 u2 x2 c2 r2 => p F2 μ2 H2 u2 (x.trans x2) c2 r2
theorem Post.mono {α β : Type} {D : Wd} {R : Hp → List Addr → α → β → Prop} {F : Hp} {μ : List Addr} {H : Hp} {r : Rs α} {Q Q' : β → Hp → Prop} {W : XK} (p : Post D R F μ H r Q W) (q : ∀ u H', Q u H' → Q' u H') : Post D R F μ H r Q' W := by
  cases r with
  | bad => exact p
  | exc C h1 => exact p
  | ok v h1 => exact fun F1 μ1 H1 u x c rv => q _ _ (p F1 μ1 H1 u x c rv)

theorem Post.from {α β : Type} {D : Wd} {R : Hp → List Addr → α → β → Prop} {F : Hp} {μ : List Addr} {H : Hp} {F1 : Hp} {μ1 : List Addr} {H1 : Hp} {r : Rs α} {Q : β → Hp → Prop} {E : XK} (x : Xt F μ H F1 μ1 H1) (p : Post D R F μ H r Q E) : Post D R F1 μ1 H1 r Q E := by
  cases r with
  | bad => exact p
  | exc C h => exact fun F2 μ2 H2 A x2 c2 k => p F2 μ2 H2 A (x.trans x2) c2 k
  | ok v h => exact fun F2 μ2 H2 u x2 c2 r => p F2 μ2 H2 u (x.trans x2) c2 r
/-! ### changes of the heap -/
theorem Nodup.ne_of {α : Type} {μ : List α} (n : μ.Nodup) {i j : Nat} {a b : α} (hi : μ[i]? = some a) (hj : μ[j]? = some b) (h : i ≠ j) : a ≠ b := by
  intro e
  subst e
  obtain ⟨h1, e1⟩ := List.getElem?_eq_some_iff.mp hi
  obtain ⟨h2, e2⟩ := List.getElem?_eq_some_iff.mp hj
  exact h ((List.getElem_inj n).mp (e1.trans e2.symm))
section
variable {D : Wd} {F : Hp} {μ : List Addr} {h : Hh} {H : Hp}
theorem CS.mem (c : CS D F μ h H) {a : Addr} (ha : a ∈ μ) : ∃ u, F a = none ∧ H a = some u := by
  obtain ⟨l, hl, e⟩ := List.mem_iff_getElem.mp ha
  have hl' : l < h.length := by rw [c.len]; exact hl
  obtain ⟨b, u, e1, e2, e3, _⟩ := c.ob l h[l] (List.getElem?_eq_getElem hl')
  have : b = a := by
    rw [List.getElem?_eq_getElem hl] at e1
    rw [← e]
    exact (Option.some.inj e1).symm
  subst this
  exact ⟨u, e2, e3⟩
theorem CS.memo (c : CS D F μ h H) {a : Addr} (ha : a ∈ μ) : ∃ u, F a = none ∧ H a = some u ∧ ¬ Sp1 u := by
  obtain ⟨l, hl, e⟩ := List.mem_iff_getElem.mp ha
  have hl' : l < h.length := by rw [c.len]; exact hl
  obtain ⟨b, u, e1, e2, e3, e4⟩ := c.ob l h[l] (List.getElem?_eq_getElem hl')
  have : b = a := by
    rw [List.getElem?_eq_getElem hl] at e1
    rw [← e]
    exact (Option.some.inj e1).symm
  subst this
  exact ⟨u, e2, e3, e4.sp⟩
theorem FExt.upd {p : Addr} {o : HO} (hn : F p = none) : FExt F (upd F p o) := fun a u e => by
  rw [upd_ne (ne_of_none e hn)]; exact e
theorem fr0_ne {H : Hp} {a b : Addr} {o : HO} (q : b ≠ a) : Fr0 (upd H a o) b ↔ Fr0 H b := by
  unfold Fr0
  rw [upd_ne q]
theorem nfr0_at {H : Hp} {a : Addr} {o : HO} (ho : ∀ ps, o ≠ .tbl ps) : ¬ Fr0 (upd H a o) a := fun z => by
  obtain ⟨ps, e⟩ := z o upd_same
  exact ho ps e
theorem nfr0_upd {H : Hp} {a : Addr} {o : HO} (ho : ∀ ps, o ≠ .tbl ps) (b : Addr) (h : ¬ Fr0 H b) : ¬ Fr0 (upd H a o) b := by
  by_cases q : b = a
  · subst q; exact nfr0_at ho
  · rw [fr0_ne q]; exact h
theorem RO.nt {o : Ob} {u : HO} (r : RO D F μ o u) : ∀ ps, u ≠ .tbl ps := fun ps e => r.sp (.inl ⟨ps, e⟩)
/-- a new object, frozen or not -/
theorem TbOk.new (k : TbOk D F H) {p : Addr} {o : HO} (hp : H p = none) : TbOk D F (upd H p o) := k.keep (fun a o' _ e => by rw [upd_ne (ne_of_none e hp)]; exact e) k.n
theorem TbOk.frz (k : TbOk D F H) {p : Addr} {o : HO} (ho : ∀ ps, o ≠ .tbl ps) : TbOk D (upd F p o) H := k.keep (fun _ _ _ e => e) fun a ps e => by
  by_cases q : a = p
  · subst q; rw [upd_same] at e; cases e; exact ho _ rfl
  · rw [upd_ne q] at e; exact k.n a ps e
/-- an object that is no table changes -/
theorem TbOk.put (k : TbOk D F H) {a : Addr} {u u0 : HO} (ha : H a = some u0) (hu : ¬ Sp1 u0) : TbOk D F (upd H a u) := k.keep (fun b o hs e => by
  rw [upd_ne fun z => by subst z; rw [ha] at e; cases e; exact hu hs]; exact e) k.n
/-- a new frozen object -/
theorem CS.new (c : CS D F μ h H) {p : Addr} (hp : H p = none) (o : HO) (ho : ∀ ps, o ≠ .tbl ps := by intro _ z; cases z) : CS D (upd F p o) μ h (upd H p o) ∧ Xt F μ H (upd F p o) μ (upd H p o) := by
  have fp := c.sub.none hp
  have hF : FExt F (upd F p o) := FExt.upd fp
  refine ⟨⟨fun a u e => ?_, c.len, c.inj, fun l ob e => ?_, (c.tab.frz ho).new hp⟩, ⟨hF, .refl _, fun a u e _ _ => ?_, nfr0_upd ho, fun a u e => ?_, fun a e => .inl e, fun a o' u e => by rw [upd_ne (ne_of_none e hp)]; exact e⟩⟩
  · by_cases q : a = p
    · subst q; rw [upd_same] at e; cases e; exact .inl upd_same
    · rw [upd_ne q] at e ⊢; exact c.sub a u e
  · obtain ⟨a, u, e1, e2, e3, e4⟩ := c.ob l ob e
    have q : a ≠ p := ne_of_none e3 hp
    exact ⟨a, u, e1, by rw [upd_ne q]; exact e2, by rw [upd_ne q]; exact e3, e4.mono hF (.refl _)⟩
  · rw [upd_ne (ne_of_none e hp)]; exact e
  · by_cases q : a = p
    · subst q; exact .inr (.inl (fr0_none hp))
    · rw [upd_ne q] at e; exact .inl e
/-- a new place of the local heap -/
theorem CS.place (c : CS D F μ h H) {p : Addr} (hp : H p = none) {o : Ob} {u : HO} (r : RO D F (μ ++ [p]) o u) : CS D F (μ ++ [p]) (h ++ [o]) (upd H p u) ∧ Xt F μ H F (μ ++ [p]) (upd H p u) := by
  have hm : MExt μ (μ ++ [p]) := ⟨[p], rfl⟩
  have np : p ∉ μ := fun z => by
    obtain ⟨u, _, e⟩ := c.mem z
    rw [hp] at e; cases e
  refine ⟨⟨fun a o' e => ?_, by simp [c.len], ?_, fun l ob e => ?_, c.tab.new hp⟩, ⟨.refl _, hm, fun a o' e _ _ => ?_, nfr0_upd r.nt, fun a o' e => .inl e, fun a e => ?_, fun a o' u e => by rw [upd_ne (ne_of_none e hp)]; exact e⟩⟩
  · have q : a ≠ p := fun z => by
      subst z
      rw [c.sub.none hp] at e; cases e
    rw [upd_ne q]; exact c.sub a o' e
  · rw [List.nodup_append]
    refine ⟨c.inj, by simp, fun a ha b hb => ?_⟩
    simp at hb
    subst hb
    exact fun z => np (z ▸ ha)
  · by_cases q : l < h.length
    · rw [List.getElem?_append_left q] at e
      obtain ⟨a, o', e1, e2, e3, e4⟩ := c.ob l ob e
      have qa : a ≠ p := ne_of_none e3 hp
      exact ⟨a, o', hm.get e1, e2, by rw [upd_ne qa]; exact e3, e4.mono (.refl _) hm⟩
    · have ql : l = h.length := by
        have := (List.getElem?_eq_some_iff.mp e).1
        simp at this; omega
      subst ql
      rw [List.getElem?_append_right (Nat.le_refl _)] at e
      simp at e
      subst e
      refine ⟨p, u, ?_, c.sub.none hp, upd_same, r⟩
      rw [c.len, List.getElem?_append_right (Nat.le_refl _)]; simp
  · rw [upd_ne (ne_of_none e hp)]; exact e
  · rcases List.mem_append.mp e with q | q
    · exact .inl q
    · simp at q; subst q; exact .inr (fr0_none hp)
/-- an object of the local heap changed -/
theorem CS.putC (c : CS D F μ h H) {l : Nat} {a : Addr} (hl : l < h.length) (ha : μ[l]? = some a) {o : Ob} {u : HO} (r : RO D F μ o u) : CS D F μ (h.set l o) (upd H a u) := by
  have am : a ∈ μ := List.mem_of_getElem? ha
  obtain ⟨u0, f0, h0, sp0⟩ := c.memo am
  refine ⟨fun b o' e => ?_, by simp [c.len], c.inj, fun m ob e => ?_, c.tab.put h0 sp0⟩
  · have q : b ≠ a := fun z => by
      subst z
      rw [f0] at e; cases e
    rw [upd_ne q]; exact c.sub b o' e
  · by_cases q : l = m
    · subst q
      rw [List.getElem?_set_self hl] at e
      cases e
      exact ⟨a, u, ha, f0, upd_same, r⟩
    · rw [List.getElem?_set_ne q] at e
      obtain ⟨b, o', e1, e2, e3, e4⟩ := c.ob m ob e
      have qb : b ≠ a := Nodup.ne_of c.inj e1 ha (Ne.symm q)
      exact ⟨b, o', e1, e2, by rw [upd_ne qb]; exact e3, e4⟩
theorem CS.put (c : CS D F μ h H) {l : Nat} {a : Addr} (hl : l < h.length) (ha : μ[l]? = some a) {o : Ob} {u : HO} (r : RO D F μ o u) (nf : ∀ o' u', H a ≠ some (.frz o' u')) : CS D F μ (h.set l o) (upd H a u) ∧ Xt F μ H F μ (upd H a u) := by
  have am : a ∈ μ := List.mem_of_getElem? ha
  refine ⟨c.putC hl ha r, ⟨.refl _, .refl _, fun b o' e n _ => ?_, nfr0_upd r.nt, fun b o' e => .inl e, fun b e => .inl e, fun b o' u' e => by rw [upd_ne fun z => by subst z; exact nf _ _ e]; exact e⟩⟩
  · have q : b ≠ a := fun z => n (z ▸ am)
    rw [upd_ne q]; exact e
end
end IL
end

section
set_option autoImplicit false
set_option linter.all false
set_option Elab.async false
set_option maxRecDepth 100000
set_option maxHeartbeats 1000000
/-! IL: the operators, by values. -/
namespace IL
open PySem L2

theorem FSub.lst {F H : Hp} {a : Addr} {us : List V} (e : FSub F H) (h : F a = some (.lst us)) : H a = some (.lst us) := by
  rcases e _ _ h with q | ⟨ob, _, ⟨k, q⟩ | ⟨k, q⟩⟩
  · exact q
  · cases q
  · cases q
theorem FSub.ins {F H : Hp} {a A dx : Addr} {gs : List (Str × V)} (e : FSub F H) (h : F a = some (.ins A dx gs)) : H a = some (.ins A dx gs) := by
  rcases e _ _ h with q | ⟨ob, _, ⟨k, q⟩ | ⟨k, q⟩⟩
  · exact q
  · cases q
  · cases q
section
variable {D : Wd} {F : Hp} {μ : List Addr} {h : Hh} {H : Hp}
/-- a list of ours, as it stands -/
theorem asList_ok (c : CS D F μ h H) {v : Vl} {u : V} (r : RV D F μ v u) {vs : List Vl} (e : asList h v = some vs) : ∃ a us, u = .ref a ∧ H a = some (.lst us) ∧ RVs D F μ vs us := by
  cases r with
  | lst hf rs =>
    simp only [asList, Option.some.injEq] at e
    subst e
    exact ⟨_, _, rfl, c.sub.lst hf, rs⟩
  | @ref l a hm =>
    simp only [asList] at e
    split at e
    · rename_i xs hx
      cases e
      obtain ⟨b, o, e1, e2, e3, e4⟩ := c.ob l _ hx
      rw [hm] at e1
      cases e1
      cases e4 with
      | lst rs => exact ⟨_, _, rfl, e3, rs⟩
    · cases e
  | _ => simp [asList] at e
theorem asSeq_ok (c : CS D F μ h H) {v : Vl} {u : V} (r : RV D F μ v u) {vs : List Vl} (e : asSeq h v = some vs) : ∃ a us, u = .ref a ∧ (SqL D.K H a us ∨ SqT D.K H a us) ∧ RVs D F μ vs us := by
  cases r with
  | tup hf rs =>
    simp only [asSeq, Option.some.injEq] at e
    subst e
    exact ⟨_, _, rfl, .inr (.of (c.sub.tup hf)), rs⟩
  | scr hf rs =>
    simp only [asSeq, Option.some.injEq] at e
    subst e
    exact ⟨_, _, rfl, .inl (c.sub.sqL hf), rs⟩
  | lst hf rs =>
    obtain ⟨a, us, e1, e2, e3⟩ := asList_ok c (.lst hf rs) e
    exact ⟨a, us, e1, .inl (.of e2), e3⟩
  | ref hm =>
    obtain ⟨a, us, e1, e2, e3⟩ := asList_ok c (.ref hm) e
    exact ⟨a, us, e1, .inl (.of e2), e3⟩
  | _ => simp [asSeq, asList] at e

/-! ### a new list, tuple -/
theorem post_lst (c : CS D F μ h H) {vs : List Vl} {us : List V} (r : RVs D F μ vs us) {Q : V → Hp → Prop} {W : XK} (p : PostV D F μ H (.ok (.lst vs) h) Q W) {a : Addr} (ha : H a = none) : Q (.ref a) (upd H a (.lst us)) := by
  obtain ⟨c', x⟩ := c.new ha (.lst us)
  exact p _ _ _ _ x c' (.lst upd_same (r.mono x.f x.m))
theorem post_tup (c : CS D F μ h H) {vs : List Vl} {us : List V} (r : RVs D F μ vs us) {Q : V → Hp → Prop} {W : XK} (p : PostV D F μ H (.ok (.tup vs) h) Q W) {a : Addr} (ha : H a = none) : Q (.ref a) (upd H a (.tup us)) := by
  obtain ⟨c', x⟩ := c.new ha (.tup us)
  exact p _ _ _ _ x c' (.tup upd_same (r.mono x.f x.m))
theorem post_same {v : Vl} {u : V} (c : CS D F μ h H) (r : RV D F μ v u) {Q : V → Hp → Prop} {W : XK} (p : PostV D F μ H (.ok v h) Q W) : Q u H := p _ _ _ _ (.refl _ _ _) c r
theorem place_lst (m : Bool) (c : CS D F μ h H) {vs : List Vl} {us : List V} (r : RVs D F μ vs us) {Q : V → Hp → Prop} {W : XK} (p : PostV D F μ H (place m (.ok (.lst vs) h)) Q W) {a : Addr} (ha : H a = none) : Q (.ref a) (upd H a (.lst us)) := by
  cases m with
  | false => exact post_lst c r p ha
  | true =>
    have p : PostV D F μ H (.ok (.ref h.length) (h ++ [.lst vs])) Q W := p
    obtain ⟨c', x⟩ := c.place (o := .lst vs) (u := .lst us) ha (.lst (r.mono (.refl _) ⟨[a], rfl⟩))
    exact p _ _ _ _ x c' (.ref (by rw [c.len, List.getElem?_append_right (Nat.le_refl _)]; simp))
end

/-! ### data: == and != -/
mutual
def toPd : Vl → PyData
  | .non => .none
  | .bl b => .bool b
  | .int i => .int i
  | .str x => .str x
  | .tup vs => .tuple (toPds vs)
  | .lst vs => .list (toPds vs)
  | .scr vs => .list (toPds vs)
  | _ => .none
def toPds : List Vl → List PyData
  | [] => []
  | v :: vs => toPd v :: toPds vs
end
theorem isData_tup {d : Nat} {vs : List Vl} (h : isData d (.tup vs) = true) : ∃ k, d = k + 1 ∧ ∀ v ∈ vs, isData k v = true := by
  cases d with
  | zero => simp [isData] at h
  | succ k => exact ⟨k, rfl, by simpa [isData, List.all_eq_true] using h⟩
theorem isData_lst {d : Nat} {vs : List Vl} (h : isData d (.lst vs) = true) : ∃ k, d = k + 1 ∧ ∀ v ∈ vs, isData k v = true := by
  cases d with
  | zero => simp [isData] at h
  | succ k => exact ⟨k, rfl, by simpa [isData, List.all_eq_true] using h⟩
theorem isData_scr {d : Nat} {vs : List Vl} (h : isData d (.scr vs) = true) : ∃ k, d = k + 1 ∧ ∀ v ∈ vs, isData k v = true := by
  cases d with
  | zero => simp [isData] at h
  | succ k => exact ⟨k, rfl, by simpa [isData, List.all_eq_true] using h⟩
theorem isData_no {d : Nat} {v : Vl} (h : isData d v = true) : (∀ t es, v ≠ .dct t es) ∧ (∀ C fs, v ≠ .ins C fs) ∧ ∀ l, v ≠ .ref l := by
  cases d with
  | zero => simp [isData] at h
  | succ k => cases v <;> simp [isData] at h ⊢
theorem isData_ne {d : Nat} {v : Vl} (h : isData d v = true) : ∀ C, v ≠ .exn C := by
  cases d with
  | zero => simp [isData] at h
  | succ k => cases v <;> simp [isData] at h ⊢
section
variable {D : Wd} {F : Hp} {μ : List Addr} {h : Hh} {H : Hp}
mutual
theorem data_ok (c : CS D F μ h H) : ∀ (d : Nat) (v : Vl) (u : V), RV D F μ v u → isData d v = true → Dp D.K H u (toPd v) ∧ (toPd v).canLay0 = true ∧ (toPd v).depth ≤ d
  | _, .non, _, r, h => by cases r; exact ⟨.non, by simp [toPd, PyData.canLay0], by simp [toPd, PyData.depth]⟩
  | _, .bl b, _, r, h => by cases r; exact ⟨.bl b, by simp [toPd, PyData.canLay0], by simp [toPd, PyData.depth]⟩
  | _, .int i, _, r, h => by cases r; exact ⟨.int i, by simp [toPd, PyData.canLay0], by simp [toPd, PyData.depth]⟩
  | _, .str x, _, r, h => by
    cases r with
    | str k => exact ⟨.str x, by simpa [toPd, PyData.canLay0] using k, by simp [toPd, PyData.depth]⟩
  | d, .tup vs, _, r, h => by
    obtain ⟨k, rfl, q⟩ := isData_tup h
    cases r with
    | tup hf rs =>
      obtain ⟨dp, a, b⟩ := datas_ok c k vs _ rs q
      exact ⟨.tup (.of (c.sub.tup hf)) dp, by simpa [toPd, PyData.canLay0] using a, by simp [toPd, PyData.depth]; omega⟩
  | d, .lst vs, _, r, h => by
    obtain ⟨k, rfl, q⟩ := isData_lst h
    cases r with
    | lst hf rs =>
      obtain ⟨dp, a, b⟩ := datas_ok c k vs _ rs q
      exact ⟨.lst (.of (c.sub.lst hf)) dp, by simpa [toPd, PyData.canLay0] using a, by simp [toPd, PyData.depth]; omega⟩
  | d, .scr vs, _, r, h => by
    obtain ⟨k, rfl, q⟩ := isData_scr h
    cases r with
    | scr hf rs =>
      obtain ⟨dp, a, b⟩ := datas_ok c k vs _ rs q
      exact ⟨.lst (c.sub.sqL hf) dp, by simpa [toPd, PyData.canLay0] using a, by simp [toPd, PyData.depth]; omega⟩
  | _, .dct t es, _, _, h => absurd rfl ((isData_no h).1 t es)
  | _, .ins C fs, _, _, h => absurd rfl ((isData_no h).2.1 C fs)
  | _, .ref l, _, _, h => absurd rfl ((isData_no h).2.2 l)
  | _, .exn C, _, _, h => absurd rfl (isData_ne h C)
theorem datas_ok (c : CS D F μ h H) : ∀ (d : Nat) (vs : List Vl) (us : List V), RVs D F μ vs us → (∀ v ∈ vs, isData d v = true) → DpAll D.K H us (toPds vs) ∧ PyData.canLayAll0 (toPds vs) = true ∧ PyData.depthAll (toPds vs) ≤ d
  | _, [], _, r, _ => by cases r; exact ⟨.nil, by simp [toPds, PyData.canLayAll0], by simp [toPds, PyData.depthAll]⟩
  | d, v :: vs, _, r, h => by
    cases r with
    | cons r1 r2 =>
      obtain ⟨p, a, b⟩ := data_ok c d v _ r1 (h v (by simp))
      obtain ⟨p', a', b'⟩ := datas_ok c d vs _ r2 fun w hw => h w (by simp [hw])
      exact ⟨.cons p p', by simp [toPds, PyData.canLayAll0, a, a'], by simp [toPds, PyData.depthAll]; omega⟩
end
theorem shaped_of {p : PyData} {d : Nat} (a : p.canLay0 = true) (b : p.depth ≤ d) (hd : d ≤ 64) : SeqAt.shaped p = true := by
  unfold SeqAt.shaped
  rw [a, Bool.true_and]
  exact decide_eq_true (Nat.le_trans b hd)
end
mutual
theorem pd_eqv : ∀ (d e : Nat) (v w : Vl), isData d v = true → isData e w = true → PyData.eqv (toPd v) (toPd w) = eqv v w
  | d, e, v, w, hv, hw => by
    have nv := isData_no hv
    have nw := isData_no hw
    cases v <;> cases w <;> first
      | exact absurd rfl (nv.1 _ _)
      | exact absurd rfl (nv.2.1 _ _)
      | exact absurd rfl (nv.2.2 _)
      | exact absurd rfl (isData_ne hv _)
      | exact absurd rfl (isData_ne hw _)
      | exact absurd rfl (nw.1 _ _)
      | exact absurd rfl (nw.2.1 _ _)
      | exact absurd rfl (nw.2.2 _)
      | (simp only [toPd, PyData.eqv, eqv]; done)
      | skip
    case tup.tup vs ws =>
      obtain ⟨k, rfl, q⟩ := isData_tup hv
      obtain ⟨j, rfl, q'⟩ := isData_tup hw
      simp only [toPd, PyData.eqv, eqv]
      exact pd_eqvs k j vs ws q q'
    case lst.lst vs ws =>
      obtain ⟨k, rfl, q⟩ := isData_lst hv
      obtain ⟨j, rfl, q'⟩ := isData_lst hw
      simp only [toPd, PyData.eqv, eqv]
      exact pd_eqvs k j vs ws q q'
    case lst.scr vs ws =>
      obtain ⟨k, rfl, q⟩ := isData_lst hv
      obtain ⟨j, rfl, q'⟩ := isData_scr hw
      simp only [toPd, PyData.eqv, eqv]
      exact pd_eqvs k j vs ws q q'
    case scr.lst vs ws =>
      obtain ⟨k, rfl, q⟩ := isData_scr hv
      obtain ⟨j, rfl, q'⟩ := isData_lst hw
      simp only [toPd, PyData.eqv, eqv]
      exact pd_eqvs k j vs ws q q'
    case scr.scr vs ws =>
      obtain ⟨k, rfl, q⟩ := isData_scr hv
      obtain ⟨j, rfl, q'⟩ := isData_scr hw
      simp only [toPd, PyData.eqv, eqv]
      exact pd_eqvs k j vs ws q q'
theorem pd_eqvs : ∀ (d e : Nat) (vs ws : List Vl), (∀ v ∈ vs, isData d v = true) → (∀ w ∈ ws, isData e w = true) → PyData.eqvAll (toPds vs) (toPds ws) = eqvs vs ws
  | _, _, [], [], _, _ => by simp only [toPds, PyData.eqvAll, eqvs]
  | _, _, [], _ :: _, _, _ => by simp only [toPds, PyData.eqvAll, eqvs]
  | _, _, _ :: _, [], _, _ => by simp only [toPds, PyData.eqvAll, eqvs]
  | d, e, v :: vs, w :: ws, hv, hw => by
    simp only [toPds, PyData.eqvAll, eqvs]
    rw [pd_eqv d e v w (hv v (by simp)) (hw w (by simp)), pd_eqvs d e vs ws (fun x hx => hv x (by simp [hx])) fun x hx => hw x (by simp [hx])]
end
end IL
end

section
set_option autoImplicit false
set_option linter.all false
set_option Elab.async false
set_option maxRecDepth 100000
set_option maxHeartbeats 1000000
/-! IL: values thawed. -/
namespace IL
open PySem L2
section
variable {D : Wd} {F G : Hp} {μ ν : List Addr}
theorem RVs.each {P : Vl → Prop} (k : ∀ v u, P v → RV D F μ v u → RV D G ν v u) : ∀ {vs : List Vl} {us : List V}, (∀ v ∈ vs, P v) → RVs D F μ vs us → RVs D G ν vs us
  | _, _, _, .nil => .nil
  | _, _, h, .cons r t => .cons (k _ _ (h _ (by simp)) r) (RVs.each k (fun v hv => h v (by simp [hv])) t)
theorem RT.each {P : Vl → Prop} (k : ∀ v u, P v → RV D F μ v u → RV D G ν v u) : ∀ {es : List (Vl × Vl)} {us : List (List Key × V)}, (∀ e ∈ es, P e.2) → RT D F μ es us → RT D G ν es us
  | _, _, _, .nil => .nil
  | _, _, h, .cons r t => .cons (k _ _ (h _ List.mem_cons_self) r) (RT.each k (fun v hv => h v (List.mem_cons_of_mem _ hv)) t)
theorem RK.each {P : Vl → Prop} (k : ∀ v u, P v → RV D F μ v u → RV D G ν v u) : ∀ {es : List (Vl × Vl)} {us : List (Key × V)}, (∀ e ∈ es, P e.2) → RK D F μ es us → RK D G ν es us
  | _, _, _, .nil => .nil
  | _, _, h, .cons r t => .cons (k _ _ (h _ List.mem_cons_self) r) (RK.each k (fun v hv => h v (List.mem_cons_of_mem _ hv)) t)
theorem RF.each {P : Vl → Prop} (k : ∀ v u, P v → RV D F μ v u → RV D G ν v u) : ∀ {es : List (Str × Vl)} {us : List (Str × V)}, (∀ e ∈ es, P e.2) → RF D F μ es us → RF D G ν es us
  | _, _, _, .nil => .nil
  | _, _, h, .cons r t => .cons (k _ _ (h _ List.mem_cons_self) r) (RF.each k (fun v hv => h v (List.mem_cons_of_mem _ hv)) t)
theorem RVs.map {f : Vl → Option Vl} (k : ∀ v w u, f v = some w → RV D F μ v u → RV D G ν w u) : ∀ {vs ws : List Vl} {us : List V}, mapO f vs = some ws → RVs D F μ vs us → RVs D G ν ws us
  | [], _, _, h, .nil => by simp only [mapO, Option.some.injEq] at h; subst h; exact .nil
  | v :: vs, _, _, h, .cons r t => by
    simp only [mapO] at h
    split at h
    · split at h
      · cases h
        exact .cons (k _ _ _ (by assumption) r) (RVs.map k (by assumption) t)
      · cases h
    · cases h
theorem RT.map {f : Vl → Option Vl} (k : ∀ v w u, f v = some w → RV D F μ v u → RV D G ν w u) {vs ws : List (Vl × Vl)} {us : List (List Key × V)} (h : mapO (fun e : Vl × Vl => pairO (some e.1) (f e.2)) vs = some ws) (q : RT D F μ vs us) : RT D G ν ws us := by
  induction vs generalizing ws us with
  | nil =>
    cases q
    simp only [mapO, Option.some.injEq] at h
    subst h
    exact .nil
  | cons e vs ih =>
    cases q with
    | @cons _ v u _ _ r t =>
      simp only [mapO] at h
      cases e1 : f v with
      | none => rw [e1] at h; cases h
      | some w =>
        rw [e1] at h
        simp only [pairO] at h
        split at h
        · cases h
          exact .cons (k _ _ _ e1 r) (ih (by assumption) t)
        · cases h
theorem RK.map {f : Vl → Option Vl} (k : ∀ v w u, f v = some w → RV D F μ v u → RV D G ν w u) {vs ws : List (Vl × Vl)} {us : List (Key × V)} (h : mapO (fun e : Vl × Vl => pairO (some e.1) (f e.2)) vs = some ws) (q : RK D F μ vs us) : RK D G ν ws us := by
  induction vs generalizing ws us with
  | nil =>
    cases q
    simp only [mapO, Option.some.injEq] at h
    subst h
    exact .nil
  | cons e vs ih =>
    cases q with
    | @cons _ v u _ _ r t =>
      simp only [mapO] at h
      cases e1 : f v with
      | none => rw [e1] at h; cases h
      | some w =>
        rw [e1] at h
        simp only [pairO] at h
        split at h
        · cases h
          exact .cons (k _ _ _ e1 r) (ih (by assumption) t)
        · cases h
theorem RF.map {f : Vl → Option Vl} (k : ∀ v w u, f v = some w → RV D F μ v u → RV D G ν w u) {vs ws : List (Str × Vl)} {us : List (Str × V)} (h : mapO (fun e : Str × Vl => pairO (some e.1) (f e.2)) vs = some ws) (q : RF D F μ vs us) : RF D G ν ws us := by
  induction vs generalizing ws us with
  | nil =>
    cases q
    simp only [mapO, Option.some.injEq] at h
    subst h
    exact .nil
  | cons e vs ih =>
    cases q with
    | @cons _ v u _ _ r t =>
      simp only [mapO] at h
      cases e1 : f v with
      | none => rw [e1] at h; cases h
      | some w =>
        rw [e1] at h
        simp only [pairO] at h
        split at h
        · cases h
          exact .cons (k _ _ _ e1 r) (ih (by assumption) t)
        · cases h
theorem take_get {μ : List Addr} {n l : Nat} {a : Addr} (h : l < n) (e : μ[l]? = some a) : (μ.take n)[l]? = some a := by
  rw [List.getElem?_take, if_pos h]; exact e
theorem below_ok {n : Nat} : ∀ (d : Nat) (v : Vl) (u : V), below d n v = true → RV D F μ v u → RV D F (μ.take n) v u
  | 0, _, _, h, _ => by simp [below] at h
  | d + 1, v, u, h, r => by
    have ih := @below_ok n d
    cases r with
    | non => exact .non
    | bl b => exact .bl b
    | int i => exact .int i
    | str k => exact .str k
    | tup hf rs => exact .tup hf (rs.each ih (by simpa [below, List.all_eq_true] using h))
    | lst hf rs => exact .lst hf (rs.each ih (by simpa [below, List.all_eq_true] using h))
    | scr hf rs => exact .scr hf (rs.each ih (by simpa [below, List.all_eq_true] using h))
    | dT hf rs => exact .dT hf (rs.each (P := fun v => below d n v = true) ih (by simp only [below, List.all_eq_true] at h; exact h))
    | dK hf rs => exact .dK hf (rs.each (P := fun v => below d n v = true) ih (by simp only [below, List.all_eq_true] at h; exact h))
    | ins hf c rs => exact .ins hf c (rs.each (P := fun v => below d n v = true) ih (by simp only [below, List.all_eq_true] at h; exact h))
    | ref hm => exact .ref (take_get (by simpa [below] using h) hm)
    | exn hf c => exact .exn hf c
end
/-- the heap with the objects from place n on frozen -/
noncomputable def frozen (F : Hp) (μ : List Addr) (n : Nat) (H : Hp) : Hp := fun a => open Classical in if a ∈ μ.drop n then H a else F a
section
variable {D : Wd} {F : Hp} {μ : List Addr} {h : Hh} {H : Hp} {n : Nat}
theorem frozen_in {a : Addr} (e : a ∈ μ.drop n) : frozen F μ n H a = H a := by unfold frozen; rw [if_pos e]
theorem frozen_out {a : Addr} (e : a ∉ μ.drop n) : frozen F μ n H a = F a := by unfold frozen; rw [if_neg e]
theorem frozen_ext (c : CS D F μ h H) : FExt F (frozen F μ n H) := fun a o e => by
  by_cases q : a ∈ μ.drop n
  · obtain ⟨u, e1, _⟩ := c.mem (List.mem_of_mem_drop q)
    rw [e1] at e; cases e
  · rw [frozen_out q]; exact e
theorem thaw_ok (c : CS D F μ h H) : ∀ (d : Nat) (v w : Vl) (u : V), thaw d n h v = some w → RV D F μ v u → RV D (frozen F μ n H) (μ.take n) w u
  | 0, _, _, _, h, _ => by simp [thaw] at h
  | d + 1, v, w, u, ht, r => by
    have ih := @thaw_ok c d
    simp only [thaw] at ht
    split at ht
    · rename_i hb
      cases ht
      exact (below_ok (d + 1) v u hb r).mono (frozen_ext c) (.refl _)
    · rename_i hb
      have fx := frozen_ext (n := n) c
      cases r with
      | non => simp [below] at hb
      | bl b => simp [below] at hb
      | int i => simp [below] at hb
      | str k => simp [below] at hb
      | scr hf rs => cases ht
      | exn hf cc => simp [below] at hb
      | tup hf rs =>
        simp only [Option.map_eq_some_iff] at ht
        obtain ⟨ws, e, rfl⟩ := ht
        exact .tup (fx _ _ hf) (rs.map ih e)
      | lst hf rs =>
        simp only [Option.map_eq_some_iff] at ht
        obtain ⟨ws, e, rfl⟩ := ht
        exact .lst (fx _ _ hf) (rs.map ih e)
      | dT hf rs =>
        simp only [Option.map_eq_some_iff] at ht
        obtain ⟨ws, e, rfl⟩ := ht
        exact .dT (fx _ _ hf) (rs.map ih e)
      | dK hf rs =>
        simp only [Option.map_eq_some_iff] at ht
        obtain ⟨ws, e, rfl⟩ := ht
        exact .dK (fx _ _ hf) (rs.map ih e)
      | ins hf cc rs =>
        simp only [Option.map_eq_some_iff] at ht
        obtain ⟨ws, e, rfl⟩ := ht
        exact .ins (fx _ _ hf) cc (rs.map ih e)
      | @ref l a hm =>
        have hl : n ≤ l := by
          simp [below] at hb
          exact hb
        have am : a ∈ μ.drop n := List.mem_iff_getElem?.mpr ⟨l - n, by rw [List.getElem?_drop, show n + (l - n) = l by omega]; exact hm⟩
        have key : ∀ ob, h[l]? = some ob → ∃ uo, frozen F μ n H a = some uo ∧ RO D F μ ob uo := fun ob e => by
          obtain ⟨b, uo, e1, _, e3, e4⟩ := c.ob l ob e
          rw [hm] at e1; cases e1
          exact ⟨uo, by rw [frozen_in am]; exact e3, e4⟩
        dsimp only at ht
        split at ht
        · rename_i vs hx
          obtain ⟨uo, e1, e2⟩ := key _ hx
          simp only [Option.map_eq_some_iff] at ht
          obtain ⟨ws, e, rfl⟩ := ht
          cases e2 with
          | lst rs => exact .lst e1 (rs.map ih e)
        · rename_i t es hx
          obtain ⟨uo, e1, e2⟩ := key _ hx
          simp only [Option.map_eq_some_iff] at ht
          obtain ⟨ws, e, rfl⟩ := ht
          cases e2 with
          | dT rs => exact .dT e1 (rs.map ih e)
          | dK rs => exact .dK e1 (rs.map ih e)
        · rename_i C fs hx
          obtain ⟨uo, e1, e2⟩ := key _ hx
          simp only [Option.map_eq_some_iff] at ht
          obtain ⟨ws, e, rfl⟩ := ht
          cases e2 with
          | ins cc rs => exact .ins e1 cc (rs.map ih e)
        · cases ht
theorem frozen_sub (c : CS D F μ h H) : FSub (frozen F μ n H) H := fun a o e => by
  by_cases q : a ∈ μ.drop n
  · rw [frozen_in q] at e; exact .inl e
  · rw [frozen_out q] at e; exact c.sub a o e
theorem frozen_tab (c : CS D F μ h H) : TbOk D (frozen F μ n H) H := c.tab.keep (fun _ _ _ e => e) fun a ps e => by
  by_cases q : a ∈ μ.drop n
  · rw [frozen_in q] at e
    obtain ⟨u, _, e2, e3⟩ := c.memo (List.mem_of_mem_drop q)
    rw [e2] at e; cases e
    exact e3 (.inl ⟨_, rfl⟩)
  · rw [frozen_out q] at e; exact c.tab.n a ps e
/-- nothing of the local heap is held any more -/
theorem CS.bare (c : CS D F μ h H) (n : Nat) : CS D (frozen F μ n H) [] [] H :=
  ⟨frozen_sub c, rfl, List.nodup_nil, fun l o e => by simp at e, frozen_tab c⟩
/-- the places from n on are dropped -/
theorem CS.drop (c : CS D F μ h H) (hb : (h.take n).all (obBelow n) = true) : CS D (frozen F μ n H) (μ.take n) (h.take n) H := by
  refine ⟨frozen_sub c, by simp [c.len], c.inj.sublist (List.take_sublist _ _), fun l o e => ?_, frozen_tab c⟩
  have hl : l < n := by
    have := (List.getElem?_eq_some_iff.mp e).1
    simp at this; omega
  have e' : h[l]? = some o := by
    rw [List.getElem?_take, if_pos hl] at e; exact e
  obtain ⟨a, u, e1, e2, e3, e4⟩ := c.ob l o e'
  have hbo : obBelow n o = true := List.all_eq_true.mp hb o (List.mem_of_getElem? e)
  have na : a ∉ μ.drop n := fun z => by
    obtain ⟨k, hk⟩ := List.mem_iff_getElem?.mp z
    rw [List.getElem?_drop] at hk
    exact Nodup.ne_of c.inj e1 hk (by omega) rfl
  refine ⟨a, u, take_get hl e1, by rw [frozen_out na]; exact e2, e3, ?_⟩
  have fx := frozen_ext (n := n) c
  cases e4 with
  | lst rs => exact .lst ((rs.each (below_ok deep) (by simpa [obBelow, List.all_eq_true] using hbo)).mono fx (.refl _))
  | dT rs => exact .dT ((rs.each (P := fun v => below deep n v = true) (below_ok deep) (by simp only [obBelow, List.all_eq_true] at hbo; exact hbo)).mono fx (.refl _))
  | dK rs => exact .dK ((rs.each (P := fun v => below deep n v = true) (below_ok deep) (by simp only [obBelow, List.all_eq_true] at hbo; exact hbo)).mono fx (.refl _))
  | lT rs => exact .lT ((rs.each (P := fun v => below deep n v = true) (below_ok deep) (by simp only [obBelow, List.all_eq_true] at hbo; exact hbo)).mono fx (.refl _))
  | lK rs => exact .lK ((rs.each (P := fun v => below deep n v = true) (below_ok deep) (by simp only [obBelow, List.all_eq_true] at hbo; exact hbo)).mono fx (.refl _))
  | ins cc rs => exact .ins cc ((rs.each (P := fun v => below deep n v = true) (below_ok deep) (by simp only [obBelow, List.all_eq_true] at hbo; exact hbo)).mono fx (.refl _))
/-- what the comparison of two values leans on -/
theorem eqH_ok (c : CS D F μ h H) {x y : Vl} {u w : V} (rx : RV D F μ x u) (ry : RV D F μ y w) {b : Bool} (e : eqH x y h = some b) :
    ∃ p q, Dp D.K H u p ∧ Dp D.K H w q ∧ SeqAt.shaped p = true ∧ SeqAt.shaped q = true ∧ PyData.eqv p q = b := by
  unfold eqH at e
  split at e
  · rename_i a d ha hd
    split at e
    · rename_i hdd
      cases e
      simp only [Bool.and_eq_true] at hdd
      have c0 := c.bare 0
      have ra := thaw_ok c deep x a u ha rx
      have rd := thaw_ok c deep y d w hd ry
      rw [List.take_zero] at ra rd
      obtain ⟨p1, p2, p3⟩ := data_ok c0 deep a u ra hdd.1
      obtain ⟨q1, q2, q3⟩ := data_ok c0 deep d w rd hdd.2
      exact ⟨_, _, p1, q1, shaped_of p2 p3 (by decide), shaped_of q2 q3 (by decide), pd_eqv _ _ a d hdd.1 hdd.2⟩
    · cases e
  · cases e
end
end IL
end

section
set_option autoImplicit false
set_option linter.all false
set_option Elab.async false
set_option maxRecDepth 100000
set_option maxHeartbeats 1000000
/-! IL: operators of two values. -/
namespace IL
open PySem L2

def bopP : Bop → Operator
  | .add => .Add | .sub => .Sub | .mul => .Mult | .fdiv => .FloorDiv | .mod => .Mod | .pow => .Pow
def copP : Cop → CmpOp
  | .eq => .Eq | .ne => .NotEq | .lt => .Lt | .le => .LtE | .gt => .Gt | .ge => .GtE | .isin => .In | .notin => .NotIn | .is => .Is | .isnot => .IsNot

/-- two values of ours and what g makes of them -/
def r2 (D : Wd) (W : XK) (g : Vl → Vl → Hh → Rs Vl) : R2 := fun x y H Q => ∃ F μ h v w, CS D F μ h H ∧ RV D F μ v x ∧ RV D F μ w y ∧ PostV D F μ H (g v w h) Q W

theorem strOk_append {x y : Str} (hx : PyData.strOk x = true) (hy : PyData.strOk y = true) : PyData.strOk (x ++ y) = true := by
  have e : (x ++ y).cps = x.cps ++ y.cps := rfl
  unfold PyData.strOk at *
  rw [e, Array.all_append, hx, hy]; rfl
theorem ints_ok {D : Wd} {F : Hp} {μ : List Addr} : ∀ {vs : List Vl} {us : List V} {ns : List Int}, RVs D F μ vs us → intsV vs = some ns → us = ns.map V.int
  | [], _, _, .nil, h => by simp only [intsV, Option.some.injEq] at h; subst h; rfl
  | .int i :: vs, _, _, .cons r t, h => by
    simp only [intsV, Option.map_eq_some_iff] at h
    obtain ⟨ms, e, rfl⟩ := h
    cases r
    rw [ints_ok t e]
    rfl
  | .non :: _, _, _, _, h => by simp [intsV] at h
  | .bl _ :: _, _, _, _, h => by simp [intsV] at h
  | .str _ :: _, _, _, _, h => by simp [intsV] at h
  | .tup _ :: _, _, _, _, h => by simp [intsV] at h
  | .lst _ :: _, _, _, _, h => by simp [intsV] at h
  | .scr _ :: _, _, _, _, h => by simp [intsV] at h
  | .dct _ _ :: _, _, _, _, h => by simp [intsV] at h
  | .ins _ _ :: _, _, _, _, h => by simp [intsV] at h
  | .ref _ :: _, _, _, _, h => by simp [intsV] at h
  | .exn _ :: _, _, _, _, h => by simp [intsV] at h
theorem lexB_eq : ∀ xs ys : List Int, lexB xs ys = HT.lexLt xs ys
  | [], [] => rfl
  | [], _ :: _ => rfl
  | _ :: _, [] => rfl
  | x :: xs, y :: ys => by unfold lexB; rw [HT.lexLt_cons, lexB_eq xs ys]
theorem line_le {n : Nat} (h : n ≤ 100000) : n ≤ sizeLine := Nat.le_trans h (by decide)
theorem RVs.rep {D : Wd} {F : Hp} {μ : List Addr} {vs : List Vl} {us : List V} (r : RVs D F μ vs us) : ∀ k : Nat, RVs D F μ (List.replicate k vs).flatten (List.replicate k us).flatten
  | 0 => .nil
  | k + 1 => by
    rw [List.replicate_succ, List.replicate_succ, List.flatten_cons, List.flatten_cons]
    exact r.append (RVs.rep r k)
section
variable {X : Cx} {D : Wd} {W : XK}
theorem op_bin (hK : X.K = D.K) (o : Bop) : OpR X (binaryOp (bopP o)) (r2 D W (binV o)) := by
  intro pins s σ H x y v u Q I rx ry hh
  obtain ⟨F, μ, h, a, b, c, ra, rb, p⟩ := hh
  unfold binV at p
  split at p
  · cases ra; cases rb
    exact op_add pins s σ H _ _ v u Q I rx ry ⟨_, _, rfl, rfl, post_same c (.int _) p⟩
  · cases ra; cases rb
    exact op_sub pins s σ H _ _ v u Q I rx ry ⟨_, _, rfl, rfl, post_same c (.int _) p⟩
  · cases ra; cases rb
    split at p
    · rename_i hc
      exact op_mul pins s σ H _ _ v u Q I rx ry ⟨_, _, rfl, rfl, hc, post_same c (.int _) p⟩
    · exact p.elim
  · cases ra; cases rb
    split at p
    · rename_i hc
      exact op_fdiv pins s σ H _ _ v u Q I rx ry ⟨_, _, rfl, rfl, hc, post_same c (.int _) p⟩
    · exact p.elim
  · cases ra; cases rb
    split at p
    · rename_i hc
      exact op_mod pins s σ H _ _ v u Q I rx ry ⟨_, _, rfl, rfl, hc, post_same c (.int _) p⟩
    · exact p.elim
  · cases ra; cases rb
    split at p
    · rename_i hc
      exact op_pow pins s σ H _ _ v u Q I rx ry ⟨_, _, rfl, rfl, ⟨hc.1, by omega, hc.2.2⟩, post_same c (.int _) p⟩
    · exact p.elim
  · cases ra with
    | str ka =>
      cases rb with
      | str kb =>
        split at p
        · rename_i hc
          exact op_add_str pins s σ H _ _ v u Q I rx ry ⟨_, _, rfl, rfl, hc, post_same c (.str (strOk_append ka kb)) p⟩
        · exact p.elim
  · cases ra with
    | tup ha ra =>
      cases rb with
      | tup hb rb =>
        split at p
        · rename_i hc
          refine op_catA pins s σ H _ _ v u Q I rx ry ⟨_, _, _, _, rfl, rfl, .of (c.sub.tup ha), .of (c.sub.tup hb), ?_, ?_⟩
          · exact line_le (by rw [← ra.length, ← rb.length]; exact hc)
          · refine ⟨fun e => ?_, fun _ e => ?_, fun _ _ l hl => post_tup c (ra.append rb) p hl⟩
            · subst e
              cases ra
              exact post_same c (.tup hb rb) (by simpa using p)
            · subst e
              cases rb
              exact post_same c (.tup ha ra) (by simpa using p)
        · exact p.elim
  · split at p
    · rename_i xs ys hx hy
      obtain ⟨la, us, rfl, ea, qa⟩ := asList_ok c ra hx
      obtain ⟨lb, ws, rfl, eb, qb⟩ := asList_ok c rb hy
      split at p
      · rename_i hc
        refine op_cat pins s σ H _ _ v u Q I rx ry ⟨_, _, _, _, rfl, rfl, ea, eb, line_le (by rw [← qa.length, ← qb.length]; exact hc), fun l hl => ?_⟩
        exact post_lst c (qa.append qb) p hl
      · exact p.elim
    · exact p.elim
  · cases ra with
    | tup ha ra =>
      cases rb
      split at p
      · rename_i hc
        refine op_repT pins s σ H _ _ v u Q I rx ry ⟨_, _, _, rfl, rfl, .of (c.sub.tup ha), ?_, hc.1, hc.2.1, ?_, fun l hl => ?_⟩
        · intro e
          subst e
          cases ra
          simp at hc
        · rw [← ra.length]
          omega
        · exact post_tup c (ra.rep _) p hl
      · exact p.elim
  · rename_i k hk _
    split at p
    · rename_i xs hx
      obtain ⟨la, us, rfl, ea, qa⟩ := asList_ok c ra hx
      cases rb
      split at p
      · rename_i hc
        refine op_rep pins s σ H _ _ v u Q I rx ry ⟨_, _, _, rfl, rfl, ea, by omega, by omega, ?_, fun l hl => ?_⟩
        · have h1 : us.length ≤ 100 := by rw [← qa.length]; exact hc.2.2
          have h2 : k.toNat ≤ 1000 := by omega
          exact line_le (Nat.le_trans (Nat.mul_le_mul h1 h2) (by decide))
        · exact post_lst c (qa.rep k.toNat) p hl
      · exact p.elim
    · exact p.elim
  · exact p.elim
end
end IL
namespace IL
open PySem L2
theorem RV.non_iff {D : Wd} {F : Hp} {μ : List Addr} {v : Vl} {u : V} (r : RV D F μ v u) : u = V.non ↔ v = .non := by
  cases r <;> simp
section
variable {D : Wd} {F : Hp} {μ : List Addr}
theorem key1_ok : ∀ {v : Vl} {u : V}, RV D F μ v u → isKey1 v = true → ∃ k : Key, u = kV k ∧ v = kVl k := by
  intro v u r h
  cases r with
  | int i => exact ⟨.inl i, rfl, rfl⟩
  | str k => exact ⟨.inr _, rfl, rfl⟩
  | _ => simp [isKey1] at h
theorem keys_ok : ∀ {vs : List Vl} {us : List V}, RVs D F μ vs us → vs.all isKey1 = true → ∃ ks : List Key, us = ks.map kV ∧ vs = ks.map kVl
  | _, _, .nil, _ => ⟨[], rfl, rfl⟩
  | _, _, .cons r t, h => by
    rw [List.all_cons, Bool.and_eq_true] at h
    obtain ⟨k, e1, e2⟩ := key1_ok r h.1
    obtain ⟨ks, e3, e4⟩ := keys_ok t h.2
    exact ⟨k :: ks, by rw [e1, e3]; rfl, by rw [e2, e4]; rfl⟩
theorem eqv_k (k j : Key) : eqv (kVl k) (kVl j) = decide (k = j) := by
  cases k with
  | inl a =>
    cases j with
    | inl b => simp only [kVl, eqv]; by_cases e : a = b <;> simp [e]
    | inr b => simp [kVl, eqv]
  | inr a =>
    cases j with
    | inl b => simp [kVl, eqv]
    | inr b => simp only [kVl, eqv]; by_cases e : a = b <;> simp [e]
theorem eqvs_k : ∀ ks js : List Key, eqvs (ks.map kVl) (js.map kVl) = decide (ks = js)
  | [], [] => by simp [eqvs]
  | [], _ :: _ => by simp [eqvs]
  | _ :: _, [] => by simp [eqvs]
  | k :: ks, j :: js => by
    simp only [List.map_cons, eqvs, eqv_k, eqvs_k ks js]
    by_cases e : k = j <;> by_cases e' : ks = js <;> simp [e, e']
theorem RT.val {es : List (Vl × Vl)} {kvs : List (List Key × V)} (r : RT D F μ es kvs) (ks : List Key) : match dGet es (.tup (ks.map kVl)) with
    | some v => ∃ u, valV kvs ks = some u ∧ RV D F μ v u
    | none => valV kvs ks = none := by
  induction es generalizing kvs with
  | nil => cases r; simp [dGet, valV]
  | cons e es ih =>
    cases r with
    | @cons js v u _ kvs r t =>
      have ih := ih t
      by_cases q : js = ks
      · subst q
        simp only [dGet, List.find?_cons, eqv, eqvs_k, decide_true, Option.map_some]
        exact ⟨u, by rw [valV_pos rfl], r⟩
      · have : dGet ((Vl.tup (js.map kVl), v) :: es) (.tup (ks.map kVl)) = dGet es (.tup (ks.map kVl)) := by
          simp only [dGet, List.find?_cons, eqv, eqvs_k, q, decide_false]
        rw [this, valV_neg (p := (js, u)) q]
        exact ih
theorem RK.val {es : List (Vl × Vl)} {kvs : List (Key × V)} (r : RK D F μ es kvs) (k : Key) : match dGet es (kVl k) with
    | some v => ∃ u, valV kvs k = some u ∧ RV D F μ v u
    | none => valV kvs k = none := by
  induction es generalizing kvs with
  | nil => cases r; simp [dGet, valV]
  | cons e es ih =>
    cases r with
    | @cons j v u _ kvs r t =>
      have ih := ih t
      by_cases q : j = k
      · subst q
        simp only [dGet, List.find?_cons, eqv_k, decide_true, Option.map_some]
        exact ⟨u, by rw [valV_pos rfl], r⟩
      · have : dGet ((kVl j, v) :: es) (kVl k) = dGet es (kVl k) := by
          simp only [dGet, List.find?_cons, eqv_k, q, decide_false]
        rw [this, valV_neg (p := (j, u)) q]
        exact ih
theorem dHas_get (es : List (Vl × Vl)) (k : Vl) : dHas es k = (dGet es k).isSome := by
  unfold dHas dGet
  induction es with
  | nil => rfl
  | cons e es ih => rw [List.any_cons, List.find?_cons]; cases eqv e.1 k <;> simp [ih]
end
section
variable {D : Wd} {F : Hp} {μ : List Addr} {h : Hh} {H : Hp}
/-- a dict of ours at a key: what it holds there -/
theorem dict_get (c : CS D F μ h H) {v k : Vl} {u y : V} (r : RV D F μ v u) (rk : RV D F μ k y) {t : Bool} {es : List (Vl × Vl)} (e : asDct h v = some (t, es)) (hk : isKey t k = true) :
    ∃ a, u = .ref a ∧ match dGet es k with
      | some x => ∃ z, DGet H a y (some z) ∧ RV D F μ x z
      | none => DGet H a y none := by
  have fin : ∀ a, ((∃ kvs, t = true ∧ Rd H a (.dT kvs) ∧ RT D F μ es kvs) ∨ ∃ kvs, t = false ∧ Rd H a (.dK kvs) ∧ RK D F μ es kvs) → match dGet es k with
      | some x => ∃ z, DGet H a y (some z) ∧ RV D F μ x z
      | none => DGet H a y none := fun a q => by
    rcases q with ⟨kvs, rfl, hd, rt⟩ | ⟨kvs, rfl, hd, rt⟩
    · simp only [isKey, if_true] at hk
      cases rk with
      | tup hf rs =>
        obtain ⟨ks, e1, e2⟩ := keys_ok rs hk
        subst e1 e2
        have hb := c.sub.tup hf
        have q := rt.val ks
        cases e3 : dGet es (.tup (ks.map kVl)) with
        | none =>
          rw [e3] at q
          exact .inr ⟨kvs, ks, _, hd, rfl, hb, q.symm⟩
        | some x =>
          rw [e3] at q
          obtain ⟨z, e4, e5⟩ := q
          exact ⟨z, .inr ⟨kvs, ks, _, hd, rfl, hb, e4.symm⟩, e5⟩
      | _ => simp at hk
    · simp only [isKey, Bool.false_eq_true, if_false] at hk
      obtain ⟨j, rfl, rfl⟩ := key1_ok rk hk
      have q := rt.val j
      cases e3 : dGet es (kVl j) with
      | none => rw [e3] at q; exact .inl ⟨kvs, j, hd, rfl, q.symm⟩
      | some x =>
        rw [e3] at q
        obtain ⟨z, e4, e5⟩ := q
        exact ⟨z, .inl ⟨kvs, j, hd, rfl, e4.symm⟩, e5⟩
  have rd : ∀ {a : Addr} {o : HO}, F a = some o → ((∃ kvs, o = .dT kvs) ∨ ∃ kvs, o = .dK kvs) → Rd H a o := fun {a o} e _ => by
    rcases c.sub _ _ e with q | ⟨ob, q, _⟩
    · exact .inl q
    · exact .inr ⟨ob, q⟩
  cases r with
  | dT hf rt =>
    simp only [asDct, Option.some.injEq, Prod.mk.injEq] at e
    obtain ⟨rfl, rfl⟩ := e
    exact ⟨_, rfl, fin _ (.inl ⟨_, rfl, rd hf (.inl ⟨_, rfl⟩), rt⟩)⟩
  | dK hf rt =>
    simp only [asDct, Option.some.injEq, Prod.mk.injEq] at e
    obtain ⟨rfl, rfl⟩ := e
    exact ⟨_, rfl, fin _ (.inr ⟨_, rfl, rd hf (.inr ⟨_, rfl⟩), rt⟩)⟩
  | @ref l a hm =>
    simp only [asDct] at e
    split at e
    · rename_i lk t' es' hx
      cases e
      obtain ⟨b, o, e1, e2, e3, e4⟩ := c.ob l _ hx
      rw [hm] at e1
      cases e1
      refine ⟨_, rfl, fin _ ?_⟩
      cases e4 with
      | dT rt => exact .inl ⟨_, rfl, .inl e3, rt⟩
      | dK rt => exact .inr ⟨_, rfl, .inl e3, rt⟩
      | lT rt => exact .inl ⟨_, rfl, .inr ⟨_, e3⟩, rt⟩
      | lK rt => exact .inr ⟨_, rfl, .inr ⟨_, e3⟩, rt⟩
    · cases e
  | _ => simp [asDct] at e
end
end IL
end

section
set_option autoImplicit false
set_option linter.all false
set_option Elab.async false
set_option maxRecDepth 100000
set_option maxHeartbeats 1000000
/-! IL: <= and > of tuples of ints. -/
namespace IL
open PySem L2 PyProof.Rows
theorem drop_getD {l : List Int} {i : Nat} (h : i < l.length) : l.drop i = l.getD i 0 :: l.drop (i + 1) := by
  rw [List.drop_eq_getElem_cons h, List.getD_eq_getElem?_getD, List.getElem?_eq_getElem h]
  rfl
theorem lexAt_le (ns ms : List Int) : ∀ (k i : Nat), i + k = min ns.length ms.length →
    Ob.lexAt (fun j => decide (ns.getD j 0 = ms.getD j 0)) (fun j => decide (ns.getD j 0 ≤ ms.getD j 0)) (decide (ns.length ≤ ms.length)) i k = !lexB (ms.drop i) (ns.drop i)
  | 0, i, h => by
    rw [Ob.lexAt_zero]
    by_cases c : ns.length ≤ ms.length
    · rw [List.drop_of_length_le (l := ns) (by omega)]
      simp only [c, decide_true]
      cases ms.drop i <;> rfl
    · rw [List.drop_of_length_le (l := ms) (by omega), drop_getD (l := ns) (by omega)]
      simp [c, lexB]
  | k + 1, i, h => by
    rw [Ob.lexAt_succ, lexAt_le ns ms k (i + 1) (by omega), drop_getD (l := ns) (i := i) (by omega), drop_getD (l := ms) (i := i) (by omega)]
    simp only [lexB]
    by_cases c : ns.getD i 0 = ms.getD i 0
    · rw [if_pos (decide_eq_true c), if_pos c.symm]
    · rw [if_neg (by simpa using c), if_neg fun e => c e.symm]
      by_cases q : ns.getD i 0 ≤ ms.getD i 0
      · have : ¬ ms.getD i 0 < ns.getD i 0 := by omega
        simp only [q, this, decide_true, decide_false, Bool.not_false]
      · have : ms.getD i 0 < ns.getD i 0 := by omega
        simp only [q, this, decide_true, decide_false, Bool.not_true]
theorem lexAt_gt (ns ms : List Int) : ∀ (k i : Nat), i + k = min ns.length ms.length →
    Ob.lexAt (fun j => decide (ns.getD j 0 = ms.getD j 0)) (fun j => decide (ms.getD j 0 < ns.getD j 0)) (decide (ns.length > ms.length)) i k = lexB (ms.drop i) (ns.drop i)
  | 0, i, h => by
    rw [Ob.lexAt_zero]
    by_cases c : ns.length ≤ ms.length
    · rw [List.drop_of_length_le (l := ns) (by omega)]
      have : ¬ ns.length > ms.length := by omega
      simp only [this, decide_false]
      cases ms.drop i <;> rfl
    · rw [List.drop_of_length_le (l := ms) (by omega), drop_getD (l := ns) (by omega)]
      have : ns.length > ms.length := by omega
      simp only [this, decide_true, lexB]
  | k + 1, i, h => by
    rw [Ob.lexAt_succ, lexAt_gt ns ms k (i + 1) (by omega), drop_getD (l := ns) (i := i) (by omega), drop_getD (l := ms) (i := i) (by omega)]
    simp only [lexB]
    by_cases c : ns.getD i 0 = ms.getD i 0
    · rw [if_pos (decide_eq_true c), if_pos c.symm]
    · rw [if_neg (by simpa using c), if_neg fun e => c e.symm]
def rGtT (K : PySem.W.Frag) : R2 := fun x y H Q => ∃ (a b : Addr) (ns ms : List Int), x = .ref a ∧ y = .ref b ∧ SqT K H a (ns.map V.int) ∧ SqT K H b (ms.map V.int) ∧ Q (.bl (lexB ms ns)) H
theorem op_gtT {X : Cx} (hu : X.A.units < cLine) : OpR X (compareOp .Gt) (rGtT X.K) := by
  intro pins s σ H x y v u Q I rx ry h
  obtain ⟨a, b, ns, ms, rfl, rfl, ha, hb, q⟩ := h
  cases rx
  cases ry
  obtain ⟨its, r1, p1, _⟩ := I.tuple ha
  obtain ⟨its2, r2, p2, _⟩ := I.tuple hb
  have i1 : IntsAre its ns := Vals.ints r1
  have i2 : IntsAre its2 ms := Vals.ints r2
  have e1 : its.toArray.size = ns.length := by rw [List.size_toArray]; exact i1.length
  have e2 : its2.toArray.size = ms.length := by rw [List.size_toArray]; exact i2.length
  have at1 : ∀ j (h1 : j < its.toArray.size), ∃ t, its.toArray[j] = .int (ns.getD j 0) t := fun j h1 => PyProof.Rows.IntsAre.int_at i1 _ _ (by simp at h1; simp [h1])
  have at2 : ∀ j (h1 : j < its2.toArray.size), ∃ t, its2.toArray[j] = .int (ms.getD j 0) t := fun j h1 => PyProof.Rows.IntsAre.int_at i2 _ _ (by simp at h1; simp [h1])
  have R := Ob.RcOp.tuples_gt (A := X.A) (s := s) (e := fun j => decide (ns.getD j 0 = ms.getD j 0)) (r := fun j => decide (ms.getD j 0 < ns.getD j 0)) p1 p2 hu (fun j h1 h2 => by
    obtain ⟨t, et⟩ := at1 j h1
    obtain ⟨t', et'⟩ := at2 j h2
    rw [et, et', ← Bool.beq_eq_decide_eq]
    exact SeqAt.EqAt.int_int _ _ _ _) (fun j h1 h2 _ => by
    obtain ⟨t, et⟩ := at1 j h1
    obtain ⟨t', et'⟩ := at2 j h2
    rw [et, et']
    exact Ob.RcOp.gt_int _ _ _ _)
  rw [e1, e2, lexAt_gt ns ms _ 0 (by omega), List.drop_zero, List.drop_zero] at R
  have z : wpAny (model X.prog X.w) X.A (compareOp .Gt (.ref a) (.ref b)) (EP X pins σ Q) X.xe s := R X.prog X.w X.xe (EP X pins σ Q) ⟨.bl _, H, I, rfl, q⟩
  exact z
end IL
end

section
set_option autoImplicit false
set_option linter.all false
set_option Elab.async false
set_option maxRecDepth 100000
set_option maxHeartbeats 1000000
/-! IL: comparisons. -/
namespace IL
open PySem L2
theorem post_of {α β : Type} {D : Wd} {R : Hp → List Addr → α → β → Prop} {F : Hp} {μ : List Addr} {H : Hp} {o : Option α} {h : Hh} {Q : β → Hp → Prop} {W : XK} (p : Post D R F μ H (Rs.of o h) Q W) : ∃ v, o = some v ∧ Post D R F μ H (.ok v h) Q W := by
  cases o with
  | none => exact p.elim
  | some v => exact ⟨v, rfl, p⟩
section
variable {D : Wd} {F : Hp} {μ : List Addr} {h : Hh} {H : Hp}
theorem thaw_data (c : CS D F μ h H) {v a : Vl} {u : V} (r : RV D F μ v u) (e : thaw deep 0 h v = some a) (hd : isData deep a = true) : Dp D.K H u (toPd a) ∧ SeqAt.shaped (toPd a) = true := by
  have c0 := c.bare 0
  have ra := thaw_ok c deep v a u e r
  rw [List.take_zero] at ra
  obtain ⟨p1, p2, p3⟩ := data_ok c0 deep a u ra hd
  exact ⟨p1, shaped_of p2 p3 (by decide)⟩
theorem any_pd {d : Nat} {a : Vl} (ha : isData deep a = true) : ∀ {bs : List Vl}, (∀ b ∈ bs, isData d b = true) → ((toPds bs).any fun z => PyData.eqv z (toPd a)) = bs.any fun z => eqv z a
  | [], _ => rfl
  | b :: bs, h => by
    simp only [toPds, List.any_cons]
    rw [pd_eqv d deep b a (h b (by simp)) ha, any_pd ha fun x hx => h x (by simp [hx])]
end
section
variable {X : Cx} {D : Wd} {W : XK}
theorem fin_b {pins : List (Addr × Obj)} {σ : L2.St} {F : Hp} {μ : List Addr} {H : Hp} {h : Hh} {s : Shared} {Q : VK} {k k' : Bool} (c : CS D F μ h H) (I : L2.Inv X pins σ H s) (p : PostV D F μ H (.ok (.bl k) h) Q W) (e : k' = k) : EP X pins σ Q (.bool k') s := by
  subst e
  exact ⟨.bl k', H, I, rfl, post_same c (.bl _) p⟩
/-- in and not in -/
theorem op_in (hK : X.K = D.K) (hu : X.A.units + 65 < cLine) {pins : List (Addr × Obj)} {s : Shared} {σ : L2.St} {H : Hp} {x y : V} {v u : Value} (I : L2.Inv X pins σ H s) (rx : RelV x v) (ry : RelV y u) {F : Hp} {μ : List Addr} {h : Hh} {a b : Vl}
    (c : CS D F μ h H) (ra : RV D F μ a x) (rb : RV D F μ b y) {k : Bool} (e : inH a b h = some k) :
    (∀ Q, Q (.bl k) H → wpAny (model X.prog X.w) X.A (compareOp .In v u) (EP X pins σ Q) X.xe s) ∧ (∀ Q, Q (.bl (!k)) H → wpAny (model X.prog X.w) X.A (compareOp .NotIn v u) (EP X pins σ Q) X.xe s) := by
  have list : ∀ {bl : Vl}, RV D F μ bl y → inL a bl h = some k → (∀ Q, Q (.bl k) H → wpAny (model X.prog X.w) X.A (compareOp .In v u) (EP X pins σ Q) X.xe s) ∧ (∀ Q, Q (.bl (!k)) H → wpAny (model X.prog X.w) X.A (compareOp .NotIn v u) (EP X pins σ Q) X.xe s) := fun {bl} rb e => by
    unfold inL at e
    split at e
    · rename_i a' bs ha hb
      split at e
      · rename_i hd
        simp only [Bool.and_eq_true] at hd
        cases e
        obtain ⟨p1, p2⟩ := thaw_data c ra ha hd.1
        obtain ⟨q1, q2⟩ := thaw_data c rb hb hd.2
        obtain ⟨d, _, hbs⟩ := isData_lst hd.2
        have e1 := any_pd hd.1 hbs
        refine ⟨fun Q q => op_inD hu pins s σ H x y v u Q I rx ry ⟨_, toPds bs, hK ▸ p1, by rw [hK]; exact q1, p2, q2, ?_⟩, fun Q q => op_notInD hu pins s σ H x y v u Q I rx ry ⟨_, toPds bs, hK ▸ p1, by rw [hK]; exact q1, p2, q2, ?_⟩⟩
        · rw [e1]; exact q
        · rw [e1]; exact q
      · cases e
    · cases e
  have dict : ∀ {t : Bool} {es : List (Vl × Vl)}, asDct h b = some (t, es) → (if isKey t a then some (dHas es a) else none) = some k → (∀ Q, Q (.bl k) H → wpAny (model X.prog X.w) X.A (compareOp .In v u) (EP X pins σ Q) X.xe s) ∧ (∀ Q, Q (.bl (!k)) H → wpAny (model X.prog X.w) X.A (compareOp .NotIn v u) (EP X pins σ Q) X.xe s) := fun {t es} ed e => by
    split at e
    · rename_i hk
      cases e
      obtain ⟨l, rfl, g⟩ := dict_get c rb ra ed hk
      obtain rfl : u = Value.ref l := ry
      rw [dHas_get]
      cases eg : dGet es a with
      | none =>
        rw [eg] at g
        exact ⟨fun Q q => d_in (by omega) I g rx fun s' I' => ⟨.bl _, H, I', rfl, q⟩, fun Q q => d_notIn (by omega) I g rx fun s' I' => ⟨.bl _, H, I', rfl, q⟩⟩
      | some z =>
        rw [eg] at g
        obtain ⟨w, g, _⟩ := g
        exact ⟨fun Q q => d_in (by omega) I g rx fun s' I' => ⟨.bl _, H, I', rfl, q⟩, fun Q q => d_notIn (by omega) I g rx fun s' I' => ⟨.bl _, H, I', rfl, q⟩⟩
    · cases e
  unfold inH at e
  split at e
  · exact dict rfl e
  · rename_i l
    split at e
    · rename_i lk t es hx
      exact dict (by simp [asDct, hx]) e
    · exact list rb e
    · cases e
  · exact list rb e
  · rename_i vs
    split at e
    · rename_i hd
      simp only [Bool.and_eq_true] at hd
      cases e
      obtain ⟨p1, p2, p3⟩ := data_ok c deep a x ra hd.1
      obtain ⟨q1, q2, q3⟩ := data_ok c deep (.tup vs) y rb hd.2
      obtain ⟨d, _, hbs⟩ := isData_tup hd.2
      have e1 := any_pd hd.1 hbs
      have q1 : Dp X.K H y (.tuple (toPds vs)) := by rw [hK]; exact q1
      have p1 : Dp X.K H x (toPd a) := by rw [hK]; exact p1
      obtain ⟨as, r1⟩ := Dp.reads I _ x v p1 rx
      obtain ⟨bs, r2⟩ := Dp.reads I _ y u q1 ry
      have room := PyProof.Rows.room_in_shaped (xs := toPds vs) (shaped_of p2 p3 (by decide)) hu
      refine ⟨fun Q q => SeqAt.in_tuple_reads r2 r1 q2 p2 room ⟨.bl _, H, I, rfl, ?_⟩, fun Q q => SeqAt.notIn_tuple_reads r2 r1 q2 p2 room ⟨.bl _, H, I, rfl, ?_⟩⟩
      · rw [e1]; exact q
      · rw [e1]; exact q
    · cases e
  · cases e
theorem op_cmp (hK : X.K = D.K) (hu : X.A.units + 65 < cLine) (o : Cop) : OpR X (compareOp (copP o)) (r2 D W (cmpV o)) := by
  intro pins s σ H x y v u Q I rx ry hh
  obtain ⟨F, μ, h, a, b, c, ra, rb, p⟩ := hh
  unfold cmpV at p
  split at p
  · obtain ⟨_, e, p⟩ := post_of p
    simp only [Option.map_eq_some_iff] at e
    obtain ⟨k, e, rfl⟩ := e
    obtain ⟨d, d', h1, h2, h3, h4, h5⟩ := eqH_ok c ra rb e
    exact op_eqD (by omega) pins s σ H x y v u Q I rx ry ⟨d, d', hK ▸ h1, hK ▸ h2, h3, h4, by rw [h5]; exact post_same c (.bl _) p⟩
  · obtain ⟨_, e, p⟩ := post_of p
    simp only [Option.map_eq_some_iff] at e
    obtain ⟨k, e, rfl⟩ := e
    obtain ⟨d, d', h1, h2, h3, h4, h5⟩ := eqH_ok c ra rb e
    exact op_neD (by omega) pins s σ H x y v u Q I rx ry ⟨d, d', hK ▸ h1, hK ▸ h2, h3, h4, by rw [h5]; exact post_same c (.bl _) p⟩
  · obtain ⟨_, e, p⟩ := post_of p
    simp only [Option.map_eq_some_iff] at e
    obtain ⟨k, e, rfl⟩ := e
    have q := post_same c (.bl k) p
    unfold isV at e
    split at e
    case h_2 =>
      cases ra; cases rb; cases e
      exact op_isBl pins s σ H _ _ v u Q I rx ry ⟨_, _, rfl, rfl, by rw [← Bool.beq_eq_decide_eq]; exact q⟩
    all_goals first
      | (cases e; done)
      | (cases rb
         refine op_isN pins s σ H x _ v u Q I rx ry ⟨rfl, ?_⟩
         cases e
         simpa [ra.non_iff] using q)
  · obtain ⟨_, e, p⟩ := post_of p
    simp only [Option.map_eq_some_iff] at e
    obtain ⟨k, e, rfl⟩ := e
    have q := post_same c (.bl (!k)) p
    unfold isV at e
    split at e
    case h_2 =>
      cases ra; cases rb; cases e
      exact op_notBl pins s σ H _ _ v u Q I rx ry ⟨_, _, rfl, rfl, by rw [← Bool.beq_eq_decide_eq]; exact q⟩
    all_goals first
      | (cases e; done)
      | (cases rb
         refine op_notN pins s σ H x _ v u Q I rx ry ⟨rfl, ?_⟩
         cases e
         simpa [ra.non_iff] using q)
  · obtain ⟨_, e, p⟩ := post_of p
    simp only [Option.map_eq_some_iff] at e
    obtain ⟨k, e, rfl⟩ := e
    exact (op_in hK hu I rx ry c ra rb e).1 Q (post_same c (.bl _) p)
  · obtain ⟨_, e, p⟩ := post_of p
    simp only [Option.map_eq_some_iff] at e
    obtain ⟨k, e, rfl⟩ := e
    exact (op_in hK hu I rx ry c ra rb e).2 Q (post_same c (.bl _) p)
  · split at p
    · cases ra; cases rb
      exact op_lt pins s σ H _ _ v u Q I rx ry ⟨_, _, rfl, rfl, post_same c (.bl _) p⟩
    · obtain ⟨_, e, p⟩ := post_of p
      simp only [Option.map_eq_some_iff] at e
      obtain ⟨k, e, rfl⟩ := e
      unfold ltT at e
      split at e
      · rename_i ns ms h1 h2
        cases e
        cases ra with
        | tup ha ra =>
          cases rb with
          | tup hb rb =>
            have e1 := ints_ok ra h1
            have e2 := ints_ok rb h2
            subst e1 e2
            exact op_ltT (by omega) pins s σ H _ _ v u Q I rx ry ⟨_, _, ns, ms, rfl, rfl, .of (c.sub.tup ha), .of (c.sub.tup hb), by rw [← lexB_eq]; exact post_same c (.bl _) p⟩
      · cases e
    · exact p.elim
  · split at p
    · cases ra; cases rb
      exact op_le pins s σ H _ _ v u Q I rx ry ⟨_, _, rfl, rfl, post_same c (.bl _) p⟩
    · obtain ⟨_, e, p⟩ := post_of p
      simp only [Option.map_eq_some_iff] at e
      obtain ⟨k, e, rfl⟩ := e
      unfold ltT at e
      split at e
      · rename_i ms ns h1 h2
        cases e
        cases ra with
        | tup ha ra =>
          cases rb with
          | tup hb rb =>
            have e1 := ints_ok ra h2
            have e2 := ints_ok rb h1
            subst e1 e2
            refine op_leT (by omega) pins s σ H _ _ v u Q I rx ry ⟨_, _, ns, ms, rfl, rfl, .of (c.sub.tup ha), .of (c.sub.tup hb), ?_⟩
            rw [lexAt_le ns ms _ 0 (by omega), List.drop_zero, List.drop_zero]
            exact post_same c (.bl _) p
      · cases e
    · exact p.elim
  · split at p
    · cases ra; cases rb
      exact op_gt pins s σ H _ _ v u Q I rx ry ⟨_, _, rfl, rfl, post_same c (.bl _) p⟩
    · obtain ⟨_, e, p⟩ := post_of p
      simp only [Option.map_eq_some_iff] at e
      obtain ⟨k, e, rfl⟩ := e
      unfold ltT at e
      split at e
      · rename_i ms ns h1 h2
        cases e
        cases ra with
        | tup ha ra =>
          cases rb with
          | tup hb rb =>
            have e1 := ints_ok ra h2
            have e2 := ints_ok rb h1
            subst e1 e2
            exact op_gtT (by omega) pins s σ H _ _ v u Q I rx ry ⟨_, _, ns, ms, rfl, rfl, .of (c.sub.tup ha), .of (c.sub.tup hb), post_same c (.bl _) p⟩
      · cases e
    · exact p.elim
  · split at p
    · cases ra; cases rb
      obtain ⟨_, e, p⟩ := post_of p
      simp only [Option.map_eq_some_iff] at e
      obtain ⟨k, e, rfl⟩ := e
      have q := post_same c (.bl k) p
      cases o <;> simp [cmpI] at e <;> subst e
      · exact op_lt pins s σ H _ _ v u Q I rx ry ⟨_, _, rfl, rfl, q⟩
      · exact op_le pins s σ H _ _ v u Q I rx ry ⟨_, _, rfl, rfl, q⟩
      · exact op_gt pins s σ H _ _ v u Q I rx ry ⟨_, _, rfl, rfl, q⟩
      · exact op_ge pins s σ H _ _ v u Q I rx ry ⟨_, _, rfl, rfl, q⟩
    · exact p.elim
end
end IL
end

section
set_option autoImplicit false
set_option linter.all false
set_option Elab.async false
set_option maxRecDepth 100000
set_option maxHeartbeats 1000000
/-! IL: subscripts, slices, fields. -/
namespace IL
open PySem L2 PyProof.Rows
theorem ixOf_at {α : Type} (xs : List α) (i : Int) : atI xs i = (ixOf xs.length i).bind fun j => xs[j]? := by
  unfold atI ixN ixOf
  rfl
section
variable {X : Cx}
def rIxD : R2 := fun x y H Q => ∃ a z, x = .ref a ∧ DGet H a y (some z) ∧ Q z H
theorem ix_dict (hu : X.A.units + 1 < cLine) : IxR X rIxD := by
  intro value slice pins s σ H x y v u Q I rx ry h hs
  obtain ⟨a, z, rfl, g, q⟩ := h
  obtain rfl : v = Value.ref a := rx
  have hT := dict_typeIs I g
  unfold subscriptTail
  refine wpAny_bind ?_
  rw [getitemInPython_of_ne hT.not_modules]
  refine wpAny_bind (wpAny_specialOf hT PySem.F.slot_dict_getitem.lookup ?_)
  have fin : wpAny (model X.prog X.w) X.A (subscripted slice false (.ref a) u) (fun r s₃ => wpAny (model X.prog X.w) X.A (letTemporaryGo value (.ref a) r >>= fun _ => pure r) (EP X pins σ Q) X.xe s₃) X.xe s := by
    rw [hs]
    exact wpAny_operating (wpAny_mono (d_getItem (Q := EP X pins σ Q) hu I g ry fun w' s3 I3 rw' => ⟨z, H, I3, rw', q⟩) (fun r s₃ h₃ => wpAny_bind (wpAny_letTemporaryGo (wpAny_pure h₃))) fun _ _ x => x)
  first
    | exact wpAny_pure (wpAny_bind fin)
    | exact wpAny_bind (wpAny_pure (wpAny_bind fin))
    | exact wpAny_bind fin
end
theorem strOk_one {z : Str} {j c : Nat} (hz : PyData.strOk z = true) (h : z.cps.toList[j]? = some c) : PyData.strOk ⟨#[c]⟩ = true := by
  unfold PyData.strOk at *
  have hm : c ∈ z.cps := by
    have := List.mem_of_getElem? h
    simpa using this
  have := (Array.all_eq_true_iff_forall_mem.mp hz) c hm
  simpa using this
theorem sIx_eq (n d : Nat) (o : Option Int) : sIx n d o = HT.sIx n d o := by
  cases o with
  | none => rfl
  | some v =>
    show (if v < 0 then max (v + (n : Int)) 0 else min v (n : Int)).toNat = (if v < 0 then (v + (n : Int)).toNat else min v.toNat n)
    by_cases h : v < 0
    · rw [if_pos h, if_pos h]; omega
    · rw [if_neg h, if_neg h]; omega
theorem strOk_sub {z : Str} {l : List Nat} (hz : PyData.strOk z = true) (h : ∀ c ∈ l, c ∈ z.cps.toList) : PyData.strOk ⟨l.toArray⟩ = true := by
  unfold PyData.strOk at *
  rw [List.all_toArray, List.all_eq_true]
  intro c hc
  have hm := h c hc
  exact (Array.all_eq_true_iff_forall_mem.mp hz) c (by simpa using hm)
section
variable {X : Cx} {D : Wd} {W : XK}
theorem ix_any (hK : X.K = D.K) (hu : X.A.units + 1 < cLine) : IxR X (r2 D W idxV) := by
  intro value slice pins s σ H x y v u Q I rx ry hh hs
  obtain ⟨F, μ, h, a, b, c, ra, rb, p⟩ := hh
  have dict : ∀ {t : Bool} {es : List (Vl × Vl)} {k : Vl}, RV D F μ k y → asDct h a = some (t, es) → isKey t k = true → PostV D F μ H (Rs.of (dGet es k) h) Q W → wpAny (model X.prog X.w) X.A (subscriptTail value slice v u) (EP X pins σ Q) X.xe s := fun {t es k} rk ed hk p => by
    obtain ⟨z, e, p⟩ := post_of p
    obtain ⟨l, rfl, g⟩ := dict_get c ra rk ed hk
    rw [e] at g
    obtain ⟨w, g, rw'⟩ := g
    exact ix_dict hu value slice pins s σ H _ y v u Q I rx ry ⟨l, w, rfl, g, post_same c rw' p⟩ hs
  unfold idxV at p
  split at p
  · rename_i k
    split at p
    · rename_i vs hv
      obtain ⟨z, e, p⟩ := post_of p
      obtain ⟨l, us, rfl, sq, rs⟩ := asSeq_ok c ra hv
      cases rb
      rw [rs.length] at e
      obtain ⟨j, e1, e2⟩ := Option.bind_eq_some_iff.mp e
      obtain ⟨w, e3, rw'⟩ := rs.get e2
      have at' : atI us k = some w := by rw [ixOf_at, e1]; exact e3
      rcases sq with sq | sq
      · exact ix_list value slice pins s σ H _ _ v u Q I rx ry ⟨l, us, k, w, rfl, rfl, hK ▸ sq, at', post_same c rw' p⟩ hs
      · exact ix_tup value slice pins s σ H _ _ v u Q I rx ry ⟨l, us, k, w, rfl, rfl, hK ▸ sq, at', post_same c rw' p⟩ hs
    · split at p
      · rename_i z _
        cases ra with
        | str kz =>
          cases rb
          split at p
          · rename_i hz
            split at p
            · rename_i c' e
              obtain ⟨j, e1, e2⟩ := Option.bind_eq_some_iff.mp e
              exact ix_str value slice pins s σ H _ _ v u Q I rx ry ⟨z, k, c', rfl, rfl, Nat.le_trans (by simpa [Str.length] using hz) (by decide), by rw [ixOf_at]; exact e, post_same c (.str (strOk_one kz e2)) p⟩ hs
            · exact p.elim
          · exact p.elim
      · split at p
        · rename_i es ed
          exact dict rb ed rfl p
        · exact p.elim
  · split at p
    · rename_i t es ed
      split at p
      · rename_i hk
        exact dict rb ed hk p
      · exact p.elim
    · exact p.elim

/-- a[lo:hi] -/
def rSl (D : Wd) (W : XK) (m : Bool) : V → Option Int → Option Int → Hp → VK → Prop := fun x lo hi H Q => ∃ F μ h v l u, CS D F μ h H ∧ RV D F μ v x ∧ bound l = some lo ∧ bound u = some hi ∧ PostV D F μ H (place m (slcV v l u .non h)) Q W
theorem RVs.cutV {F : Hp} {μ : List Addr} {vs : List Vl} {us : List V} (r : RVs D F μ vs us) (lo hi : Option Int) : RVs D F μ (IL.cut vs lo hi) (L2.cutV us lo hi) := by
  unfold IL.cut L2.cutV
  rw [sIx_eq, sIx_eq, r.length]
  exact (r.drop _).take _
theorem sl_any (hK : X.K = D.K) (m : Bool) : SlR X (rSl D W m) := by
  intro pins s σ H x v vl vu lo hi sl Q I rx hs pl pu hh
  obtain ⟨F, μ, h, a, l, u, c, ra, el, eu, p⟩ := hh
  have place_no : ∀ {r : Rs Vl}, (∀ vs h', r ≠ .ok (.lst vs) h') → (∀ t es h', r ≠ .ok (.dct t es) h') → PostV D F μ H (place m r) Q W → PostV D F μ H r Q W := fun {r} n1 n2 p => by
    cases m with
    | false => exact p
    | true =>
      cases r with
      | bad => exact p.elim
      | exc C h' => exact p
      | ok w h' =>
        cases w with
        | lst vs => exact absurd rfl (n1 _ _)
        | dct t es => exact absurd rfl (n2 _ _ _)
        | _ => exact p.elim
  unfold slcV at p
  rw [el, eu] at p
  dsimp only at p
  split at p
  · rename_i vs
    have p := place_no (by simp) (by simp) p
    cases ra with
    | tup hf rs =>
      refine sl_tupA pins s σ H _ v vl vu lo hi sl Q I rx hs pl pu ⟨_, _, rfl, .of (c.sub.tup hf), fun e => ?_, fun _ q hq => post_tup c (rs.cutV lo hi) p hq⟩
      have e1 : IL.cut vs lo hi = vs := by
        unfold IL.cut
        rw [sIx_eq, sIx_eq, rs.length, e.1, e.2]
        rw [← rs.length]; simp
      rw [e1] at p
      exact post_same c (.tup hf rs) p
  · rename_i z
    cases ra with
    | str kz =>
      split at p
      · rename_i hz
        have p := place_no (by simp) (by simp) p
        have e1 : cutS z lo hi = ⟨(IL.cut z.cps.toList lo hi).toArray⟩ := by
          unfold cutS IL.cut
          rw [sIx_eq, sIx_eq]
          simp [Str.length]
        refine sl_str pins s σ H _ v vl vu lo hi sl Q I rx hs pl pu ⟨z, rfl, Nat.le_trans (by simpa [Str.length] using hz) (by decide), ?_⟩
        rw [e1]
        refine post_same c (.str (strOk_sub kz fun k hk => ?_)) p
        unfold IL.cut at hk
        exact List.mem_of_mem_drop (List.mem_of_mem_take hk)
      · have p := place_no (by simp) (by simp) p
        exact p.elim
  · split at p
    · rename_i vs hv
      obtain ⟨l', us, rfl, ea, rs⟩ := asList_ok c ra hv
      exact sl_list pins s σ H _ v vl vu lo hi sl Q I rx hs pl pu ⟨l', us, rfl, .of ea, fun q hq => place_lst m c (rs.cutV lo hi) p hq⟩
    · have p := place_no (by simp) (by simp) p
      exact p.elim
end
end IL
end

section
set_option autoImplicit false
set_option linter.all false
set_option Elab.async false
set_option maxRecDepth 100000
set_option maxHeartbeats 1000000
/-! IL: slices with a step. -/
namespace IL
open PySem L2 PyProof.Rows
theorem evens_eq {α : Type} : ∀ xs : List α, (List.range ((xs.length + 1) / 2)).filterMap (fun k => xs[2 * k]?) = evens xs
  | [] => by simp [evens]
  | [x] => by simp [evens, List.range_succ]
  | x :: y :: r => by
    have e : ((x :: y :: r).length + 1) / 2 = (r.length + 1) / 2 + 1 := by simp only [List.length_cons]; omega
    rw [e, List.range_succ_eq_map, List.filterMap_cons, List.filterMap_map]
    simp only [Nat.mul_zero, List.getElem?_cons_zero, evens]
    rw [← evens_eq r]
    congr 1
theorem thirds_eq {α : Type} : ∀ xs : List α, (List.range ((xs.length + 2) / 3)).filterMap (fun k => xs[3 * k]?) = thirds xs
  | [] => by simp [thirds]
  | [x] => by simp [thirds, List.range_succ]
  | [x, y] => by simp [thirds, List.range_succ]
  | x :: y :: z :: r => by
    have e : ((x :: y :: z :: r).length + 2) / 3 = (r.length + 2) / 3 + 1 := by simp only [List.length_cons]; omega
    rw [e, List.range_succ_eq_map, List.filterMap_cons, List.filterMap_map]
    simp only [Nat.mul_zero, List.getElem?_cons_zero, thirds]
    rw [← thirds_eq r]
    congr 1
theorem pick_one (items : Array Value) : slicePick items none none (some 1) = items.toList.toArray := by
  have h := slicePick_cut items.toList none none
  have e : slicePick items none none (some 1) = slicePick items.toList.toArray none none none := by rw [Array.toArray_toList]; rfl
  rw [e, h]
  simp only [HT.sIx, List.drop_zero, Nat.sub_zero]
  rw [List.take_of_length_le (Nat.le_refl _)]
theorem pick_two (items : Array Value) : slicePick items none none (some 2) = (evens items.toList).toArray := by
  unfold slicePick
  have e1 : sliceBounds none none (some 2) items.size = (0, (items.size : Int), 2) := by simp [sliceBounds]
  rw [e1]
  dsimp only
  have e2 : sliceRange 0 (items.size : Int) 2 = (List.range ((items.toList.length + 1) / 2)).map fun k => 2 * k := by
    unfold sliceRange
    have e3 : (if (2 : Int) > 0 then (if (0 : Int) < (items.size : Int) then ((items.size : Int) - 0 + 2 - 1) / 2 else 0) else (if (0 : Int) > (items.size : Int) then (0 - (items.size : Int) - 2 - 1) / (-2) else 0)) = (((items.toList.length + 1) / 2 : Nat) : Int) := by
      rw [if_pos (by decide), Array.length_toList]
      split <;> omega
    rw [e3]
    simp only [Int.toNat_natCast]
    apply List.map_congr_left
    intro k _
    omega
  rw [e2, List.filterMap_map, ← evens_eq]
  simp only [Function.comp_def, Array.getElem?_toList]
theorem pick_three (items : Array Value) : slicePick items none none (some 3) = (thirds items.toList).toArray := by
  unfold slicePick
  have e1 : sliceBounds none none (some 3) items.size = (0, (items.size : Int), 3) := by simp [sliceBounds]
  rw [e1]
  dsimp only
  have e2 : sliceRange 0 (items.size : Int) 3 = (List.range ((items.toList.length + 2) / 3)).map fun k => 3 * k := by
    unfold sliceRange
    have e3 : (if (3 : Int) > 0 then (if (0 : Int) < (items.size : Int) then ((items.size : Int) - 0 + 3 - 1) / 3 else 0) else (if (0 : Int) > (items.size : Int) then (0 - (items.size : Int) - 3 - 1) / (-3) else 0)) = (((items.toList.length + 2) / 3 : Nat) : Int) := by
      rw [if_pos (by decide), Array.length_toList]
      split <;> omega
    rw [e3]
    simp only [Int.toNat_natCast]
    apply List.map_congr_left
    intro k _
    omega
  rw [e2, List.filterMap_map, ← thirds_eq]
  simp only [Function.comp_def, Array.getElem?_toList]
section
variable {X : Cx} {D : Wd} {W : XK}
theorem RVs.evens {F : Hp} {μ : List Addr} : ∀ {vs : List Vl} {us : List V}, RVs D F μ vs us → RVs D F μ (IL.evens vs) (IL.evens us)
  | _, _, .nil => .nil
  | _, _, .cons r .nil => .cons r .nil
  | _, _, .cons r (.cons _ t) => .cons r (RVs.evens t)
theorem Vals.evens : ∀ {vs : List V} {us : List Value}, Vals vs us → Vals (IL.evens vs) (IL.evens us)
  | _, _, .nil => .nil
  | _, _, .cons r .nil => .cons r .nil
  | _, _, .cons r (.cons _ t) => .cons r (Vals.evens t)
theorem evens_le {α : Type} : ∀ xs : List α, (IL.evens xs).length ≤ xs.length
  | [] => Nat.le_refl _
  | [x] => Nat.le_refl _
  | x :: y :: r => by
    have := evens_le r
    simp only [IL.evens, List.length_cons]
    omega
theorem RVs.thirds {F : Hp} {μ : List Addr} : ∀ {vs : List Vl} {us : List V}, RVs D F μ vs us → RVs D F μ (IL.thirds vs) (IL.thirds us)
  | _, _, .nil => .nil
  | _, _, .cons r .nil => .cons r .nil
  | _, _, .cons r (.cons _ .nil) => .cons r .nil
  | _, _, .cons r (.cons _ (.cons _ t)) => .cons r (RVs.thirds t)
theorem Vals.thirds : ∀ {vs : List V} {us : List Value}, Vals vs us → Vals (IL.thirds vs) (IL.thirds us)
  | _, _, .nil => .nil
  | _, _, .cons r .nil => .cons r .nil
  | _, _, .cons r (.cons _ .nil) => .cons r .nil
  | _, _, .cons r (.cons _ (.cons _ t)) => .cons r (Vals.thirds t)
theorem thirds_le {α : Type} : ∀ xs : List α, (IL.thirds xs).length ≤ xs.length
  | [] => Nat.le_refl _
  | [x] => Nat.le_refl _
  | [x, y] => by simp [IL.thirds]
  | x :: y :: z :: r => by
    have := thirds_le r
    simp only [IL.thirds, List.length_cons]
    omega
/-- a[::st] of a list -/
def tStep (D : Wd) (W : XK) (m : Bool) (ta ts : TE) : TE := fun σ H Q => ta σ H fun x H1 => tPart ts σ H1 fun o H2 => ∃ F μ h v k, o = some k ∧ CS D F μ h H2 ∧ RV D F μ v x ∧ PostV D F μ H2 (place m (slcV v .non .non (.int k) h)) Q W
theorem pe_step {e st : Expr} {te ts : TE} {p3 pos : Pos} (m : Bool) (he : PE X e te) (hst : PE X st ts) : PE X (.Subscript e (.Slice none none (some st) p3) pos) (tStep D W m te ts) := by
  refine ⟨fun pins s σ H Q I h => ?_⟩
  refine Subscript_ (thn (he.run pins s σ H _ I h) fun v s1 ⟨x, H1, I1, r1, q1⟩ => ?_)
  refine wpAny_Slice (thn (po_none.run pins s1 σ H1 (fun o H2 => o = none ∧ H2 = H1) I1 ⟨rfl, rfl⟩) fun vl s2 ⟨l, H2, I2, pl, el, e2⟩ => ?_)
  subst el e2
  refine thn (po_none.run pins s2 σ H2 (fun o H3 => o = none ∧ H3 = H2) I2 ⟨rfl, rfl⟩) fun vu s3 ⟨u, H3, I3, pu, eu, e3⟩ => ?_
  subst eu e3
  refine thn ((po_some hst).run pins s3 σ H3 _ I3 q1) fun vs s4 ⟨o, H4, I4, ps, F, μ, hh, a, k, eo, c, ra, p⟩ => ?_
  subst eo
  have I5 : L2.Inv X pins σ H4 { s4 with heap := s4.heap.push { cls := .type "slice", data := .fields #[vl, vu, vs] } } := I4.kept (t' := s4.toks) fun b ob q => Heap.get?_push_of_some _ q
  have main : ∀ {ws : List Vl}, asList hh a = some ws → ∃ l us, x = .ref l ∧ H4 l = some (.lst us) ∧ RVs D F μ ws us := fun {ws} e => asList_ok c ra e
  unfold slcV at p
  dsimp only at p
  cases ea : asList hh a with
  | none => rw [ea] at p; cases m <;> exact p.elim
  | some ws =>
    rw [ea] at p
    obtain ⟨l, us, rfl, hx, rs⟩ := main ea
    obtain rfl : v = Value.ref l := r1
    obtain ⟨its, r, ht, hz⟩ := I5.list (SqL.of hx)
    have hlen := r.length
    have go : ∀ {zs : List V} {xs : List Value}, slicePick its.toArray none none (some k) = xs.toArray → Vals zs xs → zs.length ≤ us.length → (∀ q, H4 q = none → Q (.ref q) (upd H4 q (.lst zs))) → (k ≠ 0) →
        wpAny (model X.prog X.w) X.A (subscriptTail e (.Slice none none (some st) p3) (.ref l) (.ref s4.heap.objs.size)) (EP X pins σ Q) X.xe { s4 with heap := s4.heap.push { cls := .type "slice", data := .fields #[vl, vu, vs] } } := fun {zs xs} e1 rz hl q k0 => by
      refine tail_any (ops := [.ref l, .ref s4.heap.objs.size]) ht.isList.typeIs (PySem.slot_list_getitem.lookup) ?_ (by with_unfolding_all rfl)
      refine wpAny_getItem_list_slice ht.isList (Heap.IsSliceOf.new _ vl vu vs) pl pu ps (by simpa using k0) ?_ (by rw [List.size_toArray]; omega)
      rw [e1]
      refine ⟨.ref _, _, I5.laid (t' := s4.toks) (o := .lst zs) (fun b ob q => Heap.get?_push_of_some _ q) (Nat.le_refl _) ?_, rfl, q _ (I5.hok.fresh (Nat.le_refl _))⟩
      exact ⟨by omega, _, 0, rz, Heap.get?_push_size _ rfl⟩
    dsimp only at p
    split at p
    · rename_i hk
      subst hk
      exact go (zs := us.reverse) (xs := its.reverse) (by rw [PySem.W.krv_pick]) r.reverse (by simp) (fun q hq => place_lst m c rs.reverse p hq) (by decide)
    · split at p
      · rename_i hk
        subst hk
        exact go (zs := us) (xs := its) (by rw [pick_one]) r (Nat.le_refl _) (fun q hq => place_lst m c rs p hq) (by decide)
      · split at p
        · rename_i hk
          subst hk
          exact go (zs := IL.evens us) (xs := IL.evens its) (by rw [pick_two]) (Vals.evens r) (evens_le us) (fun q hq => place_lst m c rs.evens p hq) (by decide)
        · split at p
          · rename_i hk
            subst hk
            exact go (zs := IL.thirds us) (xs := IL.thirds its) (by rw [pick_three]) (Vals.thirds r) (thirds_le us) (fun q hq => place_lst m c rs.thirds p hq) (by decide)
          · cases m <;> exact p.elim
end
end IL
end

section
set_option autoImplicit false
set_option linter.all false
set_option Elab.async false
set_option maxRecDepth 100000
set_option maxHeartbeats 1000000
/-! IL: dict(d) of a dict whose keys are tuples. -/
namespace PySem
open Sem (wp)
open SeqAt PyProof.Rows
section
variable {prog : Program} {w : World} {E : Value → Shared → Prop} {A : Around} {s : Shared} {K : Type} [DecidableEq K] {knd : HeapKind prog w K}
theorem il_call_dictH {o : Addr} {more : List (K × Addr × Value)} {Q : Value → Shared → Prop} (hu : knd.room A.in1.in1) (hoS : (o == sysModules) = false) (ho : s.heap.DictOfH knd o more) (hsz : more.length ≤ sizeLine)
    (hty : ∀ x ∈ more, s.TypeIs (.ref x.2.1) "tuple") (hap : (more.map fun x => knd.hash x.1).Nodup)
    (his : ∀ x ∈ more, knd.is (s.heap.push { cls := .type "dict", data := .dict #[] }) x.1 x.2.1)
    (h : ∀ h', h'.DictOfH knd s.heap.objs.size more → Heap.SameBut s.heap.objs.size (s.heap.push { cls := .type "dict", data := .dict #[] }) h' → Q (.ref s.heap.objs.size) { s with heap := h' }) :
    wpAny (model prog w) A (call (.type "dict") [.ref o]) Q E s := by
  refine callType_codes (Q₁ := fun obj s₁ => obj = .ref s.heap.objs.size ∧ s₁ = { s with heap := s.heap.push { cls := .type "dict", data := .dict #[] } }) F.kt_called_dict (F.kt_typeCall_dict_1 _) F.entry_dict_init (kt_code_dict_new _ ⟨rfl, rfl⟩) ?_
  rintro obj s₁ ⟨rfl, rfl⟩
  have hnew : (s.heap.push { cls := .type "dict", data := .dict #[] }).DictOfH knd s.heap.objs.size [] := Heap.DictOfH.new s.heap
  have ho' : (s.heap.push { cls := .type "dict", data := .dict #[] }).DictOfH knd o more := by
    obtain ⟨ob, es, ep, h1, h2, h3, h4, _, h6⟩ := ho
    exact ⟨ob, es, ep, Heap.get?_push_of_some _ h1, h2, h3, h4, his, h6⟩
  have hdo : s.heap.objs.size ≠ o := by
    obtain ⟨_, _, _, hg, _⟩ := ho
    exact fun e => absurd (Heap.lt_size hg) (by rw [e]; exact Nat.lt_irrefl _)
  refine ⟨hnew.typeIs, F.args_dict_init_2 _ _, ?_⟩
  unfold Builtin.«dict.__init__»
  refine wpAny_bind ?_
  unfold Builtin.Dict.selfAndRest
  refine wpAny_bind (wpAny_notOrdered_dict hnew.typeIs ?_)
  show wpAny _ _ (pure (s.heap.objs.size, [Value.ref o])) _ _ _
  refine wpAny_pure ?_
  show wpAny _ _ (Builtin.Dict.updateFrom "dict.__init__" s.heap.objs.size (.ref o) [] .none) _ _ _
  refine updateFrom_dictH .none hu hdo hoS hnew ho' (.inr ⟨fun x hx => ?_, hap⟩) (by simpa using hsz) fun h' hd' _ hs' => ?_
  · obtain ⟨ob, e1, e2⟩ := hty x hx
    exact ⟨ob, Heap.get?_push_of_some _ e1, e2⟩
  · have hn : (more.map (·.1)).Nodup := let ⟨_, _, _, _, _, _, _, _, hn⟩ := ho; hn
    rw [storedAllH_nil_of_nodup more hn] at hd'
    exact ⟨rfl, h h' hd' hs'⟩
end
end PySem
namespace IL
open PySem L2 PyProof.Rows
section
variable {X : Cx}
theorem kt_tys {H : Hp} {h : Heap} {P : Program} {w : World} (ok : HOk P w H h) : ∀ {kvs : List (List Key × V)} {xs : List (List Key × Addr × Value)}, KT H kvs xs → ∀ x ∈ xs, ∃ k, H x.2.1 = some (.tup (k.map kV)) ∧ k = x.1
  | _, _, .nil, x, hx => nomatch hx
  | _, _, .cons r t, x, hx => by
    rcases List.mem_cons.mp hx with e | hx
    · subst e; exact ⟨_, r.2.1, r.1⟩
    · exact kt_tys ok t x hx
theorem kt_keys {H : Hp} : ∀ {kvs : List (List Key × V)} {xs : List (List Key × Addr × Value)}, KT H kvs xs → kvs.map (·.1) = xs.map (·.1)
  | _, _, .nil => rfl
  | _, _, .cons r t => by simp only [List.map_cons, r.1, kt_keys t]
/-- dict(d), d's keys tuples that hash apart -/
theorem call_dictT (hu : X.A.units + 3 < cLine) : CallR X (.type "dict") (fun xs H Q => ∃ (a : Addr) (kvs : List (List Key × V)), xs = [.ref a] ∧ Rd H a (.dT kvs) ∧ (kvs.map fun kv => tupleKeyHash (mixKind X.prog X.w) kv.1).Nodup ∧ ∀ p, H p = none → Q (.ref p) (upd H p (.dT kvs))) := by
  intro pins s σ H xs us Q I r q
  obtain ⟨a, kvs, ex, hd, nd, q⟩ := q
  subst ex
  obtain ⟨u, eu, rx⟩ := vals1 r
  subst eu
  cases rx
  obtain ⟨z, lo, vs, rel, dd⟩ := dt_rd I.hok hd
  have tys := kt_tys I.hok rel
  have ek := kt_keys rel
  have eh : (vs.map fun x => (tupleKind (mixKind X.prog X.w)).hash x.1) = kvs.map fun kv => tupleKeyHash (mixKind X.prog X.w) kv.1 := by
    have e := congrArg (List.map (tupleKeyHash (mixKind X.prog X.w))) ek
    rw [List.map_map, List.map_map] at e
    exact e.symm
  have keyIs : ∀ x ∈ vs, (tupleKind (mixKind X.prog X.w)).is s.heap x.1 x.2.1 := fun x hx => by
    obtain ⟨k, h1, rfl⟩ := tys x hx
    exact key_of I.hok h1
  refine il_call_dictH (knd := tupleKind (mixKind X.prog X.w)) (show X.A.in1.in1.units < cLine from ?_) lo dd (by rw [← rel.length]; exact z) (fun x hx => ?_) (by rw [eh]; exact nd) (fun x hx => ?_) fun h' d' hs => ?_
  · show X.A.units + 1 + 1 < cLine
    omega
  · obtain ⟨o, _, _, h1, h2, _⟩ := keyIs x hx
    exact ⟨o, h1, h2⟩
  · obtain ⟨o, its, n, h1, h2, h3, h4⟩ := keyIs x hx
    exact ⟨o, its, n, Heap.get?_push_of_some _ h1, h2, h3, h4⟩
  · have hm : (s.heap.objs.size == sysModules) = false := beq_eq_false_iff_ne.mpr (Nat.ne_of_gt I.big)
    have hfr : H s.heap.objs.size = none := I.hok.fresh (Nat.le_refl _)
    refine ⟨.ref s.heap.objs.size, upd H s.heap.objs.size (.dT kvs), I.laid (t' := s.toks) (fun b u e => (hs.2 b (Nat.ne_of_lt (Heap.lt_size e))).trans (Heap.get?_push_of_some _ e)) (Nat.le_refl _)
      (show ObjOk X.prog X.w _ _ _ (.dT kvs) from ?_), rfl, q _ hfr⟩
    obtain ⟨o, es, ep, g1, g2, g3, g4, g5, g6⟩ := d'
    refine ⟨z, hm, vs, Paired.mapP rel fun p q hq => ⟨hq.1, ?_, hq.2.2⟩, o, es, ep, g1, g2, g3, g4, g6⟩
    rw [upd_ne (ne_of_none hq.2.1 hfr)]
    exact hq.2.1
end
end IL
end

section
set_option autoImplicit false
set_option linter.all false
set_option Elab.async false
set_option maxRecDepth 100000
set_option maxHeartbeats 2000000
/-! IL: sorting; the sort of tuples with unlike first parts. -/
namespace SrtO
open PySem PySem.Calls PyProof.Rows Srt
section
variable {α : Type} {lt : α → α → Bool}
theorem il_ins_perm (x : α) : ∀ ys : List α, (IL.insB lt x ys).Perm (x :: ys)
  | [] => List.Perm.refl _
  | y :: ys => by
    unfold IL.insB
    split
    · exact List.Perm.refl _
    · exact ((il_ins_perm x ys).cons y).trans (List.Perm.swap _ _ _)
theorem il_ins_srtd (O : Swo lt) (x : α) : ∀ {ys : List α}, Srtd lt ys → Srtd lt (IL.insB lt x ys)
  | [], _ => List.pairwise_singleton _ _
  | y :: ys, h => by
    unfold IL.insB
    obtain ⟨h1, h2⟩ := List.pairwise_cons.mp h
    by_cases c : lt x y = true
    · rw [if_pos c]
      refine List.pairwise_cons.mpr ⟨fun z hz => ?_, h⟩
      rcases List.mem_cons.mp hz with e | e
      · subst e; exact O.asym _ _ c
      · exact O.asym _ _ (O.ltle c (h1 z e))
    · have c' : lt x y = false := by simpa using c
      rw [if_neg c]
      refine List.pairwise_cons.mpr ⟨fun z hz => ?_, il_ins_srtd O x h2⟩
      rcases List.mem_cons.mp ((il_ins_perm x ys).mem_iff.mp hz) with e | e
      · subst e; exact c'
      · exact h1 z e
/-- what is inserted stands behind what is alike -/
theorem il_ins_cls (O : Swo lt) (x z : α) : ∀ {ys : List α}, Srtd lt ys → (IL.insB lt x ys).filter (eqv lt z) = (ys ++ [x]).filter (eqv lt z)
  | [], _ => rfl
  | y :: ys, h => by
    obtain ⟨h1, h2⟩ := List.pairwise_cons.mp h
    unfold IL.insB
    by_cases c : lt x y = true
    · rw [if_pos c]
      -- nothing behind is alike to x
      by_cases q : eqv lt z x = true
      · have no : ∀ u ∈ y :: ys, eqv lt z u = false := fun u hu => by
          have lu : lt x u = true := by
            rcases List.mem_cons.mp hu with e | e
            · subst e; exact c
            · exact O.ltle c (h1 u e)
          obtain ⟨q1, q2⟩ := eqv_iff.mp q
          have zu : lt z u = true := O.lelt q2 lu
          unfold eqv
          rw [zu]
          rfl
        rw [List.filter_append, List.filter_cons, if_pos q]
        have e1 : (y :: ys).filter (eqv lt z) = [] := List.filter_eq_nil_iff.mpr fun u hu => by rw [no u hu]; simp
        rw [e1, List.filter_cons, if_pos q]
        rfl
      · rw [List.filter_append, List.filter_cons, if_neg q]
        have e1 : [x].filter (eqv lt z) = [] := by simp [List.filter_cons, q]
        rw [e1, List.append_nil]
    · rw [if_neg c, List.cons_append, List.filter_cons, List.filter_cons, il_ins_cls O x z h2]
theorem il_sort_aux (O : Swo lt) : ∀ (xs acc done : List α), Srtd lt acc → Stb lt acc done → Srtd lt (xs.foldl (fun a x => IL.insB lt x a) acc) ∧ Stb lt (xs.foldl (fun a x => IL.insB lt x a) acc) (done ++ xs)
  | [], acc, done, h, s => by simpa using ⟨h, s⟩
  | x :: xs, acc, done, h, s => by
    have h2 := il_ins_srtd O x h
    have s2 : Stb lt (IL.insB lt x acc) (done ++ [x]) := by
      refine ⟨(il_ins_perm x acc).trans ?_, fun z => ?_⟩
      · exact (s.perm.cons x).trans (List.perm_append_singleton x done).symm
      · rw [il_ins_cls O x z h, List.filter_append, List.filter_append, s.cls z]
    obtain ⟨i1, i2⟩ := il_sort_aux O xs _ _ h2 s2
    refine ⟨i1, ?_⟩
    rw [List.append_assoc] at i2
    exact i2
theorem il_sort (O : Swo lt) (xs : List α) : Srtd lt (IL.sortB lt xs) ∧ Stb lt (IL.sortB lt xs) xs := by
  have := il_sort_aux O xs [] [] List.Pairwise.nil (Stb.refl [])
  rw [List.nil_append] at this
  exact this
/-- sorted and stable: just one such list -/
theorem il_uniq (O : Swo lt) : ∀ {l m : List α}, Srtd lt l → Srtd lt m → l.Perm m → (∀ x, l.filter (eqv lt x) = m.filter (eqv lt x)) → l = m
  | [], m, _, _, p, _ => (List.nil_perm.mp p).symm
  | x :: l, [], _, _, p, _ => absurd p.length_eq (by simp)
  | x :: l, y :: m, hl, hm, p, e => by
    have hxy : lt x y = false ∧ lt y x = false := by
      have mx : x ∈ y :: m := p.mem_iff.mp List.mem_cons_self
      have my : y ∈ x :: l := p.mem_iff.mpr List.mem_cons_self
      constructor
      · rcases List.mem_cons.mp mx with q | q
        · subst q; exact O.refl x
        · exact (List.pairwise_cons.mp hm).1 x q
      · rcases List.mem_cons.mp my with q | q
        · subst q; exact O.refl y
        · exact (List.pairwise_cons.mp hl).1 y q
    have ex := e x
    have q1 : eqv lt x x = true := eqv_iff.mpr ⟨O.refl x, O.refl x⟩
    have q2 : eqv lt x y = true := eqv_iff.mpr hxy
    rw [List.filter_cons, List.filter_cons, if_pos q1, if_pos q2] at ex
    have exy : x = y := (List.cons.inj ex).1
    subst exy
    congr 1
    refine il_uniq O (List.pairwise_cons.mp hl).2 (List.pairwise_cons.mp hm).2 ((List.perm_cons x).mp p) fun z => ?_
    have ez := e z
    rw [List.filter_cons, List.filter_cons] at ez
    by_cases c : eqv lt z x = true
    · rw [if_pos c, if_pos c] at ez
      exact (List.cons.inj ez).2
    · rw [if_neg c, if_neg c] at ez
      exact ez
theorem il_sort_eq (O : Swo lt) {ys xs : List α} (h : Srtd lt ys) (s : Stb lt ys xs) : ys = IL.sortB lt xs := by
  obtain ⟨h2, s2⟩ := il_sort O xs
  exact il_uniq O h h2 (s.perm.trans s2.perm.symm) fun x => (s.cls x).trans (s2.cls x).symm
end
section
variable {prog : Program} {w : World} {A : Around} {E : Value → Shared → Prop} {s : Shared}
/-- a tuple whose first part is an int (kind true), a pair of ints -/
def FirstAt (h : Heap) (v : Value) (kind : Bool) (k : Int × Int) : Prop := ∃ a o its n f, v = .ref a ∧ h.get? a = some o ∧ o.cls = .type "tuple" ∧ o.data = .seq its n ∧ its[0]? = some f ∧ (if kind = true then (∃ t, f = .int k.1 t) ∧ k.2 = 0 else Srt.IsPair h f k.1 k.2)
theorem FirstAt.keeps {h h' : Heap} {v : Value} {kind : Bool} {k : Int × Int} (p : FirstAt h v kind k) (q : ∀ b o, h.get? b = some o → o.cls = .type "tuple" → h'.get? b = some o) : FirstAt h' v kind k := by
  obtain ⟨a, o, its, n, f, e, ho, hc, hd, hf, z⟩ := p
  refine ⟨a, o, its, n, f, e, q _ _ ho hc, hc, hd, hf, ?_⟩
  cases kind with
  | true => simpa using z
  | false =>
    simp only [Bool.false_eq_true, if_false] at z ⊢
    exact z.keeps q
theorem kat_same {Q : Bool → Shared → Prop} {b : Bool} (q : Q false s) : ∀ (l : List Value) (i : Nat), PySem.W.KatLex prog w A b false Q (l.zip l) i s
  | [], i => PySem.W.kat_nil q
  | v :: l, i => PySem.W.kat_cons (SeqAt.EqAt.same v prog w _ _ (PySem.W.kat_yes (kat_same q l (i + 1))))
theorem pair_key {P : Program} {h : Heap} {v : Value} {i j : Int} (p : Srt.IsPair h v i j) : ∃ a, v = .ref a ∧ IsTupleKey (L2.mixKind P w) h [Sum.inl i, Sum.inl j] a ∧ ∃ its, h.IsTuple a its ∧ PyProof.Rows.IntsAre its.toList [i, j] := by
  obtain ⟨a, o, t, u, n, e, ho, hc, hd⟩ := p
  refine ⟨a, e, ⟨o, _, n, ho, hc, hd, .cons (L2.mixKind_int P w i t) (.cons (L2.mixKind_int P w j u) .nil)⟩, _, ⟨o, ho, hc, n, hd⟩, ?_⟩
  exact .cons i t (.cons j u .nil)
theorem first_cmp {vs : List Value} {kind : Bool} {k : Value → Int × Int} (hu : A.units < cLine) (hp : ∀ v ∈ vs, FirstAt s.heap v kind (k v)) (hd : ∀ v ∈ vs, ∀ u ∈ vs, k v = k u → v = u) : Cmp prog w A s (tuples' kind) (fun p => p.1 ∈ vs) (lt2 fun v u => lexB (k v) (k u)) := by
  intro p q hm hm'
  have h1 := hp _ hm
  have h2 := hp _ hm'
  show wpAny (model prog w) A (keyLt' (tuples' kind) p.1 q.1) (fun r s' => s' = s ∧ r = lexB (k p.1) (k q.1)) (fun _ _ => False) s
  by_cases e : k p.1 = k q.1
  · have epq := hd _ hm _ hm' e
    rw [← epq]
    obtain ⟨a, o, its, n, f, ea, ho, hc, hda, hf, _⟩ := h1
    rw [ea]
    refine PySem.W.kat_lt ho hda ho hda ?_
    have e0 : decide (its.size < its.size) = false := by simp
    rw [e0]
    exact kat_same ⟨rfl, ((swo_lex k).refl (.ref a)).symm⟩ _ _
  · obtain ⟨a, o, its, n, f, ea, ho, hc, hda, hf, z⟩ := h1
    obtain ⟨a', o', its', n', f', ea', ho', hc', hda', hf', z'⟩ := h2
    generalize hkp : k p.1 = kp at e z ⊢
    generalize hkq : k q.1 = kq at e z' ⊢
    rw [ea, ea']
    refine PySem.W.kat_lt ho hda ho' hda' ?_
    have l1 : ∃ r, its.toList = f :: r := by
      rw [← Array.getElem?_toList] at hf
      cases el : its.toList with
      | nil => rw [el] at hf; simp at hf
      | cons x r => rw [el] at hf; simp at hf; exact ⟨r, by rw [hf]⟩
    have l2 : ∃ r, its'.toList = f' :: r := by
      rw [← Array.getElem?_toList] at hf'
      cases el : its'.toList with
      | nil => rw [el] at hf'; simp at hf'
      | cons x r => rw [el] at hf'; simp at hf'; exact ⟨r, by rw [hf']⟩
    obtain ⟨r, er⟩ := l1
    obtain ⟨r', er'⟩ := l2
    rw [er, er', List.zip_cons_cons]
    cases kind with
    | true =>
      simp only [if_true] at z z'
      obtain ⟨⟨t, rfl⟩, y0⟩ := z
      obtain ⟨⟨t', rfl⟩, y0'⟩ := z'
      have ne : kp.1 ≠ kq.1 := fun h => e (Prod.ext h (y0.trans y0'.symm))
      refine PySem.W.kat_cons (SeqAt.EqAt.int_int _ _ _ _ prog w _ _ ?_)
      rw [beq_eq_false_iff_ne.mpr ne]
      refine PySem.W.kat_no (oneLt_int ⟨rfl, ?_⟩)
      unfold lexB
      rw [if_neg ne]
    | false =>
      simp only [Bool.false_eq_true, if_false] at z z'
      obtain ⟨b, rfl, kb, itb, tb, ib⟩ := pair_key (P := prog) (w := w) z
      obtain ⟨b', rfl, kb', itb', tb', ib'⟩ := pair_key (P := prog) (w := w) z'
      refine PySem.W.kat_cons (wpAny_eqBool_tuple hu kb kb' ?_)
      have ne : ¬ ([Sum.inl kp.1, Sum.inl kp.2] : List L2.Key) = [Sum.inl kq.1, Sum.inl kq.2] := fun h => by
        simp at h
        exact e (Prod.ext h.1 h.2)
      rw [decide_eq_false ne]
      refine PySem.W.kat_no (PySem.W.kat_one _ _ (HT.lt_tupInts tb tb' ib ib' hu (show _ ∧ _ from ⟨rfl, ?_⟩)))
      rw [← IL.lexB_eq]
      unfold IL.lexB IL.lexB IL.lexB lexB
      split
      · split
        · rename_i e1 e2
          exact absurd (Prod.ext e1 e2) e
        · rfl
      · rfl
theorem first_sortableO {a : Addr} {vs : List Value} {kind : Bool} {k : Value → Int × Int} (hu : A.units < cLine) (h0 : 0 < vs.length) (hp : ∀ v ∈ vs, FirstAt s.heap v kind (k v)) (hd : ∀ v ∈ vs, ∀ u ∈ vs, k v = k u → v = u) (ha : ∀ o, s.heap.get? a = some o → o.cls ≠ .type "tuple") : SortableO prog w A s a vs fun v u => lexB (k v) (k u) := by
  intro h' keep
  have hp' : ∀ v ∈ vs, FirstAt h' v kind (k v) := fun v hm => (hp v hm).keeps fun b o e c => keep b o (fun z => by subst z; exact ha o e c) e
  have fs : ∀ {l : List Value}, (∀ v ∈ l, FirstAt h' v kind (k v)) → ∃ fs, PySem.W.KatTups h' l fs ∧ fs.length = l.length ∧ ∀ f ∈ fs, ∃ kk : Int × Int, (if kind = true then (∃ t, f = .int kk.1 t) ∧ kk.2 = 0 else Srt.IsPair h' f kk.1 kk.2) := by
    intro l
    induction l with
    | nil => exact fun _ => ⟨[], trivial, rfl, fun f hf => nomatch hf⟩
    | cons v l ih =>
      intro hl
      obtain ⟨fs, f1, f2, f3⟩ := ih fun u hu => hl u (List.mem_cons_of_mem _ hu)
      obtain ⟨a, o, its, n, f, rfl, ho, hc, hda, hf, z⟩ := hl v List.mem_cons_self
      refine ⟨f :: fs, PySem.W.KatTups.cons ho hc hda hf f1, by simp [f2], fun g hg => ?_⟩
      rcases List.mem_cons.mp hg with e | e
      · subst e; exact ⟨_, z⟩
      · exact f3 g e
  obtain ⟨fs, f1, f2, f3⟩ := fs hp'
  refine ⟨tuples' kind, fun Q E hq => ?_, first_cmp hu hp' hd⟩
  cases kind with
  | true =>
    refine PySem.W.kat_kind (T := .type "int") f1 (by omega) (fun f hm => ?_) (by rfl) ?_
    · obtain ⟨kk, z⟩ := f3 f hm
      simp only [if_true] at z
      obtain ⟨⟨t, rfl⟩, _⟩ := z
      exact PySem.W.Looks.now
    · have e : (Value.type "int" != Value.type "tuple") = true := by first | decide +kernel | rfl | decide
      rw [e]
      exact hq
  | false =>
    refine PySem.W.kat_kind (T := .type "tuple") f1 (by omega) (fun f hm => ?_) (by rfl) ?_
    · obtain ⟨kk, z⟩ := f3 f hm
      simp only [Bool.false_eq_true, if_false] at z
      obtain ⟨a, o, t, u, n, rfl, ho, hc, _⟩ := z
      have q : PySem.W.Looks (model prog w) h' (typeOf (.ref a)) o.cls := (PySem.W.Looks.ld ho).andThen .now
      rw [hc] at q
      exact q
    · have e : (Value.type "tuple" != Value.type "tuple") = false := by first | decide +kernel | rfl | decide
      rw [e]
      exact hq
end
end SrtO
namespace L2
open PySem PySem.Spec PyProof.Rows
section
variable {X : Cx}
/-- a tuple of V whose first part is an int, a pair of ints -/
def FirstV (H : Hp) (x : V) (kind : Bool) (k : Int × Int) : Prop := ∃ t xs f, x = V.ref t ∧ H t = some (.tup xs) ∧ xs[0]? = some f ∧ (if kind = true then f = .int k.1 ∧ k.2 = 0 else ∃ t', f = .ref t' ∧ H t' = some (.tup [.int k.1, .int k.2]))
theorem firstV_at {pins : List (Addr × Obj)} {σ : St} {H : Hp} {s : Shared} {t : Addr} {kind : Bool} {k : Int × Int} (I : Inv X pins σ H s) (h : FirstV H (.ref t) kind k) : SrtO.FirstAt s.heap (.ref t) kind k := by
  obtain ⟨t, xs, f, e, ht, hf, z⟩ := h
  cases e
  obtain ⟨_, its, r, o, ho, hc, n, hd⟩ := I.hok _ _ ht
  obtain ⟨u, hu, ru⟩ := Vals.get r hf
  refine ⟨t, o, _, n, u, rfl, ho, hc, hd, by simpa using hu, ?_⟩
  cases kind with
  | true =>
    simp only [if_true] at z ⊢
    obtain ⟨rfl, z2⟩ := z
    exact ⟨ru, z2⟩
  | false =>
    simp only [Bool.false_eq_true, if_false] at z ⊢
    obtain ⟨t', rfl, ht'⟩ := z
    obtain rfl : u = Value.ref t' := ru
    obtain ⟨_, its2, r2, o2, ho2, hc2, n2, hd2⟩ := I.hok _ _ ht'
    obtain ⟨u1, u2, rfl, ri, rj⟩ := vals2 r2
    obtain ⟨t1, rfl⟩ := ri
    obtain ⟨t2, rfl⟩ := rj
    exact ⟨t', o2, t1, t2, n2, rfl, ho2, hc2, hd2⟩
/-- sorted(xs), xs of tuples with unlike first parts -/
def rSortedF (K : PySem.W.Frag) : List V → Hp → VK → Prop := fun vs H Q => ∃ (a : Addr) (xs : List V) (kind : Bool) (k : V → Int × Int), vs = [V.ref a] ∧ SqL K H a xs ∧ (∀ x ∈ xs, FirstV H x kind (k x)) ∧ (∀ x ∈ xs, ∀ y ∈ xs, k x = k y → x = y) ∧
  ∀ p, H p = none → Q (.ref p) (upd H p (.lst (IL.sortB (ltP k) xs)))
theorem cr_sortedF (hu : X.A.units + 2 < cLine) : CallR X (.builtin "sorted") (rSortedF X.K) := by
  intro pins s σ H vs us Q I r h
  obtain ⟨a, xs, kind, k, rfl, hs, hx, hd, q⟩ := h
  obtain ⟨its, rv, hl, hz⟩ := I.list hs
  obtain ⟨u, rfl, ru⟩ := vals1 r
  obtain rfl : u = Value.ref a := ru
  obtain ⟨e1, e2⟩ := refs_back rv fun x m => by
    obtain ⟨t, _, _, e, _⟩ := hx x m
    exact ⟨t, e⟩
  have inX : ∀ v ∈ its, ∃ t, v = Value.ref t ∧ V.ref t ∈ xs := fun v hv => by
    obtain ⟨t, rfl⟩ := e2 v hv
    refine ⟨t, rfl, ?_⟩
    rw [e1]
    exact List.mem_map.mpr ⟨_, hv, rfl⟩
  have fa : ∀ v ∈ its, SrtO.FirstAt s.heap v kind (k (backV v)) := fun v hv => by
    obtain ⟨t, rfl, hm⟩ := inX v hv
    exact firstV_at I (hx _ hm)
  refine SrtO.sorted_ord (SrtO.swo_lex fun u => k (backV u)) hl.isList (by rw [← rv.length]; exact hz) (fun h2 h₁ b hb kk => ?_) fun out h1 h2 => ?_
  · refine SrtO.first_sortableO (kind := kind) (s := { s with heap := h₁ }) (show X.A.units + 1 + 1 < cLine by omega) (by omega) (fun v hm => (fa v hm).keeps fun b o e _ => (kk b o e).2) (fun v hv u hu' e => ?_) fun o e => ?_
    · obtain ⟨t, rfl, hm⟩ := inX v hv
      obtain ⟨t', rfl, hm'⟩ := inX u hu'
      have z := hd _ hm _ hm' e
      cases z
      rfl
    · have e' : some o = some (seqObj "list" its.toArray 0) := e.symm.trans hb
      cases e'
      intro c
      exact absurd (Value.type.inj c) (by decide)
  · have h3 : ∀ u ∈ out, ∃ a, u = Value.ref a := fun u hu => e2 u (h2.perm.mem_iff.mp hu)
    obtain ⟨ep, he'⟩ := PyProof.Rows.sortedAll_at s.heap its out.toArray
    have hb : SrtO.Stb (ltP k) (out.map backV) xs := by
      rw [e1]
      exact SrtO.Stb.map (ltP_swo k) backV h2
    have he := SrtO.il_sort_eq (ltP_swo k) (SrtO.srtd_map h1) hb
    rw [← he] at q
    refine ⟨.ref _, upd H (s.heap.objs.size + 1) (.lst (out.map backV)), I.laid (t' := s.toks) (fun _ _ => PyProof.Rows.sortedAll_old) (Nat.le_succ _) ⟨?_, out, ep, vals_back h3, he'⟩, rfl, q _ (I.hok.fresh (Nat.le_succ _))⟩
    rw [hb.len]
    exact hz
/-- sorted(xs) of pairs of ints -/
def rSortedP2 (K : PySem.W.Frag) : List V → Hp → VK → Prop := fun vs H Q => ∃ (a : Addr) (xs : List V) (k : V → Int × Int), vs = [V.ref a] ∧ SqL K H a xs ∧ (∀ x ∈ xs, ∃ t, x = V.ref t ∧ H t = some (.tup [.int (k x).1, .int (k x).2])) ∧
  ∀ p, H p = none → Q (.ref p) (upd H p (.lst (IL.sortB (ltP k) xs)))
theorem cr_sortedP2 : CallR X (.builtin "sorted") (rSortedP2 X.K) := by
  intro pins s σ H vs us Q I r h
  obtain ⟨a, xs, k, e, hs, hx, q⟩ := h
  exact cr_sortedPO pins s σ H vs us Q I r ⟨a, xs, k, e, hs, hx, fun ys p h1 h2 hp => by rw [SrtO.il_sort_eq (ltP_swo k) h1 h2]; exact q p hp⟩
/-- sorted(xs) of ints -/
theorem ints_uniq : ∀ {l m : List Int}, l.Pairwise (· ≤ ·) → m.Pairwise (· ≤ ·) → l.Perm m → l = m
  | [], m, _, _, p => (List.nil_perm.mp p).symm
  | x :: l, [], _, _, p => absurd p.length_eq (by simp)
  | x :: l, y :: m, hl, hm, p => by
    have mx : x ∈ y :: m := p.mem_iff.mp List.mem_cons_self
    have my : y ∈ x :: l := p.mem_iff.mpr List.mem_cons_self
    have h1 : y ≤ x := by
      rcases List.mem_cons.mp mx with q | q
      · omega
      · exact (List.pairwise_cons.mp hm).1 x q
    have h2 : x ≤ y := by
      rcases List.mem_cons.mp my with q | q
      · omega
      · exact (List.pairwise_cons.mp hl).1 y q
    obtain rfl : x = y := by omega
    rw [ints_uniq (List.pairwise_cons.mp hl).2 (List.pairwise_cons.mp hm).2 ((List.perm_cons x).mp p)]
theorem swo_ints : SrtO.Swo fun a b : Int => decide (a < b) := ⟨fun x y h => by simp at h ⊢; omega, fun x y z h1 h2 => by simp at h1 h2 ⊢; omega⟩
theorem sort_ints (ns : List Int) : (IL.sortB (fun a b => decide (a < b)) ns).Pairwise (· ≤ ·) ∧ (IL.sortB (fun a b => decide (a < b)) ns).Perm ns := by
  obtain ⟨h1, h2⟩ := SrtO.il_sort swo_ints ns
  refine ⟨h1.imp fun {a b} h => ?_, h2.perm⟩
  simp at h
  exact h
end
end L2
end

section
set_option autoImplicit false
set_option linter.all false
set_option Elab.async false
set_option maxRecDepth 100000
set_option maxHeartbeats 4000000
/-! IL: sorted(xs, key=f), f a def that answers with pairs of ints. -/
namespace SrtO
open PySem PySem.Calls PyProof.Rows Srt
section
variable {prog : Program} {w : World} {A : Around} {E : Value → Shared → Prop} {s : Shared} {a kS : Addr} {vs : List Value} {keys : Array Value} {e e1 : Nat} {P : PySem.Fin → Shared → Prop} {lt : Keyed → Keyed → Bool}
theorem il_upd {h : Heap} {b c : Addr} {f : Obj → Obj} (hne : c ≠ b) : (h.update b f).get? c = h.get? c := Heap.get?_update_ne _ _ _ _ hne
theorem il_tail {st : SortSt} (hka : kS ≠ a) (nk : s.heap.get? kS = some (seqObj "list" keys e)) (na : s.heap.get? a = some (seqObj "list" #[] e1)) (hsz : keys.size ≤ sizeLine) (hso : (arrOf st).size ≤ sizeLine) (hfl : failedOf st = none)
    (h : ∀ h' tk c, (∀ b, b ≠ kS → b ≠ a → h'.get? b = s.heap.get? b) → h'.get? a = some (seqObj "list" ((arrOf st).map (·.2)) c) → P (.done (.ret .none)) { s with heap := h', toks := tk }) :
    wpAny (model prog w) A (ksk_tail a false e1 (.ref kS) st) P E s := by
  have na1 : (s.heap.update kS (Obj.mapSeq fun _ => (#[] : Array Value))).get? a = some (seqObj "list" #[] e1) := (il_upd hka.symm).trans na
  obtain ⟨c2, hc2⟩ : ∃ c2, ((s.heap.update kS (Obj.mapSeq fun _ => (#[] : Array Value))).update a (Obj.mapSeq fun _ => (arrOf st).map (·.2))).get? a = some (seqObj "list" ((arrOf st).map (·.2)) c2) :=
    ⟨_, get?_update_seq na1 fun _ => (arrOf st).map (·.2)⟩
  unfold ksk_tail
  try dsimp only
  refine wpAny_bind (listUpdate_at nk rfl ?_ hsz (Nat.zero_le _))
  refine wpAny_bind (wpAny_letGo ?_)
  refine wpAny_bind (seqEpoch_at na1 rfl ?_)
  simp only [Bool.false_eq_true, if_false]
  refine wpAny_bind (listUpdate_at na1 rfl ?_ (Nat.zero_le _) (by rw [Array.size_map]; exact Nat.le_succ_of_le hso))
  rw [hfl]
  simp only [bne_self_eq_false, Bool.false_eq_true, if_false]
  exact wpAny_pure (h _ _ c2 (fun b h1 h2 => (il_upd h2).trans (il_upd h1)) hc2)
theorem il_end (O : Swo lt) (hka : kS ≠ a) (nk : s.heap.get? kS = some (seqObj "list" keys e)) (na : s.heap.get? a = some (seqObj "list" #[] e1)) (hlen : keys.size = vs.length) (hz : vs.length ≤ sizeLine)
    (hS : 2 ≤ vs.length → ∃ κ, (∀ (Q : SortKind → Shared → Prop) (E : Value → Shared → Prop), Q κ s → wpAny (model prog w) A (keyKind' keys) Q E s) ∧ Cmp prog w A s κ (fun p => p ∈ keys.toList.zip vs) lt)
    (h : ∀ h' tk c out, (∀ b, b ≠ kS → b ≠ a → h'.get? b = s.heap.get? b) → h'.get? a = some (seqObj "list" (out.map (fun p : Keyed => p.2)).toArray c) → Srtd lt out → Stb lt out (keys.toList.zip vs) → P (.done (.ret .none)) { s with heap := h', toks := tk }) :
    wpAny (model prog w) A (ksk_end a false vs.toArray e1 (.ref kS) keys) P E s := by
  have hzs : (keys.zip vs.toArray).size = vs.length := by rw [Array.size_zip, hlen, List.size_toArray, Nat.min_self]
  have hzl : (keys.zip vs.toArray).toList = keys.toList.zip vs := ksk_zip keys vs
  have fin : ∀ st' : SortSt, failedOf st' = none → Srtd lt (arrOf st').toList → Stb lt (arrOf st').toList (keys.toList.zip vs) → wpAny (model prog w) A (ksk_tail a false e1 (.ref kS) st') P E s := fun st' hf h1 h2 => by
    have hs : (arrOf st').size ≤ sizeLine := by
      have := h2.len
      rw [← hzl, Array.length_toList, Array.length_toList, hzs] at this
      omega
    refine il_tail hka nk na (by omega) hs hf fun h' tk c k1 k2 => h h' tk c (arrOf st').toList k1 ?_ h1 h2
    rw [k2]
    congr 2
    apply Array.ext'
    simp
  unfold ksk_end
  simp only [Bool.false_eq_true, if_false]
  by_cases h2 : vs.toArray.size < 2
  · rw [if_pos h2, if_pos h2]
    refine wpAny_bind (wpAny_pure ?_)
    rw [StateT.run_pure]
    refine wpAny_bind (wpAny_pure ?_)
    try dsimp only
    refine fin (SortSt.mk' general' (keys.zip vs.toArray) #[] 7 none) rfl ?_ ?_
    · show Srtd lt (keys.zip vs.toArray).toList
      have hl : (keys.zip vs.toArray).toList.length < 2 := by rw [Array.length_toList, hzs]; rw [List.size_toArray] at h2; exact h2
      match (keys.zip vs.toArray).toList, hl with
      | [], _ => exact List.Pairwise.nil
      | [v], _ => exact List.pairwise_singleton _ _
      | _ :: _ :: l, h => exact absurd h (by rw [List.length_cons, List.length_cons]; omega)
    · rw [← hzl]
      exact Stb.refl _
  · rw [if_neg h2, if_neg h2]
    rw [List.size_toArray] at h2
    obtain ⟨κ, hk, T⟩ := hS (by omega)
    refine wpAny_bind (hk _ _ ?_)
    refine wpAny_bind (wpAny_mono (wpS_sortO (st0 := SortSt.mk' κ (keys.zip vs.toArray) #[] 7 none)
      (Q := fun _ st' => Srtd lt (arrOf st').toList ∧ Stb lt (arrOf st').toList (keys.zip vs.toArray).toList ∧ failedOf st' = none) O T rfl (fun p hp => by rw [← hzl]; exact hp) rfl rfl fun st' a1 a2 a3 => ⟨a1, a2, a3⟩) ?_ fun _ _ e => e)
    rintro ⟨⟨⟩, st'⟩ s' ⟨rfl, hp1, hp2, hf⟩
    try dsimp only
    rw [hzl] at hp2
    exact fin st' hf hp1 hp2
end
end SrtO
end

section
set_option autoImplicit false
set_option linter.all false
set_option Elab.async false
set_option maxRecDepth 100000
set_option maxHeartbeats 4000000
/-! IL: sorted(xs, key=f): the keys, turn by turn. -/
namespace L2
open PySem PySem.Spec PyProof.Rows PySem.Calls
section
variable {X : Cx}
/-- within two built-ins, nothing raised -/
abbrev Cx.deep2 (X : Cx) : Cx := { X with A := X.A.in1.in1, xe := fun _ _ => False }
theorem Cx.Ok.deep2 {X : Cx} (ok : X.Ok) : X.deep2.Ok := ⟨ok.mod, ok.kind, ok.glob, ok.blt, ok.above, ok.inj, ok.has, ok.cab, fun h => ok.hd h, ok.frames, ok.stk, ok.exf, ok.bs, ok.bsz, ok.noex, ok.exfs, ok.funs, ok.frf⟩
theorem Inv.deep2 {pins : List (Addr × Obj)} {σ : St} {H : Hp} {s : Shared} (I : Inv X pins σ H s) : Inv X.deep2 pins σ H s := ⟨I.ok.deep2, I.os, I.bare, I.base, I.loc, I.cell, I.free, I.freeC, I.pin, I.hok, I.len⟩
theorem Inv.undeep2 {pins : List (Addr × Obj)} {σ : St} {H : Hp} {s : Shared} (ok : X.Ok) (I : Inv X.deep2 pins σ H s) : Inv X pins σ H s := ⟨ok, I.os, I.bare, I.base, I.loc, I.cell, I.free, I.freeC, I.pin, I.hok, I.len⟩
/-- what a key function promises for the items one behind the other: keys: what it told so far -/
structure KeyJ (sp : Sp) (xs : List V) (g : V → Int × Int) (J : List V → Hp → Prop) : Prop where
  turn : ∀ ks H x, J ks H → xs[ks.length]? = some x → sp [x] H (fun y H' => J (ks ++ [y]) H') (fun _ _ _ => False)
  pairs : ∀ ks H, J ks H → ∀ (i : Nat) (y x : V), ks[i]? = some y → xs[i]? = some x → ∃ t, y = V.ref t ∧ H t = some (.tup [.int (g x).1, .int (g x).2])
def rSortedBy (K : PySem.W.Frag) (f : Addr) (sp : Sp) : List V → List V → Hp → VK → Prop := fun vs zs H Q => ∃ (a : Addr) (xs : List V) (g : V → Int × Int) (J : List V → Hp → Prop), vs = [V.ref a] ∧ zs = [V.ref f] ∧ SqL K H a xs ∧ xs.length ≤ 100000 ∧ (∀ x ∈ xs, ∃ t, x = V.ref t) ∧ KeyJ sp xs g J ∧ J [] H ∧
  ∀ ks H', J ks H' → ks.length = xs.length → ∀ p, H' p = none → Q (.ref p) (upd H' p (.lst (IL.sortB (ltP g) xs)))
theorem fpOk_to {pins : List (Addr × Obj)} {H H' : Hp} {b : Addr} (f : FpOk X pins H b) (h : H' b = none) : FpOk X pins H' b := ⟨h, f.2⟩
theorem seq_cell {v : Option Value} {c : String} {xs : Array Value} {n : Nat} : (seqObj c xs n).data ≠ .cell v := by
  intro z
  cases z
section
variable {k : Nat} {f : Addr} {fd : FuncData} {ps : List Str} {sp : Sp} {CX : CXT} {pins : List (Addr × Obj)} {σ : St} {H : Hp} {s : Shared} {a kS : Addr} {e1 : Nat} {xs : List V} {vs : List Value} {g : V → Int × Int} {J : List V → Hp → Prop} {P : PySem.Fin → Shared → Prop} {E : Value → Shared → Prop}
/-- a turn: the key of an item -/
theorem key_turn (F : FnOk X.prog X.w X.K X.mg X.base CX k f fd ps sp) (hr : Room k X.A.in1.in1) (hb : Binds X.K fd ps []) (hx : Passes CX X.deep2 (fun _ _ _ => False)) (hka : kS ≠ a)
    (I : Inv X pins σ H s) (fk : FpOk X pins H kS) (fa : FpOk X pins H a) {kA : Array Value} {e : Nat} (hk : s.heap.get? kS = some (seqObj "list" kA e)) (ha : s.heap.get? a = some (seqObj "list" #[] e1))
    {ks : List V} (j : J ks H) (KJ : KeyJ sp xs g J) {x : V} {v : Value} (gx : xs[ks.length]? = some x) (rx : RelV x v) (Q : Value → Shared → Prop)
    (h : ∀ u y H' s', Inv X pins σ H' s' → FpOk X pins H' kS → FpOk X pins H' a → s'.heap.get? kS = some (seqObj "list" kA e) → s'.heap.get? a = some (seqObj "list" #[] e1) → RelV y u → J (ks ++ [y]) H' → Q u s') :
    wpAny (model X.prog X.w) X.A.in1.in1 (call (.ref f) [v]) Q (fun _ _ => False) s := by
  have ip := I.pinned (fp := [kS, a]) (fun b hb => by
    rcases List.mem_cons.mp hb with z | z
    · rw [z]; exact fk
    · rw [List.mem_singleton.mp z]; exact fa) (fun b hb => by
    rcases List.mem_cons.mp hb with z | z
    · rw [z]; exact ⟨_, hk, fun _ => seq_cell⟩
    · rw [List.mem_singleton.mp z]; exact ⟨_, ha, fun _ => seq_cell⟩)
  have pk : (kS, seqObj "list" kA e) ∈ pinsAt [kS, a] s.heap := by
    unfold pinsAt
    rw [List.filterMap_cons, hk]
    exact List.mem_cons_self
  have pa : (a, seqObj "list" #[] e1) ∈ pinsAt [kS, a] s.heap := by
    unfold pinsAt
    rw [List.filterMap_cons, hk, List.filterMap_cons, ha]
    exact List.mem_cons_of_mem _ List.mem_cons_self
  refine thn (run_fn (X := X.deep2) F hr hb .nil hx ip.deep2 (.cons rx .nil) (by rw [List.append_nil]; exact KJ.turn ks H x j gx)) fun u s' hu => ?_
  obtain ⟨y, H', I', ry, jy⟩ := hu
  have I2 := I'.undeep2 I.ok
  have q1 := I2.pin (kS, _) (List.mem_append_right _ (List.mem_append_right _ pk))
  have q2 := I2.pin (a, _) (List.mem_append_right _ (List.mem_append_right _ pa))
  exact h u y H' s' I2.unpinned (fpOk_to fk q1.2.1) (fpOk_to fa q2.2.1) q1.1 q2.1 ry jy
/-- all keys, then the sort -/
theorem key_rest (F : FnOk X.prog X.w X.K X.mg X.base CX k f fd ps sp) (hr : Room k X.A.in1.in1) (hb : Binds X.K fd ps []) (hx : Passes CX X.deep2 (fun _ _ _ => False)) (hka : kS ≠ a)
    (I : Inv X pins σ H s) (fk : FpOk X pins H kS) (fa : FpOk X pins H a) (hk : s.heap.get? kS = some (seqObj "list" #[] 0)) (ha : s.heap.get? a = some (seqObj "list" #[] e1))
    (rv : Vals xs vs) (hz : xs.length ≤ 100000) (hrf : ∀ x ∈ xs, ∃ t, x = V.ref t) (KJ : KeyJ sp xs g J) (j : J [] H)
    (h : ∀ (ks : List V) (H' : Hp) (s' : Shared) (h' : Heap) (tk c : Nat), J ks H' → ks.length = xs.length → Inv X pins σ H' { s' with heap := h', toks := tk } → FpOk X pins H' a → (∃ out : List Value, h'.get? a = some (seqObj "list" out.toArray c) ∧ Vals (IL.sortB (ltP g) xs) out) → P (.done (.ret .none)) { s' with heap := h', toks := tk }) :
    wpAny (model X.prog X.w) X.A.in1.in1 (ksk_rest a (.ref f) false vs.toArray e1 (.ref kS)) P E s := by
  have hlv : xs.length = vs.length := rv.length
  unfold ksk_rest
  refine wpAny_bind (wpAny_rule ?_)
  first
    | rw [List.forIn_toArray]
    | (rw [← Array.forIn_toList]; simp only [List.toList_toArray])
    | rw [← Array.forIn_toList]
  refine wpAny_bind (ksk_fold (fun i s' => ∃ ks H' kA e, Inv X pins σ H' s' ∧ FpOk X pins H' kS ∧ FpOk X pins H' a ∧ s'.heap.get? kS = some (seqObj "list" kA e) ∧ s'.heap.get? a = some (seqObj "list" #[] e1) ∧ Vals ks kA.toList ∧ ks.length = i ∧ J ks H') vs 0 s
    ⟨[], H, #[], 0, I, fk, fa, hk, ha, .nil, rfl, j⟩ ?step ?done)
  case step =>
    rintro i v s' hv ⟨ks, H', kA, e, I', fk', fa', hk', ha', rk, hl, j'⟩
    simp only [Nat.zero_add] at hl ⊢
    have hi : i < vs.length := (List.getElem?_eq_some_iff.mp hv).1
    obtain ⟨x, gx⟩ : ∃ x, xs[i]? = some x := ⟨_, List.getElem?_eq_getElem (by omega)⟩
    have rx : RelV x v := by
      obtain ⟨u, h1, h2⟩ := rv.get gx
      rw [hv] at h1
      cases h1
      exact h2
    have hkz : kA.size ≤ 100000 := by
      have e0 : ks.length = kA.size := rk.length.trans Array.length_toList
      omega
    refine wpAny_bind (wpAny_attempt (wpAny_mono (key_turn F hr hb hx hka I' fk' fa' hk' ha' j' KJ (by rw [hl]; exact gx) rx (fun u s2 => ∃ y H2, Inv X pins σ H2 s2 ∧ FpOk X pins H2 kS ∧ FpOk X pins H2 a ∧ s2.heap.get? kS = some (seqObj "list" kA e) ∧ s2.heap.get? a = some (seqObj "list" #[] e1) ∧ RelV y u ∧ J (ks ++ [y]) H2) fun u y H2 s2 a1 a2 a3 a4 a5 a6 a7 => ⟨y, H2, a1, a2, a3, a4, a5, a6, a7⟩) (fun u s2 he => ?_) fun _ _ hF => hF.elim))
    obtain ⟨y, H2, I2, fk2, fa2, hk2, ha2, ry, j2⟩ := he
    try dsimp only
    obtain ⟨c2, hc2⟩ : ∃ c2, (s2.heap.update kS (Obj.mapSeq (·.push u))).get? kS = some (seqObj "list" (kA.push u) c2) := ⟨_, get?_update_seq hk2 (·.push u)⟩
    have hsl : (100000 : Nat) + 1 ≤ sizeLine := by decide
    refine wpAny_bind (listUpdate_at hk2 rfl ?_ (Nat.le_trans hkz (by decide)) (by rw [Array.size_push]; omega))
    refine wpAny_pure ⟨rfl, ks ++ [y], H2, kA.push u, c2, ?_, fk2, fa2, hc2, (SrtO.il_upd hka.symm).trans ha2, ?_, by simp [hl], j2⟩
    · refine I2.turnedL (ch := [kS]) (fun b o hb e => ?_) (fun b hb => by rw [List.mem_singleton.mp hb]; exact fk2)
      rw [Heap.get?_update_ne _ _ _ _ (by simpa using hb)]
      exact e
    · rw [Array.toList_push]
      exact rk.append (.cons ry .nil)
  case done =>
    rintro s' ⟨ks, H', kA, e, I', fk', fa', hk', ha', rk, hl, j'⟩
    simp only [Nat.zero_add] at hl
    have hsz : kA.size = vs.length := by
      have e0 : ks.length = kA.size := rk.length.trans Array.length_toList
      omega
    obtain ⟨ex, er⟩ := refs_back rv hrf
    -- every key is the pair of its item
    have pr : ∀ p ∈ kA.toList.zip vs, _root_.Srt.IsPair s'.heap p.1 (g (backV p.2)).1 (g (backV p.2)).2 := fun p hp => by
      obtain ⟨i, hi, e⟩ := List.mem_iff_getElem.mp hp
      rw [List.getElem_zip] at e
      have i1 : i < kA.toList.length := by simp at hi; simp; omega
      have i2 : i < vs.length := by simp at hi; omega
      subst e
      obtain ⟨y, gy⟩ : ∃ y, ks[i]? = some y := ⟨_, List.getElem?_eq_getElem (by rw [hl]; exact i2)⟩
      obtain ⟨u, hu, ru⟩ := rk.get gy
      rw [List.getElem?_eq_getElem i1] at hu
      cases hu
      have gx : xs[i]? = some (backV vs[i]) := by rw [ex, List.getElem?_map, List.getElem?_eq_getElem i2]; rfl
      obtain ⟨t, rfl, ht⟩ := KJ.pairs ks H' j' i y _ gy gx
      obtain ⟨_, its2, r2, o2, ho2, hc2, n2, hd2⟩ := I'.hok _ _ ht
      obtain ⟨u1, u2, rfl, ri, rj⟩ := vals2 r2
      obtain ⟨t1, rfl⟩ := ri
      obtain ⟨t2, rfl⟩ := rj
      rw [show kA.toList[i] = Value.ref t from ru]
      exact ⟨t, o2, t1, t2, n2, rfl, ho2, hc2, hd2⟩
    refine wpAny_bind (listItems_at hk' rfl ?_)
    refine SrtO.il_end (lt := fun p q : Keyed => ltP g (backV p.2) (backV q.2)) ⟨fun x y => (ltP_swo g).asym _ _, fun x y z => (ltP_swo g).tr _ _ _⟩ hka hk' ha' hsz (Nat.le_trans (Nat.le_trans (Nat.le_of_eq hlv.symm) hz) (show (100000 : Nat) ≤ sizeLine by decide)) (fun h2 => ?_) fun h' tk c out k1 k2 k3 k4 => ?_
    · -- the keys' kind
      let kf : Value → Int × Int := fun v => match v with
        | .ref t => (match s'.heap.get? t with
          | some o => (match o.data with
            | .seq its _ => (match its[0]?, its[1]? with
              | some (Value.int i _), some (Value.int j _) => (i, j)
              | _, _ => (0, 0))
            | _ => (0, 0))
          | none => (0, 0))
        | _ => (0, 0)
      have kfe : ∀ v i j, _root_.Srt.IsPair s'.heap v i j → kf v = (i, j) := fun v i j hp => by
        obtain ⟨t, o, t1, t2, n, rfl, ho, hc, hd⟩ := hp
        simp only [kf, ho, hd]
        rfl
      have keyOf : ∀ v ∈ kA.toList, ∃ u, (v, u) ∈ kA.toList.zip vs := fun v hv => by
        obtain ⟨i, hi, e⟩ := List.mem_iff_getElem.mp hv
        have i2 : i < vs.length := by simp at hi; omega
        refine ⟨vs[i], List.mem_iff_getElem.mpr ⟨i, by simp; omega, ?_⟩⟩
        rw [List.getElem_zip, e]
      have hp : ∀ v ∈ kA.toList, _root_.Srt.IsPair s'.heap v (kf v).1 (kf v).2 := fun v hv => by
        obtain ⟨u, hu⟩ := keyOf v hv
        have := pr _ hu
        rw [kfe _ _ _ this]
        exact this
      obtain ⟨κ, q1, q2⟩ := SrtO.pairs_sortableO (prog := X.prog) (w := X.w) (A := X.A.in1.in1) (s := s') (a := a) (vs := kA.toList) (k := kf) (by rw [Array.length_toList]; omega) hp (fun o e => by
        rw [ha'] at e
        cases e
        intro c
        exact absurd (Value.type.inj c) (by decide)) s'.heap fun _ _ _ e => e
      refine ⟨κ, fun Q E hq => by have z := q1 Q E hq; rw [Array.toArray_toList] at z; exact z, fun p q hp hq => ?_⟩
      have z := q2 p q (List.of_mem_zip (show (p.1, p.2) ∈ kA.toList.zip vs from hp)).1 (List.of_mem_zip (show (q.1, q.2) ∈ kA.toList.zip vs from hq)).1
      refine wpAny_mono z (fun r s2 e => ?_) fun _ _ x => x
      refine ⟨e.1, e.2.trans ?_⟩
      show SrtO.lexB (kf p.1) (kf q.1) = SrtO.lexB (g (backV p.2)) (g (backV q.2))
      rw [kfe _ _ _ (pr p hp), kfe _ _ _ (pr q hq)]
    · have hm : (kA.toList.zip vs).map (fun p : Keyed => backV p.2) = xs := by
        rw [ex]
        have : (kA.toList.zip vs).map (fun p : Keyed => p.2) = vs := List.map_snd_zip (Nat.le_of_eq (hsz.symm.trans Array.length_toList.symm))
        rw [← this, List.map_map]
        simp only [this]
        rfl
      have hs := SrtO.il_sort_eq (ltP_swo g) (SrtO.srtd_map k3) (SrtO.Stb.map (ltP_swo g) (fun p : Keyed => backV p.2) k4)
      rw [hm] at hs
      have I3 : Inv X pins σ H' { s' with heap := h', toks := tk } := I'.turnedL (ch := [kS, a]) (fun b o hb e => by
        rw [k1 b (fun z => hb (by rw [z]; exact List.mem_cons_self)) (fun z => hb (by rw [z]; exact List.mem_cons_of_mem _ List.mem_cons_self))]
        exact e) (fun b hb => by
        rcases List.mem_cons.mp hb with z | z
        · rw [z]; exact fk'
        · rw [List.mem_singleton.mp z]; exact fa')
      refine h ks H' s' h' tk c j' (by omega) I3 fa' ⟨out.map fun p : Keyed => p.2, k2, ?_⟩
      rw [← hs]
      have : out.map (fun p : Keyed => backV p.2) = (out.map fun p : Keyed => p.2).map backV := by rw [List.map_map]; rfl
      rw [this]
      refine vals_back fun u hu => ?_
      obtain ⟨p, hp, rfl⟩ := List.mem_map.mp hu
      have hp2 := k4.perm.mem_iff.mp hp
      exact er p.2 (List.of_mem_zip (show (p.1, p.2) ∈ kA.toList.zip vs from hp2)).2
end
/-- sorted(xs, key=f) -/
theorem cr_sortedBy {k : Nat} {f : Addr} {fd : FuncData} {ps : List Str} {sp : Sp} {CX : CXT} (F : FnOk X.prog X.w X.K X.mg X.base CX k f fd ps sp) (hr : Room k X.A.in1.in1) (hb : Binds X.K fd ps []) (hx : Passes CX X.deep2 (fun _ _ _ => False)) :
    CallRK X (.builtin "sorted") [Str.ofString "key"] (rSortedBy X.K f sp) := by
  intro pins s σ H vs0 zs us ws Q I r rz hh
  obtain ⟨l, xs, g, J, rfl, rfl, hs, hz, hrf, KJ, j, q⟩ := hh
  obtain ⟨its, rv, hl, hz2⟩ := I.list hs
  obtain ⟨u, rfl, ru⟩ := vals1 r
  obtain rfl : u = Value.ref l := ru
  obtain ⟨u2, rfl, ru2⟩ := vals1 rz
  obtain rfl : u2 = Value.ref f := ru2
  have hlv : xs.length = its.length := rv.length
  have hsl : its.length ≤ sizeLine := Nat.le_trans (Nat.le_trans (Nat.le_of_eq hlv.symm) hz) (show (100000 : Nat) ≤ sizeLine by decide)
  refine call_function_entry_kw kind_sorted plain_sorted entry_sorted (ksk_s1 _ _) ?_
  unfold Builtin.«sorted»
  refine wpAny_bind (m := checkCount "sorted" 1 1 _) (wpAny_pure ?_)
  refine wpAny_bind (collect_list hl.isList ?_ hsl)
  refine wpAny_bind (wpAny_newList ?_ hsl)
  have hsz : ((s.heap.push (seqObj "list" #[] 0)).update s.heap.objs.size (Obj.mapSeq (· ++ its.toArray))).objs.size = s.heap.objs.size + 1 := by
    rw [Heap.size_update, size_push']
  have hoL : (((s.heap.push (seqObj "list" #[] 0)).update s.heap.objs.size (Obj.mapSeq (· ++ its.toArray))).push (seqObj "list" its.toArray 0)).get? (s.heap.objs.size + 1) = some (seqObj "list" its.toArray 0) := by
    rw [← hsz]; exact Heap.get?_push_size _ rfl
  have keep : ∀ b o, s.heap.get? b = some o → (((s.heap.push (seqObj "list" #[] 0)).update s.heap.objs.size (Obj.mapSeq (· ++ its.toArray))).push (seqObj "list" its.toArray 0)).get? b = some o := fun b o e => by
    have hlt : b < s.heap.objs.size := Heap.lt_size e
    refine Heap.get?_push_of_some _ ?_
    rw [Heap.get?_update_ne _ _ _ _ (Nat.ne_of_lt hlt)]
    exact Heap.get?_push_of_some _ e
  show wpAny _ _ _ _ _ { s with heap := ((s.heap.push (seqObj "list" #[] 0)).update s.heap.objs.size (Obj.mapSeq (· ++ its.toArray))).push (seqObj "list" its.toArray 0) }
  rw [hsz]
  refine wpAny_bind (wpAny_holding (wpAny_call_entry_kw slot_list_sort ⟨_, hoL, rfl⟩ entry_list_sort ?body (ksk_l1 _ _)))
  case body =>
    show wpAny (model X.prog X.w) X.A.in1.in1 (Builtin.«list.sort» ⟨[.ref (s.heap.objs.size + 1)], [(Str.ofString "key", .ref f)]⟩) _ _ _
    rw [ksk_t1]
    generalize hh1 : ((s.heap.push (seqObj "list" #[] 0)).update s.heap.objs.size (Obj.mapSeq (· ++ its.toArray))).push (seqObj "list" its.toArray 0) = h1 at hoL keep
    have ha : s.heap.objs.size + 1 < h1.objs.size := Heap.lt_size hoL
    obtain ⟨e1, ho1⟩ : ∃ e1, (h1.update (s.heap.objs.size + 1) (Obj.mapSeq fun _ => (#[] : Array Value))).get? (s.heap.objs.size + 1) = some (seqObj "list" #[] e1) := ⟨_, get?_update_seq hoL fun _ => #[]⟩
    unfold ksk_tree
    refine wpAny_bind (listItems_at hoL rfl ?_)
    refine wpAny_bind (listUpdate_at hoL rfl ?_ (by rw [List.size_toArray]; exact hsl) (Nat.zero_le _))
    refine wpAny_bind (seqEpoch_at ho1 rfl ?_)
    refine wpAny_bind (wpAny_newTuple ?_ (by show its.length ≤ _; exact hsl))
    refine wpAny_bind (wpAny_newList ?_ (Nat.zero_le _))
    refine wpAny_holding ?_
    have hkS : ((h1.update (s.heap.objs.size + 1) (Obj.mapSeq fun _ => (#[] : Array Value))).push (seqObj "tuple" its.toArray 0)).objs.size = h1.objs.size + 1 := by rw [size_push', Heap.size_update]
    have kp : ∀ b o, s.heap.get? b = some o → (((h1.update (s.heap.objs.size + 1) (Obj.mapSeq fun _ => (#[] : Array Value))).push (seqObj "tuple" its.toArray 0)).push (seqObj "list" #[] 0)).get? b = some o := fun b o e => by
      refine Heap.get?_push_of_some _ (Heap.get?_push_of_some _ ?_)
      rw [Heap.get?_update_ne _ _ _ _ (Nat.ne_of_lt (Nat.lt_succ_of_lt (Heap.lt_size e)))]
      exact keep b o e
    have I1 : Inv X pins σ H { s with heap := ((h1.update (s.heap.objs.size + 1) (Obj.mapSeq fun _ => (#[] : Array Value))).push (seqObj "tuple" its.toArray 0)).push (seqObj "list" #[] 0) } := I.kept (t' := s.toks) kp
    have fk : FpOk X pins H ((h1.update (s.heap.objs.size + 1) (Obj.mapSeq fun _ => (#[] : Array Value))).push (seqObj "tuple" its.toArray 0)).objs.size := I.fpOk (by rw [hkS]; exact Nat.le_of_lt (Nat.lt_succ_of_lt (Nat.lt_of_succ_lt ha))) (I.hok.fresh (by rw [hkS]; exact Nat.le_of_lt (Nat.lt_succ_of_lt (Nat.lt_of_succ_lt ha))))
    have fa : FpOk X pins H (s.heap.objs.size + 1) := I.fpOk (Nat.le_succ _) (I.hok.fresh (Nat.le_succ _))
    refine key_rest (X := X) (kS := ((h1.update (s.heap.objs.size + 1) (Obj.mapSeq fun _ => (#[] : Array Value))).push (seqObj "tuple" its.toArray 0)).objs.size) (a := s.heap.objs.size + 1) F hr hb hx (by rw [hkS]; exact Nat.ne_of_gt (Nat.lt_succ_of_lt ha)) I1 fk fa (Heap.get?_push_size _ rfl) (Heap.get?_push_of_some _ (Heap.get?_push_of_some _ ho1)) rv hz hrf KJ j fun ks H' s' h' tk c j' hl' I' fa' ho' => ?_
    obtain ⟨out, e2, r2⟩ := ho'
    refine ⟨_, rfl, ?_⟩
    have hlen : (IL.sortB (ltP g) xs).length = xs.length := (SrtO.il_sort (ltP_swo g) xs).2.len
    refine wpAny_pure ⟨_, rfl, .ref (s.heap.objs.size + 1), upd H' (s.heap.objs.size + 1) (.lst (IL.sortB (ltP g) xs)), ?_, rfl, q ks H' j' hl' _ fa'.1⟩
    exact I'.take (t' := tk) (fun _ _ _ e => e) fa' (o := .lst (IL.sortB (ltP g) xs)) ⟨by rw [hlen]; exact hz2, out, c, r2, e2⟩
end
end L2
end

section
set_option autoImplicit false
set_option linter.all false
set_option Elab.async false
set_option maxRecDepth 100000
set_option maxHeartbeats 1000000
/-! IL: dict(l) of a list of pairs whose first parts are tuples, all unlike -/
namespace IL
open PySem L2 PyProof.Rows
section
variable {X : Cx}
abbrev PrT (X : Cx) (H : Hp) : List Addr → List (Addr × List Key × V) → Prop := Paired fun p kv => SqT X.K H p [.ref kv.1, kv.2.2] ∧ H kv.1 = some (.tup (kv.2.1.map kV))
theorem prt_of {pins : List (Addr × Obj)} {σ : L2.St} {H : Hp} {s : Shared} (I : L2.Inv X pins σ H s) : ∀ {ps : List Addr} {kvs : List (Addr × List Key × V)}, PrT X H ps kvs →
    ∃ qs : List (List Key × Addr × Value), KT H (kvs.map (·.2)) qs ∧ qs.length = ps.length ∧ qs.map (·.1) = kvs.map (·.2.1) ∧ ∀ (j : Nat) (q : List Key × Addr × Value), qs[j]? = some q → ∃ b, ps[j]? = some b ∧ IsTup s.heap b #[.ref q.2.1, q.2.2]
  | _, _, .nil => ⟨[], .nil, rfl, rfl, fun j q e => by simp at e⟩
  | _, _, .cons (a := p) (b := kv) h t => by
    obtain ⟨qs, r, hl, hk, hp⟩ := prt_of I t
    obtain ⟨its, rv, ht, _⟩ := I.tuple h.1
    obtain ⟨u, y, ei, ru, ry⟩ := vals2 rv
    subst ei
    cases ru
    refine ⟨(kv.2.1, kv.1, y) :: qs, .cons ⟨rfl, h.2, ry⟩ r, by rw [List.length_cons, List.length_cons, hl], by rw [List.map_cons, List.map_cons, hk], fun j q e => ?_⟩
    cases j with
    | zero =>
      have e' : (kv.2.1, kv.1, y) = q := Option.some.inj e
      subst e'
      exact ⟨p, rfl, ht⟩
    | succ j =>
      obtain ⟨b, e1, e2⟩ := hp j q (by simpa using e)
      exact ⟨b, by simpa using e1, e2⟩
theorem call_dictPT (hcalm : X.calm = true) (hu : X.A.units + 3 < cLine) : CallR X (.type "dict") (fun xs H Q => ∃ (a : Addr) (ps : List Addr) (kvs : List (Addr × List Key × V)), xs = [.ref a] ∧ SqL X.K H a (ps.map V.ref) ∧ PrT X H ps kvs ∧ (kvs.map (·.2.1)).Nodup ∧
    ∀ p, H p = none → Q (.ref p) (upd H p (.dT (kvs.map (·.2))))) := by
  intro pins s σ H xs us Q I r q
  obtain ⟨a, ps, kvs, ex, hq, hp, nd, q⟩ := q
  subst ex
  obtain ⟨u, eu, rx⟩ := vals1 r
  subst eu
  cases rx
  obtain ⟨its, rv, pl, hz⟩ := I.list hq
  have ei := refs_at rv
  subst ei
  rw [List.length_map] at hz
  obtain ⟨qs, rel, hl, hk, hpr⟩ := prt_of I hp
  obtain ⟨o, n, ho, hc, hd, hdat⟩ := pl
  have tys := kt_tys I.hok rel
  have keyIs : ∀ x ∈ qs, (tupleKind (mixKind X.prog X.w)).is s.heap x.1 x.2.1 := fun x hx => by
    obtain ⟨k, h1, rfl⟩ := tys x hx
    exact key_of I.hok h1
  let psV : List (Value × Value) := qs.map fun q => (.ref q.2.1, q.2.2)
  have lV : psV.length = ps.length := by rw [List.length_map, hl]
  refine call_dict_pairsH (K := List Key) (knd := tupleKind (mixKind X.prog X.w)) (ps := qs) (PairArg.list (prog := X.prog) (w := X.w) a (ps.map Value.ref).toArray (fun j => ps.getD j 0) psV) (I.ok.hd hcalm) (show X.A.in1.in1.units < cLine from ?_) ⟨⟨o, n, ho, hc, hd, hdat⟩, ?_, fun j k v e => ?_⟩ ⟨?_, fun i key v e => ?_⟩ (fun h' hk' x hx => ?_) (by rw [lV]; exact hz) fun h' tk hd' k => ?_
  · show X.A.units + 1 + 1 < cLine
    omega
  · rw [lV]; simp
  · rw [List.getElem?_map] at e
    obtain ⟨q', e1, e2⟩ := Option.map_eq_some_iff.mp e
    cases e2
    obtain ⟨b, h1, h2⟩ := hpr j q' e1
    have hb : ps.getD j 0 = b := by rw [List.getD_eq_getElem?_getD, h1]; rfl
    exact ⟨by show (ps.map Value.ref).toArray[j]? = some (.ref (ps.getD j 0)); rw [hb]; simp [h1], .inl (by show s.heap.IsTuple (ps.getD j 0) _; rw [hb]; exact h2)⟩
  · rw [lV, hl]
  · have e' : psV[i]? = some (key, v) := e
    rw [List.getElem?_map] at e'
    obtain ⟨q', e1, e2⟩ := Option.map_eq_some_iff.mp e'
    cases e2
    exact ⟨_, _, e1, rfl⟩
  · obtain ⟨o', its, n', h1, h2, h3, h4⟩ := keyIs x hx
    exact ⟨o', its, n', hk' _ _ (Nat.ne_of_lt (Heap.lt_size h1)) (by simp) h1, h2, h3, h4⟩
  · have hm : (s.heap.objs.size == sysModules) = false := beq_eq_false_iff_ne.mpr (Nat.ne_of_gt I.big)
    have hfr : H s.heap.objs.size = none := I.hok.fresh (Nat.le_refl _)
    have z : (kvs.map (·.2)).length ≤ sizeLine := by rw [rel.length, hl]; exact hz
    rw [storedAllH_nil_of_nodup qs (by rw [hk]; exact nd)] at hd'
    refine ⟨.ref s.heap.objs.size, upd H s.heap.objs.size (.dT (kvs.map (·.2))), I.laid (t' := tk) (fun b u e => k b u (by simp) e) (Nat.le_refl _)
      (show ObjOk X.prog X.w _ _ _ (.dT (kvs.map (·.2))) from ?_), rfl, q _ hfr⟩
    obtain ⟨o, es, ep, g1, g2, g3, g4, g5, g6⟩ := hd'
    refine ⟨z, hm, qs, Paired.mapP rel fun p q hq => ⟨hq.1, ?_, hq.2.2⟩, o, es, ep, g1, g2, g3, g4, g6⟩
    rw [upd_ne (ne_of_none hq.2.1 hfr)]
    exact hq.2.1
end
end IL
end

section
set_option autoImplicit false
set_option linter.all false
set_option Elab.async false
set_option maxRecDepth 100000
set_option maxHeartbeats 1000000
/-! IL: functions of Python itself. -/
namespace IL
open PySem L2 PyProof.Rows
/-- values of ours and what g makes of them -/
def rL (D : Wd) (W : XK) (g : List Vl → Hh → Rs Vl) : List V → Hp → VK → Prop := fun us H Q => ∃ F μ h vs, CS D F μ h H ∧ RVs D F μ vs us ∧ PostV D F μ H (g vs h) Q W
theorem bools_ok {D : Wd} {F : Hp} {μ : List Addr} : ∀ {vs : List Vl} {us : List V} {bs : List Bool}, RVs D F μ vs us → bools vs = some bs → us = bs.map V.bl
  | [], _, _, .nil, h => by simp only [bools, Option.some.injEq] at h; subst h; rfl
  | .bl b :: vs, _, _, .cons r t, h => by
    simp only [bools, Option.map_eq_some_iff] at h
    obtain ⟨ms, e, rfl⟩ := h
    cases r
    rw [bools_ok t e]
    rfl
  | .non :: _, _, _, _, h => by simp [bools] at h
  | .int _ :: _, _, _, _, h => by simp [bools] at h
  | .str _ :: _, _, _, _, h => by simp [bools] at h
  | .tup _ :: _, _, _, _, h => by simp [bools] at h
  | .lst _ :: _, _, _, _, h => by simp [bools] at h
  | .scr _ :: _, _, _, _, h => by simp [bools] at h
  | .dct _ _ :: _, _, _, _, h => by simp [bools] at h
  | .ins _ _ :: _, _, _, _, h => by simp [bools] at h
  | .ref _ :: _, _, _, _, h => by simp [bools] at h
  | .exn _ :: _, _, _, _, h => by simp [bools] at h
theorem RVs.one {D : Wd} {F : Hp} {μ : List Addr} {v : Vl} {us : List V} (r : RVs D F μ [v] us) : ∃ u, us = [u] ∧ RV D F μ v u := by
  cases r with
  | cons r t => cases t; exact ⟨_, rfl, r⟩
theorem RVs.two {D : Wd} {F : Hp} {μ : List Addr} {v w : Vl} {us : List V} (r : RVs D F μ [v, w] us) : ∃ u x, us = [u, x] ∧ RV D F μ v u ∧ RV D F μ w x := by
  cases r with
  | cons r t =>
    obtain ⟨x, rfl, q⟩ := t.one
    exact ⟨_, x, rfl, r, q⟩
section
variable {D : Wd} {F : Hp} {μ : List Addr} {h : Hh} {H : Hp}
/-- a dict of ours, as it stands -/
theorem asDct_ok (c : CS D F μ h H) {v : Vl} {u : V} (r : RV D F μ v u) {t : Bool} {es : List (Vl × Vl)} (e : asDct h v = some (t, es)) :
    ∃ a, u = .ref a ∧ ((t = true ∧ ∃ kvs, Rd H a (.dT kvs) ∧ RT D F μ es kvs) ∨ (t = false ∧ ∃ kvs, Rd H a (.dK kvs) ∧ RK D F μ es kvs)) := by
  have rd : ∀ {a : Addr} {o : HO}, F a = some o → Rd H a o := fun {a o} e => by
    rcases c.sub _ _ e with q | ⟨ob, q, _⟩
    · exact .inl q
    · exact .inr ⟨ob, q⟩
  cases r with
  | dT hf rt =>
    simp only [asDct, Option.some.injEq, Prod.mk.injEq] at e
    obtain ⟨rfl, rfl⟩ := e
    exact ⟨_, rfl, .inl ⟨rfl, _, rd hf, rt⟩⟩
  | dK hf rt =>
    simp only [asDct, Option.some.injEq, Prod.mk.injEq] at e
    obtain ⟨rfl, rfl⟩ := e
    exact ⟨_, rfl, .inr ⟨rfl, _, rd hf, rt⟩⟩
  | @ref l a hm =>
    simp only [asDct] at e
    split at e
    · rename_i lk t' es' hx
      cases e
      obtain ⟨b, o, e1, e2, e3, e4⟩ := c.ob l _ hx
      rw [hm] at e1
      cases e1
      refine ⟨_, rfl, ?_⟩
      cases e4 with
      | dT rt => exact .inl ⟨rfl, _, .inl e3, rt⟩
      | dK rt => exact .inr ⟨rfl, _, .inl e3, rt⟩
      | lT rt => exact .inl ⟨rfl, _, .inr ⟨_, e3⟩, rt⟩
      | lK rt => exact .inr ⟨rfl, _, .inr ⟨_, e3⟩, rt⟩
    · cases e
  | _ => simp [asDct] at e
theorem RT.len : ∀ {es : List (Vl × Vl)} {kvs : List (List Key × V)}, RT D F μ es kvs → es.length = kvs.length
  | _, _, .nil => rfl
  | _, _, .cons _ t => by simp [RT.len t]
theorem RK.len : ∀ {es : List (Vl × Vl)} {kvs : List (Key × V)}, RK D F μ es kvs → es.length = kvs.length
  | _, _, .nil => rfl
  | _, _, .cons _ t => by simp [RK.len t]
theorem RK.keys {es : List (Vl × Vl)} {kvs : List (Key × V)} (ok : keysInt es = true) (r : RK D F μ es kvs) : RVs D F μ (es.map (·.1)) (kvs.map fun kv => kV kv.1) := by
  induction es generalizing kvs with
  | nil => cases r; exact .nil
  | cons e es ih =>
    cases r with
    | @cons k v u _ kvs r t =>
      simp only [keysInt, List.all_cons, Bool.and_eq_true] at ok
      refine .cons ?_ (ih ok.2 t)
      cases k with
      | inl i => exact .int i
      | inr x => exact absurd ok.1 (by simp [kVl, intKey])
theorem ints_keys : ∀ (ks : List Key), (ks.map kVl).all isIntV = true → RVs D F μ (ks.map kVl) (ks.map kV)
  | [], _ => .nil
  | .inl i :: ks, h => by
    simp only [List.map_cons, List.all_cons, Bool.and_eq_true] at h
    exact .cons (.int i) (ints_keys ks h.2)
  | .inr x :: ks, h => by simp [kVl, isIntV] at h
/-- a tuple that stands in the heap is frozen from now on -/
theorem CS.froze (c : CS D F μ h H) {b : Addr} {us : List V} (hb : H b = some (.tup us)) : ∃ F', CS D F' μ h H ∧ Xt F μ H F' μ H ∧ F' b = some (.tup us) := by
  have fx : FExt F (upd F b (.tup us)) := fun a o e => by
    by_cases q : a = b
    · subst q
      rcases c.sub _ _ e with z | ⟨ob, z, _⟩
      · rw [hb] at z; cases z; exact upd_same
      · rw [hb] at z; cases z
    · rw [upd_ne q]; exact e
  refine ⟨upd F b (.tup us), ⟨fun a o e => ?_, c.len, c.inj, fun l o e => ?_, c.tab.frz (fun _ z => by cases z)⟩, ⟨fx, .refl _, fun _ _ e _ _ => e, fun _ e => e, fun a o e => ?_, fun _ e => .inl e, fun _ _ _ e => e⟩, upd_same⟩
  · by_cases q : a = b
    · subst q; rw [upd_same] at e; cases e; exact .inl hb
    · rw [upd_ne q] at e; exact c.sub a o e
  · obtain ⟨a, u, e1, e2, e3, e4⟩ := c.ob l o e
    refine ⟨a, u, e1, ?_, e3, e4.mono fx (.refl _)⟩
    have q : a ≠ b := fun z => by
      subst z
      rw [hb] at e3; cases e3
      cases e4
    rw [upd_ne q]; exact e2
  · by_cases q : a = b
    · subst q; rw [upd_same] at e; cases e; exact .inr (.inr ⟨_, rfl⟩)
    · rw [upd_ne q] at e; exact .inl e
/-- the keys of a dict as they stand -/
theorem RT.keys {es : List (Vl × Vl)} {kvs : List (List Key × V)} {bs : List Addr} {F : Hp} (c : CS D F μ h H) (ok : keysInt es = true) (r : RT D F μ es kvs) (ik : IsKeys H kvs bs) : ∃ F', CS D F' μ h H ∧ Xt F μ H F' μ H ∧ RVs D F' μ (es.map (·.1)) (bs.map V.ref) := by
  induction es generalizing kvs bs F with
  | nil =>
    cases r
    cases ik
    exact ⟨F, c, .refl _ _ _, .nil⟩
  | cons e es ih =>
    cases r with
    | @cons ks v u _ kvs r t =>
      cases ik with
      | cons hb tb =>
        simp only [keysInt, List.all_cons, Bool.and_eq_true] at ok
        obtain ⟨F1, c1, x1, e1⟩ := c.froze hb
        obtain ⟨F2, c2, x2, r2⟩ := ih c1 ok.2 (t.mono x1.f x1.m) tb
        refine ⟨F2, c2, x1.trans x2, .cons (.tup (x2.f _ _ e1) (ints_keys ks ?_)) r2⟩
        simpa [intKey] using ok.1
end
section
variable {X : Cx} {D : Wd} {W : XK}
theorem cr_len (hK : X.K = D.K) : CallR X (.builtin "len") (rL D W (bltV .len)) := by
  intro pins s σ H us vs Q I r hh
  obtain ⟨F, μ, h, xs, c, rs, p⟩ := hh
  match xs, rs, p with
  | [x], rs, p =>
    obtain ⟨u, rfl, ru⟩ := rs.one
    obtain ⟨_, e, p⟩ := post_of p
    simp only [Option.map_eq_some_iff] at e
    obtain ⟨n, e, rfl⟩ := e
    by_cases hd : asSeq h x = none ∧ ∃ t es, asDct h x = some (t, es)
    · obtain ⟨hs, t, es, hd⟩ := hd
      have hn : n = es.length := by
        unfold lenV at e
        split at e
        · simp [asDct] at hd
        · rw [hs, hd] at e
          cases e
          rfl
      subst hn
      obtain ⟨a, rfl, q⟩ := asDct_ok c ru hd
      cases r with
      | cons rx rr =>
        cases rr
        obtain rfl : _ = Value.ref a := rx
        rcases q with ⟨_, kvs, hr, rt⟩ | ⟨_, kvs, hr, rt⟩
        · obtain ⟨z, lo, ys, rel, dd⟩ := dt_rd I.hok hr
          have hl : kvs.length = ys.length := Paired.length rel
          refine call_len_dictH lo dd (by rw [← hl]; rw [sizeLine_eq] at z; omega) ?_
          rw [← hl, ← rt.len]
          exact ⟨.int ((es.length : Nat) : Int), H, I.tok _, ⟨_, rfl⟩, post_same c (.int _) p⟩
        · obtain ⟨z, lo, ys, rel, dd⟩ := dk_rd I.hok hr
          refine call_len_dict lo dd (by rw [← rel.length]; rw [sizeLine_eq] at z; omega) ?_
          rw [← rel.length, ← rt.len]
          exact ⟨.int ((es.length : Nat) : Int), H, I.tok _, ⟨_, rfl⟩, post_same c (.int _) p⟩
    have nd : asSeq h x = none → ∀ o, (match asDct h x with
      | some (_, es) => some es.length
      | none => none) ≠ some o := fun hs o ho => hd ⟨hs, by
        split at ho
        · rename_i t es he
          exact ⟨t, es, he⟩
        · cases ho⟩
    refine call_len pins s σ H _ vs Q I r ⟨u, (n : Nat), rfl, ?_, post_same c (.int _) p⟩
    unfold lenV at e
    split at e
    · cases ru with
      | str k =>
        split at e
        · rename_i z hz
          cases e
          exact ⟨Nat.le_trans (by simpa [Str.length] using hz) (by decide), by simp [Str.length]⟩
        · cases e
    · split at e
      · rename_i ws ha
        cases e
        obtain ⟨l, us, rfl, sq, rq⟩ := asSeq_ok c ru ha
        rcases sq with sq | sq
        · exact .inl ⟨us, hK ▸ sq, by rw [rq.length]⟩
        · exact .inr ⟨us, hK ▸ sq, by rw [rq.length]⟩
      · rename_i hs
        exact absurd e (nd hs n)
  | [], _, p => exact p.elim
  | _ :: _ :: _, _, p => exact p.elim
theorem cr_allV (hc : X.calm = true) : CallR X (.builtin "all") (rL D W (bltV .all)) := by
  intro pins s σ H us vs Q I r hh
  obtain ⟨F, μ, h, xs, c, rs, p⟩ := hh
  match xs, rs, p with
  | [x], rs, p =>
    obtain ⟨u, rfl, ru⟩ := rs.one
    simp only [bltV] at p
    split at p
    · rename_i ys hy
      obtain ⟨_, e, p⟩ := post_of p
      simp only [Option.map_eq_some_iff] at e
      obtain ⟨bs, e, rfl⟩ := e
      obtain ⟨l, ws, rfl, hl, rq⟩ := asList_ok c ru hy
      rw [bools_ok rq e] at hl
      exact cr_all hc pins s σ H _ vs Q I r ⟨l, bs, rfl, .of hl, post_same c (.bl _) p⟩
    · exact p.elim
  | [], _, p => exact p.elim
  | _ :: _ :: _, _, p => exact p.elim
theorem cr_anyV (hc : X.calm = true) : CallR X (.builtin "any") (rL D W (bltV .any)) := by
  intro pins s σ H us vs Q I r hh
  obtain ⟨F, μ, h, xs, c, rs, p⟩ := hh
  match xs, rs, p with
  | [x], rs, p =>
    obtain ⟨u, rfl, ru⟩ := rs.one
    simp only [bltV] at p
    split at p
    · rename_i ys hy
      obtain ⟨_, e, p⟩ := post_of p
      simp only [Option.map_eq_some_iff] at e
      obtain ⟨bs, e, rfl⟩ := e
      obtain ⟨l, ws, rfl, hl, rq⟩ := asList_ok c ru hy
      rw [bools_ok rq e] at hl
      exact cr_any hc pins s σ H _ vs Q I r ⟨l, bs, rfl, .of hl, post_same c (.bl _) p⟩
    · exact p.elim
  | [], _, p => exact p.elim
  | _ :: _ :: _, _, p => exact p.elim
theorem cr_listV (hc : X.calm = true) (hK : X.K = D.K) (m : Bool) : CallR X (.type "list") (rL D W (bltV (.list m))) := by
  intro pins s σ H us vs Q I r hh
  obtain ⟨F, μ, h, xs, c, rs, p⟩ := hh
  match xs, rs, p with
  | [x], rs, p =>
    obtain ⟨u, rfl, ru⟩ := rs.one
    simp only [bltV] at p
    split at p
    · rename_i ys hy
      unfold asAny at hy
      split at hy
      · rename_i hs
        cases hy
        obtain ⟨l, ws, rfl, sq, rq⟩ := asSeq_ok c ru hs
        exact call_list_of pins s σ H _ vs Q I r ⟨l, ws, rfl, hK ▸ sq, fun q hq => place_lst m c rq p hq⟩
      · split at hy
        · rename_i t es he
          split at hy
          · rename_i hi
            cases hy
            obtain ⟨a, rfl, q⟩ := asDct_ok c ru he
            rcases q with ⟨_, kvs, hr, rt⟩ | ⟨_, kvs, hr, rt⟩
            · refine call_list_dT hc pins s σ H _ vs Q I r ⟨a, kvs, rfl, hr, fun q bs hq ik => ?_⟩
              obtain ⟨F', c', x', rq⟩ := RT.keys c hi rt ik
              exact place_lst m c' rq (Post.from x' p) hq
            · exact call_listD hc pins s σ H _ vs Q I r ⟨a, kvs, rfl, hr, fun q hq => place_lst m c (RK.keys hi rt) p hq⟩
          · cases hy
        · cases hy
    · exact p.elim
  | [], _, p => exact p.elim
  | _ :: _ :: _, _, p => exact p.elim
theorem cr_tupleV (hK : X.K = D.K) : CallR X (.type "tuple") (rL D W (bltV .tuple)) := by
  intro pins s σ H us vs Q I r hh
  obtain ⟨F, μ, h, xs, c, rs, p⟩ := hh
  match xs, rs, p with
  | [x], rs, p =>
    obtain ⟨u, rfl, ru⟩ := rs.one
    simp only [bltV] at p
    split at p
    · rename_i ys hy
      cases ru with
      | tup hf rq =>
        cases hy
        exact call_tuple_of pins s σ H _ vs Q I r ⟨_, _, rfl, .inr ⟨.of (c.sub.tup hf), post_same c (.tup hf rq) p⟩⟩
      | scr hf rq =>
        cases hy
        exact call_tuple_of pins s σ H _ vs Q I r ⟨_, _, rfl, .inl ⟨hK ▸ c.sub.sqL hf, fun q hq => post_tup c rq p hq⟩⟩
      | lst hf rq =>
        obtain ⟨l, ws, e, sq, rq'⟩ := asList_ok c (.lst hf rq) hy
        cases e
        exact call_tuple_of pins s σ H _ vs Q I r ⟨_, _, rfl, .inl ⟨.of sq, fun q hq => post_tup c rq' p hq⟩⟩
      | ref hm =>
        obtain ⟨l, ws, e, sq, rq'⟩ := asList_ok c (.ref hm) hy
        cases e
        exact call_tuple_of pins s σ H _ vs Q I r ⟨_, _, rfl, .inl ⟨.of sq, fun q hq => post_tup c rq' p hq⟩⟩
      | _ => simp [asSeq, asList] at hy
    · exact p.elim
  | [], _, p => exact p.elim
  | _ :: _ :: _, _, p => exact p.elim
theorem max_mem : ∀ (xs : List Int) (x : Int), xs.foldl max x ∈ x :: xs ∧ ∀ y ∈ x :: xs, y ≤ xs.foldl max x
  | [], x => ⟨by simp, fun y hy => by simp at hy; subst hy; exact Int.le_refl _⟩
  | z :: xs, x => by
    obtain ⟨h1, h2⟩ := max_mem xs (max x z)
    refine ⟨?_, fun y hy => ?_⟩
    · simp only [List.foldl_cons]
      rcases List.mem_cons.mp h1 with e | e
      · rw [e]
        rcases (show max x z = x ∨ max x z = z by omega) with q | q <;> rw [q] <;> simp
      · exact List.mem_cons_of_mem _ (List.mem_cons_of_mem _ e)
    · simp only [List.foldl_cons]
      have h3 := h2 (max x z) (by simp)
      rcases List.mem_cons.mp hy with e | e
      · subst e; omega
      · rcases List.mem_cons.mp e with e | e
        · subst e; omega
        · exact h2 y (List.mem_cons_of_mem _ e)
theorem cr_maxV (hc : X.calm = true) : CallR X (.builtin "max") (rL D W (bltV .max)) := by
  intro pins s σ H us vs Q I r hh
  obtain ⟨F, μ, h, xs, c, rs, p⟩ := hh
  simp only [bltV] at p
  split at p
  · obtain ⟨u, rfl, ru⟩ := rs.one
    split at p
    · rename_i ys hy
      obtain ⟨_, e, p⟩ := post_of p
      simp only [Option.map_eq_some_iff] at e
      obtain ⟨k, e, rfl⟩ := e
      obtain ⟨ns, e1, e2⟩ := Option.bind_eq_some_iff.mp e
      obtain ⟨l, ws, rfl, hl, rq⟩ := asList_ok c ru hy
      rw [ints_ok rq e1] at hl
      cases ns with
      | nil => simp [maxI] at e2
      | cons n ns =>
        simp only [maxI, Option.some.injEq] at e2
        obtain ⟨m1, m2⟩ := max_mem ns n
        refine cr_max hc pins s σ H _ vs Q I r ⟨l, n :: ns, rfl, .of hl, by simp, fun m hm hle => ?_⟩
        have a1 := m2 m hm
        have a2 := hle _ m1
        have a3 : m = k := by omega
        subst a3
        exact post_same c (.int _) p
    · exact p.elim
  · split at p
    · rename_i i j e
      have e1 := ints_ok rs e
      subst e1
      exact call_max2 hc pins s σ H _ vs Q I r ⟨i, j, rfl, post_same c (.int _) p⟩
    · exact p.elim
theorem min_mem : ∀ (xs : List Int) (x : Int), xs.foldl min x ∈ x :: xs ∧ ∀ y ∈ x :: xs, xs.foldl min x ≤ y
  | [], x => ⟨by simp, fun y hy => by simp at hy; subst hy; exact Int.le_refl _⟩
  | z :: xs, x => by
    obtain ⟨h1, h2⟩ := min_mem xs (min x z)
    refine ⟨?_, fun y hy => ?_⟩
    · simp only [List.foldl_cons]
      rcases List.mem_cons.mp h1 with e | e
      · rw [e]
        rcases (show min x z = x ∨ min x z = z by omega) with q | q <;> rw [q] <;> simp
      · exact List.mem_cons_of_mem _ (List.mem_cons_of_mem _ e)
    · simp only [List.foldl_cons]
      have h3 := h2 (min x z) (by simp)
      rcases List.mem_cons.mp hy with e | e
      · subst e; omega
      · rcases List.mem_cons.mp e with e | e
        · subst e; omega
        · exact h2 y (List.mem_cons_of_mem _ e)
theorem cr_minV (hc : X.calm = true) : CallR X (.builtin "min") (rL D W (bltV .min)) := by
  intro pins s σ H us vs Q I r hh
  obtain ⟨F, μ, h, xs, c, rs, p⟩ := hh
  simp only [bltV] at p
  split at p
  · obtain ⟨u, rfl, ru⟩ := rs.one
    split at p
    · rename_i ys hy
      obtain ⟨_, e, p⟩ := post_of p
      simp only [Option.map_eq_some_iff] at e
      obtain ⟨k, e, rfl⟩ := e
      obtain ⟨ns, e1, e2⟩ := Option.bind_eq_some_iff.mp e
      obtain ⟨l, ws, rfl, hl, rq⟩ := asList_ok c ru hy
      rw [ints_ok rq e1] at hl
      cases ns with
      | nil => simp [minI] at e2
      | cons n ns =>
        simp only [minI, Option.some.injEq] at e2
        obtain ⟨m1, m2⟩ := min_mem ns n
        refine cr_min hc pins s σ H _ vs Q I r ⟨l, n :: ns, rfl, .of hl, by simp, fun m hm hle => ?_⟩
        have a1 := m2 m hm
        have a2 := hle _ m1
        have a3 : m = k := by omega
        subst a3
        exact post_same c (.int _) p
    · exact p.elim
  · split at p
    · rename_i i j e
      have e1 := ints_ok rs e
      subst e1
      exact call_min2 hc pins s σ H _ vs Q I r ⟨i, j, rfl, post_same c (.int _) p⟩
    · exact p.elim
theorem cr_sumV (hc : X.calm = true) : CallR X (.builtin "sum") (rL D W (bltV .sum)) := by
  intro pins s σ H us vs Q I r hh
  obtain ⟨F, μ, h, xs, c, rs, p⟩ := hh
  match xs, rs, p with
  | [x], rs, p =>
    obtain ⟨u, rfl, ru⟩ := rs.one
    simp only [bltV] at p
    split at p
    · rename_i ys hy
      obtain ⟨_, e, p⟩ := post_of p
      simp only [Option.map_eq_some_iff] at e
      obtain ⟨ns, e, rfl⟩ := e
      obtain ⟨l, ws, rfl, hl, rq⟩ := asList_ok c ru hy
      rw [ints_ok rq e] at hl
      exact cr_sum hc pins s σ H _ vs Q I r ⟨l, ns, rfl, .of hl, post_same c (.int _) p⟩
    · exact p.elim
  | [], _, p => exact p.elim
  | _ :: _ :: _, _, p => exact p.elim
theorem cr_intV : CallR X (.type "int") (rL D W (bltV .int)) := by
  intro pins s σ H us vs Q I r hh
  obtain ⟨F, μ, h, xs, c, rs, p⟩ := hh
  match xs, rs, p with
  | [x], rs, p =>
    obtain ⟨u, rfl, ru⟩ := rs.one
    simp only [bltV] at p
    split at p
    · cases ru
      exact call_int1 pins s σ H _ vs Q I r (.inl ⟨_, rfl, post_same c (.int _) p⟩)
    · cases ru
      exact call_int1 pins s σ H _ vs Q I r (.inr ⟨_, rfl, post_same c (.int _) p⟩)
    · exact p.elim
  | [], _, p => exact p.elim
  | _ :: _ :: _, _, p => exact p.elim
/-- the hashes of stamps -/
def stampHash (c h : Int) : Int := reduceHash (Builtin.Tuple.tupleHashOf [hashInt c, hashInt h])
def clocksU : List Int := (List.range 96).map (fun n : Nat => (n : Int)) ++ (List.range 16).map (fun n : Nat => (999000 + n : Int)) ++ [1000000]
def stampsU : List (Int × Int) := clocksU.flatMap fun c => [(c, 0), (c, 1), (c, 2)]
def apartI : List Int → Bool
  | [] => true
  | x :: xs => xs.all (fun y => !(x == y)) && apartI xs
theorem apartI_nd : ∀ {l : List Int}, apartI l = true → l.Nodup
  | [], _ => List.nodup_nil
  | x :: xs, h => by
    simp only [apartI, Bool.and_eq_true, List.all_eq_true, Bool.not_eq_true', beq_eq_false_iff_ne] at h
    exact List.nodup_cons.mpr ⟨fun m => h.1 x m rfl, apartI_nd h.2⟩
theorem hashes_apart : (stampsU.map fun s => stampHash s.1 s.2).Nodup := apartI_nd (by decide +kernel)
theorem stampKey_mem {v : Vl} (h : stampKey v = true) : ∃ s ∈ stampsU, v = .tup [.int s.1, .int s.2] := by
  unfold stampKey at h
  split at h
  · rename_i c k
    simp only [Bool.and_eq_true, decide_eq_true_eq] at h
    refine ⟨(c, k), List.mem_flatMap.mpr ⟨c, ?_, ?_⟩, rfl⟩
    · unfold clocksU
      rcases h.2 with q | q | q
      · refine List.mem_append_left _ (List.mem_append_left _ (List.mem_map.mpr ⟨c.toNat, List.mem_range.mpr (by omega), by omega⟩))
      · refine List.mem_append_left _ (List.mem_append_right _ (List.mem_map.mpr ⟨(c - 999000).toNat, List.mem_range.mpr (by omega), by omega⟩))
      · refine List.mem_append_right _ (by rw [q]; exact List.mem_cons_self)
    · have : k = 0 ∨ k = 1 ∨ k = 2 := by omega
      rcases this with rfl | rfl | rfl <;> simp
  · cases h
theorem nd_of_map {α β : Type} {f : α → β} : ∀ {l : List α}, (l.map f).Nodup → l.Nodup
  | [], _ => List.nodup_nil
  | a :: l, h => by
    obtain ⟨n1, n2⟩ := List.nodup_cons.mp h
    exact List.nodup_cons.mpr ⟨fun m => n1 (List.mem_map.mpr ⟨a, m, rfl⟩), nd_of_map n2⟩
theorem nodup_inj {α β : Type} {f : α → β} : ∀ {l : List α}, (l.map f).Nodup → ∀ {x y : α}, x ∈ l → y ∈ l → f x = f y → x = y
  | [], _, _, _, hx, _, _ => nomatch hx
  | a :: l, nd, x, y, hx, hy, e => by
    obtain ⟨n1, n2⟩ := List.nodup_cons.mp nd
    rcases List.mem_cons.mp hx with e1 | h1
    · rcases List.mem_cons.mp hy with e2 | h2
      · rw [e1, e2]
      · exact absurd (List.mem_map.mpr ⟨y, h2, by rw [← e, e1]⟩) n1
    · rcases List.mem_cons.mp hy with e2 | h2
      · exact absurd (List.mem_map.mpr ⟨x, h1, by rw [e, e2]⟩) n1
      · exact nodup_inj n2 h1 h2 e
theorem kvl_ints {ks : List Key} {s : Int × Int} (e : Vl.tup (ks.map kVl) = .tup [.int s.1, .int s.2]) : ks = [.inl s.1, .inl s.2] := by
  simp only [Vl.tup.injEq] at e
  match ks, e with
  | [.inl a, .inl b], e => simp [kVl] at e; rw [e.1, e.2]
  | [], e => simp at e
  | [_], e => simp at e
  | [.inr _, _], e => simp [kVl] at e
  | [.inl _, .inr _], e => simp [kVl] at e
  | _ :: _ :: _ :: _, e => simp at e
theorem rt_hash {D : Wd} {F : Hp} {μ : List Addr} {P : Program} {w : World} {es : List (Vl × Vl)} {kvs : List (List Key × V)} (r : RT D F μ es kvs) (h : (es.all fun e => stampKey e.1) = true) : ∃ ss : List (Int × Int), (∀ s ∈ ss, s ∈ stampsU) ∧ kvs.map (·.1) = ss.map fun s => [Sum.inl s.1, Sum.inl s.2] := by
  induction es generalizing kvs with
  | nil => cases r; exact ⟨[], ⟨fun s hs => absurd hs (by simp), rfl⟩⟩
  | cons e es ih =>
    cases r with
    | @cons ks v u _ kvs r t =>
      rw [List.all_cons, Bool.and_eq_true] at h
      obtain ⟨ss, h1, h2⟩ := ih t h.2
      obtain ⟨s, hs, e⟩ := stampKey_mem h.1
      refine ⟨s :: ss, fun x hx => ?_, ?_⟩
      · rcases List.mem_cons.mp hx with q | q
        · rw [q]; exact hs
        · exact h1 x q
      · rw [List.map_cons, h2, kvl_ints e]
        rfl
theorem hash_nd {P : Program} {w : World} {kvs : List (List Key × V)} {ss : List (Int × Int)} (h1 : ∀ s ∈ ss, s ∈ stampsU) (h2 : kvs.map (·.1) = ss.map fun s => [Sum.inl s.1, Sum.inl s.2]) (nd : (kvs.map (·.1)).Nodup) : (kvs.map fun kv => tupleKeyHash (mixKind P w) kv.1).Nodup := by
  have e : (kvs.map fun kv => tupleKeyHash (mixKind P w) kv.1) = ss.map fun s => stampHash s.1 s.2 := by
    have := congrArg (List.map (tupleKeyHash (mixKind P w))) h2
    rw [List.map_map, List.map_map] at this
    exact this
  rw [e]
  have nds : ss.Nodup := by
    rw [h2] at nd
    exact nd_of_map nd
  clear nd h2 e
  induction ss with
  | nil => exact List.nodup_nil
  | cons s ss ih =>
    obtain ⟨n1, n2⟩ := List.nodup_cons.mp nds
    refine List.nodup_cons.mpr ⟨fun m => ?_, ih (fun x hx => h1 x (List.mem_cons_of_mem _ hx)) n2⟩
    obtain ⟨t, ht, e⟩ := List.mem_map.mp m
    have := nodup_inj hashes_apart (h1 t (List.mem_cons_of_mem _ ht)) (h1 s List.mem_cons_self) e
    exact n1 (by rw [← this]; exact ht)
theorem place_dT (m : Bool) {F : Hp} {μ : List Addr} {h : Hh} {H : Hp} (c : CS D F μ h H) {es : List (Vl × Vl)} {kvs : List (List Key × V)} (r : RT D F μ es kvs) {Q : V → Hp → Prop} {W : XK} (p : PostV D F μ H (place m (.ok (.dct true es) h)) Q W) {a : Addr} (ha : H a = none) : Q (.ref a) (upd H a (.dT kvs)) := by
  cases m with
  | false =>
    obtain ⟨c', x⟩ := c.new ha (.dT kvs)
    exact p _ _ _ _ x c' (.dT upd_same (r.mono x.f x.m))
  | true =>
    have p : PostV D F μ H (.ok (.ref h.length) (h ++ [.dct false true es])) Q W := p
    obtain ⟨c', x⟩ := c.place (o := .dct false true es) (u := .dT kvs) ha (.dT (r.mono (.refl _) ⟨[a], rfl⟩))
    exact p _ _ _ _ x c' (.ref (by rw [c.len, List.getElem?_append_right (Nat.le_refl _)]; simp))
theorem place_dK (m : Bool) {F : Hp} {μ : List Addr} {h : Hh} {H : Hp} (c : CS D F μ h H) {es : List (Vl × Vl)} {kvs : List (Key × V)} (r : RK D F μ es kvs) {Q : V → Hp → Prop} {W : XK} (p : PostV D F μ H (place m (.ok (.dct false es) h)) Q W) {a : Addr} (ha : H a = none) : Q (.ref a) (upd H a (.dK kvs)) := by
  cases m with
  | false =>
    obtain ⟨c', x⟩ := c.new ha (.dK kvs)
    exact p _ _ _ _ x c' (.dK upd_same (r.mono x.f x.m))
  | true =>
    have p : PostV D F μ H (.ok (.ref h.length) (h ++ [.dct false false es])) Q W := p
    obtain ⟨c', x⟩ := c.place (o := .dct false false es) (u := .dK kvs) ha (.dK (r.mono (.refl _) ⟨[a], rfl⟩))
    exact p _ _ _ _ x c' (.ref (by rw [c.len, List.getElem?_append_right (Nat.le_refl _)]; simp))
theorem dt_nd {P : Program} {w : World} {H : Hp} {h : Heap} {a : Addr} {kvs : List (List Key × V)} (ok : HOk P w H h) (hr : Rd H a (.dT kvs)) : (kvs.map (·.1)).Nodup := by
  obtain ⟨z, lo, ys, rel, dd⟩ := dt_rd ok hr
  rw [kt_keys rel]
  obtain ⟨_, _, _, _, _, _, _, _, nd⟩ := dd
  exact nd
theorem prs_rel {D : Wd} {F : Hp} {μ : List Addr} {h : Hh} {H : Hp} {X : Cx} (c : CS D F μ h H) : ∀ {ys : List Vl} {ws : List V} {es : List (Vl × Vl)}, RVs D F μ ys ws → mapO pairOf ys = some es → (es.all fun e => isPair e.1) = true → apart (es.map (·.1)) = true →
    ∃ (ps : List Addr) (kvs : List (Addr × List Key × V)), ws = ps.map V.ref ∧ PrT X H ps kvs ∧ RT D F μ es (kvs.map (·.2)) ∧ (kvs.map (·.2.1)).Nodup ∧ ∀ ks ∈ kvs.map (·.2.1), ∃ x y, ks = [Sum.inl x, Sum.inl y] ∧ ∃ e ∈ es, e.1 = .tup [.int x, .int y]
  | [], ws, es, rq, he, _, _ => by
    cases rq
    cases he
    exact ⟨[], [], rfl, .nil, .nil, List.nodup_nil, fun ks hk => by cases hk⟩
  | y :: ys, ws, es, rq, he, ha, hp => by
    cases rq with
    | @cons _ u _ us ry rs =>
      simp only [mapO] at he
      split at he
      · rename_i e0 h1
        split at he
        · rename_i r0 h2
          cases he
          rw [List.all_cons, Bool.and_eq_true] at ha
          rw [List.map_cons, apart, Bool.and_eq_true] at hp
          obtain ⟨ps, kvs, e1, pr, rt, nd, mem⟩ := prs_rel c rs h2 ha.2 hp.2
          unfold pairOf at h1
          split at h1
          · rename_i k v
            cases h1
            have hk : isPair k = true := ha.1
            obtain ⟨x, z, rfl⟩ : ∃ x z, k = .tup [.int x, .int z] := by
              unfold isPair at hk
              split at hk
              · exact ⟨_, _, rfl⟩
              · cases hk
            · skip
              cases ry with
              | tup hf rk =>
                cases rk with
                | cons r1 rk =>
                  cases rk with
                  | cons r2 rk =>
                    cases rk
                    cases r1 with
                    | tup hf1 rk1 =>
                      cases rk1 with
                      | cons q1 rk1 =>
                        cases rk1 with
                        | cons q2 rk1 =>
                          cases rk1
                          cases q1
                          cases q2
                          refine ⟨_ :: ps, (_, [Sum.inl x, Sum.inl z], _) :: kvs, by rw [e1]; rfl, .cons ⟨.of (c.sub.tup hf), c.sub.tup hf1⟩ pr, RT.cons (ks := [Sum.inl x, Sum.inl z]) r2 rt, ?_, ?_⟩
                          · rw [List.map_cons, List.nodup_cons]
                            refine ⟨fun m => ?_, nd⟩
                            obtain ⟨x', z', ek, e', he', ee⟩ := mem _ m
                            cases ek
                            have := hp.1
                            rw [Bool.not_eq_true', List.any_eq_false] at this
                            refine this e'.1 (List.mem_map.mpr ⟨e', he', rfl⟩) ?_
                            rw [ee]
                            simp [eqv, eqvs]
                          · intro ks hk'
                            rw [List.map_cons] at hk'
                            rcases List.mem_cons.mp hk' with q | q
                            · exact ⟨x, z, q, _, List.mem_cons_self, rfl⟩
                            · obtain ⟨x', z', a1, e', a2, a3⟩ := mem _ q
                              exact ⟨x', z', a1, e', List.mem_cons_of_mem _ a2, a3⟩
          · cases h1
        · cases he
      · cases he
theorem cr_dictV (hu : X.A.units + 65 < cLine) (hc : X.calm = true) (m : Bool) : CallR X (.type "dict") (rL D W (bltV (.dict m))) := by
  intro pins s σ H us vs Q I r hh
  obtain ⟨F, μ, h, xs, c, rs, p⟩ := hh
  match xs, rs, p with
  | [x], rs, p =>
    obtain ⟨u, rfl, ru⟩ := rs.one
    simp only [bltV] at p
    split at p
    · rename_i t es he
      split at p
      · rename_i hk
        obtain ⟨a, rfl, q⟩ := asDct_ok c ru he
        rcases q with ⟨rfl, kvs, hr, rt⟩ | ⟨rfl, kvs, hr, rt⟩
        · rw [Bool.not_true, Bool.false_or] at hk
          obtain ⟨ss, h1, h2⟩ := rt_hash (P := X.prog) (w := X.w) rt hk
          exact call_dictT (by omega) pins s σ H _ vs Q I r ⟨a, kvs, rfl, hr, hash_nd h1 h2 (dt_nd I.hok hr), fun q hq => place_dT m c rt p hq⟩
        · exact call_dictD pins s σ H _ vs Q I r ⟨a, kvs, rfl, hr, fun q hq => place_dK m c rt p hq⟩
      · exact p.elim
    · split at p
      · rename_i ys hy
        split at p
        · rename_i es he
          split at p
          · rename_i hk
            rw [Bool.and_eq_true] at hk
            obtain ⟨a, ws, rfl, hl, rq⟩ := asList_ok c ru hy
            obtain ⟨ps, kvs, e1, pr, rt, nd, _⟩ := prs_rel (X := X) c rq he hk.1 hk.2
            rw [e1] at hl
            exact call_dictPT hc (by omega) pins s σ H _ vs Q I r ⟨a, ps, kvs, rfl, .of hl, pr, nd, fun q hq => place_dT m c rt p hq⟩
          · exact p.elim
        · exact p.elim
      · exact p.elim
  | [], _, p => exact p.elim
  | _ :: _ :: _, _, p => exact p.elim
/-! ### sorting, by values -/
theorem ltV_int (d : Nat) (i j : Int) : ltV (d + 1) (.int i) (.int j) = some (decide (i < j)) := rfl
theorem ltB_int (i j : Int) : ltB (.int i) (.int j) = decide (i < j) := by
  unfold ltB
  rw [ltV_int]
  cases decide (i < j) <;> rfl
theorem ltB_pair (a b c d : Int) : ltB (.tup [.int a, .int b]) (.tup [.int c, .int d]) = SrtO.lexB (a, b) (c, d) := by
  unfold ltB SrtO.lexB
  have e : ltV deep (.tup [.int a, .int b]) (.tup [.int c, .int d]) = (if eqv (.int a) (.int c) then (if eqv (.int b) (.int d) then some false else some (decide (b < d))) else some (decide (a < c))) := rfl
  rw [e]
  have e1 : eqv (.int a) (.int c) = decide (a = c) := by simp only [eqv]; by_cases q : a = c <;> simp [q]
  have e2 : eqv (.int b) (.int d) = decide (b = d) := by simp only [eqv]; by_cases q : b = d <;> simp [q]
  rw [e1, e2]
  by_cases q : a = c
  · by_cases q' : b = d
    · simp [q, q']
    · simp only [q, q', decide_true, decide_false, if_true, Bool.false_eq_true, if_false]
      cases decide (b < d) <;> rfl
  · simp only [q, decide_false, Bool.false_eq_true, if_false]
    cases decide (a < c) <;> rfl
theorem ins_map {α β : Type} {f : α → β} {lt : α → α → Bool} {lt' : β → β → Bool} (x : α) : ∀ ys : List α, (∀ y ∈ ys, lt' (f x) (f y) = lt x y) → insB lt' (f x) (ys.map f) = (insB lt x ys).map f
  | [], _ => rfl
  | y :: ys, h => by
    simp only [List.map_cons, insB, h y List.mem_cons_self]
    split
    · rfl
    · rw [ins_map x ys fun z hz => h z (List.mem_cons_of_mem _ hz)]
      rfl
theorem mem_ins {α : Type} {lt : α → α → Bool} {x z : α} : ∀ {ys : List α}, z ∈ insB lt x ys → z = x ∨ z ∈ ys
  | [], h => by simp [insB] at h; exact .inl h
  | y :: ys, h => by
    unfold insB at h
    split at h
    · rcases List.mem_cons.mp h with q | q
      · exact .inl q
      · exact .inr q
    · rcases List.mem_cons.mp h with q | q
      · exact .inr (by rw [q]; exact List.mem_cons_self)
      · rcases mem_ins q with q | q
        · exact .inl q
        · exact .inr (List.mem_cons_of_mem _ q)
theorem sort_map_aux {α β : Type} {f : α → β} {lt : α → α → Bool} {lt' : β → β → Bool} : ∀ (xs acc : List α), (∀ x ∈ xs ++ acc, ∀ y ∈ xs ++ acc, lt' (f x) (f y) = lt x y) → (xs.map f).foldl (fun a x => insB lt' x a) (acc.map f) = (xs.foldl (fun a x => insB lt x a) acc).map f
  | [], _, _ => rfl
  | x :: xs, acc, h => by
    simp only [List.map_cons, List.foldl_cons]
    rw [ins_map x acc fun y hy => h x (by simp) y (by simp [hy])]
    refine sort_map_aux xs _ fun y hy z hz => h y ?_ z ?_
    · rcases List.mem_append.mp hy with q | q
      · simp [q]
      · rcases mem_ins q with q | q <;> simp [q]
    · rcases List.mem_append.mp hz with q | q
      · simp [q]
      · rcases mem_ins q with q | q <;> simp [q]
theorem sort_map {α β : Type} {f : α → β} {lt : α → α → Bool} {lt' : β → β → Bool} {xs : List α} (h : ∀ x ∈ xs, ∀ y ∈ xs, lt' (f x) (f y) = lt x y) : sortB lt' (xs.map f) = (sortB lt xs).map f := by
  have := sort_map_aux (f := f) (lt := lt) (lt' := lt') xs [] (by simpa using h)
  simpa [sortB] using this
/-- related lists, sorted alike -/
theorem RVs.ins {F : Hp} {μ : List Addr} {lt : Vl → Vl → Bool} {lt' : V → V → Bool} {v : Vl} {u : V} (r : RV D F μ v u) : ∀ {vs : List Vl} {us : List V}, RVs D F μ vs us → (∀ p ∈ vs.zip us, lt' u p.2 = lt v p.1) → RVs D F μ (insB lt v vs) (insB lt' u us)
  | _, _, .nil, _ => .cons r .nil
  | w :: vs, y :: us, .cons rw' t, h => by
    have e := h (w, y) List.mem_cons_self
    dsimp only at e
    unfold insB
    rw [e]
    split
    · exact .cons r (.cons rw' t)
    · exact .cons rw' (RVs.ins r t fun p hp => h p (List.mem_cons_of_mem _ hp))
theorem zip_ins {lt : Vl → Vl → Bool} {lt' : V → V → Bool} {v : Vl} {u : V} {p : Vl × V} : ∀ {vs : List Vl} {us : List V}, vs.length = us.length → (∀ p ∈ vs.zip us, lt' u p.2 = lt v p.1) → p ∈ (insB lt v vs).zip (insB lt' u us) → p = (v, u) ∨ p ∈ vs.zip us
  | [], [], _, _, h => by simp [insB] at h; exact .inl h
  | [], _ :: _, e, _, _ => by simp at e
  | _ :: _, [], e, _, _ => by simp at e
  | w :: vs, y :: us, e, hz, h => by
    have e0 := hz (w, y) List.mem_cons_self
    dsimp only at e0
    unfold insB at h
    rw [e0] at h
    split at h
    · rw [List.zip_cons_cons] at h
      rcases List.mem_cons.mp h with q | q
      · exact .inl q
      · exact .inr q
    · rw [List.zip_cons_cons] at h
      rcases List.mem_cons.mp h with q | q
      · exact .inr (by rw [q]; exact List.mem_cons_self)
      · rcases zip_ins (by simpa using e) (fun p hp => hz p (List.mem_cons_of_mem _ hp)) q with q | q
        · exact .inl q
        · exact .inr (List.mem_cons_of_mem _ q)
theorem RVs.sort_aux {F : Hp} {μ : List Addr} {lt : Vl → Vl → Bool} {lt' : V → V → Bool} : ∀ {vs : List Vl} {us : List V} {as : List Vl} {bs : List V}, RVs D F μ vs us → RVs D F μ as bs → (∀ p ∈ vs.zip us ++ as.zip bs, ∀ q ∈ vs.zip us ++ as.zip bs, lt' p.2 q.2 = lt p.1 q.1) → RVs D F μ (vs.foldl (fun a x => insB lt x a) as) (us.foldl (fun a x => insB lt' x a) bs)
  | _, _, _, _, .nil, ra, _ => ra
  | v :: vs, u :: us, as, bs, .cons r t, ra, h => by
    simp only [List.foldl_cons]
    have hz : ∀ p ∈ as.zip bs, lt' u p.2 = lt v p.1 := fun p hp => h (v, u) (by simp) p (by simp [hp])
    refine RVs.sort_aux t (RVs.ins r ra hz) fun p hp q hq => h p ?_ q ?_
    · rcases List.mem_append.mp hp with z | z
      · simp [z]
      · rcases zip_ins ra.length hz z with z | z <;> simp [z]
    · rcases List.mem_append.mp hq with z | z
      · simp [z]
      · rcases zip_ins ra.length hz z with z | z <;> simp [z]
theorem RVs.sort {F : Hp} {μ : List Addr} {lt : Vl → Vl → Bool} {lt' : V → V → Bool} {vs : List Vl} {us : List V} (r : RVs D F μ vs us) (h : ∀ p ∈ vs.zip us, ∀ q ∈ vs.zip us, lt' p.2 q.2 = lt p.1 q.1) : RVs D F μ (sortB lt vs) (sortB lt' us) :=
  RVs.sort_aux r .nil (by simpa using h)
end
end IL
end

section
set_option autoImplicit false
set_option linter.all false
set_option Elab.async false
set_option maxRecDepth 100000
set_option maxHeartbeats 1000000
/-! IL: calls of defs. -/
namespace IL
open PySem L2 PyProof.Rows
/-- what the def f promises at depth d -/
def spF (D : Wd) (P : Pg) (d f : Nat) : Sp := fun us H Q E => (∃ G, P.fn f = some G ∧ us.length = G.n) ∧ ∃ F μ h vs, CS D F μ h H ∧ RVs D F μ vs us ∧ PostV D F μ H (run P d f vs h) Q E
section
variable {D : Wd} {F : Hp} {μ : List Addr} {h : Hh} {H : Hp}
theorem frozen_fresh {F' : Hp} {μ' : List Addr} {H' : Hp} {h' : Hh} {n : Nat} (x : Xt F μ H F' μ' H') (c' : CS D F' μ' h' H') (hn : ∀ a ∈ μ'.drop n, Fr0 H a) {a : Addr} {o : Ob} {u : HO} (fa : F a = none) (ha : H a = some u) (hu : H' a = some u) (r : RO D F μ o u) : frozen F' μ' n H' a = none := by
  have na : a ∉ μ'.drop n := fun z => by
    obtain ⟨ps, e⟩ := hn a z u ha
    exact r.nt ps e
  rw [frozen_out na]
  cases q : F' a with
  | none => rfl
  | some o' =>
    rcases x.fnew a o' q with z | z | ⟨xs, z⟩
    · rw [fa] at z; cases z
    · obtain ⟨ps, e⟩ := z u ha
      exact (r.nt ps e).elim
    · subst z
      have := c'.sub.tup q
      rw [hu] at this
      cases this
      cases r
/-- a callee that had nothing of the local heap -/
theorem back_apart (c : CS D F μ h H) {F' : Hp} {μ' : List Addr} {H' : Hp} {h' : Hh} (x : Xt F [] H F' μ' H') (c' : CS D F' μ' h' H') : CS D (frozen F' μ' 0 H') μ h H' ∧ Xt F μ H (frozen F' μ' 0 H') μ H' := by
  have hn : ∀ a ∈ μ'.drop 0, Fr0 H a := fun a ha => by
    rw [List.drop_zero] at ha
    rcases x.mnew a ha with z | z
    · simp at z
    · exact z
  have fx : FExt F (frozen F' μ' 0 H') := x.f.trans (frozen_ext c')
  refine ⟨⟨frozen_sub c', c.len, c.inj, fun l o e => ?_, frozen_tab c'⟩, ⟨fx, .refl _, fun a o e _ => x.keep a o e (by simp), x.there, fun a o e => ?_, fun a ha => .inl ha, x.frz⟩⟩
  · obtain ⟨a, u, e1, e2, e3, e4⟩ := c.ob l o e
    have hu := x.keep a u e3 (by simp) e4.nt
    refine ⟨a, u, e1, ?_, hu, e4.mono fx (.refl _)⟩
    have na : a ∉ μ'.drop 0 := fun z => by
      obtain ⟨ps, e⟩ := hn a z u e3
      exact e4.nt ps e
    rw [frozen_out na]
    cases q : F' a with
    | none => rfl
    | some o' =>
      rcases x.fnew a o' q with z | z | ⟨xs, z⟩
      · rw [e2] at z; cases z
      · obtain ⟨ps, e⟩ := z u e3
        exact (e4.nt ps e).elim
      · subst z
        have := c'.sub.tup q
        rw [hu] at this
        cases this
        cases e4
  · by_cases z : a ∈ μ'.drop 0
    · exact .inr (.inl (hn a z))
    · rw [frozen_out z] at e
      exact x.fnew a o e
/-- a callee that had the local heap: what it made is dropped -/
theorem back_clean (c : CS D F μ h H) {F' : Hp} {μ' : List Addr} {H' : Hp} {h' : Hh} (x : Xt F μ H F' μ' H') (c' : CS D F' μ' h' H') (hb : (h'.take h.length).all (obBelow h.length) = true) :
    CS D (frozen F' μ' h.length H') μ (h'.take h.length) H' ∧ Xt F μ H (frozen F' μ' h.length H') μ H' := by
  have ht : μ'.take h.length = μ := by
    obtain ⟨t, rfl⟩ := x.m
    rw [c.len, List.take_append_of_le_length (Nat.le_refl _), List.take_length]
  have cd := c'.drop hb
  rw [ht] at cd
  have hn : ∀ a ∈ μ'.drop h.length, Fr0 H a := fun a ha => by
    rcases x.mnew a (List.mem_of_mem_drop ha) with z | z
    · exfalso
      have nd := c'.inj
      rw [← List.take_append_drop h.length μ', ht, List.nodup_append] at nd
      exact nd.2.2 a z a ha rfl
    · exact z
  refine ⟨cd, ⟨x.f.trans (frozen_ext c'), .refl _, x.keep, x.there, fun a o e => ?_, fun a ha => .inl ha, x.frz⟩⟩
  by_cases z : a ∈ μ'.drop h.length
  · exact .inr (.inl (hn a z))
  · rw [frozen_out z] at e
    exact x.fnew a o e
/-- THE CALL: what its def promises gives what callC tells -/
theorem call_reads {P : Pg} {d f : Nat} (c : CS D F μ h H) {vs : List Vl} {us : List V} (r : RVs D F μ vs us) {Q : VK} {E : XK} (p : PostV D F μ H (callC P (run P d) f vs h) Q E) : spF D P d f us H Q E := by
  unfold callC at p
  split at p
  · exact p.elim
  · rename_i G hG
    have key : ∀ vs' h', run P d f vs' h' ≠ .bad → vs'.length = G.n := fun vs' h' hne => by
      cases d with
      | zero => exact absurd rfl hne
      | succ d =>
        unfold run at hne
        rw [hG] at hne
        dsimp only at hne
        split at hne
        · assumption
        · exact absurd rfl hne
    split at p
    · refine ⟨⟨G, hG, ?_⟩, F, μ, h, vs, c, r, p⟩
      rw [← r.length]
      exact key vs h fun e => by rw [e] at p; exact p
    · split at p
      · rename_i hp
        have c0 : CS D F [] [] H := ⟨c.sub, rfl, List.nodup_nil, fun l o e => by simp at e, c.tab⟩
        have r0 : RVs D F [] vs us := by
          have := r.each (G := F) (ν := μ.take 0) (P := fun v => below deep 0 v = true) (below_ok deep) (List.all_eq_true.mp hp)
          simpa using this
        cases er : run P d f vs [] with
        | bad => rw [er] at p; exact p.elim
        | exc C h' =>
          rw [er] at p
          refine ⟨⟨G, hG, by rw [← r.length]; exact key vs [] (by rw [er]; simp)⟩, F, [], [], vs, c0, r0, ?_⟩
          rw [er]
          intro F' μ' H' A x c' k
          obtain ⟨c2, x2⟩ := back_apart c x c'
          exact p _ _ _ A x2 c2 k
        | ok v h' =>
          rw [er] at p
          refine ⟨⟨G, hG, by rw [← r.length]; exact key vs [] (by rw [er]; simp)⟩, F, [], [], vs, c0, r0, ?_⟩
          rw [er]
          intro F' μ' H' u x c' rv
          dsimp only at p
          split at p
          · rename_i v' hv
            obtain ⟨c2, x2⟩ := back_apart c x c'
            have rt := thaw_ok c' deep v v' u hv rv
            rw [List.take_zero] at rt
            exact p _ _ _ u x2 c2 (rt.mono (.refl _) ⟨μ, by simp⟩)
          · exact p.elim
      · cases er : run P d f vs h with
        | bad => rw [er] at p; exact p.elim
        | exc C h' =>
          rw [er] at p
          refine ⟨⟨G, hG, by rw [← r.length]; exact key vs h (by rw [er]; simp)⟩, F, μ, h, vs, c, r, ?_⟩
          rw [er]
          intro F' μ' H' A x c' k
          simp only [clean] at p
          split at p
          · rename_i hb
            obtain ⟨c2, x2⟩ := back_clean c x c' hb
            exact p _ _ _ A x2 c2 k
          · exact p.elim
        | ok v h' =>
          rw [er] at p
          refine ⟨⟨G, hG, by rw [← r.length]; exact key vs h (by rw [er]; simp)⟩, F, μ, h, vs, c, r, ?_⟩
          rw [er]
          intro F' μ' H' u x c' rv
          simp only [clean] at p
          split at p
          · rename_i hb
            split at p
            · rename_i v' hv
              obtain ⟨c2, x2⟩ := back_clean c x c' hb
              have rt := thaw_ok c' deep v v' u hv rv
              have ht : μ'.take h.length = μ := by
                obtain ⟨t, rfl⟩ := x.m
                rw [c.len, List.take_append_of_le_length (Nat.le_refl _), List.take_length]
              rw [ht] at rt
              exact p _ _ _ u x2 c2 rt
            · exact p.elim
          · exact p.elim
end
end IL
end

section
set_option autoImplicit false
set_option linter.all false
set_option Elab.async false
set_option maxRecDepth 100000
set_option maxHeartbeats 1000000
/-! IL: sorted(d) of a dict whose keys are pairs of ints -/
namespace L2
open PySem PySem.Spec PyProof.Rows
section
variable {X : Cx}
theorem call_sortedDT (hc : X.calm = true) : CallR X (.builtin "sorted") (fun vs H Q => ∃ (d : Addr) (kvs : List (List Key × V)) (k : V → Int × Int), vs = [V.ref d] ∧ Rd H d (.dT kvs) ∧ (∀ bs, IsKeys H kvs bs → ∀ b ∈ bs, H b = some (.tup [.int (k (.ref b)).1, .int (k (.ref b)).2])) ∧
    ∀ p bs, H p = none → IsKeys H kvs bs → Q (.ref p) (upd H p (.lst (IL.sortB (ltP k) (bs.map V.ref))))) := by
  intro pins s σ H vs us Q I r h
  obtain ⟨d, kvs, k, rfl, hd, hk, q⟩ := h
  obtain ⟨u, rfl, rx⟩ := r.one
  cases rx
  obtain ⟨z, hs, ks, pr, o, es, ep, ho, hx, hdt, he, hn⟩ := (show ObjOk X.prog X.w H s.heap d (.dT kvs) from hd.ok I.hok)
  have l1 : es.size = ks.length := size_of_entries he
  have l2 : kvs.length = ks.length := Paired.length pr
  refine Calls.call_function_entry PyProof.Rows.kind_sorted PyProof.Rows.plain_sorted PyProof.Rows.entry_sorted (PyProof.Rows.args_sorted1 _) ?_
  unfold Builtin.«sorted»
  refine wpAny_bind (m := checkCount "sorted" 1 1 _) (wpAny_pure ?_)
  refine wpAny_bind (PySem.W.kdu_collect (A := X.A.in1) (kdl_raw hs hx hdt) (I.ok.hd hc) ho (by omega) fun h' tk acc' kp it => ?_)
  have ea : acc'.toList = ks.map fun x => Value.ref x.2.1 := by
    have hl : acc'.toList.length = ks.length := by rw [Array.length_toList, it.1]; exact l1
    apply List.ext_getElem?
    intro j
    rw [List.getElem?_map]
    cases hj : acc'.toList[j]? with
    | none =>
      have h1 := List.getElem?_eq_none_iff.mp hj
      rw [List.getElem?_eq_none (by omega)]
      all_goals rfl
    | some v =>
      obtain ⟨en, hen, hv⟩ := it.2 j v (by rw [← Array.getElem?_toList]; exact hj)
      have qe := entry_at he j
      rw [hen] at qe
      cases hb : ks[j]? with
      | none =>
        rw [hb] at qe
        exact nomatch (show some en = none from qe)
      | some b =>
        rw [hb] at qe
        have e2 : en = entryOfKey (tupleKind (mixKind X.prog X.w)) b := Option.some.inj qe
        rw [hv, e2]
        all_goals rfl
  let bs := ks.map fun x => x.2.1
  have ib : IsKeys H kvs bs := isKeys_of pr
  have eb : acc'.toList = bs.map Value.ref := by rw [ea, List.map_map]; all_goals rfl
  have hz : acc'.toList.length ≤ sizeLine := by rw [eb, List.length_map, List.length_map]; omega
  have I1 : Inv X pins σ H { s with heap := h', toks := tk } := I.kept kp
  have hp := hk bs ib
  have q' := fun p hp => q p bs hp ib
  clear_value bs
  rw [eb] at hz ⊢
  clear ea eb
  refine wpAny_bind (wpAny_newList ?_ hz)
  have hoL : (h'.push (seqObj "list" (bs.map Value.ref).toArray 0)).get? h'.objs.size = some (seqObj "list" (bs.map Value.ref).toArray 0) := Heap.get?_push_size _ rfl
  have isP : ∀ v ∈ bs.map Value.ref, Srt.IsPair (h'.push (seqObj "list" (bs.map Value.ref).toArray 0)) v (k (backV v)).1 (k (backV v)).2 := fun v hv => by
    obtain ⟨b, hb, rfl⟩ := List.mem_map.mp hv
    obtain ⟨_, its2, r2, o2, ho2, hc2, n2, hd2⟩ := I1.hok _ _ (hp b hb)
    obtain ⟨u1, u2, rfl, ri, rj⟩ := vals2 r2
    obtain ⟨t1, rfl⟩ := ri
    obtain ⟨t2, rfl⟩ := rj
    exact ⟨b, o2, t1, t2, n2, rfl, Heap.get?_push_of_some _ ho2, hc2, hd2⟩
  show wpAny _ _ _ _ _ { s with heap := h'.push (seqObj "list" (bs.map Value.ref).toArray 0), toks := tk }
  refine wpAny_bind (wpAny_holding (wpAny_call_entry PyProof.Rows.slot_list_sort ⟨_, hoL, rfl⟩ PyProof.Rows.entry_list_sort
    (SrtO.list_sort_ord (s := { s with heap := h'.push (seqObj "list" (bs.map Value.ref).toArray 0), toks := tk }) (SrtO.swo_lex fun u => k (backV u)) hoL hz (fun h2 => SrtO.pairs_sortableO (by omega) isP fun o e => ?_) fun out h1 h2 => ⟨_, rfl, ?_⟩) (PyProof.Rows.args_list_sort _)))
  · have e' : some o = some (seqObj "list" (bs.map Value.ref).toArray 0) := e.symm.trans hoL
    cases e'
    intro c
    exact absurd (Value.type.inj c) (by decide)
  obtain ⟨e', he'⟩ := PyProof.Rows.sortedHeap_at (vs := bs.map Value.ref) (out := out.toArray) hoL
  have h3 : ∀ u ∈ out, ∃ a, u = Value.ref a := fun u hu => by
    obtain ⟨b, _, e⟩ := List.mem_map.mp (h2.perm.mem_iff.mp hu)
    exact ⟨b, e.symm⟩
  have hb : SrtO.Stb (ltP k) (out.map backV) (bs.map V.ref) := by
    have := SrtO.Stb.map (ltP_swo k) backV h2
    rw [List.map_map] at this
    exact this
  have es := SrtO.il_sort_eq (ltP_swo k) (SrtO.srtd_map h1) hb
  have q2 := q' h'.objs.size (I1.hok.fresh (Nat.le_refl _))
  rw [← es] at q2
  refine wpAny_pure ⟨_, rfl, .ref h'.objs.size, upd H h'.objs.size (.lst (out.map backV)), I1.laid (t' := tk) (fun b u e => ?_) (Nat.le_refl _) (show ObjOk X.prog X.w _ _ _ (.lst (out.map backV)) from ⟨?_, out, e', vals_back h3, he'⟩), rfl, q2⟩
  · have hbb : b < h'.objs.size := Heap.lt_size e
    rw [PyProof.Rows.sortedHeap_old (Nat.ne_of_lt hbb) (by rw [size_push']; exact Nat.lt_succ_of_lt hbb)]
    exact Heap.get?_push_of_some _ e
  · rw [hb.len, List.length_map]
    rw [List.length_map] at hz
    exact hz
end
end L2
end

section
set_option autoImplicit false
set_option linter.all false
set_option Elab.async false
set_option maxRecDepth 100000
set_option maxHeartbeats 1000000
/-! IL: sorted(xs). -/
namespace IL
open PySem L2 PyProof.Rows
def pairF (F : Hp) : V → Int × Int
  | .ref t => (match F t with
    | some (.tup [.int a, .int b]) => (a, b)
    | _ => (0, 0))
  | _ => (0, 0)
def firstF (F : Hp) : V → Int × Int
  | .ref t => (match F t with
    | some (.tup (.int a :: _)) => (a, 0)
    | some (.tup (f :: _)) => pairF F f
    | _ => (0, 0))
  | _ => (0, 0)
section
variable {D : Wd} {F : Hp} {μ : List Addr}
theorem allInt : ∀ {xs : List Vl}, xs.all isIntV = true → ∃ ns : List Int, xs = ns.map .int ∧ intsV xs = some ns
  | [], _ => ⟨[], rfl, rfl⟩
  | x :: xs, h => by
    rw [List.all_cons, Bool.and_eq_true] at h
    obtain ⟨ns, h1, h2⟩ := allInt h.2
    cases x <;> simp [isIntV] at h
    rename_i i
    exact ⟨i :: ns, by rw [h1]; rfl, by simp [intsV, h2]⟩
theorem pair_rel {v : Vl} {u : V} (r : RV D F μ v u) (h : isPair v = true) : ∃ t a b, u = .ref t ∧ F t = some (.tup [.int a, .int b]) ∧ v = .tup [.int a, .int b] ∧ pairF F u = (a, b) := by
  unfold isPair at h
  split at h
  · rename_i a b
    cases r with
    | tup hf rs =>
      obtain ⟨x, y, rfl, rx, ry⟩ := rs.two
      cases rx
      cases ry
      exact ⟨_, a, b, rfl, hf, rfl, by simp only [pairF, hf]⟩
  · cases h
/-- what stands first, beside its image -/
def firstI : Vl → Int × Int
  | .tup (.int a :: _) => (a, 0)
  | .tup (.tup [.int a, .int b] :: _) => (a, b)
  | _ => (0, 0)
theorem first_rel {v k : Vl} {u : V} (r : RV D F μ v u) (h : fstOf v = some k) : ∃ t xs f, u = .ref t ∧ F t = some (.tup (f :: xs)) ∧ RV D F μ k f ∧ firstF F u = firstI v ∧ ((isIntV k = true ∧ f = .int (firstI v).1 ∧ (firstI v).2 = 0 ∧ k = .int (firstI v).1) ∨ (isPair k = true ∧ k = .tup [.int (firstI v).1, .int (firstI v).2] ∧ ∃ t', f = .ref t' ∧ F t' = some (.tup [.int (firstI v).1, .int (firstI v).2]))) := by
  unfold fstOf at h
  split at h
  · rename_i w ws
    split at h
    · rename_i hk
      cases h
      cases r with
      | tup hf rs =>
        cases rs with
        | @cons _ f _ us rk rt =>
          cases hi : isIntV k with
          | true =>
            cases k <;> simp [isIntV] at hi
            rename_i i
            cases rk
            exact ⟨_, us, _, rfl, hf, .int i, by simp only [firstF, hf, firstI], .inl ⟨rfl, rfl, rfl, rfl⟩⟩
          | false =>
            rw [hi, Bool.false_or] at hk
            obtain ⟨t', a, b, rfl, hf', rfl, e⟩ := pair_rel rk hk
            refine ⟨_, us, _, rfl, hf, rk, ?_, .inr ⟨hk, rfl, t', rfl, hf'⟩⟩
            simp only [firstF, hf, e, firstI]
    · cases h
  · cases h
theorem ltB_first {v w k l : Vl} (hv : fstOf v = some k) (hw : fstOf w = some l) (hkl : ((isIntV k = true ∧ isIntV l = true) ∨ (isPair k = true ∧ isPair l = true))) (ne : eqv k l = false) : ltB v w = SrtO.lexB (firstI v) (firstI w) ∧ firstI v ≠ firstI w := by
  have step : ltB v w = ltB k l := by
    unfold fstOf at hv hw
    split at hv
    · split at hv
      · cases hv
        split at hw
        · split at hw
          · cases hw
            unfold ltB
            rcases hkl with ⟨h1, h2⟩ | ⟨h1, h2⟩
            · cases k <;> simp [isIntV] at h1
              cases l <;> simp [isIntV] at h2
              rename_i i _ j _
              show ((if eqv (.int i) (.int j) then _ else ltV 11 (.int i) (.int j)) == some true) = _
              rw [ne]
              rfl
            · unfold isPair at h1 h2
              split at h1
              · split at h2
                · rename_i a b _ _ a' b' _
                  show ((if eqv (.tup [.int a, .int b]) (.tup [.int a', .int b']) then _ else ltV 11 (.tup [.int a, .int b]) (.tup [.int a', .int b'])) == some true) = _
                  rw [ne]
                  rfl
                · cases h2
              · cases h1
          · cases hw
        · cases hw
      · cases hv
    · cases hv
  have fi : ∀ {v k : Vl}, fstOf v = some k → (isIntV k = true → k = .int (firstI v).1 ∧ (firstI v).2 = 0) ∧ (isPair k = true → k = .tup [.int (firstI v).1, .int (firstI v).2]) := fun {v k} h => by
    unfold fstOf at h
    split at h
    · split at h
      · cases h
        constructor
        · intro hi
          cases k <;> simp [isIntV] at hi
          exact ⟨rfl, rfl⟩
        · intro hp
          unfold isPair at hp
          split at hp
          · rfl
          · cases hp
      · cases h
    · cases h
  rcases hkl with ⟨h1, h2⟩ | ⟨h1, h2⟩
  · obtain ⟨e1, z1⟩ := (fi hv).1 h1
    obtain ⟨e2, z2⟩ := (fi hw).1 h2
    have nn : (firstI v).1 ≠ (firstI w).1 := fun e => by
      rw [e1, e2, e] at ne
      simp [eqv] at ne
    refine ⟨?_, fun e => nn (by rw [e])⟩
    rw [step, e1, e2, ltB_int]
    unfold SrtO.lexB
    rw [if_neg nn]
  · have e1 := (fi hv).2 h1
    have e2 := (fi hw).2 h2
    refine ⟨by rw [step, e1, e2, ltB_pair], fun e => ?_⟩
    rw [e1, e2, e] at ne
    simp [eqv, eqvs] at ne
theorem mapO_get {f : Vl → Option Vl} : ∀ {vs ws : List Vl}, mapO f vs = some ws → vs.length = ws.length ∧ ∀ (i : Nat) v, vs[i]? = some v → ∃ w, ws[i]? = some w ∧ f v = some w
  | [], _, h => by simp only [mapO, Option.some.injEq] at h; subst h; exact ⟨rfl, fun i v e => by simp at e⟩
  | x :: xs, ws, h => by
    simp only [mapO] at h
    split at h
    · rename_i y hy
      split at h
      · rename_i ys hys
        cases h
        obtain ⟨l, g⟩ := mapO_get hys
        refine ⟨by simp [l], fun i v e => ?_⟩
        cases i with
        | zero => simp at e; subst e; exact ⟨y, rfl, hy⟩
        | succ i => simpa using g i v (by simpa using e)
      · cases h
    · cases h
theorem eqv_comm_key {k l : Vl} (h : (isIntV k = true ∧ isIntV l = true) ∨ (isPair k = true ∧ isPair l = true)) : eqv k l = eqv l k := by
  rcases h with ⟨h1, h2⟩ | ⟨h1, h2⟩
  · cases k <;> simp [isIntV] at h1
    cases l <;> simp [isIntV] at h2
    simp only [eqv]
    rw [Bool.eq_iff_iff, beq_iff_eq, beq_iff_eq]
    exact eq_comm
  · unfold isPair at h1 h2
    split at h1
    · split at h2
      · simp only [eqv, eqvs, Bool.and_true]
        rw [Bool.eq_iff_iff, Bool.and_eq_true, Bool.and_eq_true, beq_iff_eq, beq_iff_eq, beq_iff_eq, beq_iff_eq]
        exact ⟨fun z => ⟨z.1.symm, z.2.symm⟩, fun z => ⟨z.1.symm, z.2.symm⟩⟩
      · cases h2
    · cases h1
theorem apart_get : ∀ {ks : List Vl} {i j : Nat} {k l : Vl}, apart ks = true → (∀ x ∈ ks, ∀ y ∈ ks, eqv x y = eqv y x) → ks[i]? = some k → ks[j]? = some l → i ≠ j → eqv k l = false
  | [], _, _, _, _, _, _, h, _, _ => by simp at h
  | x :: ks, i, j, k, l, ha, hc, hi, hj, ne => by
    simp only [apart, Bool.and_eq_true, Bool.not_eq_true', List.any_eq_false] at ha
    cases i with
    | zero =>
      cases j with
      | zero => exact absurd rfl ne
      | succ j =>
        rw [List.getElem?_cons_zero] at hi
        rw [List.getElem?_cons_succ] at hj
        cases hi
        have := ha.1 l (List.mem_of_getElem? hj)
        rw [hc x List.mem_cons_self l (List.mem_cons_of_mem _ (List.mem_of_getElem? hj))]
        exact Bool.eq_false_iff.mpr this
    | succ i =>
      rw [List.getElem?_cons_succ] at hi
      cases j with
      | zero =>
        rw [List.getElem?_cons_zero] at hj
        cases hj
        exact Bool.eq_false_iff.mpr (ha.1 k (List.mem_of_getElem? hi))
      | succ j =>
        rw [List.getElem?_cons_succ] at hj
        exact apart_get ha.2 (fun x hx y hy => hc x (List.mem_cons_of_mem _ hx) y (List.mem_cons_of_mem _ hy)) hi hj (by omega)
theorem zipGet {α β : Type} {as : List α} {bs : List β} {p : α × β} (h : p ∈ List.zip as bs) : ∃ i : Nat, as[i]? = some p.1 ∧ bs[i]? = some p.2 := by
  obtain ⟨i, hi, e⟩ := List.mem_iff_getElem.mp h
  rw [List.getElem_zip] at e
  have h1 : i < as.length := by simp at hi; omega
  have h2 : i < bs.length := by simp at hi; omega
  refine ⟨i, ?_, ?_⟩
  · rw [List.getElem?_eq_getElem h1, ← e]
  · rw [List.getElem?_eq_getElem h2, ← e]
end
section
variable {X : Cx} {D : Wd} {W : XK}
theorem cr_sortedV (hu : X.A.units + 65 < cLine) (hc : X.calm = true) : CallR X (.builtin "sorted") (rL D W (bltV .sorted)) := by
  intro pins s σ H us vs Q I r hh
  obtain ⟨F, μ, h, xs, c, rs, p⟩ := hh
  match xs, rs, p with
  | [x], rs, p =>
    obtain ⟨u, rfl, ru⟩ := rs.one
    simp only [bltV] at p
    split at p
    · rename_i ys hy
      obtain ⟨l, ws, rfl, hl, rq⟩ := asList_ok c ru hy
      unfold sortedV at p
      split at p
      · rename_i hok
        rw [Bool.and_eq_true] at hok
        have hok := hok.1
        unfold sortOk at hok
        rw [Bool.or_eq_true, Bool.or_eq_true] at hok
        rcases hok with (hi | hp) | hf
        · obtain ⟨ns, e1, e2⟩ := allInt hi
          rw [ints_ok rq e2] at hl
          refine cr_sortedI pins s σ H _ vs Q I r ⟨l, ns, rfl, .of hl, fun ns' q hpm hpw hq => ?_⟩
          obtain ⟨s1, s2⟩ := sort_ints ns
          have en : ns' = sortB (fun a b => decide (a < b)) ns := ints_uniq hpw s1 (hpm.trans s2.symm)
          subst e1
          rw [sort_map (lt := fun a b => decide (a < b)) fun a _ b _ => ltB_int a b] at p
          rw [en]
          refine post_lst c ?_ p hq
          generalize sortB (fun a b => decide (a < b)) ns = ms
          clear p en s1 s2 hpm
          induction ms with
          | nil => exact .nil
          | cons m ms ih => exact .cons (.int m) ih
        · have hp := List.all_eq_true.mp hp
          have rel : ∀ q ∈ ys.zip ws, ∃ t a b, q.2 = .ref t ∧ F t = some (.tup [.int a, .int b]) ∧ q.1 = .tup [.int a, .int b] ∧ pairF F q.2 = (a, b) := fun q hq => by
            obtain ⟨i, h1, h2⟩ := zipGet hq
            obtain ⟨u', h3, h4⟩ := rq.get h1
            rw [h2] at h3
            cases h3
            exact pair_rel h4 (hp _ (List.mem_of_getElem? h1))
          refine cr_sortedP2 pins s σ H _ vs Q I r ⟨l, ws, pairF F, rfl, .of hl, fun w hw => ?_, fun q hq => ?_⟩
          · obtain ⟨i, hi⟩ := List.getElem?_of_mem hw
            obtain ⟨v, hv, rv⟩ := rq.get' hi
            obtain ⟨t, a, b, e1, e2, _, e4⟩ := pair_rel rv (hp _ (List.mem_of_getElem? hv))
            exact ⟨t, e1, by rw [e4]; exact c.sub.tup e2⟩
          · refine post_lst c (rq.sort fun q1 h1 q2 h2 => ?_) p hq
            obtain ⟨_, a, b, _, _, e1, e2⟩ := rel q1 h1
            obtain ⟨_, a', b', _, _, e3, e4⟩ := rel q2 h2
            show SrtO.lexB (pairF F q1.2) (pairF F q2.2) = _
            rw [e1, e2, e3, e4, ltB_pair]
        · split at hf
          · rename_i ks hks
            rw [Bool.and_eq_true, Bool.and_eq_true, Bool.or_eq_true] at hf
            obtain ⟨⟨hkind, hap⟩, hirr⟩ := hf
            obtain ⟨hlen, hget⟩ := mapO_get hks
            have kinds : ∀ a ∈ ks, ∀ b ∈ ks, (isIntV a = true ∧ isIntV b = true) ∨ (isPair a = true ∧ isPair b = true) := fun a ha b hb => by
              rcases hkind with z | z
              · exact .inl ⟨List.all_eq_true.mp z a ha, List.all_eq_true.mp z b hb⟩
              · exact .inr ⟨List.all_eq_true.mp z a ha, List.all_eq_true.mp z b hb⟩
            have comm : ∀ a ∈ ks, ∀ b ∈ ks, eqv a b = eqv b a := fun a ha b hb => eqv_comm_key (kinds a ha b hb)
            -- the order of two items at unlike places
            have ord : ∀ i j v w u u', ys[i]? = some v → ys[j]? = some w → ws[i]? = some u → ws[j]? = some u' → i ≠ j → ltB v w = SrtO.lexB (firstI v) (firstI w) ∧ firstI v ≠ firstI w := fun i j v w u u' h1 h2 _ _ ne => by
              obtain ⟨k, k1, k2⟩ := hget i v h1
              obtain ⟨k', k3, k4⟩ := hget j w h2
              exact ltB_first k2 k4 (kinds _ (List.mem_of_getElem? k1) _ (List.mem_of_getElem? k3)) (apart_get hap comm k1 k3 ne)
            have fst : ∀ i v u, ys[i]? = some v → ws[i]? = some u → ∃ k t xs f, ks[i]? = some k ∧ u = .ref t ∧ F t = some (.tup (f :: xs)) ∧ firstF F u = firstI v ∧ ((isIntV k = true ∧ f = .int (firstI v).1 ∧ (firstI v).2 = 0 ∧ k = .int (firstI v).1) ∨ (isPair k = true ∧ k = .tup [.int (firstI v).1, .int (firstI v).2] ∧ ∃ t', f = .ref t' ∧ F t' = some (.tup [.int (firstI v).1, .int (firstI v).2]))) := fun i v u h1 h2 => by
              obtain ⟨k, k1, k2⟩ := hget i v h1
              obtain ⟨u', h3, h4⟩ := rq.get h1
              rw [h2] at h3
              cases h3
              obtain ⟨t, xs, f, a1, a2, _, a4, a5⟩ := first_rel h4 k2
              exact ⟨k, t, xs, f, k1, a1, a2, a4, a5⟩
            obtain ⟨kind, hkd⟩ : ∃ kind : Bool, ∀ k ∈ ks, if kind = true then isIntV k = true else isPair k = true := by
              rcases hkind with z | z
              · exact ⟨true, fun k hk => by simpa using List.all_eq_true.mp z k hk⟩
              · exact ⟨false, fun k hk => by simpa using List.all_eq_true.mp z k hk⟩
            refine cr_sortedF (by omega) pins s σ H _ vs Q I r ⟨l, ws, kind, firstF F, rfl, .of hl, fun w hw => ?_, fun w hw w' hw' e => ?_, fun q hq => ?_⟩
            · obtain ⟨i, hi⟩ := List.getElem?_of_mem hw
              obtain ⟨v, hv, rv⟩ := rq.get' hi
              obtain ⟨k, t, xs, f, a0, a1, a2, a3, a4⟩ := fst i v w hv hi
              refine ⟨t, f :: xs, f, a1, c.sub.tup a2, rfl, ?_⟩
              rw [a3]
              have hk := hkd k (List.mem_of_getElem? a0)
              cases kind with
              | true =>
                simp only [if_true] at hk ⊢
                rcases a4 with ⟨_, b1, b2, _⟩ | ⟨b1, _⟩
                · exact ⟨b1, b2⟩
                · cases k <;> simp [isIntV, isPair] at hk b1
              | false =>
                simp only [Bool.false_eq_true, if_false] at hk ⊢
                rcases a4 with ⟨b1, _⟩ | ⟨_, _, t', b2, b3⟩
                · cases k <;> simp [isIntV, isPair] at hk b1
                · exact ⟨t', b2, c.sub.tup b3⟩
            · obtain ⟨i, hi⟩ := List.getElem?_of_mem hw
              obtain ⟨j, hj⟩ := List.getElem?_of_mem hw'
              obtain ⟨v, hv, _⟩ := rq.get' hi
              obtain ⟨v', hv', _⟩ := rq.get' hj
              by_cases ne : i = j
              · subst ne
                rw [hi] at hj
                cases hj
                rfl
              · obtain ⟨_, _, _, _, _, _, _, a3, _⟩ := fst i v w hv hi
                obtain ⟨_, _, _, _, _, _, _, b3, _⟩ := fst j v' w' hv' hj
                rw [a3, b3] at e
                exact absurd e (ord i j v v' w w' hv hv' hi hj ne).2
            · refine post_lst c (rq.sort fun q1 h1 q2 h2 => ?_) p hq
              obtain ⟨i, i1, i2⟩ := zipGet h1
              obtain ⟨j, j1, j2⟩ := zipGet h2
              obtain ⟨_, _, _, _, _, _, _, a3, _⟩ := fst i _ _ i1 i2
              obtain ⟨_, _, _, _, _, _, _, b3, _⟩ := fst j _ _ j1 j2
              show SrtO.lexB (firstF F q1.2) (firstF F q2.2) = _
              rw [a3, b3]
              by_cases ne : i = j
              · subst ne
                have e : q1.1 = q2.1 := Option.some.inj (i1.symm.trans j1)
                rw [← e]
                have z := List.all_eq_true.mp hirr q1.1 (List.mem_of_getElem? i1)
                rw [Bool.not_eq_true'] at z
                rw [z]
                exact (SrtO.swo_lex fun _ => firstI q1.1).refl .none
              · exact (ord i j _ _ _ _ i1 j1 i2 j2 ne).1.symm
          · cases hf
      · exact p.elim
    · split at p
      · rename_i es he
        split at p
        · rename_i hi
          rw [Bool.and_eq_true] at hi
          obtain ⟨hki, hip⟩ := hi
          obtain ⟨a, rfl, q⟩ := asDct_ok c ru he
          rcases q with ⟨_, kvs, hr, rt⟩ | ⟨z, _⟩
          · have pr : ∀ {F' : Hp} {bs : List Addr}, CS D F' μ h H → RVs D F' μ (es.map (·.1)) (bs.map V.ref) → ∀ {i : Nat} {v : Vl} {u : V}, (es.map (·.1))[i]? = some v → (bs.map V.ref)[i]? = some u → ∃ t x y, u = .ref t ∧ H t = some (.tup [.int x, .int y]) ∧ v = .tup [.int x, .int y] ∧ pairF H u = (x, y) := fun {F' bs} c' rq {i v u} hv hu' => by
              obtain ⟨u2, h3, h4⟩ := rq.get hv
              rw [hu'] at h3
              cases h3
              obtain ⟨t, x, y, e1, e2, e3, _⟩ := pair_rel h4 (List.all_eq_true.mp hip _ (List.mem_of_getElem? hv))
              have ht := c'.sub.tup e2
              exact ⟨t, x, y, e1, ht, e3, by rw [e1]; unfold pairF; dsimp only; rw [ht]⟩
            refine call_sortedDT hc pins s σ H _ vs Q I r ⟨a, kvs, pairF H, rfl, hr, fun bs ik b hb => ?_, fun q bs hq ik => ?_⟩
            · obtain ⟨F', c', x', rq⟩ := RT.keys c hki rt ik
              obtain ⟨i, hi⟩ := List.getElem?_of_mem (List.mem_map_of_mem (f := V.ref) hb)
              obtain ⟨v, hv, _⟩ := rq.get' hi
              obtain ⟨t, x, y, e1, e2, _, e4⟩ := pr c' rq hv hi
              cases e1
              rw [e4]
              exact e2
            · obtain ⟨F', c', x', rq⟩ := RT.keys c hki rt ik
              refine post_lst c' (rq.sort fun q1 h1 q2 h2 => ?_) (Post.from x' p) hq
              obtain ⟨i, i1, i2⟩ := zipGet h1
              obtain ⟨j, j1, j2⟩ := zipGet h2
              obtain ⟨_, x1, y1, _, _, e3, e4⟩ := pr c' rq i1 i2
              obtain ⟨_, x2, y2, _, _, f3, f4⟩ := pr c' rq j1 j2
              show SrtO.lexB (pairF H q1.2) (pairF H q2.2) = _
              rw [e3, e4, f3, f4, ltB_pair]
          · cases z
        · exact p.elim
      · exact p.elim
  | [], _, p => exact p.elim
  | _ :: _ :: _, _, p => exact p.elim
end
end IL
end

section
set_option autoImplicit false
set_option linter.all false
set_option Elab.async false
set_option maxRecDepth 100000
set_option maxHeartbeats 1000000
/-! IL: does a body of ours say what the text says? -/
namespace IL
open PySem L2 PyProof.Rows
/-- the names of a module's top -/
structure Gt where
  fn : Str → Option Nat
  cl : Str → Option Nat
  cn : Str → Option Vl
  bl : Str → Bool
  ex : Str → Option Nat
  /-- defs that tell what a lambda tells: the class that they catch, what tells of it -/
  td : Str → Option (Nat × Nat)
  /-- classes of exceptions, for isinstance -/
  is : Str → Option Nat
  /-- the scopes of defs with lambdas -/
  lams : List Scope

def visB (sc : Scope) (x : Str) : Bool := match sc.names.lookup x with
  | some .local => true
  | some .cell => true
  | some .free => true
  | _ => false
def glB (sc : Scope) (x : Str) : Bool := match sc.names.lookup x with
  | some .globalImplicit => true
  | _ => false
def plainNm (x : Str) : Bool := !(x == ("__debug__" : Str)) && !(x == ("__classdict__" : Str)) && !(x == ("__name__" : Str))
def notSuper : Expr → Bool
  | .Call (.Name x _) [] [] _ => !(x == ("super" : Str))
  | _ => true
def constOk : Vl → Const → Bool
  | .non, .none => true
  | .bl a, .bool b => a == b
  | .int i, .int j => i == j
  | .str x, .str y => x == y && PyData.strOk x
  | _, _ => false
def sameC : Vl → Vl → Bool
  | .int i, .int j => i == j
  | .str x, .str y => x == y && PyData.strOk x
  | _, _ => false
def isOp : Bop → Operator → Bool
  | .add, .Add => true | .sub, .Sub => true | .mul, .Mult => true | .fdiv, .FloorDiv => true | .mod, .Mod => true | .pow, .Pow => true
  | _, _ => false
def isCop : Cop → CmpOp → Bool
  | .eq, .Eq => true | .ne, .NotEq => true | .lt, .Lt => true | .le, .LtE => true | .gt, .Gt => true | .ge, .GtE => true | .isin, .In => true | .notin, .NotIn => true | .is, .Is => true | .isnot, .IsNot => true
  | _, _ => false
theorem isOp_eq {o : Bop} {p : Operator} (h : isOp o p = true) : p = bopP o := by
  cases o <;> cases p <;> first | rfl | cases h
theorem isCop_eq {o : Cop} {p : CmpOp} (h : isCop o p = true) : p = copP o := by
  cases o <;> cases p <;> first | rfl | cases h
def tyName : Nat → Str
  | 0 => "int" | 1 => "bool" | 2 => "tuple" | 3 => "str" | _ => "list"
/-- a function of Python by its name -/
def bltName : Blt → Option Str
  | .len => some "len" | .all => some "all" | .any => some "any" | .max => some "max" | .min => some "min" | .sum => some "sum" | .sorted => some "sorted"
  | _ => none
def tyFn : Blt → Option Str
  | .list _ => some "list" | .tuple => some "tuple" | .int => some "int" | .dict _ => some "dict"
  | _ => none
def bmName : Bm → Str
  | .append => "append" | .extend => "extend" | .pop => "pop" | .index => "index" | .get => "get" | .items => "items" | .insert => "insert" | .remove => "remove" | .reverse => "reverse" | .clear => "clear" | .count => "count" | .join => "join" | .split => "split" | .partition => "partition"
/-- what is walked, by what its parts fit -/
def chkI1 (G : Gt) (k : Ik) (sc : Scope) (e : Expr) (fL : List Expr → Bool) : Bool := match k with
  | .seq => fL [e]
  | .rng => (match e with
    | .Call (.Name x _) xs [] _ => x == ("range" : Str) && glB sc x && G.bl x && (xs.length == 1 || xs.length == 2) && fL xs
    | _ => false)
  | .enum => (match e with
    | .Call (.Name x _) xs [] _ => x == ("enumerate" : Str) && glB sc x && G.bl x && xs.length == 1 && fL xs
    | _ => false)
  | .zip => (match e with
    | .Call (.Name x _) xs [] _ => x == ("zip" : Str) && glB sc x && G.bl x && xs.length == 2 && fL xs
    | _ => false)
  | _ => false
section
variable (G : Gt) (N : List Str)
/-- enumerate's pairs are taken apart at once -/
def tgK : Ik → Tg → Bool
  | .enum, .tp _ => true
  | .enum, _ => false
  | .zip, .tp _ => true
  | .zip, _ => false
  | _, _ => true
def ownP (own : List Nat) : List (Str × Nat) := own.map fun i => (N.getD i Str.empty, i)
mutual
def chkT : Tg → Scope → Expr → Bool
  | .nm i, sc, e => match e with
    | .Name x _ => decide (N[i]? = some x) && (match sc.names.lookup x with | some .local => true | some .cell => true | _ => false)
    | _ => false
  | .tp gs, sc, e => match e with
    | .Tuple es _ _ => chkTs gs sc es
    | _ => false
def chkTs : List Tg → Scope → List Expr → Bool
  | [], _, [] => true
  | g :: gs, sc, e :: es => chkT g sc e && chkTs gs sc es
  | _, _, _ => false
end
mutual
def chkE : Ex → Scope → Expr → Bool
  | .var i, sc, e => match e with
    | .Name x _ => decide (N[i]? = some x) && visB sc x && plainNm x
    | _ => false
  | .cst v, _, e => match e with
    | .Constant k _ _ => constOk v k
    | _ => false
  | .gc x v, sc, e => match e with
    | .Name y _ => x == y && glB sc x && plainNm x && (match G.cn x with | some w => sameC v w | none => false)
    | _ => false
  | .bin o a b, sc, e => match e with
    | .BinOp x p y _ => isOp o p && chkE a sc x && chkE b sc y
    | _ => false
  | .neg a, sc, e => match e with
    | .UnaryOp .USub x _ => chkE a sc x
    | _ => false
  | .cmp o a b, sc, e => match e with
    | .Compare x [p] [y] _ => isCop o p && chkE a sc x && chkE b sc y
    | _ => false
  | .chn o₁ o₂ a b c, sc, e => match e with
    | .Compare x [p, q] [y, z] _ => isCop o₁ p && isCop o₂ q && chkE a sc x && chkE b sc y && chkE c sc z
    | _ => false
  | .and a b, sc, e => match e with
    | .BoolOp .And [x, y] _ => chkE a sc x && chkE b sc y
    | .BoolOp .And (x :: y :: z :: r) p => chkE a sc x && chkE b sc (.BoolOp .And (y :: z :: r) p)
    | _ => false
  | .or a b, sc, e => match e with
    | .BoolOp .Or [x, y] _ => chkE a sc x && chkE b sc y
    | .BoolOp .Or (x :: y :: z :: r) p => chkE a sc x && chkE b sc (.BoolOp .Or (y :: z :: r) p)
    | _ => false
  | .not a, sc, e => match e with
    | .UnaryOp .Not x _ => chkE a sc x
    | _ => false
  | .ite c a b, sc, e => match e with
    | .IfExp t x y _ => chkE c sc t && chkE a sc x && chkE b sc y
    | _ => false
  | .tup es, sc, e => match e with
    | .Tuple xs _ _ => chkL es sc xs
    | _ => false
  | .lst _ es, sc, e => match e with
    | .List xs _ => chkL es sc xs
    | _ => false
  | .dnew _, _, e => match e with
    | .Dict [] [] _ => true
    | _ => false
  | .idx a i, sc, e => match e with
    | .Subscript x y _ => chkE a sc x && chkE i sc y
    | _ => false
  | .slc _ a lo hi st, sc, e => match e with
    | .Subscript x (.Slice l u none _) _ => isNonE st && chkE a sc x && (match l with | some l => !isNonE lo && chkE lo sc l | none => isNonE lo) && (match u with | some u => !isNonE hi && chkE hi sc u | none => isNonE hi)
    | .Subscript x (.Slice none none (some k) _) _ => (isNonE lo && isNonE hi && !isNonE st) && chkE a sc x && chkE st sc k
    | _ => false
  | .fld a f, sc, e => match e with
    | .Attribute x g _ => f == g && notSuper x && chkE a sc x
    | _ => false
  | .call f es, sc, e => match e with
    | .Call (.Name x _) xs [] _ => glB sc x && plainNm x && decide (G.fn x = some f) && chkL es sc xs
    | _ => false
  | .meth m o es, sc, e => match e with
    | .Call (.Attribute x n ap) xs [] cp => m == n && (ap.endLine == cp.line) && notSuper x && decide (xs.length < 20) && chkE o sc x && chkL es sc xs
    | _ => false
  | .bm m o es, sc, e => match e with
    | .Call (.Attribute x n ap) xs [] cp => bmName m == n && (ap.endLine == cp.line) && notSuper x && decide (xs.length < 20) && chkE o sc x && chkL es sc xs
    | _ => false
  | .make C es, sc, e => match e with
    | .Call (.Name x _) xs [] _ => glB sc x && plainNm x && decide (G.cl x = some C) && chkL es sc xs
    | _ => false
  | .blt b es, sc, e => match e with
    | .Call (.Name x _) xs [] _ => glB sc x && plainNm x && G.bl x && (match b, xs with
      | .isinst n, [y, .Name t _] => x == ("isinstance" : Str) && t == tyName n && glB sc t && plainNm t && G.bl t && decide (n < 5) && chkL es sc [y]
      | .isinst _, _ => false
      | .lenset, [.Call (.Name y _) [z] [] _] => x == ("len" : Str) && y == ("set" : Str) && glB sc y && plainNm y && G.bl y && chkL es sc [z]
      | .lenset, _ => false
      | .sortedset, [.Call (.Name y _) [z] [] _] => x == ("sorted" : Str) && y == ("set" : Str) && glB sc y && plainNm y && G.bl y && chkL es sc [z]
      | .sortedset, _ => false
      | .lrange, [.Call (.Name y _) [z] [] _] => x == ("list" : Str) && y == ("range" : Str) && glB sc y && plainNm y && G.bl y && chkL es sc [z]
      | .lrange, _ => false
      | b, xs => (decide (bltName b = some x) || decide (tyFn b = some x)) && !xs.isEmpty && chkL es sc xs)
    | _ => false
  | .lc _ own g k es cond e', sc, e => match e with
    | .ListComp elt [⟨tg, iter, ifs, 0⟩] scope _ => (blkC N sc scope (ownP N own) && !(G.lams.any fun z => decide (z = scope))) && (tgNs g).all (own.contains ·) && tgK k g && chkT N g scope tg && chkI1 G k sc iter (chkL es sc) && (match cond, ifs with | [], [] => true | [c], [t] => chkE c scope t | _, _ => false) && chkE e' scope elt
    | _ => false
  | .srt f a, sc, e => match e with
    | .Call (.Name x _) [y] [⟨some k, .Name z _, _⟩] _ => x == ("sorted" : Str) && k == ("key" : Str) && glB sc x && G.bl x && glB sc z && plainNm z && decide (G.fn z = some f) && chkE a sc y
    | _ => false
  | .srl _, _, _ => false
  | .told C f a, sc, e => match e with
    | .Call (.Name x _) [.Lambda ⟨[], [], none, [], [], none, []⟩ b scope _] [] _ => (glB sc x && plainNm x && decide (G.td x = some (C, f)) && G.lams.any (fun z => decide (z = sc)) && !(G.lams.any fun z => decide (z = scope)) && LamX.lamSB sc scope) && chkE a scope b
    | _ => false
  | .isE a C, sc, e => match e with
    | .Call (.Name x _) [y, .Name t _] [] _ => (x == ("isinstance" : Str) && glB sc x && plainNm x && G.bl x && glB sc t && plainNm t && decide (G.is t = some C)) && chkE a sc y
    | _ => false
  | .bad, _, e => match e with
    | .Call _ _ _ _ => true
    | _ => false
def chkL : List Ex → Scope → List Expr → Bool
  | [], _, [] => true
  | a :: as, sc, x :: xs => chkE a sc x && chkL as sc xs
  | _, _, _ => false
end
/-- what a for walks -/
def chkI (k : Ik) (es : List Ex) (sc : Scope) (e : Expr) : Bool := chkI1 G k sc e (chkL G N es sc)
end
end IL
end

section
set_option autoImplicit false
set_option linter.all false
set_option Elab.async false
set_option maxRecDepth 100000
set_option maxHeartbeats 1000000
/-! IL: where one stands. -/
namespace IL
open PySem L2 PyProof.Rows
/-- a def that may be called while an exception is handled -/
structure FnHt (P : Program) (w : World) (K : Frag) (mg : Str → Option Value) (base : Heap) (CX : CXT) (k : Nat) (f : Addr) (fd : FuncData) (ps : List Str) (sp : Sp) : Prop where
  len : ∀ vs H Q E, sp vs H Q E → vs.length = ps.length
  run : ∀ (A : Around) (outer : List Env) (s : Shared) (H : Hp) (args : Args) (us : List Value) (vs : List V) (Q : VK) (E : XK), L2H.RoomH k A → Env0 P w K mg base A outer s H →
    BindsTo s fd args (ps.zip us) → Vals vs us → sp vs H Q E → codeAny (model P w) A (.call (.ref f) args) (CR CX outer P w H s Q E) s
/-- try: return a() / except e as n: return y(n) -/
abbrev toldB (a e n y : Str) (p1 p2 p3 p4 p7 p8 q1 q2 q3 q4 : Pos) : List Stmt := [.Try [.Return (some (.Call (.Name a p1) [] [] p2)) p3] [.ExceptHandler (some (.Name e p4)) (some n) [.Return (some (.Call (.Name y q1) [.Name n q2] [] q3)) q4] p7] [] [] p8]
/-- the def x tells what a lambda tells: what stands in the text, what its names are -/
structure ToldAt (D : Wd) (P : Pg) (d : Nat) (prog : Program) (w : World) (K : Frag) (mg : Str → Option Value) (base : Heap) (x : Str) (C f : Nat) : Prop where
  ex : ∃ (g CS fa : Addr) (fd fd' : FuncData) (pg : Arguments) (sg : Scope) (a e n y : Str) (ps : List Str) (p1 p2 p3 p4 p7 p8 q1 q2 q3 q4 : Pos),
    FunD K x x pg (toldB a e n y p1 p2 p3 p4 p7 p8 q1 q2 q3 q4) sg [] [] g fd ∧ mg x = some (.ref g) ∧ Binds K fd [a] [] ∧ FnScope [a, n] [a] sg ∧ sg.names.lookup a = some .local ∧ sg.names.lookup n = some .local ∧
    sg.names.lookup e = some .globalImplicit ∧ sg.names.lookup y = some .globalImplicit ∧ 10 ≤ C ∧ plainNm a = true ∧ plainNm n = true ∧ plainNm e = true ∧ plainNm y = true ∧ D.cls C = some CS ∧ mg e = some (.ref CS) ∧
    mg y = some (.ref fa) ∧ PySem.W.keepIn K (.ref fa) = true ∧ Binds K fd' ps [] ∧ FnHt prog w K mg base (L2.CX prog w) (4 * d) fa fd' ps (spF D P d f)
/-- the world at depth d: what the text's top has left, and what its defs promise -/
structure WOk (D : Wd) (P : Pg) (d : Nat) (G : Gt) (prog : Program) (w : World) (K : Frag) (mg : Str → Option Value) (base : Heap) : Prop where
  hK : K = D.K
  fns : ∀ x f, G.fn x = some f → ∃ fa fd ps, mg x = some (.ref fa) ∧ PySem.W.keepIn K (.ref fa) = true ∧ Binds K fd ps [] ∧ FnOk prog w K mg base (L2.CX prog w) (4 * d) fa fd ps (spF D P d f)
  mts : ∀ C A m f, D.cls C = some A → P.mt C m = some f → ∃ fa fd ps, Cls K A ∧ Meth K A m fa ∧ Binds K fd ps [] ∧ FnOk prog w K mg base (L2.CX prog w) (4 * d) fa fd ps (spF D P d f)
  mks : ∀ x C, G.cl x = some C → ∃ f A fa fd ps, P.init C = some f ∧ D.cls C = some A ∧ mg x = some (.ref A) ∧ Mk K A fa ∧ Binds K fd ps [] ∧ FnOk prog w K mg base (L2.CX prog w) (4 * d) fa fd ps (spF D P d f)
  kp : ∀ C f F, P.init C = some f → P.fn f = some F → F.keep = true
  fls : ∀ C A f, D.cls C = some A → P.fl C f = true → Cls K A ∧ NoAttr K A f
  blt : ∀ x, G.bl x = true → mg x = none
  exs : ∀ x C, G.ex x = some C → ∃ A, D.cls C = some A ∧ mg x = some (.ref A) ∧ PySem.W.excIn K A He.veBase "ValueError.__new__" = true ∧ PySem.W.keepIn K (.ref A) = true ∧ PySem.W.subIn K (.ref A) (.type "BaseException") = some true ∧ PySem.W.typeIn K (.ref A) = some (.type "type")
  tds : ∀ x C f, G.td x = some (C, f) → ToldAt D P d prog w K mg base x C f
  exi : ∀ C A, 10 ≤ C → D.cls C = some A → ExcC K A
  exm : ∀ C CS, 10 ≤ C → D.cls C = some CS → ∀ C' A, 10 ≤ C' → D.cls C' = some A → PySem.W.exmOne K (.ref A) (.ref CS) = some (P.sub C' C)
  iss : ∀ x C, G.is x = some C → ∃ (v : V) (u : Value), ((v = .ty "ValueError" ∧ u = .type "ValueError" ∧ mg x = none ∧ bootBuiltins x = some u) ∨ ∃ B, v = .ref B ∧ u = .ref B ∧ mg x = some (.ref B)) ∧ ClsV v u ∧
    ∀ C' A, 10 ≤ C' → D.cls C' = some A → PySem.W.kitOne K (.ref A) u = some (P.sub C' C)
  tu : ∀ p ∈ D.T, ∀ q ∈ D.T, p.1 = q.1 → p.2 = q.2
  cst : ∀ x v, G.cn x = some v → ∃ u, mg x = some u ∧ ((∃ i, v = .int i ∧ RelV (.int i) u) ∨ ∃ z, v = .str z ∧ RelV (.str z) u)

/-- a place in the text, whose names are told by the written scope sc -/
structure XBase (D : Wd) (P : Pg) (d : Nat) (G : Gt) (N : List Str) (sc : Scope) (X : Cx) : Prop where
  w : WOk D P d G X.prog X.w X.K X.mg X.base
  hN : X.N = N
  nd : N.Nodup
  hu : X.A.units + 65 < cLine
  vis : ∀ x, visB sc x = true → Vis X.env.scope x
  gl : ∀ x, glB sc x = true → Gl X x
  loc : ∀ x, (sc.names.lookup x = some .local ∨ sc.names.lookup x = some .cell) → Loc X.env.scope x ∧ (X.fn x = true ∨ X.env.scope.names.lookup x = some .local)
  free : ∀ x k, sc.names.lookup x = some k → (k = .cell ∨ k = .free) → X.env.scope.names.lookup x = some .cell ∨ X.env.scope.names.lookup x = some .free
/-- what the making of a lambda leans on -/
def LamF (D : Wd) (d : Nat) (X : Cx) : Prop := ∃ c P, X.env.code = .ref c ∧ LamX.TabB X.base X.mg c P ∧ (P, X.env.qual ++ "<lambda>") ∈ D.T ∧ Room (4 * d + 3) X.A
/-- .. where nothing is handled -/
structure XOk (D : Wd) (P : Pg) (d : Nat) (G : Gt) (N : List Str) (sc : Scope) (W : WX) (X : Cx) : Prop extends XBase D P d G N sc X where
  calm : X.calm = true
  room : Room (4 * d + 1) X.A
  tk : Takes X W
  lam : sc ∈ G.lams → LamF D d X
section
variable {D : Wd} {P : Pg} {d : Nat} {G : Gt} {N : List Str} {sc : Scope} {W : WX} {X : Cx}
theorem XBase.hK (o : XBase D P d G N sc X) : X.K = D.K := o.w.hK
theorem units_of {k : Nat} {A : Around} (r : Room k A) : A.units + 65 < cLine := by
  have := r.un
  omega
theorem look_free {sc : Scope} : ∀ {names : List (Str × NameKind)} {x : Str}, names.lookup x = some .free →
    (names.map fun (n, k) => if (k == NameKind.free && sc.kind == .function && sc.names.lookup n == some .cell) then (n, NameKind.cell) else (n, k)).lookup x = some .free ∨
    (names.map fun (n, k) => if (k == NameKind.free && sc.kind == .function && sc.names.lookup n == some .cell) then (n, NameKind.cell) else (n, k)).lookup x = some .cell
  | [], _, h => by simp at h
  | (n, k₀) :: r, x, h => by
    have ih := @look_free sc r x
    show List.lookup x ((if (k₀ == NameKind.free && sc.kind == .function && sc.names.lookup n == some .cell) = true then (n, NameKind.cell) else (n, k₀)) :: (r.map _)) = some .free ∨ List.lookup x ((if (k₀ == NameKind.free && sc.kind == .function && sc.names.lookup n == some .cell) = true then (n, NameKind.cell) else (n, k₀)) :: (r.map _)) = some .cell
    by_cases hc : (k₀ == NameKind.free && sc.kind == .function && sc.names.lookup n == some .cell) = true
    · rw [if_pos hc]
      cases hx : x == n with
      | true => right; simp only [List.lookup_cons, hx]
      | false =>
        simp only [List.lookup_cons, hx] at h ⊢
        exact ih h
    · rw [if_neg hc]
      cases hx : x == n with
      | true =>
        simp only [List.lookup_cons, hx] at h ⊢
        left; exact h
      | false =>
        simp only [List.lookup_cons, hx] at h ⊢
        exact ih h
/-- within a comprehension -/
theorem XOk.blk (o : XOk D P d G N sc W X) (s : Shared) (H : Hp) (scope : Scope) (hk : scope.kind = .function) (hl : scope ∉ G.lams) (C : Addr) (cl : List (Str × Addr)) (fp : List Addr) : XOk D P d G N scope (fun _ _ _ _ => False) (X.blk s H scope (compEnvC scope cl C X.env) fp) where
  w := o.w
  hN := o.hN
  nd := o.nd
  hu := o.hu
  calm := o.calm
  room := o.room
  lam := fun h => absurd h hl
  vis := fun x h => by
    unfold visB at h
    split at h
    · rename_i e; exact .inl (lookup_relS_keep (by decide) e)
    · rename_i e; exact .inr (.inl (lookup_relS_keep (by decide) e))
    · rename_i e
      rcases look_free (sc := X.env.scope) e with q | q
      · exact .inr (.inr q)
      · exact .inr (.inl q)
    · cases h
  gl := fun x h => by
    unfold glB at h
    split at h
    · rename_i e; exact lookup_relS_keep (by decide) e
    · cases h
  loc := fun x h => by
    rcases h with e | e
    · have q : (compEnvC scope cl C X.env).scope.names.lookup x = some .local := lookup_relS_keep (by decide) e
      exact ⟨.inl q, .inr q⟩
    · have q : (compEnvC scope cl C X.env).scope.names.lookup x = some .cell := lookup_relS_keep (by decide) e
      refine ⟨.inr q, .inl ?_⟩
      show (scope.names.lookup x == some .cell) = true
      rw [e]; rfl
  free := fun x k e h => by
    rcases h with rfl | rfl
    · exact .inl (lookup_relS_keep (by decide) e)
    · exact (look_free (sc := X.env.scope) e).symm
  tk := takes0
end

/-- the frame -/
def ER (D : Wd) (F : Hp) (μ : List Addr) (ρ : Ev) (σ : L2.St) : Prop := ρ.length = σ.length ∧ ∀ (i : Nat) (v : Vl), ρ[i]? = some (some v) → ∃ u, σ[i]? = some (some u) ∧ RV D F μ v u
theorem ER.mono {D : Wd} {F G : Hp} {μ ν : List Addr} (hF : FExt F G) (hm : MExt μ ν) {ρ : Ev} {σ : L2.St} (e : ER D F μ ρ σ) : ER D G ν ρ σ :=
  ⟨e.1, fun i v h => let ⟨u, h1, h2⟩ := e.2 i v h; ⟨u, h1, h2.mono hF hm⟩⟩
theorem ER.set {D : Wd} {F : Hp} {μ : List Addr} {ρ : Ev} {σ : L2.St} (e : ER D F μ ρ σ) (i : Nat) {v : Vl} {u : V} (r : RV D F μ v u) : ER D F μ (ρ.set i (some v)) (σ.set i (some u)) := by
  refine ⟨by simp [e.1], fun j w h => ?_⟩
  by_cases q : i = j
  · subst q
    by_cases hl : i < ρ.length
    · rw [List.getElem?_set_self hl] at h
      cases h
      exact ⟨u, by rw [List.getElem?_set_self (by rw [← e.1]; exact hl)], r⟩
    · rw [List.getElem?_eq_none (by simpa using hl)] at h
      cases h
  · rw [List.getElem?_set_ne q] at h
    obtain ⟨u', h1, h2⟩ := e.2 j w h
    exact ⟨u', by rw [List.getElem?_set_ne q]; exact h1, h2⟩
theorem ER.setNone {D : Wd} {F : Hp} {μ : List Addr} {ρ : Ev} {σ : L2.St} (e : ER D F μ ρ σ) (i : Nat) : ER D F μ (ρ.set i none) (σ.set i none) := by
  refine ⟨by simp [e.1], fun j w h => ?_⟩
  by_cases q : i = j
  · subst q
    by_cases hl : i < ρ.length
    · rw [List.getElem?_set_self hl] at h
      cases h
    · rw [List.getElem?_eq_none (by simpa using hl)] at h
      cases h
  · rw [List.getElem?_set_ne q] at h
    obtain ⟨u', h1, h2⟩ := e.2 j w h
    exact ⟨u', by rw [List.getElem?_set_ne q]; exact h1, h2⟩
theorem ER.wipe {D : Wd} {F : Hp} {μ : List Addr} {ρ : Ev} {σ : L2.St} (e : ER D F μ ρ σ) : ∀ vs : List Nat, ER D F μ (wipeE ρ vs) (wipe σ vs)
  | [] => e
  | v :: vs => (ER.wipe e vs).setNone v

/-- what an expression of ours reads -/
def tE (D : Wd) (W : WX) (ev : Ev → Hh → Rs Vl) : TE := fun σ H Q => ∃ F μ ρ h, CS D F μ h H ∧ ER D F μ ρ σ ∧ PostV D F μ H (ev ρ h) Q (WE W σ)
def tL (D : Wd) (W : WX) (ev : Ev → Hh → Rs (List Vl)) : TA := fun σ H Q => ∃ F μ ρ h, CS D F μ h H ∧ ER D F μ ρ σ ∧ PostL D F μ H (ev ρ h) Q (WE W σ)
/-- a truth value wanted -/
def asB (r : Rs Vl) : Rs Bool := r.bind fun v h => match v with
  | .bl b => .ok b h
  | _ => .bad
def RB (_ : Hp) (_ : List Addr) (a b : Bool) : Prop := a = b
def tT (D : Wd) (W : WX) (ev : Ev → Hh → Rs Vl) : TT := fun σ H Q => ∃ F μ ρ h, CS D F μ h H ∧ ER D F μ ρ σ ∧ Post D RB F μ H (asB (ev ρ h)) Q (WE W σ)
theorem _root_.L2.PE.imp {X : Cx} {e : Expr} {t t' : TE} (h : PE X e t) (q : ∀ σ H Q, t' σ H Q → t σ H Q) : PE X e t' := ⟨fun pins s σ H Q I w => h.run pins s σ H Q I (q σ H Q w)⟩
theorem _root_.L2.PT.imp {X : Cx} {e : Expr} {t t' : TT} (h : PT X e t) (q : ∀ σ H Q, t' σ H Q → t σ H Q) : PT X e t' := ⟨fun pins s σ H Q I w => h.run pins s σ H Q I (q σ H Q w)⟩
theorem _root_.L2.PW.imp {X : Cx} {e : Expr} {t t' : TT} (h : PW X e t) (q : ∀ σ H Q, t' σ H Q → t σ H Q) : PW X e t' := ⟨fun wh pins s σ H Q I w => h.run wh pins s σ H Q I (q σ H Q w)⟩
theorem _root_.L2.PA.imp {X : Cx} {e : List Expr} {t t' : TA} (h : PA X e t) (q : ∀ σ H Q, t' σ H Q → t σ H Q) : PA X e t' := ⟨fun pos pins s σ H Q I w => h.run pos pins s σ H Q I (q σ H Q w)⟩
end IL
end

section
set_option autoImplicit false
set_option linter.all false
set_option Elab.async false
set_option maxRecDepth 100000
set_option maxHeartbeats 4000000
/-! IL: expressions, one rule each. -/
namespace IL
open PySem L2 PyProof.Rows
section
variable {D : Wd} {P : Pg} {d : Nat} {G : Gt} {N : List Str} {sc : Scope} {W : WX} {X : Cx}
/-- what is shown of an expression -/
structure EOk (D : Wd) (W : WX) (X : Cx) (ev : Ev → Hh → Rs Vl) (e : Expr) : Prop where
  pe : PE X e (tE D W ev)
  pt : PT X e (tT D W ev)
/-- a plain test -/
theorem eok_val {ev : Ev → Hh → Rs Vl} {e : Expr} (h : PE X e (tE D W ev)) (he : ∀ whole, isTrue e X.env whole = (do let v ← whole; standAt e.pos; holding [v] (truthy v))) : EOk D W X ev e := by
  refine ⟨h, (pt_val h he).imp fun σ H Q q => ?_⟩
  obtain ⟨F, μ, ρ, h, c, er, p⟩ := q
  refine ⟨F, μ, ρ, h, c, er, (Post.bind p).mono fun u H' q => ?_⟩
  obtain ⟨F1, μ1, v, h1, x, c1, r, p⟩ := q
  cases r with
  | bl b => exact ⟨b, rfl, p _ _ _ _ (.refl _ _ _) c1 rfl⟩
  | _ => exact p.elim
/-- two expressions, and what g makes of them -/
theorem two_reads {ea eb : Ev → Hh → Rs Vl} {g : Vl → Vl → Hh → Rs Vl} {σ : L2.St} {H : Hp} {Q : VK} (q : tE D W (fun ρ h => (ea ρ h).bind fun x h1 => (eb ρ h1).bind fun y h2 => g x y h2) σ H Q) :
    tE D W ea σ H fun x H1 => tE D W eb σ H1 fun y H2 => r2 D (WE W σ) g x y H2 Q := by
  obtain ⟨F, μ, ρ, h, c, er, p⟩ := q
  refine ⟨F, μ, ρ, h, c, er, (Post.bind p).mono fun x H1 q => ?_⟩
  obtain ⟨F1, μ1, v, h1, x1, c1, r1, p⟩ := q
  refine ⟨F1, μ1, ρ, h1, c1, er.mono x1.f x1.m, (Post.bind p).mono fun y H2 q => ?_⟩
  obtain ⟨F2, μ2, w, h2, x2, c2, rr, p⟩ := q
  exact ⟨F2, μ2, h2, v, w, c2, r1.mono x2.f x2.m, rr, p⟩
theorem e_var {i : Nat} {x : Str} {pos : Pos} (o : XBase D P d G N sc X) (hi : N[i]? = some x) (hv : visB sc x = true) (hp : plainNm x = true) : EOk D W X (fun ρ h => match ρ[i]? with | some (some v) => .ok v h | _ => .bad) (.Name x pos) := by
  simp only [plainNm, Bool.and_eq_true, Bool.not_eq_true'] at hp
  refine eok_val ((pe_var (i := i) (by rw [o.hN]; exact hi) (o.vis x hv) hp.1.1 hp.1.2).imp fun σ H Q q => ?_) (by intro _; rfl)
  obtain ⟨F, μ, ρ, h, c, er, p⟩ := q
  dsimp only at p
  split at p
  · rename_i v hv
    obtain ⟨u, h1, h2⟩ := er.2 i v hv
    exact ⟨u, h1, post_same c h2 p⟩
  · exact p.elim
theorem e_cst {v : Vl} {k : Const} {j : Nat} {pos : Pos} (hk : constOk v k = true) : EOk D W X (fun _ h => .ok v h) (.Constant k j pos) := by
  refine eok_val ?_ (by intro _; rfl)
  have go : ∀ {u : V}, PE X (.Constant k j pos) (tC u) → (∀ F μ, RV D F μ v u) → PE X (.Constant k j pos) (tE D W (fun _ h => .ok v h)) := fun {u} pe r => pe.imp fun σ H Q q => by
    obtain ⟨F, μ, ρ, h, c, er, p⟩ := q
    exact post_same c (r F μ) p
  cases v <;> cases k <;> try (cases hk; done)
  · exact go pe_non fun _ _ => .non
  · have e := eq_of_beq hk
    subst e
    exact go pe_bl fun _ _ => .bl _
  · have e := eq_of_beq hk
    subst e
    exact go pe_int fun _ _ => .int _
  · simp only [constOk, Bool.and_eq_true] at hk
    have e := eq_of_beq hk.1
    subst e
    exact go pe_str fun _ _ => .str hk.2
theorem e_gc {x : Str} {v w : Vl} {pos : Pos} (o : XBase D P d G N sc X) (hg : glB sc x = true) (hp : plainNm x = true) (hc : G.cn x = some w) (hs : sameC v w = true) : EOk D W X (fun _ h => .ok v h) (.Name x pos) := by
  simp only [plainNm, Bool.and_eq_true, Bool.not_eq_true'] at hp
  refine eok_val ?_ (by intro _; rfl)
  obtain ⟨u, hm, hr⟩ := o.w.cst x w hc
  have go : ∀ {z : V}, RelV z u → (∀ F μ, RV D F μ v z) → PE X (.Name x pos) (tE D W (fun _ h => .ok v h)) := fun {z} rz r => (pe_glob (o.gl x hg) hm rz hp.1.1).imp fun σ H Q q => by
    obtain ⟨F, μ, ρ, h, c, er, p⟩ := q
    exact post_same c (r F μ) p
  rcases hr with ⟨i, e, r⟩ | ⟨z, e, r⟩
  · subst e
    cases v <;> try (cases hs; done)
    have e := eq_of_beq hs
    subst e
    exact go r fun _ _ => .int _
  · subst e
    cases v <;> try (cases hs; done)
    simp only [sameC, Bool.and_eq_true] at hs
    have e := eq_of_beq hs.1
    subst e
    exact go r fun _ _ => .str hs.2
variable {ea eb ec : Ev → Hh → Rs Vl} {a b c : Expr} {pos : Pos}
theorem e_bin (k : XBase D P d G N sc X) (o : Bop) (ha : EOk D W X ea a) (hb : EOk D W X eb b) : EOk D W X (fun ρ h => (ea ρ h).bind fun x h1 => (eb ρ h1).bind fun y h2 => binV o x y h2) (.BinOp a (bopP o) b pos) := by
  refine eok_val ?_ (by intro _; rfl)
  refine ⟨fun pins s σ H Q I q => ?_⟩
  exact (pe_op (op_bin (D := D) (W := WE W σ) k.hK o) ha.pe hb.pe).run pins s σ H Q I (two_reads q)
theorem e_cmp (k : XBase D P d G N sc X) (o : Cop) (ha : EOk D W X ea a) (hb : EOk D W X eb b) (hm : ∀ p, behindInMarks p b = false) : EOk D W X (fun ρ h => (ea ρ h).bind fun x h1 => (eb ρ h1).bind fun y h2 => cmpV o x y h2) (.Compare a [copP o] [b] pos) := by
  refine ⟨⟨fun pins s σ H Q I q => ?_⟩, ⟨fun pins s σ H Q I q => ?_⟩⟩
  · exact (pe_cmpR (op_cmp (D := D) (W := WE W σ) k.hK k.hu o) ha.pe hb.pe (hm _)).run pins s σ H Q I (two_reads q)
  · refine (pt_cmpR (op_cmp (D := D) (W := WE W σ) k.hK k.hu o) ha.pe hb.pe (hm _)).run pins s σ H Q I ?_
    have q' : tE D W (fun ρ h => (ea ρ h).bind fun x h1 => (eb ρ h1).bind fun y h2 => cmpV o x y h2) σ H fun x H' => ∃ k, x = .bl k ∧ Q k H' := by
      obtain ⟨F, μ, ρ, h, c, er, p⟩ := q
      refine ⟨F, μ, ρ, h, c, er, (Post.bind p).mono fun u H' q => ?_⟩
      obtain ⟨F1, μ1, v, h1, x, c1, r, p⟩ := q
      cases r with
      | bl b => exact ⟨b, rfl, p _ _ _ _ (.refl _ _ _) c1 rfl⟩
      | _ => exact p.elim
    exact two_reads q'
theorem e_neg (ha : EOk D W X ea a) : EOk D W X (fun ρ h => (ea ρ h).bind fun x h1 => match x with | .int i => .ok (.int (-i)) h1 | _ => .bad) (.UnaryOp .USub a pos) := by
  have pe : PE X (.UnaryOp .USub a pos) (tE D W fun ρ h => (ea ρ h).bind fun x h1 => match x with | .int i => .ok (.int (-i)) h1 | _ => .bad) := by
    refine (pe_un un_neg ha.pe).imp fun σ H Q q => ?_
    obtain ⟨F, μ, ρ, h, c, er, p⟩ := q
    refine ⟨F, μ, ρ, h, c, er, (Post.bind p).mono fun u H' q => ?_⟩
    obtain ⟨F1, μ1, v, h1, x, c1, r, p⟩ := q
    cases r with
    | int i => exact ⟨i, rfl, post_same c1 (.int _) p⟩
    | _ => exact p.elim
  exact eok_val pe (by intro _; rfl)
theorem test_bind {α β : Type} {S : Hp → List Addr → α → β → Prop} {F : Hp} {μ : List Addr} {H : Hp} {r : Rs Vl} {f : Vl → Hh → Rs α} {Q : β → Hp → Prop} {E : XK} (hf : ∀ v h, (∀ b, v ≠ .bl b) → f v h = .bad) (p : Post D S F μ H (r.bind f) Q E) :
    Post D RB F μ H (asB r) (fun b H1 => ∃ F1 μ1 h1, Xt F μ H F1 μ1 H1 ∧ CS D F1 μ1 h1 H1 ∧ Post D S F1 μ1 H1 (f (.bl b) h1) Q E) E := by
  cases r with
  | bad => exact p
  | exc C h => exact p
  | ok v h =>
    have p : Post D S F μ H (f v h) Q E := p
    by_cases q : ∃ b, v = .bl b
    · obtain ⟨b, rfl⟩ := q
      intro F1 μ1 H1 u x c e
      cases e
      refine ⟨F1, μ1, h, x, c, ?_⟩
      cases e : f (.bl b) h with
      | bad => rw [e] at p; exact p
      | exc C h2 => rw [e] at p; exact fun F2 μ2 H2 A x2 c2 k => p F2 μ2 H2 A (x.trans x2) c2 k
      | ok w h2 => rw [e] at p; exact fun F2 μ2 H2 u2 x2 c2 r2 => p F2 μ2 H2 u2 (x.trans x2) c2 r2
    · rw [hf v h fun b e => q ⟨b, e⟩] at p
      exact p.elim
theorem val_bl {α β : Type} {S : Hp → List Addr → α → β → Prop} {F : Hp} {μ : List Addr} {H : Hp} {r : Rs Vl} {f : Vl → Hh → Rs α} {Q : β → Hp → Prop} {E : XK} (hf : ∀ v h, (∀ b, v ≠ .bl b) → f v h = .bad) (p : Post D S F μ H (r.bind f) Q E) :
    PostV D F μ H r (fun u H1 => ∃ b F1 μ1 h1, u = .bl b ∧ Xt F μ H F1 μ1 H1 ∧ CS D F1 μ1 h1 H1 ∧ Post D S F1 μ1 H1 (f (.bl b) h1) Q E) E := by
  refine (Post.bind p).mono fun u H1 q => ?_
  obtain ⟨F1, μ1, v, h1, x, c1, r1, p⟩ := q
  by_cases q : ∃ b, v = .bl b
  · obtain ⟨b, rfl⟩ := q
    cases r1
    exact ⟨b, F1, μ1, h1, rfl, x, c1, p⟩
  · rw [hf v h1 fun b e => q ⟨b, e⟩] at p
    exact p.elim
abbrev fAnd (eb : Ev → Hh → Rs Vl) (ρ : Ev) : Vl → Hh → Rs Vl := fun x h1 => match x with | .bl true => eb ρ h1 | .bl false => .ok (.bl false) h1 | _ => .bad
abbrev fOr (eb : Ev → Hh → Rs Vl) (ρ : Ev) : Vl → Hh → Rs Vl := fun x h1 => match x with | .bl true => .ok (.bl true) h1 | .bl false => eb ρ h1 | _ => .bad
abbrev fNot : Vl → Hh → Rs Vl := fun x h1 => match x with | .bl b => .ok (.bl (!b)) h1 | _ => .bad
abbrev fIte (ea eb : Ev → Hh → Rs Vl) (ρ : Ev) : Vl → Hh → Rs Vl := fun x h1 => match x with | .bl true => ea ρ h1 | .bl false => eb ρ h1 | _ => .bad
theorem no_bl {α : Type} {f : Vl → Hh → Rs α} (h : ∀ (v : Vl) (h : Hh), f v h ≠ .bad → ∃ b, v = .bl b) : ∀ v h, (∀ b, v ≠ .bl b) → f v h = .bad := fun v hh q => by
  by_cases e : f v hh = .bad
  · exact e
  · obtain ⟨b, e⟩ := h v hh e
    exact absurd e (q b)
theorem fAnd_bl {ρ : Ev} : ∀ v h, (∀ b, v ≠ .bl b) → fAnd eb ρ v h = .bad := fun v h q => by
  cases v <;> first | rfl | exact absurd rfl (q _)
theorem fOr_bl {ρ : Ev} : ∀ v h, (∀ b, v ≠ .bl b) → fOr eb ρ v h = .bad := fun v h q => by
  cases v <;> first | rfl | exact absurd rfl (q _)
theorem fNot_bl : ∀ v h, (∀ b, v ≠ .bl b) → fNot v h = .bad := fun v h q => by
  cases v <;> first | rfl | exact absurd rfl (q _)
theorem fIte_bl {ρ : Ev} : ∀ v h, (∀ b, v ≠ .bl b) → fIte ea eb ρ v h = .bad := fun v h q => by
  cases v <;> first | rfl | exact absurd rfl (q _)
theorem asB_bind {r : Rs Vl} {f : Vl → Hh → Rs Vl} : asB (r.bind f) = r.bind fun x h => asB (f x h) := by
  cases r <;> rfl
theorem and_val {rest : Expr → Expr} (ha : PE X a (tE D W ea)) {t : TE} (hb : ∀ σ H Q, tE D W eb σ H Q → t σ H Q) : ∀ σ H Q, tE D W (fun ρ h => (ea ρ h).bind (fAnd eb ρ)) σ H Q → tAndV (tE D W ea) t σ H Q := fun σ H Q q => by
  obtain ⟨F, μ, ρ, h, c, er, p⟩ := q
  refine ⟨F, μ, ρ, h, c, er, (val_bl fAnd_bl p).mono fun u H1 q => ?_⟩
  obtain ⟨b, F1, μ1, h1, rfl, x, c1, p⟩ := q
  refine ⟨b, rfl, ?_⟩
  cases b with
  | true => rw [if_pos rfl]; exact hb _ _ _ ⟨F1, μ1, ρ, h1, c1, er.mono x.f x.m, p⟩
  | false => rw [if_neg Bool.false_ne_true]; exact post_same c1 (.bl _) p
theorem or_val (ha : PE X a (tE D W ea)) {t : TE} (hb : ∀ σ H Q, tE D W eb σ H Q → t σ H Q) : ∀ σ H Q, tE D W (fun ρ h => (ea ρ h).bind (fOr eb ρ)) σ H Q → tOrV (tE D W ea) t σ H Q := fun σ H Q q => by
  obtain ⟨F, μ, ρ, h, c, er, p⟩ := q
  refine ⟨F, μ, ρ, h, c, er, (val_bl fOr_bl p).mono fun u H1 q => ?_⟩
  obtain ⟨b, F1, μ1, h1, rfl, x, c1, p⟩ := q
  refine ⟨b, rfl, ?_⟩
  cases b with
  | false => rw [if_neg Bool.false_ne_true]; exact hb _ _ _ ⟨F1, μ1, ρ, h1, c1, er.mono x.f x.m, p⟩
  | true => rw [if_pos rfl]; exact post_same c1 (.bl _) p
theorem and_tst {t : TT} (hb : ∀ σ H Q, tT D W eb σ H Q → t σ H Q) : ∀ σ H Q, tT D W (fun ρ h => (ea ρ h).bind (fAnd eb ρ)) σ H Q → tAnd (tT D W ea) t σ H Q := fun σ H Q q => by
  obtain ⟨F, μ, ρ, h, c, er, p⟩ := q
  rw [asB_bind] at p
  refine ⟨F, μ, ρ, h, c, er, (test_bind (fun v h q => by rw [fAnd_bl v h q]; rfl) p).mono fun b H1 q => ?_⟩
  obtain ⟨F1, μ1, h1, x, c1, p⟩ := q
  cases b with
  | true => rw [if_pos rfl]; exact hb _ _ _ ⟨F1, μ1, ρ, h1, c1, er.mono x.f x.m, p⟩
  | false => rw [if_neg Bool.false_ne_true]; exact p _ _ _ _ (.refl _ _ _) c1 rfl
theorem or_tst {t : TT} (hb : ∀ σ H Q, tT D W eb σ H Q → t σ H Q) : ∀ σ H Q, tT D W (fun ρ h => (ea ρ h).bind (fOr eb ρ)) σ H Q → tOr (tT D W ea) t σ H Q := fun σ H Q q => by
  obtain ⟨F, μ, ρ, h, c, er, p⟩ := q
  rw [asB_bind] at p
  refine ⟨F, μ, ρ, h, c, er, (test_bind (fun v h q => by rw [fOr_bl v h q]; rfl) p).mono fun b H1 q => ?_⟩
  obtain ⟨F1, μ1, h1, x, c1, p⟩ := q
  cases b with
  | false => rw [if_neg Bool.false_ne_true]; exact hb _ _ _ ⟨F1, μ1, ρ, h1, c1, er.mono x.f x.m, p⟩
  | true => rw [if_pos rfl]; exact p _ _ _ _ (.refl _ _ _) c1 rfl
/-- and, or: the whole as a value, as a test whatever stands around -/
structure WOkE (D : Wd) (W : WX) (X : Cx) (ev : Ev → Hh → Rs Vl) (e : Expr) : Prop where
  pe : PE X e (tE D W ev)
  pw : PW X e (tT D W ev)
theorem WOkE.eok {ev : Ev → Hh → Rs Vl} {e : Expr} (h : WOkE D W X ev e) : EOk D W X ev e := ⟨h.pe, h.pw.pt⟩
theorem e_and2 (ha : EOk D W X ea a) (hb : EOk D W X eb b) : WOkE D W X (fun ρ h => (ea ρ h).bind (fAnd eb ρ)) (.BoolOp .And [a, b] pos) :=
  ⟨(pe_and ha.pe (pe_one hb.pe)).imp (and_val (rest := id) ha.pe fun _ _ _ q => q), (pw_and ha.pt (pw_and1 hb.pt)).imp (and_tst fun _ _ _ q => q)⟩
theorem e_or2 (ha : EOk D W X ea a) (hb : EOk D W X eb b) : WOkE D W X (fun ρ h => (ea ρ h).bind (fOr eb ρ)) (.BoolOp .Or [a, b] pos) :=
  ⟨(pe_or ha.pe (pe_one hb.pe)).imp (or_val ha.pe fun _ _ _ q => q), (pw_or ha.pt (pw_or1 hb.pt)).imp (or_tst fun _ _ _ q => q)⟩
theorem e_andN {y z : Expr} {r : List Expr} (ha : EOk D W X ea a) (hb : WOkE D W X eb (.BoolOp .And (y :: z :: r) pos)) : WOkE D W X (fun ρ h => (ea ρ h).bind (fAnd eb ρ)) (.BoolOp .And (a :: y :: z :: r) pos) :=
  ⟨(pe_and ha.pe hb.pe).imp (and_val (rest := id) ha.pe fun _ _ _ q => q), (pw_and ha.pt hb.pw).imp (and_tst fun _ _ _ q => q)⟩
theorem e_orN {y z : Expr} {r : List Expr} (ha : EOk D W X ea a) (hb : WOkE D W X eb (.BoolOp .Or (y :: z :: r) pos)) : WOkE D W X (fun ρ h => (ea ρ h).bind (fOr eb ρ)) (.BoolOp .Or (a :: y :: z :: r) pos) :=
  ⟨(pe_or ha.pe hb.pe).imp (or_val ha.pe fun _ _ _ q => q), (pw_or ha.pt hb.pw).imp (or_tst fun _ _ _ q => q)⟩
theorem e_not (ha : EOk D W X ea a) : EOk D W X (fun ρ h => (ea ρ h).bind fNot) (.UnaryOp .Not a pos) := by
  refine ⟨(pe_not ha.pe).imp fun σ H Q q => ?_, (pt_not ha.pt).imp fun σ H Q q => ?_⟩
  · obtain ⟨F, μ, ρ, h, c, er, p⟩ := q
    refine ⟨F, μ, ρ, h, c, er, (val_bl fNot_bl p).mono fun u H1 q => ?_⟩
    obtain ⟨b, F1, μ1, h1, rfl, x, c1, p⟩ := q
    exact ⟨b, rfl, post_same c1 (.bl _) p⟩
  · obtain ⟨F, μ, ρ, h, c, er, p⟩ := q
    rw [asB_bind] at p
    refine ⟨F, μ, ρ, h, c, er, (test_bind (fun v h q => by rw [fNot_bl v h q]; rfl) p).mono fun b H1 q => ?_⟩
    obtain ⟨F1, μ1, h1, x, c1, p⟩ := q
    exact p _ _ _ _ (.refl _ _ _) c1 rfl
theorem e_ite (hc : EOk D W X ec c) (ha : EOk D W X ea a) (hb : EOk D W X eb b) : PE X (.IfExp c a b pos) (tE D W fun ρ h => (ec ρ h).bind (fIte ea eb ρ)) := by
  refine (pe_ifExp hc.pt ha.pe hb.pe).imp fun σ H Q q => ?_
  obtain ⟨F, μ, ρ, h, c, er, p⟩ := q
  refine ⟨F, μ, ρ, h, c, er, (test_bind fIte_bl p).mono fun b H1 q => ?_⟩
  obtain ⟨F1, μ1, h1, x, c1, p⟩ := q
  cases b with
  | true => rw [if_pos rfl]; exact ⟨F1, μ1, ρ, h1, c1, er.mono x.f x.m, p⟩
  | false => rw [if_neg Bool.false_ne_true]; exact ⟨F1, μ1, ρ, h1, c1, er.mono x.f x.m, p⟩
end
end IL
end

section
set_option autoImplicit false
set_option linter.all false
set_option Elab.async false
set_option maxRecDepth 100000
set_option maxHeartbeats 4000000
/-! IL: displays, subscripts, calls. -/
namespace IL
open PySem L2 PyProof.Rows
section
variable {D : Wd} {P : Pg} {d : Nat} {G : Gt} {N : List Str} {sc : Scope} {W : WX} {X : Cx}
variable {ea eb ec : Ev → Hh → Rs Vl} {el : Ev → Hh → Rs (List Vl)} {a b c : Expr} {es : List Expr} {pos : Pos}
theorem e_iteOk (hc : EOk D W X ec c) (ha : EOk D W X ea a) (hb : EOk D W X eb b) : EOk D W X (fun ρ h => (ec ρ h).bind (fIte ea eb ρ)) (.IfExp c a b pos) := by
  refine ⟨e_ite hc ha hb, ⟨fun pins s σ H Q I q => ?_⟩⟩
  obtain ⟨F, μ, ρ, h, c, er, p⟩ := q
  rw [asB_bind] at p
  refine isTrue_IfExp (thn (hc.pt.run pins s σ H _ I ⟨F, μ, ρ, h, c, er, test_bind (fun v h q => by rw [fIte_bl v h q]; rfl) p⟩) fun k s1 hk => ?_)
  obtain ⟨H1, I1, F1, μ1, h1, x, c1, p⟩ := hk
  cases k with
  | true => exact ha.pt.run pins s1 σ H1 Q I1 ⟨F1, μ1, ρ, h1, c1, er.mono x.f x.m, p⟩
  | false => exact hb.pt.run pins s1 σ H1 Q I1 ⟨F1, μ1, ρ, h1, c1, er.mono x.f x.m, p⟩
/-- not a star -/
def noStar : Expr → Bool
  | .Starred _ _ => false
  | _ => true
theorem star_eq {e : Expr} (h : noStar e = true) (es : List Expr) (env : Env) : starEach (e :: es) env = (false, eval e env) :: starEach es env := by
  cases e <;> first | rfl | cases h
theorem l_nil : PA X [] (tL D W fun _ h => .ok [] h) := pa_nil.imp fun σ H Q q => by
  obtain ⟨F, μ, ρ, h, c, er, p⟩ := q
  exact p _ _ _ _ (.refl _ _ _) c .nil
theorem l_cons (ha : EOk D W X ea a) (hs : noStar a = true) (hl : PA X es (tL D W el)) : PA X (a :: es) (tL D W fun ρ h => (ea ρ h).bind fun v h1 => (el ρ h1).bind fun vs h2 => .ok (v :: vs) h2) :=
  (pa_cons ha.pe hl (star_eq hs _ _)).imp fun σ H Q q => by
    obtain ⟨F, μ, ρ, h, c, er, p⟩ := q
    refine ⟨F, μ, ρ, h, c, er, (Post.bind p).mono fun u H1 q => ?_⟩
    obtain ⟨F1, μ1, v, h1, x1, c1, r1, p⟩ := q
    refine ⟨F1, μ1, ρ, h1, c1, er.mono x1.f x1.m, (Post.bind (R := RVs D) p).mono fun us H2 q => ?_⟩
    obtain ⟨F2, μ2, vs, h2, x2, c2, r2, p⟩ := q
    exact p _ _ _ _ (.refl _ _ _) c2 (.cons (r1.mono x2.f x2.m) r2)
theorem stars_plain : ∀ {es : List Expr} {env : Env} {cpos : Pos}, es.all noStar = true → (backTo cpos (starEach es env)).any (·.1) = false
  | [], _, _, _ => rfl
  | e :: es, env, cpos, h => by
    rw [List.all_cons, Bool.and_eq_true] at h
    rw [star_eq h.1]
    show (false || (backTo cpos (starEach es env)).any (·.1)) = false
    rw [stars_plain h.2]; rfl
theorem stars_all : ∀ {es : List Expr} {env : Env} {cpos : Pos}, es.all noStar = true → (backTo cpos (starEach es env)).all (fun x => !x.1) = true
  | [], _, _, _ => rfl
  | e :: es, env, cpos, h => by
    rw [List.all_cons, Bool.and_eq_true] at h
    rw [star_eq h.1]
    show (true && (backTo cpos (starEach es env)).all (fun x => !x.1)) = true
    rw [stars_all h.2]; rfl
theorem e_tup {j : Nat} (hl : PA X es (tL D W el)) : EOk D W X (fun ρ h => (el ρ h).bind fun vs h1 => if vs.length ≤ 100 then .ok (.tup vs) h1 else .bad) (.Tuple es j pos) := by
  refine eok_val ((pe_tup hl).imp fun σ H Q q => ?_) (by intro _; rfl)
  obtain ⟨F, μ, ρ, h, c, er, p⟩ := q
  refine ⟨F, μ, ρ, h, c, er, (Post.bind p).mono fun us H1 q => ?_⟩
  obtain ⟨F1, μ1, vs, h1, x, c1, r, p⟩ := q
  split at p
  · rename_i hv
    exact ⟨line_le (by rw [← r.length]; omega), fun l hl => post_tup c1 r p hl⟩
  · exact p.elim
theorem e_lst (m : Bool) (hl : PA X es (tL D W el)) : EOk D W X (fun ρ h => (el ρ h).bind fun vs h1 => if vs.length ≤ 1000 then place m (.ok (.lst vs) h1) else .bad) (.List es pos) := by
  refine eok_val ((pe_lst hl).imp fun σ H Q q => ?_) (by intro _; rfl)
  obtain ⟨F, μ, ρ, h, c, er, p⟩ := q
  refine ⟨F, μ, ρ, h, c, er, (Post.bind p).mono fun us H1 q => ?_⟩
  obtain ⟨F1, μ1, vs, h1, x, c1, r, p⟩ := q
  split at p
  · rename_i hv
    exact ⟨line_le (by rw [← r.length]; omega), fun l hl => place_lst m c1 r p hl⟩
  · exact p.elim
theorem e_dnew (t : Bool) : EOk D W X (fun _ h => .ok (.ref h.length) (h ++ [.dct false t []])) (.Dict [] [] pos) := by
  cases t with
  | true =>
    refine eok_val (pe_dnewT.imp fun σ H Q q => ?_) (by intro _; rfl)
    obtain ⟨F, μ, ρ, h, c, er, p⟩ := q
    intro l hl
    obtain ⟨c', x⟩ := c.place (o := .dct false true []) (u := .dT []) hl (.dT .nil)
    exact p _ _ _ _ x c' (.ref (by rw [c.len, List.getElem?_append_right (Nat.le_refl _)]; simp))
  | false =>
    refine eok_val (pe_dnewK.imp fun σ H Q q => ?_) (by intro _; rfl)
    obtain ⟨F, μ, ρ, h, c, er, p⟩ := q
    intro l hl
    obtain ⟨c', x⟩ := c.place (o := .dct false false []) (u := .dK []) hl (.dK .nil)
    exact p _ _ _ _ x c' (.ref (by rw [c.len, List.getElem?_append_right (Nat.le_refl _)]; simp))
theorem e_idx (k : XBase D P d G N sc X) (ha : EOk D W X ea a) (hb : EOk D W X eb b) (hs : PlainIx b) : EOk D W X (fun ρ h => (ea ρ h).bind fun x h1 => (eb ρ h1).bind fun y h2 => idxV x y h2) (.Subscript a b pos) := by
  refine eok_val ⟨fun pins s σ H Q I q => ?_⟩ (by intro _; rfl)
  have hu := k.hu
  exact (pe_ix (ix_any (D := D) (W := WE W σ) k.hK (by omega)) ha.pe hb.pe hs).run pins s σ H Q I (two_reads q)
/-- a slice's part -/
def tO (D : Wd) (W : WX) (ev : Ev → Hh → Rs Vl) : TO := fun σ H Q => ∃ F μ ρ h, CS D F μ h H ∧ ER D F μ ρ σ ∧ Post D (fun _ _ v o => bound v = some o) F μ H (ev ρ h) Q (WE W σ)
theorem o_none : PO X none (tO D W fun _ h => .ok .non h) := ⟨fun pins s σ H Q I q => by
  obtain ⟨F, μ, ρ, h, c, er, p⟩ := q
  exact po_none.run pins s σ H Q I (p _ _ _ _ (.refl _ _ _) c rfl)⟩
def intF : Vl → Hh → Rs Vl := fun v h => match v with
  | .int i => .ok (.int i) h
  | _ => .bad
theorem int_reads {F : Hp} {μ : List Addr} {H : Hp} {r : Rs Vl} {R : V → Hp → Prop} {E : XK} {Q : Option Int → Hp → Prop} (p : Post D (fun _ _ v o => bound v = some o) F μ H (r.bind intF) Q E) : PostV D F μ H r (fun u H1 => ∃ i, u = .int i ∧ Q (some i) H1) E := by
  cases r with
  | bad => exact p
  | exc C h => exact p
  | ok v h =>
    have p : Post D (fun _ _ v o => bound v = some o) F μ H (intF v h) Q E := p
    intro F1 μ1 H1 u x c1 r
    cases r with
    | int i => exact ⟨i, rfl, p _ _ _ _ x c1 rfl⟩
    | _ => exact p.elim
theorem o_some (ha : EOk D W X ea a) : PO X (some a) (tO D W fun ρ h => (ea ρ h).bind intF) := ⟨fun pins s σ H Q I q => by
  refine (po_some ha.pe).run pins s σ H Q I ?_
  obtain ⟨F, μ, ρ, h, c, er, p⟩ := q
  exact ⟨F, μ, ρ, h, c, er, int_reads (R := fun _ _ => True) p⟩⟩
theorem e_slc (k : XOk D P d G N sc W X) (m : Bool) {lo hi : Option Expr} {p2 : Pos} {el eh : Ev → Hh → Rs Vl} (ha : EOk D W X ea a) (hl : PO X lo (tO D W el)) (hh : PO X hi (tO D W eh)) :
    EOk D W X (fun ρ h => (ea ρ h).bind fun x h1 => (el ρ h1).bind fun l h2 => (eh ρ h2).bind fun u h3 => place m (slcV x l u .non h3)) (.Subscript a (.Slice lo hi none p2) pos) := by
  refine eok_val ⟨fun pins s σ H Q I q => ?_⟩ (by intro _; rfl)
  refine (pe_slice (sl_any (D := D) (W := WE W σ) k.hK m) ha.pe hl hh).run pins s σ H Q I ?_
  obtain ⟨F, μ, ρ, h, c, er, p⟩ := q
  refine ⟨F, μ, ρ, h, c, er, (Post.bind p).mono fun x H1 q => ?_⟩
  obtain ⟨F1, μ1, v, h1, x1, c1, r1, p⟩ := q
  refine ⟨F1, μ1, ρ, h1, c1, er.mono x1.f x1.m, (Post.bind p).mono fun l H2 q => ?_⟩
  obtain ⟨F2, μ2, w, h2, x2, c2, r2, p⟩ := q
  refine ⟨F2, μ2, ρ, h2, c2, (er.mono x1.f x1.m).mono x2.f x2.m, (Post.bind p).mono fun u H3 q => ?_⟩
  obtain ⟨F3, μ3, y, h3, x3, c3, r3, p⟩ := q
  exact ⟨F3, μ3, h3, v, w, y, c3, (r1.mono x2.f x2.m).mono x3.f x3.m, r2, r3, p⟩
theorem e_step (k : XOk D P d G N sc W X) (m : Bool) {p2 : Pos} (ha : EOk D W X ea a) (hb : EOk D W X eb b) :
    EOk D W X (fun ρ h => (ea ρ h).bind fun x h1 => ((eb ρ h1).bind intF).bind fun l h2 => place m (slcV x .non .non l h2)) (.Subscript a (.Slice none none (some b) p2) pos) := by
  refine eok_val ⟨fun pins s σ H Q I q => ?_⟩ (by intro _; rfl)
  refine (pe_step (D := D) (W := WE W σ) m ha.pe hb.pe).run pins s σ H Q I ?_
  obtain ⟨F, μ, ρ, h, c, er, p⟩ := q
  refine ⟨F, μ, ρ, h, c, er, (Post.bind p).mono fun x H1 q => ?_⟩
  obtain ⟨F1, μ1, v, h1, x1, c1, r1, p⟩ := q
  refine ⟨F1, μ1, ρ, h1, c1, er.mono x1.f x1.m, ?_⟩
  have p2 : Post D (fun _ _ v o => bound v = some o) F1 μ1 H1 ((eb ρ h1).bind intF) (fun o H2 => ∃ F μ h v' k, o = some k ∧ CS D F μ h H2 ∧ RV D F μ v' x ∧ PostV D F μ H2 (place m (slcV v' .non .non (.int k) h)) Q (WE W σ)) (WE W σ) := by
    cases e : eb ρ h1 with
    | bad => rw [e] at p; exact p
    | exc C h => rw [e] at p; exact p
    | ok w h2 =>
      rw [e] at p
      cases w with
      | int i =>
        intro F2 μ2 H2 o x2 c2 eo
        cases eo
        refine ⟨F2, μ2, h2, v, i, rfl, c2, r1.mono x2.f x2.m, ?_⟩
        have p : PostV D F1 μ1 H1 (place m (slcV v .non .non (.int i) h2)) Q (WE W σ) := p
        cases e : place m (slcV v .non .non (.int i) h2) with
        | bad => rw [e] at p; exact p
        | exc C h3 => rw [e] at p; exact fun F3 μ3 H3 A x3 c3 k => p F3 μ3 H3 A (x2.trans x3) c3 k
        | ok z h3 => rw [e] at p; exact fun F3 μ3 H3 u3 x3 c3 r3 => p F3 μ3 H3 u3 (x2.trans x3) c3 r3
      | _ => exact p.elim
  exact int_reads (R := fun _ _ => True) p2
theorem base_eq {e : Expr} (h : notSuper e = true) (f : Str) (env : Env) : attributeBase e f env (eval e env) = eval e env := by
  cases e <;> try rfl
  rename_i func args kws pos
  cases func <;> try rfl
  rename_i id ipos
  cases args <;> try rfl
  cases kws <;> try rfl
  simp only [notSuper, Bool.not_eq_true'] at h
  unfold attributeBase
  have : (id != ("super" : Str)) = true := by rw [bne, h]; rfl
  simp only [this, Bool.true_or, if_true]
theorem RF.look {F : Hp} {μ : List Addr} {f : Str} {v : Vl} : ∀ {fs : List (Str × Vl)} {gs : List (Str × V)}, RF D F μ fs gs → fs.lookup f = some v → ∃ u, gs.lookup f = some u ∧ RV D F μ v u
  | _, _, .nil, h => by simp at h
  | _, _, .cons (f := g) r t, h => by
    rw [List.lookup_cons] at h ⊢
    cases e : f == g with
    | true => rw [e] at h; cases h; exact ⟨_, rfl, r⟩
    | false => rw [e] at h; exact RF.look t h
theorem RF.noLook {F : Hp} {μ : List Addr} {f : Str} : ∀ {fs : List (Str × Vl)} {gs : List (Str × V)}, RF D F μ fs gs → fs.lookup f = none → gs.lookup f = none
  | _, _, .nil, h => rfl
  | _, _, .cons (f := g) r t, h => by
    rw [List.lookup_cons] at h ⊢
    cases e : f == g with
    | true => rw [e] at h; cases h
    | false => rw [e] at h; exact RF.noLook t h
/-- an instance of ours as it stands -/
theorem asIns_ok {F : Hp} {μ : List Addr} {h : Hh} {H : Hp} (c : CS D F μ h H) {v : Vl} {u : V} (r : RV D F μ v u) {C : Nat} {fs : List (Str × Vl)} (e : asIns h v = some (C, fs)) : ∃ a A dx gs, u = .ref a ∧ H a = some (.ins A dx gs) ∧ D.cls C = some A ∧ RF D F μ fs gs := by
  cases r with
  | ins hf hc rf =>
    simp only [asIns, Option.some.injEq, Prod.mk.injEq] at e
    obtain ⟨rfl, rfl⟩ := e
    exact ⟨_, _, _, _, rfl, c.sub.ins hf, hc, rf⟩
  | @ref l a hm =>
    simp only [asIns] at e
    split at e
    · rename_i C' fs' hx
      cases e
      obtain ⟨b, o, e1, e2, e3, e4⟩ := c.ob l _ hx
      rw [hm] at e1
      cases e1
      cases e4 with
      | ins hc rf => exact ⟨_, _, _, _, rfl, e3, hc, rf⟩
    · cases e
  | _ => simp [asIns] at e
theorem e_fld (k : XOk D P d G N sc W X) (f : Str) (ha : EOk D W X ea a) (hn : notSuper a = true) : EOk D W X (fun ρ h => (ea ρ h).bind fun x h1 => fldV P f x h1) (.Attribute a f pos) := by
  refine eok_val ((pe_fld ha.pe (base_eq hn f _)).imp fun σ H Q q => ?_) (by intro _; rfl)
  obtain ⟨F, μ, ρ, h, c, er, p⟩ := q
  refine ⟨F, μ, ρ, h, c, er, (Post.bind p).mono fun x H1 q => ?_⟩
  obtain ⟨F1, μ1, v, h1, x1, c1, r1, p⟩ := q
  unfold fldV at p
  split at p
  · rename_i C fs e
    obtain ⟨l, A, dx, gs, rfl, hl, hc, rf⟩ := asIns_ok c1 r1 e
    split at p
    · rename_i hf
      obtain ⟨w, e, p⟩ := post_of p
      obtain ⟨u, e2, ru⟩ := rf.look e
      obtain ⟨cl, na⟩ := k.w.fls C A f hc hf
      exact ⟨l, A, dx, gs, u, rfl, hl, cl, na, e2, post_same c1 ru p⟩
    · exact p.elim
  · exact p.elim
end
end IL
end

section
set_option autoImplicit false
set_option linter.all false
set_option Elab.async false
set_option maxRecDepth 100000
set_option maxHeartbeats 4000000
/-! IL: calls. -/
namespace IL
open PySem L2 PyProof.Rows
section
variable {D : Wd} {P : Pg} {d : Nat} {G : Gt} {N : List Str} {sc : Scope} {W : WX} {X : Cx}
variable {ea eb ec : Ev → Hh → Rs Vl} {el : Ev → Hh → Rs (List Vl)} {a b c o : Expr} {es : List Expr} {pos p apos : Pos}
theorem plain_db {x : Str} (h : plainNm x = true) : (x == ("__debug__" : Str)) = false := by
  simp only [plainNm, Bool.and_eq_true, Bool.not_eq_true'] at h
  exact h.1.1
theorem plain_nm {x : Str} (h : plainNm x = true) : x ≠ ("__name__" : Str) := fun e => by
  simp only [plainNm, Bool.and_eq_true, Bool.not_eq_true'] at h
  have := h.2
  rw [e] at this
  simp at this
theorem nil_reads {sp : Sp} {R : L2.St → Hp → VK → XK} (hn : el = fun _ h => .ok [] h) {σ : L2.St} {H : Hp} {Q : List V → Hp → Prop} (q : tL D W el σ H Q) : Q [] H := by
  subst hn
  obtain ⟨F, μ, ρ, h, c, er, p⟩ := q
  exact p _ _ _ _ (.refl _ _ _) c .nil
/-- f(..) -/
theorem e_call (k : XOk D P d G N sc W X) {x : Str} {f : Nat} (hg : glB sc x = true) (hp : plainNm x = true) (hf : G.fn x = some f) (hs : es.all noStar = true) (hl : PA X es (tL D W el)) (hn : es = [] → el = fun _ h => .ok [] h) :
    EOk D W X (fun ρ h => (el ρ h).bind fun vs h1 => callC P (run P d) f vs h1) (.Call (.Name x p) es [] pos) := by
  obtain ⟨fa, fd, ps, hm, kp, bd, ok⟩ := k.w.fns x f hf
  have rd : ∀ σ H Q, tE D W (fun ρ h => (el ρ h).bind fun vs h1 => callC P (run P d) f vs h1) σ H Q → tL D W el σ H fun us H1 => spF D P d f us H1 Q (WE W σ) := fun σ H Q q => by
    obtain ⟨F, μ, ρ, h, c, er, p⟩ := q
    refine ⟨F, μ, ρ, h, c, er, (Post.bind p).mono fun us H1 q => ?_⟩
    obtain ⟨F1, μ1, vs, h1, x1, c1, r1, p⟩ := q
    exact call_reads c1 r1 p
  refine eok_val ⟨fun pins s σ H Q I q => ?_⟩ (by intro _; rfl)
  have hr : Room (4 * d) X.A := k.room.mono (by omega)
  refine wpAny_Call_Name_kw (ld_glob I (k.gl x hg) hm ?_ (plain_db hp))
  cases es with
  | nil => exact PySem.W.callWith_K0 I.kIn kp (run_fnS (us := []) ok hr bd (passAt k.tk σ) I .nil (nil_reads (sp := spF D P d f) (R := fun _ _ _ => fun _ _ _ => True) (hn rfl) (rd σ H Q q)))
  | cons e es =>
    rw [List.all_cons, Bool.and_eq_true] at hs
    refine PySem.W.callWith_K (h₀ := X.base) I.ok.mod.kin kp (thn (hl.run pos pins s σ H _ I (rd σ H Q q)) fun us s1 ⟨vs, H1, I1, r, q⟩ => ⟨I1.kIn, ?_⟩) (star_eq hs.1 _ _) (stars_plain hs.2)
    exact run_fnS ok hr bd (passAt k.tk σ) I1 r q
/-- an instance is made, what its __init__ raises is wished for at the slots -/
theorem make_at {A fa : Addr} {fd : FuncData} {ps : List Str} {sp : Sp} {n : Nat} {E : XK} {σ : L2.St} {H : Hp} {s : Shared} {Q : VK} {pins : List (Addr × Obj)} {us : List Value} {vs : List V} (mk : Mk X.K A fa)
    (ok : FnOk X.prog X.w X.K X.mg X.base (L2.CX X.prog X.w) n fa fd ps sp) (room : Room (n + 1) X.A) (bd : Binds X.K fd ps []) (pa : PassesAt (L2.CX X.prog X.w) X σ E) (I : L2.Inv X pins σ H s) (r : Vals vs us)
    (q : ∀ y dy, H y = none → H dy = none → dy ≠ y → sp (.ref y :: vs) (upd (upd H dy (.own y)) y (.ins A dy [])) (fun v H2 => v = .non ∧ Q (.ref y) H2) E) : wpAny (model X.prog X.w) X.A (call (.ref A) us) (EP X pins σ Q) X.xe s := by
  have f1 : H (s.heap.objs.size + 1) = none := I.hok.fresh (Nat.le_add_right _ 1)
  have f0 : H s.heap.objs.size = none := I.hok.fresh Nat.le.refl
  have q1 := q _ _ f1 f0 (Nat.ne_of_lt (Nat.lt_add_one _))
  have J := Inv.made (C := A) I
  have rs : Vals (V.ref (s.heap.objs.size + 1) :: vs) (Value.ref (s.heap.objs.size + 1) :: us) := .cons rfl r
  have hlen : (Value.ref (s.heap.objs.size + 1) :: us).length = ps.length := rs.length.symm.trans (ok.len _ _ _ _ q1)
  have b := bd _ (Value.ref (s.heap.objs.size + 1) :: us) J.kIn (by rw [List.append_nil]; exact hlen)
  rw [List.append_nil] at b
  have go := ok.run _ X.stack _ _ ⟨_, []⟩ _ _ _ E (room.make A us []) (J.env0.make A us []) b rs q1
  refine wpAny_call (make_map I.kIn mk.makes mk.init (beq_iff_eq.mp mk.fn) (codeAny_mono go fun res s2 hres => ?_))
  match res, hres with
  | .error e, hres => exact pa pins _ _ e s2 J hres
  | .ok (.ret u), hres =>
    obtain ⟨v, H2, J2, ru, ev, q2⟩ := J.after hres
    subst ev
    exact ⟨ru, V.ref (s.heap.objs.size + 1), H2, J2, rfl, q2⟩
  | .ok .next, hres => exact hres.elim
  | .ok .brk, hres => exact hres.elim
  | .ok .cont, hres => exact hres.elim
/-- C(..) -/
theorem e_make (k : XOk D P d G N sc W X) {x : Str} {C : Nat} (hg : glB sc x = true) (hp : plainNm x = true) (hf : G.cl x = some C) (hs : es.all noStar = true) (hl : PA X es (tL D W el)) (hn : es = [] → el = fun _ h => .ok [] h) :
    EOk D W X (fun ρ h => (el ρ h).bind fun vs h1 => match P.init C with
      | some f => (run P d f (.ref h1.length :: vs) (h1 ++ [.ins C []])).bind fun r h2 => match r with
        | .non => .ok (.ref h1.length) h2
        | _ => .bad
      | none => .bad) (.Call (.Name x p) es [] pos) := by
  refine eok_val ?_ (by intro _; rfl)
  obtain ⟨f, A, fa, fd, ps, hi, hc, hm, mk, bd, ok⟩ := k.w.mks x C hf
  rw [hi]
  dsimp only
  have rd : ∀ σ H Q, tE D W (fun ρ h => (el ρ h).bind fun vs h1 => (run P d f (.ref h1.length :: vs) (h1 ++ [.ins C []])).bind fun r h2 => match r with
      | .non => .ok (.ref h1.length) h2
      | _ => .bad) σ H Q → tL D W el σ H fun us H1 => ∀ y dy, H1 y = none → H1 dy = none → dy ≠ y → spF D P d f (.ref y :: us) (upd (upd H1 dy (.own y)) y (.ins A dy [])) (fun v H2 => v = .non ∧ Q (.ref y) H2) (WE W σ) := fun σ H Q q => by
    obtain ⟨F, μ, ρ, h, c, er, p⟩ := q
    refine ⟨F, μ, ρ, h, c, er, (Post.bind p).mono fun us H1 q => ?_⟩
    obtain ⟨F1, μ1, vs, h1, x1, c1, r1, p⟩ := q
    intro y dy ny ndy ne
    -- the instance's own dict stands frozen, the instance is new in the local heap
    obtain ⟨c2, x2⟩ := c1.new ndy (.own y)
    have ny2 : upd H1 dy (.own y) y = none := by rw [upd_ne (Ne.symm ne)]; exact ny
    obtain ⟨c3, x3⟩ := c2.place (o := .ins C []) (u := .ins A dy []) ny2 (.ins hc .nil)
    have hl3 : (μ1 ++ [y])[h1.length]? = some y := by rw [c1.len, List.getElem?_append_right (Nat.le_refl _)]; simp
    have x13 := x2.trans x3
    have len : ∀ r, run P d f (.ref h1.length :: vs) (h1 ++ [.ins C []]) = r → r ≠ .bad → ∃ G, P.fn f = some G ∧ (V.ref y :: us).length = G.n := fun r e hne => by
      cases d with
      | zero => exact absurd e.symm hne
      | succ d =>
        unfold run at e
        split at e
        · exact absurd e.symm hne
        · rename_i G hG
          split at e
          · rename_i hlen
            exact ⟨G, hG, by rw [← hlen]; simp [r1.length]⟩
          · exact absurd e.symm hne
    have rs : RVs D (upd F1 dy (.own y)) (μ1 ++ [y]) (.ref h1.length :: vs) (.ref y :: us) := .cons (.ref hl3) (r1.mono x13.f x13.m)
    cases er : run P d f (.ref h1.length :: vs) (h1 ++ [.ins C []]) with
    | bad => rw [er] at p; exact p.elim
    | exc C' h2 =>
      rw [er] at p
      refine ⟨len _ er (by simp), _, _, _, _, c3, rs, ?_⟩
      rw [er]
      exact fun F4 μ4 H4 A' x4 c4 k => p F4 μ4 H4 A' (x13.trans x4) c4 k
    | ok v h2 =>
      rw [er] at p
      refine ⟨len _ er (by simp), _, _, _, _, c3, rs, ?_⟩
      rw [er]
      intro F4 μ4 H4 u x4 c4 r4
      cases r4 with
      | non => exact ⟨rfl, p F4 μ4 H4 (.ref y) (x13.trans x4) c4 (.ref (x4.m.get hl3))⟩
      | _ => exact p.elim
  refine ⟨fun pins s σ H Q I q => ?_⟩
  refine wpAny_Call_Name_kw (ld_glob I (k.gl x hg) hm ?_ (plain_db hp))
  have mkrun : ∀ {us : List Value} {vs : List V} {s1 : Shared} {H1 : Hp}, L2.Inv X pins σ H1 s1 → Vals vs us → (∀ y dy, H1 y = none → H1 dy = none → dy ≠ y → spF D P d f (.ref y :: vs) (upd (upd H1 dy (.own y)) y (.ins A dy [])) (fun v H2 => v = .non ∧ Q (.ref y) H2) (WE W σ)) →
      wpAny (model X.prog X.w) X.A (call (.ref A) us) (EP X pins σ Q) X.xe s1 := fun {us vs s1 H1} I1 r q =>
    make_at mk ok k.room bd (passAt k.tk σ) I1 r q
  cases es with
  | nil => exact PySem.W.callWith_K0 I.kIn mk.kp (mkrun I .nil (nil_reads (sp := spF D P d f) (R := fun _ _ _ => fun _ _ _ => True) (hn rfl) (rd σ H Q q)))
  | cons e es =>
    rw [List.all_cons, Bool.and_eq_true] at hs
    refine PySem.W.callWith_K (h₀ := X.base) I.ok.mod.kin mk.kp (thn (hl.run pos pins s σ H _ I (rd σ H Q q)) fun us s1 ⟨vs, H1, I1, r, q⟩ => ⟨I1.kIn, ?_⟩) (star_eq hs.1 _ _) (stars_plain hs.2)
    exact mkrun I1 r q
end
end IL
end

section
set_option autoImplicit false
set_option linter.all false
set_option Elab.async false
set_option maxRecDepth 100000
set_option maxHeartbeats 4000000
/-! IL: methods, functions of Python. -/
namespace IL
open PySem L2 PyProof.Rows
section
variable {D : Wd} {P : Pg} {d : Nat} {G : Gt} {N : List Str} {sc : Scope} {W : WX} {X : Cx}
variable {ea eb ec : Ev → Hh → Rs Vl} {el : Ev → Hh → Rs (List Vl)} {a b c o : Expr} {es : List Expr} {pos p apos : Pos}
theorem few_ok {cpos : Pos} (hs : es.all noStar = true) (hl : es.length < 20) : ((backTo cpos (starEach es X.env)).all (fun x => !x.1) && (backToKw cpos (keywordEach [] X.env)).all (fun x => x.1.isSome)
      && decide (es.length + ([] : List Keyword).length + (if ([] : List Keyword).isEmpty then 0 else 1) < 30)) = true := by
  rw [stars_all hs]
  have h2 : (backToKw cpos (keywordEach [] X.env)).all (fun x => x.1.isSome) = true := rfl
  rw [h2]
  simp
  omega
/-- how a method is called: what stands ahead of it -/
theorem meth_eval {m : Str} (hn : notSuper o = true) (hs : es.all noStar = true) (hl : es.length < 20) (hline : (apos.endLine == pos.line) = true) : ∃ pl, eval (.Call (.Attribute o m apos) es [] pos) X.env = (do
      let ov ← eval o X.env
      standAt apos.atName
      let (f, first) ← holding [ov] (getMethod ov m pl)
      callWith pos f first (backTo pos (starEach es X.env)) (backToKw pos (keywordEach [] X.env))) := by
  have few : methodCallForm (es.length + ([] : List Keyword).length) (backTo pos (starEach es X.env)) (backToKw pos (keywordEach [] X.env)) = true := by
    have e0 : backToKw pos (keywordEach [] X.env) = [] := rfl
    unfold methodCallForm
    rw [stars_all hs, e0]
    simp
    omega
  refine ⟨(do return (← importBound o X.env).getD true), ?_⟩
  rw [arm_eval_Call, base_eq hn]
  unfold methodCall methodCallPos calleeOf
  rw [few]
  simp only [hline, Bool.not_true, Bool.false_or, if_true]
  rfl
/-- o.m(..), m a method of an own class -/
theorem e_meth (k : XOk D P d G N sc W X) {m : Str} (ho : EOk D W X ea o) (hn : notSuper o = true) (hs : es.all noStar = true) (hl : es.length < 20) (hline : (apos.endLine == pos.line) = true) (hp : PA X es (tL D W el)) (hnil : es = [] → el = fun _ h => .ok [] h) :
    EOk D W X (fun ρ h => (ea ρ h).bind fun x h1 => match methF P m x h1 with
      | some f => (el ρ h1).bind fun vs h2 => callC P (run P d) f (x :: vs) h2
      | none => .bad) (.Call (.Attribute o m apos) es [] pos) := by
  refine eok_val ⟨fun pins s σ H Q I q => ?_⟩ (by intro _; rfl)
  obtain ⟨pl, ht⟩ := meth_eval (X := X) (m := m) hn hs hl hline
  have hr : Room (4 * d) X.A := k.room.mono (by omega)
  obtain ⟨F, μ, ρ, h, c, er, p⟩ := q
  refine PySem.W.methodCall_KW (pl := pl) (thn (ho.pe.run pins s σ H _ I ⟨F, μ, ρ, h, c, er, Post.bind p⟩) fun u s1 hu => ?_) ht
  obtain ⟨x, H1, I1, rx, F1, μ1, v, h1, x1, c1, r1, p⟩ := hu
  split at p
  · rename_i f hf
    unfold methF at hf
    split at hf
    · rename_i C fs hi
      split at hf
      · cases hf
      · rename_i hnf
        obtain ⟨l, A, dx, gs, rfl, hl1, hc, rf⟩ := asIns_ok c1 r1 hi
        obtain ⟨fa, fd, ps, cl, hm, bd, ok⟩ := k.w.mts C A m f hc hf
        obtain rfl : u = Value.ref l := rx
        have nl : gs.lookup m = none := rf.noLook (by
          cases e : fs.lookup m with
          | none => rfl
          | some z => rw [e] at hnf; exact absurd rfl hnf)
        refine getmeth_ok I1 hl1 cl hm nl ?_
        have rd : tL D W el σ H1 fun us H2 => spF D P d f (.ref l :: us) H2 Q (WE W σ) := by
          refine ⟨F1, μ1, ρ, h1, c1, er.mono x1.f x1.m, (Post.bind p).mono fun us H2 q => ?_⟩
          obtain ⟨F2, μ2, vs, h2, x2, c2, r2, p⟩ := q
          exact call_reads c2 (.cons (r1.mono x2.f x2.m) r2) p
        cases es with
        | nil => exact PySem.W.callWith_K0 (first := [.ref l]) I1.kIn hm.kp (run_fnS (us := [.ref l]) (vs := [.ref l]) ok hr bd (passAt k.tk σ) I1 (.cons rfl .nil) (nil_reads (sp := spF D P d f) (R := fun _ _ _ => fun _ _ _ => True) (hnil rfl) rd))
        | cons e es =>
          rw [List.all_cons, Bool.and_eq_true] at hs
          refine PySem.W.callWith_K (first := [.ref l]) (h₀ := X.base) I.ok.mod.kin hm.kp (thn (hp.run pos pins s1 σ H1 _ I1 rd) fun us s2 ⟨vs, H2, I2, r, q⟩ => ⟨I2.kIn, ?_⟩) (star_eq hs.1 _ _) (stars_plain hs.2)
          exact run_fnS (us := .ref l :: us) (vs := .ref l :: vs) ok hr bd (passAt k.tk σ) I2 (.cons rfl r) q
    · cases hf
  · exact p.elim
/-- f(..) of Python's own, by values -/
theorem e_blt (k : XOk D P d G N sc W X) {x : Str} {b : Blt} {v : Value} (hg : glB sc x = true) (hp : plainNm x = true) (hx : G.bl x = true) (hv : bootBuiltins x = some v) (hc : ∀ E, CallR X v (rL D E (bltV b))) (hb : (∃ id, v = .builtin id) ∨ ∃ T, v = .type T) (hs : es.all noStar = true) (hne : es ≠ []) (hl : PA X es (tL D W el)) :
    EOk D W X (fun ρ h => (el ρ h).bind fun vs h1 => bltV b vs h1) (.Call (.Name x p) es [] pos) := by
  refine eok_val ⟨fun pins s σ H Q I q => ?_⟩ (by intro _; rfl)
  have rd : tCB (rL D (WE W σ) (bltV b)) (tL D W el) σ H Q := by
    obtain ⟨F, μ, ρ, h, c, er, p⟩ := q
    refine ⟨F, μ, ρ, h, c, er, (Post.bind p).mono fun us H1 q => ?_⟩
    obtain ⟨F1, μ1, vs, h1, x1, c1, r1, p⟩ := q
    exact ⟨F1, μ1, h1, vs, c1, r1, p⟩
  match es, hne, hs, hl with
  | e :: es, _, hs, hl =>
    rw [List.all_cons, Bool.and_eq_true] at hs
    have se := star_eq hs.1 es X.env
    have sp := stars_plain (env := X.env) (cpos := pos) hs.2
    rcases hb with ⟨id, rfl⟩ | ⟨T, rfl⟩
    · exact (pe_callB (hc (WE W σ)) (k.gl x hg) (k.w.blt x hx) hv hl (plain_nm hp) (plain_db hp) se sp).run pins s σ H Q I rd
    · exact (pe_callTy (hc (WE W σ)) (k.gl x hg) (k.w.blt x hx) hv hl (plain_nm hp) (plain_db hp) se sp).run pins s σ H Q I rd
/-- isinstance(x, T) -/
theorem isinst_tab : ∀ n, n < 5 → ∀ t ∈ ["NoneType", "bool", "int", "str", "tuple", "list"], ∃ T, tyName n = Str.ofString T ∧ bootBuiltins (tyName n) = some (.type T) ∧ kitB t T = some (
    (n == 0 && (t == "int" || t == "bool")) || (n == 1 && t == "bool") || (n == 2 && t == "tuple") || (n == 3 && t == "str") || (n == 4 && t == "list")) := by
  intro n hn
  match n, hn with
  | 0, _ => intro t ht; refine ⟨"int", rfl, by decide +kernel, ?_⟩; simp at ht; rcases ht with rfl | rfl | rfl | rfl | rfl | rfl <;> decide +kernel
  | 1, _ => intro t ht; refine ⟨"bool", rfl, by decide +kernel, ?_⟩; simp at ht; rcases ht with rfl | rfl | rfl | rfl | rfl | rfl <;> decide +kernel
  | 2, _ => intro t ht; refine ⟨"tuple", rfl, by decide +kernel, ?_⟩; simp at ht; rcases ht with rfl | rfl | rfl | rfl | rfl | rfl <;> decide +kernel
  | 3, _ => intro t ht; refine ⟨"str", rfl, by decide +kernel, ?_⟩; simp at ht; rcases ht with rfl | rfl | rfl | rfl | rfl | rfl <;> decide +kernel
  | 4, _ => intro t ht; refine ⟨"list", rfl, by decide +kernel, ?_⟩; simp at ht; rcases ht with rfl | rfl | rfl | rfl | rfl | rfl <;> decide +kernel
  | n + 5, h => omega
theorem e_isi (k : XOk D P d G N sc W X) {n : Nat} {t : Str} {p2 : Pos} (hn : n < 5) (ht : t = tyName n) (hgt : glB sc t = true) (hpt : plainNm t = true) (hxt : G.bl t = true) (hg : glB sc ("isinstance" : Str) = true) (hx : G.bl ("isinstance" : Str) = true) (hs : noStar a = true) (ha : EOk D W X ea a) :
    EOk D W X (fun ρ h => (ea ρ h).bind fun x h1 => bltV (.isinst n) [x] h1) (.Call (.Name ("isinstance" : Str) p) [a, .Name t p2] [] pos) := by
  refine eok_val ⟨fun pins s σ H Q I q => ?_⟩ (by intro _; rfl)
  obtain ⟨T, e1, e2, _⟩ := isinst_tab n hn "int" (by simp)
  have pt : PE X (.Name t p2) (tC (.ty T)) := pe_bltn (k.gl t hgt) (k.w.blt t hxt) (by rw [ht]; exact e2) (show RelV (.ty T) (.type T) from rfl) (plain_nm hpt) (plain_db hpt)
  have pl : PA X [a, .Name t p2] (tCons (tE D W ea) (tCons (tC (.ty T)) tNil)) := pa_cons ha.pe (pa_cons pt pa_nil) (star_eq hs _ _)
  refine (pe_callB call_isi (k.gl _ hg) (k.w.blt _ hx) (by decide +kernel) pl (by decide) (by decide) (star_eq hs _ _) rfl).run pins s σ H Q I ?_
  obtain ⟨F, μ, ρ, h, c, er, p⟩ := q
  refine ⟨F, μ, ρ, h, c, er, (Post.bind p).mono fun x H1 q => ?_⟩
  obtain ⟨F1, μ1, v, h1, x1, c1, r1, p⟩ := q
  have fin : ∀ ty b, ty ∈ ["NoneType", "bool", "int", "str", "tuple", "list"] → TyX X.K H1 x (.type ty) → ((n == 0 && (ty == "int" || ty == "bool")) || (n == 1 && ty == "bool") || (n == 2 && ty == "tuple") || (n == 3 && ty == "str") || (n == 4 && ty == "list")) = b → isinstV n v = b → PostV D F1 μ1 H1 (.ok (.bl (isinstV n v)) h1) Q (WE W σ) → tC (.ty T) σ H1 fun y H2 => tNil σ H2 fun ys H3 => rIsi X.K (x :: (y :: ys)) H3 Q := fun ty b hm tx e3 e4 p => by
    obtain ⟨T', f1, f2, f3⟩ := isinst_tab n hn ty hm
    have : T' = T := by
      rw [e2] at f2
      cases f2; rfl
    subst this
    refine ⟨x, .ty T', .type ty, .type T', _, rfl, .ty T', tx, kit_ty f3, ?_⟩
    rw [e3, ← e4]
    exact post_same c1 (.bl _) p
  simp only [bltV] at p
  split at p
  · rename_i hd
    cases r1 with
    | non => exact fin "NoneType" _ (by simp) (.base .non) rfl (by simp [isinstV]) p
    | bl b => exact fin "bool" _ (by simp) (.base (.bl b)) rfl (by simp [isinstV]) p
    | int i => exact fin "int" _ (by simp) (.base (.int i)) rfl (by simp [isinstV]) p
    | str kx => exact fin "str" _ (by simp) (.base (.str _)) rfl (by simp [isinstV]) p
    | tup hf rs => exact fin "tuple" _ (by simp) (.base (.tup (c1.sub.tup hf))) rfl (by simp [isinstV]) p
    | lst hf rs => exact fin "list" _ (by simp) (.base (.lst (c1.sub.lst hf))) rfl (by simp [isinstV]) p
    | scr hf rs => simp [instOk] at hd
    | dT hf rs => simp [instOk] at hd
    | dK hf rs => simp [instOk] at hd
    | ins hf hc rs => simp [instOk] at hd
    | ref hm => simp [instOk] at hd
    | exn hf hc => simp [instOk] at hd
  · exact p.elim
end
end IL
end

section
set_option autoImplicit false
set_option linter.all false
set_option Elab.async false
set_option maxRecDepth 100000
set_option maxHeartbeats 4000000
/-! IL: d.pop(k) at tuple keys, l.remove(x) of data. -/
namespace IL
open PySem PySem.Spec L2 PyProof.Rows
section
variable {K : Type} [DecidableEq K] {prog : Program} {w : World} {knd : HeapKind prog w K}
theorem meetsPop1 {d b : Addr} {k : K} (hd : (d == sysModules) = false) :
    MeetsIn prog w (Builtin.«dict.pop» ⟨[.ref d, .ref b], []⟩) (fun A R s => ∃ xs p, knd.room A.in1 ∧ knd.is s.heap k b ∧ s.heap.DictOfH knd d xs ∧ xs.length ≤ sizeLine ∧
      atKey xs k = some p ∧ ∀ h' tk, h'.DictOfH knd d (DT.dropH xs k) → Heap.SameBut d s.heap h' → R (.ok (.ret p.2)) { s with heap := h', toks := tk }) :=
  .of_wp fun A R s ⟨xs, p, hu, hkey, hm, hsz, hp, hsome⟩ => by
    obtain ⟨o, es, ep, ho, hx, hdat, he, his, hn⟩ := id hm
    have hes : es.size = xs.length := size_of_entries he
    have hpart : (keyPart (Value.ref b)).isSome = false := rfl
    unfold Builtin.«dict.pop»
    refine wpAny_bind ?_
    unfold Builtin.Dict.keyAndDefault
    refine wpAny_bind (wpAny_notOrdered_dict hm.typeIs ?_)
    show wpAny _ _ (pure (d, Value.ref b, (none : Option Value))) _ _ s
    refine wpAny_pure ?_
    simp only [hpart, Bool.false_eq_true, if_false]
    refine wpAny_bind (wpAny_dictEntries ho hdat (wpAny_bind (wpAny_pure ?_)))
    cases hem : es.isEmpty with
    | true =>
      exfalso
      have h0 : xs = [] := by
        have z : es.size = 0 := by simpa using hem
        exact List.length_eq_zero_iff.mp (by omega)
      rw [h0] at hp
      cases hp
    | false =>
      simp only [Bool.false_eq_true, if_false]
      refine wpAny_bind (DT.takeH hu hkey hm hsz (fun hno => ?_) fun q e hq hev h' hm' hs' => ?_)
      · rw [hp] at hno; cases hno
      · rw [hp] at hq
        cases hq
        simp only [Option.isNone_some, Bool.false_eq_true, if_false]
        exact wpAny_bind (wpAny_letGo (wpAny_pure ⟨e.val, rfl, by rw [hev]; exact hsome h' _ hm' hs'⟩))
end
section
variable {X : Cx}
open L2.DX
def rPopT1 : V → List V → Hp → VK → Prop := fun x xs H Q => ∃ (a : Addr) (kvs : List (List L2.Key × V)) (k : List L2.Key) (b : Addr) (v : V), x = .ref a ∧ xs = [.ref b] ∧ H a = some (.dT kvs) ∧ H b = some (.tup (k.map kV)) ∧ valV kvs k = some v ∧ Q v (upd H a (.dT (dropK kvs k)))
theorem mt_popT1 (hu : X.A.units + 1 < cLine) : MtR X "dict.pop" rPopT1 := by
  intro pins s σ H x xs v us Q I rx rxs h
  obtain ⟨a, kvs, k, b, v0, rfl, rfl, ha, hb, ev, q1⟩ := h
  cases rx
  obtain ⟨u1, rfl, r1⟩ := rxs.one
  cases r1
  obtain ⟨z, hd, xs', rel, dd⟩ := dt_of I.hok ha
  have hz : xs'.length ≤ sizeLine := by rw [← Paired.length rel]; exact z
  have r := rel.val k
  rw [ev] at r
  obtain ⟨p, hp, rv⟩ : ∃ p, atKey xs' k = some p ∧ RelV v0 p.2 := by
    cases e : atKey xs' k with
    | none =>
      rw [e] at r
      exact (show False from r).elim
    | some p =>
      rw [e] at r
      exact ⟨p, rfl, r⟩
  refine call_meetsIn PySem.F.slot_dict_pop dd.typeIs PySem.F.entry_dict_pop (PySem.F.args_dict_pop_2 _ _) (meetsPop1 (knd := tupleKind (mixKind X.prog X.w)) (k := k) hd)
    ⟨xs', p, tupleKind_room_in1 hu, key_of I.hok hb, dd, hz, hp, fun h' tk dd' hs => ?_⟩
  obtain ⟨o, es, ep, hq, h2, h3, h4, _, h5⟩ := dd'
  have I2 : Inv X pins σ (upd H a (.dT (dropK kvs k))) { s with heap := h', toks := tk } :=
    d_write I (by rw [ha]; exact True.intro) hs ⟨o, hq⟩ ⟨Nat.le_trans (dropK_le kvs k) z, hd, _, (KT_drop k rel).keeps (fun c ys ec => (by rw [upd_ne (ne_of ec ha (fun z => nomatch z))]; exact ec)), o, es, ep, hq, h2, h3, h4, h5⟩
  show EP X pins σ Q p.2 _
  exact ⟨v0, _, I2, rv, q1⟩
/-- l.remove(x): the first one that is alike goes -/
def rRemD (K : PySem.W.Frag) : V → List V → Hp → VK → Prop := fun x xs H Q => ∃ (a : Addr) (us : List V) (y : V) (d : PyData) (ds : List PyData) (j : Nat) (z : PyData), x = V.ref a ∧ xs = [y] ∧ H a = some (.lst us) ∧ Dp K H (V.ref a) (.list ds) ∧ Dp K H y d ∧
  SeqAt.shaped (.list ds) = true ∧ SeqAt.shaped d = true ∧ ds[j]? = some z ∧ PyData.eqv z d = true ∧ (∀ (m : Nat) (z' : PyData), m < j → ds[m]? = some z' → PyData.eqv z' d = false) ∧ Q .non (upd H a (.lst (us.eraseIdx j)))
theorem mt_removeD (hu : X.A.units + 65 < cLine) : MtR X "list.remove" (rRemD X.K) := by
  intro pins s σ H x xs v us Q I rx rxs h
  obtain ⟨a, vs, y, d, ds, j, z, rfl, rfl, hH, hl, hy, sl, sd, hz, hzj, hno, q⟩ := h
  cases rx
  obtain ⟨uy, rfl, ry⟩ := rxs.one
  obtain ⟨bs, r1⟩ := Dp.reads I d y uy hy ry
  have hxs : PyData.canLayAll0 ds = true := SeqAt.canLay_of_shaped sl
  have hroom : X.A.units + 1 + min (PyData.depthAll ds) d.depth < cLine := room_in_shaped sd hu
  obtain ⟨zl, its, n, r, hlen, e⟩ := I.lstM hH
  cases hl with
  | lst hs ha =>
  obtain ⟨its', rv, ⟨⟨cls, dd, data, sls⟩, n', ho, h1, hdn, hdt⟩, hlen'⟩ := I.list hs
  rw [e] at ho
  cases ho
  cases hdt
  obtain ⟨as, h4⟩ := Dp.readsAll I ds _ its ha rv
  have hn : its.length = ds.length := SeqAt.ReadsAll.length ds its as h4
  have hmap : its.map (SeqAt.readOf s.heap) = ds := SeqAt.readsAll_map ds its as hxs h4
  obtain ⟨hjd, _⟩ := List.getElem?_eq_some_iff.mp hz
  have hjl : j < its.length := by omega
  have hj : j < its.toArray.size := by simpa using hjl
  have at_ : ∀ (m : Nat) (hm : m < its.toArray.size) (z' : PyData), ds[m]? = some z' → SeqAt.readOf s.heap its.toArray[m] = z' := by
    intro m hm z' hz'
    have hml : m < its.length := by simpa using hm
    rw [← hmap, List.getElem?_map, List.getElem?_eq_getElem hml] at hz'
    have e1 : SeqAt.readOf s.heap its[m] = z' := Option.some.inj (show some (SeqAt.readOf s.heap its[m]) = some z' from hz')
    simpa using e1
  refine call_meets PySem.F.slot_list_remove ⟨_, e, rfl⟩ PySem.F.entry_list_remove (PySem.F.args_list_remove_2 _ _)
    (SeqAt.list_removeAt a its.toArray n none #[] uy (fun u => PyData.eqv (SeqAt.readOf s.heap u) d) j hj ?_ ?_ (by rw [List.size_toArray]; omega)) ⟨e, SeqAt.items_eqAt (vs := its.toArray) (show ReadsAll s.heap its.toArray.toList ds as from h4) r1 hxs (SeqAt.canLay_of_shaped sd) hroom, ?_⟩
  · show PyData.eqv (SeqAt.readOf s.heap its.toArray[j]) d = true
    rw [at_ j hj z hz]
    exact hzj
  · intro m hm hmj
    have hmd : m < ds.length := by omega
    have hz' : ds[m]? = some ds[m] := List.getElem?_eq_getElem hmd
    show PyData.eqv (SeqAt.readOf s.heap its.toArray[m]) d = false
    rw [at_ m hm _ hz']
    exact hno m _ hmj hz'
  · have rr := r.eraseIdx j
    refine ⟨.non, _, I.lset (its' := its.eraseIdx j) (t' := s.toks) hH e ?_ rr ?_, rfl, q⟩
    · show its.toArray.eraseIdxIfInBounds j = (its.eraseIdx j).toArray
      rw [List.eraseIdxIfInBounds_toArray]
    · have := len_erase vs j
      omega
end
section
variable {D : Wd} {F : Hp} {μ : List Addr}
theorem RT.drop {es : List (Vl × Vl)} {kvs : List (List Key × V)} (r : RT D F μ es kvs) (ks : List Key) : RT D F μ (dDrop es (.tup (ks.map kVl))) (dropK kvs ks) := by
  induction es generalizing kvs with
  | nil => cases r; exact .nil
  | cons e es ih =>
    cases r with
    | @cons js v u _ kvs r t =>
      have ih := ih t
      by_cases q : js = ks
      · have e1 : dDrop ((Vl.tup (js.map kVl), v) :: es) (.tup (ks.map kVl)) = dDrop es (.tup (ks.map kVl)) := by
          simp [dDrop, List.filter_cons, eqv, eqvs_k, q]
        have e2 : dropK ((js, u) :: kvs) ks = dropK kvs ks := by simp [dropK, List.filter_cons, q]
        rw [e1, e2]; exact ih
      · have e1 : dDrop ((Vl.tup (js.map kVl), v) :: es) (.tup (ks.map kVl)) = (Vl.tup (js.map kVl), v) :: dDrop es (.tup (ks.map kVl)) := by
          simp [dDrop, List.filter_cons, eqv, eqvs_k, q]
        have e2 : dropK ((js, u) :: kvs) ks = (js, u) :: dropK kvs ks := by simp [dropK, List.filter_cons, q]
        rw [e1, e2]; exact .cons r ih
theorem RK.drop {es : List (Vl × Vl)} {kvs : List (Key × V)} (r : RK D F μ es kvs) (k : Key) : RK D F μ (dDrop es (kVl k)) (dropK kvs k) := by
  induction es generalizing kvs with
  | nil => cases r; exact .nil
  | cons e es ih =>
    cases r with
    | @cons j v u _ kvs r t =>
      have ih := ih t
      by_cases q : j = k
      · have e1 : dDrop ((kVl j, v) :: es) (kVl k) = dDrop es (kVl k) := by
          simp [dDrop, List.filter_cons, eqv_k, q]
        have e2 : dropK ((j, u) :: kvs) k = dropK kvs k := by simp [dropK, List.filter_cons, q]
        rw [e1, e2]; exact ih
      · have e1 : dDrop ((kVl j, v) :: es) (kVl k) = (kVl j, v) :: dDrop es (kVl k) := by
          simp [dDrop, List.filter_cons, eqv_k, q]
        have e2 : dropK ((j, u) :: kvs) k = (j, u) :: dropK kvs k := by simp [dropK, List.filter_cons, q]
        rw [e1, e2]; exact .cons r ih
theorem dDrop_none {es : List (Vl × Vl)} {k : Vl} (e : dGet es k = none) : dDrop es k = es := by
  have h : dHas es k = false := by rw [dHas_get, e]; rfl
  unfold dHas at h
  rw [List.any_eq_false] at h
  exact List.filter_eq_self.mpr fun x hx => by simpa using h x hx
theorem RVs.eraseIdx {vs : List Vl} {us : List V} (i : Nat) (r : RVs D F μ vs us) : RVs D F μ (vs.eraseIdx i) (us.eraseIdx i) := by
  rw [List.eraseIdx_eq_take_drop_succ, List.eraseIdx_eq_take_drop_succ]
  exact (r.take _).append (r.drop _)
theorem RVs.dropLast {vs : List Vl} {us : List V} (r : RVs D F μ vs us) : RVs D F μ vs.dropLast us.dropLast := by
  rw [List.dropLast_eq_take, List.dropLast_eq_take, r.length]
  exact r.take _
end
end IL
end

section
set_option autoImplicit false
set_option linter.all false
set_option Elab.async false
set_option maxRecDepth 100000
set_option maxHeartbeats 4000000
/-! IL: methods of Python's own types. -/
namespace IL
open PySem L2 PyProof.Rows
/-- a method of a built-in type, by values -/
def rM (D : Wd) (E : XK) (t : Nat) (m : Bm) : V → List V → Hp → VK → Prop := fun x us H Q => ∃ F μ h v vs, CS D F μ h H ∧ RV D F μ v x ∧ RVs D F μ vs us ∧ PostV D F μ H (bmV t m v vs h) Q E
section
variable {D : Wd} {P : Pg} {d : Nat} {G : Gt} {N : List Str} {sc : Scope} {W : WX} {X : Cx}
/-- what is known of a method of type t -/
structure BmOk (D : Wd) (X : Cx) (t : Nat) (m : Bm) (T id : String) : Prop where
  pa : PlainAttrs T
  slot : Slot T (bmName m) id
  ty : typeOf (.builtin id) = pure (.type "method_descriptor")
  run : ∀ E, MtR X id (rM D E t m)
theorem place_ref {F : Hp} {μ : List Addr} {h : Hh} {H : Hp} (c : CS D F μ h H) {l : Nat} {x : V} (r : RV D F μ (.ref l) x) {o : Ob} (e : h[l]? = some o) : ∃ a u, x = .ref a ∧ μ[l]? = some a ∧ l < h.length ∧ H a = some u ∧ RO D F μ o u := by
  cases r with
  | ref hm =>
    obtain ⟨b, u, e1, e2, e3, e4⟩ := c.ob l o e
    rw [hm] at e1
    cases e1
    exact ⟨_, u, rfl, hm, (List.getElem?_eq_some_iff.mp e).1, e3, e4⟩
theorem bm_append : BmOk D X 0 .append "list" "list.append" where
  pa := PySem.F.plainAttrs_list
  slot := PySem.F.slot_list_append
  ty := PySem.F.type_list_append
  run := by
    intro E pins s σ H x us v ws Q I rx rv hh
    obtain ⟨F, μ, h, a, vs, c, ra, rs, p⟩ := hh
    unfold bmV at p
    split at p <;> first | exact p.elim | contradiction | skip
    · rename_i y _ e
      split at p
      · rename_i l
        split at p
        · rename_i xs hx
          split at p
          · rename_i hlen
            obtain ⟨b, u, rfl, hm, hl, hb, ro⟩ := place_ref c ra hx
            cases ro with
            | lst rq =>
              obtain ⟨w, rfl, rw'⟩ := rs.one
              obtain ⟨c', x'⟩ := c.put hl hm (RO.lst (rq.append (.cons rw' .nil))) (fun _ _ z => by rw [hb] at z; cases z)
              refine mt_append pins s σ H _ _ v ws Q I rx rv ⟨b, _, w, rfl, rfl, hb, ?_, p _ _ _ _ x' c' .non⟩
              have := rq.length
              exact Nat.lt_of_lt_of_le (by rw [← this]; exact hlen) (by decide : 100000 ≤ sizeLine)
          · exact p.elim
        · exact p.elim
      · exact p.elim
theorem bm_extend : BmOk D X 0 .extend "list" "list.extend" where
  pa := PySem.F.plainAttrs_list
  slot := PySem.F.slot_list_extend
  ty := PySem.F.type_list_extend
  run := by
    intro E pins s σ H x us v ws Q I rx rv hh
    obtain ⟨F, μ, h, a, vs, c, ra, rs, p⟩ := hh
    unfold bmV at p
    split at p <;> first | exact p.elim | contradiction | skip
    · rename_i y _ e
      split at p
      · rename_i l
        split at p
        · rename_i xs ys hx hy
          split at p
          · rename_i hlen
            obtain ⟨b, u, rfl, hm, hl, hb, ro⟩ := place_ref c ra hx
            cases ro with
            | lst rq =>
              obtain ⟨w, rfl, rw'⟩ := rs.one
              obtain ⟨b2, zs, rfl, hb2, rz⟩ := asList_ok c rw' hy
              obtain ⟨c', x'⟩ := c.put hl hm (RO.lst (rq.append rz)) (fun _ _ z => by rw [hb] at z; cases z)
              refine mt_extend pins s σ H _ _ v ws Q I rx rv ⟨b, b2, _, zs, rfl, rfl, hb, hb2, ?_, p _ _ _ _ x' c' .non⟩
              exact line_le (by rw [← rq.length, ← rz.length]; exact hlen)
          · exact p.elim
        · exact p.elim
      · exact p.elim
theorem cellL_ok {h : Hh} {x : Vl} {l : Nat} {xs : List Vl} (e : cellL h x = some (l, xs)) : x = .ref l ∧ h[l]? = some (.lst xs) := by
  unfold cellL at e
  split at e
  · split at e
    · rename_i hx
      cases e
      exact ⟨rfl, hx⟩
    · cases e
  · cases e
theorem cellD_ok {h : Hh} {x : Vl} {l : Nat} {t : Bool} {es : List (Vl × Vl)} (e : cellD h x = some (l, t, es)) : x = .ref l ∧ h[l]? = some (.dct false t es) := by
  unfold cellD at e
  split at e
  · split at e
    · rename_i hx
      cases e
      exact ⟨rfl, hx⟩
    · cases e
  · cases e
theorem cell_lst {F : Hp} {μ : List Addr} {h : Hh} {H : Hp} (c : CS D F μ h H) {v : Vl} {x : V} (r : RV D F μ v x) {l : Nat} {xs : List Vl} (e : cellL h v = some (l, xs)) :
    ∃ a us, x = .ref a ∧ H a = some (.lst us) ∧ RVs D F μ xs us ∧ ∀ ys vs, RVs D F μ ys vs → CS D F μ (h.set l (.lst ys)) (upd H a (.lst vs)) ∧ Xt F μ H F μ (upd H a (.lst vs)) := by
  obtain ⟨rfl, hx⟩ := cellL_ok e
  obtain ⟨b, u, rfl, hm, hl, hb, ro⟩ := place_ref c r hx
  cases ro with
  | lst rq => exact ⟨b, _, rfl, hb, rq, fun ys vs rv => c.put hl hm (RO.lst rv) (fun _ _ z => by rw [hb] at z; cases z)⟩
theorem findIdx_get {α : Type} {p : α → Bool} {xs : List α} {j : Nat} (e : xs.findIdx? p = some j) : ∃ z, xs[j]? = some z ∧ p z = true ∧ ∀ (m : Nat) z', m < j → xs[m]? = some z' → p z' = false := by
  obtain ⟨h, h1, h2⟩ := List.findIdx?_eq_some_iff_getElem.mp e
  refine ⟨xs[j], List.getElem?_eq_getElem h, h1, fun m z' hm hz => ?_⟩
  have := h2 m hm
  obtain ⟨h3, h4⟩ := List.getElem?_eq_some_iff.mp hz
  subst h4
  simpa using this
theorem toPds_get : ∀ (bs : List Vl) (m : Nat), (toPds bs)[m]? = (bs[m]?).map toPd
  | [], m => by simp [toPds]
  | b :: bs, 0 => by simp [toPds]
  | b :: bs, m + 1 => by simp [toPds, toPds_get bs m]
theorem placeOf_ok {F : Hp} {μ : List Addr} {h : Hh} {H : Hp} (c : CS D F μ h H) {x y : Vl} {u w : V} (rx : RV D F μ x u) (ry : RV D F μ y w) {j : Nat} (e : placeOf h x y = some (some j)) :
    ∃ (d : PyData) (ds : List PyData) (z : PyData), Dp D.K H u (.list ds) ∧ Dp D.K H w d ∧ SeqAt.shaped (.list ds) = true ∧ SeqAt.shaped d = true ∧ ds[j]? = some z ∧ PyData.eqv z d = true ∧ (∀ (m : Nat) (z' : PyData), m < j → ds[m]? = some z' → PyData.eqv z' d = false) := by
  unfold placeOf at e
  split at e
  · rename_i bs a hb ha
    split at e
    · rename_i hd
      simp only [Bool.and_eq_true] at hd
      obtain ⟨z, e1, e2, e3⟩ := findIdx_get (Option.some.inj e)
      obtain ⟨p1, p2⟩ := thaw_data c ry ha hd.1
      obtain ⟨q1, q2⟩ := thaw_data c rx hb hd.2
      obtain ⟨d, _, hbs⟩ := isData_lst hd.2
      refine ⟨toPd a, toPds bs, toPd z, p1 |> fun p => q1, p1, q2, p2, by rw [toPds_get, e1]; rfl, ?_, fun m z' hm hz => ?_⟩
      · rw [pd_eqv d deep z a (hbs z (List.mem_of_getElem? e1)) hd.1]
        exact e2
      · rw [toPds_get] at hz
        cases e4 : bs[m]? with
        | none => rw [e4] at hz; cases hz
        | some b =>
          rw [e4] at hz
          cases hz
          rw [pd_eqv d deep b a (hbs b (List.mem_of_getElem? e4)) hd.1]
          exact e3 m b hm e4
    · cases e
  · cases e
theorem ixOf_seq {n k : Nat} {i : Int} (h : ixOf n i = some k) (hn : n ≤ sizeLine) : -(2 ^ 63) ≤ i ∧ i < 2 ^ 63 ∧ seqIndex? i n = some k := by
  have hs := sizeLine_eq
  unfold ixOf at h
  refine ⟨?_, ?_, ?_⟩
  · split at h
    · omega
    · split at h
      · omega
      · cases h
  · split at h
    · split at h
      · omega
      · cases h
    · omega
  · unfold seqIndex?
    split at h
    · rename_i h0
      split at h
      · rename_i h1
        cases h
        simp
        omega
      · cases h
    · rename_i h0
      split at h
      · rename_i h1
        cases h
        simp
        omega
      · cases h
theorem bm_index (hK : X.K = D.K) (hu : X.A.units + 65 < cLine) : BmOk D X 0 .index "list" "list.index" where
  pa := PySem.F.plainAttrs_list
  slot := PySem.F.slot_list_index
  ty := PySem.F.type_list_index
  run := by
    intro E pins s σ H x us v ws Q I rx rv hh
    obtain ⟨F, μ, h, a, vs, c, ra, rs, p⟩ := hh
    unfold bmV at p
    split at p <;> first | exact p.elim | contradiction | skip
    rename_i y _ e
    split at p
    · rename_i j hj
      obtain ⟨w, rfl, rw'⟩ := rs.one
      obtain ⟨d, ds, z, h1, h2, h3, h4, h5, h6, h7⟩ := placeOf_ok c ra rw' hj
      obtain ⟨b, rfl⟩ : ∃ b, x = .ref b := by cases h1; exact ⟨_, rfl⟩
      exact mt_indexD hu pins s σ H _ _ v ws Q I rx rv ⟨b, w, d, ds, j, z, rfl, rfl, hK ▸ h1, by rw [hK]; exact h2, h3, h4, h5, h6, h7, post_same c (.int _) p⟩
    · exact p.elim
/-- how many of a list's things are like one -/
theorem mt_countD (hu : X.A.units + 65 < cLine) : MtR X "list.count" (fun x xs H Q => ∃ (a : Addr) (y : V) (d : PyData) (ds : List PyData), x = V.ref a ∧ xs = [y] ∧ Dp X.K H (V.ref a) (.list ds) ∧ Dp X.K H y d ∧
    SeqAt.shaped (.list ds) = true ∧ SeqAt.shaped d = true ∧ Q (.int (ds.countP fun z => PyData.eqv z d : Nat)) H) := by
  intro pins s σ H x xs v us Q I rx rxs h
  obtain ⟨a, y, d, ds, rfl, rfl, hl, hy, sl, sd, q⟩ := h
  cases rx
  obtain ⟨uy, rfl, ry⟩ := rxs.one
  obtain ⟨bs, r1⟩ := Dp.reads I d y uy hy ry
  have lay : PyData.canLayAll0 ds = true := SeqAt.canLay_of_shaped sl
  cases hl with
  | lst hs ha =>
    obtain ⟨its, rv, ⟨⟨cl, dd, dt, sls⟩, n, ho, hc, hdn, hdt⟩, hlen⟩ := I.list hs
    simp only at hc hdt
    subst hc hdt
    obtain ⟨as, h4⟩ := Dp.readsAll I ds _ its ha rv
    have hm : its.map (SeqAt.readOf s.heap) = ds := SeqAt.readsAll_map ds its as lay h4
    have eqs := SeqAt.items_eqAt (A := X.A) (s := s) (vs := its.toArray) (show ReadsAll s.heap its.toArray.toList ds as from h4) r1 lay (SeqAt.canLay_of_shaped sd) (PyProof.Rows.room_in_shaped sd hu)
    refine call_meets PySem.F.slot_list_count ⟨_, ho, rfl⟩ PySem.F.entry_list_count (PySem.F.args_list_count_2 _ _) (SeqAt.list_countAt a its.toArray n dd sls uy (fun u => PyData.eqv (SeqAt.readOf s.heap u) d)) ⟨ho, eqs, ?_⟩
    refine ⟨.int (ds.countP fun z => PyData.eqv z d : Nat), H, I.tok _, ⟨s.toks, ?_⟩, q⟩
    rw [← hm, List.countP_map] <;> rfl
theorem toPds_map : ∀ bs : List Vl, toPds bs = bs.map toPd
  | [] => rfl
  | b :: bs => by simp [toPds, toPds_map bs]
theorem bm_count (hK : X.K = D.K) (hu : X.A.units + 65 < cLine) : BmOk D X 0 .count "list" "list.count" where
  pa := PySem.F.plainAttrs_list
  slot := PySem.F.slot_list_count
  ty := PySem.F.type_list_count
  run := by
    intro E pins s σ H x us v ws Q I rx rv hh
    obtain ⟨F, μ, h, a, vs, c, ra, rs, p⟩ := hh
    unfold bmV at p
    split at p <;> first | exact p.elim | contradiction | skip
    rename_i y _ e
    split at p
    · rename_i bs z hb hz
      split at p
      · rename_i hd
        simp only [Bool.and_eq_true] at hd
        obtain ⟨w, rfl, rw'⟩ := rs.one
        obtain ⟨p1, p2⟩ := thaw_data c rw' hz hd.1
        obtain ⟨q1, q2⟩ := thaw_data c ra hb hd.2
        obtain ⟨d, _, hbs⟩ := isData_lst hd.2
        obtain ⟨b, rfl⟩ : ∃ b, x = .ref b := by cases q1; exact ⟨_, rfl⟩
        have ec : (toPds bs).countP (fun t => PyData.eqv t (toPd z)) = bs.countP fun t => eqv t z := by
          rw [toPds_map, List.countP_map]
          refine List.countP_congr fun t ht => ?_
          show PyData.eqv (toPd t) (toPd z) = true ↔ eqv t z = true
          rw [pd_eqv d deep t z (hbs t ht) hd.1]
        refine mt_countD hu pins s σ H _ _ v ws Q I rx rv ⟨b, w, toPd z, toPds bs, rfl, rfl, hK ▸ q1, by rw [hK]; exact p1, q2, p2, ?_⟩
        rw [ec]
        exact post_same c (.int _) p
      · exact p.elim
    · exact p.elim
theorem bm_remove (hK : X.K = D.K) (hu : X.A.units + 65 < cLine) : BmOk D X 0 .remove "list" "list.remove" where
  pa := PySem.F.plainAttrs_list
  slot := PySem.F.slot_list_remove
  ty := PySem.F.type_list_remove
  run := by
    intro E pins s σ H x us v ws Q I rx rv hh
    obtain ⟨F, μ, h, a, vs, c, ra, rs, p⟩ := hh
    unfold bmV at p
    split at p <;> first | exact p.elim | contradiction | skip
    rename_i y _ e
    split at p
    · rename_i l xs j hl hj
      obtain ⟨w, rfl, rw'⟩ := rs.one
      obtain ⟨d, ds, z, h1, h2, h3, h4, h5, h6, h7⟩ := placeOf_ok c ra rw' hj
      obtain ⟨b, us, rfl, hb, rq, put⟩ := cell_lst c ra hl
      obtain ⟨c', x'⟩ := put _ _ (rq.eraseIdx j)
      exact mt_removeD hu pins s σ H _ _ v ws Q I rx rv ⟨b, us, w, d, ds, j, z, rfl, rfl, hb, hK ▸ h1, by rw [hK]; exact h2, h3, h4, h5, h6, h7, p _ _ _ _ x' c' .non⟩
    · exact p.elim
theorem bm_reverse : BmOk D X 0 .reverse "list" "list.reverse" where
  pa := PySem.F.plainAttrs_list
  slot := PySem.F.slot_list_reverse
  ty := PySem.F.type_list_reverse
  run := by
    intro E pins s σ H x us v ws Q I rx rv hh
    obtain ⟨F, μ, h, a, vs, c, ra, rs, p⟩ := hh
    unfold bmV at p
    split at p <;> first | exact p.elim | contradiction | skip
    split at p
    · rename_i l xs hl
      cases rs
      obtain ⟨b, us, rfl, hb, rq, put⟩ := cell_lst c ra hl
      obtain ⟨c', x'⟩ := put _ _ rq.reverse
      exact mt_reverse pins s σ H _ _ v ws Q I rx rv ⟨b, us, rfl, rfl, hb, p _ _ _ _ x' c' .non⟩
    · exact p.elim
theorem bm_clear : BmOk D X 0 .clear "list" "list.clear" where
  pa := PySem.F.plainAttrs_list
  slot := PySem.F.slot_list_clear
  ty := PySem.F.type_list_clear
  run := by
    intro E pins s σ H x us v ws Q I rx rv hh
    obtain ⟨F, μ, h, a, vs, c, ra, rs, p⟩ := hh
    unfold bmV at p
    split at p <;> first | exact p.elim | contradiction | skip
    split at p
    · rename_i l xs hl
      cases rs
      obtain ⟨b, us, rfl, hb, rq, put⟩ := cell_lst c ra hl
      obtain ⟨c', x'⟩ := put [] [] .nil
      exact mt_clear pins s σ H _ _ v ws Q I rx rv ⟨b, us, rfl, rfl, hb, p _ _ _ _ x' c' .non⟩
    · exact p.elim
theorem bm_insert : BmOk D X 0 .insert "list" "list.insert" where
  pa := PySem.F.plainAttrs_list
  slot := PySem.F.slot_list_insert
  ty := PySem.F.type_list_insert
  run := by
    intro E pins s σ H x us v ws Q I rx rv hh
    obtain ⟨F, μ, h, a, vs, c, ra, rs, p⟩ := hh
    unfold bmV at p
    split at p <;> first | exact p.elim | contradiction | skip
    rename_i i y _ e
    split at p
    · rename_i l xs hl
      split at p
      · rename_i hi
        obtain ⟨b, us, rfl, hb, rq, put⟩ := cell_lst c ra hl
        cases rs with
        | cons r1 rs =>
        obtain ⟨w, rfl, rw'⟩ := rs.one
        cases r1
        obtain ⟨c', x'⟩ := put _ _ (.cons rw' rq)
        refine mt_insert pins s σ H _ _ v ws Q I rx rv ⟨b, us, i, w, rfl, rfl, hb, Nat.lt_of_lt_of_le (by rw [← rq.length]; exact hi.2) (by decide : 100000 ≤ sizeLine), by omega, by omega, ?_⟩
        rw [hi.1]
        exact p _ _ _ _ x' c' .non
      · exact p.elim
    · exact p.elim
theorem RVs.last {F : Hp} {μ : List Addr} {xs : List Vl} {us : List V} (r : RVs D F μ xs us) {y : Vl} (e : xs.getLast? = some y) : ∃ u, us[us.length - 1]? = some u ∧ RV D F μ y u := by
  rw [List.getLast?_eq_getElem?] at e
  rw [← r.length]
  exact r.get e
theorem MtR.or' {T : String} {R S : V → List V → Hp → VK → Prop} (a : MtR X T R) (b : MtR X T S) : MtR X T fun x xs H Q => R x xs H Q ∨ S x xs H Q := fun pins s σ H x xs v us Q I rx rv h => by
  rcases h with h | h
  · exact a pins s σ H x xs v us Q I rx rv h
  · exact b pins s σ H x xs v us Q I rx rv h
theorem bm_pop : BmOk D X 0 .pop "list" "list.pop" where
  pa := PySem.F.plainAttrs_list
  slot := PySem.F.slot_list_pop
  ty := PySem.F.type_list_pop
  run := by
    intro E pins s σ H x us v ws Q I rx rv hh
    obtain ⟨F, μ, h, a, vs, c, ra, rs, p⟩ := hh
    unfold bmV at p
    split at p <;> first | exact p.elim | contradiction | skip
    · split at p
      · rename_i l xs hl
        cases rs
        split at p
        · rename_i y hy
          obtain ⟨b, us, rfl, hb, rq, put⟩ := cell_lst c ra hl
          obtain ⟨w, hw, rw'⟩ := rq.last hy
          obtain ⟨c', x'⟩ := put _ _ rq.dropLast
          exact mt_pop pins s σ H _ _ v ws Q I rx rv ⟨b, us, w, rfl, rfl, hb, hw, p _ _ _ _ x' c' rw'⟩
        · exact p.elim
      · exact p.elim
    · rename_i i _ e
      split at p
      · rename_i l xs hl
        split at p
        · rename_i k hk
          split at p
          · rename_i y hy
            obtain ⟨b, us, rfl, hb, rq, put⟩ := cell_lst c ra hl
            obtain ⟨w, hw, rw'⟩ := rq.get hy
            obtain ⟨u, rfl, ru⟩ := rs.one
            cases ru
            have hz : us.length ≤ sizeLine := (I.lstM hb).1
            obtain ⟨k1, k2, k3⟩ := ixOf_seq hk (by rw [rq.length]; exact hz)
            rw [rq.length] at k3
            obtain ⟨c', x'⟩ := put _ _ (rq.eraseIdx k)
            exact mt_popAt pins s σ H _ _ v ws Q I rx rv ⟨b, us, i, k, w, rfl, rfl, hb, k1, k2, k3, hw, p _ _ _ _ x' c' rw'⟩
          · exact p.elim
        · exact p.elim
      · exact p.elim
theorem mt_get1 (hu : X.A.units + 1 < cLine) : MtR X "dict.get" (fun x xs H Q => ∃ a y o, x = .ref a ∧ xs = [y] ∧ DGet H a y o ∧ Q (o.getD .non) H) := by
  intro pins s σ H x xs v us Q I rx rv h
  obtain ⟨a, y, o, rfl, rfl, g, q⟩ := h
  obtain ⟨u, rfl, ru⟩ := rv.one
  cases (show v = Value.ref a from rx)
  exact d_get1 (Q := EP X pins σ Q) hu I g ru fun w' s3 I3 rw' => ⟨_, H, I3, rw', q⟩
theorem mt_get2 (hu : X.A.units + 1 < cLine) : MtR X "dict.get" (fun x xs H Q => ∃ a y d o, x = .ref a ∧ xs = [y, d] ∧ DGet H a y o ∧ Q (o.getD d) H) := by
  intro pins s σ H x xs v us Q I rx rv h
  obtain ⟨a, y, d, o, rfl, rfl, g, q⟩ := h
  obtain ⟨u1, u2, rfl, r1, r2⟩ := rv.two
  cases (show v = Value.ref a from rx)
  exact d_get2 (Q := EP X pins σ Q) hu I g r1 r2 fun w' s3 I3 rw' => ⟨_, H, I3, rw', q⟩
theorem bm_get (hu : X.A.units + 1 < cLine) : BmOk D X 1 .get "dict" "dict.get" where
  pa := PySem.F.plainAttrs_dict
  slot := PySem.F.slot_dict_get
  ty := PySem.F.type_dict_get
  run := by
    intro E pins s σ H x us v ws Q I rx rv hh
    obtain ⟨F, μ, h, a, vs, c, ra, rs, p⟩ := hh
    unfold bmV at p
    split at p <;> first | exact p.elim | contradiction | skip
    · rename_i k _ e
      split at p
      · rename_i t es ed
        split at p
        · rename_i hk
          obtain ⟨w, rfl, rw'⟩ := rs.one
          obtain ⟨l, rfl, g⟩ := dict_get c ra rw' ed hk
          cases e3 : dGet es k with
          | none =>
            rw [e3] at g p
            exact mt_get1 hu pins s σ H _ _ v ws Q I rx rv ⟨l, w, none, rfl, rfl, g, post_same c .non p⟩
          | some z =>
            rw [e3] at g p
            obtain ⟨z', g, rz⟩ := g
            exact mt_get1 hu pins s σ H _ _ v ws Q I rx rv ⟨l, w, some z', rfl, rfl, g, post_same c rz p⟩
        · exact p.elim
      · exact p.elim
    · rename_i k d _ e
      split at p
      · rename_i t es ed
        split at p
        · rename_i hk
          cases rs with
          | cons r1 rs =>
          obtain ⟨w, rfl, rw'⟩ := rs.one
          obtain ⟨l, rfl, g⟩ := dict_get c ra r1 ed hk
          cases e3 : dGet es k with
          | none =>
            rw [e3] at g p
            exact mt_get2 hu pins s σ H _ _ v ws Q I rx rv ⟨l, _, w, none, rfl, rfl, g, post_same c rw' p⟩
          | some z =>
            rw [e3] at g p
            obtain ⟨z', g, rz⟩ := g
            exact mt_get2 hu pins s σ H _ _ v ws Q I rx rv ⟨l, _, w, some z', rfl, rfl, g, post_same c rz p⟩
        · exact p.elim
      · exact p.elim
/-- a dict of the heap and a key: the key goes -/
theorem cell_dct {F : Hp} {μ : List Addr} {h : Hh} {H : Hp} (c : CS D F μ h H) {v k : Vl} {x y : V} (r : RV D F μ v x) (rk : RV D F μ k y) {l : Nat} {t : Bool} {es : List (Vl × Vl)} (e : cellD h v = some (l, t, es)) (hk : isKey t k = true) :
    ∃ a, x = .ref a ∧ ((∃ kvs ks b, y = .ref b ∧ H a = some (.dT kvs) ∧ H b = some (.tup (ks.map kV)) ∧ (match dGet es k with
        | some z => ∃ u, valV kvs ks = some u ∧ RV D F μ z u
        | none => valV kvs ks = none) ∧ CS D F μ (h.set l (.dct false t (dDrop es k))) (upd H a (.dT (dropK kvs ks))) ∧ Xt F μ H F μ (upd H a (.dT (dropK kvs ks)))) ∨
      (∃ kvs j, y = kV j ∧ H a = some (.dK kvs) ∧ (match dGet es k with
        | some z => ∃ u, valV kvs j = some u ∧ RV D F μ z u
        | none => valV kvs j = none) ∧ CS D F μ (h.set l (.dct false t (dDrop es k))) (upd H a (.dK (dropK kvs j))) ∧ Xt F μ H F μ (upd H a (.dK (dropK kvs j))))) := by
  obtain ⟨rfl, hx⟩ := cellD_ok e
  obtain ⟨b, u, rfl, hm, hl, hb, ro⟩ := place_ref c r hx
  refine ⟨b, rfl, ?_⟩
  cases ro with
  | dT rt =>
    simp only [isKey, if_true] at hk
    cases rk with
    | tup hf rs =>
      obtain ⟨ks, e1, e2⟩ := keys_ok rs hk
      subst e1 e2
      obtain ⟨c', x'⟩ := c.put hl hm (RO.dT (rt.drop ks)) (fun _ _ z => by rw [hb] at z; cases z)
      exact .inl ⟨_, ks, _, rfl, hb, c.sub.tup hf, rt.val ks, c', x'⟩
    | _ => simp at hk
  | dK rt =>
    simp only [isKey, Bool.false_eq_true, if_false] at hk
    obtain ⟨j, rfl, rfl⟩ := key1_ok rk hk
    obtain ⟨c', x'⟩ := c.put hl hm (RO.dK (rt.drop j)) (fun _ _ z => by rw [hb] at z; cases z)
    exact .inr ⟨_, j, rfl, hb, rt.val j, c', x'⟩
theorem set_same {α : Type} {h : List α} {l : Nat} {o : α} (e : h[l]? = some o) : h.set l o = h := by
  obtain ⟨h1, h2⟩ := List.getElem?_eq_some_iff.mp e
  subst h2
  exact List.set_getElem_self h1
theorem mt_pop1K : MtR X "dict.pop" (fun x xs H Q => ∃ (a : Addr) (kvs : List (Key × V)) (k : Key) (v : V), x = .ref a ∧ xs = [kV k] ∧ H a = some (.dK kvs) ∧ valV kvs k = some v ∧ Q v (upd H a (.dK (dropK kvs k)))) := by
  intro pins s σ H x xs v us Q I rx rv h
  obtain ⟨a, kvs, k, z, rfl, rfl, ea, l, q⟩ := h
  obtain ⟨u, rfl, ru⟩ := rv.one
  cases (show v = Value.ref a from rx)
  exact d_pop (Q := EP X pins σ Q) I ea ru l (.inl rfl) fun w' s3 I3 rw' => ⟨z, _, I3, rw', q⟩
theorem mt_pop2K : MtR X "dict.pop" (fun x xs H Q => ∃ (a : Addr) (kvs : List (Key × V)) (k : Key) (d : V), x = .ref a ∧ xs = [kV k, d] ∧ H a = some (.dK kvs) ∧ (∀ v, valV kvs k = some v → Q v (upd H a (.dK (dropK kvs k)))) ∧ (valV kvs k = none → Q d H)) := by
  intro pins s σ H x xs v us Q I rx rv h
  obtain ⟨a, kvs, k, d, rfl, rfl, ea, q1, q2⟩ := h
  obtain ⟨u1, u2, rfl, r1, r2⟩ := rv.two
  cases (show v = Value.ref a from rx)
  cases l : valV kvs k with
  | some z => exact d_pop (Q := EP X pins σ Q) I ea r1 l (.inr ⟨u2, rfl⟩) fun w' s4 I4 rw' => ⟨z, _, I4, rw', q1 z l⟩
  | none => exact d_popD (Q := EP X pins σ Q) I ea r1 l fun s4 I4 => ⟨d, H, I4, r2, q2 l⟩
theorem bm_popD (hu : X.A.units + 1 < cLine) : BmOk D X 1 .pop "dict" "dict.pop" where
  pa := PySem.F.plainAttrs_dict
  slot := PySem.F.slot_dict_pop
  ty := PySem.F.type_dict_pop
  run := by
    intro E pins s σ H x us v ws Q I rx rv hh
    obtain ⟨F, μ, h, a, vs, c, ra, rs, p⟩ := hh
    unfold bmV at p
    split at p <;> first | exact p.elim | contradiction | skip
    · rename_i k _ e
      split at p
      · rename_i l t es ed
        split at p
        · rename_i hk
          obtain ⟨w, rfl, rw'⟩ := rs.one
          obtain ⟨b, rfl, g⟩ := cell_dct c ra rw' ed hk
          split at p
          · rename_i z hz
            rw [hz] at g
            rcases g with ⟨kvs, ks, b2, rfl, h1, h2, ⟨u, h3, h4⟩, c', x'⟩ | ⟨kvs, j, rfl, h1, ⟨u, h3, h4⟩, c', x'⟩
            · exact mt_popT1 hu pins s σ H _ _ v ws Q I rx rv ⟨b, kvs, ks, b2, u, rfl, rfl, h1, h2, h3, p _ _ _ _ x' c' h4⟩
            · exact mt_pop1K pins s σ H _ _ v ws Q I rx rv ⟨b, kvs, j, u, rfl, rfl, h1, h3, p _ _ _ _ x' c' h4⟩
          · exact p.elim
        · exact p.elim
      · exact p.elim
    · rename_i k d _ e
      split at p
      · rename_i l t es ed
        split at p
        · rename_i hk
          cases rs with
          | cons r1 rs =>
          obtain ⟨w, rfl, rw'⟩ := rs.one
          obtain ⟨b, rfl, g⟩ := cell_dct c ra r1 ed hk
          cases hz : dGet es k with
          | none =>
            rw [hz] at g p
            rw [dDrop_none hz, set_same (cellD_ok ed).2] at p
            have q := post_same c rw' p
            rcases g with ⟨kvs, ks, b2, rfl, h1, h2, h3, c', x'⟩ | ⟨kvs, j, rfl, h1, h3, c', x'⟩
            · refine DX.mt_popT hu pins s σ H _ _ v ws Q I rx rv ⟨b, kvs, ks, b2, w, rfl, rfl, h1, h2, fun z e => ?_, fun _ => q⟩
              rw [h3] at e; cases e
            · refine mt_pop2K pins s σ H _ _ v ws Q I rx rv ⟨b, kvs, j, w, rfl, rfl, h1, fun z e => ?_, fun _ => q⟩
              rw [h3] at e; cases e
          | some z =>
            rw [hz] at g p
            rcases g with ⟨kvs, ks, b2, rfl, h1, h2, ⟨u, h3, h4⟩, c', x'⟩ | ⟨kvs, j, rfl, h1, ⟨u, h3, h4⟩, c', x'⟩
            · refine DX.mt_popT hu pins s σ H _ _ v ws Q I rx rv ⟨b, kvs, ks, b2, w, rfl, rfl, h1, h2, fun z e => ?_, fun e => ?_⟩
              · rw [h3] at e; cases e; exact p _ _ _ _ x' c' h4
              · rw [h3] at e; cases e
            · refine mt_pop2K pins s σ H _ _ v ws Q I rx rv ⟨b, kvs, j, w, rfl, rfl, h1, fun z e => ?_, fun e => ?_⟩
              · rw [h3] at e; cases e; exact p _ _ _ _ x' c' h4
              · rw [h3] at e; cases e
        · exact p.elim
      · exact p.elim
theorem bm_tab (hK : X.K = D.K) (hu : X.A.units + 65 < cLine) (t : Nat) (m : Bm) (h : bmOk t m = true) : ∃ T id, BmOk D X t m T id ∧ T = (if t = 0 then "list" else if t = 1 then "dict" else "str") := by
  have hu1 : X.A.units + 1 < cLine := by omega
  unfold bmOk at h
  split at h
  · exact ⟨_, _, bm_append, rfl⟩
  · exact ⟨_, _, bm_extend, rfl⟩
  · exact ⟨_, _, bm_index hK hu, rfl⟩
  · exact ⟨_, _, bm_pop, rfl⟩
  · exact ⟨_, _, bm_insert, rfl⟩
  · exact ⟨_, _, bm_remove hK hu, rfl⟩
  · exact ⟨_, _, bm_reverse, rfl⟩
  · exact ⟨_, _, bm_clear, rfl⟩
  · exact ⟨_, _, bm_count hK hu, rfl⟩
  · exact ⟨_, _, bm_get hu1, rfl⟩
  · exact ⟨_, _, bm_popD hu1, rfl⟩
  · cases h
/-- the type of what a method is of -/
theorem tag_ok {F : Hp} {μ : List Addr} {h : Hh} {H : Hp} (c : CS D F μ h H) {v : Vl} {x : V} (r : RV D F μ v x) {t : Nat} (e : tyTag h v = some t) {u : Value} (rx : RelV x u) {pins : List (Addr × Obj)} {s : Shared} {σ : L2.St} (I : L2.Inv X pins σ H s) :
    s.TypeIs u (if t = 0 then "list" else if t = 1 then "dict" else "str") ∧ ∀ b, u = .ref b → ∃ o, s.heap.get? b = some o ∧ o.dict = none := by
  have list : ∀ {a : Addr} {us : List V}, H a = some (.lst us) → x = .ref a → s.TypeIs u "list" ∧ ∀ b, u = .ref b → ∃ o, s.heap.get? b = some o ∧ o.dict = none := fun {a us} hl ex => by
    subst ex
    exact tyV_is I rx (T := "list") (.inl ⟨rfl, us, .of hl⟩)
  have dict : ∀ {a : Addr}, IsD H a → x = .ref a → s.TypeIs u "dict" ∧ ∀ b, u = .ref b → ∃ o, s.heap.get? b = some o ∧ o.dict = none := fun {a} hd ex => by
    subst ex
    cases (show u = Value.ref a from rx)
    obtain ⟨t1, t2, _⟩ := isD_at I hd
    exact ⟨t1, t2⟩
  cases r with
  | lst hf rs => cases e; exact list (c.sub.lst hf) rfl
  | dT hf rs =>
    cases e
    rcases c.sub _ _ hf with q | ⟨ob, q, _⟩
    · exact dict (.inr ⟨_, .inl q⟩) rfl
    · exact dict (.inr ⟨_, .inr ⟨ob, q⟩⟩) rfl
  | dK hf rs =>
    cases e
    rcases c.sub _ _ hf with q | ⟨ob, q, _⟩
    · exact dict (.inl ⟨_, .inl q⟩) rfl
    · exact dict (.inl ⟨_, .inr ⟨ob, q⟩⟩) rfl
  | str hz =>
    cases e
    exact tyV_is I rx (T := "str") (show "str" = "str" from rfl)
  | @ref l a hm =>
    simp only [tyTag] at e
    split at e
    · rename_i xs hx
      cases e
      obtain ⟨b, o, e1, e2, e3, e4⟩ := c.ob l _ hx
      rw [hm] at e1; cases e1
      cases e4
      exact list e3 rfl
    · rename_i lk k es hx
      cases e
      obtain ⟨b, o, e1, e2, e3, e4⟩ := c.ob l _ hx
      rw [hm] at e1; cases e1
      cases e4 with
      | dT rt => exact dict (.inr ⟨_, .inl e3⟩) rfl
      | dK rt => exact dict (.inl ⟨_, .inl e3⟩) rfl
      | lT rt => exact dict (.inr ⟨_, .inr ⟨_, e3⟩⟩) rfl
      | lK rt => exact dict (.inl ⟨_, .inr ⟨_, e3⟩⟩) rfl
    · cases e
  | _ => cases e
variable {ea : Ev → Hh → Rs Vl} {el : Ev → Hh → Rs (List Vl)} {o : Expr} {es : List Expr} {pos apos : Pos}
theorem e_bm (k : XBase D P d G N sc X) {m : Bm} (ho : EOk D W X ea o) (hn : notSuper o = true) (hs : es.all noStar = true) (hl : es.length < 20) (hline : (apos.endLine == pos.line) = true) (hp : PA X es (tL D W el)) (hnil : es = [] → el = fun _ h => .ok [] h) :
    EOk D W X (fun ρ h => (ea ρ h).bind fun x h1 => match tyTag h1 x with
    | some t => if bmOk t m then (el ρ h1).bind fun vs h2 => bmV t m x vs h2 else .bad
    | none => .bad) (.Call (.Attribute o (bmName m) apos) es [] pos) := by
  refine eok_val ⟨fun pins s σ H Q I q => ?_⟩ (by intro _; rfl)
  obtain ⟨F, μ, ρ, h, c, er, p⟩ := q
  refine wpAny_Call_method_late (base_eq hn _ _) (few_ok hs hl) hline rfl (thn (ho.pe.run pins s σ H _ I ⟨F, μ, ρ, h, c, er, Post.bind p⟩) fun u s1 hu => ?_)
  obtain ⟨x, H1, I1, rx, F1, μ1, v, h1, x1, c1, r1, p⟩ := hu
  split at p
  · rename_i t ht
    split at p
    · rename_i hok
      obtain ⟨T, id, B, eT⟩ := bm_tab (D := D) (X := X) k.hK k.hu t m hok
      obtain ⟨t1, t2⟩ := tag_ok c1 r1 ht rx I1
      refine ⟨T, id, B.pa, B.slot, B.ty, by rw [eT]; exact t1, t2, ?_⟩
      have rd : tL D W el σ H1 fun us H2 => rM D (WE W σ) t m x us H2 Q := by
        refine ⟨F1, μ1, ρ, h1, c1, er.mono x1.f x1.m, (Post.bind p).mono fun us H2 q => ?_⟩
        obtain ⟨F2, μ2, vs, h2, x2, c2, r2, p⟩ := q
        exact ⟨F2, μ2, h2, v, vs, c2, r1.mono x2.f x2.m, r2, p⟩
      cases es with
      | nil => exact Calls.callWith_builtin rfl (PySem.evalArgs_none (B.run (WE W σ) pins s1 σ H1 x [] u [] Q I1 rx .nil (nil_reads (sp := fun _ _ _ _ => True) (R := fun _ _ _ => fun _ _ _ => True) (hnil rfl) rd)))
      | cons e es =>
        rw [List.all_cons, Bool.and_eq_true] at hs
        have hA := hp.run pos pins s1 σ H1 _ I1 rd
        have se := star_eq hs.1 es X.env
        have sp : (backTo pos (starEach (e :: es) X.env)).any (·.1) = false := stars_plain (by rw [List.all_cons, hs.1, hs.2]; rfl)
        rw [se] at hA sp ⊢
        refine Calls.callWith_builtin sp (Calls.evalArgs_plain ?_)
        exact thn hA fun us s2 ⟨vs, H2, I2, r2, q2⟩ => B.run (WE W σ) pins s2 σ H2 x vs u us Q I2 rx r2 q2
    · exact p.elim
  · exact p.elim
end
end IL
end

section
set_option autoImplicit false
set_option linter.all false
set_option Elab.async false
set_option maxRecDepth 100000
set_option maxHeartbeats 4000000
/-! IL: what is walked. -/
namespace IL
open PySem L2 PyProof.Rows
/-- a walk over frozen items; Y holds meanwhile -/
structure Wk (D : Wd) (J : It) (F : Hp) (μ : List Addr) (xs : List Vl) (Y : Hp → Prop) : Prop where
  goes : ∀ i H, i < xs.length → FSub F H → Y H → J.go i H
  stops : ∀ H, FSub F H → Y H → J.stop xs.length H
  yields : ∀ i H x H' v, xs[i]? = some v → FSub F H → Y H → J.yld i H x H' → ∀ F2 μ2 h2, FExt F F2 → MExt μ μ2 → CS D F2 μ2 h2 H → ∃ F3, CS D F3 μ2 h2 H' ∧ Xt F2 μ2 H F3 μ2 H' ∧ RV D F3 μ2 v x
  stays : ∀ {F μ H F' μ' H'}, Xt F μ H F' μ' H' → Y H → Y H'
def Any : Hp → Prop := fun _ => True
section
variable {D : Wd} {F : Hp} {μ : List Addr} {xs : List Vl} {us : List V} {a : Addr}
theorem wk_list {K : Frag} (h : ∀ H, FSub F H → SqL K H a us) (r : RVs D F μ xs us) : Wk D (Itl K a) F μ xs Any := by
  have w := walk_list (K := K) (a := a) (xs := us)
  refine ⟨fun i H hi hs _ => w.goes i H (by rw [← r.length]; exact hi) (h H hs), fun H hs _ => by rw [r.length]; exact w.stops H (h H hs), fun i H x H' v hv hs _ hy F2 μ2 h2 hF hm c => ?_, fun _ _ => trivial⟩
  obtain ⟨u, hu, ru⟩ := r.get hv
  obtain ⟨e1, e2⟩ := w.yields i H x H' (List.getElem?_eq_some_iff.mp hu).1 (h H hs) hy
  subst e1
  rw [hu] at e2
  cases e2
  exact ⟨F2, c, .refl _ _ _, ru.mono hF hm⟩
theorem wk_tup {K : Frag} (h : ∀ H, FSub F H → SqT K H a us) (r : RVs D F μ xs us) : Wk D (Itt K a) F μ xs Any := by
  have w := walk_tup (K := K) (a := a) (xs := us)
  refine ⟨fun i H hi hs _ => w.goes i H (by rw [← r.length]; exact hi) (h H hs), fun H hs _ => by rw [r.length]; exact w.stops H (h H hs), fun i H x H' v hv hs _ hy F2 μ2 h2 hF hm c => ?_, fun _ _ => trivial⟩
  obtain ⟨u, hu, ru⟩ := r.get hv
  obtain ⟨e1, e2⟩ := w.yields i H x H' (List.getElem?_eq_some_iff.mp hu).1 (h H hs) hy
  subst e1
  rw [hu] at e2
  cases e2
  exact ⟨F2, c, .refl _ _ _, ru.mono hF hm⟩
theorem wk_rng (lo : Int) (n : Nat) : Wk D (Itr lo n) F μ ((List.range n).map fun (i : Nat) => Vl.int (lo + i)) Any := by
  refine ⟨fun i H hi _ _ => (by simpa using hi : i < n), fun H _ _ => by simp [Itr], fun i H x H' v hv hs _ hy F2 μ2 h2 hF hm c => ?_, fun _ _ => trivial⟩
  obtain ⟨e1, e2⟩ := hy
  subst e1 e2
  have hi := (List.getElem?_eq_some_iff.mp hv).1
  simp at hi
  have : v = .int (lo + i) := by
    rw [List.getElem?_map, List.getElem?_range hi] at hv
    cases hv; rfl
  subst this
  exact ⟨F2, c, .refl _ _ _, .int _⟩
theorem enum_length (n : Nat) : ∀ xs : List Vl, (enumFrom n xs).length = xs.length := by
  intro xs
  induction xs generalizing n with
  | nil => rfl
  | cons x xs ih => simp [enumFrom, ih]
theorem enum_get : ∀ (xs : List Vl) (n i : Nat) (v : Vl), (enumFrom n xs)[i]? = some v → ∃ x, xs[i]? = some x ∧ v = .tup [.int ((n + i : Nat) : Int), x]
  | [], _, _, _, h => by simp [enumFrom] at h
  | x :: xs, n, 0, v, h => by
    simp [enumFrom] at h
    exact ⟨x, by simp, by rw [← h]; simp⟩
  | x :: xs, n, i + 1, v, h => by
    simp only [enumFrom, List.getElem?_cons_succ] at h
    obtain ⟨y, h1, h2⟩ := enum_get xs (n + 1) i v h
    exact ⟨y, by simpa using h1, by rw [h2]; congr 3; omega⟩
theorem wk_enum {K : Frag} (h : ∀ H, FSub F H → SqL K H a us) (r : RVs D F μ xs us) : Wk D (Ite K a) F μ (enumFrom 0 xs) Any := by
  have w := walk_enum (K := K) (a := a) (xs := us)
  refine ⟨fun i H hi hs _ => w.goes i H (by rw [← r.length, ← enum_length 0]; exact hi) (h H hs), fun H hs _ => by rw [enum_length, r.length]; exact w.stops H (h H hs), fun i H x H' v hv hs _ hy F2 μ2 h2 hF hm c => ?_, fun _ _ => trivial⟩
  obtain ⟨z, hz, ev⟩ := enum_get xs 0 i v hv
  obtain ⟨u, hu, ru⟩ := r.get hz
  obtain ⟨T, y1, y2, e1, hT, e2, e3, e4⟩ := w.yields i H x H' (List.getElem?_eq_some_iff.mp hu).1 (h H hs) hy
  cases e3
  have e4 : us[i]? = some y2 := e4
  rw [hu] at e4
  cases e4
  subst e1 e2 ev
  obtain ⟨c', x'⟩ := c.new hT (.tup [.int (i : Nat), u])
  refine ⟨_, c', x', .tup upd_same (.cons ?_ (.cons ((ru.mono hF hm).mono x'.f x'.m) .nil))⟩
  simp only [Nat.zero_add]
  exact .int _
end
section
variable {D : Wd} {F : Hp} {μ : List Addr} {xs ys : List Vl} {us vs : List V} {a b : Addr}
theorem wk_zip {K : Frag} (h : ∀ H, FSub F H → SqL K H a us) (g : ∀ H, FSub F H → SqL K H b vs) (r : RVs D F μ xs us) (q : RVs D F μ ys vs) : Wk D (Itz K a b) F μ (List.zipWith (fun x y => Vl.tup [x, y]) xs ys) Any := by
  refine ⟨fun i H hi hs _ => ?_, fun H hs _ => ?_, fun i H x H' v hv hs _ hy F2 μ2 h2 hF hm c => ?_, fun _ _ => trivial⟩
  · rw [List.length_zipWith] at hi
    have h1 : i < us.length := by have := r.length; omega
    have h2 : i < vs.length := by have := q.length; omega
    exact ⟨us, vs, us[i], vs[i], h H hs, g H hs, by simp [h1], by simp [h2]⟩
  · refine ⟨us, vs, h H hs, g H hs, ?_⟩
    rw [List.length_zipWith, r.length, q.length]
    omega
  · obtain ⟨T, y1, y2, e1, hT, e2, e3, e4⟩ := hy
    have e3 := e3 us (h H hs)
    have e4 := e4 vs (g H hs)
    rw [List.getElem?_zipWith] at hv
    obtain ⟨z1, f1, g1⟩ := r.get' e3
    obtain ⟨z2, f2, g2⟩ := q.get' e4
    rw [f1, f2] at hv
    cases hv
    subst e1 e2
    obtain ⟨c', x'⟩ := c.new hT (.tup [y1, y2])
    exact ⟨_, c', x', .tup upd_same (.cons ((g1.mono hF hm).mono x'.f x'.m) (.cons ((g2.mono hF hm).mono x'.f x'.m) .nil))⟩
theorem wk_zipT {K : Frag} (h : ∀ H, FSub F H → SqT K H a us) (g : ∀ H, FSub F H → SqT K H b vs) (r : RVs D F μ xs us) (q : RVs D F μ ys vs) : Wk D (RZ.ItzT K a b) F μ (List.zipWith (fun x y => Vl.tup [x, y]) xs ys) Any := by
  refine ⟨fun i H hi hs _ => ?_, fun H hs _ => ?_, fun i H x H' v hv hs _ hy F2 μ2 h2 hF hm c => ?_, fun _ _ => trivial⟩
  · rw [List.length_zipWith] at hi
    have h1 : i < us.length := by have := r.length; omega
    have h2 : i < vs.length := by have := q.length; omega
    exact ⟨us, vs, us[i], vs[i], h H hs, g H hs, by simp [h1], by simp [h2]⟩
  · refine ⟨us, vs, h H hs, g H hs, ?_⟩
    rw [List.length_zipWith, r.length, q.length]
    omega
  · obtain ⟨T, y1, y2, e1, hT, e2, e3, e4⟩ := hy
    have e3 := e3 us (h H hs)
    have e4 := e4 vs (g H hs)
    rw [List.getElem?_zipWith] at hv
    obtain ⟨z1, f1, g1⟩ := r.get' e3
    obtain ⟨z2, f2, g2⟩ := q.get' e4
    rw [f1, f2] at hv
    cases hv
    subst e1 e2
    obtain ⟨c', x'⟩ := c.new hT (.tup [y1, y2])
    exact ⟨_, c', x', .tup upd_same (.cons ((g1.mono hF hm).mono x'.f x'.m) (.cons ((g2.mono hF hm).mono x'.f x'.m) .nil))⟩
/-- the keys of a locked dict -/
theorem wk_keysT {es : List (Vl × Vl)} {kvs : List (List Key × V)} {d : Addr} {od : Obj} (ok : keysInt es = true) (r : RT D F μ es kvs) : Wk D (Itkt d od kvs) F μ (es.map (·.1)) fun H => H d = some (.frz od (.dT kvs)) := by
  have hl : (es.map (·.1)).length = kvs.length := by rw [List.length_map]; exact r.len
  refine ⟨fun i H hi _ q => ⟨q, by omega⟩, fun H _ q => ⟨q, by omega⟩, fun i H x H' v hv hs hq hy F2 μ2 h2 hF hm c => ?_, fun x q => x.frz _ _ _ q⟩
  obtain ⟨rfl, k, z, q, e1, rfl, e3⟩ := hy
  obtain ⟨F3, c3, x3, e4⟩ := c.froze e3
  refine ⟨F3, c3, x3, ?_⟩
  have : ∀ {es : List (Vl × Vl)} {kvs : List (List Key × V)} {i : Nat}, keysInt es = true → RT D F μ es kvs → (es.map (·.1))[i]? = some v → kvs[i]? = some (k, z) → v = .tup (k.map kVl) ∧ (k.map kVl).all isIntV = true := by
    intro es kvs i ok r h1 h2
    induction es generalizing kvs i with
    | nil => simp at h1
    | cons e es ih =>
      cases r with
      | @cons ks v' u _ kvs r t =>
        simp only [keysInt, List.all_cons, Bool.and_eq_true] at ok
        cases i with
        | zero =>
          simp at h1 h2
          obtain ⟨rfl, rfl⟩ := h2
          subst h1
          exact ⟨rfl, by simpa [intKey] using ok.1⟩
        | succ i => exact ih ok.2 t (by simpa using h1) (by simpa using h2)
  obtain ⟨rfl, ik⟩ := this ok r hv e1
  exact .tup e4 (ints_keys k ik)
theorem wk_keysK {es : List (Vl × Vl)} {kvs : List (Key × V)} {d : Addr} {od : Obj} (ok : keysInt es = true) (r : RK D F μ es kvs) : Wk D (Itk d od kvs) F μ (es.map (·.1)) fun H => H d = some (.frz od (.dK kvs)) := by
  have hl : (es.map (·.1)).length = kvs.length := by rw [List.length_map]; exact r.len
  refine ⟨fun i H hi _ q => ⟨q, by omega⟩, fun H _ q => ⟨q, by omega⟩, fun i H x H' v hv hs hq hy F2 μ2 h2 hF hm c => ?_, fun x q => x.frz _ _ _ q⟩
  obtain ⟨rfl, k, z, e1, rfl⟩ := hy
  refine ⟨F2, c, .refl _ _ _, ?_⟩
  have rk := (RK.keys ok r).mono hF hm
  obtain ⟨u, e2, e3⟩ := rk.get hv
  rw [List.getElem?_map, e1] at e2
  cases e2
  exact e3
end
/-- the dict at d is locked -/
structure Lkd (X : Cx) (H H1 : Hp) (d : Addr) (od : Obj) (u : HO) : Prop where
  was : H d = some u
  dct : (∃ kvs, u = .dT kvs) ∨ ∃ kvs, u = .dK kvs
  now : H1 = upd H d (.frz od u)
  nof : ∀ o' u', X.H_0 d ≠ some (.frz o' u')
section
variable {D : Wd} {X : Cx} {F F' : Hp} {μ μ' : List Addr} {h h' h'' : Hh} {H H1 H' : Hp} {d : Addr} {od : Obj} {u : HO}
theorem Lkd.nofrz (k : Lkd X H H1 d od u) : ∀ o' u', u ≠ .frz o' u' := by
  rcases k.dct with ⟨_, rfl⟩ | ⟨_, rfl⟩ <;> exact fun _ _ z => nomatch z
theorem Lkd.mut (k : Lkd X H H1 d od u) : Mut (some u) := by
  rcases k.dct with ⟨_, rfl⟩ | ⟨_, rfl⟩ <;> exact trivial
theorem Lkd.off (k : Lkd X H H1 d od u) {a : Addr} (e : a ≠ d) : H1 a = H a := by rw [k.now, upd_ne e]
theorem Lkd.at (k : Lkd X H H1 d od u) : H1 d = some (.frz od u) := by rw [k.now, upd_same]
theorem Lkd.nsp (k : Lkd X H H1 d od u) : ¬ Sp1 u := by
  rintro (⟨_, e⟩ | ⟨_, e⟩) <;> rcases k.dct with ⟨_, z⟩ | ⟨_, z⟩ <;> rw [z] at e <;> cases e
theorem Lkd.ntb (k : Lkd X H H1 d od u) : ∀ ps, u ≠ .tbl ps := fun ps e => k.nsp (.inl ⟨ps, e⟩)
theorem Lkd.xt (k : Lkd X H H1 d od u) (x : Xt F μ H1 F' μ' H') : Xt F μ H F' μ' (upd H' d u) := by
  refine ⟨x.f, x.m, fun a o e n ht => ?_, fun a e => ?_, fun a o e => ?_, fun a e => ?_, fun a o v e => ?_⟩
  · by_cases q : a = d
    · subst q
      rw [k.was] at e; cases e
      exact upd_same
    · rw [upd_ne q]; exact x.keep a o (by rw [k.off q]; exact e) n ht
  · by_cases q : a = d
    · subst q; exact nfr0_at k.ntb
    · rw [fr0_ne q]; exact x.there a (by unfold Fr0; rw [k.off q]; exact e)
  · rcases x.fnew a o e with z | z | z
    · exact .inl z
    · have q : a ≠ d := fun q => by
        obtain ⟨ps, e⟩ := z _ (q ▸ k.at)
        cases e
      unfold Fr0 at z
      rw [k.off q] at z
      exact .inr (.inl z)
    · exact .inr (.inr z)
  · rcases x.mnew a e with z | z
    · exact .inl z
    · have q : a ≠ d := fun q => by
        obtain ⟨ps, e⟩ := z _ (q ▸ k.at)
        cases e
      unfold Fr0 at z
      rw [k.off q] at z
      exact .inr z
  · have q : a ≠ d := fun q => by
      rw [q, k.was] at e
      exact k.nofrz o v (Option.some.inj e)
    rw [upd_ne q]
    exact x.frz a o v (by rw [k.off q]; exact e)
/-- a frozen dict: the state is as it was -/
theorem Lkd.csF (k : Lkd X H H1 d od u) (hF : F d = some u) (c : CS D F μ h H) : CS D F μ h H1 := by
  refine ⟨fun a o e => ?_, c.len, c.inj, fun l ob e => ?_, by rw [k.now]; exact c.tab.put k.was k.nsp⟩
  · by_cases q : a = d
    · subst q
      rw [hF] at e; cases e
      exact .inr ⟨od, k.at, k.dct⟩
    · rw [k.off q]; exact c.sub a o e
  · obtain ⟨a, w, e1, e2, e3, e4⟩ := c.ob l ob e
    have q : a ≠ d := fun q => by rw [q, hF] at e2; cases e2
    exact ⟨a, w, e1, e2, by rw [k.off q]; exact e3, e4⟩
theorem Lkd.backF (k : Lkd X H H1 d od u) (hF : F d = some u) (x : Xt F μ H1 F' μ' H') (c : CS D F' μ' h' H') : CS D F' μ' h' (upd H' d u) := by
  have hF' := x.f _ _ hF
  refine ⟨fun a o e => ?_, c.len, c.inj, fun l ob e => ?_, c.tab.put (x.frz _ _ _ k.at) (by rintro (⟨_, e⟩ | ⟨_, e⟩) <;> cases e)⟩
  · by_cases q : a = d
    · subst q
      rw [hF'] at e; cases e
      exact .inl upd_same
    · rw [upd_ne q]; exact c.sub a o e
  · obtain ⟨a, w, e1, e2, e3, e4⟩ := c.ob l ob e
    have q : a ≠ d := fun q => by rw [q, hF'] at e2; cases e2
    exact ⟨a, w, e1, e2, by rw [upd_ne q]; exact e3, e4⟩
/-- a dict of the local heap -/
theorem Lkd.csM (k : Lkd X H H1 d od u) {l : Nat} (hl : μ[l]? = some d) {t : Bool} {es : List (Vl × Vl)} (e : h[l]? = some (.dct false t es)) (c : CS D F μ h H) : CS D F μ (lockH l h) H1 := by
  have e' : lockH l h = h.set l (.dct true t es) := by unfold lockH; rw [e]
  rw [e', k.now]
  obtain ⟨a, w, e1, e2, e3, e4⟩ := c.ob l _ e
  rw [hl] at e1
  cases e1
  rw [k.was] at e3
  cases e3
  refine c.putC (List.getElem?_eq_some_iff.mp e).1 hl ?_
  cases e4 with
  | dT r => exact .lT r
  | dK r => exact .lK r
theorem Lkd.backM (k : Lkd X H H1 d od u) {l : Nat} (hl : μ[l]? = some d) (x : Xt F μ H1 F' μ' H') (c : CS D F' μ' h' H') (e : unlockH l h' = some h'') : CS D F' μ' h'' (upd H' d u) := by
  unfold unlockH at e
  split at e
  · rename_i t es he
    cases e
    obtain ⟨a, w, e1, e2, e3, e4⟩ := c.ob l _ he
    have hl' := x.m.get hl
    rw [hl'] at e1
    cases e1
    rw [x.frz _ _ _ k.at] at e3
    cases e3
    refine c.putC (List.getElem?_eq_some_iff.mp he).1 hl' ?_
    cases e4 with
    | lT r => exact .dT r
    | lK r => exact .dK r
  · cases e
end
/-- at once, or behind an unlocking -/
def UnlTo (X : Cx) (H : Hp) (K : Hp → Prop) : Prop := K H ∨ ∃ d od u, H d = some (.frz od u) ∧ (∀ o' u', X.H_0 d ≠ some (.frz o' u')) ∧ K (upd H d u)
def tUnlE (X : Cx) (t : TE) : TE := fun σ H Q => t σ H fun v H' => UnlTo X H' (Q v)
def tUnl (X : Cx) (t : TS) : TS := fun D σ H => t ⟨fun σ' H' => UnlTo X H' (D.nx σ'), fun v H' => UnlTo X H' (D.rt v), fun σ' H' => UnlTo X H' (D.bk σ'), fun σ' H' => UnlTo X H' (D.ct σ')⟩ σ H
section
variable {X : Cx}
theorem unl_inv {pins : List (Addr × Obj)} {σ : L2.St} {H : Hp} {s : Shared} {K : Hp → Prop} (I : L2.Inv X pins σ H s) (u : UnlTo X H K) : ∃ H', L2.Inv X pins σ H' s ∧ K H' := by
  rcases u with k | ⟨d, od, u, e, n, k⟩
  · exact ⟨H, I, k⟩
  · exact ⟨_, I.unlock e n, k⟩
theorem pe_unl {e : Expr} {t : TE} (h : PE X e t) : PE X e (tUnlE X t) := by
  refine ⟨fun pins s σ H Q I hw => ?_⟩
  refine thn (h.run pins s σ H _ I hw) fun v s1 ⟨x, H1, I2, r, q⟩ => ?_
  obtain ⟨H2, I3, q⟩ := unl_inv I2 q
  exact ⟨x, H2, I3, r, q⟩
theorem ps_unl {st : Stmt} {t : TS} (h : PS X st t) : PS X st (tUnl X t) := by
  refine ⟨fun pins s σ H D I hw => ?_⟩
  refine thn (h.run pins s σ H _ I hw) fun f s1 q => ?_
  cases f with
  | next => obtain ⟨σ', H', I2, q⟩ := q; obtain ⟨H2, I3, q⟩ := unl_inv I2 q; exact ⟨σ', H2, I3, q⟩
  | brk => obtain ⟨σ', H', I2, q⟩ := q; obtain ⟨H2, I3, q⟩ := unl_inv I2 q; exact ⟨σ', H2, I3, q⟩
  | cont => obtain ⟨σ', H', I2, q⟩ := q; obtain ⟨H2, I3, q⟩ := unl_inv I2 q; exact ⟨σ', H2, I3, q⟩
  | ret v => obtain ⟨x, σ', H', I2, r, q⟩ := q; obtain ⟨H2, I3, q⟩ := unl_inv I2 q; exact ⟨x, σ', H2, I3, r, q⟩
/-- a dict by its keys: it is locked here -/
def iKeysL (X : Cx) (td : TE) : TI := fun σ H R => td σ H fun x H1 => ∃ d, x = .ref d ∧
  ((∃ kvs, H1 d = some (.dT kvs) ∧ ∀ od, Lkd X H1 (upd H1 d (.frz od (.dT kvs))) d od (.dT kvs) → R (Itkt d od kvs) (upd H1 d (.frz od (.dT kvs)))) ∨
   (∃ kvs, H1 d = some (.dK kvs) ∧ ∀ od, Lkd X H1 (upd H1 d (.frz od (.dK kvs))) d od (.dK kvs) → R (Itk d od kvs) (upd H1 d (.frz od (.dK kvs)))) ∨
   (∃ od kvs, H1 d = some (.frz od (.dT kvs)) ∧ R (Itkt d od kvs) H1) ∨ ∃ od kvs, H1 d = some (.frz od (.dK kvs)) ∧ R (Itk d od kvs) H1)
theorem pi_keysL {tg e : Expr} {td : TE} (he : PE X e td) : PI X tg e (iKeysL X td) := by
  refine ⟨fun pins s σ H R I h => ?_⟩
  refine thn (he.run pins s σ H _ I h) fun u s1 ⟨x, H1, I1, rx, d, ex, q⟩ => ?_
  subst ex
  obtain rfl : u = Value.ref d := rx
  have frzT : ∀ {H2 : Hp} {od : Obj} {kvs : List (List Key × V)}, L2.Inv X pins σ H2 s1 → H2 d = some (.frz od (.dT kvs)) → R (Itkt d od kvs) H2 → wpAny (model X.prog X.w) X.A (pyIter (.ref d)) (PIE X pins σ tg R) X.xe s1 := fun {H2 od kvs} I2 hd q => by
    obtain ⟨hs, hgd, hx, es, ep, hdt, hsz, ent⟩ := I2.frzT hd
    refine iter_keys hs hgd hx hdt (pi_one (tk := s1.toks) I2 _ (turn_keysT _ hdt) ⟨_, Heap.get?_push_size _ rfl, rfl, ?_⟩ q)
    rw [hsz] <;> rfl
  have frzK : ∀ {H2 : Hp} {od : Obj} {kvs : List (Key × V)}, L2.Inv X pins σ H2 s1 → H2 d = some (.frz od (.dK kvs)) → R (Itk d od kvs) H2 → wpAny (model X.prog X.w) X.A (pyIter (.ref d)) (PIE X pins σ tg R) X.xe s1 := fun {H2 od kvs} I2 hd q => by
    obtain ⟨hs, hgd, hx, es, ep, vs, hdt, hsz, kv, hm⟩ := I2.frzK hd
    refine iter_keys hs hgd hx hdt (pi_one (tk := s1.toks) I2 _ (turn_keys _ hdt) ⟨_, Heap.get?_push_size _ rfl, rfl, ?_⟩ q)
    rw [hsz] <;> rfl
  rcases q with ⟨kvs, hd, q⟩ | ⟨kvs, hd, q⟩ | ⟨od, kvs, hd, q⟩ | ⟨od, kvs, hd, q⟩
  · obtain ⟨od, I2⟩ := I1.lock hd trivial
    exact frzT I2 upd_same (q od ⟨hd, .inl ⟨_, rfl⟩, rfl, I1.nofrz hd trivial⟩)
  · obtain ⟨od, I2⟩ := I1.lock hd trivial
    exact frzK I2 upd_same (q od ⟨hd, .inr ⟨_, rfl⟩, rfl, I1.nofrz hd trivial⟩)
  · exact frzT I1 hd q
  · exact frzK I1 hd q
end
/-- what a walk's source reads -/
def WI (D : Wd) (X : Cx) (F : Hp) (μ : List Addr) (R : It → Hp → Prop) (H : Hp) : Itm → Prop
  | .fr xs => ∀ J Y, Wk D J F μ xs Y → Y H → R J H
  | .cell l _ => ∀ a, μ[l]? = some a → R (Itl D.K a) H
  | .keys l xs => ∀ J Y d od u H1, μ[l]? = some d → Lkd X H H1 d od u → Wk D J F μ xs Y → Y H1 → R J H1
  | .keysF xs => ∀ J Y H1, (H1 = H ∨ ∃ d od u, F d = some u ∧ Lkd X H H1 d od u) → Wk D J F μ xs Y → Y H1 → R J H1
  | .bad => False
def WR (D : Wd) (X : Cx) (F : Hp) (μ : List Addr) (h : Hh) (k : Ik) (vs : List Vl) (R : It → Hp → Prop) (H : Hp) : Prop := WI D X F μ R H (walked k vs h)
def tW (D : Wd) (W : WX) (X : Cx) (k : Ik) (el : Ev → Hh → Rs (List Vl)) : TI := fun σ H R => ∃ F μ ρ h, CS D F μ h H ∧ ER D F μ ρ σ ∧ PostL D F μ H (el ρ h) (fun us H1 => ∃ F1 μ1 h1 vs, Xt F μ H F1 μ1 H1 ∧ CS D F1 μ1 h1 H1 ∧ RVs D F1 μ1 vs us ∧ el ρ h = .ok vs h1 ∧ WR D X F1 μ1 h1 k vs R H1) (WE W σ)
section
variable {D : Wd} {P : Pg} {d : Nat} {G : Gt} {N : List Str} {sc : Scope} {W : WX} {X : Cx}
variable {ea : Ev → Hh → Rs Vl} {el : Ev → Hh → Rs (List Vl)} {a tg : Expr} {es : List Expr} {pos p : Pos}
/-- one item as a list of one -/
abbrev one (ea : Ev → Hh → Rs Vl) : Ev → Hh → Rs (List Vl) := fun ρ h => (ea ρ h).bind fun v h1 => Rs.bind (.ok [] h1) fun vs h2 => .ok (v :: vs) h2
theorem one_eq (ρ : Ev) (h : Hh) : one ea ρ h = (ea ρ h).bind fun v h1 => .ok [v] h1 := rfl
theorem pi_seq (k : XOk D P d G N sc W X) (ha : EOk D W X ea a) : PI X tg a (tW D W X .seq (one ea)) := by
  refine ⟨fun pins s σ H R I q => ?_⟩
  obtain ⟨F, μ, ρ, h, c, er, q⟩ := q
  have hK := k.hK
  -- by what the source is
  cases e : ea ρ h with
  | bad =>
    rw [one_eq, e] at q
    exact q.elim
  | exc C h1 =>
    rw [one_eq, e] at q
    refine (pi_list ha.pe).run pins s σ H R I ⟨F, μ, ρ, h, c, er, ?_⟩
    rw [e]
    exact q
  | ok v h1 =>
    have el1 : one ea ρ h = .ok [v] h1 := by rw [one_eq, e]; rfl
    rw [el1] at q
    have q : ∀ F1 μ1 H1 u, Xt F μ H F1 μ1 H1 → CS D F1 μ1 h1 H1 → RV D F1 μ1 v u → ∃ F2 μ2, Xt F μ H F2 μ2 H1 ∧ CS D F2 μ2 h1 H1 ∧ RV D F2 μ2 v u ∧ WR D X F2 μ2 h1 .seq [v] R H1 := fun F1 μ1 H1 u x c1 r => by
      obtain ⟨F2, μ2, h2, vs, x2, c2, r2, e2, w⟩ := q F1 μ1 H1 [u] x c1 (.cons r .nil)
      cases e2
      cases r2 with
      | cons r2 _ => exact ⟨F2, μ2, x2, c2, r2, w⟩
    have viaL : (∀ F1 μ1 H1 u, Xt F μ H F1 μ1 H1 → CS D F1 μ1 h1 H1 → RV D F1 μ1 v u → ∃ b, u = .ref b ∧ (∃ ys, SqL X.K H1 b ys) ∧ R (Itl X.K b) H1) → wpAny (model X.prog X.w) X.A (eval a X.env) (fun v s1 => wpAny (model X.prog X.w) X.A (pyIter v) (PIE X pins σ tg R) X.xe s1) X.xe s := fun z => by
      refine (pi_list ha.pe).run pins s σ H R I ⟨F, μ, ρ, h, c, er, ?_⟩
      rw [e]
      exact z
    have viaD : (∀ F1 μ1 H1 u, Xt F μ H F1 μ1 H1 → CS D F1 μ1 h1 H1 → RV D F1 μ1 v u → ∃ d, u = .ref d ∧
        ((∃ kvs, H1 d = some (.dT kvs) ∧ ∀ od, Lkd X H1 (upd H1 d (.frz od (.dT kvs))) d od (.dT kvs) → R (Itkt d od kvs) (upd H1 d (.frz od (.dT kvs)))) ∨
         (∃ kvs, H1 d = some (.dK kvs) ∧ ∀ od, Lkd X H1 (upd H1 d (.frz od (.dK kvs))) d od (.dK kvs) → R (Itk d od kvs) (upd H1 d (.frz od (.dK kvs)))) ∨
         (∃ od kvs, H1 d = some (.frz od (.dT kvs)) ∧ R (Itkt d od kvs) H1) ∨ ∃ od kvs, H1 d = some (.frz od (.dK kvs)) ∧ R (Itk d od kvs) H1)) → wpAny (model X.prog X.w) X.A (eval a X.env) (fun v s1 => wpAny (model X.prog X.w) X.A (pyIter v) (PIE X pins σ tg R) X.xe s1) X.xe s := fun z => by
      refine (pi_keysL ha.pe).run pins s σ H R I ⟨F, μ, ρ, h, c, er, ?_⟩
      rw [e]
      exact z
    cases v with
    | tup xs =>
      refine (pi_tup ha.pe).run pins s σ H R I ⟨F, μ, ρ, h, c, er, ?_⟩
      rw [e]
      intro F1 μ1 H1 u x c1 r
      obtain ⟨F2, μ2, x2, c2, r2, w⟩ := q F1 μ1 H1 u x c1 r
      cases r2 with
      | tup hf rs =>
        refine ⟨_, rfl, ⟨_, .of (c2.sub.tup hf)⟩, w _ _ (wk_tup (fun H hs => .of (hs.tup hf)) rs) trivial⟩
    | lst xs =>
      refine viaL fun F1 μ1 H1 u x c1 r => ?_
      obtain ⟨F2, μ2, x2, c2, r2, w⟩ := q F1 μ1 H1 u x c1 r
      cases r2 with
      | lst hf rs => exact ⟨_, rfl, ⟨_, .of (c2.sub.lst hf)⟩, w _ _ (wk_list (fun H hs => .of (hs.lst hf)) rs) trivial⟩
    | scr xs =>
      refine viaL fun F1 μ1 H1 u x c1 r => ?_
      obtain ⟨F2, μ2, x2, c2, r2, w⟩ := q F1 μ1 H1 u x c1 r
      cases r2 with
      | scr hf rs =>
        rw [hK]
        exact ⟨_, rfl, ⟨_, c2.sub.sqL hf⟩, w _ _ (wk_list (fun H hs => hs.sqL hf) rs) trivial⟩
    | ref l =>
      cases e3 : h1[l]? with
      | none =>
        refine viaL fun F1 μ1 H1 u x c1 r => ?_
        obtain ⟨F2, μ2, x2, c2, r2, w⟩ := q F1 μ1 H1 u x c1 r
        unfold WR walked wSeq at w
        dsimp only at w
        rw [e3] at w; exact w.elim
      | some o =>
        cases o with
        | lst ys =>
          refine viaL fun F1 μ1 H1 u x c1 r => ?_
          obtain ⟨F2, μ2, x2, c2, r2, w⟩ := q F1 μ1 H1 u x c1 r
          unfold WR walked wSeq at w
          dsimp only at w
          rw [e3] at w
          cases r2 with
          | ref hm =>
            obtain ⟨b, o, e4, e5, e6, e7⟩ := c2.ob l _ e3
            rw [hm] at e4
            cases e4
            cases e7
            rw [hK]
            exact ⟨_, rfl, ⟨_, .of e6⟩, w _ hm⟩
        | ins C fs =>
          refine viaL fun F1 μ1 H1 u x c1 r => ?_
          obtain ⟨F2, μ2, x2, c2, r2, w⟩ := q F1 μ1 H1 u x c1 r
          unfold WR walked wSeq at w
          dsimp only at w
          rw [e3] at w; exact w.elim
        | dct lk t es =>
          refine viaD fun F1 μ1 H1 u x c1 r => ?_
          obtain ⟨F2, μ2, x2, c2, r2, w⟩ := q F1 μ1 H1 u x c1 r
          unfold WR walked wSeq at w
          dsimp only at w
          rw [e3] at w
          cases lk with
          | true => exact w.elim
          | false =>
          dsimp only at w
          by_cases hk : keysInt es = true
          · rw [if_pos hk] at w
            cases r2 with
            | ref hm =>
              obtain ⟨b, o, e4, e5, e6, e7⟩ := c2.ob l _ e3
              rw [hm] at e4
              cases e4
              refine ⟨_, rfl, ?_⟩
              cases e7 with
              | dT rt => exact .inl ⟨_, e6, fun od k => w _ _ _ _ _ _ hm k (wk_keysT hk rt) upd_same⟩
              | dK rt => exact .inr (.inl ⟨_, e6, fun od k => w _ _ _ _ _ _ hm k (wk_keysK hk rt) upd_same⟩)
          · rw [if_neg hk] at w
            exact w.elim
    | dct t es =>
      refine viaD fun F1 μ1 H1 u x c1 r => ?_
      obtain ⟨F2, μ2, x2, c2, r2, w⟩ := q F1 μ1 H1 u x c1 r
      unfold WR walked wSeq at w
      dsimp only at w
      by_cases hk : keysInt es = true
      · rw [if_pos hk] at w
        cases r2 with
        | dT hf rt =>
          refine ⟨_, rfl, ?_⟩
          rcases c2.sub _ _ hf with q | ⟨ob, q, _⟩
          · exact .inl ⟨_, q, fun od k => w _ _ _ (.inr ⟨_, _, _, hf, k⟩) (wk_keysT hk rt) upd_same⟩
          · exact .inr (.inr (.inl ⟨_, _, q, w _ _ _ (.inl rfl) (wk_keysT hk rt) q⟩))
        | dK hf rt =>
          refine ⟨_, rfl, ?_⟩
          rcases c2.sub _ _ hf with q | ⟨ob, q, _⟩
          · exact .inr (.inl ⟨_, q, fun od k => w _ _ _ (.inr ⟨_, _, _, hf, k⟩) (wk_keysK hk rt) upd_same⟩)
          · exact .inr (.inr (.inr ⟨_, _, q, w _ _ _ (.inl rfl) (wk_keysK hk rt) q⟩))
      · rw [if_neg hk] at w
        exact w.elim
    | _ =>
      refine viaL fun F1 μ1 H1 u x c1 r => ?_
      obtain ⟨F2, μ2, x2, c2, r2, w⟩ := q F1 μ1 H1 u x c1 r
      exact w.elim
theorem pi_rng (k : XOk D P d G N sc W X) (hg : glB sc ("range" : Str) = true) (hx : G.bl ("range" : Str) = true) (hs : es.all noStar = true) (hn : es.length = 1 ∨ es.length = 2) (hl : PA X es (tL D W el)) (hlen : ∀ ρ h vs h', el ρ h = .ok vs h' → vs.length = es.length) : PI X tg (.Call (.Name ("range" : Str) p) es [] pos) (tW D W X .rng el) := by
  refine ⟨fun pins s σ H R I q => ?_⟩
  obtain ⟨F, μ, ρ, h, c, er, q⟩ := q
  have cnv : ∀ {Q : List V → Hp → Prop}, (∀ us H1, (∃ F1 μ1 h1 vs, Xt F μ H F1 μ1 H1 ∧ CS D F1 μ1 h1 H1 ∧ RVs D F1 μ1 vs us ∧ el ρ h = .ok vs h1 ∧ WR D X F1 μ1 h1 .rng vs R H1) → Q us H1) → tL D W el σ H Q := fun {Q} z => ⟨F, μ, ρ, h, c, er, q.mono z⟩
  match es, hn, hl, hs, hlen with
  | [a], _, hl, hs, hlen =>
    rw [List.all_cons, Bool.and_eq_true] at hs
    refine (pi_range1 (k.gl _ hg) (k.w.blt _ hx) hl (star_eq hs.1 _ _)).run pins s σ H R I (cnv fun us H1 z => ?_)
    obtain ⟨F1, μ1, h1, vs, x, c1, rs, e, w⟩ := z
    have hv := hlen ρ h vs h1 e
    match vs, hv, rs, w with
    | [v], _, rs, w =>
      obtain ⟨u, rfl, r⟩ := rs.one
      have w : WI D X F1 μ1 R H1 (wRng v) := w
      cases r with
      | int j =>
        by_cases hj : -1000000 < j ∧ j < 1000000
        · simp only [wRng, if_pos hj] at w
          refine ⟨j, rfl, by omega, by omega, w _ Any ?_ trivial⟩
          have := wk_rng (D := D) (F := F1) (μ := μ1) 0 j.toNat
          simpa [rngI] using this
        · simp only [wRng, if_neg hj] at w
          exact w.elim
      | _ => exact w.elim
  | [a, b], _, hl, hs, hlen =>
    rw [List.all_cons, List.all_cons, Bool.and_eq_true, Bool.and_eq_true] at hs
    have s2 := star_eq hs.2.1 [] X.env
    refine (pi_range2 (k.gl _ hg) (k.w.blt _ hx) hl (by rw [star_eq hs.1, s2]; rfl) s2).run pins s σ H R I (cnv fun us H1 z => ?_)
    obtain ⟨F1, μ1, h1, vs, x, c1, rs, e, w⟩ := z
    have hv := hlen ρ h vs h1 e
    match vs, hv, rs, w with
    | [v, v'], _, rs, w =>
      obtain ⟨u, u', rfl, r, r'⟩ := rs.two
      have w : WI D X F1 μ1 R H1 (wRng2 v v') := w
      cases r with
      | int i =>
        cases r' with
        | int j =>
          by_cases hj : -1000000 < i ∧ i < 1000000 ∧ -1000000 < j ∧ j < 1000000
          · simp only [wRng2, if_pos hj] at w
            exact ⟨i, j, rfl, ⟨by omega, by omega, by omega, by omega⟩, w _ _ (wk_rng i _) trivial⟩
          · simp only [wRng2, if_neg hj] at w
            exact w.elim
        | _ => exact w.elim
      | _ => exact w.elim
  | [], h, _, _, _ => simp at h
  | _ :: _ :: _ :: _, h, _, _, _ => simp at h
theorem pi_en (k : XOk D P d G N sc W X) {elts : List Expr} {kk : Nat} {tpos : Pos} (hg : glB sc ("enumerate" : Str) = true) (hx : G.bl ("enumerate" : Str) = true) (hs : noStar a = true) (hl : PA X [a] (tL D W el)) : PI X (.Tuple elts kk tpos) (.Call (.Name ("enumerate" : Str) p) [a] [] pos) (tW D W X .enum el) := by
  refine ⟨fun pins s σ H R I q => ?_⟩
  obtain ⟨F, μ, ρ, h, c, er, q⟩ := q
  refine (pi_enum (k.gl _ hg) (k.w.blt _ hx) hl (star_eq hs _ _)).run pins s σ H R I ⟨F, μ, ρ, h, c, er, q.mono fun us H1 z => ?_⟩
  obtain ⟨F1, μ1, h1, vs, x, c1, rs, e, w⟩ := z
  match vs, rs, w with
  | [v], rs, w =>
    obtain ⟨u, rfl, r⟩ := rs.one
    have w : WI D X F1 μ1 R H1 (wEnum v) := w
    cases r with
    | lst hf rq => exact ⟨_, _, rfl, .of (c1.sub.lst hf), w _ _ (wk_enum (fun H hs => .of (hs.lst hf)) rq) trivial⟩
    | _ => exact w.elim
  | [], _, w => exact w.elim
  | [_, _], _, w => exact w.elim
  | _ :: _ :: _ :: _, _, w => exact w.elim
theorem pi_zp (k : XOk D P d G N sc W X) {a2 : Expr} {elts : List Expr} {kk : Nat} {tpos : Pos} (hg : glB sc ("zip" : Str) = true) (hx : G.bl ("zip" : Str) = true) (hs : noStar a = true) (hs2 : noStar a2 = true) (hl : PA X [a, a2] (tL D W el)) : PI X (.Tuple elts kk tpos) (.Call (.Name ("zip" : Str) p) [a, a2] [] pos) (tW D W X .zip el) := by
  refine ⟨fun pins s σ H R I q => ?_⟩
  obtain ⟨F, μ, ρ, h, c, er, q⟩ := q
  have e2 : starEach [a2] X.env = [(false, eval a2 X.env)] := star_eq hs2 [] X.env
  refine (RZ.pi_zipA (k.gl _ hg) (k.w.blt _ hx) hl (star_eq hs _ _) (by rw [e2]; rfl)).run pins s σ H R I ⟨F, μ, ρ, h, c, er, q.mono fun us H1 z => ?_⟩
  obtain ⟨F1, μ1, h1, vs, x, c1, rs, e, w⟩ := z
  match vs, rs, w with
  | [v, v'], rs, w =>
    obtain ⟨u, u', rfl, r, r'⟩ := rs.two
    have w : WI D X F1 μ1 R H1 (wZip v v') := w
    cases r with
    | lst hf rq =>
      cases r' with
      | lst hf2 rq2 => exact ⟨_, _, _, _, rfl, .inl ⟨.of (c1.sub.lst hf), .of (c1.sub.lst hf2), w _ _ (wk_zip (fun H hs => .of (hs.lst hf)) (fun H hs => .of (hs.lst hf2)) rq rq2) trivial⟩⟩
      | _ => exact w.elim
    | tup hf rq =>
      cases r' with
      | tup hf2 rq2 => exact ⟨_, _, _, _, rfl, .inr ⟨.of (c1.sub.tup hf), .of (c1.sub.tup hf2), w _ _ (wk_zipT (fun H hs => .of (hs.tup hf)) (fun H hs => .of (hs.tup hf2)) rq rq2) trivial⟩⟩
      | _ => exact w.elim
    | _ => exact w.elim
  | [], _, w => exact w.elim
  | [_], _, w => exact w.elim
  | _ :: _ :: _ :: _, _, w => exact w.elim
end
end IL
end

section
set_option autoImplicit false
set_option linter.all false
set_option Elab.async false
set_option maxRecDepth 100000
set_option maxHeartbeats 4000000
/-! IL: targets. -/
namespace IL
open PySem L2 PyProof.Rows
/-- only the slots is are stored -/
def SetAt (is : List Nat) (σ σ' : L2.St) : Prop := σ'.length = σ.length ∧ ∀ j, j ∉ is → σ'[j]? = σ[j]?
theorem SetAt.refl (is : List Nat) (σ : L2.St) : SetAt is σ σ := ⟨rfl, fun _ _ => rfl⟩
theorem SetAt.one {is : List Nat} {σ : L2.St} {i : Nat} {x : Option V} (h : i ∈ is) : SetAt is σ (σ.set i x) :=
  ⟨by simp, fun j hj => List.getElem?_set_ne fun e => hj (by rw [← e]; exact h)⟩
theorem SetAt.trans {is js ks : List Nat} {σ τ υ : L2.St} (a : SetAt is σ τ) (b : SetAt js τ υ) (h1 : ∀ i ∈ is, i ∈ ks) (h2 : ∀ i ∈ js, i ∈ ks) : SetAt ks σ υ :=
  ⟨b.1.trans a.1, fun j hj => (b.2 j fun z => hj (h2 j z)).trans (a.2 j fun z => hj (h1 j z))⟩
theorem wipe_get : ∀ (vs : List Nat) (σ : L2.St) (j : Nat), (wipe σ vs)[j]? = if j ∈ vs ∧ j < σ.length then some none else σ[j]?
  | [], σ, j => by simp [wipe]
  | v :: vs, σ, j => by
    unfold wipe
    by_cases e : v = j
    · subst e
      by_cases hl : v < σ.length
      · rw [List.getElem?_set_self (by rw [wipe_length]; exact hl), if_pos ⟨by simp, hl⟩]
      · rw [List.getElem?_eq_none (by simp [wipe_length]; omega), if_neg (fun z => hl z.2), List.getElem?_eq_none (by omega)]
    · rw [List.getElem?_set_ne e, wipe_get vs σ j]
      simp [Ne.symm e]
theorem SetAt.wiped {is own : List Nat} {σ σ' : L2.St} (a : SetAt is σ σ') (h : ∀ i ∈ is, i ∈ own) : wipe σ' own = wipe σ own := by
  apply List.ext_getElem?
  intro j
  rw [wipe_get, wipe_get, a.1]
  by_cases e : j ∈ own
  · by_cases hl : j < σ.length
    · rw [if_pos ⟨e, hl⟩, if_pos ⟨e, hl⟩]
    · rw [if_neg (fun z => hl z.2), if_neg (fun z => hl z.2), List.getElem?_eq_none (by rw [a.1]; omega), List.getElem?_eq_none (by omega)]
  · rw [if_neg (fun z => e z.1), if_neg (fun z => e z.1)]
    exact a.2 j fun z => e (h j z)
section
variable {D : Wd} {P : Pg} {d : Nat} {G : Gt} {N : List Str} {sc : Scope} {W : WX} {X : Cx}
mutual
def tgT (K : Frag) : Tg → TG
  | .nm i => gName i
  | .tp gs => gTup K gs.length (tgTs K gs)
def tgTs (K : Frag) : List Tg → TGs
  | [] => gNil
  | g :: gs => gCons (tgT K g) (tgTs K gs)
end
/-- what a target does -/
structure GOk (D : Wd) (g : Tg) (t : TG) : Prop where
  go : ∀ {F : Hp} {μ : List Addr} {h : Hh} {H : Hp} {ρ ρ' : Ev} {σ : L2.St} {v : Vl} {u : V} {Q : L2.St → Hp → Prop}, CS D F μ h H → ER D F μ ρ σ → RV D F μ v u → bindT g v ρ = some ρ' → (∀ σ', ER D F μ ρ' σ' → SetAt (tgNs g) σ σ' → Q σ' H) → t u σ H Q
structure GsOk (D : Wd) (gs : List Tg) (t : TGs) : Prop where
  go : ∀ {F : Hp} {μ : List Addr} {h : Hh} {H : Hp} {ρ ρ' : Ev} {σ : L2.St} {vs : List Vl} {us : List V} {Q : L2.St → Hp → Prop}, CS D F μ h H → ER D F μ ρ σ → RVs D F μ vs us → bindTs gs vs ρ = some ρ' → (∀ σ', ER D F μ ρ' σ' → SetAt (tgNss gs) σ σ' → Q σ' H) → t us σ H Q
theorem tgt_plain {g : Tg} {e : Expr} (h : chkT N g sc e = true) (es : List Expr) (env : Env) : assignEach (e :: es) env = (false, assign e env) :: assignEach es env := by
  cases g <;> cases e <;> first | rfl | (simp [chkT] at h)
theorem tgts_plain : ∀ {gs : List Tg} {es : List Expr}, chkTs N gs sc es = true → ∀ env, (assignEach es env).length = gs.length ∧ (assignEach es env).findIdx? (·.1) = none
  | [], [], _, env => ⟨rfl, rfl⟩
  | [], _ :: _, h, _ => by simp [chkTs] at h
  | _ :: _, [], h, _ => by simp [chkTs] at h
  | g :: gs, e :: es, h, env => by
    simp only [chkTs, Bool.and_eq_true] at h
    obtain ⟨h1, h2⟩ := tgts_plain h.2 env
    rw [tgt_plain h.1]
    refine ⟨by simp [h1], ?_⟩
    rw [List.findIdx?_cons]
    simp [h2]
theorem bindTs_len : ∀ {gs : List Tg} {vs : List Vl} {ρ ρ' : Ev}, bindTs gs vs ρ = some ρ' → vs.length = gs.length
  | [], [], _, _, _ => rfl
  | [], _ :: _, _, _, h => by simp [bindTs] at h
  | _ :: _, [], _, _, h => by simp [bindTs] at h
  | g :: gs, v :: vs, ρ, ρ', h => by
    simp only [bindTs] at h
    split at h
    · simp [bindTs_len h]
    · cases h
mutual
theorem g_ok (k : XOk D P d G N sc W X) : ∀ (g : Tg) (e : Expr), chkT N g sc e = true → PG X e (tgT D.K g) ∧ GOk D g (tgT D.K g)
  | .nm i, e, h => by
    cases e <;> simp only [chkT, Bool.and_eq_true, decide_eq_true_eq, Bool.false_eq_true] at h
    rename_i x pos
    obtain ⟨hi, hl⟩ := h
    have hloc : sc.names.lookup x = some .local ∨ sc.names.lookup x = some .cell := by
      split at hl
      · exact .inl (by assumption)
      · exact .inr (by assumption)
      · cases hl
    obtain ⟨l1, l2⟩ := k.loc x hloc
    refine ⟨pg_name (by rw [k.hN]; exact k.nd) (by rw [k.hN]; exact hi) l1 l2, ⟨fun {F μ h H ρ ρ' σ v u Q} c er r hb q => ?_⟩⟩
    simp only [bindT, Option.some.injEq] at hb
    subst hb
    exact q _ (er.set i r) (.one (by simp [tgNs]))
  | .tp gs, e, h => by
    cases e <;> simp only [chkT, Bool.false_eq_true] at h
    rename_i es j pos
    obtain ⟨pg, ok⟩ := gs_ok k gs es h
    obtain ⟨p1, p2⟩ := tgts_plain h X.env
    refine ⟨by have z := pg_tup (pos := pos) (k := j) k.calm pg p1 p2; rw [k.hK] at z; exact z, ⟨fun {F μ h H ρ ρ' σ v u Q} c er r hb q => ?_⟩⟩
    simp only [bindT] at hb
    cases r with
    | tup hf rs =>
      exact ⟨_, _, rfl, .of (c.sub.tup hf), by rw [← rs.length]; exact bindTs_len hb, ok.go c er rs hb fun σ' er' sa => q σ' er' (by simpa [tgNs] using sa)⟩
    | _ => simp at hb
theorem gs_ok (k : XOk D P d G N sc W X) : ∀ (gs : List Tg) (es : List Expr), chkTs N gs sc es = true → PGs X es (tgTs D.K gs) ∧ GsOk D gs (tgTs D.K gs)
  | [], [], _ => ⟨pgs_nil, ⟨fun {F μ h H ρ ρ' σ vs us Q} c er r hb q => by
      cases vs with
      | nil =>
        simp only [bindTs, Option.some.injEq] at hb
        subst hb
        cases r
        exact ⟨rfl, q σ er (.refl _ _)⟩
      | cons v vs => simp [bindTs] at hb⟩⟩
  | [], _ :: _, h => by simp [chkTs] at h
  | _ :: _, [], h => by simp [chkTs] at h
  | g :: gs, e :: es, h => by
    simp only [chkTs, Bool.and_eq_true] at h
    obtain ⟨pg1, ok1⟩ := g_ok k g e h.1
    obtain ⟨pg2, ok2⟩ := gs_ok k gs es h.2
    refine ⟨pgs_cons pg1 pg2 (by rw [tgt_plain h.1]; rfl), ⟨fun {F μ h H ρ ρ' σ vs us Q} c er r hb q => ?_⟩⟩
    cases r with
    | nil => simp [bindTs] at hb
    | cons r1 r2 =>
      simp only [bindTs] at hb
      split at hb
      · rename_i ρ1 h1
        refine ⟨_, _, rfl, ok1.go c er r1 h1 fun σ1 er1 sa1 => ?_⟩
        exact ok2.go c er1 r2 hb fun σ2 er2 sa2 => q σ2 er2 (sa1.trans sa2 (fun i hi => by simp [tgNss, hi]) fun i hi => by simp [tgNss, hi])
      · cases hb
end
end
end IL
end

section
set_option autoImplicit false
set_option linter.all false
set_option Elab.async false
set_option maxRecDepth 100000
set_option maxHeartbeats 4000000
/-! IL: comprehensions. -/
namespace IL
open PySem L2 PyProof.Rows
section
variable {D : Wd} {P : Pg} {d : Nat} {G : Gt} {N : List Str} {sc : Scope} {W : WX} {X : Cx}
/-- an object that is none of ours changes -/
theorem CS.off {F : Hp} {μ : List Addr} {h : Hh} {H : Hp} (c : CS D F μ h H) {a : Addr} {o : HO} (hF : F a = none) (hm : a ∉ μ) (hs : ∀ u, H a = some u → ¬ Sp1 u) : CS D F μ h (upd H a o) := by
  refine ⟨fun b u e => ?_, c.len, c.inj, fun l ob e => ?_, c.tab.keep (fun b u s e => by rw [upd_ne fun z => by subst z; exact hs u e s]; exact e) c.tab.n⟩
  · rw [upd_ne fun z => by rw [z, hF] at e; cases e]; exact c.sub b u e
  · obtain ⟨b, u, e1, e2, e3, e4⟩ := c.ob l ob e
    have : b ≠ a := fun z => hm (z ▸ List.mem_of_getElem? e1)
    exact ⟨b, u, e1, e2, by rw [upd_ne this]; exact e3, e4⟩
theorem Xt.off {F : Hp} {μ : List Addr} {H : Hp} {F' : Hp} {μ' : List Addr} {H' : Hp} (x : Xt F μ H F' μ' H') {a : Addr} {o : HO} (ha : H a = none) (ho : ∀ ps, o ≠ .tbl ps := by intro _ z; cases z) : Xt F μ H F' μ' (upd H' a o) :=
  ⟨x.f, x.m, fun b u e n t => by rw [upd_ne fun z => by rw [z, ha] at e; cases e]; exact x.keep b u e n t, fun b e => nfr0_upd ho b (x.there b e), x.fnew, x.mnew, fun b o' u e => by rw [upd_ne fun z => by rw [z, ha] at e; cases e]; exact x.frz b o' u e⟩
/-- an object that is none of ours stays -/
theorem Xt.stay {F : Hp} {μ : List Addr} {H : Hp} {F' : Hp} {μ' : List Addr} {H' : Hp} {h' : Hh} (x : Xt F μ H F' μ' H') (c : CS D F' μ' h' H') {a : Addr} {xs : List V} (ha : H a = some (.lst xs)) (hF : F a = none) (hm : a ∉ μ) : H' a = some (.lst xs) ∧ F' a = none ∧ a ∉ μ' := by
  have h1 := x.keep a _ ha hm (fun _ z => by cases z)
  refine ⟨h1, ?_, fun z => ?_⟩
  · cases e : F' a with
    | none => rfl
    | some o =>
      rcases x.fnew a o e with q | q | ⟨ys, q⟩
      · rw [hF] at q; cases q
      · obtain ⟨ps, z⟩ := q _ ha
        cases z
      · subst q
        have := c.sub.tup e
        rw [h1] at this; cases this
  · rcases x.mnew a z with q | q
    · exact hm q
    · obtain ⟨ps, z⟩ := q _ ha
      cases z
theorem calm_ok {α : Type} {r : Rs α} {v : α} {h : Hh} (e : r.calm = .ok v h) : r = .ok v h := by
  cases r with
  | ok => exact e
  | exc => cases e
  | bad => cases e
theorem bind_ok {α β : Type} {r : Rs α} {f : α → Hh → Rs β} {v : β} {h : Hh} (e : r.bind f = .ok v h) : ∃ w h1, r = .ok w h1 ∧ f w h1 = .ok v h := by
  cases r with
  | ok w h1 => exact ⟨w, h1, rfl, e⟩
  | exc => cases e
  | bad => cases e
abbrev W0 : WX := fun _ _ _ _ => False
/-- the turn's reading: what is made goes behind the list at L -/
theorem lc_turn {ec : Ev → Hh → Rs (List Vl)} {ee : Ev → Hh → Rs Vl} {g : Tg} {own : List Nat} {tt : TT} (gok : GOk D g (tgT D.K g)) (hown : ∀ i ∈ tgNs g, i ∈ own)
    (htt : ∀ {F : Hp} {μ : List Addr} {ρ : Ev} {h : Hh} {σ : L2.St} {H : Hp} {bs : List Vl} {h' : Hh} {Q : Bool → Hp → Prop}, CS D F μ h H → ER D F μ ρ σ → ec ρ h = .ok bs h' →
      (∀ F' μ' H' b, Xt F μ H F' μ' H' → CS D F' μ' h' H' → (bs = [] ∧ b = true ∨ ∃ r, bs = .bl b :: r) → Q b H') → ((∀ b r, bs = b :: r → ∃ c, b = .bl c)) → tt σ H Q)
    {F : Hp} {μ : List Addr} {h : Hh} {H : Hp} {ρ : Ev} {σ : L2.St} {v : Vl} {x : V} {L : Addr} {acc : List V} {o : Option Vl} {h' : Hh} {Nx : Hp → Prop}
    (c : CS D F μ h H) (er : ER D F μ ρ σ) (r : RV D F μ v x) (hL : H L = some (.lst acc)) (hF : F L = none) (hm : L ∉ μ) (hacc : acc.length < sizeLine)
    (e : lcT (bindT g v (wipeE ρ own)) ec ee h = .ok o h')
    (nx : ∀ F' μ' H' ys zs, Xt F μ H F' μ' H' → CS D F' μ' h' H' → H' L = some (.lst acc) → F' L = none → L ∉ μ' → RVs D F' μ' ys zs → ys = o.toList → ∀ H'', (zs = [] → H'' = H') → (∀ z, zs = [z] → H'' = upd H' L (.lst (acc ++ [z]))) → Nx H'') :
    tgT D.K g x (wipe σ own) H fun σ2 H2 => wipe σ2 own = wipe σ own ∧ tt σ2 H2 fun b H3 => if b = true then tE D W0 ee σ2 H3 (fun y H4 => ∃ acc, H4 L = some (.lst acc) ∧ acc.length < sizeLine ∧ Nx (upd H4 L (.lst (acc ++ [y])))) else Nx H3 := by
  unfold lcT at e
  split at e
  · rename_i ρ1 hb
    refine gok.go c (er.wipe own) r hb fun σ2 er2 sa => ⟨?_, ?_⟩
    · have := sa.wiped hown
      rw [this]
      apply List.ext_getElem?
      intro j
      rw [wipe_get, wipe_get, wipe_length]
      split <;> simp_all
    · obtain ⟨bs, h1, e1, e2⟩ := bind_ok e
      have e1 := calm_ok e1
      have isb : ∀ b r, bs = b :: r → ∃ c, b = .bl c := fun b r hb => by
        subst hb
        dsimp only at e2
        split at e2
        · exact ⟨_, rfl⟩
        · exact ⟨_, rfl⟩
        · cases e2
      refine htt c er2 e1 (fun F' μ' H' b x1 c1 hbs => ?_) isb
      obtain ⟨l1, l2, l3⟩ := x1.stay c1 hL hF hm
      have yes : (ee ρ1 h1).calm.bind (fun y h3 => Rs.ok (some y) h3) = .ok o h' → tE D W0 ee σ2 H' (fun y H4 => ∃ acc, H4 L = some (.lst acc) ∧ acc.length < sizeLine ∧ Nx (upd H4 L (.lst (acc ++ [y])))) := fun e3 => by
        obtain ⟨y, h2, e4, e5⟩ := bind_ok e3
        have e4 := calm_ok e4
        cases e5
        refine ⟨F', μ', ρ1, h1, c1, er2.mono x1.f x1.m, ?_⟩
        rw [e4]
        intro F2 μ2 H2 u x2 c2 r2
        obtain ⟨m1, m2, m3⟩ := x2.stay c2 l1 l2 l3
        exact ⟨acc, m1, hacc, nx F2 μ2 H2 [y] [u] (x1.trans x2) c2 m1 m2 m3 (.cons r2 .nil) rfl _ (by simp) fun z hz => by cases hz; rfl⟩
      rcases hbs with ⟨rfl, rfl⟩ | ⟨r', rfl⟩
      · rw [if_pos rfl]
        exact yes e2
      · cases b with
        | true =>
          rw [if_pos rfl]
          exact yes e2
        | false =>
          rw [if_neg Bool.false_ne_true]
          cases e2
          exact nx F' μ' H' [] [] x1 c1 l1 l2 l3 .nil rfl _ (fun _ => rfl) (by simp)
  · cases e
theorem FSub.ext {F F' H : Hp} (x : FExt F F') (s : FSub F' H) : FSub F H := fun a o e => s a o (x a o e)
/-- the tests of a comprehension, as its reading wants them -/
def TtOk (D : Wd) (ec : Ev → Hh → Rs (List Vl)) (tt : TT) : Prop := ∀ {F : Hp} {μ : List Addr} {ρ : Ev} {h : Hh} {σ : L2.St} {H : Hp} {bs : List Vl} {h' : Hh} {Q : Bool → Hp → Prop}, CS D F μ h H → ER D F μ ρ σ → ec ρ h = .ok bs h' →
      (∀ F' μ' H' b, Xt F μ H F' μ' H' → CS D F' μ' h' H' → (bs = [] ∧ b = true ∨ ∃ r, bs = .bl b :: r) → Q b H') → ((∀ b r, bs = b :: r → ∃ c, b = .bl c)) → tt σ H Q
/-- what is made so far -/
structure Sofar (D : Wd) (F1 : Hp) (μ1 : List Addr) (H1 : Hp) (L : Addr) (i : Nat) (done : List Vl) (h2 : Hh) (H : Hp) : Prop where
  ex : ∃ F2 μ2 us, Xt F1 μ1 H1 F2 μ2 H ∧ CS D F2 μ2 h2 H ∧ H L = some (.lst us) ∧ F2 L = none ∧ L ∉ μ2 ∧ RVs D F2 μ2 done us ∧ us.length ≤ i
theorem sofar0 {F1 : Hp} {μ1 : List Addr} {h1 : Hh} {H1 : Hp} (c : CS D F1 μ1 h1 H1) {L : Addr} (hL : H1 L = none) : Sofar D F1 μ1 H1 L 0 [] h1 (upd H1 L (.lst [])) := by
  have f0 := c.sub.none hL
  have m0 : L ∉ μ1 := fun z => by
    obtain ⟨u, _, e⟩ := c.mem z
    rw [hL] at e; cases e
  exact ⟨F1, μ1, [], (Xt.refl _ _ _).off hL, c.off f0 m0 (fun u e => by rw [hL] at e; cases e), upd_same, f0, m0, .nil, Nat.le_refl _⟩
theorem sofar_end {F1 : Hp} {μ1 : List Addr} {H1 : Hp} {L : Addr} {i : Nat} {done : List Vl} {h2 : Hh} {H : Hp} (hL : H1 L = none) (w : Sofar D F1 μ1 H1 L i done h2 H) (m : Bool) {Q : VK} {E : XK} (p : PostV D F1 μ1 H1 (place m (.ok (.lst done) h2)) Q E) : Q (.ref L) H := by
  obtain ⟨F2, μ2, us, x, c, l1, l2, l3, rs, hi⟩ := w.ex
  cases m with
  | false =>
    have hx : FExt F2 (upd F2 L (.lst us)) := FExt.upd l2
    refine p (upd F2 L (.lst us)) μ2 H (.ref L) ⟨x.f.trans hx, x.m, x.keep, x.there, fun a o e => ?_, x.mnew, x.frz⟩ ⟨fun a o e => ?_, c.len, c.inj, fun l ob e => ?_, c.tab.frz (fun _ z => by cases z)⟩ (.lst upd_same (rs.mono hx (.refl _)))
    · by_cases q : a = L
      · subst q; exact .inr (.inl (fr0_none hL))
      · rw [upd_ne q] at e; exact x.fnew a o e
    · by_cases q : a = L
      · subst q; rw [upd_same] at e; cases e; exact .inl l1
      · rw [upd_ne q] at e; exact c.sub a o e
    · obtain ⟨a, u, e1, e2, e3, e4⟩ := c.ob l ob e
      have q : a ≠ L := fun z => l3 (z ▸ List.mem_of_getElem? e1)
      exact ⟨a, u, e1, by rw [upd_ne q]; exact e2, e3, e4.mono hx (.refl _)⟩
  | true =>
    have p : PostV D F1 μ1 H1 (.ok (.ref h2.length) (h2 ++ [.lst done])) Q E := p
    have hm : MExt μ2 (μ2 ++ [L]) := ⟨[L], rfl⟩
    refine p F2 (μ2 ++ [L]) H (.ref L) ⟨x.f, x.m.trans hm, x.keep, x.there, x.fnew, fun a e => ?_, x.frz⟩ ⟨c.sub, by simp [c.len], ?_, fun l ob e => ?_, c.tab⟩ (.ref (by rw [c.len, List.getElem?_append_right (Nat.le_refl _)]; simp))
    · rcases List.mem_append.mp e with q | q
      · exact x.mnew a q
      · simp at q; subst q; exact .inr (fr0_none hL)
    · rw [List.nodup_append]
      refine ⟨c.inj, by simp, fun a ha b hb => ?_⟩
      simp at hb
      subst hb
      exact fun z => l3 (z ▸ ha)
    · by_cases q : l < h2.length
      · rw [List.getElem?_append_left q] at e
        obtain ⟨a, u, e1, e2, e3, e4⟩ := c.ob l ob e
        exact ⟨a, u, hm.get e1, e2, e3, e4.mono (.refl _) hm⟩
      · have ql : l = h2.length := by
          have := (List.getElem?_eq_some_iff.mp e).1
          simp at this; omega
        subst ql
        rw [List.getElem?_append_right (Nat.le_refl _)] at e
        simp at e
        subst e
        exact ⟨L, .lst us, by rw [c.len, List.getElem?_append_right (Nat.le_refl _)]; simp, l2, l1, .lst (rs.mono (.refl _) hm)⟩
/-- one turn, from what is made so far -/
theorem sofar_turn {ec : Ev → Hh → Rs (List Vl)} {ee : Ev → Hh → Rs Vl} {g : Tg} {own : List Nat} {tt : TT} (gok : GOk D g (tgT D.K g)) (hown : ∀ i ∈ tgNs g, i ∈ own) (htt : TtOk D ec tt)
    {F1 : Hp} {μ1 : List Addr} {H1 : Hp} {ρ : Ev} {σ : L2.St} {L : Addr} (hL : H1 L = none) (er : ER D F1 μ1 ρ σ) {i : Nat} {done : List Vl} {h2 h3 : Hh} {v : Vl} {x : V} {o : Option Vl} {us : List V} {F3 : Hp} {μ2 : List Addr} {H' : Hp}
    (x1 : Xt F1 μ1 H1 F3 μ2 H') (c : CS D F3 μ2 h2 H') (r : RV D F3 μ2 v x) (l1 : H' L = some (.lst us)) (l2 : F3 L = none) (l3 : L ∉ μ2) (rs : RVs D F3 μ2 done us) (hi : us.length ≤ i) (hs : i < 100000)
    (e : lcT (bindT g v (wipeE ρ own)) ec ee h2 = .ok o h3) {Nx : Hp → Prop} (nx : ∀ H'', Sofar D F1 μ1 H1 L (i + 1) (done ++ o.toList) h3 H'' → Nx H'') :
    tgT D.K g x (wipe σ own) H' fun σ2 H2 => wipe σ2 own = wipe σ own ∧ tt σ2 H2 fun b H3 => if b = true then tE D W0 ee σ2 H3 (fun y H4 => ∃ acc, H4 L = some (.lst acc) ∧ acc.length < sizeLine ∧ Nx (upd H4 L (.lst (acc ++ [y])))) else Nx H3 := by
  refine lc_turn gok hown (fun c er e q b => htt c er e q b) c (er.mono x1.f x1.m) r l1 l2 l3 (Nat.lt_of_le_of_lt hi (Nat.lt_of_lt_of_le hs (by decide : 100000 ≤ sizeLine))) e fun F' μ' H2 ys zs x2 c2 m1 m2 m3 rz ey H3 z0 z1 => ?_
  subst ey
  have x12 := x1.trans x2
  cases o with
  | none =>
    cases rz
    rw [z0 rfl]
    exact nx _ ⟨F', μ', us, x12, c2, m1, m2, m3, by simpa using rs.mono x2.f x2.m, Nat.le_succ_of_le hi⟩
  | some y =>
    obtain ⟨z, rfl, rzz⟩ := RVs.one rz
    rw [z1 z rfl]
    exact nx _ ⟨F', μ', us ++ [z], x12.off hL, c2.off m2 m3 (fun u e => by rw [m1] at e; cases e; rintro (⟨_, z⟩ | ⟨_, z⟩) <;> cases z), upd_same, m2, m3, (rs.mono x2.f x2.m).append (.cons rzz .nil), by simp; omega⟩
/-- over frozen items -/
theorem lc_fr {ec : Ev → Hh → Rs (List Vl)} {ee : Ev → Hh → Rs Vl} {g : Tg} {own : List Nat} {tt : TT} (gok : GOk D g (tgT D.K g)) (hown : ∀ i ∈ tgNs g, i ∈ own) (htt : TtOk D ec tt)
    {F1 : Hp} {μ1 : List Addr} {h1 : Hh} {H1 : Hp} {ρ : Ev} {σ : L2.St} (c : CS D F1 μ1 h1 H1) (er : ER D F1 μ1 ρ σ) {J : It} {xs : List Vl} {Y : Hp → Prop} (wk : Wk D J F1 μ1 xs Y) (hY : Y H1) (hlen : xs.length ≤ 100000) {all : List Vl} {hE : Hh}
    (e : lcL (fun v h => lcT (bindT g v (wipeE ρ own)) ec ee h) xs h1 = .ok all hE) {m : Bool} {Q : VK} {E : XK} (p : PostV D F1 μ1 H1 (place m (.ok (.lst all) hE)) Q E) :
    ∀ L, H1 L = none → ∃ Wp : Nat → Nat → Hp → Prop, (∃ m, Wp 0 m (upd H1 L (.lst []))) ∧ ∀ i m H, Wp i m H →
      (J.stop i H ∧ Q (.ref L) H) ∨ (J.go i H ∧ ∃ Nx : Hp → Prop, (∀ H', Nx H' → ∃ m', m' < m ∧ Wp (i + 1) m' H') ∧ ∀ x H', J.yld i H x H' → tgT D.K g x (wipe σ own) H' fun σ2 H2 => wipe σ2 own = wipe σ own ∧ tt σ2 H2 fun b H3 =>
        if b = true then tE D W0 ee σ2 H3 (fun y H4 => ∃ acc, H4 L = some (.lst acc) ∧ acc.length < sizeLine ∧ Nx (upd H4 L (.lst (acc ++ [y])))) else Nx H3) := by
  intro L hL
  let turn : Vl → Hh → Rs (Option Vl) := fun v h => lcT (bindT g v (wipeE ρ own)) ec ee h
  refine ⟨fun i n H => n = xs.length - i ∧ i ≤ xs.length ∧ ∃ done rest h2, Sofar D F1 μ1 H1 L i done h2 H ∧ lcL turn (xs.drop i) h2 = .ok rest hE ∧ done ++ rest = all, ⟨xs.length, rfl, Nat.zero_le _, [], all, h1, sofar0 c hL, e, rfl⟩, ?_⟩
  rintro i n H ⟨rfl, hi, done, rest, h2, w, e2, ea⟩
  obtain ⟨F2, μ2, us, x2, c2, l1, l2, l3, rs, hus⟩ := id w.ex
  have s1 : FSub F1 H := FSub.ext x2.f c2.sub
  have y1 : Y H := wk.stays x2 hY
  by_cases hlt : i < xs.length
  · refine .inr ⟨wk.goes i H hlt s1 y1, fun H' => ∃ done rest h2, Sofar D F1 μ1 H1 L (i + 1) done h2 H' ∧ lcL turn (xs.drop (i + 1)) h2 = .ok rest hE ∧ done ++ rest = all, fun H' z => ⟨xs.length - (i + 1), by omega, rfl, hlt, z⟩, fun x H' hy => ?_⟩
    rw [List.drop_eq_getElem_cons hlt] at e2
    obtain ⟨o, h3, f1, f2⟩ := bind_ok e2
    obtain ⟨r, h4, f3, f4⟩ := bind_ok f2
    obtain ⟨F3, c3, x3, rv⟩ := wk.yields i H x H' xs[i] (List.getElem?_eq_getElem hlt) s1 y1 hy F2 μ2 h2 x2.f x2.m c2
    obtain ⟨n1, n2, n3⟩ := x3.stay c3 l1 l2 l3
    refine sofar_turn gok hown htt hL er (x2.trans x3) c3 rv n1 n2 n3 (rs.mono x3.f x3.m) hus (by omega) f1 fun H'' s => ?_
    refine ⟨_, r, h3, s, ?_⟩
    cases o with
    | none =>
      cases f4
      exact ⟨f3, by simpa using ea⟩
    | some y =>
      cases f4
      exact ⟨f3, by simpa using ea⟩
  · have ei : i = xs.length := by omega
    subst ei
    refine .inl ⟨wk.stops H s1 y1, ?_⟩
    rw [List.drop_length] at e2
    have e2 : (Rs.ok [] h2 : Rs (List Vl)) = .ok rest hE := e2
    cases e2
    rw [List.append_nil] at ea
    subst ea
    exact sofar_end hL w m p
/-- over a list of the local heap -/
theorem lc_ce {ec : Ev → Hh → Rs (List Vl)} {ee : Ev → Hh → Rs Vl} {g : Tg} {own : List Nat} {tt : TT} (gok : GOk D g (tgT D.K g)) (hown : ∀ i ∈ tgNs g, i ∈ own) (htt : TtOk D ec tt)
    {F1 : Hp} {μ1 : List Addr} {h1 : Hh} {H1 : Hp} {ρ : Ev} {σ : L2.St} (c : CS D F1 μ1 h1 H1) (er : ER D F1 μ1 ρ σ) {l n0 : Nat} {a : Addr} (hl : μ1[l]? = some a) (hlen : n0 ≤ 100000) {all : List Vl} {hE : Hh}
    (e : lcC (fun v h => lcT (bindT g v (wipeE ρ own)) ec ee h) l n0 0 h1 = .ok all hE) {m : Bool} {Q : VK} {E : XK} (p : PostV D F1 μ1 H1 (place m (.ok (.lst all) hE)) Q E) :
    ∀ L, H1 L = none → ∃ Wp : Nat → Nat → Hp → Prop, (∃ m, Wp 0 m (upd H1 L (.lst []))) ∧ ∀ i m H, Wp i m H →
      ((Itl D.K a).stop i H ∧ Q (.ref L) H) ∨ ((Itl D.K a).go i H ∧ ∃ Nx : Hp → Prop, (∀ H', Nx H' → ∃ m', m' < m ∧ Wp (i + 1) m' H') ∧ ∀ x H', (Itl D.K a).yld i H x H' → tgT D.K g x (wipe σ own) H' fun σ2 H2 => wipe σ2 own = wipe σ own ∧ tt σ2 H2 fun b H3 =>
        if b = true then tE D W0 ee σ2 H3 (fun y H4 => ∃ acc, H4 L = some (.lst acc) ∧ acc.length < sizeLine ∧ Nx (upd H4 L (.lst (acc ++ [y])))) else Nx H3) := by
  intro L hL
  let turn : Vl → Hh → Rs (Option Vl) := fun v h => lcT (bindT g v (wipeE ρ own)) ec ee h
  refine ⟨fun i n H => n + i = n0 ∧ ∃ done rest h2, Sofar D F1 μ1 H1 L i done h2 H ∧ lcC turn l n i h2 = .ok rest hE ∧ done ++ rest = all, ⟨n0, rfl, [], all, h1, sofar0 c hL, e, rfl⟩, ?_⟩
  rintro i n H ⟨hn, done, rest, h2, w, e2, ea⟩
  obtain ⟨F2, μ2, us, x2, c2, l1, l2, l3, rs, hus⟩ := id w.ex
  have hl2 := x2.m.get hl
  -- the list as it stands
  have cell : ∀ ys, h2[l]? = some (.lst ys) → ∃ zs, SqL D.K H a zs ∧ RVs D F2 μ2 ys zs := fun ys hy => by
    obtain ⟨b, u, e1, e3, e4, e5⟩ := c2.ob l _ hy
    rw [hl2] at e1
    cases e1
    cases e5 with
    | lst q => exact ⟨_, .of e4, q⟩
  have fin : ∀ ys, h2[l]? = some (.lst ys) → ys.length ≤ i → rest = [] → hE = h2 → (Itl D.K a).stop i H ∧ Q (.ref L) H := fun ys hy hle e3 e4 => by
    obtain ⟨zs, sq, q⟩ := cell ys hy
    subst e3 e4
    rw [List.append_nil] at ea
    subst ea
    exact ⟨⟨zs, sq, by rw [← q.length]; exact hle⟩, sofar_end hL w m p⟩
  cases n with
  | zero =>
    simp only [lcC] at e2
    split at e2
    · rename_i ys hy
      split at e2
      · rename_i hle
        cases e2
        exact .inl (fin ys hy hle rfl rfl)
      · cases e2
    · cases e2
  | succ n =>
    simp only [lcC] at e2
    split at e2
    · rename_i ys hy
      split at e2
      · rename_i v hv
        obtain ⟨zs, sq, q⟩ := cell ys hy
        obtain ⟨z, hz, rz⟩ := q.get hv
        refine .inr ⟨⟨zs, z, sq, hz⟩, fun H' => ∃ done rest h2, Sofar D F1 μ1 H1 L (i + 1) done h2 H' ∧ lcC turn l n (i + 1) h2 = .ok rest hE ∧ done ++ rest = all, fun H' q => ⟨n, by omega, by omega, q⟩, fun x H' hyl => ?_⟩
        obtain ⟨rfl, hx⟩ := hyl
        have := hx zs sq
        rw [hz] at this
        cases this
        obtain ⟨o, h3, f1, f2⟩ := bind_ok e2
        obtain ⟨r, h4, f3, f4⟩ := bind_ok f2
        refine sofar_turn gok hown htt hL er x2 c2 rz l1 l2 l3 rs hus (by omega) f1 fun H'' s => ?_
        refine ⟨_, r, h3, s, ?_⟩
        cases o with
        | none =>
          cases f4
          exact ⟨f3, by simpa using ea⟩
        | some y =>
          cases f4
          exact ⟨f3, by simpa using ea⟩
      · rename_i hv
        cases e2
        exact .inl (fin ys hy (List.getElem?_eq_none_iff.mp hv) rfl rfl)
    · cases e2
end
end IL
end

section
set_option autoImplicit false
set_option linter.all false
set_option Elab.async false
set_option maxRecDepth 100000
set_option maxHeartbeats 4000000
/-! IL: comprehensions, put together. -/
namespace IL
open PySem L2 PyProof.Rows
section
variable {D : Wd} {P : Pg} {d : Nat} {G : Gt} {N : List Str} {sc : Scope} {W : WX} {X : Cx}
theorem lcT_no {ρ : Option Ev} {ec : Ev → Hh → Rs (List Vl)} {ee : Ev → Hh → Rs Vl} {h : Hh} (C : Nat) (h' : Hh) : lcT ρ ec ee h ≠ .exc C h' := by
  have a : ∀ (ρ1 : Ev) (h2 : Hh), ((ee ρ1 h2).calm.bind fun y h3 => Rs.ok (some y) h3) ≠ .exc C h' := fun ρ1 h2 => by
    cases ee ρ1 h2 <;> simp [Rs.calm, Rs.bind]
  unfold lcT
  split
  · rename_i ρ1
    cases ec ρ1 h with
    | bad => simp [Rs.calm, Rs.bind]
    | exc => simp [Rs.calm, Rs.bind]
    | ok bs h2 =>
      simp only [Rs.calm, Rs.bind]
      split
      · exact a ρ1 h2
      · split
        · exact a ρ1 h2
        · simp
        · simp
  · simp
theorem lcL_no {turn : Vl → Hh → Rs (Option Vl)} (ht : ∀ v h C h', turn v h ≠ .exc C h') : ∀ (xs : List Vl) (h : Hh) (C : Nat) (h' : Hh), lcL turn xs h ≠ .exc C h'
  | [], h, C, h' => by simp [lcL]
  | x :: xs, h, C, h' => by
    simp only [lcL]
    cases e : turn x h with
    | bad => simp [Rs.bind]
    | exc C2 h2 => exact absurd e (ht _ _ _ _)
    | ok o h1 =>
      simp only [Rs.bind]
      cases e2 : lcL turn xs h1 with
      | bad => simp
      | exc C2 h2 => exact absurd e2 (lcL_no ht xs _ _ _)
      | ok r h2 => cases o <;> simp
theorem lcC_no {turn : Vl → Hh → Rs (Option Vl)} {l : Nat} (ht : ∀ v h C h', turn v h ≠ .exc C h') : ∀ (n i : Nat) (h : Hh) (C : Nat) (h' : Hh), lcC turn l n i h ≠ .exc C h'
  | 0, i, h, C, h' => by
    simp only [lcC]
    split
    · split <;> simp
    · simp
  | n + 1, i, h, C, h' => by
    simp only [lcC]
    split
    · split
      · rename_i v _
        cases e : turn v h with
        | bad => simp [Rs.bind]
        | exc C2 h2 => exact absurd e (ht _ _ _ _)
        | ok o h1 =>
          simp only [Rs.bind]
          cases e2 : lcC turn l n (i + 1) h1 with
          | bad => simp
          | exc C2 h2 => exact absurd e2 (lcC_no ht n _ _ _ _)
          | ok r h2 => cases o <;> simp
      · simp
    · simp
/-- a comprehension's value -/
abbrev lcEv (m : Bool) (own : List Nat) (g : Tg) (k : Ik) (el ec : Ev → Hh → Rs (List Vl)) (ee : Ev → Hh → Rs Vl) : Ev → Hh → Rs Vl := fun ρ h => (el ρ h).bind fun vs h1 =>
  let turn : Vl → Hh → Rs (Option Vl) := fun v h => lcT (bindT g v (wipeE ρ own)) ec ee h
  match walked k vs h1 with
  | .fr xs => if xs.length ≤ 100000 then (lcL turn xs h1).bind fun r h2 => place m (.ok (.lst r) h2) else .bad
  | .cell l n => if n ≤ 100000 then (lcC turn l n 0 h1).bind fun r h2 => place m (.ok (.lst r) h2) else .bad
  | .keys l xs => if xs.length ≤ 100000 then (Rs.unlock l (lcL turn xs (lockH l h1))).bind fun r h2 => place m (.ok (.lst r) h2) else .bad
  | .keysF xs => if xs.length ≤ 100000 then (lcL turn xs h1).bind fun r h2 => place m (.ok (.lst r) h2) else .bad
  | .bad => .bad
/-- the answer stands behind the unlocking -/
theorem unl_frz {F : Hp} {μ : List Addr} {H H1 : Hp} {d : Addr} {od : Obj} {u : HO} {r : Rs Vl} {Q : VK} {E : XK} (hF : F d = some u) (k : Lkd X H H1 d od u) (hr : ∀ C h, r ≠ .exc C h) (p : PostV D F μ H r Q E) : PostV D F μ H1 r (fun v H' => UnlTo X H' (Q v)) E := by
  cases r with
  | bad => exact p
  | exc C h => exact absurd rfl (hr C h)
  | ok v h => exact fun F' μ' H' u' x c rv => .inr ⟨d, od, u, x.frz _ _ _ k.at, k.nof, p F' μ' _ u' (k.xt x) (k.backF hF x c) rv⟩
theorem unl_mut {F : Hp} {μ : List Addr} {H H1 : Hp} {d : Addr} {od : Obj} {u : HO} {l : Nat} {v : Vl} {h h' : Hh} {Q : VK} {E : XK} (hl : μ[l]? = some d) (k : Lkd X H H1 d od u) (e : unlockH l h = some h') (p : PostV D F μ H (.ok v h') Q E) : PostV D F μ H1 (.ok v h) (fun v H' => UnlTo X H' (Q v)) E :=
  fun F' μ' H' u' x c rv => .inr ⟨d, od, u, x.frz _ _ _ k.at, k.nof, p F' μ' _ u' (k.xt x) (k.backM hl x c e) rv⟩
theorem unlock_app {l : Nat} {h h' t : Hh} (e : unlockH l h = some h') : unlockH l (h ++ t) = some (h' ++ t) ∧ h'.length = h.length := by
  unfold unlockH at e
  split at e
  · rename_i t' es he
    cases e
    have hl := (List.getElem?_eq_some_iff.mp he).1
    refine ⟨?_, by simp⟩
    unfold unlockH
    rw [List.getElem?_append_left hl, he]
    dsimp only
    rw [List.set_append_left _ _ hl]
  · cases e
theorem unl_place {F : Hp} {μ : List Addr} {H H1 : Hp} {d : Addr} {od : Obj} {u : HO} {l : Nat} {m : Bool} {all : List Vl} {h h' : Hh} {Q : VK} {E : XK} (hl : μ[l]? = some d) (k : Lkd X H H1 d od u) (e : unlockH l h = some h') (p : PostV D F μ H (place m (.ok (.lst all) h')) Q E) : PostV D F μ H1 (place m (.ok (.lst all) h)) (fun v H' => UnlTo X H' (Q v)) E := by
  cases m with
  | false => exact unl_mut hl k e p
  | true =>
    obtain ⟨e1, e2⟩ := unlock_app (t := [.lst all]) e
    have p : PostV D F μ H (.ok (.ref h'.length) (h' ++ [.lst all])) Q E := p
    rw [e2] at p
    exact unl_mut hl k e1 p
theorem place_no {m : Bool} {xs : List Vl} {h : Hh} : ∀ C h', place m (.ok (.lst xs) h) ≠ .exc C h' := fun C h' => by cases m <;> simp [place, Rs.bind]
theorem post_at {F : Hp} {μ : List Addr} {H : Hp} {r : Rs Vl} {Q : VK} {E : XK} (p : PostV D F μ H r Q E) : PostV D F μ H r (fun v H' => UnlTo X H' (Q v)) E := p.mono fun _ _ q => .inl q
theorem walked_keys {k : Ik} {vs : List Vl} {h : Hh} {l : Nat} {xs : List Vl} (e : walked k vs h = .keys l xs) : ∃ t es, h[l]? = some (.dct false t es) := by
  unfold walked at e
  split at e
  · cases e
  · split at e
    · split at e
      · unfold wSeq at e
        split at e <;> try (cases e; done)
        · split at e <;> try (cases e; done)
          · split at e
            · rename_i hx _
              cases e
              exact ⟨_, _, hx⟩
            · cases e
        · split at e <;> cases e
      · unfold wRng at e
        split at e
        · split at e <;> cases e
        · cases e
      · unfold wEnum at e
        split at e <;> cases e
      · cases e
    · split at e
      · split at e
        · unfold wRng2 at e
          split at e
          · split at e <;> cases e
          · cases e
        · unfold wZip at e
          split at e <;> cases e
        · cases e
      · cases e
theorem lc_reads {m : Bool} {own : List Nat} {g : Tg} {k : Ik} {el ec : Ev → Hh → Rs (List Vl)} {ee : Ev → Hh → Rs Vl} {tt : TT} (gok : GOk D g (tgT D.K g)) (hown : ∀ i ∈ tgNs g, i ∈ own) (htt : TtOk D ec tt) :
    ∀ σ H Q, tE D W (lcEv m own g k el ec ee) σ H Q → tUnlE X (tLc (tW D W X k el) (tgT D.K g) tt (tE D W0 ee) own) σ H Q := by
  intro σ H Q q
  obtain ⟨F, μ, ρ, h, c, er, p⟩ := q
  refine ⟨F, μ, ρ, h, c, er, ?_⟩
  unfold lcEv at p
  cases e : el ρ h with
  | bad => rw [e] at p; exact p
  | exc C h1 => rw [e] at p; exact p
  | ok vs h1 =>
    rw [e] at p
    intro F1 μ1 H1 us x c1 rs
    refine ⟨F1, μ1, h1, vs, x, c1, rs, rfl, ?_⟩
    have p := Post.from x p
    unfold WR
    have no := fun v h C h' => @lcT_no (bindT g v (wipeE ρ own)) ec ee h C h'
    simp only [Rs.bind] at p
    split at p
    · rename_i xs ew
      split at p
      · rename_i hlen
        try rw [ew]
        intro J Y wk hY
        cases el2 : lcL (fun v h => lcT (bindT g v (wipeE ρ own)) ec ee h) xs h1 with
        | bad => rw [el2] at p; exact p.elim
        | exc C h2 => exact absurd el2 (lcL_no no xs h1 C h2)
        | ok all hE =>
          rw [el2] at p
          exact lc_fr gok hown htt c1 (er.mono x.f x.m) wk hY hlen el2 (post_at p)
      · exact p.elim
    · rename_i l n ew
      split at p
      · rename_i hlen
        try rw [ew]
        intro a ha
        cases el2 : lcC (fun v h => lcT (bindT g v (wipeE ρ own)) ec ee h) l n 0 h1 with
        | bad => rw [el2] at p; exact p.elim
        | exc C h2 => exact absurd el2 (lcC_no no n 0 h1 C h2)
        | ok all hE =>
          rw [el2] at p
          exact lc_ce gok hown htt c1 (er.mono x.f x.m) ha hlen el2 (post_at p)
      · exact p.elim
    · rename_i l xs ew
      split at p
      · rename_i hlen
        try rw [ew]
        intro J Y d od u H2 hl lk wk hY
        cases el2 : lcL (fun v h => lcT (bindT g v (wipeE ρ own)) ec ee h) xs (lockH l h1) with
        | bad => rw [el2] at p; exact p.elim
        | exc C h2 => exact absurd el2 (lcL_no no xs _ C h2)
        | ok all hE =>
          rw [el2] at p
          cases hu : unlockH l hE with
          | none =>
            simp only [Rs.unlock, hu] at p
            exact p.elim
          | some hE' =>
          simp only [Rs.unlock, hu] at p
          have cl : CS D F1 μ1 (lockH l h1) H2 := by
            cases eh : h1[l]? with
            | none =>
              exfalso
              have := c1.len
              have q := (List.getElem?_eq_some_iff.mp hl).1
              rw [List.getElem?_eq_none_iff] at eh
              omega
            | some o =>
              obtain ⟨t', es', e3⟩ := walked_keys ew
              exact lk.csM hl e3 c1
          exact lc_fr gok hown htt cl (er.mono x.f x.m) wk hY hlen el2 (unl_place hl lk hu p)
      · exact p.elim
    · rename_i xs ew
      split at p
      · rename_i hlen
        try rw [ew]
        intro J Y H2 hH wk hY
        cases el2 : lcL (fun v h => lcT (bindT g v (wipeE ρ own)) ec ee h) xs h1 with
        | bad => rw [el2] at p; exact p.elim
        | exc C h2 => exact absurd el2 (lcL_no no xs h1 C h2)
        | ok all hE =>
          rw [el2] at p
          rcases hH with rfl | ⟨d, od, u, hF, lk⟩
          · exact lc_fr gok hown htt c1 (er.mono x.f x.m) wk hY hlen el2 (post_at p)
          · exact lc_fr gok hown htt (lk.csF hF c1) (er.mono x.f x.m) wk hY hlen el2 (unl_frz hF lk place_no p)
      · exact p.elim
    · exact p.elim
theorem tt_nil : TtOk D (fun _ h => .ok [] h) tYes := fun c er e q _ => by
  cases e
  exact q _ _ _ true (.refl _ _ _) c (.inl ⟨rfl, rfl⟩)
theorem tt_one {ea : Ev → Hh → Rs Vl} : TtOk D (one ea) (tT D W0 ea) := fun {F μ ρ h σ H bs h' Q} c er e q isb => by
  refine ⟨F, μ, ρ, h, c, er, ?_⟩
  rw [one_eq] at e
  obtain ⟨v, h1, e1, e2⟩ := bind_ok e
  cases e2
  obtain ⟨b, rfl⟩ := isb v [] rfl
  rw [e1]
  intro F' μ' H' u x c' eb
  cases eb
  exact q F' μ' H' b x c' (.inr ⟨[], rfl⟩)
theorem own_map (N : List Str) (own : List Nat) : (ownP N own).map (·.2) = own := by
  unfold ownP
  rw [List.map_map]
  simp [Function.comp_def]
theorem blk_ok (k : XOk D P d G N sc W X) {scope : Scope} {own : List (Str × Nat)} (h : (blkC N sc scope own && !(G.lams.any fun z => decide (z = scope))) = true) : BlkOk X.N X.env.scope scope own := by
  rw [Bool.and_eq_true] at h
  have b := blkOk_by h.1
  rw [k.hN]
  exact ⟨b.kind, b.uniq, b.ix, fun y hy e => (b.free y hy e).elim (fun z => k.free _ _ z (.inl rfl)) fun z => k.free _ _ z (.inr rfl), b.own⟩
theorem nl_of {L : List Scope} {scope : Scope} {b : Bool} (h : (b && !(L.any fun z => decide (z = scope))) = true) : scope ∉ L := fun q => by
  simp only [Bool.and_eq_true, Bool.not_eq_true', List.any_eq_false, decide_eq_true_eq] at h
  exact h.2 _ q rfl
/-- the parts of a comprehension -/
structure LOk (D : Wd) (P : Pg) (d : Nat) (G : Gt) (N : List Str) (W : WX) (X : Cx) (g : Tg) (own : List Nat) (k : Ik) (el ec : Ev → Hh → Rs (List Vl)) (ee : Ev → Hh → Rs Vl) (tg iter : Expr) (ifs : List Expr) (elt : Expr) (scope : Scope) (tt : TT) : Prop where
  pi : PI X tg iter (tW D W X k el)
  blk : BlkOk X.N X.env.scope scope (ownP N own)
  tgt : chkT N g scope tg = true
  hown : ∀ i ∈ tgNs g, i ∈ own
  htt : TtOk D ec tt
  pt : ∀ X', XOk D P d G N scope W0 X' → PTs X' ifs tt
  pe : ∀ X', XOk D P d G N scope W0 X' → PE X' elt (tE D W0 ee)
  hs : ∀ x, foldedSetIterable iter X.env x = pure x
  nl : scope ∉ G.lams
variable {m : Bool} {own : List Nat} {g : Tg} {kk : Ik} {el ec : Ev → Hh → Rs (List Vl)} {ee : Ev → Hh → Rs Vl} {tt : TT} {tg iter elt : Expr} {ifs : List Expr} {scope : Scope} {pos spos py : Pos}
theorem e_lc (k : XOk D P d G N sc W X) (o : LOk D P d G N W X g own kk el ec ee tg iter ifs elt scope tt) : PE X (.ListComp elt [⟨tg, iter, ifs, 0⟩] scope pos) (tE D W (lcEv m own g kk el ec ee)) := by
  have bk : ∀ s H C cl fp, XOk D P d G N scope W0 (X.blk s H scope (compEnvC scope cl C X.env) fp) := fun s H C cl fp => k.blk s H scope o.blk.kind o.nl C cl fp
  have z := pe_lc (pos := pos) k.calm (by rw [k.hN]; exact k.nd) o.pi o.blk (fun s H C cl fp => (g_ok (bk s H C cl fp) g tg o.tgt).1) (fun s H C cl fp => o.pt _ (bk s H C cl fp)) (fun s H C cl fp => o.pe _ (bk s H C cl fp)) o.hs
  rw [own_map] at z
  exact (pe_unl z).imp (lc_reads (g_ok (bk X.s_0 X.H_0 0 [] []) g tg o.tgt).2 o.hown o.htt)
end
end IL
end

section
set_option autoImplicit false
set_option linter.all false
set_option Elab.async false
set_option maxRecDepth 100000
set_option maxHeartbeats 8000000
/-! IL: sets of tuples of whole numbers and None. -/
namespace IL
theorem lt_len {α : Type} {xs : List α} {i : Nat} {x : α} (h : xs[i]? = some x) : i < xs.length := (List.getElem?_eq_some_iff.mp h).1
namespace SX
open PySem PySem.Spec PyProof.Rows L2
abbrev Ky := Option (List Int)
/-- the value v stands for the key -/
def Is (P : Program) (w : World) (h : Heap) : Ky → Value → Prop
  | none, v => v = .none
  | some k, v => ∃ b, v = .ref b ∧ IsT P w h k b
def hsh (P : Program) (w : World) : Ky → Int
  | none => reduceHash 0xFCA86420
  | some k => thash P w k
section
variable {P : Program} {w : World} {A : Around} {E : Value → Shared → Prop} {s : Shared}
theorem Is.keep {h h' : Heap} {k : Ky} {v : Value} (x : Is P w h k v) (g : ∀ c o, h.get? c = some o → h'.get? c = some o) : Is P w h' k v := by
  cases k with
  | none => exact x
  | some k => obtain ⟨b, e, t⟩ := x; exact ⟨b, e, isT_keep t g⟩
/-- the set's own object is none of its items -/
theorem Is.same {h h' : Heap} {k : Ky} {v : Value} {a : Addr} {o : Obj} {es : Array (Int × Value)} {n : Nat} {t : SetTable} (x : Is P w h k v) (ho : h.get? a = some o) (hd : o.data = .set es n t) (sb : Heap.SameBut a h h') : Is P w h' k v := by
  cases k with
  | none => exact x
  | some k => obtain ⟨b, e, t⟩ := x; exact ⟨b, e, isT_same t ho hd sb⟩
theorem tup_is {h : Heap} {k : List Int} {b : Addr} (t : IsT P w h k b) : ∃ its, h.IsTuple b its := by
  obtain ⟨o, its, n, ho, hc, hd, _⟩ := t
  exact ⟨its, o, ho, hc, n, hd⟩
theorem eq_is {x y : Ky} {u v : Value} {Q : Bool → Shared → Prop} (hu : A.units < cLine) (hx : Is P w s.heap x u) (hy : Is P w s.heap y v) (q : Q (decide (x = y)) s) : wpAny (model P w) A (eqBool u v) Q E s := by
  cases x with
  | none =>
    have e : u = .none := hx
    subst e
    cases y with
    | none =>
      have e : v = .none := hy
      subst e
      exact SeqAt.EqAt.same _ _ _ _ _ q
    | some l =>
      obtain ⟨b, rfl, t⟩ := hy
      obtain ⟨its, hb⟩ := tup_is t
      exact SeqAt.EqAt.none_tuple hb hu _ _ _ _ q
  | some k =>
    obtain ⟨a, rfl, t⟩ := hx
    cases y with
    | none =>
      have e : v = .none := hy
      subst e
      obtain ⟨its, hb⟩ := tup_is t
      exact SeqAt.EqAt.tuple_none hb hu _ _ _ _ q
    | some l =>
      obtain ⟨b, rfl, t'⟩ := hy
      have e : (decide ((some k : Ky) = some l)) = decide (k = l) := by
        by_cases c : k = l <;> simp [c]
      rw [e] at q
      exact wpAny_eqBool_tuple hu t t' q
theorem by_is {k : Ky} {v : Value} {Q : Bool → Shared → Prop} (x : Is P w s.heap k v) (q : Q true s) : wpAny (model P w) A (hashByValue 8 v) Q E s := by
  cases k with
  | none =>
    have e : v = .none := x
    subst e
    exact wpAny_pure q
  | some k =>
    obtain ⟨b, rfl, t⟩ := x
    exact hashBy_tup t q
theorem same_is {k : Ky} {v : Value} {Q : Bool → Shared → Prop} (x : Is P w s.heap k v) (q : Q true s) : wpAny (model P w) A (isSame v v) Q E s := by
  cases k with
  | none =>
    have e : v = .none := x
    subst e
    exact wpAny_isSame_plain rfl q
  | some k =>
    obtain ⟨b, rfl, t⟩ := x
    exact wpAny_isSame_ref_self q
theorem hash_is {k : Ky} {v : Value} {Q : Int → Shared → Prop} (hu : A.units < cLine) (x : Is P w s.heap k v) (q : ∀ n, Q (hsh P w k) { s with toks := s.toks + n }) : wpAny (model P w) A (pyHash v) Q E s := by
  cases k with
  | none =>
    have e : v = .none := x
    subst e
    exact (noneKind P w).pyHash (k := none) rfl (q 1)
  | some k =>
    obtain ⟨b, rfl, t⟩ := x
    exact wpAny_pyHash_tuple hu t (q _)
theorem quiet_is {k : Ky} {v : Value} {Q : Bool → Shared → Prop} (x : Is P w s.heap k v) (q : Q true s) : wpAny (model P w) A (eqIsQuiet 8 v) Q E s := by
  cases k with
  | none =>
    have e : v = .none := x
    subst e
    exact wpAny_pure q
  | some k =>
    obtain ⟨b, rfl, t⟩ := x
    exact wpAny_eqIsQuiet_tuple t q
theorem cls_is {k : Ky} {v : Value} {Q : Bool → Shared → Prop} (x : Is P w s.heap k v) (q : Q false s) : wpAny (model P w) A (ofAClassStatement 8 v) Q E s := by
  cases k with
  | none =>
    have e : v = .none := x
    subst e
    exact wpAny_pure q
  | some k =>
    obtain ⟨b, rfl, t⟩ := x
    exact ofAClass_tup t q
theorem seen_is {k : Ky} {v : Value} {Q : Bool → Shared → Prop} (x : Is P w s.heap k v) {ys : List Value} (hy : ∀ y ∈ ys, ∃ l, Is P w s.heap l y) (q : Q false s) : wpAny (model P w) A (searchCouldBeSeen v ys) Q E s := by
  unfold searchCouldBeSeen
  refine wpAny_bind ?_
  refine wpAny_forIn_list _ (fun left r s' => r.1 = none ∧ s' = s ∧ ∀ y ∈ left, ∃ l, Is P w s.heap l y) _ ?_ ?_ _ _ ⟨rfl, rfl, hy⟩
  · rintro y left r s' ⟨hr, rfl, all⟩
    obtain ⟨l, hl⟩ := all y List.mem_cons_self
    have more : ∀ y ∈ left, ∃ l, Is P w s'.heap l y := fun z hz => all z (List.mem_cons_of_mem _ hz)
    dsimp only
    refine wpAny_ite_split (fun _ => wpAny_pure ⟨rfl, rfl, more⟩) fun _ => ?_
    refine wpAny_bind (quiet_is x ?_)
    simp only [Bool.not_true, Bool.false_eq_true, if_false]
    refine wpAny_bind (quiet_is hl ?_)
    simp only [Bool.not_true, Bool.false_eq_true, if_false]
    refine wpAny_bind (cls_is x ?_)
    simp only [Bool.false_eq_true, if_false]
    refine wpAny_bind (cls_is hl ?_)
    simp only [Bool.false_eq_true, if_false]
    exact wpAny_pure ⟨rfl, rfl, more⟩
  · rintro ⟨r1, r2⟩ s' ⟨hr, rfl, _⟩
    simp only at hr
    subst hr
    exact wpAny_pure q
end
end SX
end IL
end

section
set_option autoImplicit false
set_option linter.all false
set_option Elab.async false
set_option maxRecDepth 100000
set_option maxHeartbeats 8000000
/-! IL: such a set's table; the search in it. -/
namespace IL
namespace SX
open PySem PySem.Spec PyProof.Rows L2
/-- an item: a value and its key -/
abbrev It2 := Value × Ky
def ent (P : Program) (w : World) (p : It2) : Int × Value := (hsh P w p.2, p.1)
structure SR (P : Program) (w : World) (h : Heap) (a : Addr) (L : List It2) (es : Array (Int × Value)) (n : Nat) (t : SetTable) : Prop where
  ob : ∃ o, h.get? a = some o ∧ o.ExactSet ∧ o.data = .set es n t
  rows : es.toList = L.map (ent P w)
  tab : TabOk t (L.map fun p => hsh P w p.2)
  nd : (L.map (·.2)).Nodup
  is : ∀ p ∈ L, Is P w h p.2 p.1
  plain : t.plain = true
  led : w.params.followText "set-order" = true ∨ t.led = true
  room : L.length * 5 < t.mask * 3
  few : L.length < 64
section
variable {P : Program} {w : World} {A : Around} {E : Value → Shared → Prop} {s : Shared} {a : Addr} {L : List It2} {es : Array (Int × Value)} {n : Nat} {t : SetTable}
theorem size_rows {L : List It2} {es : Array (Int × Value)} (r : es.toList = L.map (ent P w)) : es.size = L.length := by
  have := congrArg List.length r
  simpa using this
theorem SR.size (R : SR P w s.heap a L es n t) : es.size = L.length := size_rows R.rows
theorem SR.psz (R : SR P w s.heap a L es n t) : t.place.size = L.length := by
  have := R.tab.sz
  rwa [List.length_map] at this
theorem SR.fits (R : SR P w s.heap a L es n t) : t.fits es.size = true := by
  have h1 := R.psz
  have h2 := R.size
  have h3 := R.room
  unfold SetTable.fits SetTable.fill
  rw [R.tab.dm]
  simp only [Bool.and_eq_true, beq_iff_eq, decide_eq_true_eq]
  refine ⟨by omega, ?_⟩
  show t.place.size + 0 ≤ t.mask
  omega
theorem SR.at_ (R : SR P w s.heap a L es n t) {i : Nat} {p : It2} (h : L[i]? = some p) : es[i]? = some (ent P w p) := by
  rw [← Array.getElem?_toList, R.rows, List.getElem?_map, h]
  rfl
theorem SR.keeps {h h' : Heap} (R : SR P w h a L es n t) (ha : ∀ o, h.get? a = some o → h'.get? a = some o) (g : ∀ p ∈ L, Is P w h' p.2 p.1) : SR P w h' a L es n t := by
  obtain ⟨o, ho, r⟩ := R.ob
  exact { R with ob := ⟨o, ha o ho, r⟩, is := g }
/-- the way of a hash -/
abbrev wy (t : SetTable) (h : Int) (c : Nat) : SetTable.Probe := nth t.mask (runAt t.mask (SetTable.bits h % (t.mask + 1)) (SetTable.bits h)) c
theorem nodummy (m : Nat) : ∀ (c : Nat) (p : SetTable.Probe), p.dummy = none → (nth m p c).dummy = none
  | 0, p, h => h
  | c + 1, p, h => nodummy m c (adv m p) (by unfold adv; split <;> exact h)
/-- from the c-th place of the way on -/
theorem srch (R : SR P w s.heap a L es n t) {v : Value} {k : Ky} (x : Is P w s.heap k v) (hu : A.units < cLine) {K : Nat} (lim : K < 10 * SetTable.turns t.mask)
    (off : way t.mask (hsh P w k) K ∉ t.place.toList) (on : ∀ c, c < K → way t.mask (hsh P w k) c ∈ t.place.toList) {Q : SetFound → Shared → Prop}
    (yes : k ∈ L.map (·.2) → Q (.there none) s) (no : k ∉ L.map (·.2) → Q (.free (way t.mask (hsh P w k) K) false) s) :
    ∀ (f c : Nat) (from_ : Option SetTable.Probe), from_.getD (t.probeStart (hsh P w k)) = wy t (hsh P w k) c → c ≤ K → K - c < f →
      (∀ (i : Nat) p, L[i]? = some p → p.2 = k → ∃ c', c ≤ c' ∧ c' < K ∧ t.place.toList[i]? = some (way t.mask (hsh P w k) c')) →
      wpAny (model P w) A (setSearchFrom a v (hsh P w k) true f from_) Q E s := by
  intro f
  induction f with
  | zero => intro c from_ _ _ hf _; exact absurd hf (Nat.not_lt_zero _)
  | succ f ih =>
    intro c from_ start hc hf hre
    obtain ⟨o, ho, hex, hd⟩ := R.ob
    rw [setSearchFrom_succ]
    refine wpAny_bind (wpAny_setState_of ho hd R.fits ?_)
    have gw : t.gaveWay = false := by
      unfold SetTable.gaveWay
      rw [mask_odd R.tab.mok]
      rfl
    simp only [gw, Bool.false_eq_true, if_false]
    try refine wpAny_bind (wpAny_pure ?_)
    have shift : ∀ q, nth t.mask (wy t (hsh P w k) c) q = wy t (hsh P w k) (c + q) := fun q => (nth_add t.mask c _ q).symm
    have jay : ∀ q, (nth t.mask (wy t (hsh P w k) c) q).j = way t.mask (hsh P w k) (c + q) := fun q => congrArg SetTable.Probe.j (shift q)
    have at_ : ∀ (i : Nat) p, L[i]? = some p → (es[i]?.map (·.1)).getD 0 = hsh P w p.2 := fun i p hp => by rw [R.at_ hp]; rfl
    rw [start]
    rcases go_spec t R.tab.ris R.tab.dm (fun i => (es[i]?.map (·.1)).getD 0) (hsh P w k) (10 * SetTable.turns t.mask) (K - c) (wy t (hsh P w k) c) (nodummy _ _ _ rfl) (by omega)
      (fun q hq => by rw [jay]; exact on (c + q) (by omega)) (by rw [jay, show c + (K - c) = K by omega]; exact off) with ⟨q, i, hq, hi, hh, hno, met⟩ | ⟨hno, met⟩
    · have met' : t.probe (fun i => (es[i]?.map (·.1)).getD 0) (hsh P w k) (wy t (hsh P w k) c) = some (.candidate (way t.mask (hsh P w k) (c + q)) i (wy t (hsh P w k) (c + (q + 1)))) := by
        rw [← jay, ← shift]; exact met
      rw [met']
      dsimp only
      rw [jay] at hi
      have il : i < L.length := by
        have h1 := lt_len hi
        rw [Array.length_toList, R.psz] at h1
        exact h1
      obtain ⟨p, hp⟩ : ∃ p, L[i]? = some p := ⟨L[i], List.getElem?_eq_getElem il⟩
      have pm : p ∈ L := List.mem_of_getElem? hp
      have rest : wpAny (model P w) A (searchRest a v (hsh P w k) true f es t (way t.mask (hsh P w k) (c + q)) i (wy t (hsh P w k) (c + (q + 1)))) Q E s := by
        unfold searchRest
        rw [R.at_ hp]
        dsimp only [ent]
        refine wpAny_bind (wpAny_holding (eq_is hu (R.is p pm) x ?_))
        refine wpAny_bind (wpAny_setState_of ho hd R.fits ?_)
        by_cases same : p.2 = k
        · simp only [same, decide_true, Bool.true_and, if_true]
          exact wpAny_pure (yes (List.mem_map.mpr ⟨p, pm, same⟩))
        · simp only [same, decide_false, Bool.and_false, Bool.false_eq_true, if_false]
          try refine wpAny_bind (wpAny_pure ?_)
          rw [sameMem]
          have live : t.slot (way t.mask (hsh P w k) (c + q)) = .live i := slot_live R.tab.ris hi
          simp only [if_true, live, R.at_ hp]
          dsimp only [ent]
          refine wpAny_bind (same_is (R.is p pm) (wpAny_bind (wpAny_pure ?_)))
          simp only [if_true]
          refine ih (c + (q + 1)) _ rfl (by omega) (by omega) fun i0 p0 h0 k0 => ?_
          obtain ⟨c', a1, a2, a3⟩ := hre i0 p0 h0 k0
          refine ⟨c', Nat.lt_of_not_le fun le => ?_, a2, a3⟩
          have le : c' ≤ c + q := le
          by_cases ec : c' = c + q
          · rw [ec] at a3
            have z := slot_live R.tab.ris a3
            rw [live] at z
            cases z
            rw [hp] at h0
            cases h0
            exact same k0
          · exact hno (c' - c) i0 (by omega) (by rw [jay, show c + (c' - c) = c' by omega]; exact a3) ((at_ i0 p0 h0).trans (by rw [k0]))
      by_cases hl : t.led = true
      · simp only [hl, Bool.not_true, Bool.false_eq_true, if_false]
        try refine wpAny_bind (wpAny_pure ?_)
        exact rest
      · simp only [hl, Bool.not_false, if_true]
        refine wpAny_bind (seen_is x (fun y hy => ?_) ?_)
        · obtain ⟨e, he, rfl⟩ := List.mem_map.mp hy
          have he1 : e ∈ es.toList := by
            have z : e ∈ es ∧ e.1 = hsh P w k := by simpa using he
            simpa using z.1
          rw [R.rows] at he1
          obtain ⟨p2, hp2, rfl⟩ := List.mem_map.mp he1
          exact ⟨p2.2, R.is p2 hp2⟩
        · simp only [Bool.false_eq_true, if_false]
          try refine wpAny_bind (wpAny_pure ?_)
          exact rest
    · have met' : t.probe (fun i => (es[i]?.map (·.1)).getD 0) (hsh P w k) (wy t (hsh P w k) c) = some (.empty (way t.mask (hsh P w k) K) none) := by
        have z : way t.mask (hsh P w k) K = (nth t.mask (wy t (hsh P w k) c) (K - c)).j := by rw [jay, show c + (K - c) = K by omega]
        rw [z]
        exact met
      rw [met']
      dsimp only
      refine wpAny_pure (no fun hm => ?_)
      obtain ⟨p0, m0, k0⟩ := List.mem_map.mp hm
      obtain ⟨i0, h0⟩ := List.getElem?_of_mem m0
      obtain ⟨c', a1, a2, a3⟩ := hre i0 p0 h0 k0
      exact hno (c' - c) i0 (by omega) (by rw [jay, show c + (c' - c) = c' by omega]; exact a3) ((at_ i0 p0 h0).trans (by rw [k0]))
theorem srch0 (R : SR P w s.heap a L es n t) {v : Value} {k : Ky} (x : Is P w s.heap k v) (hu : A.units < cLine) {Q : SetFound → Shared → Prop} (yes : k ∈ L.map (·.2) → Q (.there none) s)
    (no : ∀ K, k ∉ L.map (·.2) → way t.mask (hsh P w k) K ∉ t.place.toList → (∀ c, c < K → way t.mask (hsh P w k) c ∈ t.place.toList) → Q (.free (way t.mask (hsh P w k) K) false) s) :
    wpAny (model P w) A (setSearch a v (hsh P w k) true) Q E s := by
  have room := R.room
  obtain ⟨K, lim, off, on⟩ := R.tab.first (by rw [List.length_map]; omega) (hsh P w k)
  have small : 10 * SetTable.turns t.mask ≤ 1420 := by
    unfold SetTable.turns
    rcases R.tab.mok with e | e | e <;> omega
  unfold setSearch
  refine srch R x hu lim off on yes (fun h => no K h off on) 100000 0 none rfl (Nat.zero_le _) (by omega) fun i p hp hk => ?_
  have hi : (L.map fun p => hsh P w p.2)[i]? = some (hsh P w k) := by rw [List.getElem?_map, hp, ← hk]; rfl
  have il : i < t.place.toList.length := by
    have := lt_len hp
    rw [Array.length_toList, R.psz]
    exact this
  have hj := List.getElem?_eq_getElem il
  obtain ⟨c, hc, e⟩ := R.tab.before off hi hj
  exact ⟨c, Nat.zero_le _, hc, by rw [hj, e]⟩
end
end SX
end IL
end

section
set_option autoImplicit false
set_option linter.all false
set_option Elab.async false
set_option maxRecDepth 100000
set_option maxHeartbeats 8000000
/-! IL: adding to such a set. -/
namespace IL
namespace SX
open PySem PySem.Spec PyProof.Rows L2
section
variable {P : Program} {w : World} {A : Around} {E : Value → Shared → Prop} {s : Shared} {a : Addr} {L : List It2} {es : Array (Int × Value)} {n : Nat} {t : SetTable}
theorem perm_in {α : Type} (L : List α) (p : Nat) (x : α) : (L.take p ++ x :: L.drop p).Perm (x :: L) := put_perm L p x
/-- the rows in another order -/
theorem reorder (r : es.toList = L.map (ent P w)) {order : Array Nat} (hp : order.toList.Perm (List.range L.length)) :
    ∃ L2 : List It2, (order.filterMap (es[·]?)).toList = L2.map (ent P w) ∧ L2.Perm L ∧ (L2.map fun p => hsh P w p.2) = order.toList.map fun i => (es.map (·.1)).getD i 0 := by
  have sz := size_rows r
  have each : ∀ i, i < L.length → ∃ p, L[i]? = some p ∧ es[i]? = some (ent P w p) := fun i hi => by
    refine ⟨L[i], List.getElem?_eq_getElem hi, ?_⟩
    rw [← Array.getElem?_toList, r, List.getElem?_map, List.getElem?_eq_getElem hi]
    rfl
  have go : ∀ l : List Nat, (∀ i ∈ l, i < L.length) → ∃ L2 : List It2, l.filterMap (fun i => es[i]?) = L2.map (ent P w) ∧ L2 = l.filterMap (fun i => L[i]?) ∧ (L2.map fun p => hsh P w p.2) = l.map fun i => (es.map (·.1)).getD i 0 := by
    intro l
    induction l with
    | nil => intro _; exact ⟨[], rfl, rfl, rfl⟩
    | cons i l ih =>
      intro hl
      obtain ⟨p, e1, e2⟩ := each i (hl i List.mem_cons_self)
      obtain ⟨L2, g1, g2, g3⟩ := ih fun j hj => hl j (List.mem_cons_of_mem _ hj)
      refine ⟨p :: L2, by rw [List.filterMap_cons_some e2, g1]; rfl, by rw [List.filterMap_cons_some e1, g2], ?_⟩
      have e3 : (es.map (·.1)).getD i 0 = hsh P w p.2 := by
        have z : (es.map (·.1))[i]? = some (hsh P w p.2) := by rw [Array.getElem?_map, e2]; rfl
        simp [Array.getD_eq_getD_getElem?, z]
      rw [List.map_cons, List.map_cons, g3, e3]
  obtain ⟨L2, g1, g2, g3⟩ := go order.toList fun i hi => List.mem_range.mp (hp.mem_iff.mp hi)
  refine ⟨L2, by simpa using g1, ?_, g3⟩
  have h1 : L2.Perm ((List.range L.length).filterMap fun i => L[i]?) := by rw [g2]; exact hp.filterMap _
  have h2 : (List.range L.length).filterMap (fun i => L[i]?) = L := by
    have go2 : ∀ m, m ≤ L.length → (List.range m).filterMap (fun i => L[i]?) = L.take m := by
      intro m
      induction m with
      | zero => intro _; rfl
      | succ m ih =>
        intro hm
        rw [List.range_succ, List.filterMap_append, ih (Nat.le_of_lt hm), List.take_succ, List.getElem?_eq_getElem hm, List.filterMap_cons_some (List.getElem?_eq_getElem hm)]
        rfl
    rw [go2 L.length (Nat.le_refl _), List.take_length]
  rw [h2] at h1
  exact h1
/-- laid anew, larger -/
theorem larger {o : Obj} (ho : s.heap.get? a = some o) (hex : o.ExactSet) (hd : o.data = .set es n t) (rows : es.toList = L.map (ent P w)) (psz : t.place.size = es.size) (dm : t.dummies = #[]) (fl : es.size ≤ t.mask)
    (nd : (L.map (·.2)).Nodup) (is : ∀ p ∈ L, Is P w s.heap p.2 p.1) (pl : t.plain = true) (ld : w.params.followText "set-order" = true ∨ t.led = true) (few : L.length < 64) {wanted M : Nat}
    (hw : SetTable.sizeAbove wanted - 1 = M) (hM : MaskOk M) (hw2 : SetTable.sizeAbove wanted ≤ 128) (hn : L.length * 5 < M * 3) {Q : Unit → Shared → Prop}
    (q : ∀ h' L' es' n' t', Heap.SameBut a s.heap h' → SR P w h' a L' es' n' t' → L'.Perm L → Q () { s with heap := h' }) : wpAny (model P w) A (setRelay a wanted) Q E s := by
  have sz := size_rows rows
  have fits : t.fits es.size = true := by
    unfold SetTable.fits SetTable.fill
    rw [dm]
    simp only [Bool.and_eq_true, beq_iff_eq, decide_eq_true_eq]
    refine ⟨psz, ?_⟩
    show t.place.size + 0 ≤ t.mask
    omega
  obtain ⟨t', order, e, hp, T, em, el, ep, ed⟩ := relaid_ok t (hs := es.map (·.1)) (wanted := wanted) hw hM (by rw [Array.size_map, sz]; omega)
  rw [Array.size_map, sz] at hp
  obtain ⟨L2, r1, r2, r3⟩ := reorder rows hp
  rw [← r3] at T
  have sz2 : (order.filterMap (es[·]?)).size = L.length := by rw [size_rows r1, r2.length_eq]
  rw [setRelay_eq]
  refine wpAny_bind (wpAny_setState_of ho hd fits ?_)
  dsimp only
  refine wp_if_neg (by rw [sizeLine_eq]; omega) ?_
  try refine wpAny_bind (wpAny_pure ?_)
  rw [e]
  dsimp only
  refine wpAny_bind ?_
  refine wp_if_neg (by rw [sz2, sz]; simp) ?_
  try refine wpAny_bind (wpAny_pure ?_)
  refine wpAny_pure ?_
  refine wpAny_storeSet_of ho hd ?_ (by rw [sz2, sizeLine_eq]; omega)
  have sb : Heap.SameBut a s.heap (s.heap.update a (Obj.putSet (order.filterMap (es[·]?)) t')) := Heap.SameBut.update ..
  refine q _ L2 (order.filterMap (es[·]?)) (n + 1) t' sb ⟨⟨_, store_at ho hd, ⟨hex.1, hex.2.1, hex.2.2⟩, rfl⟩, r1, T, (r2.map (·.2)).nodup_iff.mpr nd, fun p pm => (is p (r2.mem_iff.mp pm)).same ho hd sb, by rw [ep]; exact pl, by rw [el]; exact ld, ?_, by rw [r2.length_eq]; exact few⟩ r2
  rw [r2.length_eq, em]
  exact hn
/-- a new row stands: stored, the table grown if it's full -/
theorem stored {o : Obj} (ho : s.heap.get? a = some o) (hex : o.ExactSet) (hd : o.data = .set es n t) {L1 : List It2} {es1 : Array (Int × Value)} {t1 : SetTable} {m : Nat} (rows : es1.toList = L1.map (ent P w)) (T : TabOk t1 (L1.map fun p => hsh P w p.2))
    (nd : (L1.map (·.2)).Nodup) (is : ∀ p ∈ L1, Is P w s.heap p.2 p.1) (pl : t1.plain = true) (ld : w.params.followText "set-order" = true ∨ t1.led = true) (few : L1.length < 64) (hm : L1.length = m + 1) (mk : MaskOk t1.mask) (was : m * 5 < t1.mask * 3) (fill : t1.fill = m + 1)
    {dum : Bool} (hdum : dum = false) {Q : Bool → Shared → Prop} (q : ∀ h' L' es' n' t', Heap.SameBut a s.heap h' → SR P w h' a L' es' n' t' → L'.Perm L1 → Q true { s with heap := h' }) :
    wpAny (model P w) A (do
      storeSet a es1 t1
      if !dum && t1.tooFull then setRelay a (SetTable.grown (m + 1))
      return true) Q E s := by
  subst hdum
  have sz := size_rows rows
  refine wpAny_bind (wpAny_storeSet_of ho hd ?_ (by rw [sz, hm, sizeLine_eq]; omega))
  have sb : Heap.SameBut a s.heap (s.heap.update a (Obj.putSet es1 t1)) := Heap.SameBut.update ..
  have ho1 := store_at (es' := es1) (t' := t1) ho hd
  have is1 : ∀ p ∈ L1, Is P w (s.heap.update a (Obj.putSet es1 t1)) p.2 p.1 := fun p pm => (is p pm).same ho hd sb
  generalize s.heap.update a (Obj.putSet es1 t1) = h1 at sb ho1 is1 ⊢
  have psz : t1.place.size = es1.size := by
    have := T.sz
    rw [List.length_map] at this
    rw [this, sz]
  by_cases hf : t1.tooFull = true
  · simp only [hf, Bool.not_false, Bool.and_self, if_true]
    have full : (m + 1) * 5 ≥ t1.mask * 3 := by
      unfold SetTable.tooFull at hf
      rw [decide_eq_true_eq, fill] at hf
      exact hf
    have cs : (t1.mask = 7 ∧ m = 4) ∨ (t1.mask = 31 ∧ m = 18) := by
      rcases mk with e | e | e
      · left; rw [e] at full was; exact ⟨e, by omega⟩
      · right; rw [e] at full was; exact ⟨e, by omega⟩
      · exfalso; rw [e] at full; omega
    have go : ∀ M, SetTable.sizeAbove (SetTable.grown (m + 1)) - 1 = M → MaskOk M → SetTable.sizeAbove (SetTable.grown (m + 1)) ≤ 128 → (m + 1) * 5 < M * 3 →
        wpAny (model P w) A (do setRelay a (SetTable.grown (m + 1)); return true) Q E { s with heap := h1 } := fun M g1 g2 g3 g4 => by
      refine wpAny_bind (larger (s := { s with heap := h1 }) ho1 ⟨hex.1, hex.2.1, hex.2.2⟩ rfl rows psz T.dm (by rw [sz, hm]; rcases cs with ⟨e, e2⟩ | ⟨e, e2⟩ <;> omega) nd is1 pl ld few g1 g2 g3 (by rw [hm]; exact g4) ?_)
      intro h2 L2 es2 n2 t2 sb2 R2 pm2
      exact wpAny_pure (q h2 L2 es2 n2 t2 (sb.trans sb2) R2 pm2)
    rcases cs with ⟨_, e2⟩ | ⟨_, e2⟩
    · exact go 31 (by rw [e2, size_20]) (.inr (.inl rfl)) (by rw [e2, size_20]; decide) (by omega)
    · exact go 127 (by rw [e2, size_76]) (.inr (.inr rfl)) (by rw [e2, size_76]; decide) (by omega)
  · simp only [hf, Bool.and_false, Bool.false_eq_true, if_false]
    try refine wpAny_bind (wpAny_pure ?_)
    refine wpAny_pure (q h1 L1 es1 _ t1 sb ⟨⟨_, ho1, ⟨hex.1, hex.2.1, hex.2.2⟩, rfl⟩, rows, T, nd, is1, pl, ld, ?_, few⟩ (.refl _))
    unfold SetTable.tooFull at hf
    rw [decide_eq_true_eq, fill] at hf
    rw [hm]
    omega
end
end SX
end IL
end

section
set_option autoImplicit false
set_option linter.all false
set_option Elab.async false
set_option maxRecDepth 100000
set_option maxHeartbeats 8000000
/-! IL: adding, all cases. -/
namespace IL
namespace SX
open PySem PySem.Spec PyProof.Rows L2
section
variable {P : Program} {w : World} {A : Around} {E : Value → Shared → Prop} {s : Shared} {a : Addr} {L : List It2} {es : Array (Int × Value)} {n : Nat} {t : SetTable}
/-- the new row's place and table -/
theorem put_row (R : SR P w s.heap a L es n t) {v : Value} {k : Ky} (x : Is P w s.heap k v) {K : Nat} (hm : k ∉ L.map (·.2)) (off : way t.mask (hsh P w k) K ∉ t.place.toList) (on : ∀ c, c < K → way t.mask (hsh P w k) c ∈ t.place.toList) (few : L.length + 1 < 64) :
    ∃ L1 : List It2, (SetTable.insertAt es (t.put (way t.mask (hsh P w k) K)).2 (hsh P w k, v)).toList = L1.map (ent P w) ∧ TabOk (t.put (way t.mask (hsh P w k) K)).1 (L1.map fun p => hsh P w p.2) ∧ (L1.map (·.2)).Nodup ∧ (∀ p ∈ L1, Is P w s.heap p.2 p.1) ∧
      L1.Perm ((v, k) :: L) ∧ (t.put (way t.mask (hsh P w k) K)).1.mask = t.mask ∧ (t.put (way t.mask (hsh P w k) K)).1.led = t.led ∧ (t.put (way t.mask (hsh P w k) K)).1.plain = t.plain ∧ (t.put (way t.mask (hsh P w k) K)).1.fill = L.length + 1 := by
  obtain ⟨q1, q2, q3, q4, q5, q6, q7, q8, q9⟩ := R.tab.put off on
  have pm := perm_in L (SetTable.below t.place (way t.mask (hsh P w k) K)) (v, k)
  refine ⟨L.take (SetTable.below t.place (way t.mask (hsh P w k) K)) ++ (v, k) :: L.drop (SetTable.below t.place (way t.mask (hsh P w k) K)), ?_, ?_, ?_, fun p hp => ?_, pm, q4, q5, q6, by rw [q9, List.length_map]⟩
  · rw [q1, SetTable.toList_insertAt, R.rows]
    simp only [List.map_append, List.map_cons, List.map_take, List.map_drop]
    rfl
  · have e : (L.take (SetTable.below t.place (way t.mask (hsh P w k) K)) ++ (v, k) :: L.drop (SetTable.below t.place (way t.mask (hsh P w k) K))).map (fun p => hsh P w p.2) = (L.map fun p => hsh P w p.2).take (SetTable.below t.place (way t.mask (hsh P w k) K)) ++ hsh P w k :: (L.map fun p => hsh P w p.2).drop (SetTable.below t.place (way t.mask (hsh P w k) K)) := by
      simp only [List.map_append, List.map_cons, List.map_take, List.map_drop]
    rw [e]
    exact q3
  · refine (pm.map (·.2)).nodup_iff.mpr ?_
    rw [List.map_cons]
    exact List.nodup_cons.mpr ⟨hm, R.nd⟩
  · rcases List.mem_cons.mp (pm.mem_iff.mp hp) with e | hp
    · rw [e]; exact x
    · exact R.is p hp
/-- an entry that is looked for by value -/
theorem scan_none {h : Heap} {k : Ky} {v : Value} (x : Is P w h k v) (q : v.scannable = true) : k = none ∧ v = .none := by
  cases k with
  | none => exact ⟨rfl, x⟩
  | some k => obtain ⟨b, rfl, _⟩ := x; cases q
theorem adds (R : SR P w s.heap a L es n t) {v : Value} {k : Ky} (x : Is P w s.heap k v) (hu : A.units < cLine) (few : L.length + 1 < 64) {Q : Bool → Shared → Prop}
    (q : ∀ b h' L' es' n' t', Heap.SameBut a s.heap h' → SR P w h' a L' es' n' t' → (k ∈ L.map (·.2) → L' = L) → (k ∉ L.map (·.2) → L'.Perm ((v, k) :: L)) → Q b { s with heap := h' }) :
    wpAny (model P w) A (setAddHashed a v (hsh P w k)) Q E s := by
  obtain ⟨o, ho, hex, hd⟩ := R.ob
  have sz := R.size
  have room := R.room
  unfold setAddHashed
  refine wpAny_holding ?_
  rw [show (100000 : Nat) = 99999 + 1 from rfl, setAddHashedIn_succ]
  refine wpAny_bind (wpAny_setState_of ho hd R.fits ?_)
  dsimp only
  by_cases hs : byScan v es = true
  · -- None alone
    refine wp_if_pos hs ?_
    unfold byScan at hs
    simp only [Bool.and_eq_true, decide_eq_true_eq] at hs
    obtain ⟨⟨s1, s2⟩, s3⟩ := hs
    obtain ⟨rfl, rfl⟩ := scan_none x s1
    have all : ∀ p ∈ L, p.2 = none := fun p hp => by
      have m : ent P w p ∈ es.toList := by rw [R.rows]; exact List.mem_map.mpr ⟨p, hp, rfl⟩
      have z := (Array.all_eq_true_iff_forall_mem.mp s3) (ent P w p) (by simpa using m)
      exact (scan_none (R.is p hp) z).1
    refine wpAny_bind ?_
    unfold setAddByScan
    refine wpAny_bind (wpAny_rule ?_)
    cases L with
    | nil =>
      have e0 : es = #[] := by
        apply Array.toList_inj.mp
        rw [R.rows]
        rfl
      obtain ⟨p0, hp0⟩ : ∃ p, p = t.place.toList := ⟨_, rfl⟩
      have pe : t.place.toList = [] := by
        have := R.psz
        rw [List.length_nil] at this
        rw [← List.length_eq_zero_iff, Array.length_toList]
        exact this
      have off : way t.mask (hsh P w none) 0 ∉ t.place.toList := by rw [pe]; simp
      have on : ∀ c, c < 0 → way t.mask (hsh P w none) c ∈ t.place.toList := fun c hc => absurd hc (Nat.not_lt_zero _)
      obtain ⟨L1, r1, r2, r3, r4, r5, r6, r7, r8, r9⟩ := put_row R (v := .none) (k := none) rfl (K := 0) (by simp) off on few
      have free : t.freeSlot (hsh P w none) = some (way t.mask (hsh P w none) 0, false) := by
        have pos : 0 < 10 * SetTable.turns t.mask := by unfold SetTable.turns; omega
        unfold SetTable.freeSlot
        rcases go_spec t R.tab.ris R.tab.dm (fun _ => hsh P w none + 1) (hsh P w none) (10 * SetTable.turns t.mask) 0 (t.probeStart (hsh P w none)) rfl pos (fun k hk => absurd hk (Nat.not_lt_zero _)) off with ⟨_, _, hk, _⟩ | ⟨_, met⟩
        · exact absurd hk (Nat.not_lt_zero _)
        · have met' : t.probe (fun _ => hsh P w none + 1) (hsh P w none) (t.probeStart (hsh P w none)) = some (.empty (way t.mask (hsh P w none) 0) none) := met
          rw [met']
          rfl
      have scan0 : setScan a .none (hsh P w none) true es = pure .absent := by rw [e0]; rfl
      rw [scan0]
      refine wpAny_bind (wpAny_pure ?_)
      dsimp only
      try refine wpAny_bind (wpAny_pure ?_)
      have sz1 : (SetTable.insertAt es (t.put (way t.mask (hsh P w none) 0)).2 (hsh P w none, Value.none)).size = 1 := by
        rw [size_rows r1, r5.length_eq]; rfl
      have fits1 : (t.put (way t.mask (hsh P w none) 0)).1.fits (SetTable.insertAt es (t.put (way t.mask (hsh P w none) 0)).2 (hsh P w none, Value.none)).size = true := by
        rw [sz1]
        unfold SetTable.fits
        rw [r9, r6]
        have z := r2.sz
        rw [List.length_map, r5.length_eq] at z
        rw [z]
        simp only [List.length_cons, List.length_nil, Bool.and_eq_true, beq_iff_eq, decide_eq_true_eq]
        simp only [List.length_nil] at room
        refine ⟨trivial, by omega⟩
      have lay : layNew t es (hsh P w none) .none = (SetTable.insertAt es (t.put (way t.mask (hsh P w none) 0)).2 (hsh P w none, Value.none), (t.put (way t.mask (hsh P w none) 0)).1, false, false) := by
        unfold layNew
        rw [free]
        dsimp only
        rw [fits1]
        unfold SetTable.orStandIn
        rw [if_pos fits1]
        rfl
      rw [lay]
      dsimp only
      refine wpAny_bind (wpAny_pure ?_)
      rw [r8, R.plain]
      simp only [if_true]
      refine wpAny_bind (by_is (k := none) rfl ?_)
      simp only [if_true]
      have nf : (t.put (way t.mask (hsh P w none) 0)).1.tooFull = false := by
        unfold SetTable.tooFull
        rw [r9, r6]
        simp only [List.length_nil] at room ⊢
        rw [decide_eq_false_iff_not]
        rcases R.tab.mok with e | e | e <;> omega
      generalize SetTable.insertAt es (t.put (way t.mask (hsh P w none) 0)).2 (hsh P w none, Value.none) = es1 at r1 sz1 ⊢
      generalize (t.put (way t.mask (hsh P w none) 0)).1 = t1 at r2 r6 r7 r8 r9 nf ⊢
      refine wpAny_bind (wpAny_storeSet_of ho hd ?_ (by rw [sz1, sizeLine_eq]; omega))
      have sb : Heap.SameBut a s.heap (s.heap.update a (Obj.putSet es1 t1)) := Heap.SameBut.update ..
      simp only [nf, Bool.and_false, Bool.false_eq_true, if_false]
      try refine wpAny_bind (wpAny_pure ?_)
      refine wpAny_pure ?_
      dsimp only
      refine wpAny_pure (q true _ L1 es1 _ t1 sb ⟨⟨_, store_at ho hd, ⟨hex.1, hex.2.1, hex.2.2⟩, rfl⟩, r1, r2, r3, fun p pm => (r4 p pm).same ho hd sb, by rw [r8]; exact R.plain, by rw [r7]; exact R.led, ?_, by rw [r5.length_eq]; exact few⟩ (fun z => absurd z (by simp)) fun _ => r5)
      rw [r5.length_eq, r6]
      simp only [List.length_cons, List.length_nil]
      rcases R.tab.mok with e | e | e <;> omega
    | cons p L =>
      have k0 : p.2 = none := all p List.mem_cons_self
      have v0 : p.1 = .none := by
        have z := R.is p List.mem_cons_self
        rw [k0] at z
        exact z
      have hin : (none : Ky) ∈ (p :: L).map (·.2) := List.mem_map.mpr ⟨p, List.mem_cons_self, k0⟩
      have el : es.toList = (hsh P w none, Value.none) :: L.map (ent P w) := by
        rw [R.rows, List.map_cons]
        unfold ent
        rw [k0, v0]
      have scan1 : setScan a .none (hsh P w none) true es = setScanFrom a .none (hsh P w none) true ((hsh P w none, Value.none) :: L.map (ent P w)) 0 := by rw [← el]; rfl
      rw [scan1]
      unfold setScanFrom
      simp only [beq_self_eq_true, if_true]
      refine wpAny_bind (wpAny_bind (wpAny_setEpoch_of ho hd R.fits (wpAny_bind (SeqAt.EqAt.same _ _ _ _ _ ?_))))
      simp only [Bool.and_self, if_true]
      refine wpAny_pure ?_
      dsimp only
      refine wpAny_pure ?_
      dsimp only
      exact wpAny_pure (q false s.heap _ es n t (Heap.SameBut.refl a s.heap) R (fun _ => rfl) fun z => absurd hin z)
  · refine wp_if_neg hs ?_
    try refine wpAny_bind (wpAny_pure ?_)
    refine wpAny_bind (srch0 R x hu (fun hm => ?_) fun K hm off on => ?_)
    · exact wpAny_pure (q false s.heap L es n t (Heap.SameBut.refl a s.heap) R (fun _ => rfl) fun z => absurd hm z)
    · dsimp only
      refine wpAny_bind (wpAny_setState_of ho hd R.fits ?_)
      dsimp only
      obtain ⟨L1, r1, r2, r3, r4, r5, r6, r7, r8, r9⟩ := put_row R x hm off on few
      rw [r8, R.plain]
      simp only [if_true]
      refine wpAny_bind (by_is x ?_)
      simp only [if_true]
      have z := stored (P := P) (w := w) (A := A) (E := E) (Q := Q) (m := L.length) (dum := false) ho hex hd r1 r2 r3 r4 (by rw [r8]; exact R.plain) (by rw [r7]; exact R.led) (by rw [r5.length_eq]; exact few) r5.length_eq (by rw [r6]; exact R.tab.mok) (by rw [r6]; exact room) r9 rfl
        fun h' L' es' n' t' sb R' pm => q true h' L' es' n' t' sb R' (fun z => absurd z hm) fun _ => pm.trans r5
      rw [sz]
      exact z
end
end SX
end IL
end

section
set_option autoImplicit false
set_option linter.all false
set_option Elab.async false
set_option maxRecDepth 100000
set_option maxHeartbeats 8000000
/-! IL: set(..) of such items. -/
namespace IL
namespace SX
open PySem PySem.Spec PyProof.Rows L2
abbrev obS (w : World) : Obj := { cls := .type "set", dict := none, data := .set #[] 0 (.fresh 0 0 (!w.params.followText "set-order")) }
abbrev hpS (w : World) (h : Heap) : Heap := h.push (obS w)
/-- what the first i items have brought -/
structure Brought (ks : List It2) (i : Nat) (L : List It2) : Prop where
  sub : ∀ p ∈ L, p ∈ ks.take i
  all : ∀ p ∈ ks.take i, p.2 ∈ L.map (·.2)
  len : L.length ≤ i
theorem Brought.next {ks L L' : List It2} {i : Nat} {x : It2} (g : Brought ks i L) (h : ks[i]? = some x) (c1 : x.2 ∈ L.map (·.2) → L' = L) (c2 : x.2 ∉ L.map (·.2) → L'.Perm (x :: L)) : Brought ks (i + 1) L' := by
  have tk := take_next h
  by_cases c : x.2 ∈ L.map (·.2)
  · rw [c1 c]
    refine ⟨fun p hp => by rw [tk]; exact List.mem_append_left _ (g.sub p hp), fun p hp => ?_, Nat.le_succ_of_le g.len⟩
    rw [tk] at hp
    rcases List.mem_append.mp hp with z | z
    · exact g.all p z
    · rw [List.mem_singleton.mp z]; exact c
  · have pm := c2 c
    refine ⟨fun p hp => ?_, fun p hp => ?_, by rw [pm.length_eq, List.length_cons]; exact Nat.succ_le_succ g.len⟩
    · rw [tk]
      rcases List.mem_cons.mp (pm.mem_iff.mp hp) with e | z
      · exact List.mem_append_right _ (by rw [e]; exact List.mem_singleton.mpr rfl)
      · exact List.mem_append_left _ (g.sub p z)
    · rw [(pm.map (·.2)).mem_iff, List.map_cons]
      rw [tk] at hp
      rcases List.mem_append.mp hp with z | z
      · exact List.mem_cons_of_mem _ (g.all p z)
      · rw [List.mem_singleton.mp z]; exact List.mem_cons_self
section
variable {P : Program} {w : World} {A : Around} {E : Value → Shared → Prop} {s : Shared}
theorem fresh_SR {h : Heap} {a : Addr} (ho : h.get? a = some (obS w)) : SR P w h a [] #[] 0 (.fresh 0 0 (!w.params.followText "set-order")) where
  ob := ⟨_, ho, ⟨rfl, rfl, rfl⟩, rfl⟩
  rows := rfl
  tab := ⟨List.Pairwise.nil, rfl, rfl, .inl rfl, fun x hx => (by cases hx), fun i h j hi => (by simp at hi)⟩
  nd := List.nodup_nil
  is := fun p hp => (by cases hp)
  plain := rfl
  led := by
    show _ ∨ (!w.params.followText "set-order") = true
    cases w.params.followText "set-order" <;> simp
  room := by show 0 * 5 < 7 * 3; decide
  few := by show 0 < 64; decide
/-- the loop that fills it -/
theorem fills {I : Addr} {fp wr : List Addr} {G : Array GenState → Array GenState → Prop} {n : Nat} {Pv : Nat → Value → Prop} {St : Nat → Shared → Prop} {R : Result → Shared → Prop}
    (W : WalksS P w A.in1 I fp wr G n Pv St) (S : Addr) (out : S ∉ fp) (ks : List It2) (hn : n = ks.length) (few : ks.length < 64) (hval : ∀ i v, Pv i v → ∃ p, ks[i]? = some p ∧ v = p.1)
    (h0 : Heap) (hk : ∀ p ∈ ks, Is P w h0 p.2 p.1) (hS0 : h0.get? S = none) (hw0 : ∀ b ∈ wr, h0.get? b = none) (hu : A.in1.units < cLine) :
    ∀ (k i : Nat) (s : Shared), n - i = k → i ≤ n → St i s → (∀ b o, h0.get? b = some o → s.heap.get? b = some o) → (∃ L es ep t, SR P w s.heap S L es ep t ∧ Brought ks i L) →
      (∀ s' L es ep t, Moved (S :: wr) G s s' → SR P w s'.heap S L es ep t → Brought ks n L → (∀ b o, h0.get? b = some o → s'.heap.get? b = some o) → R (.ok (.ret .none)) s') →
      codeAny (model P w) A (.builtin "set.update.loop" ⟨[.ref S, .ref I], []⟩) R s := by
  have outw : S ∉ wr := fun h => out (W.sub _ h)
  have keepM : ∀ {s s' : Shared}, Moved wr G s s' → (∀ b o, h0.get? b = some o → s.heap.get? b = some o) → ∀ b o, h0.get? b = some o → s'.heap.get? b = some o := fun hm g b o e =>
    hm.heap b o (fun hb => by rw [hw0 b hb] at e; cases e) (g b o e)
  intro k
  induction k with
  | zero =>
    intro i s hk' hi st g ⟨L, es, ep, t, hS, br⟩ fin
    obtain rfl : i = n := by omega
    refine codeAny_builtin F.entry_set_update_loop ?_
    rw [Around.under_plainId F.plain_set_update_loop _]
    show wpAny _ A.in1 (pyNext (.ref I) >>= _) _ _ s
    refine wpAny_bind (W.done s _ _ st fun s' hm => ?_)
    show wpAny _ A.in1 (ret Value.none) _ _ s'
    have g' := keepM hm g
    exact wpAny_pure (fin s' L es ep t (hm.mono fun b hb => List.mem_cons_of_mem _ hb) (hS.keeps (fun o e => hm.heap S o outw e) fun p hp => (hk p (List.mem_of_mem_take (br.sub p hp))).keep g') br g')
  | succ k ih =>
    intro i s hk' hi st g ⟨L, es, ep, t, hS, br⟩ fin
    have lt : i < n := by omega
    refine codeAny_builtin F.entry_set_update_loop ?_
    rw [Around.under_plainId F.plain_set_update_loop _]
    show wpAny _ A.in1 (pyNext (.ref I) >>= _) _ _ s
    refine wpAny_bind (W.item i s _ _ lt st fun v s' hP st' hm => ?_)
    obtain ⟨p, hp, rfl⟩ := hval i v hP
    have g' := keepM hm g
    have hS' : SR P w s'.heap S L es ep t := hS.keeps (fun o e => hm.heap S o outw e) fun q hq => (hk q (List.mem_of_mem_take (br.sub q hq))).keep g'
    have hx : Is P w s'.heap p.2 p.1 := (hk p (List.mem_of_getElem? hp)).keep g'
    show wpAny _ A.in1 (holding [p.1] (setAdd S p.1) >>= _) _ _ s'
    refine wpAny_bind (wpAny_holding ?_)
    unfold setAdd
    refine wpAny_holding (wpAny_bind (hash_is hu hx fun tn => ?_))
    have bl := br.len
    refine adds (s := { s' with toks := s'.toks + tn }) hS' hx hu (by omega) fun b h' L' es' ep' t' sb S2 c1 c2 => ?_
    have br' : Brought ks (i + 1) L' := br.next hp c1 c2
    have g2 : ∀ b o, h0.get? b = some o → h'.get? b = some o := fun b o e => (sb.2 b fun z => by rw [z, hS0] at e; cases e).trans (g' b o e)
    refine wpAny_pure ⟨plainId_quiet F.plain_set_update_loop _, ih (i + 1) _ (by omega) lt (W.frame _ s' _ _ st' (Nat.le_add_right _ _) fun b hb o e => ?_) g2 ⟨L', es', ep', t', S2, br'⟩ fun s'' L2 es2 ep2 t2 hm2 hS2 b2 g3 => ?_⟩
    · exact (sb.2 b fun z => out (by rw [← z]; exact hb)).trans e
    · refine fin s'' L2 es2 ep2 t2 (Moved.trans W.gtrans ((hm.mono fun b hb => List.mem_cons_of_mem _ hb).then_heap (Nat.le_add_right _ _) fun b o hb e => ?_) hm2) hS2 b2 g3
      exact (sb.2 b fun z => hb (by rw [z]; exact List.mem_cons_self)).trans e
/-- what set(..) leaves -/
abbrev Left (P : Program) (w : World) (s : Shared) (ks : List It2) (Q : Value → Shared → Prop) : Prop := ∀ (h' : Heap) (tk : Nat) L es ep t, SR P w h' s.heap.objs.size L es ep t → Brought ks ks.length L → (∀ b o, s.heap.get? b = some o → h'.get? b = some o) → Q (.ref s.heap.objs.size) { s with heap := h', toks := tk }
theorem gone {h : Heap} {b : Addr} (hb : h.objs.size ≤ b) : h.get? b = none := by
  cases q : h.get? b with
  | none => rfl
  | some o => exact absurd (Nat.lt_of_lt_of_le (Heap.lt_size q) hb) (Nat.lt_irrefl _)
/-- what the last step of set(..) is to reach -/
abbrev Fin1 (P : Program) (w : World) (s : Shared) (ks : List It2) (r : Value) (s₂ : Shared) : Prop := r = .none ∧ ∃ h' tk L es ep t, s₂ = { s with heap := h', toks := tk } ∧ SR P w h' s.heap.objs.size L es ep t ∧ Brought ks ks.length L ∧ (∀ b o, s.heap.get? b = some o → h'.get? b = some o)
theorem makes {x : Addr} {ks : List It2} {Q : Value → Shared → Prop}
    (src : codeAny (model P w) A.in1 (.call (.builtin "set.__init__") ⟨[.ref s.heap.objs.size, .ref x], []⟩) (wants (Fin1 P w s ks) E) { s with heap := hpS w s.heap })
    (q : Left P w s ks Q) : wpAny (model P w) A (call (.type "set") [.ref x]) Q E s := by
  obtain ⟨c, tl, hmro⟩ := F.called_set.mro
  have m1 := F.called_set.made
  have m2 := F.called_set.sub
  refine wpAny_call (codeAny_of_tree ?_)
  show wpAny _ _ (callAny (.type "set") _) _ _ _
  refine wpAny_pure ⟨Code.quiet_builtin _ (by decide +kernel), codeAny_builtin F.entry_type_call ?_⟩
  rw [Around.under_plain (weight_type_call_type "set" [.ref x] []) rfl]
  have m3 := F.called_set.notType
  have m4 := F.called_set.canCreate
  have m5 := F.typeCall_set_1 (.ref x)
  repeat (any_goals (first | assumption | wp_step))
  refine codeAny_mono (code_set_led1 (.ref x) (E := E) (Q₁ := fun obj s₁ => obj = .ref s.heap.objs.size ∧ s₁ = { s with heap := hpS w s.heap }) ⟨rfl, rfl⟩) fun r s₁ hr => ?_
  cases r with
  | error e => exact hr
  | ok fl =>
    cases fl with
    | ret obj =>
      obtain ⟨rfl, rfl⟩ := hr
      have hS : (hpS w s.heap).get? s.heap.objs.size = some (obS w) := Heap.get?_push_size _ rfl
      have hT : Shared.TypeIs { s with heap := hpS w s.heap } (.ref s.heap.objs.size) "set" := ⟨_, hS, rfl⟩
      have m6 := F.called_set.init.lookup
      have m7 := F.called_set.init.bind (.ref s.heap.objs.size)
      repeat (any_goals (first | assumption | wp_step))
      refine codeAny_mono src fun r₂ s₂ hr₂ => ?_
      cases r₂ with
      | error e => exact hr₂
      | ok fl₂ =>
        cases fl₂ with
        | ret r =>
          obtain ⟨rfl, h', tk, L, es, ep, t, rfl, hS', g', hk'⟩ := hr₂
          repeat (any_goals (first | assumption | wp_step))
          exact q _ _ _ _ _ _ hS' g' hk'
        | _ => exact hr₂.elim
    | _ => exact hr.elim
/-- set(xs), xs a list or a tuple -/
theorem call_sx {l : Addr} {items : Array Value} {ks : List It2} {Q : Value → Shared → Prop} (hh : A.handled = none) (hl : s.heap.IsList l items ∨ s.heap.IsTuple l items) (hit : items.toList = ks.map (·.1)) (hk : ∀ p ∈ ks, Is P w s.heap p.2 p.1) (few : ks.length < 64) (hu : A.units + 3 < cLine) (q : Left P w s ks Q) :
    wpAny (model P w) A (call (.type "set") [.ref l]) Q E s := by
  have isz : items.size = ks.length := by
    have := congrArg List.length hit
    simpa using this
  have hS : (hpS w s.heap).get? s.heap.objs.size = some (obS w) := Heap.get?_push_size _ rfl
  have hT : Shared.TypeIs { s with heap := hpS w s.heap } (.ref s.heap.objs.size) "set" := ⟨_, hS, rfl⟩
  refine makes (ks := ks) (codeAny_call_builtin (R := wants (Fin1 P w s ks) E) F.called_set.init.plain F.entry_set_init (check_set_init_1 hT ?_)) q
  have zl : (hpS w s.heap).objs.size = s.heap.objs.size + 1 := Heap.size_push ..
  have lt : l < s.heap.objs.size := by
    rcases hl with ⟨o, ho, _⟩ | ⟨o, ho, _⟩ <;> exact Heap.lt_size ho
  have ne : l ≠ (hpS w s.heap).objs.size := by rw [zl]; exact Nat.ne_of_lt (Nat.lt_succ_of_lt lt)
  have hh3 : A.in1.in1.in1.handled = none := by simp [hh]
  have out : s.heap.objs.size ∉ [(hpS w s.heap).objs.size, l] := by
    rw [zl]
    simp only [List.mem_cons, List.not_mem_nil, or_false, not_or]
    exact ⟨Nat.ne_of_lt (Nat.lt_succ_self _), Nat.ne_of_gt lt⟩
  have hval : ∀ (i : Nat) (v : Value), items[i]? = some v → ∃ p, ks[i]? = some p ∧ v = p.1 := fun i v hv => by
    rw [← Array.getElem?_toList, hit, List.getElem?_map] at hv
    cases e : ks[i]? with
    | none => rw [e] at hv; cases hv
    | some p => rw [e] at hv; cases hv; exact ⟨p, rfl, rfl⟩
  rcases hl with hl | hl
  · obtain ⟨ol, hol, hcl, nl, hdl⟩ := hl
    obtain ⟨ocls, odict, odata, oslots⟩ := ol
    simp only at hcl hdl
    subst hcl hdl
    have hol' : (hpS w s.heap).get? l = some { cls := .type "list", dict := odict, data := .seq items nl, slots := oslots } := Heap.get?_push_of_some _ hol
    have n1 := F.sub_list_set
    have n2 := F.sub_list_frozenset
    have n3 : (Value.type "list" == Value.type "dict") = false := by decide
    have hl1 : (hpS w s.heap).IsList l items := ⟨_, hol', rfl, nl, rfl⟩
    unfold Builtin.«set.__init__» noKeywords Builtin.Frozenset.updateFrom
    generalize hPI : pyIter = PI
    wp_walk
    subst hPI
    refine wpAny_pyIter_list hl1 ?_
    refine wpAny_bind (wpAny_runValue ?_)
    refine fills ((Walks.list hh3 _ l ne items).toS) s.heap.objs.size out ks isz few hval s.heap hk (gone (Nat.le_refl _)) (fun b hb => gone (by
      rw [List.mem_singleton.mp hb, zl]
      exact Nat.le_succ _)) hu (items.size - 0) 0 _ (by omega) (Nat.zero_le _) ⟨⟨_, Heap.get?_push_size _ rfl, rfl, rfl⟩, hl1.push _⟩ (fun b o e => Heap.get?_push_of_some _ (Heap.get?_push_of_some _ e)) ⟨[], #[], 0, _, fresh_SR (Heap.get?_push_of_some _ hS), fun p hp => (by cases hp), fun p hp => (by simp at hp), Nat.le_refl _⟩ fun s' L es ep t hm hS' g' hk' => ?_
    obtain ⟨h', g2, d', tk', os'⟩ := s'
    have eg : g2 = s.gens := hm.gens
    have ed : d' = s.drawn := hm.drawn
    have eo : os' = s.os := hm.os
    subst eg ed eo
    show wpAny _ _ _ _ _ _
    refine wpAny_pure ?_
    show wpAny _ _ (ret Value.none) _ _ _
    rw [isz] at g'
    exact wpAny_pure ⟨rfl, h', tk', L, es, ep, t, rfl, hS', g', hk'⟩
  · obtain ⟨ol, hol, hcl, nl, hdl⟩ := hl
    obtain ⟨ocls, odict, odata, oslots⟩ := ol
    simp only at hcl hdl
    subst hcl hdl
    have hol' : (hpS w s.heap).get? l = some { cls := .type "tuple", dict := odict, data := .seq items nl, slots := oslots } := Heap.get?_push_of_some _ hol
    have n1 := F.sub_tuple_set
    have n2 := F.sub_tuple_frozenset
    have n3 : (Value.type "tuple" == Value.type "dict") = false := by decide
    have hl1 : (hpS w s.heap).IsTuple l items := ⟨_, hol', rfl, nl, rfl⟩
    unfold Builtin.«set.__init__» noKeywords Builtin.Frozenset.updateFrom
    generalize hPI : pyIter = PI
    wp_walk
    subst hPI
    refine wpAny_pyIter_tuple hl1 ?_
    refine wpAny_bind (wpAny_runValue ?_)
    refine fills ((Walks.tuple hh3 _ l ne items).toS) s.heap.objs.size out ks isz few hval s.heap hk (gone (Nat.le_refl _)) (fun b hb => gone (by
      rw [List.mem_singleton.mp hb, zl]
      exact Nat.le_succ _)) hu (items.size - 0) 0 _ (by omega) (Nat.zero_le _) ⟨⟨_, Heap.get?_push_size _ rfl, rfl, rfl⟩, hl1.push _⟩ (fun b o e => Heap.get?_push_of_some _ (Heap.get?_push_of_some _ e)) ⟨[], #[], 0, _, fresh_SR (Heap.get?_push_of_some _ hS), fun p hp => (by cases hp), fun p hp => (by simp at hp), Nat.le_refl _⟩ fun s' L es ep t hm hS' g' hk' => ?_
    obtain ⟨h', g2, d', tk', os'⟩ := s'
    have eg : g2 = s.gens := hm.gens
    have ed : d' = s.drawn := hm.drawn
    have eo : os' = s.os := hm.os
    subst eg ed eo
    show wpAny _ _ _ _ _ _
    refine wpAny_pure ?_
    show wpAny _ _ (ret Value.none) _ _ _
    rw [isz] at g'
    exact wpAny_pure ⟨rfl, h', tk', L, es, ep, t, rfl, hS', g', hk'⟩
end
end SX
end IL
end

section
set_option autoImplicit false
set_option linter.all false
set_option Elab.async false
set_option maxRecDepth 100000
set_option maxHeartbeats 4000000
/-! plain lemmas of values. -/
namespace IL
open PySem
def intOf : Vl → Int
  | .int i => i
  | _ => 0
def kyOf : Vl → Option (List Int)
  | .tup vs => some (vs.map intOf)
  | _ => none
theorem ints_eq : ∀ {vs : List Vl}, (vs.all fun v => match v with | .int _ => true | _ => false) = true → vs = (vs.map intOf).map .int
  | [], _ => rfl
  | v :: vs, h => by
    rw [List.all_cons, Bool.and_eq_true] at h
    have ih := ints_eq h.2
    cases v <;> simp at h
    simp only [List.map_cons, intOf]
    rw [← ih]
theorem eqvs_ints : ∀ ns ms : List Int, eqvs (ns.map .int) (ms.map .int) = decide (ns = ms)
  | [], [] => rfl
  | [], _ :: _ => by simp [eqvs]
  | _ :: _, [] => by simp [eqvs]
  | n :: ns, m :: ms => by
    simp only [List.map_cons, eqvs, eqvs_ints ns ms, eqv]
    by_cases e : n = m <;> by_cases e' : ns = ms <;> simp [e, e']
theorem eqv_ky {x y : Vl} (hx : isHash x = true) (hy : isHash y = true) : eqv x y = decide (kyOf x = kyOf y) := by
  cases x <;> (try (simp [isHash] at hx; done)) <;> cases y <;> (try (simp [isHash] at hy; done))
  · rfl
  · simp [eqv, kyOf]
  · simp [eqv, kyOf]
  · rename_i vs ws
    simp only [isHash] at hx hy
    have e1 := ints_eq hx
    have e2 := ints_eq hy
    have z := eqvs_ints (vs.map intOf) (ws.map intOf)
    rw [← e1, ← e2] at z
    simp only [kyOf, eqv]
    rw [z]
    by_cases c : vs.map intOf = ws.map intOf <;> simp [c]
theorem distinct_ok : ∀ (xs acc : List Vl), (∀ x ∈ acc, isHash x = true) → (∀ x ∈ xs, isHash x = true) → (acc.map kyOf).Nodup →
    ((distinct acc xs).map kyOf).Nodup ∧ (∀ k, k ∈ (distinct acc xs).map kyOf ↔ k ∈ acc.map kyOf ∨ k ∈ xs.map kyOf)
  | [], acc, ha, _, nd => by simp [distinct, nd]
  | x :: xs, acc, ha, hx, nd => by
    have hx0 := hx x List.mem_cons_self
    have hx1 := fun y hy => hx y (List.mem_cons_of_mem _ hy)
    unfold distinct
    by_cases c : (acc.any fun y => eqv y x) = true
    · rw [if_pos c]
      obtain ⟨i1, i2⟩ := distinct_ok xs acc ha hx1 nd
      refine ⟨i1, fun k => ?_⟩
      rw [i2 k, List.map_cons, List.mem_cons]
      obtain ⟨y, hy, e⟩ := List.any_eq_true.mp c
      rw [eqv_ky (ha y hy) hx0, decide_eq_true_eq] at e
      have m : kyOf x ∈ acc.map kyOf := by rw [← e]; exact List.mem_map.mpr ⟨y, hy, rfl⟩
      constructor
      · rintro (h | h)
        · exact .inl h
        · exact .inr (.inr h)
      · rintro (h | h | h)
        · exact .inl h
        · rw [h]; exact .inl m
        · exact .inr h
    · rw [if_neg c]
      have nm : kyOf x ∉ acc.map kyOf := fun m => by
        obtain ⟨y, hy, e⟩ := List.mem_map.mp m
        refine c (List.any_eq_true.mpr ⟨y, hy, ?_⟩)
        rw [eqv_ky (ha y hy) hx0, decide_eq_true_eq]
        exact e
      obtain ⟨i1, i2⟩ := distinct_ok xs (acc ++ [x]) (fun y hy => by
        rcases List.mem_append.mp hy with h | h
        · exact ha y h
        · rw [List.mem_singleton.mp h]; exact hx0) hx1 (by
        rw [List.map_append, List.nodup_append]
        refine ⟨nd, by simp, fun a h1 b h2 => ?_⟩
        rw [List.map_cons, List.map_nil, List.mem_singleton] at h2
        rw [h2]
        exact fun e => nm (by rw [← e]; exact h1))
      refine ⟨i1, fun k => ?_⟩
      rw [i2 k, List.map_append, List.mem_append, List.map_cons, List.map_nil, List.mem_singleton, List.map_cons, List.mem_cons]
      constructor
      · rintro ((h | h) | h)
        · exact .inl h
        · exact .inr (.inl h)
        · exact .inr (.inr h)
      · rintro (h | h | h)
        · exact .inl (.inl h)
        · exact .inl (.inr h)
        · exact .inr h
theorem nd_le {α : Type} [DecidableEq α] : ∀ (l m : List α), l.Nodup → (∀ x ∈ l, x ∈ m) → l.length ≤ m.length
  | [], _, _, _ => Nat.zero_le _
  | x :: l, m, nd, h => by
    have hx := h x List.mem_cons_self
    obtain ⟨n1, n2⟩ := List.nodup_cons.mp nd
    have ih := nd_le l (m.erase x) n2 fun y hy => (List.mem_erase_of_ne (fun e => n1 (by rw [← e]; exact hy))).mpr (h y (List.mem_cons_of_mem _ hy))
    rw [List.length_erase_of_mem hx] at ih
    have pos : 0 < m.length := List.length_pos_of_mem hx
    simp only [List.length_cons]
    omega
theorem nd_eq {α : Type} [DecidableEq α] {l m : List α} (h1 : l.Nodup) (h2 : m.Nodup) (h : ∀ x, x ∈ l ↔ x ∈ m) : l.length = m.length :=
  Nat.le_antisymm (nd_le l m h1 fun x hx => (h x).mp hx) (nd_le m l h2 fun x hx => (h x).mpr hx)
end IL
end

section
set_option autoImplicit false
set_option linter.all false
set_option Elab.async false
set_option maxRecDepth 100000
set_option maxHeartbeats 8000000
/-! IL: len(set(..)). -/
namespace IL
open PySem L2 PyProof.Rows
open SX
section
variable {D : Wd} {P : Pg} {d : Nat} {G : Gt} {N : List Str} {sc : Scope} {W : WX} {X : Cx}
variable {ea : Ev → Hh → Rs Vl} {a : Expr} {p p2 q2 pos : Pos}
/-- items of ours as items of a set -/
theorem its_ok {pins : List (Addr × Obj)} {σ : L2.St} {H : Hp} {s : Shared} {F : Hp} {μ : List Addr} {h : Hh} (I : L2.Inv X pins σ H s) (c : CS D F μ h H) : ∀ {xs : List Vl} {us : List V} {its : List Value}, RVs D F μ xs us → Vals us its → (∀ x ∈ xs, isHash x = true) →
    its = (its.zip (xs.map kyOf)).map (·.1) ∧ (its.zip (xs.map kyOf)).map (·.2) = xs.map kyOf ∧ ∀ q ∈ its.zip (xs.map kyOf), SX.Is X.prog X.w s.heap q.2 q.1
  | [], _, _, .nil, .nil, _ => ⟨rfl, rfl, fun q hq => by simp at hq⟩
  | x :: xs, _, _, .cons r rs, .cons v vs, hh => by
    obtain ⟨i1, i2, i3⟩ := its_ok I c rs vs fun y hy => hh y (List.mem_cons_of_mem _ hy)
    have h0 := hh x List.mem_cons_self
    simp only [List.map_cons, List.zip_cons_cons]
    refine ⟨by rw [← i1], by rw [i2], fun q hq => ?_⟩
    rcases List.mem_cons.mp hq with e | hq
    · subst e
      cases r with
      | non => cases v; exact rfl
      | tup hf rt =>
        cases v
        simp only [isHash] at h0
        rename_i vs' b us'
        have e1 := ints_eq h0
        refine ⟨b, rfl, I.isT ?_⟩
        have e2 : us' = (vs'.map intOf).map V.int := by
          have rt2 := rt
          rw [e1] at rt2
          clear rt e1 hf h0 i1 i2 i3
          generalize vs'.map intOf = ns at rt2 ⊢
          induction ns generalizing us' with
          | nil => cases rt2; rfl
          | cons n ns ih =>
            cases rt2 with
            | cons r1 r2 => cases r1; rw [ih r2]; rfl
        rw [← e2]
        exact .of (c.sub.tup hf)
      | _ => simp [isHash] at h0
    · exact i3 q hq
theorem e_lenset (k : XOk D P d G N sc W X) (hg : glB sc ("len" : Str) = true) (hx : G.bl ("len" : Str) = true) (hg2 : glB sc ("set" : Str) = true) (hx2 : G.bl ("set" : Str) = true) (hs : noStar a = true) (ha : EOk D W X ea a) :
    EOk D W X (fun ρ h => (ea ρ h).bind fun x h1 => bltV .lenset [x] h1) (.Call (.Name ("len" : Str) p) [.Call (.Name ("set" : Str) p2) [a] [] q2] [] pos) := by
  refine eok_val ⟨fun pins s σ H Q I q => ?_⟩ (by intro _; rfl)
  refine Call_ (ld_blt I (k.gl _ hg) (k.w.blt _ hx) PySem.boot_len ?_)
  refine PyProof.Rows.callWith_builtin1 (PyProof.Rows.args_cons ?_ rfl) rfl rfl
  refine Call_ (ld_blt I (k.gl _ hg2) (k.w.blt _ hx2) PyProof.Rows.boot_set ?_)
  have na := star_eq hs [] X.env
  obtain ⟨F, μ, ρ, h, c, er, p⟩ := q
  refine PyProof.Rows.callWith_type1 (PyProof.Rows.args_cons (thn (ha.pe.run pins s σ H _ I ⟨F, μ, ρ, h, c, er, Post.bind p⟩) fun v s1 hv => PyProof.Rows.args_nil ?_) na) na rfl
  obtain ⟨u, H1, I1, ru, F1, μ1, x, h1, x1, c1, r1, p⟩ := hv
  simp only [bltV] at p
  split at p
  · rename_i xs hxs
    split at p
    · rename_i hok
      simp only [Bool.and_eq_true, decide_eq_true_eq, List.all_eq_true] at hok
      obtain ⟨hh, few⟩ := hok
      obtain ⟨l, us, eu, hq, rs⟩ : ∃ l us, u = V.ref l ∧ (SqL X.K H1 l us ∨ SqT X.K H1 l us) ∧ RVs D F1 μ1 xs us := by
        rw [k.hK]
        exact asSeq_ok c1 r1 hxs
      subst eu
      cases ru
      obtain ⟨its, rv, src⟩ : ∃ its : List Value, Vals us its ∧ (s1.heap.IsList l its.toArray ∨ s1.heap.IsTuple l its.toArray) := by
        rcases hq with hq | hq
        · obtain ⟨its, rv, pl, hz⟩ := I1.list hq
          exact ⟨its, rv, .inl pl.isList⟩
        · obtain ⟨its, rv, ht, hz⟩ := I1.tuple hq
          exact ⟨its, rv, .inr ht⟩
      obtain ⟨i1, i2, i3⟩ := its_ok I1 c1 rs rv hh
      have len : (its.zip (xs.map kyOf)).length = xs.length := by
        have := congrArg List.length i2
        simpa using this
      refine SX.call_sx (ks := its.zip (xs.map kyOf)) (I1.ok.hd k.calm) src (by simpa using i1) i3 (by rw [len]; exact few) (by have := k.hu; omega) fun h' tk L es ep t R br hk => ?_
      refine PyProof.Rows.args_nil ?_
      obtain ⟨o, ho, hex, hd⟩ := R.ob
      have I2 : L2.Inv X pins σ H1 { s1 with heap := h', toks := tk } := I1.kept fun b o e => hk b o e
      have num : L.length = (distinct [] xs).length := by
        obtain ⟨d1, d2⟩ := distinct_ok xs [] (by simp) hh (by simp)
        have z := nd_eq R.nd d1 fun y => by
          rw [d2 y]
          simp only [List.map_nil, List.not_mem_nil, false_or]
          constructor
          · intro hy
            obtain ⟨q, hq, e⟩ := List.mem_map.mp hy
            have := br.sub q hq
            rw [List.take_length] at this
            rw [← i2, ← e]
            exact List.mem_map.mpr ⟨q, this, rfl⟩
          · intro hy
            rw [← i2] at hy
            obtain ⟨q, hq, e⟩ := List.mem_map.mp hy
            rw [← e]
            exact br.all q (by rw [List.take_length]; exact hq)
        simpa using z
      have sz := size_rows R.rows
      have few2 := R.few
      refine call_len_set ho hex hd (SR.fits (s := { s1 with heap := h' }) R) (by rw [sz]; omega) ⟨.int L.length, H1, I2.tok _, ⟨_, by rw [sz]⟩, ?_⟩
      rw [num]
      exact post_same c1 (.int _) p
    · exact p.elim
  · exact p.elim
end
end IL
end

section
set_option autoImplicit false
set_option linter.all false
set_option Elab.async false
set_option maxRecDepth 100000
set_option maxHeartbeats 2000000
/-! unlike whole numbers -/
namespace IL
open PySem
def distI : List Int → List Int → List Int
  | acc, [] => acc
  | acc, x :: xs => if x ∈ acc then distI acc xs else distI (acc ++ [x]) xs
theorem dist_map : ∀ (xs acc : List Int), distinct (acc.map .int) (xs.map .int) = (distI acc xs).map .int
  | [], acc => rfl
  | x :: xs, acc => by
    simp only [List.map_cons, distinct, distI]
    have e : ((acc.map Vl.int).any fun y => eqv y (.int x)) = decide (x ∈ acc) := by
      rw [List.any_map]
      by_cases c : x ∈ acc
      · rw [decide_eq_true c, List.any_eq_true]
        exact ⟨x, c, by simp [eqv]⟩
      · rw [decide_eq_false c, List.any_eq_false]
        intro y hy
        simp only [Function.comp, eqv, beq_iff_eq]
        intro e
        exact c (e ▸ hy)
    rw [e]
    by_cases c : x ∈ acc
    · rw [if_pos (by simpa using c), if_pos c]; exact dist_map xs acc
    · rw [if_neg (by simpa using c), if_neg c]
      have := dist_map xs (acc ++ [x])
      rw [List.map_append] at this
      exact this
theorem dist_nd : ∀ (xs acc : List Int), acc.Nodup → (distI acc xs).Nodup
  | [], acc, h => h
  | x :: xs, acc, h => by
    unfold distI
    by_cases c : x ∈ acc
    · rw [if_pos c]; exact dist_nd xs acc h
    · rw [if_neg c]
      refine dist_nd xs _ ?_
      rw [List.nodup_append]
      exact ⟨h, by simp, fun a ha b hb e => by rw [List.mem_singleton.mp hb] at e; exact c (e ▸ ha)⟩
theorem dist_mem {k : Int} : ∀ (xs acc : List Int), k ∈ distI acc xs ↔ k ∈ acc ∨ k ∈ xs
  | [], acc => by simp [distI]
  | x :: xs, acc => by
    unfold distI
    by_cases c : x ∈ acc
    · rw [if_pos c, dist_mem xs acc, List.mem_cons]
      constructor
      · rintro (h | h)
        · exact .inl h
        · exact .inr (.inr h)
      · rintro (h | h | h)
        · exact .inl h
        · subst h; exact .inl c
        · exact .inr h
    · rw [if_neg c, dist_mem xs _, List.mem_append, List.mem_singleton, List.mem_cons]
      exact or_assoc
theorem nd_perm {l m : List Int} (h1 : l.Nodup) (h2 : m.Nodup) (h : ∀ x, x ∈ l ↔ x ∈ m) : l.Perm m := (List.perm_ext_iff_of_nodup h1 h2).mpr h
theorem pw_nd {l : List Int} (h : l.Pairwise (· < ·)) : l.Nodup := h.imp fun a e => by rw [e] at a; exact Int.lt_irrefl _ a
end IL
end

section
set_option autoImplicit false
set_option linter.all false
set_option Elab.async false
set_option maxRecDepth 100000
set_option maxHeartbeats 8000000
/-! IL: sorted(set(..)) of whole numbers. -/
namespace IL
namespace SI
open PySem PySem.Spec PyProof.Rows L2
open SX (obS hpS gone)
section
variable {P : Program} {w : World} {A : Around} {E : Value → Shared → Prop} {s : Shared}
abbrev Left2 (w : World) (s : Shared) (ns : List Int) (Q : Value → Shared → Prop) : Prop := ∀ (h' : Heap) (tk c : Nat), SetR w h' s.heap.objs.size (fun j => decide (j ∈ ns)) c → c ≤ ns.length → (∀ b o, s.heap.get? b = some o → h'.get? b = some o) → Q (.ref s.heap.objs.size) { s with heap := h', toks := tk }
abbrev Fin2 (w : World) (s : Shared) (ns : List Int) (r : Value) (s₂ : Shared) : Prop := r = .none ∧ ∃ h' tk c, s₂ = { s with heap := h', toks := tk } ∧ SetR w h' s.heap.objs.size (fun j => decide (j ∈ ns)) c ∧ c ≤ ns.length ∧ (∀ b o, s.heap.get? b = some o → h'.get? b = some o)
theorem makes2 {x : Addr} {ns : List Int} {Q : Value → Shared → Prop}
    (src : codeAny (model P w) A.in1 (.call (.builtin "set.__init__") ⟨[.ref s.heap.objs.size, .ref x], []⟩) (wants (Fin2 w s ns) E) { s with heap := hpS w s.heap })
    (q : Left2 w s ns Q) : wpAny (model P w) A (call (.type "set") [.ref x]) Q E s := by
  obtain ⟨c, tl, hmro⟩ := F.called_set.mro
  have m1 := F.called_set.made
  have m2 := F.called_set.sub
  refine wpAny_call (codeAny_of_tree ?_)
  show wpAny _ _ (callAny (.type "set") _) _ _ _
  refine wpAny_pure ⟨Code.quiet_builtin _ (by decide +kernel), codeAny_builtin F.entry_type_call ?_⟩
  rw [Around.under_plain (weight_type_call_type "set" [.ref x] []) rfl]
  have m3 := F.called_set.notType
  have m4 := F.called_set.canCreate
  have m5 := F.typeCall_set_1 (.ref x)
  repeat (any_goals (first | assumption | wp_step))
  refine codeAny_mono (code_set_led1 (.ref x) (E := E) (Q₁ := fun obj s₁ => obj = .ref s.heap.objs.size ∧ s₁ = { s with heap := hpS w s.heap }) ⟨rfl, rfl⟩) fun r s₁ hr => ?_
  cases r with
  | error e => exact hr
  | ok fl =>
    cases fl with
    | ret obj =>
      obtain ⟨rfl, rfl⟩ := hr
      have hS : (hpS w s.heap).get? s.heap.objs.size = some (obS w) := Heap.get?_push_size _ rfl
      have hT : Shared.TypeIs { s with heap := hpS w s.heap } (.ref s.heap.objs.size) "set" := ⟨_, hS, rfl⟩
      have m6 := F.called_set.init.lookup
      have m7 := F.called_set.init.bind (.ref s.heap.objs.size)
      repeat (any_goals (first | assumption | wp_step))
      refine codeAny_mono src fun r₂ s₂ hr₂ => ?_
      cases r₂ with
      | error e => exact hr₂
      | ok fl₂ =>
        cases fl₂ with
        | ret r =>
          obtain ⟨rfl, h', tk, c', rfl, hS', g', hk'⟩ := hr₂
          repeat (any_goals (first | assumption | wp_step))
          exact q _ _ _ hS' g' hk'
        | _ => exact hr₂.elim
    | _ => exact hr.elim
/-- set(xs), xs a list of whole numbers -/
theorem call_si {l : Addr} {items : Array Value} {ns : List Int} {Q : Value → Shared → Prop} (hh : A.handled = none) (hl : s.heap.IsList l items) (hit : IntsAre items.toList ns) (few : ns.length < 64) (q : Left2 w s ns Q) :
    wpAny (model P w) A (call (.type "set") [.ref l]) Q E s := by
  have isz : items.size = ns.length := by
    have := hit.length
    simpa using this
  have hS : (hpS w s.heap).get? s.heap.objs.size = some (obS w) := Heap.get?_push_size _ rfl
  have hT : Shared.TypeIs { s with heap := hpS w s.heap } (.ref s.heap.objs.size) "set" := ⟨_, hS, rfl⟩
  refine makes2 (ns := ns) (codeAny_call_builtin (R := wants (Fin2 w s ns) E) F.called_set.init.plain F.entry_set_init (check_set_init_1 hT ?_)) q
  have zl : (hpS w s.heap).objs.size = s.heap.objs.size + 1 := Heap.size_push ..
  have lt : l < s.heap.objs.size := by
    obtain ⟨o, ho, _⟩ := hl
    exact Heap.lt_size ho
  have ne : l ≠ (hpS w s.heap).objs.size := by rw [zl]; exact Nat.ne_of_lt (Nat.lt_succ_of_lt lt)
  have hh3 : A.in1.in1.in1.handled = none := by simp [hh]
  have out : s.heap.objs.size ∉ [(hpS w s.heap).objs.size, l] := by
    rw [zl]
    simp only [List.mem_cons, List.not_mem_nil, or_false, not_or]
    exact ⟨Nat.ne_of_lt (Nat.lt_succ_self _), Nat.ne_of_gt lt⟩
  have hval : ∀ (i : Nat) (v : Value), items[i]? = some v → ∃ k t, ns[i]? = some k ∧ v = Value.int k t := fun i v hv => by
    rw [← Array.getElem?_toList] at hv
    have li := (List.getElem?_eq_some_iff.mp hv).1
    rw [hit.length] at li
    obtain ⟨t, e⟩ := hit.get i ns[i] (List.getElem?_eq_getElem li)
    rw [hv] at e
    cases e
    exact ⟨ns[i], t, List.getElem?_eq_getElem li, rfl⟩
  obtain ⟨ol, hol, hcl, nl, hdl⟩ := hl
  obtain ⟨ocls, odict, odata, oslots⟩ := ol
  simp only at hcl hdl
  subst hcl hdl
  have hol' : (hpS w s.heap).get? l = some { cls := .type "list", dict := odict, data := .seq items nl, slots := oslots } := Heap.get?_push_of_some _ hol
  have n1 := F.sub_list_set
  have n2 := F.sub_list_frozenset
  have n3 : (Value.type "list" == Value.type "dict") = false := by decide
  have hl1 : (hpS w s.heap).IsList l items := ⟨_, hol', rfl, nl, rfl⟩
  unfold Builtin.«set.__init__» noKeywords Builtin.Frozenset.updateFrom
  generalize hPI : pyIter = PI
  wp_walk
  subst hPI
  refine wpAny_pyIter_list hl1 ?_
  refine wpAny_bind (wpAny_runValue ?_)
  refine set_update_ints ((Walks.list hh3 _ l ne items).toS) s.heap.objs.size out ns isz (by have : scanBound = 4096 := rfl; omega) hval (items.size - 0) 0 _ (by omega) (Nat.zero_le _) ⟨⟨_, Heap.get?_push_size _ rfl, rfl, rfl⟩, hl1.push _⟩ ⟨0, Nat.le_refl _, setR_new_at (Heap.get?_push_of_some _ hS)⟩ fun s' c hm hc hS' => ?_
  obtain ⟨h', g2, d', tk', os'⟩ := s'
  have eg : g2 = s.gens := hm.gens
  have ed : d' = s.drawn := hm.drawn
  have eo : os' = s.os := hm.os
  subst eg ed eo
  show wpAny _ _ _ _ _ _
  refine wpAny_pure ?_
  show wpAny _ _ (ret Value.none) _ _ _
  refine wpAny_pure ⟨rfl, h', tk', c, rfl, hS', by rw [← isz]; exact hc, fun b o e => ?_⟩
  have lb := Heap.lt_size e
  refine hm.heap b o (fun hb => ?_) (Heap.get?_push_of_some _ (Heap.get?_push_of_some _ e))
  simp only [List.mem_cons, List.not_mem_nil, or_false] at hb
  rcases hb with hb | hb
  · exact absurd hb (Nat.ne_of_lt lb)
  · rw [zl] at hb
    exact absurd hb (Nat.ne_of_lt (Nat.lt_succ_of_lt lb))
end
end SI
open PySem L2 PyProof.Rows
section
variable {D : Wd} {P : Pg} {d : Nat} {G : Gt} {N : List Str} {sc : Scope} {W : WX} {X : Cx}
variable {ea : Ev → Hh → Rs Vl} {a : Expr} {p p2 q2 pos : Pos}
/-- the ints of a list -/
theorem allInt' {ys : List Vl} (h : ys.all isIntV = true) : ∃ ns : List Int, ys = ns.map .int := by
  induction ys with
  | nil => exact ⟨[], rfl⟩
  | cons y ys ih =>
    rw [List.all_cons, Bool.and_eq_true] at h
    obtain ⟨ns, e⟩ := ih h.2
    cases y <;> first | (have := h.1; cases this; done) | skip
    rename_i i
    exact ⟨i :: ns, by rw [e]; rfl⟩
theorem vals_ints : ∀ {ns : List Int} {us : List V} {its : List Value} {F : Hp} {μ : List Addr}, RVs D F μ (ns.map .int) us → Vals us its → IntsAre its ns
  | [], _, _, _, _, .nil, .nil => .nil
  | n :: ns, _, _, _, _, .cons r rs, .cons v vs => by
    cases r
    obtain ⟨t, rfl⟩ := v
    exact .cons _ _ (vals_ints rs vs)
theorem rvs_ints {F : Hp} {μ : List Addr} : ∀ ms : List Int, RVs D F μ (ms.map .int) (ms.map V.int)
  | [] => .nil
  | m :: ms => .cons (.int m) (rvs_ints ms)
theorem e_sortedset (k : XOk D P d G N sc W X) (hg : glB sc ("sorted" : Str) = true) (hx : G.bl ("sorted" : Str) = true) (hg2 : glB sc ("set" : Str) = true) (hx2 : G.bl ("set" : Str) = true) (hs : noStar a = true) (ha : EOk D W X ea a) :
    EOk D W X (fun ρ h => (ea ρ h).bind fun x h1 => bltV .sortedset [x] h1) (.Call (.Name ("sorted" : Str) p) [.Call (.Name ("set" : Str) p2) [a] [] q2] [] pos) := by
  refine eok_val ⟨fun pins s σ H Q I q => ?_⟩ (by intro _; rfl)
  refine Call_ (ld_blt I (k.gl _ hg) (k.w.blt _ hx) PyProof.Rows.boot_sorted ?_)
  refine PyProof.Rows.callWith_builtin1 (PyProof.Rows.args_cons ?_ rfl) rfl rfl
  refine Call_ (ld_blt I (k.gl _ hg2) (k.w.blt _ hx2) PyProof.Rows.boot_set ?_)
  have na := star_eq hs [] X.env
  obtain ⟨F, μ, ρ, h, c, er, p⟩ := q
  refine PyProof.Rows.callWith_type1 (PyProof.Rows.args_cons (thn (ha.pe.run pins s σ H _ I ⟨F, μ, ρ, h, c, er, Post.bind p⟩) fun v s1 hv => PyProof.Rows.args_nil ?_) na) na rfl
  obtain ⟨u, H1, I1, ru, F1, μ1, x, h1, x1, c1, r1, p⟩ := hv
  simp only [bltV] at p
  split at p
  · rename_i xs hxs
    split at p
    · rename_i hok
      unfold isSetOk at hok
      rw [Bool.and_eq_true, decide_eq_true_eq] at hok
      obtain ⟨hi, few⟩ := hok
      obtain ⟨l, us, rfl, hl, rq⟩ := asList_ok c1 r1 hxs
      cases ru
      obtain ⟨ns, en⟩ := allInt' hi
      subst en
      rw [List.length_map] at few
      obtain ⟨its, rv, pl, hz⟩ := I1.list (.of hl)
      refine SI.call_si (ns := ns) (I1.ok.hd k.calm) pl.isList (vals_ints rq rv) (by omega) fun h' tk c hS hc hk => ?_
      refine PyProof.Rows.args_nil ?_
      have I2 := I1.laid (h' := h') (t' := tk) (o := SetO X.w s1.heap.objs.size (fun j => decide (j ∈ ns)) c) hk (Nat.le_refl _) (setO_new hS)
      refine cr_sortedSet k.calm pins _ σ _ [.ref s1.heap.objs.size] _ _ I2 (.cons rfl .nil) ⟨_, _, c, rfl, upd_same, by omega, fun ms q pw hm ln hq => ?_⟩
      have fr := I1.fresh
      obtain ⟨c2, x2⟩ := c1.new fr (SetO X.w s1.heap.objs.size (fun j => decide (j ∈ ns)) c)
      obtain ⟨c3, x3⟩ := c2.new hq (.lst (ms.map V.int))
      have e0 : distinct [] (ns.map .int) = (distI [] ns).map .int := dist_map ns []
      obtain ⟨s1', s2'⟩ := sort_ints (distI [] ns)
      have pm : ms.Perm (distI [] ns) := nd_perm (pw_nd pw) (dist_nd ns [] List.nodup_nil) fun y => by
        rw [hm y, dist_mem]
        simp
      have en : ms = sortB (fun a b => decide (a < b)) (distI [] ns) := ints_uniq (pw.imp fun z => Int.le_of_lt z) s1' (pm.trans s2'.symm)
      rw [e0, sort_map (lt := fun a b => decide (a < b)) fun a _ b _ => ltB_int a b, ← en] at p
      exact p _ _ _ _ (x2.trans x3) c3 (.lst upd_same (rvs_ints ms))
    · exact p.elim
  · exact p.elim
end
end IL
end

section
set_option autoImplicit false
set_option linter.all false
set_option Elab.async false
set_option maxRecDepth 100000
set_option maxHeartbeats 8000000
/-! IL: list(range(..)). -/
namespace IL
open PySem L2 PyProof.Rows
section
variable {D : Wd} {P : Pg} {d : Nat} {G : Gt} {N : List Str} {sc : Scope} {W : WX} {X : Cx}
variable {ea : Ev → Hh → Rs Vl} {a : Expr} {p p2 q2 pos : Pos}
theorem rvs_rg {F : Hp} {μ : List Addr} (l : List Nat) : RVs D F μ (l.map fun (k : Nat) => Vl.int k) (l.map fun (k : Nat) => V.int (0 + (k : Int))) := by
  induction l with
  | nil => exact .nil
  | cons k l ih => exact .cons (by show RV D F μ (.int k) (.int (0 + (k : Int))); rw [Int.zero_add]; exact .int _) ih
theorem e_lrange (k : XOk D P d G N sc W X) (hg : glB sc ("list" : Str) = true) (hx : G.bl ("list" : Str) = true) (hg2 : glB sc ("range" : Str) = true) (hx2 : G.bl ("range" : Str) = true) (hs : noStar a = true) (ha : EOk D W X ea a) :
    EOk D W X (fun ρ h => (ea ρ h).bind fun x h1 => bltV .lrange [x] h1) (.Call (.Name ("list" : Str) p) [.Call (.Name ("range" : Str) p2) [a] [] q2] [] pos) := by
  refine eok_val ⟨fun pins s σ H Q I q => ?_⟩ (by intro _; rfl)
  have na := star_eq hs [] X.env
  refine (pe_listRg k.calm (k.gl _ hg) (k.w.blt _ hx) (prg_1 (k.gl _ hg2) (k.w.blt _ hx2) ha.pe na) rfl).run pins s σ H Q I ?_
  obtain ⟨F, μ, ρ, h, c, er, p⟩ := q
  refine ⟨F, μ, ρ, h, c, er, (Post.bind p).mono fun u H1 hv => ?_⟩
  obtain ⟨F1, μ1, v, h1, x1, c1, r1, p⟩ := hv
  simp only [bltV] at p
  split at p
  · rename_i n
    split at p
    · rename_i hn
      cases r1
      refine ⟨n, rfl, ?_, fun q hq => ?_⟩
      · unfold RgOk
        omega
      · refine post_lst c1 ?_ p hq
        show RVs D F1 μ1 _ (rgV 0 n)
        unfold rgV
        rw [Int.sub_zero]
        exact rvs_rg _
    · exact p.elim
  · exact p.elim
end
end IL
end

section
set_option autoImplicit false
set_option linter.all false
set_option Elab.async false
set_option maxRecDepth 100000
set_option maxHeartbeats 4000000
/-! IL: sorted(xs, key=f). -/
namespace IL
open PySem L2 PyProof.Rows
theorem callC_same {P : Pg} {r : Nat → List Vl → Hh → Rs Vl} {f : Nat} {G : Fn} {v k : Vl} {h h' : Hh} (hf : P.fn f = some G) (hk : G.keep = false) (hb : below deep 0 v = true) (e : callC P r f [v] h = .ok k h') : h' = h := by
  unfold callC at e
  rw [hf] at e
  simp only [hk, Bool.false_eq_true, if_false, List.all_cons, List.all_nil, Bool.and_true, hb, if_true] at e
  split at e
  · split at e
    · cases e; rfl
    · cases e
  · cases e
  · cases e
section
variable {D : Wd} {P : Pg} {d : Nat} {G : Gt} {N : List Str} {sc : Scope} {W : WX} {X : Cx}
variable {ea : Ev → Hh → Rs Vl} {a : Expr} {pos p p2 p3 : Pos}
abbrev pairI (s : Int × Int) : Vl := .tup [.int s.1, .int s.2]
theorem keyIs_ok {f : Nat} {h : Hh} {v : Vl} {cf : Nat → List Vl → Hh → Rs Vl} (e : keyIs cf f h v = true) : below deep 0 v = true ∧ fstOf v = some (pairI (firstI v)) ∧ ∃ h', cf f [v] h = .ok (pairI (firstI v)) h' := by
  unfold keyIs at e
  rw [Bool.and_eq_true] at e
  refine ⟨e.1, ?_⟩
  have e := e.2
  split at e
  · rename_i k h' ek
    unfold samePair at e
    split at e
    · rename_i a b c d' ef
      rw [Bool.and_eq_true, beq_iff_eq, beq_iff_eq] at e
      obtain ⟨rfl, rfl⟩ := e
      have : firstI v = (a, b) := by
        unfold fstOf at ef
        split at ef
        · split at ef
          · cases ef
            rfl
          · cases ef
        · cases ef
      rw [this]
      exact ⟨ef, h', ek⟩
    · cases e
  · cases e
theorem e_srt (k : XOk D P d G N sc W X) {z : Str} {f : Nat} (hg : glB sc ("sorted" : Str) = true) (hx : G.bl ("sorted" : Str) = true) (hgz : glB sc z = true) (hpz : plainNm z = true) (hf : G.fn z = some f) (hs : noStar a = true) (ha : EOk D W X ea a) :
    EOk D W X (fun ρ h => (ea ρ h).bind fun x h1 => match asList h1 x, P.fn f with
      | some xs, some F => if !F.keep && decide (xs.length ≤ 100000) && xs.all (keyIs (callC P (run P d)) f h1) then .ok (.lst (sortB keyB xs)) h1 else .bad
      | _, _ => .bad) (.Call (.Name ("sorted" : Str) p) [a] [⟨some ("key" : Str), .Name z p2, p3⟩] pos) := by
  obtain ⟨fa, fd, ps, hm, kp, bd, ok⟩ := k.w.fns z f hf
  refine eok_val ⟨fun pins s σ H Q I q => ?_⟩ (by intro _; rfl)
  have hr : Room (4 * d) X.A.in1.in1 := by
    have r := k.room
    refine ⟨r.hd, ?_, ?_⟩
    · have := r.dp
      show X.A.depth + 3 * (4 * d) + 5 < _
      omega
    · have := r.un
      show X.A.units + 1 + 1 + 16 * (4 * d) + 200 < _
      omega
  have hp0 : Passes (L2.CX X.prog X.w) X.deep2 (fun _ _ _ => False) := fun pins σ H s e s' I c => by
    obtain ⟨_, _, _, _, _, _, _, _, _, _, _, _, c⟩ := c
    exact c.elim
  have pz : PE X (.Name z p2) (tC (.ref fa)) := pe_glob (v := .ref fa) (k.gl z hgz) hm (by show RelV (.ref fa) (.ref fa); rfl) (plain_db hpz)
  refine (pe_callBK (cr_sortedBy ok hr bd hp0) (k.gl _ hg) (k.w.blt _ hx) (by decide +kernel) (pa_cons ha.pe pa_nil (star_eq hs _ _)) (pk_cons pz pk_nil) (by decide) (by decide) (by rw [star_eq hs [] X.env]; rfl) (by rw [star_eq hs [] X.env]; rfl) rfl rfl rfl).run pins s σ H Q I ?_
  obtain ⟨F, μ, ρ, h, c, er, p⟩ := q
  refine ⟨F, μ, ρ, h, c, er, (Post.bind p).mono fun x H1 q => ?_⟩
  obtain ⟨F1, μ1, v, h1, x1, c1, r1, p⟩ := q
  show rSortedBy X.K fa (spF D P d f) [x] [.ref fa] H1 Q
  split at p
  · rename_i xs G0 hxs hG0
    split at p
    · rename_i hok
      simp only [Bool.and_eq_true, Bool.not_eq_true', decide_eq_true_eq] at hok
      obtain ⟨⟨hkeep, hlen⟩, hall⟩ := hok
      have hall := List.all_eq_true.mp hall
      obtain ⟨l, us, rfl, hl, rq⟩ := asList_ok c1 r1 hxs
      have item : ∀ (i : Nat) v u, xs[i]? = some v → us[i]? = some u → below deep 0 v = true ∧ fstOf v = some (pairI (firstI v)) ∧ callC P (run P d) f [v] h1 = .ok (pairI (firstI v)) h1 ∧ RV D F1 μ1 v u ∧ (∃ t, u = .ref t) ∧ firstF F1 u = firstI v := fun i v u h2 h3 => by
        obtain ⟨b1, b2, h', b3⟩ := keyIs_ok (hall v (List.mem_of_getElem? h2))
        have e' := callC_same hG0 hkeep b1 b3
        subst e'
        obtain ⟨u', h4, h5⟩ := rq.get h2
        rw [h3] at h4
        cases h4
        obtain ⟨t, xs', f', a1, _, _, a4, _⟩ := first_rel h5 b2
        exact ⟨b1, b2, b3, h5, ⟨t, a1⟩, a4⟩
      refine ⟨l, us, firstF F1, fun ks H' => ∃ F' μ', Xt F1 μ1 H1 F' μ' H' ∧ CS D F' μ' h1 H' ∧ RVs D F' μ' ((xs.take ks.length).map fun v => pairI (firstI v)) ks, rfl, rfl, .of hl, by rw [← rq.length]; exact hlen, fun u hu => ?_, ⟨fun ks H' u j gu => ?_, fun ks H' j i y u gy gu => ?_⟩, ⟨F1, μ1, .refl _ _ _, c1, by simpa using RVs.nil⟩, fun ks H' j hlk q hq => ?_⟩
      · obtain ⟨i, hi⟩ := List.getElem?_of_mem hu
        obtain ⟨v, hv, _⟩ := rq.get' hi
        exact (item i v u hv hi).2.2.2.2.1
      · obtain ⟨F', μ', x', c', rk⟩ := j
        obtain ⟨v, hv, _⟩ := rq.get' gu
        obtain ⟨b1, b2, b3, b4, _, _⟩ := item _ v u hv gu
        refine call_reads c' (.cons (b4.mono x'.f x'.m) .nil) ?_
        rw [b3]
        intro F2 μ2 H2 y x2 c2 r2
        refine ⟨F2, μ2, x'.trans x2, c2, ?_⟩
        have lt : ks.length < xs.length := (List.getElem?_eq_some_iff.mp hv).1
        rw [List.length_append, List.length_singleton, List.take_succ, hv, List.map_append]
        exact (rk.mono x2.f x2.m).append (.cons r2 .nil)
      · obtain ⟨F', μ', x', c', rk⟩ := j
        obtain ⟨v, hv, _⟩ := rq.get' gu
        obtain ⟨_, _, _, _, _, b6⟩ := item _ v u hv gu
        obtain ⟨w, hw, rw'⟩ := rk.get' gy
        have ew : w = pairI (firstI v) := by
          have hi : i < ks.length := (List.getElem?_eq_some_iff.mp gy).1
          rw [List.getElem?_map, List.getElem?_take, if_pos hi, hv] at hw
          exact (Option.some.inj hw).symm
        subst ew
        obtain ⟨t, a, b, e1, e2, e3, _⟩ := pair_rel rw' rfl
        cases e3
        rw [b6]
        exact ⟨t, e1, c'.sub.tup e2⟩
      · obtain ⟨F', μ', x', c', rk⟩ := j
        refine post_lst c' ((rq.mono x'.f x'.m).sort fun q1 h2 q2 h3 => ?_) (Post.from x' p) hq
        obtain ⟨i, i1, i2⟩ := zipGet h2
        obtain ⟨j, j1, j2⟩ := zipGet h3
        obtain ⟨_, a2, _, _, _, a6⟩ := item i _ _ i1 i2
        obtain ⟨_, b2, _, _, _, b6⟩ := item j _ _ j1 j2
        show SrtO.lexB (firstF F1 q1.2) (firstF F1 q2.2) = keyB q1.1 q2.1
        unfold keyB
        rw [a2, b2, a6, b6]
        dsimp only
        rw [ltB_pair]
    · exact p.elim
  · exact p.elim
end
end IL
end

section
set_option autoImplicit false
set_option linter.all false
set_option Elab.async false
set_option maxRecDepth 100000
set_option maxHeartbeats 8000000
/-! IL: an exception that is caught is held as a value. -/
namespace IL
open PySem L2 PyProof.Rows
section
variable {X : Cx} {pins : List (Addr × Obj)} {σ : L2.St} {H : Hp} {s : Shared}
theorem exH_ok {P : Program} {w : World} {H : Hp} {h : Heap} {a A : Addr} {oe : Obj} {vs : Array Value} (e : h.get? a = some oe) (z : Zc (.ref A) none oe) (d : oe.data = .fields vs) : ObjOk P w H h a (ExH A a) :=
  ⟨⟨oe, vs, e, z, d⟩, ⟨oe, e⟩, fun _ _ ⟨o, v, q, r⟩ k => ⟨o, v, k o q, r⟩⟩
/-- an object that the frame's start did not have is tracked from now on -/
theorem track {a : Addr} {o : HO} (I : L2.Inv X pins σ H s) (h0 : X.s_0.heap.get? a = none) (hn : H a = none) (new : ObjOk X.prog X.w (upd H a o) s.heap a o) (nL : a ≠ X.env.locals)
    (nc : ∀ x c, X.env.cells.lookup x = some c → c ≠ a) (np : ∀ p ∈ X.pn ++ pins, p.1 ≠ a) : L2.Inv X pins σ (upd H a o) s := by
  have nb : ∀ b u, X.s_0.heap.get? b = some u → b ≠ a := fun b u e z => by
    rw [z, h0] at e
    cases e
  have U : Un X.fs X.ex X.H_0 (upd H a o) X.s_0.heap s.heap := {
    keep := I.base.keep
    slot := I.base.slot
    free := fun b u e n x => (upd_ne (nb b u e)).trans (I.base.free b u e n x)
    there := I.base.there
    tups := fun b xs e => by
      have q := I.base.tups b xs e
      rw [upd_ne (ne_of_none q hn)]
      exact q
    frzs := fun b u xs e => by
      have q := I.base.frzs b u xs e
      rw [upd_ne (ne_of_none q hn)]
      exact q
    tbls := fun b ps e => by
      obtain ⟨m, q⟩ := I.base.tbls b ps e
      exact ⟨m, by rw [upd_ne (ne_of_none q hn)]; exact q⟩ }
  exact {
    ok := I.ok
    os := I.os
    bare := I.bare
    base := U
    loc := I.loc
    cell := I.cell
    free := (upd_ne nL.symm).trans I.free
    freeC := fun x c e => (upd_ne (nc x c e)).trans (I.freeC x c e)
    pin := fun p hp => by
      obtain ⟨z1, z2, z3⟩ := I.pin p hp
      exact ⟨z1, (upd_ne (np p hp)).trans z2, z3⟩
    hok := I.hok.laidN (fun _ _ e => e) hn new
    len := I.len }
/-- into an except suite -/
theorem inSuite {a : Addr} (I : L2.Inv X pins σ H s) : L2.Inv (X.suite a (X.pn ++ pins)) [] σ H s where
  ok := I.ok.suite _ _
  os := I.os
  bare := I.bare
  base := I.base
  loc := I.loc
  cell := I.cell
  free := I.free
  freeC := I.freeC
  pin := fun p hp => I.pin p (by simpa using hp)
  hok := I.hok
  len := I.len
/-- .. and out of it -/
theorem outSuite {a : Addr} {pn' : List (Addr × Obj)} (I : L2.Inv (X.suite a (X.pn ++ pins)) pn' σ H s) (ok : X.Ok) : L2.Inv X pins σ H s where
  ok := ok
  os := I.os
  bare := I.bare
  base := I.base
  loc := I.loc
  cell := I.cell
  free := I.free
  freeC := I.freeC
  pin := fun p hp => I.pin p (List.mem_append_left _ hp)
  hok := I.hok
  len := I.len
/-- what 'except c as n' wishes of the body's exceptions -/
def wEx (K : Frag) (c : Value) (i m : Nat) (ts : Addr → TS) (E : Ends) : WX := fun cls d σ H => PySem.W.exmOne K cls c = some true ∧ d = none ∧ ∃ A, cls = .ref A ∧
  ∀ a, H a = none → σ.length = m → ts a { nx := fun σ' H' => E.nx (σ'.set i none) H', rt := E.rt, bk := fun σ' H' => E.bk (σ'.set i none) H', ct := fun σ' H' => E.ct (σ'.set i none) H' } (σ.set i (some (.ref a))) (upd H a (ExH A a))
variable {x n : Str} {c : Value} {i : Nat} {body suite : List Stmt} {b₀ : Stmt} {np pos pos' : Pos} {tb : WX → TS} {ts : Addr → TS}
theorem ps_try_ex (own : X.stack = X.env :: X.outer) (frame : X.env.frame = some X.env.locals) (ex0 : X.ex = []) (nd : X.N.Nodup) (hi : X.N[i]? = some n) (ln : X.env.kindOf n = some .local) (hc : Names X x c)
    (hb : ∀ (W : WX) (pn : List (Addr × Obj)) (xe : Value → Shared → Prop), Takes (X.tr pn xe) W → PassesOwn (model X.prog X.w) X.A X.env xe → PSs (X.tr pn xe) body (tb W))
    (hsu : ∀ (a : Addr) (pn : List (Addr × Obj)), PSs (X.suite a pn) (b₀ :: suite) (ts a)) :
    PS X (.Try body [.ExceptHandler (some (.Name x np)) (some n) (b₀ :: suite) pos'] [] [] pos) (fun E σ H => tb (wEx X.K c i X.N.length ts E) E σ H) := by
  refine ⟨fun pins s σ H E I h => ?_⟩
  have ok := I.ok
  have frames : X.A.frames = some (X.env :: X.outer) := ok.frames.trans (by rw [own])
  refine wpAny_Try_except (wpAny_mono ((hb _ (X.pn ++ pins) _ (fun u s' air => ?_) PassesOwn.looking).run [] s σ H E (I.toTry _) h) (fun f s1 q => ?_) fun _ _ q => q)
  · -- it flies: it is caught here
    obtain ⟨a, B, sI, pn', σ1, H1, cls, d, rfl, J0, ground, up, sky, na, os, ag, hm, rfl, A, rfl, go⟩ := air
    have J : L2.Inv X pins σ1 H1 sI := J0.ofTry ok
    rw [own] at sky
    show wpAny (model X.prog X.w) X.A (noteFrame (.ref a) X.env) _ _ _
    refine Sky.land Zc.steady frames frame sky fun h3 fl3 up3 => ?_
    have J3 : L2.Inv X pins σ1 H1 { s' with heap := h3 } := J.landed ground fl3.1 (up.trans up3) os ag
    obtain ⟨oe, vs, e3, z3, d3⟩ := fl3.there
    have T : PySem.W.Looks (model X.prog X.w) h3 (typeOf (.ref a)) (.ref A) := fun A' Q E' s k q => wpAny_typeOf_ref (k _ _ e3) (by rw [z3.1]; exact q)
    have M := PySem.W.exm_one (M := model X.prog X.w) J3.kIn T hm
    have asks : ∀ {Q : Value → Shared → Prop} {E' : Value → Shared → Prop}, Q c { s' with heap := h3 } → wpAny (model X.prog X.w) (X.A.mark (some (.ref a))) (eval (.Name x np) X.env) Q E' { s' with heap := h3 } := fun {Q E'} q => by
      have S := inSuite (a := a) J3
      rcases hc with ⟨g, nb, m | ⟨m, bo, nn⟩⟩
      · exact ld_glob S g m q nb
      · exact ld_blt S g m bo q nn nb
    refine wpAny_handleBy_cons (codeAny_handlers_test (asks (M.here ?_))) (by intro q; cases q)
    refine codeAny_handlers_suite_as (HandSPX.lands_againZ fl3 fun h4 fl4 up4 => ?_)
    have J4 : L2.Inv X pins σ1 H1 { s' with heap := h4 } := J.landed ground fl4.1 ((up.trans up3).trans up4) os ag
    obtain ⟨o4, v4, e4, z4, d4⟩ := fl4.there
    -- where it lies
    have off : a ∉ frs (X.env :: X.outer) := fun q => by
      obtain ⟨_, o, e, nf⟩ := fl4.2.2.1.mem q
      rw [e4] at e
      cases e
      exact nf _ d4
    have nL : a ≠ X.env.locals := fun z => off (List.mem_filterMap.mpr ⟨X.env, List.mem_cons_self, by rw [frame, z]⟩)
    have nI : sI.heap.get? a = none := by
      cases q : sI.heap.get? a with
      | none => rfl
      | some o =>
        have z := ground a o q (by rw [own]; exact off)
        rw [fl4.2.1] at z
        cases z
    have n0 : X.s_0.heap.get? a = none := by
      cases q : X.s_0.heap.get? a with
      | none => rfl
      | some o =>
        obtain ⟨o', z⟩ := J.base.there a o q (by rw [ex0]; simp)
        rw [nI] at z
        cases z
    have K4 : L2.Inv X pins σ1 (upd H1 a (ExH A a)) { s' with heap := h4 } := track J4 n0 na (exH_ok e4 z4 d4) nL (fun y k e z => by
        obtain ⟨v, o, ho, hd⟩ := J4.cell y k e
        rw [z, e4] at ho
        cases ho
        rw [d4] at hd
        cases hd) fun p hp z => by
        have q := (J.pin p hp).1
        rw [z, nI] at q
        cases q
    have S4 := inSuite (a := a) K4
    refine store_ok (X := X.suite a (X.pn ++ pins)) (v := .ref a) S4 nd hi (.inl ln) rfl (fun s5 S5 => ?_) (.inr ln)
    refine wpAny_mono ((hsu a (X.pn ++ pins)).run [] s5 _ _ _ S5 (go a na J.len)) (fun f s6 q => ?_) fun _ _ z => z.elim
    have bye : ∀ {σ6 : L2.St} {H6 : Hp} {Q : Shared → Prop}, L2.Inv (X.suite a (X.pn ++ pins)) [] σ6 H6 s6 → (∀ s7, L2.Inv X pins (σ6.set i none) H6 s7 → Q s7) →
        wpAny (model X.prog X.w) X.A (do bindName X.env n .none; unbindBehindTheSuite X.env n pos') (fun _ s7 => Q s7) X.xe s6 := fun S6 q => gone_ok (outSuite S6 ok) nd hi ln q
    cases f with
    | ret u =>
      obtain ⟨v, σ6, H6, S6, r6, q6⟩ := q
      exact bye S6 fun s7 J7 => ⟨v, _, _, J7, r6, q6⟩
    | next =>
      obtain ⟨σ6, H6, S6, q6⟩ := q
      exact bye S6 fun s7 J7 => ⟨_, _, J7, q6⟩
    | brk =>
      obtain ⟨σ6, H6, S6, q6⟩ := q
      exact bye S6 fun s7 J7 => ⟨_, _, J7, q6⟩
    | cont =>
      obtain ⟨σ6, H6, S6, q6⟩ := q
      exact bye S6 fun s7 J7 => ⟨_, _, J7, q6⟩
  · -- nothing flies
    cases f with
    | ret u =>
      obtain ⟨v, σ6, H6, S6, r6, q6⟩ := q
      exact ⟨v, σ6, H6, S6.ofTry ok, r6, q6⟩
    | next =>
      obtain ⟨σ6, H6, S6, q6⟩ := q
      exact wpAny_execs_nil ⟨σ6, H6, S6.ofTry ok, q6⟩
    | brk =>
      obtain ⟨σ6, H6, S6, q6⟩ := q
      exact ⟨σ6, H6, S6.ofTry ok, q6⟩
    | cont =>
      obtain ⟨σ6, H6, S6, q6⟩ := q
      exact ⟨σ6, H6, S6.ofTry ok, q6⟩
end
end IL
end

section
set_option autoImplicit false
set_option linter.all false
set_option Elab.async false
set_option maxRecDepth 100000
set_option maxHeartbeats 4000000
/-! IL: isinstance of an exception that is held. -/
namespace IL
open PySem L2 PyProof.Rows
section
variable {D : Wd} {P : Pg} {d : Nat} {G : Gt} {N : List Str} {sc : Scope} {W : WX} {X : Cx}
/-- isinstance(e, c), e held, an instance of D -/
theorem call_isX : CallR X (.builtin "isinstance") (fun xs H Q => ∃ (a A : Addr) (c : V) (u : Value) (b : Bool), ExcC X.K A ∧ xs = [.ref a, c] ∧ H a = some (ExH A a) ∧ ClsV c u ∧ PySem.W.kitOne X.K (.ref A) u = some b ∧ Q (.bl b) H) := by
  intro pins s σ H xs us Q I r h
  obtain ⟨a, A, c, u, b, C, rfl, ha, k, e, q⟩ := h
  obtain ⟨u1, u2, rfl, r1, r2⟩ := vals2 r
  cases r1
  have e2 := k.eq r2
  subst e2
  obtain ⟨⟨oe, vs, h1, h2, h3⟩, _, _⟩ := I.hok a _ ha
  have J : PySem.W.InstAt s.heap a oe A none := by
    obtain ⟨oc, od, oda, osl⟩ := oe
    obtain ⟨z1, z2⟩ := h2
    dsimp only at z1 z2 h3
    subst z1 z2 h3
    exact ⟨h1, rfl, rfl, trivial⟩
  exact PySem.W.kia_one (PySem.W.handS_kitx_exc C.hg C.hk C.hs C.hd C.ha C.hn C.ht C.hm) I.kIn J e (fun z => nomatch z) fun tk => ⟨.bl b, H, I.kept (t' := tk) fun _ _ z => z, rfl, q⟩
theorem _root_.IL.FSub.exh {F H : Hp} {a A : Addr} (e : FSub F H) (h : F a = some (ExH A a)) : H a = some (ExH A a) := by
  rcases e _ _ h with q | ⟨ob, _, ⟨k, q⟩ | ⟨k, q⟩⟩
  · exact q
  · unfold ExH at q; cases q
  · unfold ExH at q; cases q
variable {ea : Ev → Hh → Rs Vl} {a : Expr} {pos p : Pos}
theorem e_isE (k : XBase D P d G N sc X) {C : Nat} {t : Str} {p2 : Pos} (hg : glB sc ("isinstance" : Str) = true) (hx : G.bl ("isinstance" : Str) = true) (hgt : glB sc t = true) (hpt : plainNm t = true) (ht : G.is t = some C) (hs : noStar a = true) (ha : EOk D W X ea a) :
    EOk D W X (fun ρ h => (ea ρ h).bind fun x h1 => match isExn x with
      | some D => if 10 ≤ D then .ok (.bl (P.sub D C)) h1 else .bad
      | none => .bad) (.Call (.Name ("isinstance" : Str) p) [a, .Name t p2] [] pos) := by
  refine eok_val ⟨fun pins s σ H Q I q => ?_⟩ (by intro _; rfl)
  obtain ⟨v, u, hv, kv, tab⟩ := k.w.iss t C ht
  have pt : PE X (.Name t p2) (tC v) := by
    rcases hv with ⟨rfl, rfl, m, b⟩ | ⟨B, rfl, rfl, m⟩
    · exact pe_bltn (k.gl t hgt) m b (show RelV (.ty "ValueError") (.type "ValueError") from rfl) (plain_nm hpt) (plain_db hpt)
    · exact pe_glob (v := .ref B) (k.gl t hgt) m (show RelV (.ref B) (.ref B) from rfl) (plain_db hpt)
  have pl : PA X [a, .Name t p2] (tCons (tE D W ea) (tCons (tC v) tNil)) := pa_cons ha.pe (pa_cons pt pa_nil) (star_eq hs _ _)
  refine (pe_callB call_isX (k.gl _ hg) (k.w.blt _ hx) (by decide +kernel) pl (by decide) (by decide) (star_eq hs _ _) rfl).run pins s σ H Q I ?_
  obtain ⟨F, μ, ρ, h, c, er, p⟩ := q
  refine ⟨F, μ, ρ, h, c, er, (Post.bind p).mono fun x H1 q => ?_⟩
  obtain ⟨F1, μ1, w, h1, x1, c1, r1, p⟩ := q
  cases r1 with
  | @exn C' a A hf hc =>
    dsimp only [isExn] at p
    split at p
    · rename_i h10
      exact ⟨a, A, v, u, _, k.w.exi C' A h10 hc, rfl, c1.sub.exh hf, kv, tab C' A h10 hc, post_same c1 (.bl _) p⟩
    · exact p.elim
  | _ => exact p.elim
end
end IL
end

section
set_option autoImplicit false
set_option linter.all false
set_option Elab.async false
set_option maxRecDepth 100000
set_option maxHeartbeats 8000000
/-! IL: what a lambda tells, or how it is refused. -/
namespace IL
open PySem L2 PyProof.Rows
/-- the tables grow -/
theorem CS.grow {D : Wd} {F : Hp} {μ : List Addr} {h : Hh} {H H1 : Hp} (c : CS D F μ h H) (e : LamX.ExtN H H1) (t : LamX.Tabs D.T H1) : CS D F μ h H1 ∧ Xt F μ H F μ H1 := by
  refine ⟨⟨fun a o f => ?_, c.len, c.inj, fun l o f => ?_, t, c.tab.n⟩, ⟨.refl _, .refl _, fun a o f _ nt => e a o f nt, fun a nf z => nf fun o f => ?_, fun a o f => .inl f, fun a f => .inl f, fun a o u f => e a _ f fun _ z => by cases z⟩⟩
  · rcases c.sub a o f with q | ⟨ob, q, z⟩
    · exact .inl (e a o q fun ps z => c.tab.n a ps (z ▸ f))
    · exact .inr ⟨ob, e a _ q (fun _ z => by cases z), z⟩
  · obtain ⟨a, u, e1, e2, e3, e4⟩ := c.ob l o f
    exact ⟨a, u, e1, e2, e a u e3 e4.nt, e4⟩
  · by_cases q : ∃ ps, o = .tbl ps
    · exact q
    · exact z o (e a o f fun ps y => q ⟨ps, y⟩)
section
variable {X : Cx} {CX : CXT} {k : Nat} {f : Addr} {fd : FuncData} {ps : List Str} {sp : Sp} {x : Str} {q pos : Pos} {e : Expr} {t : TA}
/-- x(e), while an exception is handled -/
theorem pe_callHt (F : FnHt X.prog X.w X.K X.mg X.base (L2.CX X.prog X.w) k f fd ps sp) (hr : L2H.RoomH k X.A) (hg : Gl X x) (hm : X.mg x = some (.ref f)) (hk : PySem.W.keepIn X.K (.ref f) = true) (hb : Binds X.K fd ps [])
    (ha : PA X [e] t) (hdb : (x == ("__debug__" : Str)) = false) (he : noStar e = true) : PE X (.Call (.Name x q) [e] [] pos) (fun σ H Q => t σ H fun vs H1 => sp vs H1 Q fun _ _ _ => False) := by
  refine ⟨fun pins s σ H Q I h => wpAny_Call_Name_kw (ld_glob I hg hm ?_ hdb)⟩
  refine PySem.W.callWith_K (h₀ := X.base) I.ok.mod.kin hk (thn (ha.run pos pins s σ H _ I h) fun us s1 ⟨vs, H1, J, r, z⟩ => ⟨J.kIn, ?_⟩) (star_eq he _ _) rfl
  have len : us.length = ps.length := r.length.symm.trans (F.len _ _ _ _ z)
  have b := hb s1 us J.kIn (by rw [List.append_nil]; exact len)
  rw [List.append_nil] at b
  refine wpAny_call (codeAny_mono (F.run _ _ s1 H1 ⟨us, []⟩ us vs Q _ hr J.env0 b r z) fun res s2 y => ?_)
  match res, y with
  | .ok (.ret u), y => exact J.after y
  | .ok .next, y => exact y.elim
  | .ok .brk, y => exact y.elim
  | .ok .cont, y => exact y.elim
  | .error u, y =>
    obtain ⟨_, _, _, _, _, _, _, _, _, _, _, _, y⟩ := y
    exact y.elim
end
section
variable {D : Wd} {P : Pg} {d : Nat} {G : Gt} {N : List Str} {sc : Scope} {W : WX} {X : Cx}
/-- what is made of a lambda's reading -/
def TTx (D : Wd) (P : Pg) (d : Nat) (K : Frag) (CS : Addr) (f : Nat) : (XK → Hp → VK → Prop) → Hp → VK → Prop := fun tl H Q =>
  tl (fun cls o H' => PySem.W.exmOne K cls (.ref CS) = some true ∧ o = none ∧ ∃ A, cls = .ref A ∧ ∀ a, H' a = none → spF D P d f [.ref a] (upd H' a (ExH A a)) Q fun _ _ _ => False) H Q
theorem told_gives {g CS fa : Addr} {fd' : FuncData} {sg : Scope} {a e n y x qq : Str} {ps : List Str} {f : Nat} {cdv : Value} {p1 p2 p3 p4 p7 p8 q1 q2 q3 q4 : Pos} (S : FnScope [a, n] [a] sg) (la : sg.names.lookup a = some .local) (ln : sg.names.lookup n = some .local)
    (le : sg.names.lookup e = some .globalImplicit) (ly : sg.names.lookup y = some .globalImplicit) (pn : plainNm n = true) (pe : plainNm e = true) (py : plainNm y = true) (me : X.mg e = some (.ref CS)) (my : X.mg y = some (.ref fa)) (ky : PySem.W.keepIn X.K (.ref fa) = true)
    (by_ : Binds X.K fd' ps []) (F : FnHt X.prog X.w X.K X.mg X.base (L2.CX X.prog X.w) (4 * d) fa fd' ps (spF D P d f)) (hr : Room (4 * d + 3) X.A) :
    LamX.GivesTo X [a, n] x sg g cdv (toldB a e n y p1 p2 p3 p4 p7 p8 q1 q2 q3 q4) a qq (TTx D P d X.K CS f) := by
  intro lf c' s H Q tl act hc h
  have ne : a ≠ n := by
    have := S.nd
    simp at this
    exact this
  refine ⟨_, pss_one (ps_try_ex (X := (cxOf C8.CX0 X.prog X.w X.K X.mg X.base [a, n] x sg g cdv X.A X.stack s H C8.E0).nox) (i := 1) (c := .ref CS)
      (tb := fun W E σ H => ∃ U : XK, (∀ cls o σ' H', U cls o H' → W cls o σ' H') ∧ σ[0]? = some (some (.ref lf)) ∧ H c' = some (LamX.CodeO c' qq) ∧ tl U H E.rt)
      (ts := fun b E σ H => σ[1]? = some (some (.ref b)) ∧ spF D P d f [.ref b] H E.rt fun _ _ _ => False)
      rfl rfl rfl S.nd rfl ln ⟨le, plain_db pe, .inl me⟩ (fun W pn' xe tk _ => ?_) (fun b pn' => ?_)), ?_⟩
  · refine ⟨fun pins s' σ H' E I h' => ?_⟩
    obtain ⟨U, hU, h1, h2, h3⟩ := h'
    exact (pss_one (ps_ret (act W pn' xe U p1 p2 tk hU))).run pins s' σ H' E I ⟨h1, h2, h3⟩
  · have gy : Gl ((cxOf C8.CX0 X.prog X.w X.K X.mg X.base [a, n] x sg g cdv X.A X.stack s H C8.E0).nox.suite b pn') y := ly
    have vn : Vis ((cxOf C8.CX0 X.prog X.w X.K X.mg X.base [a, n] x sg g cdv X.A X.stack s H C8.E0).nox.suite b pn').env.scope n := .inl ln
    refine ⟨fun pins s2 σ2 H2 E2 I2 z => (pss_one (ps_ret (pe_callHt (X := (cxOf C8.CX0 X.prog X.w X.K X.mg X.base [a, n] x sg g cdv X.A X.stack s H C8.E0).nox.suite b pn') (k := 4 * d) F ?_ gy my ky by_ (pa_cons (pe_var (X := (cxOf C8.CX0 X.prog X.w X.K X.mg X.base [a, n] x sg g cdv X.A X.stack s H C8.E0).nox.suite b pn') (i := 1) rfl vn (plain_db pn) ?_) pa_nil) (plain_db py) rfl))).run pins s2 σ2 H2 E2 I2 ⟨_, z.1, z.2⟩⟩
    · have r := (L2H.roomH_of hr).deeper (envOfC x sg s.heap.objs.size g cdv)
      exact ⟨by have := r.dp; show (X.A.deeper (envOfC x sg s.heap.objs.size g cdv)).depth + _ + 5 < _; omega, by have := r.un; show (X.A.deeper (envOfC x sg s.heap.objs.size g cdv)).units + _ + 200 < _; omega⟩
    · simp only [plainNm, Bool.and_eq_true, Bool.not_eq_true'] at pn
      exact pn.1.2
  · refine ⟨fun cls o H' => PySem.W.exmOne X.K cls (.ref CS) = some true ∧ o = none ∧ ∃ A, cls = .ref A ∧ ∀ a, H' a = none → spF D P d f [.ref a] (upd H' a (ExH A a)) Q fun _ _ _ => False, fun cls o σ' H' z => ?_, rfl, hc, h⟩
    obtain ⟨z1, z2, A, z3, z4⟩ := z
    refine ⟨z1, z2, A, z3, fun b hb hl => ⟨?_, z4 b hb⟩⟩
    have hl : σ'.length = 2 := hl
    rw [List.getElem?_set_self (by omega)]
/-- x(lambda: e) -/
theorem e_told (k : XOk D P d G N sc W X) {x : Str} {C f : Nat} {body : Expr} {scope : Scope} {p lpos pos : Pos} {ea : Ev → Hh → Rs Vl} (hg : glB sc x = true) (hp : plainNm x = true) (ht : G.td x = some (C, f)) (hl : sc ∈ G.lams) (L : LamX.LamS sc scope) (hn : scope ∉ G.lams)
    (hb : ∀ {W : WX} {X : Cx}, XOk D P d G N scope W X → EOk D W X ea body) :
    EOk D W X (fun ρ h => match ea ρ h with
      | .ok v h1 => .ok v h1
      | .exc C' h1 => if decide (10 ≤ C') && P.sub C' C then (callC P (run P d) f [.exn C'] h1).calm else .bad
      | .bad => .bad) (.Call (.Name x p) [.Lambda ⟨[], [], none, [], [], none, []⟩ body scope lpos] [] pos) := by
  refine eok_val ?_ (by intro _; rfl)
  obtain ⟨g, CS, fa, fd, fd', pg, sg, a, e, n, y, ps, p1, p2, p3, p4, p7, p8, q1, q2, q3, q4, F, mx, bd, S, la, ln, le, ly, hC, pa, pn, pe, py, hCS, me, my, ky, by_, Ft⟩ := (k.w.tds x C f ht).ex
  obtain ⟨c, Q, hcode, TB, hT, hr⟩ := k.lam hl
  have kp := F.kp
  obtain ⟨oc, od, dV, kV, doc, pm, an, cdv, ct, osl, rfl, lk, hcd, _, _⟩ := F.ex
  simp only [plainNm, Bool.and_eq_true, Bool.not_eq_true'] at pa
  have L' : LamX.LamS X.env.scope scope := ⟨L.kind, L.co, L.gen, L.own, fun y hy ey => by
    rcases L.free y hy ey with z | z
    · exact k.free _ _ z (.inl rfl)
    · exact k.free _ _ z (.inr rfl)⟩
  refine (LamX.pe_lamcall (k := 4 * d + 1) (T := D.T) (TT := TTx D P d X.K CS f) (a := a) (Ng := [a, n]) (t := fun E => tE D (fun cls o _ H => E cls o H) ea) (k.gl x hg) mx kp lk hcd bd S rfl (.inl la) (told_gives S la ln le ly pn pe py me my ky by_ Ft hr) TB hcode hT (fun q hq e => k.w.tu q hq _ hT e) (hr.mono (by omega)) L' rfl (fun _ _ _ _ _ => rfl)
    (fun A outer s H E lf c' hr2 => (hb (W := fun cls o _ H => E cls o H) ?_).pe) (plain_db hp) pa.1.1 pa.1.2).imp fun σ H R q => ?_
  · exact {
      w := k.w
      hN := k.hN
      nd := k.nd
      hu := units_of hr2
      vis := fun z hz => by
        unfold visB at hz
        split at hz
        · rename_i e; exact .inl e
        · rename_i e; exact .inr (.inl e)
        · rename_i e; exact .inr (.inr e)
        · cases hz
      gl := fun z hz => by
        unfold glB at hz
        split at hz
        · rename_i e; exact e
        · cases hz
      loc := fun z hz => by
        rcases hz with e | e
        · exact absurd rfl (L.own _ (PySem.mem_of_lookup e)).1
        · exact absurd rfl (L.own _ (PySem.mem_of_lookup e)).2
      free := fun z kk e hz => by
        rcases hz with rfl | rfl
        · exact .inl e
        · exact .inr e
      calm := rfl
      room := hr2
      tk := takes_of rfl rfl rfl rfl
      lam := fun z => absurd z hn }
  · obtain ⟨F, μ, ρ, h, c1, er, q⟩ := q
    refine ⟨c1.tab.t, fun H1 eN T1 => ?_⟩
    obtain ⟨c2, x2⟩ := c1.grow eN T1
    refine ⟨F, μ, ρ, h, c2, er, ?_⟩
    dsimp only at q
    cases ee : ea ρ h with
    | bad => rw [ee] at q; exact q
    | ok v h1 => rw [ee] at q; exact q.from x2
    | exc C' h1 =>
      rw [ee] at q
      dsimp only at q
      split at q
      · rename_i hs
        simp only [Bool.and_eq_true, decide_eq_true_eq] at hs
        intro F1 μ1 H2 A x3 c3 hA
        refine ⟨?_, rfl, A, rfl, fun b hb => ?_⟩
        · rw [k.w.exm C CS hC hCS C' A hs.1 hA, hs.2]
        · obtain ⟨c4, x4⟩ := c3.new hb (ExH A b) (fun _ z => by unfold ExH at z; cases z)
          refine call_reads c4 (.cons (.exn upd_same hA) .nil) ?_
          have q := (q.from x2).from (x3.trans x4)
          cases ec : callC P (run P d) f [.exn C'] h1 with
          | bad => rw [ec] at q; exact q
          | exc C2 h2 => rw [ec] at q; exact q.elim
          | ok v h2 => rw [ec] at q; exact q
      · exact q.elim
end
end IL
end

section
set_option autoImplicit false
set_option linter.all false
set_option Elab.async false
set_option maxRecDepth 100000
set_option maxHeartbeats 8000000
/-! IL: every expression. -/
namespace IL
open PySem L2 PyProof.Rows
section
variable {D : Wd} {P : Pg} {d : Nat} {G : Gt} {N : List Str}
theorem EOk.eq {W : WX} {X : Cx} {ev ev' : Ev → Hh → Rs Vl} {e : Expr} (h : ∀ ρ h, ev' ρ h = ev ρ h) (k : EOk D W X ev e) : EOk D W X ev' e := by
  have : ev' = ev := by funext ρ h'; exact h ρ h'
  rw [this]; exact k
theorem WOkE.eq {W : WX} {X : Cx} {ev ev' : Ev → Hh → Rs Vl} {e : Expr} (h : ∀ ρ h, ev' ρ h = ev ρ h) (k : WOkE D W X ev e) : WOkE D W X ev' e := by
  have : ev' = ev := by funext ρ h'; exact h ρ h'
  rw [this]; exact k
theorem PA.eq {W : WX} {X : Cx} {ev ev' : Ev → Hh → Rs (List Vl)} {es : List Expr} (h : ∀ ρ h, ev' ρ h = ev ρ h) (k : PA X es (tL D W ev)) : PA X es (tL D W ev') := by
  have : ev' = ev := by funext ρ h'; exact h ρ h'
  rw [this]; exact k
theorem chk_noStar {i : Ex} {sc : Scope} {e : Expr} (h : chkE G N i sc e = true) : noStar e = true := by
  cases e <;> first | rfl | (cases i <;> simp [chkE] at h)
theorem chks_noStar : ∀ {is : List Ex} {sc : Scope} {es : List Expr}, chkL G N is sc es = true → es.all noStar = true
  | [], _, [], _ => rfl
  | [], _, _ :: _, h => by simp [chkL] at h
  | _ :: _, _, [], h => by simp [chkL] at h
  | i :: is, sc, e :: es, h => by
    simp only [chkL, Bool.and_eq_true] at h
    rw [List.all_cons, chk_noStar h.1, chks_noStar h.2]; rfl
theorem chk_noSet {i : Ex} {sc : Scope} {e : Expr} (h : chkE G N i sc e = true) : ∀ (env : Env) x, foldedSetIterable e env x = pure x := by
  intro env x
  cases e <;> first | rfl | (cases i <;> simp [chkE] at h)
theorem chk_noMark {i : Ex} {sc : Scope} {e : Expr} (h : chkE G N i sc e = true) : ∀ p, behindInMarks p e = false := by
  intro p
  cases e <;> first | (cases p <;> rfl) | (cases i <;> simp [chkE] at h)
theorem chk_plainIx {i : Ex} {sc : Scope} {e : Expr} (h : chkE G N i sc e = true) : PlainIx e := by
  intro o x
  cases e <;> first | rfl | (cases i <;> simp [chkE] at h)
theorem chks_nil {is : List Ex} {sc : Scope} (h : chkL G N is sc [] = true) : is = [] := by
  cases is with
  | nil => rfl
  | cons => simp [chkL] at h
theorem chks_len : ∀ {is : List Ex} {sc : Scope} {es : List Expr}, chkL G N is sc es = true → is.length = es.length
  | [], _, [], _ => rfl
  | [], _, _ :: _, h => by simp [chkL] at h
  | _ :: _, _, [], h => by simp [chkL] at h
  | i :: is, sc, e :: es, h => by
    simp only [chkL, Bool.and_eq_true] at h
    simp [chks_len h.2]
theorem evalL_len {cf : Nat → List Vl → Hh → Rs Vl} : ∀ (is : List Ex) (ρ : Ev) (h : Hh) (vs : List Vl) (h' : Hh), evalL P cf is ρ h = .ok vs h' → vs.length = is.length
  | [], ρ, h, vs, h', e => by simp only [evalL] at e; cases e; rfl
  | i :: is, ρ, h, vs, h', e => by
    simp only [evalL] at e
    obtain ⟨v, h1, e1, e2⟩ := bind_ok e
    obtain ⟨ws, h2, e3, e4⟩ := bind_ok e2
    cases e4
    simp
    exact evalL_len is ρ h1 ws _ e3
theorem lit_len (x : Blt) (hb : ∀ n, x ≠ .isinst n) : True := trivial
theorem blt_known {sc : Scope} {W : WX} {X : Cx} (k : XOk D P d G N sc W X) {b : Blt} {x : Str} (h : bltName b = some x ∨ tyFn b = some x) : ∃ v, bootBuiltins x = some v ∧ (∀ E, CallR X v (rL D E (bltV b))) ∧ ((∃ id, v = .builtin id) ∨ ∃ T, v = .type T) := by
  cases b <;> simp only [bltName, tyFn, Option.some.injEq, reduceCtorEq, or_false, false_or, or_self] at h <;> subst h
  · exact ⟨.builtin "len", by decide +kernel, fun E => cr_len k.hK, .inl ⟨_, rfl⟩⟩
  · exact ⟨.builtin "all", by decide +kernel, fun E => cr_allV k.calm, .inl ⟨_, rfl⟩⟩
  · exact ⟨.builtin "any", by decide +kernel, fun E => cr_anyV k.calm, .inl ⟨_, rfl⟩⟩
  · exact ⟨.type "list", by decide +kernel, fun E => cr_listV k.calm k.hK _, .inr ⟨_, rfl⟩⟩
  · exact ⟨.type "tuple", by decide +kernel, fun E => cr_tupleV k.hK, .inr ⟨_, rfl⟩⟩
  · exact ⟨.builtin "max", by decide +kernel, fun E => cr_maxV k.calm, .inl ⟨_, rfl⟩⟩
  · exact ⟨.builtin "min", by decide +kernel, fun E => cr_minV k.calm, .inl ⟨_, rfl⟩⟩
  · exact ⟨.builtin "sum", by decide +kernel, fun E => cr_sumV k.calm, .inl ⟨_, rfl⟩⟩
  · exact ⟨.type "int", by decide +kernel, fun E => cr_intV, .inr ⟨_, rfl⟩⟩
  · exact ⟨.type "dict", by decide +kernel, fun E => cr_dictV (by have := k.hu; omega) k.calm _, .inr ⟨_, rfl⟩⟩
  · exact ⟨.builtin "sorted", by decide +kernel, fun E => cr_sortedV (by have := k.hu; omega) k.calm, .inl ⟨_, rfl⟩⟩
abbrev fChn (o₂ : Cop) (ec : Ev → Hh → Rs Vl) (ρ : Ev) (y : Vl) : Vl → Hh → Rs Vl := fun r h3 => match r with
  | .bl true => (ec ρ h3).bind fun z h4 => cmpV o₂ y z h4
  | .bl false => .ok (.bl false) h3
  | _ => .bad
theorem fChn_bl {o₂ : Cop} {ec : Ev → Hh → Rs Vl} {ρ : Ev} {y : Vl} : ∀ v h, (∀ b, v ≠ .bl b) → fChn o₂ ec ρ y v h = .bad := fun v h q => by
  cases v <;> first | rfl | exact absurd rfl (q _)
theorem chn_reads {W : WX} {o₁ o₂ : Cop} {ea eb ec : Ev → Hh → Rs Vl} {σ : L2.St} {H : Hp} {Q : VK} (q : tE D W (fun ρ h => (ea ρ h).bind fun x h1 => (eb ρ h1).bind fun y h2 => (cmpV o₁ x y h2).bind (fChn o₂ ec ρ y)) σ H Q) :
    tChain (r2 D (WE W σ) (cmpV o₁)) (r2 D (WE W σ) (cmpV o₂)) (tE D W ea) (tE D W eb) (tE D W ec) σ H Q := by
  obtain ⟨F, μ, ρ, h, c, er, p⟩ := q
  refine ⟨F, μ, ρ, h, c, er, (Post.bind p).mono fun x H1 q => ?_⟩
  obtain ⟨F1, μ1, v, h1, x1, c1, r1, p⟩ := q
  refine ⟨F1, μ1, ρ, h1, c1, er.mono x1.f x1.m, (Post.bind p).mono fun y H2 q => ?_⟩
  obtain ⟨F2, μ2, w, h2, x2, c2, r2', p⟩ := q
  refine ⟨F2, μ2, h2, v, w, c2, r1.mono x2.f x2.m, r2', (val_bl fChn_bl p).mono fun z H3 q => ?_⟩
  obtain ⟨b, F3, μ3, h3, rfl, x3, c3, p⟩ := q
  refine ⟨b, rfl, ?_⟩
  cases b with
  | false => rw [if_neg Bool.false_ne_true]; exact post_same c3 (.bl _) p
  | true =>
    rw [if_pos rfl]
    refine ⟨F3, μ3, ρ, h3, c3, ((er.mono x1.f x1.m).mono x2.f x2.m).mono x3.f x3.m, (Post.bind p).mono fun t H4 q => ?_⟩
    obtain ⟨F4, μ4, t', h4, x4, c4, r4, p⟩ := q
    exact ⟨F4, μ4, h4, w, t', c4, (r2'.mono x3.f x3.m).mono x4.f x4.m, r4, p⟩
theorem e_chn {sc : Scope} {W : WX} {X : Cx} (k : XOk D P d G N sc W X) (o₁ o₂ : Cop) {ea eb ec : Ev → Hh → Rs Vl} {a b c : Expr} {pos : Pos} (ha : EOk D W X ea a) (hb : EOk D W X eb b) (hc : EOk D W X ec c) (hm : ∀ p, behindInMarks p c = false) :
    EOk D W X (fun ρ h => (ea ρ h).bind fun x h1 => (eb ρ h1).bind fun y h2 => (cmpV o₁ x y h2).bind (fChn o₂ ec ρ y)) (.Compare a [copP o₁, copP o₂] [b, c] pos) := by
  have m : lastMarks [copP o₁, copP o₂] [b, c] = false := hm _
  refine ⟨⟨fun pins s σ H Q I q => ?_⟩, ⟨fun pins s σ H Q I q => ?_⟩⟩
  · exact (pe_chain (op_cmp (D := D) (W := WE W σ) k.hK k.hu o₁) (op_cmp (D := D) (W := WE W σ) k.hK k.hu o₂) ha.pe hb.pe hc.pe m).run pins s σ H Q I (chn_reads q)
  · refine (pt_chain (op_cmp (D := D) (W := WE W σ) k.hK k.hu o₁) (op_cmp (D := D) (W := WE W σ) k.hK k.hu o₂) ha.pe hb.pe hc.pe m).run pins s σ H Q I (chn_reads ?_)
    obtain ⟨F, μ, ρ, h, c, er, p⟩ := q
    refine ⟨F, μ, ρ, h, c, er, (Post.bind p).mono fun u H' q => ?_⟩
    obtain ⟨F1, μ1, v, h1, x, c1, r, p⟩ := q
    cases r with
    | bl b => exact ⟨b, rfl, p _ _ _ _ (.refl _ _ _) c1 rfl⟩
    | _ => exact p.elim
theorem callC_keep {P : Pg} {rn : Nat → List Vl → Hh → Rs Vl} {f : Nat} {vs : List Vl} {h : Hh} (hk : ∀ F, P.fn f = some F → F.keep = true) (hn : P.fn f = none → rn f vs h = .bad) : callC P rn f vs h = rn f vs h := by
  unfold callC
  split
  · rename_i e; rw [hn e]
  · rename_i F e; rw [if_pos (hk F e)]
theorem run_none {P : Pg} {d f : Nat} {vs : List Vl} {h : Hh} (e : P.fn f = none) : run P d f vs h = .bad := by
  cases d with
  | zero => rfl
  | succ d => unfold run; rw [e]
abbrev ev (P : Pg) (d : Nat) := evalE P (callC P (run P d))
abbrev evl (P : Pg) (d : Nat) := evalL P (callC P (run P d))
theorem e_bad {W : WX} {X : Cx} {e : Expr} : EOk D W X (fun _ _ => .bad) e := by
  refine ⟨⟨fun pins s σ H Q I q => ?_⟩, ⟨fun pins s σ H Q I q => ?_⟩⟩
  · obtain ⟨F, μ, ρ, h, c, er, p⟩ := q
    exact p.elim
  · obtain ⟨F, μ, ρ, h, c, er, p⟩ := q
    exact p.elim
mutual
theorem eE : ∀ (i : Ex) {sc : Scope} {W : WX} {X : Cx}, XOk D P d G N sc W X → ∀ e, chkE G N i sc e = true → EOk D W X (ev P d i) e
  | .var i, sc, W, X, k, e, h => by
    cases e <;> simp only [chkE, Bool.and_eq_true, decide_eq_true_eq, Bool.false_eq_true] at h
    exact (e_var k.toXBase h.1.1 h.1.2 h.2).eq fun ρ h => by simp only [ev, evalE] <;> rfl
  | .cst v, sc, W, X, k, e, h => by
    cases e <;> simp only [chkE, Bool.false_eq_true] at h
    exact (e_cst h).eq fun ρ h => by simp only [ev, evalE] <;> rfl
  | .gc x v, sc, W, X, k, e, h => by
    cases e <;> simp only [chkE, Bool.and_eq_true, Bool.false_eq_true] at h
    obtain ⟨⟨⟨h1, h2⟩, h3⟩, h4⟩ := h
    split at h4
    · rename_i w hw
      have e1 := eq_of_beq h1
      subst e1
      exact (e_gc k.toXBase h2 h3 hw h4).eq fun ρ h => by simp only [ev, evalE] <;> rfl
    · cases h4
  | .bin o a b, sc, W, X, k, e, h => by
    cases e <;> simp only [chkE, Bool.and_eq_true, Bool.false_eq_true] at h
    obtain ⟨⟨h1, h2⟩, h3⟩ := h
    have e1 := isOp_eq h1
    subst e1
    exact (e_bin k.toXBase o (eE a k _ h2) (eE b k _ h3)).eq fun ρ h => by simp only [ev, evalE] <;> rfl
  | .neg a, sc, W, X, k, e, h => by
    unfold chkE at h
    split at h
    · exact (e_neg (eE a k _ h)).eq fun ρ h => by simp only [ev, evalE] <;> rfl
    · cases h
  | .cmp o a b, sc, W, X, k, e, h => by
    unfold chkE at h
    split at h
    · simp only [Bool.and_eq_true] at h
      obtain ⟨⟨h1, h2⟩, h3⟩ := h
      have e1 := isCop_eq h1
      subst e1
      exact (e_cmp k.toXBase o (eE a k _ h2) (eE b k _ h3) (chk_noMark h3)).eq fun ρ h => by simp only [ev, evalE] <;> rfl
    · cases h
  | .chn o₁ o₂ a b c, sc, W, X, k, e, h => by
    unfold chkE at h
    split at h
    · simp only [Bool.and_eq_true] at h
      obtain ⟨⟨⟨⟨h1, h2⟩, h3⟩, h4⟩, h5⟩ := h
      have e1 := isCop_eq h1
      have e2 := isCop_eq h2
      subst e1 e2
      exact (e_chn k o₁ o₂ (eE a k _ h3) (eE b k _ h4) (eE c k _ h5) (chk_noMark h5)).eq fun ρ h => by simp only [ev, evalE] <;> rfl
    · cases h
  | .and a b, sc, W, X, k, e, h => by
    unfold chkE at h
    split at h
    · simp only [Bool.and_eq_true] at h
      exact (e_and2 (eE a k _ h.1) (eE b k _ h.2)).eok.eq fun ρ h => by simp only [ev, evalE] <;> rfl
    · simp only [Bool.and_eq_true] at h
      exact (e_andN (eE a k _ h.1) (eW b k _ _ _ h.2)).eok.eq fun ρ h => by simp only [ev, evalE] <;> rfl
    · cases h
  | .or a b, sc, W, X, k, e, h => by
    unfold chkE at h
    split at h
    · simp only [Bool.and_eq_true] at h
      exact (e_or2 (eE a k _ h.1) (eE b k _ h.2)).eok.eq fun ρ h => by simp only [ev, evalE] <;> rfl
    · simp only [Bool.and_eq_true] at h
      exact (e_orN (eE a k _ h.1) (eW b k _ _ _ h.2)).eok.eq fun ρ h => by simp only [ev, evalE] <;> rfl
    · cases h
  | .not a, sc, W, X, k, e, h => by
    unfold chkE at h
    split at h
    · exact (e_not (eE a k _ h)).eq fun ρ h => by simp only [ev, evalE] <;> rfl
    · cases h
  | .ite c a b, sc, W, X, k, e, h => by
    unfold chkE at h
    split at h
    · simp only [Bool.and_eq_true] at h
      obtain ⟨⟨h1, h2⟩, h3⟩ := h
      exact (e_iteOk (eE c k _ h1) (eE a k _ h2) (eE b k _ h3)).eq fun ρ h => by simp only [ev, evalE] <;> rfl
    · cases h
  | .tup es, sc, W, X, k, e, h => by
    unfold chkE at h
    split at h
    · exact (e_tup (eL es k _ h)).eq fun ρ h => by simp only [ev, evalE] <;> rfl
    · cases h
  | .lst m es, sc, W, X, k, e, h => by
    unfold chkE at h
    split at h
    · exact (e_lst m (eL es k _ h)).eq fun ρ h => by simp only [ev, evalE] <;> rfl
    · cases h
  | .dnew t, sc, W, X, k, e, h => by
    unfold chkE at h
    split at h
    · exact (e_dnew t).eq fun ρ h => by simp only [ev, evalE] <;> rfl
    · cases h
  | .idx a i, sc, W, X, k, e, h => by
    unfold chkE at h
    split at h
    · simp only [Bool.and_eq_true] at h
      exact (e_idx k.toXBase (eE a k _ h.1) (eE i k _ h.2) (chk_plainIx h.2)).eq fun ρ h => by simp only [ev, evalE] <;> rfl
    · cases h
  | .slc m a lo hi st, sc, W, X, k, e, h => by
    unfold chkE at h
    split at h
    · rename_i x l u p1 p2
      simp only [Bool.and_eq_true] at h
      obtain ⟨⟨⟨h1, h2⟩, h3⟩, h4⟩ := h
      have part : ∀ (y : Ex) (o : Option Expr), (∀ e', o = some e' → chkE G N y sc e' = true → EOk D W X (ev P d y) e') → (match o with | some l => !isNonE y && chkE G N y sc l | none => isNonE y) = true → PO X o (tO D W fun ρ h => intR y (ev P d y ρ h)) := fun y o ih hh => by
        cases o with
        | none =>
          dsimp only at hh
          have : (fun (ρ : Ev) (h : Hh) => intR y (ev P d y ρ h)) = fun _ h => .ok .non h := by
            funext ρ h'
            unfold intR
            rw [if_pos hh]
            cases y <;> try (simp [isNonE] at hh; done)
            rename_i v
            cases v <;> try (simp [isNonE] at hh; done)
            simp only [ev, evalE]
          rw [this]
          exact o_none
        | some l =>
          simp only [Bool.and_eq_true, Bool.not_eq_true'] at hh
          have : (fun (ρ : Ev) (h : Hh) => intR y (ev P d y ρ h)) = fun ρ h => (ev P d y ρ h).bind intF := by
            funext ρ h'
            unfold intR
            rw [if_neg (by rw [hh.1]; exact Bool.false_ne_true)]
            rfl
          rw [this]
          exact o_some (ih l rfl hh.2)
      have st0 : st = .cst .non := by
        cases st <;> try (simp [isNonE] at h1; done)
        rename_i v
        cases v <;> first | rfl | (simp [isNonE] at h1)
      subst st0
      refine (e_slc k m (eE a k _ h2) (part lo l (fun e' _ hc => eE lo k e' hc) h3) (part hi u (fun e' _ hc => eE hi k e' hc) h4)).eq fun ρ h => ?_
      simp only [ev, evalE]
      congr 1
    · rename_i x kx p1 p2
      simp only [Bool.and_eq_true] at h
      obtain ⟨⟨⟨⟨h1, h2⟩, h2'⟩, h3⟩, h4⟩ := h
      have lo0 : lo = .cst .non := by
        cases lo <;> try (simp [isNonE] at h1; done)
        rename_i v
        cases v <;> first | rfl | (simp [isNonE] at h1)
      have hi0 : hi = .cst .non := by
        cases hi <;> try (simp [isNonE] at h2; done)
        rename_i v
        cases v <;> first | rfl | (simp [isNonE] at h2)
      subst lo0 hi0
      refine (e_step k m (eE a k _ h3) (eE st k _ h4)).eq fun ρ h => ?_
      simp only [Bool.not_eq_true'] at h2'
      have hh : ∀ h, intR st (evalE P (callC P (run P d)) st ρ h) = (evalE P (callC P (run P d)) st ρ h).bind intF := fun h => by
        unfold intR
        rw [if_neg (by rw [h2']; exact Bool.false_ne_true)]
        rfl
      have z : ∀ h1, intR (.cst .non) (Rs.ok Vl.non h1) = .ok .non h1 := fun _ => rfl
      simp only [ev, evalE, z, hh]
      rfl
    · cases h
  | .fld a f, sc, W, X, k, e, h => by
    unfold chkE at h
    split at h
    · simp only [Bool.and_eq_true] at h
      obtain ⟨⟨h1, h2⟩, h3⟩ := h
      have e1 := eq_of_beq h1
      subst e1
      exact (e_fld k f (eE a k _ h3) h2).eq fun ρ h => by simp only [ev, evalE] <;> rfl
    · cases h
  | .call f es, sc, W, X, k, e, h => by
    unfold chkE at h
    split at h
    · simp only [Bool.and_eq_true, decide_eq_true_eq] at h
      obtain ⟨⟨⟨h1, h2⟩, h3⟩, h4⟩ := h
      refine (e_call k h1 h2 h3 (chks_noStar h4) (eL es k _ h4) fun en => ?_).eq fun ρ h => by simp only [ev, evalE] <;> rfl
      subst en
      rw [chks_nil h4]
      funext ρ h'
      simp only [evl, evalL] <;> rfl
    · cases h
  | .meth m o es, sc, W, X, k, e, h => by
    unfold chkE at h
    split at h
    · simp only [Bool.and_eq_true, decide_eq_true_eq] at h
      obtain ⟨⟨⟨⟨⟨h1, h2⟩, h3⟩, h4⟩, h5⟩, h6⟩ := h
      have e1 := eq_of_beq h1
      subst e1
      refine (e_meth k (eE o k _ h5) h3 (chks_noStar h6) h4 h2 (eL es k _ h6) fun en => ?_).eq fun ρ h => by simp only [ev, evalE] <;> rfl
      subst en
      rw [chks_nil h6]
      funext ρ h'
      simp only [evl, evalL] <;> rfl
    · cases h
  | .bm m o es, sc, W, X, k, e, h => by
    unfold chkE at h
    split at h
    · simp only [Bool.and_eq_true, decide_eq_true_eq] at h
      obtain ⟨⟨⟨⟨⟨h1, h2⟩, h3⟩, h4⟩, h5⟩, h6⟩ := h
      have e1 := eq_of_beq h1
      subst e1
      refine (e_bm k.toXBase (eE o k _ h5) h3 (chks_noStar h6) h4 h2 (eL es k _ h6) fun en => ?_).eq fun ρ h => by simp only [ev, evalE] <;> rfl
      subst en
      rw [chks_nil h6]
      funext ρ h'
      simp only [evl, evalL] <;> rfl
    · cases h
  | .make C es, sc, W, X, k, e, h => by
    unfold chkE at h
    split at h
    · simp only [Bool.and_eq_true, decide_eq_true_eq] at h
      obtain ⟨⟨⟨h1, h2⟩, h3⟩, h4⟩ := h
      refine (e_make k h1 h2 h3 (chks_noStar h4) (eL es k _ h4) fun en => ?_).eq fun ρ h => ?_
      · subst en
        rw [chks_nil h4]
        funext ρ h'
        simp only [evl, evalL] <;> rfl
      · simp only [ev, evalE]
        congr 1
        funext vs h1
        cases hi : P.init C with
        | none => rfl
        | some f =>
          dsimp only
          (rw [callC_keep (fun F e => k.w.kp C f F hi e) run_none]) <;> rfl
    · cases h
  | .blt b es, sc, W, X, k, e, h => by
    unfold chkE at h
    split at h
    · simp only [Bool.and_eq_true] at h
      obtain ⟨⟨⟨h1, h2⟩, h3⟩, h4⟩ := h
      split at h4
      · rename_i n y t p2
        simp only [Bool.and_eq_true, decide_eq_true_eq] at h4
        obtain ⟨⟨⟨⟨⟨⟨g1, g2⟩, g3⟩, g4⟩, g5⟩, g6⟩, g7⟩ := h4
        have e1 := eq_of_beq g1
        have e2 := eq_of_beq g2
        subst e1
        obtain ⟨i, ei, ih, hs⟩ := eO es k y g7
        refine (e_isi k g6 e2 g3 g4 g5 h1 h3 hs ih).eq fun ρ h => ?_
        rw [ei]
        simp only [ev, evalE, evalL]
        cases evalE P (callC P (run P d)) i ρ h <;> rfl
      · cases h4
      · rename_i y t p2 p3
        simp only [Bool.and_eq_true] at h4
        obtain ⟨⟨⟨⟨⟨g1, g2⟩, g3⟩, g4⟩, g5⟩, g6⟩ := h4
        have e1 := eq_of_beq g1
        have e2 := eq_of_beq g2
        subst e1 e2
        obtain ⟨i, ei, ih, hs⟩ := eO es k _ g6
        refine (e_lenset k h1 h3 g3 g5 hs ih).eq fun ρ h => ?_
        rw [ei]
        simp only [ev, evalE, evalL]
        cases evalE P (callC P (run P d)) i ρ h <;> rfl
      · cases h4
      · rename_i y t p2 p3
        simp only [Bool.and_eq_true] at h4
        obtain ⟨⟨⟨⟨⟨g1, g2⟩, g3⟩, g4⟩, g5⟩, g6⟩ := h4
        have e1 := eq_of_beq g1
        have e2 := eq_of_beq g2
        subst e1 e2
        obtain ⟨i, ei, ih, hs⟩ := eO es k _ g6
        refine (e_sortedset k h1 h3 g3 g5 hs ih).eq fun ρ h => ?_
        rw [ei]
        simp only [ev, evalE, evalL]
        cases evalE P (callC P (run P d)) i ρ h <;> rfl
      · cases h4
      · rename_i y t p2 p3
        simp only [Bool.and_eq_true] at h4
        obtain ⟨⟨⟨⟨⟨g1, g2⟩, g3⟩, g4⟩, g5⟩, g6⟩ := h4
        have e1 := eq_of_beq g1
        have e2 := eq_of_beq g2
        subst e1 e2
        obtain ⟨i, ei, ih, hs⟩ := eO es k _ g6
        refine (e_lrange k h1 h3 g3 g5 hs ih).eq fun ρ h => ?_
        rw [ei]
        simp only [ev, evalE, evalL]
        cases evalE P (callC P (run P d)) i ρ h <;> rfl
      · cases h4
      · simp only [Bool.and_eq_true, Bool.or_eq_true, decide_eq_true_eq, Bool.not_eq_true'] at h4
        obtain ⟨⟨g1, g2⟩, g3⟩ := h4
        obtain ⟨v, b1, b2, b3⟩ := blt_known k g1
        refine (e_blt k h1 h2 h3 b1 b2 b3 (chks_noStar g3) (fun z => ?_) (eL es k _ g3)).eq fun ρ h => by simp only [ev, evalE] <;> rfl
        subst z
        simp at g2
    · cases h
  | .lc m own g kk es cond e', sc, W, X, k, e, h => by
    unfold chkE at h
    split at h
    · rename_i elt tg iter ifs scope p1
      simp only [Bool.and_eq_true] at h
      obtain ⟨⟨⟨⟨⟨⟨h1, h2⟩, h3⟩, h4⟩, h5⟩, h6⟩, h7⟩ := h
      have h1 := Bool.and_eq_true_iff.mpr h1
      have hown : ∀ i ∈ tgNs g, i ∈ own := fun i hi => by
        have z := (List.all_eq_true.mp h2) i hi
        simpa using z
      have pi := eI kk es k iter h5 g tg scope h3 h4
      have pe : ∀ X', XOk D P d G N scope W0 X' → PE X' elt (tE D W0 (ev P d e')) := fun X' k' => (eE e' k' _ h7).pe
      have fin : ∀ (ec : Ev → Hh → Rs (List Vl)) (tt : TT), (∀ ρ h, evl P d cond ρ h = ec ρ h) → TtOk D ec tt → (∀ X', XOk D P d G N scope W0 X' → PTs X' ifs tt) → EOk D W X (ev P d (.lc m own g kk es cond e')) (.ListComp elt [⟨tg, iter, ifs, 0⟩] scope p1) := fun ec tt he htt pt => by
        have o : LOk D P d G N W X g own kk (evl P d es) ec (ev P d e') tg iter ifs elt scope tt := ⟨pi.1, blk_ok k h1, h4, hown, htt, pt, pe, pi.2, nl_of h1⟩
        refine (eok_val (e_lc (pos := p1) (m := m) k o) (by intro _; rfl)).eq fun ρ h => ?_
        have he' : ec = evl P d cond := by funext ρ h; exact (he ρ h).symm
        subst he'
        (simp only [ev, evalE]) <;> rfl
      obtain ⟨ec, tt, e1, e2, e3⟩ := eC cond scope ifs h6
      exact fin ec tt e1 e2 e3
    · cases h
  | .srt f a, sc, W, X, k, e, h => by
    unfold chkE at h
    split at h
    · simp only [Bool.and_eq_true, decide_eq_true_eq, beq_iff_eq] at h
      obtain ⟨⟨⟨⟨⟨⟨⟨h1, h2⟩, h3⟩, h4⟩, h5⟩, h6⟩, h7⟩, h8⟩ := h
      subst h1 h2
      exact (e_srt k h3 h4 h5 h6 h7 (chk_noStar h8) (eE a k _ h8)).eq fun ρ h => by simp only [ev, evalE] <;> rfl
    · cases h
  | .srl _, sc, W, X, k, e, h => by simp [chkE] at h
  | .told C f a, sc, W, X, k, e, h => by
    unfold chkE at h
    split at h
    · simp only [Bool.and_eq_true, decide_eq_true_eq, Bool.not_eq_true', List.any_eq_true, List.any_eq_false] at h
      obtain ⟨⟨⟨⟨⟨⟨h1, h2⟩, h3⟩, z, hz, h4⟩, h5⟩, h6⟩, h7⟩ := h
      subst h4
      exact (e_told k h1 h2 h3 hz (LamX.lamS_by h6) (fun q => h5 _ q rfl) fun k' => eE a k' _ h7).eq fun ρ h => by simp only [ev, evalE] <;> rfl
    · cases h
  | .isE a C, sc, W, X, k, e, h => by
    unfold chkE at h
    split at h
    · simp only [Bool.and_eq_true, decide_eq_true_eq, beq_iff_eq] at h
      obtain ⟨⟨⟨⟨⟨⟨⟨h1, h2⟩, h3⟩, h4⟩, h5⟩, h6⟩, h7⟩, h8⟩ := h
      subst h1
      exact (e_isE k.toXBase h2 h4 h5 h6 h7 (chk_noStar h8) (eE a k _ h8)).eq fun ρ h => by simp only [ev, evalE] <;> rfl
    · cases h
  | .bad, sc, W, X, k, e, h => (e_bad (D := D) (W := W) (X := X)).eq fun ρ h => by simp only [ev, evalE] <;> rfl
termination_by i => (sizeOf i, 0)
theorem eC : ∀ (cond : List Ex) (scope : Scope) (ifs : List Expr), (match cond, ifs with | [], [] => true | [c], [t] => chkE G N c scope t | _, _ => false) = true → ∃ (ec : Ev → Hh → Rs (List Vl)) (tt : TT), (∀ ρ h, evl P d cond ρ h = ec ρ h) ∧ TtOk D ec tt ∧ (∀ X', XOk D P d G N scope W0 X' → PTs X' ifs tt)
  | [], scope, [], h => ⟨_, _, fun ρ h => by simp only [evl, evalL] <;> rfl, tt_nil, fun X' k' => pts_nil⟩
  | [c], scope, [t], h => ⟨_, _, fun ρ h => by simp only [evl, evalL] <;> rfl, tt_one (ea := ev P d c), fun X' k' => pts_one (eE c k' _ h).pt⟩
  | [], _, _ :: _, h => by simp at h
  | [_], _, [], h => by simp at h
  | [_], _, _ :: _ :: _, h => by simp at h
  | _ :: _ :: _, _, [], h => by simp at h
  | _ :: _ :: _, _, _ :: _, h => by simp at h
termination_by cond => (sizeOf cond, 1)
theorem eO : ∀ (es : List Ex) {sc : Scope} {W : WX} {X : Cx}, XOk D P d G N sc W X → ∀ e, chkL G N es sc [e] = true → ∃ i, es = [i] ∧ EOk D W X (ev P d i) e ∧ noStar e = true
  | [i], sc, W, X, k, e, h => by
    simp only [chkL, Bool.and_true] at h
    exact ⟨i, rfl, eE i k e h, chk_noStar h⟩
  | [], _, _, _, _, _, h => by simp [chkL] at h
  | _ :: _ :: _, _, _, _, _, _, h => by simp [chkL] at h
termination_by es => (sizeOf es, 1)
theorem eI : ∀ (kk : Ik) (es : List Ex) {sc : Scope} {W : WX} {X : Cx}, XOk D P d G N sc W X → ∀ iter, chkI G N kk es sc iter = true → ∀ (g : Tg) (tg : Expr) (scope : Scope), tgK kk g = true → chkT N g scope tg = true → PI X tg iter (tW D W X kk (evl P d es)) ∧ ∀ x, foldedSetIterable iter X.env x = pure x
  | .seq, [a], sc, W, X, k, iter, h, g, tg, scope, h3, h4 => by
    have h : chkE G N a sc iter = true := by simpa only [chkI, chkI1, chkL, Bool.and_true] using h
    have z := pi_seq (tg := tg) k (eE a k _ h)
    have e : one (ev P d a) = evl P d [a] := by
      funext ρ h'
      simp only [evl, evalL] <;> rfl
    rw [e] at z
    exact ⟨z, chk_noSet h _⟩
  | .seq, [], _, _, _, _, _, h, _, _, _, _, _ => by simp [chkI, chkI1, chkL] at h
  | .seq, _ :: _ :: _, _, _, _, _, _, h, _, _, _, _, _ => by simp [chkI, chkI1, chkL] at h
  | .rng, es, sc, W, X, k, iter, h, g, tg, scope, h3, h4 => by
    unfold chkI chkI1 at h
    dsimp only at h
    split at h
    · rename_i x p1 xs p2
      simp only [Bool.and_eq_true, Bool.or_eq_true, beq_iff_eq] at h
      obtain ⟨⟨⟨⟨h1, h2⟩, h5⟩, h6⟩, h7⟩ := h
      subst h1
      refine ⟨pi_rng k h2 h5 (chks_noStar h7) h6 (eL es k _ h7) fun ρ h vs h' e => ?_, fun x => rfl⟩
      rw [evalL_len _ _ _ _ _ e, chks_len h7]
    · cases h
  | .enum, es, sc, W, X, k, iter, h, g, tg, scope, h3, h4 => by
    unfold chkI chkI1 at h
    dsimp only at h
    split at h
    · rename_i x p1 xs p2
      simp only [Bool.and_eq_true, beq_iff_eq] at h
      obtain ⟨⟨⟨⟨h1, h2⟩, h5⟩, h6⟩, h7⟩ := h
      subst h1
      cases g with
      | nm i => simp [tgK] at h3
      | tp gs =>
        cases tg <;> simp only [chkT, Bool.false_eq_true] at h4
        match xs, h6, h7 with
        | [y], _, h7 =>
          have hs := chks_noStar h7
          rw [List.all_cons, Bool.and_eq_true] at hs
          exact ⟨pi_en k h2 h5 hs.1 (eL es k _ h7), fun x => rfl⟩
    · cases h
  | .zip, es, sc, W, X, k, iter, h, g, tg, scope, h3, h4 => by
    unfold chkI chkI1 at h
    dsimp only at h
    split at h
    · rename_i x p1 xs p2
      simp only [Bool.and_eq_true, beq_iff_eq] at h
      obtain ⟨⟨⟨⟨h1, h2⟩, h5⟩, h6⟩, h7⟩ := h
      subst h1
      cases g with
      | nm i => simp [tgK] at h3
      | tp gs =>
        cases tg <;> simp only [chkT, Bool.false_eq_true] at h4
        match xs, h6, h7 with
        | [y, z], _, h7 =>
          have hs := chks_noStar h7
          rw [List.all_cons, List.all_cons, Bool.and_eq_true, Bool.and_eq_true] at hs
          exact ⟨pi_zp k h2 h5 hs.1 hs.2.1 (eL es k _ h7), fun x => rfl⟩
    · cases h
  | .items, _, _, _, _, _, _, h, _, _, _, _, _ => by simp [chkI, chkI1, chkL] at h
termination_by _ es => (sizeOf es, 1)
theorem eW : ∀ (i : Ex) {sc : Scope} {W : WX} {X : Cx}, XOk D P d G N sc W X → ∀ op vs p, chkE G N i sc (.BoolOp op vs p) = true → WOkE D W X (ev P d i) (.BoolOp op vs p)
  | .and a b, sc, W, X, k, op, vs, p, h => by
    unfold chkE at h
    split at h
    · rename_i e1; cases e1
      simp only [Bool.and_eq_true] at h
      exact (e_and2 (eE a k _ h.1) (eE b k _ h.2)).eq fun ρ h => by simp only [ev, evalE] <;> rfl
    · rename_i e1; cases e1
      simp only [Bool.and_eq_true] at h
      exact (e_andN (eE a k _ h.1) (eW b k _ _ _ h.2)).eq fun ρ h => by simp only [ev, evalE] <;> rfl
    · cases h
  | .or a b, sc, W, X, k, op, vs, p, h => by
    unfold chkE at h
    split at h
    · rename_i e1; cases e1
      simp only [Bool.and_eq_true] at h
      exact (e_or2 (eE a k _ h.1) (eE b k _ h.2)).eq fun ρ h => by simp only [ev, evalE] <;> rfl
    · rename_i e1; cases e1
      simp only [Bool.and_eq_true] at h
      exact (e_orN (eE a k _ h.1) (eW b k _ _ _ h.2)).eq fun ρ h => by simp only [ev, evalE] <;> rfl
    · cases h
  | .var _, _, _, _, _, _, _, _, h => by simp [chkE] at h
  | .cst _, _, _, _, _, _, _, _, h => by simp [chkE] at h
  | .gc _ _, _, _, _, _, _, _, _, h => by simp [chkE] at h
  | .bin _ _ _, _, _, _, _, _, _, _, h => by simp [chkE] at h
  | .neg _, _, _, _, _, _, _, _, h => by simp [chkE] at h
  | .cmp _ _ _, _, _, _, _, _, _, _, h => by simp [chkE] at h
  | .chn _ _ _ _ _, _, _, _, _, _, _, _, h => by simp [chkE] at h
  | .not _, _, _, _, _, _, _, _, h => by simp [chkE] at h
  | .ite _ _ _, _, _, _, _, _, _, _, h => by simp [chkE] at h
  | .tup _, _, _, _, _, _, _, _, h => by simp [chkE] at h
  | .lst _ _, _, _, _, _, _, _, _, h => by simp [chkE] at h
  | .dnew _, _, _, _, _, _, _, _, h => by simp [chkE] at h
  | .idx _ _, _, _, _, _, _, _, _, h => by simp [chkE] at h
  | .slc _ _ _ _ _, _, _, _, _, _, _, _, h => by simp [chkE] at h
  | .fld _ _, _, _, _, _, _, _, _, h => by simp [chkE] at h
  | .call _ _, _, _, _, _, _, _, _, h => by simp [chkE] at h
  | .meth _ _ _, _, _, _, _, _, _, _, h => by simp [chkE] at h
  | .bm _ _ _, _, _, _, _, _, _, _, h => by simp [chkE] at h
  | .make _ _, _, _, _, _, _, _, _, h => by simp [chkE] at h
  | .blt _ _, _, _, _, _, _, _, _, h => by simp [chkE] at h
  | .lc _ _ _ _ _ _ _, _, _, _, _, _, _, _, h => by simp [chkE] at h
  | .srt _ _, _, _, _, _, _, _, _, h => by simp [chkE] at h
  | .isE _ _, _, _, _, _, _, _, _, h => by simp [chkE] at h
  | .srl _, _, _, _, _, _, _, _, h => by simp [chkE] at h
  | .told _ _ _, _, _, _, _, _, _, _, h => by simp [chkE] at h
  | .bad, _, _, _, _, _, _, _, h => by simp [chkE] at h
termination_by i => (sizeOf i, 0)
theorem eL : ∀ (is : List Ex) {sc : Scope} {W : WX} {X : Cx}, XOk D P d G N sc W X → ∀ es, chkL G N is sc es = true → PA X es (tL D W (evl P d is))
  | [], sc, W, X, k, [], h => PA.eq (fun ρ h => by simp only [evl, evalL] <;> rfl) l_nil
  | [], _, _, _, _, _ :: _, h => by simp [chkL] at h
  | _ :: _, _, _, _, _, [], h => by simp [chkL] at h
  | i :: is, sc, W, X, k, e :: es, h => by
    simp only [chkL, Bool.and_eq_true] at h
    exact PA.eq (fun ρ h => by simp only [evl, evalL] <;> rfl) (l_cons (eE i k _ h.1) (chk_noStar h.1) (eL is k _ h.2))
termination_by is => (sizeOf is, 0)
end
end
end IL
end

section
set_option autoImplicit false
set_option linter.all false
set_option Elab.async false
set_option maxRecDepth 100000
set_option maxHeartbeats 4000000
/-! IL: stores into lists, dicts, instances. -/
namespace IL
open PySem L2 PyProof.Rows
section
variable {D : Wd} {F : Hp} {μ : List Addr} {h : Hh} {H : Hp}
theorem RT.has {es : List (Vl × Vl)} {kvs : List (List Key × V)} (r : RT D F μ es kvs) (ks : List Key) : dHas es (.tup (ks.map kVl)) = kvs.any fun kv => decide (kv.1 = ks) := by
  induction es generalizing kvs with
  | nil => cases r; rfl
  | cons e es ih =>
    cases r with
    | @cons js v u _ kvs r t =>
      have ih := ih t
      unfold dHas at ih ⊢
      rw [List.any_cons, List.any_cons, ih]
      simp only [eqv, eqvs_k]
theorem RK.has {es : List (Vl × Vl)} {kvs : List (Key × V)} (r : RK D F μ es kvs) (k : Key) : dHas es (kVl k) = kvs.any fun kv => decide (kv.1 = k) := by
  induction es generalizing kvs with
  | nil => cases r; rfl
  | cons e es ih =>
    cases r with
    | @cons j v u _ kvs r t =>
      have ih := ih t
      unfold dHas at ih ⊢
      rw [List.any_cons, List.any_cons, ih]
      simp only [eqv_k]
theorem RT.maps {es : List (Vl × Vl)} {kvs : List (List Key × V)} (r : RT D F μ es kvs) (ks : List Key) {v : Vl} {u : V} (rv : RV D F μ v u) : RT D F μ (es.map fun e => if eqv e.1 (.tup (ks.map kVl)) then (e.1, v) else e) (kvs.map fun kv => if kv.1 = ks then (kv.1, u) else kv) := by
  induction es generalizing kvs with
  | nil => cases r; exact .nil
  | cons e es ih =>
    cases r with
    | @cons js v' u' _ kvs r t =>
      have ih := ih t
      simp only [List.map_cons, eqv, eqvs_k]
      by_cases q : js = ks
      · simp only [q, decide_true, if_true]
        exact .cons rv ih
      · simp only [q, decide_false, Bool.false_eq_true, if_false]
        exact .cons r ih
theorem RK.maps {es : List (Vl × Vl)} {kvs : List (Key × V)} (r : RK D F μ es kvs) (k : Key) {v : Vl} {u : V} (rv : RV D F μ v u) : RK D F μ (es.map fun e => if eqv e.1 (kVl k) then (e.1, v) else e) (kvs.map fun kv => if kv.1 = k then (kv.1, u) else kv) := by
  induction es generalizing kvs with
  | nil => cases r; exact .nil
  | cons e es ih =>
    cases r with
    | @cons j v' u' _ kvs r t =>
      have ih := ih t
      simp only [List.map_cons, eqv_k]
      by_cases q : j = k
      · simp only [q, decide_true, if_true]
        exact .cons rv ih
      · simp only [q, decide_false, Bool.false_eq_true, if_false]
        exact .cons r ih
theorem RT.app {es : List (Vl × Vl)} {kvs : List (List Key × V)} (r : RT D F μ es kvs) (ks : List Key) {v : Vl} {u : V} (rv : RV D F μ v u) : RT D F μ (es ++ [(.tup (ks.map kVl), v)]) (kvs ++ [(ks, u)]) := by
  induction es generalizing kvs with
  | nil => cases r; exact .cons rv .nil
  | cons e es ih =>
    cases r with
    | cons r t => exact .cons r (ih t)
theorem RK.app {es : List (Vl × Vl)} {kvs : List (Key × V)} (r : RK D F μ es kvs) (k : Key) {v : Vl} {u : V} (rv : RV D F μ v u) : RK D F μ (es ++ [(kVl k, v)]) (kvs ++ [(k, u)]) := by
  induction es generalizing kvs with
  | nil => cases r; exact .cons rv .nil
  | cons e es ih =>
    cases r with
    | cons r t => exact .cons r (ih t)
theorem RT.put {es : List (Vl × Vl)} {kvs : List (List Key × V)} (r : RT D F μ es kvs) (ks : List Key) {v : Vl} {u : V} (rv : RV D F μ v u) : RT D F μ (dPut es (.tup (ks.map kVl)) v) (putK kvs ks u) := by
  unfold dPut putK
  rw [r.has ks]
  split
  · exact r.maps ks rv
  · exact r.app ks rv
theorem RK.put {es : List (Vl × Vl)} {kvs : List (Key × V)} (r : RK D F μ es kvs) (k : Key) {v : Vl} {u : V} (rv : RV D F μ v u) : RK D F μ (dPut es (kVl k) v) (putK kvs k u) := by
  unfold dPut putK
  rw [r.has k]
  split
  · exact r.maps k rv
  · exact r.app k rv
theorem RT.length {es : List (Vl × Vl)} {kvs : List (List Key × V)} (r : RT D F μ es kvs) : es.length = kvs.length := by
  induction es generalizing kvs with
  | nil => cases r; rfl
  | cons e es ih => cases r with | cons r t => simp [ih t]
theorem RK.length {es : List (Vl × Vl)} {kvs : List (Key × V)} (r : RK D F μ es kvs) : es.length = kvs.length := by
  induction es generalizing kvs with
  | nil => cases r; rfl
  | cons e es ih => cases r with | cons r t => simp [ih t]
theorem RF.put {f : Str} {v : Vl} {u : V} (rv : RV D F μ v u) : ∀ {fs : List (Str × Vl)} {gs : List (Str × V)}, RF D F μ fs gs → RF D F μ (putFs f v fs) (putF f u gs)
  | _, _, .nil => .cons rv .nil
  | _, _, .cons (f := g) r t => by
    unfold putFs putF
    split
    · rename_i e; subst e; exact .cons rv t
    · exact .cons r (RF.put rv t)
theorem RF.length : ∀ {fs : List (Str × Vl)} {gs : List (Str × V)}, RF D F μ fs gs → fs.length = gs.length
  | _, _, .nil => rfl
  | _, _, .cons r t => by simp [RF.length t]
/-- o[i] = v -/
def setR (D : Wd) : TSet := fun o i v H Q => ∃ F μ h x y w, CS D F μ h H ∧ RV D F μ x o ∧ RV D F μ y i ∧ RV D F μ w v ∧ match setIV x y w h with
  | some h' => ∀ F' μ' H', Xt F μ H F' μ' H' → CS D F' μ' h' H' → Q H'
  | none => False
theorem pset {X : Cx} (hK : X.K = D.K) (hu : X.A.units + 65 < cLine) : PSet X (setR D) := by
  intro pins s σ H o i v ov iv u Q I ro ri rv hh
  obtain ⟨F, μ, h, x, y, w, c, rx, ry, rw', p⟩ := hh
  cases e : setIV x y w h with
  | none => rw [e] at p; exact p.elim
  | some h' =>
    rw [e] at p
    unfold setIV at e
    cases rx with
    | @ref l a hm =>
      dsimp only at e
      split at e
      · rename_i xs hx
        obtain ⟨b, u', e1, e2, e3, e4⟩ := c.ob l _ hx
        rw [hm] at e1
        cases e1
        cases e4 with
        | @lst _ us r =>
          cases ry with
          | int k =>
            simp only [Option.map_eq_some_iff] at e
            obtain ⟨j, ej, rfl⟩ := e
            obtain ⟨c', x'⟩ := c.put (lt_len hx) hm (RO.lst (r.set rw' j)) (fun _ _ z => by rw [e3] at z; cases z)
            refine set_list pins s σ H _ _ v ov iv u Q I ro ri rv ⟨_, us, k, j, rfl, rfl, e3, ?_, p _ _ _ x' c'⟩
            rw [← r.length]
            exact ej
          | _ => simp at e
      · rename_i t es hx
        split at e
        · rename_i hk
          cases e
          simp only [Bool.and_eq_true, decide_eq_true_eq] at hk
          obtain ⟨hk, hl⟩ := hk
          obtain ⟨b, u', e1, e2, e3, e4⟩ := c.ob l _ hx
          rw [hm] at e1
          cases e1
          have hsz : (100000 : Nat) < sizeLine := by rw [sizeLine_eq]; decide
          obtain rfl : ov = Value.ref a := ro
          cases e4 with
          | @dT _ kvs r =>
            simp only [isKey, if_true] at hk
            cases ry with
            | tup hf rs =>
              obtain ⟨ks, f1, f2⟩ := keys_ok rs hk
              subst f1 f2
              have hb := c.sub.tup hf
              obtain ⟨c', x'⟩ := c.put (lt_len hx) hm (RO.dT (r.put ks rw')) (fun _ _ z => by rw [e3] at z; cases z)
              have q := p _ _ _ x' c'
              exact d_setItem (by omega) I (.t e3 hb (by rw [← r.length]; omega)) ri rv fun s' I' => ⟨_, I', q⟩
            | _ => simp at hk
          | @dK _ kvs r =>
            simp only [isKey, Bool.false_eq_true, if_false] at hk
            obtain ⟨k, rfl, rfl⟩ := key1_ok ry hk
            obtain ⟨c', x'⟩ := c.put (lt_len hx) hm (RO.dK (r.put k rw')) (fun _ _ z => by rw [e3] at z; cases z)
            have q := p _ _ _ x' c'
            exact d_setItem (by omega) I (.k e3 (by rw [← r.length]; omega)) ri rv fun s' I' => ⟨_, I', q⟩
        · cases e
      · cases e
    | _ => simp at e
end
end IL
end

section
set_option autoImplicit false
set_option linter.all false
set_option Elab.async false
set_option maxRecDepth 100000
set_option maxHeartbeats 4000000
/-! IL: statements. -/
namespace IL
open PySem L2 PyProof.Rows
mutual
/-- an expression that may be told while an exception is handled -/
def hotE : Ex → Bool
  | .var _ => true
  | .cst _ => true
  | .gc _ _ => true
  | .bin _ a b => hotE a && hotE b
  | .cmp _ a b => hotE a && hotE b
  | .and a b => hotE a && hotE b
  | .or a b => hotE a && hotE b
  | .not a => hotE a
  | .tup es => hotL es
  | .lst _ es => hotL es
  | .idx a b => hotE a && hotE b
  | .bm _ o es => hotE o && hotL es
  | .isE a _ => hotE a
  | _ => false
def hotL : List Ex → Bool
  | [] => true
  | e :: es => hotE e && hotL es
end
mutual
def hotS : Sm → Bool
  | .set _ e => hotE e
  | .drop e => hotE e
  | .ret e => hotE e
  | .ife c a b => hotE c && hotB a && hotB b
  | _ => false
def hotB : List Sm → Bool
  | [] => true
  | s :: ss => hotS s && hotB ss
end
def notLc : Expr → Bool
  | .ListComp _ _ _ _ => false
  | _ => true
def notTupE : Expr → Bool
  | .Tuple _ _ _ => false
  | _ => true
def isLc : Ex → Bool
  | .lc _ _ _ _ _ _ _ => true
  | _ => false
/-- name = [..]: on the name's own line, the name not told anew within -/
def locB (sc : Scope) (x : Str) : Bool := match sc.names.lookup x with
  | some .local => true
  | some .cell => true
  | _ => false
def lcFits (sc : Scope) (x : Str) (p : Pos) (v : Expr) : Bool := match v with
  | .ListComp _ _ scope lp => decide (sc.names.lookup x = some .cell) || (p.line == lp.line) && !(scope.names.any fun (n, k) => n == x && (k == .local || k == .cell))
  | _ => true
/-- a, b = x, y: are the stores put together? -/
def parLine (ts : List Expr) : Nat := (ts.head?.map (·.pos.line)).getD 0
def parNames (sc : Scope) (ts : List Expr) : List Str := ts.filterMap fun
    | .Name id pos => if sc.names.lookup id == some .local && pos.line == parLine ts then some id else none
    | _ => none
def parNo (sc : Scope) (ts vs : List Expr) : Bool := (!(ts.length == 2 || ts.length == 3) || vs.length != ts.length) || (parNames sc ts).length != ts.length || (vs.all noStar && vs.all (foldedForSure 8))
def parYes (sc : Scope) (ts vs : List Expr) : Bool := (ts.length == 2 || ts.length == 3) && (vs.length == ts.length) && vs.all noStar && (parNames sc ts).length == ts.length && (parNames sc ts).eraseDups.length == (parNames sc ts).length && !vs.all (foldedForSure 8) && !vs.all (constantsAlone 8)
def parNoE (sc : Scope) (ts : List Expr) : Expr → Bool
  | .Tuple vs _ _ => vs.all noStar && parNo sc ts vs
  | _ => true
section
variable (G : Gt) (N : List Str)
def parB (sc : Scope) (gs : List Tg) (e : Ex) (ts : List Expr) (v : Expr) : Bool := match gs, e, ts, v with
  | [.nm i, .nm j], .tup [a, b], [.Name x px, .Name y py], .Tuple [va, vb] _ _ => decide (N[i]? = some x) && decide (N[j]? = some y) && decide (i ≠ j) && parYes sc ts [va, vb] && chkL G N [a, b] sc [va, vb]
  | [.nm i, .nm j, .nm l], .tup [a, b, c], [.Name x px, .Name y py, .Name z pz], .Tuple [va, vb, vc] _ _ => decide (N[i]? = some x) && decide (N[j]? = some y) && decide (N[l]? = some z) && decide (i ≠ j) && decide (i ≠ l) && decide (j ≠ l) && parYes sc ts [va, vb, vc] && chkL G N [a, b, c] sc [va, vb, vc]
  | _, _, _, _ => false
mutual
def chkS : Sm → Scope → Stmt → Bool
  | .set i e, sc, s => match s with
    | .Assign [.Name x p] v _ => decide (N[i]? = some x) && locB sc x && chkE G N e sc v && lcFits sc x p v
    | _ => false
  | .setT gs e, sc, s => match s with
    | .Assign [.Tuple ts k p] v _ => parB G N sc gs e ts v || (chkT N (.tp gs) sc (.Tuple ts k p) && notLc v && parNoE sc ts v && chkE G N e sc v)
    | _ => false
  | .setI o i e, sc, s => match s with
    | .Assign [.Subscript x y _] v _ => notLc v && chkE G N o sc x && chkE G N i sc y && chkE G N e sc v
    | _ => false
  | .setF o f e, sc, s => match s with
    | .Assign [.Attribute x g _] v _ => f == g && chkE G N o sc x && chkE G N e sc v
    | _ => false
  | .drop e, sc, s => match s with
    | .Expr v _ => notLc v && chkE G N e sc v
    | _ => false
  | .ret e, sc, s => match s with
    | .Return (some v) _ => chkE G N e sc v
    | _ => false
  | .retN, _, s => match s with
    | .Return none _ => true
    | _ => false
  | .pass, _, s => match s with
    | .Pass _ => true
    | _ => false
  | .ife c a b, sc, s => match s with
    | .If t x y _ => chkE G N c sc t && chkB a sc x && chkB b sc y
    | _ => false
  | .for_ g k es body, sc, s => match s with
    | .For tg iter b [] _ => tgK k g && chkT N g sc tg && chkI G N k es sc iter && chkB body sc b
    | _ => false
  | .whl _ c body, sc, s => match s with
    | .While t b [] _ => chkE G N c sc t && chkB body sc b
    | _ => false
  | .raise C, sc, s => match s with
    | .Raise (some (.Call (.Name x _) [.Constant (.str _) _ _] [] _)) none _ => glB sc x && plainNm x && decide (G.ex x = some C)
    | _ => false
  | .try_ body C i suite, sc, s => match i, s with
    | some i, .Try b [.ExceptHandler (some (.Name x _)) (some n) (s0 :: su) _] [] [] _ => (glB sc x && plainNm x && decide (G.ex x = some C) && decide (10 ≤ C) && decide (N[i]? = some n) && decide (sc.names.lookup n = some .local) && hotB suite) && chkB body sc b && chkB suite sc (s0 :: su)
    | _, _ => false
  | .bad, _, _ => true
  | _, _, _ => false
def chkB : List Sm → Scope → List Stmt → Bool
  | [], _, [] => true
  | s :: ss, sc, x :: xs => chkS s sc x && chkB ss sc xs
  | _, _, _ => false
end
end
/-- a statement's place: in a def's body -/
structure SOk (D : Wd) (P : Pg) (d : Nat) (G : Gt) (N : List Str) (sc : Scope) (W : WX) (X : Cx) : Prop extends XOk D P d G N sc W X where
  sceq : X.env.scope = sc
  kind : X.env.scope.kind = .function
  pass : PassesOwn (model X.prog X.w) X.A X.env X.xe
  own : X.stack = X.env :: X.outer
  frame : X.env.frame = some X.env.locals
  ex0 : X.ex = []
/-- what stands behind a statement of ours -/
def FlQ (D : Wd) (W : WX) (F : Hp) (μ : List Addr) (H : Hp) (f : Fl) (E : Ends) : Prop := match f with
  | .nx ρ' h' => ∀ F' μ' H' σ', Xt F μ H F' μ' H' → CS D F' μ' h' H' → ER D F' μ' ρ' σ' → E.nx σ' H'
  | .bk ρ' h' => ∀ F' μ' H' σ', Xt F μ H F' μ' H' → CS D F' μ' h' H' → ER D F' μ' ρ' σ' → E.bk σ' H'
  | .ct ρ' h' => ∀ F' μ' H' σ', Xt F μ H F' μ' H' → CS D F' μ' h' H' → ER D F' μ' ρ' σ' → E.ct σ' H'
  | .rt v h' => ∀ F' μ' H' u, Xt F μ H F' μ' H' → CS D F' μ' h' H' → RV D F' μ' v u → E.rt u H'
  | .ex C ρ' h' => ∀ F' μ' H' σ' A, Xt F μ H F' μ' H' → CS D F' μ' h' H' → ER D F' μ' ρ' σ' → D.cls C = some A → W (.ref A) none σ' H'
  | .bad => False
theorem FlQ.from {D : Wd} {W : WX} {F : Hp} {μ : List Addr} {H : Hp} {F1 : Hp} {μ1 : List Addr} {H1 : Hp} {f : Fl} {E : Ends} (x : Xt F μ H F1 μ1 H1) (p : FlQ D W F μ H f E) : FlQ D W F1 μ1 H1 f E := by
  cases f with
  | bad => exact p
  | ex C ρ' h' => exact fun F2 μ2 H2 σ' A x2 => p F2 μ2 H2 σ' A (x.trans x2)
  | rt v h' => exact fun F2 μ2 H2 u x2 => p F2 μ2 H2 u (x.trans x2)
  | nx ρ' h' => exact fun F2 μ2 H2 σ' x2 => p F2 μ2 H2 σ' (x.trans x2)
  | bk ρ' h' => exact fun F2 μ2 H2 σ' x2 => p F2 μ2 H2 σ' (x.trans x2)
  | ct ρ' h' => exact fun F2 μ2 H2 σ' x2 => p F2 μ2 H2 σ' (x.trans x2)
/-- an expression ahead of a statement's end -/
theorem fl_bind {α β : Type} {D : Wd} {W : WX} {R : Hp → List Addr → α → β → Prop} {F : Hp} {μ : List Addr} {H : Hp} {r : Rs α} {ρ : Ev} {σ : L2.St} {f : α → Hh → Fl} {E : Ends} (er : ER D F μ ρ σ) (p : FlQ D W F μ H (Rs.fl r ρ f) E) :
    Post D R F μ H r (fun u H1 => ∃ F1 μ1 v h1, Xt F μ H F1 μ1 H1 ∧ CS D F1 μ1 h1 H1 ∧ R F1 μ1 v u ∧ FlQ D W F1 μ1 H1 (f v h1) E) (WE W σ) := by
  cases r with
  | bad => exact p
  | exc C h => exact fun F1 μ1 H1 A x c k => p F1 μ1 H1 σ A x c (er.mono x.f x.m) k
  | ok v h => exact fun F1 μ1 H1 u x c rr => ⟨F1, μ1, v, h, x, c, rr, p.from x⟩
def tS (D : Wd) (W : WX) (ev : Ev → Hh → Fl) : TS := fun E σ H => ∃ F μ ρ h, CS D F μ h H ∧ ER D F μ ρ σ ∧ FlQ D W F μ H (ev ρ h) E
theorem _root_.L2.PS.imp {X : Cx} {st : Stmt} {t t' : TS} (h : PS X st t) (q : ∀ E σ H, t' E σ H → t E σ H) : PS X st t' := ⟨fun pins s σ H D I w => h.run pins s σ H D I (q D σ H w)⟩
theorem _root_.L2.PSs.imp {X : Cx} {st : List Stmt} {t t' : TS} (h : PSs X st t) (q : ∀ E σ H, t' E σ H → t E σ H) : PSs X st t' := ⟨fun pins s σ H D I w => h.run pins s σ H D I (q D σ H w)⟩
/-- a turn of a for ends -/
theorem forL_cases {turn : Vl → Ev → Hh → Fl} {v : Vl} {vs : List Vl} {ρ : Ev} {h : Hh} : forL turn (v :: vs) ρ h = (match turn v ρ h with
    | .nx ρ' h' => forL turn vs ρ' h'
    | .ct ρ' h' => forL turn vs ρ' h'
    | .bk ρ' h' => .nx ρ' h'
    | r => r) := rfl
section
variable {D : Wd} {W : WX} {E : Ends} {ev : Ev → Hh → Fl} {g : Tg}
/-- the turn of a for -/
abbrev turnF (g : Tg) (body : Ev → Hh → Fl) : Vl → Ev → Hh → Fl := fun v ρ h => match bindT g v ρ with
  | some ρ1 => body ρ1 h
  | none => .bad
/-- a turn done: what the loop's rest is -/
theorem turn_reads (gok : GOk D g (tgT D.K g)) {tb : TS} {F2 : Hp} {μ2 : List Addr} {h2 : Hh} {H2 : Hp} {ρ : Ev} {σ : L2.St} {v : Vl} {u : V} (c : CS D F2 μ2 h2 H2) (er : ER D F2 μ2 ρ σ) (r : RV D F2 μ2 v u)
    (hb : ∀ E σ H, tS D W ev E σ H → tb E σ H) {N : L2.St → Hp → Prop} {rest : Ev → Hh → Fl}
    (hN : ∀ F3 μ3 h3 H3 ρ3 σ3, Xt F2 μ2 H2 F3 μ3 H3 → CS D F3 μ3 h3 H3 → ER D F3 μ3 ρ3 σ3 → FlQ D W F3 μ3 H3 (rest ρ3 h3) E → N σ3 H3)
    (p : FlQ D W F2 μ2 H2 (match turnF g ev v ρ h2 with
      | .nx ρ' h' => rest ρ' h'
      | .ct ρ' h' => rest ρ' h'
      | .bk ρ' h' => .nx ρ' h'
      | r => r) E) : tgT D.K g u σ H2 fun σ2 H2 => tb { E with nx := N, ct := N, bk := E.nx } σ2 H2 := by
  cases e : bindT g v ρ with
  | none => simp only [turnF, e] at p; exact p.elim
  | some ρ1 =>
    simp only [turnF, e] at p
    refine gok.go c er r e fun σ' er' _ => hb _ _ _ ⟨F2, μ2, ρ1, h2, c, er', ?_⟩
    cases e2 : ev ρ1 h2 with
    | bad => rw [e2] at p; exact p.elim
    | ex C ρ' h' => rw [e2] at p; exact p
    | rt v h' => rw [e2] at p; exact p
    | nx ρ' h' => rw [e2] at p; exact fun F' μ' H' σ' x c' er' => hN F' μ' h' H' ρ' σ' x c' er' (p.from x)
    | ct ρ' h' => rw [e2] at p; exact fun F' μ' H' σ' x c' er' => hN F' μ' h' H' ρ' σ' x c' er' (p.from x)
    | bk ρ' h' => rw [e2] at p; exact p
/-- a for over frozen items -/
theorem for_fr (gok : GOk D g (tgT D.K g)) {tb : TS} (hb : ∀ E σ H, tS D W ev E σ H → tb E σ H) {J : It} {F1 : Hp} {μ1 : List Addr} {h1 : Hh} {H1 : Hp} {ρ : Ev} {σ : L2.St} {xs : List Vl} {Y : Hp → Prop} (wk : Wk D J F1 μ1 xs Y) (hY : Y H1) (c : CS D F1 μ1 h1 H1) (er : ER D F1 μ1 ρ σ)
    (p : FlQ D W F1 μ1 H1 (forL (turnF g ev) xs ρ h1) E) :
    ∃ W : Nat → Nat → L2.St → Hp → Prop, (∃ m, W 0 m σ H1) ∧ ∀ i m σ H, W i m σ H →
      (J.stop i H ∧ E.nx σ H) ∨ (J.go i H ∧ ∃ N : L2.St → Hp → Prop, (∀ σ' H', N σ' H' → ∃ m', m' < m ∧ W (i + 1) m' σ' H') ∧ ∀ x H', J.yld i H x H' → tgT D.K g x σ H' fun σ2 H2 => tb { E with nx := N, ct := N, bk := E.nx } σ2 H2) := by
  let Pv : Nat → L2.St → Hp → Prop := fun i σ H => ∃ F μ ρ h, Y H ∧ FExt F1 F ∧ MExt μ1 μ ∧ CS D F μ h H ∧ ER D F μ ρ σ ∧ FlQ D W F μ H (forL (turnF g ev) (xs.drop i) ρ h) E
  refine ⟨fun i m σ H => m = xs.length - i ∧ i ≤ xs.length ∧ Pv i σ H, ⟨_, rfl, Nat.zero_le _, F1, μ1, ρ, h1, hY, .refl _, .refl _, c, er, by simpa using p⟩, ?_⟩
  rintro i m σ H ⟨rfl, hi, F, μ, ρ, h, hy0, hF, hm, c, er, p⟩
  have hs : FSub F1 H := FSub.ext hF c.sub
  by_cases hlt : i < xs.length
  · refine .inr ⟨wk.goes i H hlt hs hy0, Pv (i + 1), fun σ' H' p' => ⟨_, by omega, rfl, hlt, p'⟩, fun x H' hy => ?_⟩
    obtain ⟨F3, c3, x3, r3⟩ := wk.yields i H x H' xs[i] (by simp [hlt]) hs hy0 hy F μ h hF hm c
    rw [List.drop_eq_getElem_cons hlt, forL_cases] at p
    refine turn_reads gok c3 (er.mono x3.f x3.m) r3 hb (fun F4 μ4 h4 H4 ρ4 σ4 x4 c4 er4 p4 => ⟨F4, μ4, ρ4, h4, wk.stays x4 (wk.stays x3 hy0), (hF.trans x3.f).trans x4.f, (hm.trans x3.m).trans x4.m, c4, er4, p4⟩) (p.from x3)
  · have e : i = xs.length := by omega
    subst e
    rw [List.drop_length] at p
    exact .inl ⟨wk.stops H hs hy0, p _ _ _ _ (.refl _ _ _) c er⟩
end
end IL
end

section
set_option autoImplicit false
set_option linter.all false
set_option Elab.async false
set_option maxRecDepth 100000
set_option maxHeartbeats 8000000
/-! IL: statements, all. -/
namespace IL
open PySem L2 PyProof.Rows
section
variable {D : Wd} {W : WX} {E : Ends} {ev : Ev → Hh → Fl} {g : Tg}
/-- a for over a list of the heap -/
theorem for_ce (gok : GOk D g (tgT D.K g)) {tb : TS} (hb : ∀ E σ H, tS D W ev E σ H → tb E σ H) {F1 : Hp} {μ1 : List Addr} {h1 : Hh} {H1 : Hp} {ρ : Ev} {σ : L2.St} {l n0 : Nat} {a : Addr} (hl : μ1[l]? = some a) (c : CS D F1 μ1 h1 H1) (er : ER D F1 μ1 ρ σ)
    (p : FlQ D W F1 μ1 H1 (forC (turnF g ev) l n0 0 ρ h1) E) :
    ∃ W : Nat → Nat → L2.St → Hp → Prop, (∃ m, W 0 m σ H1) ∧ ∀ i m σ H, W i m σ H →
      ((Itl D.K a).stop i H ∧ E.nx σ H) ∨ ((Itl D.K a).go i H ∧ ∃ N : L2.St → Hp → Prop, (∀ σ' H', N σ' H' → ∃ m', m' < m ∧ W (i + 1) m' σ' H') ∧ ∀ x H', (Itl D.K a).yld i H x H' → tgT D.K g x σ H' fun σ2 H2 => tb { E with nx := N, ct := N, bk := E.nx } σ2 H2) := by
  let Pv : Nat → Nat → L2.St → Hp → Prop := fun i n σ H => ∃ F μ ρ h, FExt F1 F ∧ MExt μ1 μ ∧ CS D F μ h H ∧ ER D F μ ρ σ ∧ FlQ D W F μ H (forC (turnF g ev) l n i ρ h) E
  refine ⟨fun i n σ H => Pv i n σ H, ⟨n0, F1, μ1, ρ, h1, .refl _, .refl _, c, er, p⟩, ?_⟩
  rintro i n σ H ⟨F, μ, ρ, h, hF, hm, c, er, p⟩
  have hl2 := hm.get hl
  have cell : ∀ ys, h[l]? = some (.lst ys) → ∃ zs, SqL D.K H a zs ∧ RVs D F μ ys zs := fun ys hy => by
    obtain ⟨b, u, e1, e3, e4, e5⟩ := c.ob l _ hy
    rw [hl2] at e1
    cases e1
    cases e5 with
    | lst q => exact ⟨_, .of e4, q⟩
  cases n with
  | zero =>
    simp only [forC] at p
    split at p
    · rename_i ys hy
      split at p
      · rename_i hle
        obtain ⟨zs, sq, q⟩ := cell ys hy
        exact .inl ⟨⟨zs, sq, by rw [← q.length]; exact hle⟩, p _ _ _ _ (.refl _ _ _) c er⟩
      · exact p.elim
    · exact p.elim
  | succ n =>
    simp only [forC] at p
    split at p
    · rename_i ys hy
      obtain ⟨zs, sq, q⟩ := cell ys hy
      split at p
      · rename_i v hv
        obtain ⟨z, hz, rz⟩ := q.get hv
        refine .inr ⟨⟨zs, z, sq, hz⟩, Pv (i + 1) n, fun σ' H' p' => ⟨n, by omega, p'⟩, fun x H' hyl => ?_⟩
        obtain ⟨rfl, hx⟩ := hyl
        have := hx zs sq
        rw [hz] at this
        cases this
        exact turn_reads gok c er rz hb (fun F4 μ4 h4 H4 ρ4 σ4 x4 c4 er4 p4 => ⟨F4, μ4, ρ4, h4, hF.trans x4.f, hm.trans x4.m, c4, er4, p4⟩) p
      · rename_i hv
        exact .inl ⟨⟨zs, sq, by rw [← q.length]; exact List.getElem?_eq_none_iff.mp hv⟩, p _ _ _ _ (.refl _ _ _) c er⟩
    · exact p.elim
/-- a test ahead of a statement's end -/
theorem fl_test {F : Hp} {μ : List Addr} {H : Hp} {r : Rs Vl} {ρ : Ev} {σ : L2.St} {f : Vl → Hh → Fl} (hf : ∀ v h, (∀ b, v ≠ .bl b) → f v h = .bad) (er : ER D F μ ρ σ) (p : FlQ D W F μ H (Rs.fl r ρ f) E) :
    Post D RB F μ H (asB r) (fun b H1 => ∃ F1 μ1 h1, Xt F μ H F1 μ1 H1 ∧ CS D F1 μ1 h1 H1 ∧ FlQ D W F1 μ1 H1 (f (.bl b) h1) E) (WE W σ) := by
  cases r with
  | bad => exact p
  | exc C h => exact fun F1 μ1 H1 A x c k => p F1 μ1 H1 σ A x c (er.mono x.f x.m) k
  | ok v h =>
    have p : FlQ D W F μ H (f v h) E := p
    by_cases q : ∃ b, v = .bl b
    · obtain ⟨b, rfl⟩ := q
      intro F1 μ1 H1 u x c e
      cases e
      exact ⟨F1, μ1, h, x, c, p.from x⟩
    · rw [hf v h fun b e => q ⟨b, e⟩] at p
      exact p.elim
theorem whl_reads {test : Ev → Hh → Rs Vl} {turn : Ev → Hh → Fl} {σ : L2.St} {H : Hp} {n : Nat} (q : tS D W (fun ρ h => whlL test turn n ρ h) E σ H) : tWhile (tT D W test) (tS D W turn) E σ H := by
  refine ⟨fun n σ H => tS D W (fun ρ h => whlL test turn n ρ h) E σ H, ⟨n, q⟩, ?_⟩
  rintro n σ H ⟨F, μ, ρ, h, c, er, p⟩
  cases n with
  | zero => exact p.elim
  | succ n =>
    simp only [whlL] at p
    refine ⟨F, μ, ρ, h, c, er, (fl_test (fun v h q => by cases v <;> first | rfl | exact absurd rfl (q _)) er p).mono fun b H1 q => ?_⟩
    obtain ⟨F1, μ1, h1, x, c1, p⟩ := q
    have er1 := er.mono x.f x.m
    cases b with
    | false => rw [if_neg Bool.false_ne_true]; exact p _ _ _ _ (.refl _ _ _) c1 er1
    | true =>
      rw [if_pos rfl]
      refine ⟨fun σ H => tS D W (fun ρ h => whlL test turn n ρ h) E σ H, fun σ' H' q => ⟨n, by omega, q⟩, F1, μ1, ρ, h1, c1, er1, ?_⟩
      dsimp only at p
      cases e2 : turn ρ h1 with
      | bad => rw [e2] at p; exact p.elim
      | ex C ρ' h' => rw [e2] at p; exact p
      | rt v h' => rw [e2] at p; exact p
      | nx ρ' h' => rw [e2] at p; exact fun F' μ' H' σ' x c' er' => ⟨F', μ', ρ', h', c', er', p.from x⟩
      | ct ρ' h' => rw [e2] at p; exact fun F' μ' H' σ' x c' er' => ⟨F', μ', ρ', h', c', er', p.from x⟩
      | bk ρ' h' => rw [e2] at p; exact p
end
section
variable {D : Wd} {P : Pg} {d : Nat} {G : Gt} {N : List Str}
/-- the parts of a comprehension of ours -/
theorem lcOk {m : Bool} {own : List Nat} {g : Tg} {kk : Ik} {es cond : List Ex} {e' : Ex} {sc : Scope} {W : WX} {X : Cx} (k : XOk D P d G N sc W X) {elt : Expr} {gens : List Comprehension} {scope : Scope} {pos : Pos}
    (h : chkE G N (.lc m own g kk es cond e') sc (.ListComp elt gens scope pos) = true) : ∃ tg iter ifs tt, gens = [⟨tg, iter, ifs, 0⟩] ∧ LOk D P d G N W X g own kk (evl P d es) (evl P d cond) (ev P d e') tg iter ifs elt scope tt := by
  unfold chkE at h
  split at h
  · rename_i e1
    cases e1
    rename_i tg iter ifs
    simp only [Bool.and_eq_true] at h
    obtain ⟨⟨⟨⟨⟨⟨h1, h2⟩, h3⟩, h4⟩, h5⟩, h6⟩, h7⟩ := h
    have h1 := Bool.and_eq_true_iff.mpr h1
    have pi := eI kk es k iter h5 g tg scope h3 h4
    obtain ⟨ec, tt, e1, e2, e3⟩ := eC (P := P) (d := d) (D := D) cond scope ifs h6
    have he' : ec = evl P d cond := by funext ρ h; exact (e1 ρ h).symm
    subst he'
    exact ⟨tg, iter, ifs, tt, rfl, pi.1, blk_ok k h1, h4, fun i hi => by simpa using (List.all_eq_true.mp h2) i hi, e2, e3, fun X' k' => (eE e' k' _ h7).pe, pi.2, nl_of h1⟩
  · cases h
abbrev xs (P : Pg) (d : Nat) := execS P (callC P (run P d))
abbrev xb (P : Pg) (d : Nat) := execB P (callC P (run P d))
theorem _root_.L2.PS.eq {X : Cx} {W : WX} {st : Stmt} {a b : Ev → Hh → Fl} (h : ∀ ρ h, b ρ h = a ρ h) (k : PS X st (tS D W a)) : PS X st (tS D W b) := by
  have : b = a := by funext ρ h'; exact h ρ h'
  rw [this]; exact k
theorem _root_.L2.PSs.eq {X : Cx} {W : WX} {st : List Stmt} {a b : Ev → Hh → Fl} (h : ∀ ρ h, b ρ h = a ρ h) (k : PSs X st (tS D W a)) : PSs X st (tS D W b) := by
  have : b = a := by funext ρ h'; exact h ρ h'
  rw [this]; exact k
theorem sw_no {i : Ex} {sc : Scope} {v : Expr} (h : chkE G N i sc v = true) (hn : notLc v = true) (t : Option Expr) (l : Nat) (env : Env) : swapsWith v t l env = pure false := by
  cases v <;> first | rfl | (cases i <;> simp [chkE] at h; done) | (simp [notLc, notTupE] at hn; done)
theorem sw_attr (v o : Expr) (f : Str) (p : Pos) (l : Nat) (env : Env) : swapsWith v (some (.Attribute o f p)) l env = pure false := by
  cases v <;> rfl
theorem sws_no {i : Ex} {sc : Scope} {v : Expr} (h : chkE G N i sc v = true) (hn : notLc v = true) (t : Expr) (l : Nat) (env : Env) : swapsWithSole [t] v l env = pure false := sw_no h hn (some t) l env
theorem par_starred : ∀ {vs : List Expr} (f : Expr → Bool), (∀ v, noStar v = true → f v = false) → vs.all noStar = true → vs.any f = false
  | [], f, _, _ => rfl
  | v :: vs, f, hf, h => by
    rw [List.all_cons, Bool.and_eq_true] at h
    rw [List.any_cons, par_starred f hf h.2, Bool.or_false]
    exact hf v h.1
theorem par_names {sc : Scope} {ts : List Expr} (f : Expr → Option Str) (hf : ∀ v, f v = match v with
    | .Name id pos => if sc.names.lookup id == some .local && pos.line == parLine ts then some id else none
    | _ => none) : ts.filterMap f = parNames sc ts := by
  have : f = fun v => match v with
    | .Name id pos => if sc.names.lookup id == some .local && pos.line == parLine ts then some id else none
    | _ => none := funext hf
  rw [this]
  rfl
theorem par_any {sc : Scope} {env : Env} (hs : env.scope = sc) (hk : sc.kind = .function) {ts vs : List Expr} (hn : vs.all noStar = true) {k1 k2} {p1 p2 : Pos} : swappedStores [.Tuple ts k1 p1] (.Tuple vs k2 p2) env =
    (if !(ts.length == 2 || ts.length == 3) || vs.length != ts.length then pure none else
      if (parNames sc ts).length != ts.length || (parNames sc ts).eraseDups.length != (parNames sc ts).length then pure none else
      if vs.all (foldedForSure 8) then pure none else
      if vs.all (constantsAlone 8) then (do unsupported "assign.tuple-of-constant-expressions:order-of-the-stores"; pure (some (parNames sc ts))) else pure (some (parNames sc ts))) := by
  subst hs
  have hb : env.blockKind = .function := by
    unfold Env.blockKind
    rw [hk]
    rfl
  have hf : (ScopeKind.function != ScopeKind.function) = false := by decide
  unfold swappedStores
  dsimp only
  rw [hb, hf, Bool.or_false]
  rw [par_starred _ ?_ hn]
  · rw [par_names (sc := env.scope) _ ?_]
    · simp only [Bool.false_eq_true, if_false]
    · intro v
      cases v <;> rfl
  · intro v hv
    cases v <;> first | rfl | (simp [noStar] at hv)
theorem par_none {sc : Scope} {env : Env} (hs : env.scope = sc) (hk : sc.kind = .function) {ts vs : List Expr} (hn : vs.all noStar = true) (h : parNo sc ts vs = true) {k1 k2} {p1 p2 : Pos} : swappedStores [.Tuple ts k1 p1] (.Tuple vs k2 p2) env = pure none := by
  rw [par_any hs hk hn]
  unfold parNo at h
  simp only [Bool.or_eq_true, Bool.and_eq_true] at h
  by_cases c1 : (!(ts.length == 2 || ts.length == 3) || vs.length != ts.length) = true
  · rw [if_pos c1]
  · rw [if_neg c1]
    rcases h with (h | h) | h
    · exact absurd (by simpa using h) c1
    · rw [if_pos (by rw [Bool.or_eq_true]; exact .inl h)]
    · split
      · rfl
      · rw [if_pos h.2]
theorem par_some {sc : Scope} {env : Env} (hs : env.scope = sc) (hk : sc.kind = .function) {ts vs : List Expr} (h : parYes sc ts vs = true) {k1 k2} {p1 p2 : Pos} : swappedStores [.Tuple ts k1 p1] (.Tuple vs k2 p2) env = pure (some (parNames sc ts)) := by
  unfold parYes at h
  simp only [Bool.and_eq_true, Bool.not_eq_true', beq_iff_eq] at h
  obtain ⟨⟨⟨⟨⟨⟨h1, h2⟩, h3⟩, h4⟩, h5⟩, h6⟩, h7⟩ := h
  rw [par_any hs hk h3]
  have c2 : (vs.length != ts.length) = false := by simp [h2]
  rw [if_neg (by rw [h1, c2]; decide), if_neg (by rw [h5, h4]; simp), if_neg (by rw [h6]; exact Bool.false_ne_true), if_neg (by rw [h7]; exact Bool.false_ne_true)]
theorem par_two {sc : Scope} {x y : Str} {px py : Pos} {vs : List Expr} (h : parYes sc [.Name x px, .Name y py] vs = true) : sc.names.lookup x = some .local ∧ sc.names.lookup y = some .local ∧ parNames sc [.Name x px, .Name y py] = [x, y] := by
  unfold parYes at h
  simp only [Bool.and_eq_true, beq_iff_eq] at h
  have h4 := h.1.1.1.2
  clear h
  simp only [parNames, List.filterMap_cons, List.filterMap_nil] at h4 ⊢
  generalize hx : (sc.names.lookup x == some NameKind.local && px.line == parLine [.Name x px, .Name y py]) = Ax at h4 ⊢
  generalize hy : (sc.names.lookup y == some NameKind.local && py.line == parLine [.Name x px, .Name y py]) = Ay at h4 ⊢
  cases Ax <;> cases Ay <;> simp at h4
  rw [Bool.and_eq_true] at hx
  rw [Bool.and_eq_true] at hy
  exact ⟨by simpa using hx.1, by simpa using hy.1, rfl⟩
theorem par_three {sc : Scope} {x y z : Str} {px py pz : Pos} {vs : List Expr} (h : parYes sc [.Name x px, .Name y py, .Name z pz] vs = true) : sc.names.lookup x = some .local ∧ sc.names.lookup y = some .local ∧ sc.names.lookup z = some .local ∧ parNames sc [.Name x px, .Name y py, .Name z pz] = [x, y, z] := by
  unfold parYes at h
  simp only [Bool.and_eq_true, beq_iff_eq] at h
  have h4 := h.1.1.1.2
  clear h
  simp only [parNames, List.filterMap_cons, List.filterMap_nil] at h4 ⊢
  generalize hx : (sc.names.lookup x == some NameKind.local && px.line == parLine [.Name x px, .Name y py, .Name z pz]) = Ax at h4 ⊢
  generalize hy : (sc.names.lookup y == some NameKind.local && py.line == parLine [.Name x px, .Name y py, .Name z pz]) = Ay at h4 ⊢
  generalize hz : (sc.names.lookup z == some NameKind.local && pz.line == parLine [.Name x px, .Name y py, .Name z pz]) = Az at h4 ⊢
  cases Ax <;> cases Ay <;> cases Az <;> simp at h4
  rw [Bool.and_eq_true] at hx
  rw [Bool.and_eq_true] at hy
  rw [Bool.and_eq_true] at hz
  exact ⟨by simpa using hx.1, by simpa using hy.1, by simpa using hz.1, rfl⟩
theorem st_no {i : Ex} {sc : Scope} {v : Expr} {env : Env} (hs : env.scope = sc) (hk : sc.kind = .function) {ts : List Expr} (h : chkE G N i sc v = true) (hn : parNoE sc ts v = true) (k : Nat) (p : Pos) : swappedStores [.Tuple ts k p] v env = pure none := by
  cases v <;> first | rfl | (cases i <;> simp [chkE] at h; done) | skip
  all_goals
    simp only [parNoE, Bool.and_eq_true] at hn
    exact par_none hs hk hn.1 hn.2
theorem tgtT_plain {gs : List Tg} {sc : Scope} {e : Expr} (h : chkT N (.tp gs) sc e = true) (env : Env) : (assignEach [e] env).map (·.2) = [assign e env] := by
  rw [tgt_plain h]; rfl
theorem pg_subOk {X : Cx} {sc : Scope} {i : Ex} {o x : Expr} {p : Pos} (h : chkE G N i sc x = true) : ∀ v, assign (.Subscript o x p) X.env v = (do
      let ov ← holding [v] (eval o X.env)
      let iv ← holding [v, ov] (eval x X.env)
      standAt p
      holding [v, ov, iv] (setItem ov iv v)
      release [v, ov, iv] []) := by
  intro v
  cases x <;> first | rfl | (cases i <;> simp [chkE] at h)
section
variable {sc : Scope} {W : WX} {X : Cx}
theorem sw_cell {elt : Expr} {gs : List Comprehension} {scope : Scope} {pos py : Pos} {y : Str} {l : Nat} {env : Env} (hy : env.scope.names.lookup y = some .cell) : swapsWith (.ListComp elt gs scope pos) (some (.Name y py)) l env = pure false := by
  have ky : env.kindOf y = some .cell := hy
  unfold swapsWith
  simp only [ky]
  have e : (some NameKind.cell == some NameKind.local) = false := by decide
  rw [e, Bool.and_false, Bool.false_and, Bool.false_and]
theorem s_set {i : Nat} {x : Str} {p pos : Pos} {e : Ex} {v : Expr} (k : SOk D P d G N sc W X) (hi : N[i]? = some x) (hl : locB sc x = true) (he : chkE G N e sc v = true)
    (hs : lcFits sc x p v = true) :
    PS X (.Assign [.Name x p] v pos) (tS D W fun ρ h => Rs.fl (ev P d e ρ h) ρ fun v h1 => .nx (ρ.set i (some v)) h1) := by
  have hl2 : sc.names.lookup x = some .local ∨ sc.names.lookup x = some .cell := by
    unfold locB at hl
    split at hl
    · exact .inl (by assumption)
    · exact .inr (by assumption)
    · cases hl
  obtain ⟨lo, lf⟩ := k.loc x hl2
  have rd : ∀ {te : TE}, (∀ σ H Q, tE D W (ev P d e) σ H Q → te σ H Q) → ∀ E σ H, tS D W (fun ρ h => Rs.fl (ev P d e ρ h) ρ fun v h1 => .nx (ρ.set i (some v)) h1) E σ H → tAsg te (gName i) E σ H := fun {te} z E σ H q => by
    obtain ⟨F, μ, ρ, h, c, er, p⟩ := q
    refine z _ _ _ ⟨F, μ, ρ, h, c, er, (fl_bind er p).mono fun u H1 q => ?_⟩
    obtain ⟨F1, μ1, w, h1, x1, c1, r1, p⟩ := q
    exact p _ _ _ _ (.refl _ _ _) c1 ((er.mono x1.f x1.m).set i r1)
  by_cases hn : notLc v = true
  · exact (ps_set (by rw [k.hN]; exact k.nd) (by rw [k.hN]; exact hi) lo (eE e k.toXOk v he).pe (sw_no he hn _ _ _) lf).imp (rd fun _ _ _ q => q)
  · cases v <;> try (exact absurd rfl hn)
    rename_i elt gens scope lp
    by_cases hc : sc.names.lookup x = some .cell
    · exact (ps_set (by rw [k.hN]; exact k.nd) (by rw [k.hN]; exact hi) lo (eE e k.toXOk _ he).pe (sw_cell (by rw [k.sceq]; exact hc)) lf).imp (rd fun _ _ _ q => q)
    have hx : X.env.scope.names.lookup x = some .local := by
      rw [k.sceq]
      exact hl2.resolve_right hc
    cases e <;> try (simp [chkE] at he; done)
    rename_i m own g kk es cond e'
    obtain ⟨tg, iter, ifs, tt, rfl, o⟩ := lcOk (D := D) (P := P) (d := d) (W := W) k.toXOk he
    simp only [lcFits, Bool.and_eq_true, Bool.not_eq_true', Bool.or_eq_true, decide_eq_true_eq, hc, false_or] at hs
    have bk : ∀ s H C cl fp, XOk D P d G N scope W0 (X.blk s H scope (compEnvC scope cl C X.env) fp) := fun s H C cl fp => k.toXOk.blk s H scope o.blk.kind o.nl C cl fp
    have z := ps_setLc (pos := lp) (spos := pos) k.calm (by rw [k.hN]; exact k.nd) (by rw [k.hN]; exact hi) hx (sw_true k.kind hx hs.1 hs.2) o.pi o.blk (fun s H C cl fp => (g_ok (bk s H C cl fp) g tg o.tgt).1) (fun s H C cl fp => o.pt _ (bk s H C cl fp)) (fun s H C cl fp => o.pe _ (bk s H C cl fp)) o.hs
    rw [own_map] at z
    refine (ps_unl z).imp (rd (te := tUnlE X (tLc (tW D W X kk (evl P d es)) (tgT D.K g) tt (tE D W0 (ev P d e')) own)) fun σ H Q q => lc_reads (X := X) (m := m) (g_ok (bk X.s_0 X.H_0 0 [] []) g tg o.tgt).2 o.hown o.htt σ H Q ?_)
    have e1 : ev P d (.lc m own g kk es cond e') = lcEv m own g kk (evl P d es) (evl P d cond) (ev P d e') := by
      funext ρ h
      (simp only [ev, evalE]) <;> rfl
    rw [← e1]
    exact q
end
end
end IL
end

section
set_option autoImplicit false
set_option linter.all false
set_option Elab.async false
set_option maxRecDepth 100000
set_option maxHeartbeats 8000000
/-! IL: while an exception is handled. -/
namespace IL
open PySem L2 PyProof.Rows
/-- behind a suite -/
theorem gone_reads {D : Wd} {W : WX} {F : Hp} {μ : List Addr} {H : Hp} {i : Nat} {f : Fl} {E : Ends} (p : FlQ D W F μ H (Fl.gone (some i) f.quiet) E) :
    FlQ D W0 F μ H f { nx := fun σ' H' => E.nx (σ'.set i none) H', rt := E.rt, bk := fun σ' H' => E.bk (σ'.set i none) H', ct := fun σ' H' => E.ct (σ'.set i none) H' } := by
  cases f with
  | bad => exact p
  | ex C ρ h => exact p.elim
  | rt v h => exact p
  | nx ρ h => exact fun F' μ' H' σ' x c er => p F' μ' H' _ x c (er.setNone i)
  | bk ρ h => exact fun F' μ' H' σ' x c er => p F' μ' H' _ x c (er.setNone i)
  | ct ρ h => exact fun F' μ' H' σ' x c er => p F' μ' H' _ x c (er.setNone i)
section
variable {D : Wd} {P : Pg} {d : Nat} {G : Gt} {N : List Str}
mutual
theorem hE : ∀ (i : Ex), hotE i = true → ∀ {sc : Scope} {W : WX} {X : Cx}, XBase D P d G N sc X → ∀ e, chkE G N i sc e = true → EOk D W X (ev P d i) e
  | .var i, _, sc, W, X, k, e, h => by
    cases e <;> simp only [chkE, Bool.and_eq_true, decide_eq_true_eq, Bool.false_eq_true] at h
    exact (e_var k h.1.1 h.1.2 h.2).eq fun ρ h => by simp only [ev, evalE] <;> rfl
  | .cst v, _, sc, W, X, k, e, h => by
    cases e <;> simp only [chkE, Bool.false_eq_true] at h
    exact (e_cst h).eq fun ρ h => by simp only [ev, evalE] <;> rfl
  | .gc x v, _, sc, W, X, k, e, h => by
    cases e <;> simp only [chkE, Bool.and_eq_true, Bool.false_eq_true] at h
    obtain ⟨⟨⟨h1, h2⟩, h3⟩, h4⟩ := h
    split at h4
    · rename_i w hw
      have e1 := eq_of_beq h1
      subst e1
      exact (e_gc k h2 h3 hw h4).eq fun ρ h => by simp only [ev, evalE] <;> rfl
    · cases h4
  | .bin o a b, hh, sc, W, X, k, e, h => by
    simp only [hotE, Bool.and_eq_true] at hh
    cases e <;> simp only [chkE, Bool.and_eq_true, Bool.false_eq_true] at h
    obtain ⟨⟨h1, h2⟩, h3⟩ := h
    have e1 := isOp_eq h1
    subst e1
    exact (e_bin k o (hE a hh.1 k _ h2) (hE b hh.2 k _ h3)).eq fun ρ h => by simp only [ev, evalE] <;> rfl
  | .cmp o a b, hh, sc, W, X, k, e, h => by
    simp only [hotE, Bool.and_eq_true] at hh
    unfold chkE at h
    split at h
    · simp only [Bool.and_eq_true] at h
      obtain ⟨⟨h1, h2⟩, h3⟩ := h
      have e1 := isCop_eq h1
      subst e1
      exact (e_cmp k o (hE a hh.1 k _ h2) (hE b hh.2 k _ h3) (chk_noMark h3)).eq fun ρ h => by simp only [ev, evalE] <;> rfl
    · cases h
  | .and a b, hh, sc, W, X, k, e, h => by
    simp only [hotE, Bool.and_eq_true] at hh
    unfold chkE at h
    split at h
    · simp only [Bool.and_eq_true] at h
      exact (e_and2 (hE a hh.1 k _ h.1) (hE b hh.2 k _ h.2)).eok.eq fun ρ h => by simp only [ev, evalE] <;> rfl
    · simp only [Bool.and_eq_true] at h
      exact (e_andN (hE a hh.1 k _ h.1) (hW b hh.2 k _ _ _ h.2)).eok.eq fun ρ h => by simp only [ev, evalE] <;> rfl
    · cases h
  | .or a b, hh, sc, W, X, k, e, h => by
    simp only [hotE, Bool.and_eq_true] at hh
    unfold chkE at h
    split at h
    · simp only [Bool.and_eq_true] at h
      exact (e_or2 (hE a hh.1 k _ h.1) (hE b hh.2 k _ h.2)).eok.eq fun ρ h => by simp only [ev, evalE] <;> rfl
    · simp only [Bool.and_eq_true] at h
      exact (e_orN (hE a hh.1 k _ h.1) (hW b hh.2 k _ _ _ h.2)).eok.eq fun ρ h => by simp only [ev, evalE] <;> rfl
    · cases h
  | .not a, hh, sc, W, X, k, e, h => by
    simp only [hotE] at hh
    unfold chkE at h
    split at h
    · exact (e_not (hE a hh k _ h)).eq fun ρ h => by simp only [ev, evalE] <;> rfl
    · cases h
  | .tup es, hh, sc, W, X, k, e, h => by
    simp only [hotE] at hh
    unfold chkE at h
    split at h
    · exact (e_tup (hL es hh k _ h)).eq fun ρ h => by simp only [ev, evalE] <;> rfl
    · cases h
  | .lst m es, hh, sc, W, X, k, e, h => by
    simp only [hotE] at hh
    unfold chkE at h
    split at h
    · exact (e_lst m (hL es hh k _ h)).eq fun ρ h => by simp only [ev, evalE] <;> rfl
    · cases h
  | .idx a i, hh, sc, W, X, k, e, h => by
    simp only [hotE, Bool.and_eq_true] at hh
    unfold chkE at h
    split at h
    · simp only [Bool.and_eq_true] at h
      exact (e_idx k (hE a hh.1 k _ h.1) (hE i hh.2 k _ h.2) (chk_plainIx h.2)).eq fun ρ h => by simp only [ev, evalE] <;> rfl
    · cases h
  | .bm m o es, hh, sc, W, X, k, e, h => by
    simp only [hotE, Bool.and_eq_true] at hh
    unfold chkE at h
    split at h
    · simp only [Bool.and_eq_true, decide_eq_true_eq] at h
      obtain ⟨⟨⟨⟨⟨h1, h2⟩, h3⟩, h4⟩, h5⟩, h6⟩ := h
      have e1 := eq_of_beq h1
      subst e1
      refine (e_bm k (hE o hh.1 k _ h5) h3 (chks_noStar h6) h4 h2 (hL es hh.2 k _ h6) fun en => ?_).eq fun ρ h => by simp only [ev, evalE] <;> rfl
      subst en
      rw [chks_nil h6]
      funext ρ h'
      simp only [evl, evalL] <;> rfl
    · cases h
  | .isE a C, hh, sc, W, X, k, e, h => by
    simp only [hotE] at hh
    unfold chkE at h
    split at h
    · simp only [Bool.and_eq_true, decide_eq_true_eq, beq_iff_eq] at h
      obtain ⟨⟨⟨⟨⟨⟨⟨h1, h2⟩, h3⟩, h4⟩, h5⟩, h6⟩, h7⟩, h8⟩ := h
      subst h1
      exact (e_isE k h2 h4 h5 h6 h7 (chk_noStar h8) (hE a hh k _ h8)).eq fun ρ h => by simp only [ev, evalE] <;> rfl
    · cases h
  | .neg _, hh, _, _, _, _, _, _ => by simp [hotE] at hh
  | .chn _ _ _ _ _, hh, _, _, _, _, _, _ => by simp [hotE] at hh
  | .ite _ _ _, hh, _, _, _, _, _, _ => by simp [hotE] at hh
  | .dnew _, hh, _, _, _, _, _, _ => by simp [hotE] at hh
  | .slc _ _ _ _ _, hh, _, _, _, _, _, _ => by simp [hotE] at hh
  | .fld _ _, hh, _, _, _, _, _, _ => by simp [hotE] at hh
  | .call _ _, hh, _, _, _, _, _, _ => by simp [hotE] at hh
  | .meth _ _ _, hh, _, _, _, _, _, _ => by simp [hotE] at hh
  | .make _ _, hh, _, _, _, _, _, _ => by simp [hotE] at hh
  | .blt _ _, hh, _, _, _, _, _, _ => by simp [hotE] at hh
  | .lc _ _ _ _ _ _ _, hh, _, _, _, _, _, _ => by simp [hotE] at hh
  | .srt _ _, hh, _, _, _, _, _, _ => by simp [hotE] at hh
  | .srl _, hh, _, _, _, _, _, _ => by simp [hotE] at hh
  | .told _ _ _, hh, _, _, _, _, _, _ => by simp [hotE] at hh
  | .bad, hh, _, _, _, _, _, _ => by simp [hotE] at hh
termination_by i => (sizeOf i, 0)
theorem hW : ∀ (i : Ex), hotE i = true → ∀ {sc : Scope} {W : WX} {X : Cx}, XBase D P d G N sc X → ∀ op vs p, chkE G N i sc (.BoolOp op vs p) = true → WOkE D W X (ev P d i) (.BoolOp op vs p)
  | .and a b, hh, sc, W, X, k, op, vs, p, h => by
    simp only [hotE, Bool.and_eq_true] at hh
    unfold chkE at h
    split at h
    · rename_i e1; cases e1
      simp only [Bool.and_eq_true] at h
      exact (e_and2 (hE a hh.1 k _ h.1) (hE b hh.2 k _ h.2)).eq fun ρ h => by simp only [ev, evalE] <;> rfl
    · rename_i e1; cases e1
      simp only [Bool.and_eq_true] at h
      exact (e_andN (hE a hh.1 k _ h.1) (hW b hh.2 k _ _ _ h.2)).eq fun ρ h => by simp only [ev, evalE] <;> rfl
    · cases h
  | .or a b, hh, sc, W, X, k, op, vs, p, h => by
    simp only [hotE, Bool.and_eq_true] at hh
    unfold chkE at h
    split at h
    · rename_i e1; cases e1
      simp only [Bool.and_eq_true] at h
      exact (e_or2 (hE a hh.1 k _ h.1) (hE b hh.2 k _ h.2)).eq fun ρ h => by simp only [ev, evalE] <;> rfl
    · rename_i e1; cases e1
      simp only [Bool.and_eq_true] at h
      exact (e_orN (hE a hh.1 k _ h.1) (hW b hh.2 k _ _ _ h.2)).eq fun ρ h => by simp only [ev, evalE] <;> rfl
    · cases h
  | .var _, _, _, _, _, _, _, _, _, h => by simp [chkE] at h
  | .cst _, _, _, _, _, _, _, _, _, h => by simp [chkE] at h
  | .gc _ _, _, _, _, _, _, _, _, _, h => by simp [chkE] at h
  | .bin _ _ _, _, _, _, _, _, _, _, _, h => by simp [chkE] at h
  | .cmp _ _ _, _, _, _, _, _, _, _, _, h => by simp [chkE] at h
  | .not _, _, _, _, _, _, _, _, _, h => by simp [chkE] at h
  | .tup _, _, _, _, _, _, _, _, _, h => by simp [chkE] at h
  | .lst _ _, _, _, _, _, _, _, _, _, h => by simp [chkE] at h
  | .idx _ _, _, _, _, _, _, _, _, _, h => by simp [chkE] at h
  | .bm _ _ _, _, _, _, _, _, _, _, _, h => by simp [chkE] at h
  | .isE _ _, _, _, _, _, _, _, _, _, h => by simp [chkE] at h
  | .neg _, hh, _, _, _, _, _, _, _, _ => by simp [hotE] at hh
  | .chn _ _ _ _ _, hh, _, _, _, _, _, _, _, _ => by simp [hotE] at hh
  | .ite _ _ _, hh, _, _, _, _, _, _, _, _ => by simp [hotE] at hh
  | .dnew _, hh, _, _, _, _, _, _, _, _ => by simp [hotE] at hh
  | .slc _ _ _ _ _, hh, _, _, _, _, _, _, _, _ => by simp [hotE] at hh
  | .fld _ _, hh, _, _, _, _, _, _, _, _ => by simp [hotE] at hh
  | .call _ _, hh, _, _, _, _, _, _, _, _ => by simp [hotE] at hh
  | .meth _ _ _, hh, _, _, _, _, _, _, _, _ => by simp [hotE] at hh
  | .make _ _, hh, _, _, _, _, _, _, _, _ => by simp [hotE] at hh
  | .blt _ _, hh, _, _, _, _, _, _, _, _ => by simp [hotE] at hh
  | .lc _ _ _ _ _ _ _, hh, _, _, _, _, _, _, _, _ => by simp [hotE] at hh
  | .srt _ _, hh, _, _, _, _, _, _, _, _ => by simp [hotE] at hh
  | .srl _, hh, _, _, _, _, _, _, _, _ => by simp [hotE] at hh
  | .told _ _ _, hh, _, _, _, _, _, _, _, _ => by simp [hotE] at hh
  | .bad, hh, _, _, _, _, _, _, _, _ => by simp [hotE] at hh
termination_by i => (sizeOf i, 0)
theorem hL : ∀ (is : List Ex), hotL is = true → ∀ {sc : Scope} {W : WX} {X : Cx}, XBase D P d G N sc X → ∀ es, chkL G N is sc es = true → PA X es (tL D W (evl P d is))
  | [], _, sc, W, X, k, [], h => PA.eq (fun ρ h => by simp only [evl, evalL] <;> rfl) l_nil
  | [], _, _, _, _, _, _ :: _, h => by simp [chkL] at h
  | _ :: _, _, _, _, _, _, [], h => by simp [chkL] at h
  | i :: is, hh, sc, W, X, k, e :: es, h => by
    simp only [hotL, Bool.and_eq_true] at hh
    simp only [chkL, Bool.and_eq_true] at h
    exact PA.eq (fun ρ h => by simp only [evl, evalL] <;> rfl) (l_cons (hE i hh.1 k _ h.1) (chk_noStar h.1) (hL is hh.2 k _ h.2))
termination_by is => (sizeOf is, 0)
end
theorem hot_notLc {i : Ex} {sc : Scope} {v : Expr} (hh : hotE i = true) (h : chkE G N i sc v = true) : notLc v = true := by
  cases v <;> first | rfl | (cases i <;> first | (simp [hotE] at hh; done) | (simp [chkE] at h; done))
mutual
theorem hS : ∀ (s : Sm), hotS s = true → ∀ {sc : Scope} {W : WX} {X : Cx}, XBase D P d G N sc X → ∀ st, chkS G N s sc st = true → PS X st (tS D W (xs P d s))
  | .set i e, hh, sc, W, X, k, st, h => by
    simp only [hotS] at hh
    unfold chkS at h
    split at h
    · rename_i x p v p2
      simp only [Bool.and_eq_true, decide_eq_true_eq] at h
      obtain ⟨⟨⟨h1, h2⟩, h3⟩, h4⟩ := h
      have hl2 : sc.names.lookup x = some .local ∨ sc.names.lookup x = some .cell := by
        unfold locB at h2
        split at h2
        · exact .inl (by assumption)
        · exact .inr (by assumption)
        · cases h2
      obtain ⟨lo, lf⟩ := k.loc x hl2
      refine ((ps_set (by rw [k.hN]; exact k.nd) (by rw [k.hN]; exact h1) lo (hE (W := W) (d := d) e hh k v h3).pe (sw_no h3 (hot_notLc hh h3) _ _ _) lf).imp fun E σ H q => ?_).eq (a := fun ρ h => Rs.fl (ev P d e ρ h) ρ fun v h1 => .nx (ρ.set i (some v)) h1) fun ρ h => by simp only [xs, execS] <;> rfl
      obtain ⟨F, μ, ρ, h, c, er, p⟩ := q
      refine ⟨F, μ, ρ, h, c, er, (fl_bind er p).mono fun u H1 q => ?_⟩
      obtain ⟨F1, μ1, w, h1, x1, c1, r1, p⟩ := q
      exact p _ _ _ _ (.refl _ _ _) c1 ((er.mono x1.f x1.m).set i r1)
    · cases h
  | .drop e, hh, sc, W, X, k, st, h => by
    simp only [hotS] at hh
    unfold chkS at h
    split at h
    · simp only [Bool.and_eq_true] at h
      refine ((ps_expr (hE (W := W) (d := d) e hh k _ h.2).pe (sw_no h.2 h.1 _ _ _)).imp fun E σ H q => ?_).eq (a := fun ρ h => Rs.fl (ev P d e ρ h) ρ fun _ h1 => .nx ρ h1) fun ρ h => by simp only [xs, execS] <;> rfl
      obtain ⟨F, μ, ρ, h, c, er, p⟩ := q
      refine ⟨F, μ, ρ, h, c, er, (fl_bind er p).mono fun u H1 q => ?_⟩
      obtain ⟨F1, μ1, w, h1, x1, c1, r1, p⟩ := q
      exact p _ _ _ _ (.refl _ _ _) c1 (er.mono x1.f x1.m)
    · cases h
  | .ret e, hh, sc, W, X, k, st, h => by
    simp only [hotS] at hh
    unfold chkS at h
    split at h
    · refine ((ps_ret (hE (W := W) (d := d) e hh k _ h).pe).imp fun E σ H q => ?_).eq (a := fun ρ h => Rs.fl (ev P d e ρ h) ρ fun v h1 => .rt v h1) fun ρ h => by simp only [xs, execS] <;> rfl
      obtain ⟨F, μ, ρ, h, c, er, p⟩ := q
      refine ⟨F, μ, ρ, h, c, er, (fl_bind er p).mono fun u H1 q => ?_⟩
      obtain ⟨F1, μ1, w, h1, x1, c1, r1, p⟩ := q
      exact p _ _ _ _ (.refl _ _ _) c1 r1
    · cases h
  | .ife c a b, hh, sc, W, X, k, st, h => by
    simp only [hotS, Bool.and_eq_true] at hh
    obtain ⟨⟨g1, g2⟩, g3⟩ := hh
    unfold chkS at h
    split at h
    · simp only [Bool.and_eq_true] at h
      obtain ⟨⟨h1, h2⟩, h3⟩ := h
      refine ((ps_if (hE (W := W) (d := d) c g1 k _ h1).pt (hB (W := W) a g2 k _ h2) (hB (W := W) b g3 k _ h3)).imp fun E σ H q => ?_).eq (a := fun ρ h => Rs.fl (ev P d c ρ h) ρ fun x h1 => match x with
        | .bl true => xb P d a ρ h1
        | .bl false => xb P d b ρ h1
        | _ => .bad) fun ρ h => by simp only [xs, execS] <;> rfl
      obtain ⟨F, μ, ρ, h, c, er, p⟩ := q
      refine ⟨F, μ, ρ, h, c, er, (fl_test (fun v h q => by cases v <;> first | rfl | exact absurd rfl (q _)) er p).mono fun b H1 q => ?_⟩
      obtain ⟨F1, μ1, h1, x, c1, p⟩ := q
      have er1 := er.mono x.f x.m
      cases b with
      | true => rw [if_pos rfl]; exact ⟨F1, μ1, ρ, h1, c1, er1, p⟩
      | false => rw [if_neg Bool.false_ne_true]; exact ⟨F1, μ1, ρ, h1, c1, er1, p⟩
    · cases h
  | .setT _ _, hh, _, _, _, _, _, _ => by simp [hotS] at hh
  | .setI _ _ _, hh, _, _, _, _, _, _ => by simp [hotS] at hh
  | .setS _ _ _ _, hh, _, _, _, _, _, _ => by simp [hotS] at hh
  | .setF _ _ _, hh, _, _, _, _, _, _ => by simp [hotS] at hh
  | .retN, hh, _, _, _, _, _, _ => by simp [hotS] at hh
  | .pass, hh, _, _, _, _, _, _ => by simp [hotS] at hh
  | .for_ _ _ _ _, hh, _, _, _, _, _, _ => by simp [hotS] at hh
  | .whl _ _ _, hh, _, _, _, _, _, _ => by simp [hotS] at hh
  | .raise _, hh, _, _, _, _, _, _ => by simp [hotS] at hh
  | .bad, hh, _, _, _, _, _, _ => by simp [hotS] at hh
  | .try_ _ _ _ _, hh, _, _, _, _, _, _ => by simp [hotS] at hh
termination_by s => sizeOf s
theorem hB : ∀ (ss : List Sm), hotB ss = true → ∀ {sc : Scope} {W : WX} {X : Cx}, XBase D P d G N sc X → ∀ sts, chkB G N ss sc sts = true → PSs X sts (tS D W (xb P d ss))
  | [], _, sc, W, X, k, [], h => by
    refine (pss_nil.imp fun E σ H q => ?_).eq (a := fun ρ h => .nx ρ h) fun ρ h => by simp only [xb, execB] <;> rfl
    obtain ⟨F, μ, ρ, h, c, er, p⟩ := q
    exact p _ _ _ _ (.refl _ _ _) c er
  | [], _, _, _, _, _, _ :: _, h => by simp [chkB] at h
  | _ :: _, _, _, _, _, _, [], h => by simp [chkB] at h
  | s :: ss, hh, sc, W, X, k, st :: sts, h => by
    simp only [hotB, Bool.and_eq_true] at hh
    simp only [chkB, Bool.and_eq_true] at h
    refine ((pss_cons (hS (W := W) s hh.1 k st h.1) (hB (W := W) ss hh.2 k sts h.2)).imp fun E σ H q => ?_).eq (a := fun ρ h => match xs P d s ρ h with
      | .nx ρ' h' => xb P d ss ρ' h'
      | f => f) fun ρ h => by simp only [xb, execB] <;> rfl
    obtain ⟨F, μ, ρ, h, c, er, p⟩ := q
    refine ⟨F, μ, ρ, h, c, er, ?_⟩
    dsimp only at p
    cases e : xs P d s ρ h with
    | bad => rw [e] at p; exact p
    | ex C ρ' h' => rw [e] at p; exact p
    | rt v h' => rw [e] at p; exact p
    | bk ρ' h' => rw [e] at p; exact p
    | ct ρ' h' => rw [e] at p; exact p
    | nx ρ' h' => rw [e] at p; exact fun F' μ' H' σ' x c' er' => ⟨F', μ', ρ', h', c', er', p.from x⟩
termination_by ss => sizeOf ss
end
end
end IL
end

section
set_option autoImplicit false
set_option linter.all false
set_option Elab.async false
set_option maxRecDepth 100000
set_option maxHeartbeats 8000000
/-! IL: every statement. -/
namespace IL
open PySem L2 PyProof.Rows
section
variable {D : Wd} {P : Pg} {d : Nat} {G : Gt} {N : List Str}
/-- behind a walk of a dict -/
theorem unlS_frz {X : Cx} {W : WX} {F : Hp} {μ : List Addr} {H H1 : Hp} {d : Addr} {od : Obj} {u : HO} {f : Fl} {E : Ends} (hF : F d = some u) (k : Lkd X H H1 d od u) (p : FlQ D W F μ H f.quiet E) :
    FlQ D W F μ H1 f ⟨fun σ' H' => UnlTo X H' (E.nx σ'), fun v H' => UnlTo X H' (E.rt v), fun σ' H' => UnlTo X H' (E.bk σ'), fun σ' H' => UnlTo X H' (E.ct σ')⟩ := by
  cases f with
  | bad => exact p
  | ex C ρ h => exact p.elim
  | nx ρ h => exact fun F' μ' H' σ' x c er => .inr ⟨d, od, u, x.frz _ _ _ k.at, k.nof, p F' μ' _ σ' (k.xt x) (k.backF hF x c) er⟩
  | bk ρ h => exact fun F' μ' H' σ' x c er => .inr ⟨d, od, u, x.frz _ _ _ k.at, k.nof, p F' μ' _ σ' (k.xt x) (k.backF hF x c) er⟩
  | ct ρ h => exact fun F' μ' H' σ' x c er => .inr ⟨d, od, u, x.frz _ _ _ k.at, k.nof, p F' μ' _ σ' (k.xt x) (k.backF hF x c) er⟩
  | rt v h => exact fun F' μ' H' w x c rv => .inr ⟨d, od, u, x.frz _ _ _ k.at, k.nof, p F' μ' _ w (k.xt x) (k.backF hF x c) rv⟩
theorem unlS_mut {X : Cx} {W : WX} {F : Hp} {μ : List Addr} {H H1 : Hp} {d : Addr} {od : Obj} {u : HO} {l : Nat} {f : Fl} {E : Ends} (hl : μ[l]? = some d) (k : Lkd X H H1 d od u) (p : FlQ D W F μ H (f.unlock l) E) :
    FlQ D W F μ H1 f ⟨fun σ' H' => UnlTo X H' (E.nx σ'), fun v H' => UnlTo X H' (E.rt v), fun σ' H' => UnlTo X H' (E.bk σ'), fun σ' H' => UnlTo X H' (E.ct σ')⟩ := by
  cases f with
  | bad => exact p
  | ex C ρ h => exact p.elim
  | nx ρ h =>
    simp only [Fl.unlock] at p
    split at p
    · rename_i h' e
      exact fun F' μ' H' σ' x c er => .inr ⟨d, od, u, x.frz _ _ _ k.at, k.nof, p F' μ' _ σ' (k.xt x) (k.backM hl x c e) er⟩
    · exact p.elim
  | bk ρ h => exact p.elim
  | ct ρ h => exact p.elim
  | rt v h =>
    simp only [Fl.unlock] at p
    split at p
    · rename_i h' e
      exact fun F' μ' H' w x c rv => .inr ⟨d, od, u, x.frz _ _ _ k.at, k.nof, p F' μ' _ w (k.xt x) (k.backM hl x c e) rv⟩
    · exact p.elim
theorem unlS_at {X : Cx} {W : WX} {F : Hp} {μ : List Addr} {H : Hp} {f : Fl} {E : Ends} (p : FlQ D W F μ H f E) :
    FlQ D W F μ H f ⟨fun σ' H' => UnlTo X H' (E.nx σ'), fun v H' => UnlTo X H' (E.rt v), fun σ' H' => UnlTo X H' (E.bk σ'), fun σ' H' => UnlTo X H' (E.ct σ')⟩ := by
  cases f with
  | bad => exact p
  | ex C ρ h => exact p
  | nx ρ h => exact fun F' μ' H' σ' x c er => .inl (p F' μ' H' σ' x c er)
  | bk ρ h => exact fun F' μ' H' σ' x c er => .inl (p F' μ' H' σ' x c er)
  | ct ρ h => exact fun F' μ' H' σ' x c er => .inl (p F' μ' H' σ' x c er)
  | rt v h => exact fun F' μ' H' w x c rv => .inl (p F' μ' H' w x c rv)
/-- what a for of ours reads -/
theorem for_reads {X : Cx} {W : WX} {E : Ends} {k : Ik} {g : Tg} {el : Ev → Hh → Rs (List Vl)} {bd : Ev → Hh → Fl} {tb : TS} (gok : GOk D g (tgT D.K g)) (hb : ∀ E σ H, tS D W bd E σ H → tb E σ H) {σ : L2.St} {H : Hp}
    (q : tS D W (fun ρ h => Rs.fl (el ρ h) ρ fun vs h1 => match walked k vs h1 with
      | .fr xs => forL (turnF g bd) xs ρ h1
      | .cell l n => forC (turnF g bd) l n 0 ρ h1
      | .keys l xs => Fl.unlock l (forL (turnF g bd) xs ρ (lockH l h1))
      | .keysF xs => Fl.quiet (forL (turnF g bd) xs ρ h1)
      | .bad => .bad) E σ H) : tUnl X (tFor (tW D W X k el) (tgT D.K g) tb) E σ H := by
  obtain ⟨F, μ, ρ, h, c, er, p⟩ := q
  refine ⟨F, μ, ρ, h, c, er, ?_⟩
  dsimp only at p
  cases e : el ρ h with
  | bad => rw [e] at p; exact p
  | exc C h1 => rw [e] at p; exact fun F1 μ1 H1 A x c k => p F1 μ1 H1 σ A x c (er.mono x.f x.m) k
  | ok vs h1 =>
    rw [e] at p
    intro F1 μ1 H1 us x c1 rs
    refine ⟨F1, μ1, h1, vs, x, c1, rs, rfl, ?_⟩
    have p := p.from x
    have er1 := er.mono x.f x.m
    unfold WR
    simp only [Rs.fl] at p
    split at p
    · rename_i ys ew
      try rw [ew]
      exact fun J Y wk hY => for_fr gok hb wk hY c1 er1 (unlS_at p)
    · rename_i l n ew
      try rw [ew]
      exact fun a ha => for_ce gok hb ha c1 er1 (unlS_at p)
    · rename_i l ys ew
      try rw [ew]
      intro J Y d od u H2 hl lk wk hY
      have cl : CS D F1 μ1 (lockH l h1) H2 := by
        cases eh : h1[l]? with
        | none =>
          exfalso
          have := c1.len
          have q := (List.getElem?_eq_some_iff.mp hl).1
          rw [List.getElem?_eq_none_iff] at eh
          omega
        | some o =>
          obtain ⟨t', es', e3⟩ := walked_keys ew
          exact lk.csM hl e3 c1
      exact for_fr gok hb wk hY cl er1 (unlS_mut hl lk p)
    · rename_i ys ew
      try rw [ew]
      intro J Y H2 hH wk hY
      rcases hH with rfl | ⟨d, od, u, hF, lk⟩
      · refine for_fr gok hb wk hY c1 er1 (unlS_at ?_)
        cases ef : forL (turnF g bd) ys ρ h1 with
        | ex C ρ' h' => rw [ef] at p; exact p.elim
        | _ => rw [ef] at p; exact p
      · exact for_fr gok hb wk hY (lk.csF hF c1) er1 (unlS_frz hF lk p)
    · exact p.elim
mutual
theorem sS : ∀ (s : Sm) {sc : Scope} {W : WX} {X : Cx}, SOk D P d G N sc W X → ∀ st, chkS G N s sc st = true → PS X st (tS D W (xs P d s))
  | .set i e, sc, W, X, k, st, h => by
    unfold chkS at h
    split at h
    · simp only [Bool.and_eq_true, decide_eq_true_eq] at h
      obtain ⟨⟨⟨h1, h2⟩, h3⟩, h4⟩ := h
      exact (s_set (d := d) (P := P) k h1 h2 h3 h4).eq fun ρ h => by simp only [xs, execS] <;> rfl
    · cases h
  | .setT gs e, sc, W, X, k, st, h => by
    unfold chkS at h
    split at h
    · simp only [Bool.or_eq_true, Bool.and_eq_true] at h
      have hk : sc.kind = .function := by rw [← k.sceq]; exact k.kind
      have whole : ∀ ρ h, xs P d (.setT gs e) ρ h = Rs.fl (ev P d e ρ h) ρ fun v h1 => match v with
        | .tup vs => (match bindTs gs vs ρ with
          | some ρ' => .nx ρ' h1
          | none => .bad)
        | _ => .bad := fun ρ h => by simp only [xs, execS] <;> rfl
      rcases h with h | h
      · unfold parB at h
        split at h
        · rename_i i j a b x px y py va vb k2 p2
          simp only [Bool.and_eq_true, decide_eq_true_eq] at h
          obtain ⟨⟨⟨⟨h1, h2⟩, h3⟩, h4⟩, h5⟩ := h
          obtain ⟨l1, l2, hn⟩ := par_two h4
          refine ((ps_par (pt2 := _) k.calm (by rw [k.hN]; exact k.nd) (by rw [k.hN]; exact h1) (by rw [k.hN]; exact h2) h3 (by rw [k.sceq]; exact l1) (by rw [k.sceq]; exact l2) (eL (d := d) (P := P) [a, b] k.toXOk _ h5) (by rw [← hn]; exact par_some k.sceq hk h4)).imp fun E σ H q => ?_).eq whole
          obtain ⟨F, μ, ρ, h, c, er, p⟩ := q
          have e1 : ev P d (.tup [a, b]) ρ h = (evl P d [a, b] ρ h).bind fun vs h1 => if vs.length ≤ 100 then .ok (.tup vs) h1 else .bad := by simp only [ev, evalE] <;> rfl
          dsimp only at p
          rw [e1] at p
          refine ⟨F, μ, ρ, h, c, er, ?_⟩
          cases e2 : evl P d [a, b] ρ h with
          | bad => rw [e2] at p; exact p
          | exc C h1 => rw [e2] at p; exact fun F1 μ1 H1 A x c k => p F1 μ1 H1 σ A x c (er.mono x.f x.m) k
          | ok vs h1 =>
            rw [e2] at p
            have hl := evalL_len [a, b] ρ h vs h1 e2
            match vs, hl with
            | [v, w], _ =>
            simp only [Rs.bind, List.length_cons, List.length_nil, Nat.reduceAdd, Nat.reduceLeDiff, if_true, Rs.fl, bindTs, bindT] at p
            intro F1 μ1 H1 us x c1 rs
            obtain ⟨u1, u2, rfl, r1, r2⟩ := rs.two
            exact ⟨u1, u2, rfl, p _ _ _ _ x c1 (((er.mono x.f x.m).set i r1).set j r2)⟩
        · rename_i i j l a b cc x px y py z pz va vb vc k2 p2
          simp only [Bool.and_eq_true, decide_eq_true_eq] at h
          obtain ⟨⟨⟨⟨⟨⟨⟨h1, h2⟩, h6⟩, h3⟩, h7⟩, h8⟩, h4⟩, h5⟩ := h
          obtain ⟨l1, l2, l3, hn⟩ := par_three h4
          refine ((ps_par3 (pt2 := _) k.calm (by rw [k.hN]; exact k.nd) (by rw [k.hN]; exact h1) (by rw [k.hN]; exact h2) (by rw [k.hN]; exact h6) h3 h7 h8 (by rw [k.sceq]; exact l1) (by rw [k.sceq]; exact l2) (by rw [k.sceq]; exact l3) (eL (d := d) (P := P) [a, b, cc] k.toXOk _ h5) (by rw [← hn]; exact par_some k.sceq hk h4)).imp fun E σ H q => ?_).eq whole
          obtain ⟨F, μ, ρ, h, c, er, p⟩ := q
          have e1 : ev P d (.tup [a, b, cc]) ρ h = (evl P d [a, b, cc] ρ h).bind fun vs h1 => if vs.length ≤ 100 then .ok (.tup vs) h1 else .bad := by simp only [ev, evalE] <;> rfl
          dsimp only at p
          rw [e1] at p
          refine ⟨F, μ, ρ, h, c, er, ?_⟩
          cases e2 : evl P d [a, b, cc] ρ h with
          | bad => rw [e2] at p; exact p
          | exc C h1 => rw [e2] at p; exact fun F1 μ1 H1 A x c k => p F1 μ1 H1 σ A x c (er.mono x.f x.m) k
          | ok vs h1 =>
            rw [e2] at p
            have hl := evalL_len [a, b, cc] ρ h vs h1 e2
            match vs, hl with
            | [v, w, t], _ =>
            simp only [Rs.bind, List.length_cons, List.length_nil, Nat.reduceAdd, Nat.reduceLeDiff, if_true, Rs.fl, bindTs, bindT] at p
            intro F1 μ1 H1 us x c1 rs
            cases rs with
            | cons r1 rs =>
            obtain ⟨u2, u3, rfl, r2, r3⟩ := RVs.two rs
            exact ⟨_, u2, u3, rfl, p _ _ _ _ x c1 ((((er.mono x.f x.m).set i r1).set j r2).set l r3)⟩
        · cases h
      · obtain ⟨⟨⟨h1, h2⟩, h3⟩, h4⟩ := h
        obtain ⟨pg, gok⟩ := g_ok k.toXOk (.tp gs) _ h1
        refine ((ps_asg (eE e k.toXOk _ h4).pe pg (sws_no h4 h2 _ _ _) (st_no k.sceq hk h4 h3 _ _) (tgtT_plain h1 _)).imp fun E σ H q => ?_).eq whole
        obtain ⟨F, μ, ρ, h, c, er, p⟩ := q
        refine ⟨F, μ, ρ, h, c, er, (fl_bind er p).mono fun u H1 q => ?_⟩
        obtain ⟨F1, μ1, w, h1, x1, c1, r1, p⟩ := q
        split at p
        · rename_i vs
          split at p
          · rename_i ρ' hb
            exact gok.go c1 (er.mono x1.f x1.m) r1 (by simpa only [bindT] using hb) fun σ' er' _ => p _ _ _ _ (.refl _ _ _) c1 er'
          · exact p.elim
        · exact p.elim
    · cases h
  | .setI o i e, sc, W, X, k, st, h => by
    unfold chkS at h
    split at h
    · simp only [Bool.and_eq_true] at h
      obtain ⟨⟨⟨h1, h2⟩, h3⟩, h4⟩ := h
      rename_i pp _ _
      have pg := pg_sub (pos := pp) (eE (d := d) (P := P) o k.toXOk _ h2).pe (eE (d := d) (P := P) i k.toXOk _ h3).pe (pset (D := D) k.hK k.hu) (pg_subOk h3)
      refine ((ps_asg (eE e k.toXOk _ h4).pe pg (sws_no h4 h1 _ _ _) rfl rfl).imp fun E σ H q => ?_).eq (a := fun ρ h => Rs.fl (ev P d e ρ h) ρ fun v h1 => Rs.fl (ev P d o ρ h1) ρ fun x h2 => Rs.fl (ev P d i ρ h2) ρ fun y h3 => match setIV x y v h3 with
        | some h4 => .nx ρ h4
        | none => .bad) fun ρ h => by simp only [xs, execS] <;> rfl
      obtain ⟨F, μ, ρ, h, c, er, p⟩ := q
      refine ⟨F, μ, ρ, h, c, er, (fl_bind er p).mono fun u H1 q => ?_⟩
      obtain ⟨F1, μ1, w, h1, x1, c1, r1, p⟩ := q
      have er1 := er.mono x1.f x1.m
      refine ⟨F1, μ1, ρ, h1, c1, er1, (fl_bind er1 p).mono fun v H2 q => ?_⟩
      obtain ⟨F2, μ2, x, h2, x2, c2, r2, p⟩ := q
      have er2 := er1.mono x2.f x2.m
      refine ⟨F2, μ2, ρ, h2, c2, er2, (fl_bind er2 p).mono fun z H3 q => ?_⟩
      obtain ⟨F3, μ3, y, h3, x3, c3, r3, p⟩ := q
      have er3 := er2.mono x3.f x3.m
      refine ⟨F3, μ3, h3, x, y, w, c3, r2.mono x3.f x3.m, r3, (r1.mono x2.f x2.m).mono x3.f x3.m, ?_⟩
      split
      · rename_i h4 e4
        rw [e4] at p
        exact fun F' μ' H' x' c' => p F' μ' H' σ x' c' (er3.mono x'.f x'.m)
      · rename_i e4
        rw [e4] at p
        exact p
    · cases h
  | .setS _ _ _ _, _, _, _, _, _, h => by simp [chkS] at h
  | .setF o f e, sc, W, X, k, st, h => by
    unfold chkS at h
    split at h
    · simp only [Bool.and_eq_true] at h
      obtain ⟨⟨h1, h3⟩, h4⟩ := h
      have e1 := eq_of_beq h1
      subst e1
      refine ((ps_fld (eE (d := d) (P := P) o k.toXOk _ h3).pe (eE (d := d) (P := P) e k.toXOk _ h4).pe (sw_attr _ _ _ _ _ _)).imp fun E σ H q => ?_).eq (a := fun ρ h => Rs.fl (ev P d e ρ h) ρ fun v h1 => Rs.fl (ev P d o ρ h1) ρ fun x h2 => match setFV P x f v h2 with
        | some h3 => .nx ρ h3
        | none => .bad) fun ρ h => by simp only [xs, execS] <;> rfl
      obtain ⟨F, μ, ρ, h, c, er, p⟩ := q
      refine ⟨F, μ, ρ, h, c, er, (fl_bind er p).mono fun u H1 q => ?_⟩
      obtain ⟨F1, μ1, w, h1, x1, c1, r1, p⟩ := q
      have er1 := er.mono x1.f x1.m
      refine ⟨F1, μ1, ρ, h1, c1, er1, (fl_bind er1 p).mono fun v H2 q => ?_⟩
      obtain ⟨F2, μ2, x, h2, x2, c2, r2, p⟩ := q
      have er2 := er1.mono x2.f x2.m
      cases e5 : setFV P x f w h2 with
      | none => rw [e5] at p; exact p.elim
      | some h3 =>
        rw [e5] at p
        unfold setFV at e5
        cases r2 with
        | @ref l a hm =>
          dsimp only at e5
          split at e5
          · rename_i C fs hl
            split at e5
            · rename_i hf
              cases e5
              simp only [Bool.and_eq_true, decide_eq_true_eq] at hf
              obtain ⟨b, u', e1, e2, e3, e4⟩ := c2.ob l _ hl
              rw [hm] at e1
              cases e1
              cases e4 with
              | @ins _ A dx _ gs hc rf =>
                obtain ⟨cl, na⟩ := k.w.fls C A f hc hf.1
                obtain ⟨c', x'⟩ := c2.put (lt_len hl) hm (RO.ins (dx := dx) hc (RF.put (f := f) (r1.mono x2.f x2.m) rf)) (fun _ _ z => by rw [e3] at z; cases z)
                refine ⟨_, A, dx, gs, rfl, e3, cl, na, by rw [← rf.length]; omega, ?_⟩
                exact p _ _ _ σ x' c' (er2.mono x'.f x'.m)
            · cases e5
          · cases e5
        | _ => simp at e5
    · cases h
  | .drop e, sc, W, X, k, st, h => by
    unfold chkS at h
    split at h
    · simp only [Bool.and_eq_true] at h
      refine ((ps_expr (eE (d := d) (P := P) e k.toXOk _ h.2).pe (sw_no h.2 h.1 _ _ _)).imp fun E σ H q => ?_).eq (a := fun ρ h => Rs.fl (ev P d e ρ h) ρ fun _ h1 => .nx ρ h1) fun ρ h => by simp only [xs, execS] <;> rfl
      obtain ⟨F, μ, ρ, h, c, er, p⟩ := q
      refine ⟨F, μ, ρ, h, c, er, (fl_bind er p).mono fun u H1 q => ?_⟩
      obtain ⟨F1, μ1, w, h1, x1, c1, r1, p⟩ := q
      exact p _ _ _ _ (.refl _ _ _) c1 (er.mono x1.f x1.m)
    · cases h
  | .ret e, sc, W, X, k, st, h => by
    unfold chkS at h
    split at h
    · refine ((ps_ret (eE (d := d) (P := P) e k.toXOk _ h).pe).imp fun E σ H q => ?_).eq (a := fun ρ h => Rs.fl (ev P d e ρ h) ρ fun v h1 => .rt v h1) fun ρ h => by simp only [xs, execS] <;> rfl
      obtain ⟨F, μ, ρ, h, c, er, p⟩ := q
      refine ⟨F, μ, ρ, h, c, er, (fl_bind er p).mono fun u H1 q => ?_⟩
      obtain ⟨F1, μ1, w, h1, x1, c1, r1, p⟩ := q
      exact p _ _ _ _ (.refl _ _ _) c1 r1
    · cases h
  | .retN, sc, W, X, k, st, h => by
    unfold chkS at h
    split at h
    · refine (ps_retN.imp fun E σ H q => ?_).eq (a := fun ρ h => .rt .non h) fun ρ h => by simp only [xs, execS] <;> rfl
      obtain ⟨F, μ, ρ, h, c, er, p⟩ := q
      exact p _ _ _ _ (.refl _ _ _) c .non
    · cases h
  | .pass, sc, W, X, k, st, h => by
    unfold chkS at h
    split at h
    · refine (ps_pass.imp fun E σ H q => ?_).eq (a := fun ρ h => .nx ρ h) fun ρ h => by simp only [xs, execS] <;> rfl
      obtain ⟨F, μ, ρ, h, c, er, p⟩ := q
      exact p _ _ _ _ (.refl _ _ _) c er
    · cases h
  | .ife c a b, sc, W, X, k, st, h => by
    unfold chkS at h
    split at h
    · simp only [Bool.and_eq_true] at h
      obtain ⟨⟨h1, h2⟩, h3⟩ := h
      refine ((ps_if (eE (d := d) (P := P) c k.toXOk _ h1).pt (sB a k _ h2) (sB b k _ h3)).imp fun E σ H q => ?_).eq (a := fun ρ h => Rs.fl (ev P d c ρ h) ρ fun x h1 => match x with
        | .bl true => xb P d a ρ h1
        | .bl false => xb P d b ρ h1
        | _ => .bad) fun ρ h => by simp only [xs, execS] <;> rfl
      obtain ⟨F, μ, ρ, h, c, er, p⟩ := q
      refine ⟨F, μ, ρ, h, c, er, (fl_test (fun v h q => by cases v <;> first | rfl | exact absurd rfl (q _)) er p).mono fun b H1 q => ?_⟩
      obtain ⟨F1, μ1, h1, x, c1, p⟩ := q
      have er1 := er.mono x.f x.m
      cases b with
      | true => rw [if_pos rfl]; exact ⟨F1, μ1, ρ, h1, c1, er1, p⟩
      | false => rw [if_neg Bool.false_ne_true]; exact ⟨F1, μ1, ρ, h1, c1, er1, p⟩
    · cases h
  | .for_ g kk es body, sc, W, X, k, st, h => by
    unfold chkS at h
    split at h
    · simp only [Bool.and_eq_true] at h
      obtain ⟨⟨⟨h1, h2⟩, h3⟩, h4⟩ := h
      obtain ⟨pg, gok⟩ := g_ok k.toXOk g _ h2
      obtain ⟨pi, hs⟩ := eI (d := d) (P := P) kk es k.toXOk _ h3 g _ _ h1 h2
      exact ((ps_unl (ps_for k.pass k.calm pi pg (sB body k _ h4) hs)).imp fun E σ H q => for_reads gok (fun _ _ _ q => q) q).eq fun ρ h => by simp only [xs, execS] <;> rfl
    · cases h
  | .whl n c body, sc, W, X, k, st, h => by
    unfold chkS at h
    split at h
    · simp only [Bool.and_eq_true] at h
      exact ((ps_while k.pass (eE (d := d) (P := P) c k.toXOk _ h.1).pt (sB body k _ h.2)).imp fun E σ H q => whl_reads (n := n) q).eq fun ρ h => by simp only [xs, execS] <;> rfl
    · cases h
  | .raise C, sc, W, X, k, st, h => by
    unfold chkS at h
    split at h
    · rename_i x p1 m j p2 p3 p4
      simp only [Bool.and_eq_true, decide_eq_true_eq] at h
      obtain ⟨⟨h1, h2⟩, h3⟩ := h
      obtain ⟨A, a1, a2, a3, a4, a5, a6⟩ := k.w.exs x C h3
      refine ((ps_raise (pos := p4) k.calm k.tk (pmk_own (m := m) (j := j) (p := p1) (p2 := p2) (pos := p3) PySem.F.excBase_ValueError a3 a2 a4 (raises_own a5 a6) (k.gl x h1) (plain_db h2))).imp fun E σ H q => ?_).eq (a := fun ρ h => .ex C ρ h) fun ρ h => by simp only [xs, execS] <;> rfl
      obtain ⟨F, μ, ρ, h, c, er, p⟩ := q
      exact p F μ H σ A (.refl _ _ _) c er a1
    · cases h
  | .bad, sc, W, X, k, st, h => ⟨fun pins s σ H D I q => by
      obtain ⟨F, μ, ρ, h, c, er, p⟩ := q
      simp only [xs, execS] at p
      exact p.elim⟩
  | .try_ body C i suite, sc, W, X, k, st, h => by
    unfold chkS at h
    split at h
    · rename_i i b x np n s0 su p1 p2
      simp only [Bool.and_eq_true, decide_eq_true_eq] at h
      obtain ⟨⟨⟨⟨⟨⟨⟨⟨h1, h2⟩, h3⟩, h4⟩, h5⟩, h6⟩, h7⟩, h8⟩, h9⟩ := h
      obtain ⟨A0, a1, a2, _⟩ := k.w.exs x C h3
      have hc : Names X x (.ref A0) := ⟨k.gl x h1, plain_db h2, .inl a2⟩
      refine ((ps_try_ex (tb := fun W' => tS D W' (xb P d body)) (ts := fun _ => tS D W0 (xb P d suite)) k.own k.frame k.ex0 (by rw [k.hN]; exact k.nd) (by rw [k.hN]; exact h5) (show X.env.scope.names.lookup n = _ by rw [k.sceq]; exact h6) hc
        (fun W' pn xe tk pa => sB body (X := X.tr pn xe) (W := W') { w := k.w, hN := k.hN, nd := k.nd, hu := k.hu, vis := k.vis, gl := k.gl, loc := k.loc, free := k.free, calm := k.calm, room := k.room, tk := tk, lam := k.lam, sceq := k.sceq, kind := k.kind, pass := pa, own := k.own, frame := k.frame, ex0 := k.ex0 } _ h8)
        (fun a pn => hB suite h7 (X := X.suite a pn) (W := W0) { w := k.w, hN := k.hN, nd := k.nd, hu := k.hu, vis := k.vis, gl := k.gl, loc := k.loc, free := k.free } _ h9)).imp fun E σ H q => ?_).eq (a := fun ρ h => match xb P d body ρ h with
          | .ex C' ρ' h' => if decide (10 ≤ C') && P.sub C' C then Fl.gone (some i) (Fl.quiet (xb P d suite (ρ'.set i (some (.exn C'))) h')) else .bad
          | r => r) fun ρ h => by simp only [xs, execS] <;> rfl
      obtain ⟨F, μ, ρ, h, c, er, p⟩ := q
      refine ⟨F, μ, ρ, h, c, er, ?_⟩
      dsimp only at p
      cases e : xb P d body ρ h with
      | bad => rw [e] at p; exact p
      | rt v h' => rw [e] at p; exact p
      | nx ρ' h' => rw [e] at p; exact p
      | bk ρ' h' => rw [e] at p; exact p
      | ct ρ' h' => rw [e] at p; exact p
      | ex C' ρ' h' =>
        rw [e] at p
        dsimp only at p
        split at p
        · rename_i hs
          simp only [Bool.and_eq_true, decide_eq_true_eq] at hs
          intro F1 μ1 H1 σ1 A x1 c1 er1 hA
          refine ⟨?_, rfl, A, rfl, fun a ha _ => ?_⟩
          · rw [k.hK, k.w.hK.symm, k.w.exm C A0 h4 a1 C' A hs.1 hA, hs.2]
          · obtain ⟨c2, x2⟩ := c1.new ha (ExH A a) (fun _ z => by unfold ExH at z; cases z)
            exact ⟨_, μ1, _, h', c2, (er1.mono x2.f x2.m).set i (.exn upd_same hA), gone_reads (p.from (x1.trans x2))⟩
        · exact p.elim
    · cases h
termination_by s => sizeOf s
theorem sB : ∀ (ss : List Sm) {sc : Scope} {W : WX} {X : Cx}, SOk D P d G N sc W X → ∀ sts, chkB G N ss sc sts = true → PSs X sts (tS D W (xb P d ss))
  | [], sc, W, X, k, [], h => by
    refine (pss_nil.imp fun E σ H q => ?_).eq (a := fun ρ h => .nx ρ h) fun ρ h => by simp only [xb, execB] <;> rfl
    obtain ⟨F, μ, ρ, h, c, er, p⟩ := q
    exact p _ _ _ _ (.refl _ _ _) c er
  | [], _, _, _, _, _ :: _, h => by simp [chkB] at h
  | _ :: _, _, _, _, _, [], h => by simp [chkB] at h
  | s :: ss, sc, W, X, k, st :: sts, h => by
    simp only [chkB, Bool.and_eq_true] at h
    refine ((pss_cons (sS s k st h.1) (sB ss k sts h.2)).imp fun E σ H q => ?_).eq (a := fun ρ h => match xs P d s ρ h with
      | .nx ρ' h' => xb P d ss ρ' h'
      | f => f) fun ρ h => by simp only [xb, execB] <;> rfl
    obtain ⟨F, μ, ρ, h, c, er, p⟩ := q
    refine ⟨F, μ, ρ, h, c, er, ?_⟩
    dsimp only at p
    cases e : xs P d s ρ h with
    | bad => rw [e] at p; exact p
    | ex C ρ' h' => rw [e] at p; exact p
    | rt v h' => rw [e] at p; exact p
    | bk ρ' h' => rw [e] at p; exact p
    | ct ρ' h' => rw [e] at p; exact p
    | nx ρ' h' => rw [e] at p; exact fun F' μ' H' σ' x c' er' => ⟨F', μ', ρ', h', c', er', p.from x⟩
termination_by ss => sizeOf ss
end
end
end IL
end

section
set_option autoImplicit false
set_option linter.all false
set_option Elab.async false
set_option maxRecDepth 100000
set_option maxHeartbeats 8000000
/-! IL: defs, by data. -/
namespace IL
open PySem L2 PyProof.Rows
/-- a def of the text -/
structure FD where
  id : Nat
  /-- its class, by name and number -/
  cl : Option (Str × Nat)
  name : Str
  st : Stmt
  N : List Str
  ps : List Str
/-- a def that tells what a lambda tells: the class C that it catches, what tells of it: f -/
structure TD where
  name : Str
  st : Stmt
  C : Nat
  f : Nat
structure Dat where
  fds : List FD
  cls : List (Str × Nat)
  exs : List (Str × Nat)
  cis : List (Str × Int)
  css : List (Str × Str)
  bls : List Str
  /-- class, field -/
  flds : List (Nat × Str)
  tds : List TD := []
  /-- the defs with lambdas -/
  lam : List Str := []
def FD.at_ (f : FD) : Str × Option Str := match f.cl with
  | none => (f.name, none)
  | some (c, _) => (c, some f.name)
def FD.qual (f : FD) : Str := match f.cl with
  | none => f.name
  | some (c, _) => c ++ ("." : Str) ++ f.name
def FD.defD (f : FD) : He.DefD := ⟨f.at_, f.name, f.qual, defArgs f.st, defBody f.st, defScope f.st, [], []⟩
def TD.defD (p : TD) : He.DefD := ⟨(p.name, none), p.name, p.name, defArgs p.st, defBody p.st, defScope p.st, [], []⟩
def FD.isTop (f : FD) : Bool := match f.cl with
  | none => true
  | _ => false
def FD.isOf (C : Nat) (f : FD) : Bool := match f.cl with
  | some (_, k) => k == C
  | _ => false
def Dat.lams (t : Dat) : List FD := t.fds.filter fun f => f.isTop && t.lam.any fun x => x == f.name
def Dat.nameOf (t : Dat) (C : Nat) : Option Str := ((t.cls ++ t.exs).find? fun p => p.2 == C).map (·.1)
def Dat.mt (t : Dat) (C : Nat) (m : Str) : Option Nat := (t.fds.find? fun f => f.isOf C && f.name == m).map (·.id)
def Dat.fl (t : Dat) (C : Nat) (f : Str) : Bool := t.flds.any fun p => p.1 == C && p.2 == f
def Dat.init (t : Dat) (C : Nat) : Option Nat := if t.cls.any (fun p => p.2 == C) then t.mt C "__init__" else none
def Dat.pg (t : Dat) (fn : Nat → Option Fn) (sub : Nat → Nat → Bool) : Pg := ⟨fn, t.mt, t.fl, t.init, sub⟩
def Dat.gt (t : Dat) : Gt where
  fn := fun x => (t.fds.find? fun f => f.isTop && f.name == x).map (·.id)
  cl := fun x => (t.cls.find? fun p => p.1 == x).map (·.2)
  cn := fun x => match t.cis.find? fun p => p.1 == x with
    | some p => some (.int p.2)
    | none => (t.css.find? fun p => p.1 == x).map fun p => .str p.2
  bl := fun x => t.bls.any fun y => y == x
  ex := fun x => (t.exs.find? fun p => p.1 == x).map (·.2)
  td := fun x => (t.tds.find? fun p => p.name == x).map fun p => (p.C, p.f)
  is := fun x => match t.exs.find? fun p => p.1 == x with
    | some p => some p.2
    | none => if x == ("ValueError" : Str) then some 9 else none
  lams := t.lams.map fun f => defScope f.st
/-- the facts of the head -/
def Dat.fas (t : Dat) : List He.Fa := (t.fds.map fun f => match f.cl with
    | none => He.Fa.glo f.name
    | some (c, _) => if f.name == ("__init__" : Str) then He.Fa.mkr c else He.Fa.meth c f.name)
  ++ t.cls.flatMap (fun p => [He.Fa.glo p.1, He.Fa.cls p.1])
  ++ t.cis.map (fun p => He.Fa.int p.1 p.2)
  ++ t.css.map (fun p => He.Fa.str p.1 p.2)
  ++ t.bls.map He.Fa.free
  ++ t.flds.filterMap (fun p => (t.nameOf p.1).map fun c => He.Fa.noat c p.2)
  ++ t.exs.flatMap (fun p => [He.Fa.glo p.1, He.Fa.exc p.1])
  ++ (He.Fa.free "ValueError" :: t.tds.map fun p => He.Fa.glo p.name)
def Dat.defs (t : Dat) : List He.DefD := t.fds.map FD.defD ++ t.tds.map TD.defD
/-- the world of a law -/
def Dat.wd (t : Dat) (K : PySem.W.Frag) : Wd := ⟨K, fun C => (t.nameOf C).map (He.ga K), t.lams.map fun f => ((He.cT K f.at_).2, f.qual ++ ".<locals>." ++ "<lambda>")⟩
/-- what is asked of the exceptions' classes, of the tables -/
def excCB (K : PySem.W.Frag) (x : Str) : Bool := He.eqO (PySem.W.findIn K (.ref (He.ga K x)) "__getattribute__") (some (some (.builtin "BaseException.__getattribute__"))) && He.eqO (PySem.W.findIn K (.ref (He.ga K x)) "__getattr__") (some none) &&
  decide (PySem.W.subIn K (.ref (He.ga K x)) (.type "BaseException") = some true) && PySem.W.hasDictIn K (He.ga K x) && He.eqO (PySem.W.findIn K (.ref (He.ga K x)) "__class__") (some (some (.builtin "object.__class__"))) &&
  He.eqO (PySem.W.specialIn K (.builtin "object.__class__") "__get__") (some (some (.builtin "getset_descriptor.__get__"))) && decide (PySem.W.takesIn K (.builtin "object.__class__") = some true) && decide (PySem.W.mroIn K (He.ga K x) (.type "object") = some true)
theorem excCB_ok {K : PySem.W.Frag} {x : Str} (h : excCB K x = true) : ExcC K (He.ga K x) := by
  unfold excCB at h
  simp only [Bool.and_eq_true, decide_eq_true_eq] at h
  obtain ⟨⟨⟨⟨⟨⟨⟨h1, h2⟩, h3⟩, h4⟩, h5⟩, h6⟩, h7⟩, h8⟩ := h
  exact ⟨He.eqO_ok h1, He.eqO_ok h2, h3, h4, He.eqO_ok h5, He.eqO_ok h6, h7, h8⟩
def Dat.moreB (t : Dat) (sub : Nat → Nat → Bool) (K : PySem.W.Frag) : Bool :=
  (t.exs.all fun p => excCB K p.1 && decide (PySem.W.kitOne K (.ref (He.ga K p.1)) (.type "ValueError") = some (sub p.2 9)) && t.exs.all fun q =>
    decide (PySem.W.kitOne K (.ref (He.ga K p.1)) (.ref (He.ga K q.1)) = some (sub p.2 q.2)) && decide (PySem.W.exmOne K (.ref (He.ga K p.1)) (.ref (He.ga K q.1)) = some (sub p.2 q.2))) &&
  t.lams.all fun f => t.lams.all fun g => decide (f.name = g.name) || !decide ((He.cT K f.at_).2 = (He.cT K g.at_).2)
/-- what the head says -/
abbrev Dat.Says (t : Dat) (sub : Nat → Nat → Bool) (w : World) (h : Heap) (K : PySem.W.Frag) : Prop := He.SaysX t.fas t.defs [] (t.lams.map FD.at_) (t.moreB sub) w h K
def hotF (P : Pg) (f : FD) : Bool := match P.fn f.id with
  | some F => hotB F.body
  | none => false
/-- the parts of such a def -/
def toldM : List Stmt → Option (Str × Str × Str × Str)
  | [.Try [.Return (some (.Call (.Name a _) [] [] _)) _] [.ExceptHandler (some (.Name e _)) (some n) [.Return (some (.Call (.Name y _) [.Name m _] [] _)) _] _] [] [] _] => if n = m then some (a, e, n, y) else none
  | _ => none
theorem toldM_ok {b : List Stmt} {a e n y : Str} (h : toldM b = some (a, e, n, y)) : ∃ p1 p2 p3 p4 p7 p8 q1 q2 q3 q4, b = toldB a e n y p1 p2 p3 p4 p7 p8 q1 q2 q3 q4 := by
  unfold toldM at h
  split at h
  · split at h
    · rename_i en
      subst en
      cases h
      exact ⟨_, _, _, _, _, _, _, _, _, _, rfl⟩
    · cases h
  · cases h
structure TDOk (t : Dat) (P : Pg) (p : TD) : Prop where
  ex : ∃ a e n y, toldM (defBody p.st) = some (a, e, n, y) ∧ FnScope [a, n] [a] (defScope p.st) ∧ (defScope p.st).names.lookup a = some .local ∧ (defScope p.st).names.lookup n = some .local ∧ (defScope p.st).names.lookup e = some .globalImplicit ∧
    (defScope p.st).names.lookup y = some .globalImplicit ∧ 10 ≤ p.C ∧ plainNm a = true ∧ plainNm n = true ∧ plainNm e = true ∧ plainNm y = true ∧ (e, p.C) ∈ t.exs ∧ (∃ g ∈ t.fds, g.cl = none ∧ g.name = y ∧ g.id = p.f ∧ hotF P g = true) ∧
    ∀ (kV doc pm : Value) (an : Option Addr) (cdv ct : Value) (us : List Value), us.length = [a].length → bindArgs (PySem.W.fnOf p.name p.name (defArgs p.st) (defBody p.st) (defScope p.st) .none kV doc pm an cdv ct) ⟨us, []⟩ = pure ([a].zip us)
/-- a def fits its body -/
structure FOk (t : Dat) (P : Pg) (f : FD) : Prop where
  ex : ∃ F, P.fn f.id = some F ∧ F.n = f.ps.length ∧ F.size = f.N.length ∧ chkB t.gt f.N F.body (defScope f.st) (defBody f.st) = true
  sc : FnScope f.N f.ps (defScope f.st)
  bd : ∀ (kV doc pm : Value) (an : Option Addr) (cdv ct : Value) (us : List Value), us.length = f.ps.length → bindArgs (PySem.W.fnOf f.name f.qual (defArgs f.st) (defBody f.st) (defScope f.st) .none kV doc pm an cdv ct) ⟨us, []⟩ = pure (f.ps.zip us)
/-- classes by number and name -/
structure TOk (t : Dat) (P : Pg) : Prop where
  /-- a def's class is one of the table's, and by that name -/
  own : ∀ f ∈ t.fds, ∀ c C, f.cl = some (c, C) → t.nameOf C = some c ∧ (c, C) ∈ t.cls
  cls : ∀ p ∈ t.cls, t.nameOf p.2 = some p.1
  kp : ∀ f ∈ t.fds, f.name = ("__init__" : Str) → ∀ F, P.fn f.id = some F → F.keep = true
  /-- an own class has an __init__ -/
  ini : ∀ p ∈ t.cls, ∃ f, t.init p.2 = some f
  fl : ∀ p ∈ t.flds, ∃ c, (c, p.1) ∈ t.cls
  exc : ∀ p ∈ t.exs, t.nameOf p.2 = some p.1
  /-- from 10 on they are exceptions -/
  ten : ∀ C x, 10 ≤ C → t.nameOf C = some x → (x, C) ∈ t.exs
  lam : ∀ f ∈ t.fds, ∀ g ∈ t.lams, defScope g.st = defScope f.st → f ∈ t.lams
section
variable {t : Dat} {K : PySem.W.Frag}
theorem Dat.fact (c : He.SaysD t.fas t.defs K) {f : He.Fa} (h : f ∈ t.fas) : f.ok K = true := by
  obtain ⟨i, hi⟩ := List.getElem?_of_mem h
  exact c.fact i hi
theorem Dat.def_ (c : He.SaysD t.fas t.defs K) {f : FD} (h : f ∈ t.fds) : ∃ fd, FunD K f.name f.qual (defArgs f.st) (defBody f.st) (defScope f.st) [] [] (He.fAd K f.at_) fd := by
  obtain ⟨i, hi⟩ := List.getElem?_of_mem h
  exact c.def_ i (d := f.defD) (by unfold Dat.defs; rw [List.getElem?_append_left (by rw [List.length_map]; exact (List.getElem?_eq_some_iff.mp hi).1), List.getElem?_map, hi]; rfl)
theorem fas_fd {f : FD} (h : f ∈ t.fds) : (match f.cl with
    | none => He.Fa.glo f.name
    | some (c, _) => if f.name == ("__init__" : Str) then He.Fa.mkr c else He.Fa.meth c f.name) ∈ t.fas := by
  unfold Dat.fas
  simp only [List.mem_append, List.mem_map]
  exact .inl (.inl (.inl (.inl (.inl (.inl (.inl ⟨f, h, rfl⟩))))))
theorem fas_cl {p : Str × Nat} (h : p ∈ t.cls) : He.Fa.glo p.1 ∈ t.fas ∧ He.Fa.cls p.1 ∈ t.fas := by
  unfold Dat.fas
  simp only [List.mem_append, List.mem_flatMap]
  exact ⟨.inl (.inl (.inl (.inl (.inl (.inl (.inr ⟨p, h, by simp⟩)))))), .inl (.inl (.inl (.inl (.inl (.inl (.inr ⟨p, h, by simp⟩))))))⟩
theorem fas_int {p : Str × Int} (h : p ∈ t.cis) : He.Fa.int p.1 p.2 ∈ t.fas := by
  unfold Dat.fas
  simp only [List.mem_append, List.mem_map]
  exact .inl (.inl (.inl (.inl (.inl (.inr ⟨p, h, rfl⟩)))))
theorem fas_str {p : Str × Str} (h : p ∈ t.css) : He.Fa.str p.1 p.2 ∈ t.fas := by
  unfold Dat.fas
  simp only [List.mem_append, List.mem_map]
  exact .inl (.inl (.inl (.inl (.inr ⟨p, h, rfl⟩))))
theorem fas_bl {x : Str} (h : x ∈ t.bls) : He.Fa.free x ∈ t.fas := by
  unfold Dat.fas
  simp only [List.mem_append, List.mem_map]
  exact .inl (.inl (.inl (.inr ⟨x, h, rfl⟩)))
theorem fas_ex {p : Str × Nat} (h : p ∈ t.exs) : He.Fa.glo p.1 ∈ t.fas ∧ He.Fa.exc p.1 ∈ t.fas := by
  unfold Dat.fas
  simp only [List.mem_append, List.mem_flatMap]
  exact ⟨.inl (.inr ⟨p, h, by simp⟩), .inl (.inr ⟨p, h, by simp⟩)⟩
theorem fas_ve : He.Fa.free "ValueError" ∈ t.fas := by
  unfold Dat.fas
  simp only [List.mem_append, List.mem_cons]
  exact .inr (.inl trivial)
theorem fas_td {p : TD} (h : p ∈ t.tds) : He.Fa.glo p.name ∈ t.fas := by
  unfold Dat.fas
  simp only [List.mem_append, List.mem_cons, List.mem_map]
  exact .inr (.inr ⟨p, h, rfl⟩)
theorem Dat.defT (c : He.SaysD t.fas t.defs K) {p : TD} (h : p ∈ t.tds) : ∃ fd, FunD K p.name p.name (defArgs p.st) (defBody p.st) (defScope p.st) [] [] (He.ga K p.name) fd := by
  obtain ⟨i, hi⟩ := List.getElem?_of_mem h
  refine c.def_ (t.fds.length + i) (d := p.defD) ?_
  unfold Dat.defs
  rw [List.getElem?_append_right (by rw [List.length_map]; omega), List.length_map, Nat.add_sub_cancel_left, List.getElem?_map, hi]
  rfl
theorem fas_fl {p : Nat × Str} (h : p ∈ t.flds) {c : Str} (e : t.nameOf p.1 = some c) : He.Fa.noat c p.2 ∈ t.fas := by
  unfold Dat.fas
  simp only [List.mem_append, List.mem_filterMap]
  exact .inl (.inl (.inr ⟨p, h, by rw [e]; rfl⟩))
variable {P : Pg} {prog : Program} {w : World} {mg : Str → Option Value} {base : Heap}
/-- what the defs promise at depth d -/
def AllOk (t : Dat) (P : Pg) (prog : Program) (w : World) (K : PySem.W.Frag) (mg : Str → Option Value) (base : Heap) (d : Nat) : Prop := ∀ f ∈ t.fds, ∃ fd, Binds K fd f.ps [] ∧ FnOk prog w K mg base (L2.CX prog w) (4 * d) (He.fAd K f.at_) fd f.ps (spF (t.wd K) P d f.id) ∧
  (hotF P f = true → FnHt prog w K mg base (L2.CX prog w) (4 * d) (He.fAd K f.at_) fd f.ps (spF (t.wd K) P d f.id))
theorem mt_of {C : Nat} {m : Str} {i : Nat} (h : t.mt C m = some i) : ∃ f ∈ t.fds, ∃ c, f.cl = some (c, C) ∧ f.name = m ∧ f.id = i := by
  unfold Dat.mt at h
  simp only [Option.map_eq_some_iff] at h
  obtain ⟨f, hf, e⟩ := h
  have h1 := List.find?_some hf
  simp only [Bool.and_eq_true, beq_iff_eq] at h1
  refine ⟨f, List.mem_of_find?_eq_some hf, ?_⟩
  unfold FD.isOf at h1
  obtain ⟨h1, h2⟩ := h1
  split at h1
  · rename_i c k e1
    have := beq_iff_eq.mp h1
    subst this
    exact ⟨c, e1, h2, e⟩
  · cases h1
/-- the world at depth d -/
theorem wok {sub : Nat → Nat → Bool} {fn : Nat → Option Fn} (hP : P = t.pg fn sub) (T : TOk t P) (X : K.In base) (Gn : base.Ns mainGlobals mg) (c0 : ∃ w h, t.Says sub w h K) (O2 : ∀ p ∈ t.tds, TDOk t P p) {d : Nat} (A : AllOk t P prog w K mg base d) : WOk (t.wd K) P d t.gt prog w K mg base := have c : He.SaysD t.fas t.defs K := c0.elim fun _ z => z.elim fun _ z => z.t.d
  {
  hK := rfl
  fns := fun x f h => by
    simp only [Dat.gt, Option.map_eq_some_iff] at h
    obtain ⟨g, hg, e⟩ := h
    have h1 := List.find?_some hg
    simp only [Bool.and_eq_true, beq_iff_eq] at h1
    have hm := List.mem_of_find?_eq_some hg
    obtain ⟨fd, b, ok, _⟩ := A g hm
    have F := Dat.def_ c hm
    have fa := Dat.fact c (fas_fd hm)
    obtain ⟨h1, h2⟩ := h1
    unfold FD.isTop at h1
    cases e1 : g.cl with
    | some q => rw [e1] at h1; cases h1
    | none =>
      rw [e1] at fa
      have at' : He.fAd K g.at_ = He.ga K x := by unfold FD.at_; rw [e1, ← h2]; rfl
      rw [at'] at ok F
      subst e
      rw [h2] at fa
      obtain ⟨fd', F'⟩ := F
      exact ⟨_, fd, g.ps, He.glo_ok X Gn fa, F'.kp, b, ok⟩
  mts := fun C A' m f hc hm => by
    rw [hP] at hm
    obtain ⟨g, hg, cn, e1, e2, e3⟩ := mt_of hm
    obtain ⟨fd, b, ok, _⟩ := A g hg
    have fa := Dat.fact c (fas_fd hg)
    obtain ⟨o1, o2⟩ := T.own g hg cn C e1
    have fc := Dat.fact c (fas_cl o2).2
    simp only [Dat.wd, o1, Option.map_some, Option.some.injEq] at hc
    subst hc
    have at' : He.fAd K g.at_ = He.ma K (He.ga K cn) m := by unfold FD.at_; rw [e1, ← e2]; rfl
    rw [at', e3] at ok
    refine ⟨_, fd, g.ps, He.cls_ok fc, ?_, b, ok⟩
    rw [e1] at fa
    dsimp only at fa
    split at fa
    · rename_i en
      have q := He.mkr_ok fa
      have F := Dat.def_ c hg
      rw [at'] at F
      obtain ⟨fd', F'⟩ := F
      have en := beq_iff_eq.mp en
      rw [e2] at en
      subst en
      exact ⟨q.init, q.fn, F'.kp⟩
    · rw [e2] at fa
      exact He.meth_ok fa
  mks := fun x C h => by
    simp only [Dat.gt, Option.map_eq_some_iff] at h
    obtain ⟨p, hp, e⟩ := h
    have h1 := List.find?_some hp
    have h1 := beq_iff_eq.mp h1
    have hm := List.mem_of_find?_eq_some hp
    subst e h1
    obtain ⟨f, hf⟩ := T.ini p hm
    have hf2 : t.mt p.2 "__init__" = some f := by
      unfold Dat.init at hf
      split at hf
      · exact hf
      · cases hf
    obtain ⟨g, hg, cn, e1, e2, e3⟩ := mt_of hf2
    obtain ⟨fd, b, ok, _⟩ := A g hg
    have fa := Dat.fact c (fas_fd hg)
    obtain ⟨o1, o2⟩ := T.own g hg cn _ e1
    have o3 := T.cls p hm
    rw [o1] at o3
    cases o3
    rw [e1] at fa
    dsimp only at fa
    rw [if_pos (by rw [e2]; exact beq_self_eq_true _)] at fa
    have at' : He.fAd K g.at_ = He.ma K (He.ga K p.1) "__init__" := by unfold FD.at_; rw [e1, e2]; rfl
    rw [at', e3] at ok
    exact ⟨f, He.ga K p.1, _, fd, g.ps, by rw [hP]; exact hf, by simp only [Dat.wd, o1, Option.map_some], He.glo_ok X Gn (Dat.fact c (fas_cl hm).1), He.mkr_ok fa, b, ok⟩
  kp := fun C f F h e => by
    rw [hP] at h
    have h : t.init C = some f := h
    unfold Dat.init at h
    split at h
    · obtain ⟨g, hg, cn, e1, e2, e3⟩ := mt_of h
      exact T.kp g hg e2 F (by rw [e3]; exact e)
    · cases h
  fls := fun C A' f hc h => by
    rw [hP] at h
    have h : t.fl C f = true := h
    unfold Dat.fl at h
    obtain ⟨p, hp, e⟩ := List.any_eq_true.mp h
    simp only [Bool.and_eq_true, beq_iff_eq] at e
    obtain ⟨e1, e2⟩ := e
    obtain ⟨cn, hcn⟩ := T.fl p hp
    have o1 := T.cls _ hcn
    subst e1 e2
    dsimp only at o1
    simp only [Dat.wd, o1, Option.map_some, Option.some.injEq] at hc
    subst hc
    exact ⟨He.cls_ok (Dat.fact c (fas_cl hcn).2), He.noat_ok (Dat.fact c (fas_fl hp o1))⟩
  exs := fun x C h => by
    simp only [Dat.gt, Option.map_eq_some_iff] at h
    obtain ⟨p, hp, e⟩ := h
    have h1 := List.find?_some hp
    have h1 := beq_iff_eq.mp h1
    have hm := List.mem_of_find?_eq_some hp
    subst e h1
    obtain ⟨q1, q2, q3, q4⟩ := He.exc_ok (Dat.fact c (fas_ex hm).2)
    exact ⟨He.ga K p.1, by simp only [Dat.wd, T.exc p hm, Option.map_some], He.glo_ok X Gn (Dat.fact c (fas_ex hm).1), q1, q2, q3, q4⟩
  blt := fun x h => by
    simp only [Dat.gt] at h
    obtain ⟨y, hy, e⟩ := List.any_eq_true.mp h
    have e := beq_iff_eq.mp e
    subst e
    exact He.free_ok X Gn (Dat.fact c (fas_bl hy))
  cst := fun x v h => by
    simp only [Dat.gt] at h
    split at h
    · rename_i p hp
      have h1 := List.find?_some hp
      have h1 := beq_iff_eq.mp h1
      have hm := List.mem_of_find?_eq_some hp
      cases h
      subst h1
      obtain ⟨tg, e⟩ := He.int_ok X Gn (Dat.fact c (fas_int hm))
      exact ⟨_, e, .inl ⟨_, rfl, ⟨tg, rfl⟩⟩⟩
    · simp only [Option.map_eq_some_iff] at h
      obtain ⟨p, hp, e⟩ := h
      have h1 := List.find?_some hp
      have h1 := beq_iff_eq.mp h1
      have hm := List.mem_of_find?_eq_some hp
      subst e h1
      obtain ⟨tg, e⟩ := He.str_ok X Gn (Dat.fact c (fas_str hm))
      exact ⟨_, e, .inr ⟨_, rfl, ⟨tg, rfl⟩⟩⟩
  tds := fun x C f h => by
    simp only [Dat.gt, Option.map_eq_some_iff] at h
    obtain ⟨p, hp, e⟩ := h
    have h1 := List.find?_some hp
    have h1 := beq_iff_eq.mp h1
    have hm := List.mem_of_find?_eq_some hp
    cases e
    subst h1
    obtain ⟨a, ex, n, y, tm, S, la, ln, le, ly, ten, pa, pn, pe, py, hx, ⟨g, hg, gc, gn, gi, gh⟩, bd⟩ := (O2 p hm).ex
    obtain ⟨fd, F⟩ := Dat.defT c hm
    obtain ⟨fd', b', ok', hot⟩ := A g hg
    obtain ⟨fdg, Fg⟩ := Dat.def_ c hg
    have at' : He.fAd K g.at_ = He.ga K y := by unfold FD.at_; rw [gc, gn]; rfl
    have fg := Dat.fact c (fas_fd hg)
    rw [gc] at fg
    dsimp only at fg
    rw [gn] at fg
    obtain ⟨p1, p2, p3, p4, p7, p8, q1, q2, q3, q4, eb⟩ := toldM_ok tm
    rw [at'] at Fg
    refine ⟨He.ga K p.name, He.ga K ex, He.ga K y, fd, fd', defArgs p.st, defScope p.st, a, ex, n, y, g.ps, p1, p2, p3, p4, p7, p8, q1, q2, q3, q4, by rw [← eb]; exact F, He.glo_ok X Gn (Dat.fact c (fas_td hm)), F.bindsN bd, S, la, ln, le, ly, ten, pa, pn, pe, py,
      by simp only [Dat.wd, T.exc _ hx, Option.map_some], He.glo_ok X Gn (Dat.fact c (fas_ex hx).1), He.glo_ok X Gn fg, Fg.kp, b', ?_⟩
    have z := hot gh
    rw [at', gi] at z
    exact z
  exi := fun C A' h10 hc => by
    simp only [Dat.wd, Option.map_eq_some_iff] at hc
    obtain ⟨x, hx, e⟩ := hc
    subst e
    obtain ⟨_, _, z⟩ := c0
    have m := z.more
    unfold Dat.moreB at m
    rw [Bool.and_eq_true, List.all_eq_true] at m
    have m := m.1 _ (T.ten C x h10 hx)
    rw [Bool.and_eq_true, Bool.and_eq_true] at m
    exact excCB_ok m.1.1
  exm := fun C CS h10 hC C' A' h10' hA => by
    simp only [Dat.wd, Option.map_eq_some_iff] at hC hA
    obtain ⟨x, hx, e⟩ := hC
    subst e
    obtain ⟨y, hy, e⟩ := hA
    subst e
    obtain ⟨_, _, z⟩ := c0
    have m := z.more
    unfold Dat.moreB at m
    rw [Bool.and_eq_true, List.all_eq_true] at m
    have m := m.1 _ (T.ten C' y h10' hy)
    rw [Bool.and_eq_true, List.all_eq_true] at m
    have m := m.2 _ (T.ten C x h10 hx)
    rw [Bool.and_eq_true] at m
    rw [hP]
    exact of_decide_eq_true m.2
  iss := fun x C h => by
    simp only [Dat.gt] at h
    split at h
    · rename_i p hp
      have h1 := List.find?_some hp
      have h1 := beq_iff_eq.mp h1
      have hm := List.mem_of_find?_eq_some hp
      cases h
      subst h1
      refine ⟨.ref (He.ga K p.1), .ref (He.ga K p.1), .inr ⟨_, rfl, rfl, He.glo_ok X Gn (Dat.fact c (fas_ex hm).1)⟩, .own _, fun C' A' h10 hA => ?_⟩
      simp only [Dat.wd, Option.map_eq_some_iff] at hA
      obtain ⟨y, hy, e⟩ := hA
      subst e
      obtain ⟨_, _, z⟩ := c0
      have m := z.more
      unfold Dat.moreB at m
      rw [Bool.and_eq_true, List.all_eq_true] at m
      have m := m.1 _ (T.ten C' y h10 hy)
      rw [Bool.and_eq_true, List.all_eq_true] at m
      have m := m.2 _ hm
      rw [Bool.and_eq_true] at m
      rw [hP]
      exact of_decide_eq_true m.1
    · split at h
      · rename_i ev
        have ev := beq_iff_eq.mp ev
        subst ev
        cases h
        refine ⟨.ty "ValueError", .type "ValueError", .inl ⟨rfl, rfl, He.free_ok X Gn (Dat.fact c fas_ve), by decide +kernel⟩, .ty _, fun C' A' h10 hA => ?_⟩
        simp only [Dat.wd, Option.map_eq_some_iff] at hA
        obtain ⟨y, hy, e⟩ := hA
        subst e
        obtain ⟨_, _, z⟩ := c0
        have m := z.more
        unfold Dat.moreB at m
        rw [Bool.and_eq_true, List.all_eq_true] at m
        have m := m.1 _ (T.ten C' y h10 hy)
        rw [Bool.and_eq_true, Bool.and_eq_true] at m
        rw [hP]
        exact of_decide_eq_true m.1.2
      · cases h
  tu := fun p hp q hq e => by
    simp only [Dat.wd, List.mem_map] at hp hq
    obtain ⟨f, hf, rfl⟩ := hp
    obtain ⟨g, hg, rfl⟩ := hq
    obtain ⟨_, _, z⟩ := c0
    have m := z.more
    unfold Dat.moreB at m
    rw [Bool.and_eq_true] at m
    have m := List.all_eq_true.mp (List.all_eq_true.mp m.2 f hf) g hg
    simp only [Bool.or_eq_true, decide_eq_true_eq, Bool.not_eq_true', decide_eq_false_iff_not] at m
    have top : ∀ {f : FD}, f ∈ t.lams → f.qual = f.name := fun {f} hf => by
      have z := (List.mem_filter.mp hf).2
      rw [Bool.and_eq_true] at z
      have z := z.1
      unfold FD.isTop at z
      unfold FD.qual
      split at z
      · rename_i e; rw [e]
      · cases z
    rcases m with m | m
    · dsimp only
      rw [top hf, top hg, m]
    · exact absurd e m
  }
theorem er_start {D : Wd} {F : Hp} {μ : List Addr} {N : List Str} {G : Fn} {vs : List Vl} {us : List V} (hs : G.size = N.length) (r : RVs D F μ vs us) : ER D F μ (startE G vs) (L2.start N us) := by
  unfold startE L2.start
  refine ⟨by simp [r.length, hs], fun i v h => ?_⟩
  by_cases hi : i < vs.length
  · rw [List.getElem?_append_left (by simpa using hi), List.getElem?_map] at h
    cases e : vs[i]? with
    | none => rw [e] at h; cases h
    | some x =>
      rw [e] at h
      cases h
      obtain ⟨u, hu, ru⟩ := r.get e
      refine ⟨u, ?_, ru⟩
      rw [List.getElem?_append_left (by simpa [← r.length] using hi), List.getElem?_map, hu]
      rfl
  · rw [List.getElem?_append_right (by simpa using hi), List.getElem?_replicate] at h
    split at h <;> cases h
/-- a def that may be called while an exception is handled, by its body -/
theorem fn_hot {CX : CXT} {P : Program} {w : World} {K : PySem.W.Frag} {mg : Str → Option Value} {base : Heap} {k : Nat} {f : Addr} {fd : FuncData} {name qual : Str} {params : Arguments} {body : List Stmt} {scope : Scope} {N ps : List Str} {sp : Sp}
    (F : FunD K name qual params body scope [] [] f fd) (S : FnScope N ps scope) (len : ∀ vs H Q E, sp vs H Q E → vs.length = ps.length)
    (hb : ∀ (cdv : Value) (A : Around) (outer : List Env) (s : Shared) (H : Hp) (vs : List V) (Q : VK) (E : XK), L2H.RoomH k (A.deeper (envOfC qual scope s.heap.objs.size f cdv)) → sp vs H Q E →
      ∃ t, PSs { cxOf CX P w K mg base N qual scope f cdv A outer s H E with calm := false } body t ∧ t { nx := fun _ H' => Q .non H', rt := Q } (L2.start N vs) H) : FnHt P w K mg base CX (k + 1) f fd ps sp := by
  obtain ⟨oc, od, dV, kV, doc, pm, an, cdv, ct, osl, rfl, lk, hcd, _, _⟩ := F.ex
  refine ⟨len, fun A outer s H args us vs Q E hr e0 bind r h => ?_⟩
  have up : ∀ b o, base.get? b = some o → s.heap.get? b = some o := fun b o e => (e0.bs b o e).1
  have kin := e0.mod.kin.keeps up
  have kinds : ∀ y ∈ ps.zip us, scope.names.lookup y.1 = some .local ∨ (scope.names.lookup y.1 = some .cell ∧ ((cellsFrom (s.heap.objs.size + 1) scope.names []).lookup y.1).isSome = true) := by
    rintro ⟨n, v⟩ hy
    exact (S.par n (List.of_mem_zip hy).1).imp (fun q => q) fun q => ⟨q, PySem.W.cellsFrom_some _ _ _ (.inl q)⟩
  refine codeAny_call_function hr.depth (kin _ _ lk) rfl S.co S.gen rfl (PySem.W.codeRec_of kin hcd) (bind _ _ _ _ (wpAny_newFunctionEnv_cells S.kind kinds fun env he s1 x => ?_))
  subst he
  refine ⟨(e0.mod.nolimit.keeps up).keeps x.toInCall.keep, codeAny_func ?_⟩
  obtain ⟨t, ht, hq⟩ := hb cdv A outer s H vs Q E (hr.deeper _) h
  -- as if nothing were handled
  have J : L2.Inv (cxOf CX P w K mg base N qual scope f cdv { A with handled := none } outer s H E) [] (L2.start N vs) H s1 := inv_start S rfl ⟨e0.frames, e0.mod, e0.bs, e0.bsz, e0.funs, e0.frf, e0.hok, e0.bare⟩ (len _ _ _ _ h) r x
  have I : L2.Inv { cxOf CX P w K mg base N qual scope f cdv A outer s H E with calm := false } [] (L2.start N vs) H s1 :=
    ⟨⟨J.ok.mod, J.ok.kind, J.ok.glob, J.ok.blt, J.ok.above, J.ok.inj, J.ok.has, J.ok.cab, fun z => Bool.noConfusion (show false = true from z), J.ok.frames, J.ok.stk, J.ok.exf, J.ok.bs, J.ok.bsz, J.ok.noex, J.ok.exfs, J.ok.funs, J.ok.frf⟩,
      J.os, J.bare, J.base, J.loc, J.cell, J.free, J.freeC, J.pin, J.hok, J.len⟩
  refine wpAny_mono (ht.run [] s1 _ H _ I hq) (fun fl s2 z => ?_) fun _ _ z => z
  match fl, z with
  | .ret u, ⟨v, _, H2, I2, rv, z⟩ => exact ⟨v, H2, I2.os, I2.bare, I2.base, I2.hok, rv, z⟩
  | .next, ⟨_, H2, I2, z⟩ => exact ⟨.non, H2, I2.os, I2.bare, I2.base, I2.hok, rfl, z⟩
  | .brk, ⟨_, _, _, z⟩ => exact z.elim
  | .cont, ⟨_, _, _, z⟩ => exact z.elim
/-- what the body's run leaves is what the promise tells -/
theorem fl_end {d : Nat} {f : FD} {G : Fn} {F' : Hp} {μ : List Addr} {H : Hp} {hh : Hh} {ws : List Vl} {Q : VK} {E : XK} (g1 : P.fn f.id = some G) (p : PostV (t.wd K) F' μ H (run P (d + 1) f.id ws hh) Q E) :
    FlQ (t.wd K) (fun cls d _ H => E cls d H) F' μ H (xb P d G.body (startE G ws) hh) { nx := fun _ H' => Q .non H', rt := Q } := by
  unfold run at p
  rw [g1] at p
  dsimp only at p
  split at p
  · have p : PostV (t.wd K) F' μ H (xb P d G.body (startE G ws) hh).val Q E := p
    unfold FlQ
    cases e : xb P d G.body (startE G ws) hh with
    | bad => rw [e] at p; exact p.elim
    | bk _ _ => rw [e] at p; exact p.elim
    | ct _ _ => rw [e] at p; exact p.elim
    | rt v h' => rw [e] at p; exact p
    | nx ρ' h' => rw [e] at p; exact fun F2 μ2 H2 σ2 x2 c2 _ => p F2 μ2 H2 .non x2 c2 .non
    | ex C ρ' h' => rw [e] at p; exact fun F2 μ2 H2 σ2 A2 x2 c2 _ k2 => p F2 μ2 H2 A2 x2 c2 k2
  · exact p.elim
theorem vis_of {sc : Scope} {x : Str} (h : visB sc x = true) : Vis sc x := by
  unfold visB at h
  split at h
  · rename_i e; exact .inl e
  · rename_i e; exact .inr (.inl e)
  · rename_i e; exact .inr (.inr e)
  · cases h
theorem glo_of {sc : Scope} {x : Str} (h : glB sc x = true) : sc.names.lookup x = some .globalImplicit := by
  unfold glB at h
  split at h
  · rename_i e; exact e
  · cases h
/-- one def more deeply -/
theorem stepOk {sub : Nat → Nat → Bool} {d : Nat} (T : TOk t P) (c0 : ∃ w h, t.Says sub w h K) (TB : ∀ f ∈ t.lams, LamX.TabB base mg (He.cT K f.at_).1 (He.cT K f.at_).2) (W : WOk (t.wd K) P d t.gt prog w K mg base) {f : FD} (hf : f ∈ t.fds) (ok : FOk t P f) {fd : FuncData}
    (F : FunD K f.name f.qual (defArgs f.st) (defBody f.st) (defScope f.st) [] [] (He.fAd K f.at_) fd) : FnOk prog w K mg base (L2.CX prog w) (4 * (d + 1)) (He.fAd K f.at_) fd f.ps (spF (t.wd K) P (d + 1) f.id) ∧
      (hotF P f = true → FnHt prog w K mg base (L2.CX prog w) (4 * (d + 1)) (He.fAd K f.at_) fd f.ps (spF (t.wd K) P (d + 1) f.id)) := by
  obtain ⟨G, g1, g2, g3, g4⟩ := ok.ex
  have len : ∀ vs H Q E, spF (t.wd K) P (d + 1) f.id vs H Q E → vs.length = f.ps.length := fun vs H Q E h => by
    obtain ⟨⟨G', e1, e2⟩, _⟩ := h
    rw [g1] at e1
    cases e1
    rw [e2, g2]
  have e2 : 4 * (d + 1) = (4 * d + 3) + 1 := by omega
  refine ⟨?_, fun hot => ?_⟩
  · obtain ⟨oc, od, dV, kV, doc, pm, an, cdv, ct, osl, rfl, lk, hcd, _, _⟩ := F.ex
    rw [e2]
    refine fn_of lk hcd ok.sc len fun A outer s H vs Q E hr h => ?_
    obtain ⟨_, F', μ, hh, ws, cs, rv, p⟩ := h
    have k : SOk (t.wd K) P d t.gt f.N (defScope f.st) (fun cls d _ H => E cls d H) (cxOf (L2.CX prog w) prog w K mg base f.N f.qual (defScope f.st) (He.fAd K f.at_) cdv A outer s H E) :=
      { w := W
        hN := rfl
        nd := ok.sc.nd
        hu := units_of hr
        calm := rfl
        room := hr.mono (by omega)
        vis := fun x h => vis_of h
        gl := fun x h => glo_of h
        loc := fun x h => ⟨h, .inl rfl⟩
        free := fun x kk e h => by
          rcases h with rfl | rfl
          · exact .inl e
          · exact .inr e
        tk := takes_of rfl rfl rfl rfl
        lam := fun h => by
          have h : defScope f.st ∈ t.lams.map fun f => defScope f.st := h
          obtain ⟨g, hg, e⟩ := List.mem_map.mp h
          have fl := T.lam f hf g hg e
          obtain ⟨cc, ec⟩ := He.codeIn_ref hcd
          have z := TB f fl
          have eq : (He.cT K f.at_).1 = cc := He.codeOf_eq lk ec
          refine ⟨cc, (He.cT K f.at_).2, ec, by rw [← eq]; exact z, List.mem_map.mpr ⟨f, fl, rfl⟩, hr⟩
        sceq := rfl
        kind := ok.sc.kind
        pass := passes_of rfl
        own := rfl
        frame := rfl
        ex0 := rfl }
    exact ⟨_, sB G.body k _ g4, F', μ, startE G ws, hh, cs, er_start g3 rv, fl_end g1 p⟩
  · rw [e2]
    refine fn_hot F ok.sc len fun cdv A outer s H vs Q E hr h => ?_
    obtain ⟨_, F', μ, hh, ws, cs, rv, p⟩ := h
    have hot : hotB G.body = true := by
      unfold hotF at hot
      rw [g1] at hot
      exact hot
    have k : XBase (t.wd K) P d t.gt f.N (defScope f.st) { cxOf (L2.CX prog w) prog w K mg base f.N f.qual (defScope f.st) (He.fAd K f.at_) cdv A outer s H E with calm := false } :=
      { w := W
        hN := rfl
        nd := ok.sc.nd
        hu := by have := hr.un; show (A.deeper _).units + 65 < cLine; omega
        vis := fun x h => vis_of h
        gl := fun x h => glo_of h
        loc := fun x h => ⟨h, .inl rfl⟩
        free := fun x kk e h => by
          rcases h with rfl | rfl
          · exact .inl e
          · exact .inr e }
    exact ⟨_, hB G.body hot (W := fun cls d _ H => E cls d H) k _ g4, F', μ, startE G ws, hh, cs, er_start g3 rv, fl_end g1 p⟩
/-- every def, at every depth -/
theorem allOk {sub : Nat → Nat → Bool} {fn : Nat → Option Fn} (hP : P = t.pg fn sub) (T : TOk t P) (O : ∀ f ∈ t.fds, FOk t P f) (O2 : ∀ p ∈ t.tds, TDOk t P p) (X : K.In base) (Gn : base.Ns mainGlobals mg) (c0 : ∃ w h, t.Says sub w h K)
    (TB : ∀ f ∈ t.lams, LamX.TabB base mg (He.cT K f.at_).1 (He.cT K f.at_).2) : ∀ d, AllOk t P prog w K mg base d
  | 0 => fun f hf => by
    obtain ⟨fd, F⟩ := Dat.def_ (c0.elim fun _ z => z.elim fun _ z => z.t.d) hf
    have ok := O f hf
    obtain ⟨G, g1, g2, g3, g4⟩ := ok.ex
    have len : ∀ vs H Q E, spF (t.wd K) P 0 f.id vs H Q E → vs.length = f.ps.length := fun vs H Q E h => by
      obtain ⟨⟨G', e1, e2⟩, _⟩ := h
      rw [g1] at e1
      cases e1
      rw [e2, g2]
    refine ⟨fd, F.bindsN ok.bd, ⟨len, fun A outer s H args us vs Q E hr he hb hv hs => ?_⟩, fun _ => ⟨len, fun A outer s H args us vs Q E hr he hb hv hs => ?_⟩⟩
    · obtain ⟨_, F', μ, h, ws, _, _, p⟩ := hs
      exact p.elim
    · obtain ⟨_, F', μ, h, ws, _, _, p⟩ := hs
      exact p.elim
  | d + 1 => fun f hf => by
    obtain ⟨fd, F⟩ := Dat.def_ (c0.elim fun _ z => z.elim fun _ z => z.t.d) hf
    exact ⟨fd, F.bindsN (O f hf).bd, stepOk T c0 TB (wok (prog := prog) (w := w) hP T X Gn c0 O2 (allOk hP T O O2 X Gn c0 TB d)) hf (O f hf) F⟩
theorem ints_rv {D : Wd} {F : Hp} {μ : List Addr} : ∀ ns : List Int, RVs D F μ (ns.map .int) (ns.map V.int)
  | [] => .nil
  | n :: ns => .cons (.int n) (ints_rv ns)
/-- the heap without its tables -/
def noTabs (H : Hp) : Hp := fun a => match H a with
  | some (.tbl _) => none
  | o => o
theorem noTabs_of {H : Hp} {a : Addr} {o : HO} (h : H a = some o) (n : ∀ ps, o ≠ .tbl ps) : noTabs H a = some o := by
  unfold noTabs
  rw [h]
  cases o <;> first | rfl | exact absurd rfl (n _)
theorem of_noTabs {H : Hp} {a : Addr} {o : HO} (h : noTabs H a = some o) : H a = some o ∧ ∀ ps, o ≠ .tbl ps := by
  unfold noTabs at h
  split at h
  · cases h
  · rename_i n
    exact ⟨h, fun ps e => n ps (e ▸ h)⟩
theorem noTabs_sq {K : PySem.W.Frag} {H : Hp} {a : Addr} {us : List V} (h : SqL K H a us) : SqL K (noTabs H) a us := by
  rcases h with (h | ⟨o, h⟩) | h
  · exact .inl (.inl (noTabs_of h fun _ z => by cases z))
  · exact .inl (.inr ⟨o, noTabs_of h fun _ z => by cases z⟩)
  · exact .inr h
/-- THE END: a law whose bodies fit -/
theorem walkIL {l : PySem.W.OpenLaw} {n d m : Nat} {q : Program} {loose : List Str} {XP : (Str → Option Value) → Heap → Prop} {dr : DefRec} {sub : Nat → Nat → Bool} {fn : Nat → Option Fn} {lw : FD} {x : Str}
    (hP : P = t.pg fn sub) (T : TOk t P) (O : ∀ f ∈ t.fds, FOk t P f) (O2 : ∀ p ∈ t.tds, TDOk t P p) (hw : lw ∈ t.fds) (hx : lw.ps = [x]) (ht : lw.cl = none) (hnm : dr.name = lw.name)
    (hn : l.most = some n) (hn2 : n ≤ sizeLine) (hdf : dr.params.defaults = []) (hr : Room (4 * (d + 1)) callerA)
    (math : ∀ ns : List Int, ns.length ≤ n → ∃ h, run P (d + 1) lw.id [.scr (ns.map .int)] [] = .ok (.bl true) h) :
    PySem.W.WalkO q loose XP (He.hookX m t.fas t.defs [] (t.lams.map FD.at_) (t.moreB sub)).says l.row.toRowW dr [] (fun f vs => PySem.call f vs) := by
  refine LamX.walk_ofTsE (k := 4 * (d + 1)) (CX := fun w => L2.CX l.prog w) (x := x) hn hn2 hdf hr (fun w mg fa h Y hns hmg => ?_) fun w H s e s' z => ?_
  · obtain ⟨K, KX, c1⟩ := Y
    have c := c1.t.d
    have c0 : ∃ w h, t.Says sub w h K := ⟨_, _, c1⟩
    obtain ⟨fd, F⟩ := Dat.def_ c hw
    have g := He.glo_ok KX hns (x := lw.name) (by
      have z := Dat.fact c (fas_fd hw)
      rw [ht] at z
      exact z)
    rw [hnm] at hmg
    have efa : fa = He.fAd K lw.at_ := by
      rw [g] at hmg
      have e1 : He.fAd K lw.at_ = He.ga K lw.name := by unfold FD.at_; rw [ht]; rfl
      rw [e1]
      cases hmg
      rfl
    have ok := O lw hw
    have at_mem : ∀ {p : Addr × Addr}, p ∈ t.lams.map (fun f => He.cT K f.at_) → ∃ q ∈ t.lams.map FD.at_, He.cT K q = p := fun {p} hp => by
      obtain ⟨f, hf, e⟩ := List.mem_map.mp hp
      exact ⟨f.at_, List.mem_map.mpr ⟨f, hf, rfl⟩, e⟩
    refine ⟨K, KX, fd, t.lams.map fun f => He.cT K f.at_, spF (t.wd K) P (d + 1) lw.id, fun p hp => ?_, fun p hp => ?_, fun p hp => ?_, fun s u => ?_, fun H a ns hlen _ hH hS => ?_, fun base KB GB TB => ?_⟩
    · obtain ⟨q, hq, rfl⟩ := at_mem hp
      exact c1.empty q hq
    · obtain ⟨q, hq, rfl⟩ := at_mem hp
      exact c1.out q hq
    · obtain ⟨q, hq, rfl⟩ := at_mem hp
      exact PySem.W.codeHd_of_K KX (c1.hd q hq)
    · have z := F.bindsA (ps := lw.ps) ok.bd s [u] (by rw [hx]; rfl)
      rw [hx] at z
      exact z
    · obtain ⟨G, g1, g2, g3, g4⟩ := ok.ex
      refine ⟨⟨G, g1, by rw [g2, hx]; rfl⟩, noTabs H, [], [], [.scr (ns.map .int)], ⟨fun b o e => .inl (of_noTabs e).1, rfl, .nil, fun l o e => by simp at e, ⟨fun p hp => ?_, fun b ps e => (of_noTabs e).2 ps rfl⟩⟩, .cons (.scr (noTabs_sq hS) (ints_rv ns)) .nil, ?_⟩
      · obtain ⟨f, hf, e⟩ := List.mem_map.mp hp
        subst e
        exact LamX.TabS.nil (hH _ (List.mem_map.mpr ⟨f, hf, rfl⟩))
      · obtain ⟨h, e⟩ := math ns hlen
        rw [e]
        intro F' μ' H' u x' c' r
        cases r
        rfl
    · have TB' : ∀ f ∈ t.lams, LamX.TabB base mg (He.cT K f.at_).1 (He.cT K f.at_).2 := fun f hf => TB _ (List.mem_map.mpr ⟨f, hf, rfl⟩)
      have z := (stepOk (prog := l.prog) (w := w) T c0 TB' (wok (prog := l.prog) (w := w) hP T KB GB c0 O2 (allOk hP T O O2 KB GB c0 TB' d)) hw ok F).1
      rw [hx] at z
      rw [efa]
      exact z
  · obtain ⟨_, _, _, _, _, _, _, _, _, _, _, _, z⟩ := z
    exact z
end
end IL
end

section
set_option autoImplicit false
set_option linter.all false
set_option Elab.async false
set_option maxRecDepth 100000
set_option maxHeartbeats 8000000
/-! IL: what fits, by Bool. -/
namespace IL
open PySem L2 PyProof.Rows
def scB (N ps : List Str) (sc : Scope) : Bool :=
  (match sc.kind with | .function => true | _ => false) && !sc.isCoroutine && !sc.isGenerator && decide N.Nodup && decide (N.take ps.length = ps) &&
  (ps.all fun x => match sc.names.lookup x with | some .local => true | some .cell => true | _ => false) &&
  (sc.names.all fun y => match y.2 with | .free => false | _ => true)
theorem sc_by {N ps : List Str} {sc : Scope} (h : scB N ps sc = true) : FnScope N ps sc := by
  unfold scB at h
  simp only [Bool.and_eq_true, Bool.not_eq_true', decide_eq_true_eq, List.all_eq_true] at h
  obtain ⟨⟨⟨⟨⟨⟨h1, h2⟩, h3⟩, h4⟩, h5⟩, h6⟩, h7⟩ := h
  refine ⟨?_, h2, h3, h4, h5, fun x hx => ?_, fun y hy e => ?_⟩
  · split at h1
    · assumption
    · cases h1
  · have q := h6 x hx
    split at q
    · exact .inl (by assumption)
    · exact .inr (by assumption)
    · cases q
  · have q := h7 y hy
    rw [e] at q
    cases q
def fokB (t : Dat) (P : Pg) (f : FD) : Bool := scB f.N f.ps (defScope f.st) && (match P.fn f.id with
  | some F => decide (F.n = f.ps.length) && decide (F.size = f.N.length) && chkB t.gt f.N F.body (defScope f.st) (defBody f.st)
  | none => false)
theorem fok_by {t : Dat} {P : Pg} {f : FD} (h : fokB t P f = true) (b : ∀ (kV doc pm : Value) (an : Option Addr) (cdv ct : Value) (us : List Value), us.length = f.ps.length → bindArgs (PySem.W.fnOf f.name f.qual (defArgs f.st) (defBody f.st) (defScope f.st) .none kV doc pm an cdv ct) ⟨us, []⟩ = pure (f.ps.zip us)) : FOk t P f := by
  unfold fokB at h
  rw [Bool.and_eq_true] at h
  obtain ⟨h1, h2⟩ := h
  refine ⟨?_, sc_by h1, b⟩
  split at h2
  · rename_i F e
    simp only [Bool.and_eq_true, decide_eq_true_eq] at h2
    exact ⟨F, e, h2.1.1, h2.1.2, h2.2⟩
  · cases h2
def tokB (t : Dat) (P : Pg) : Bool :=
  (t.fds.all fun f => match f.cl with
    | some (c, C) => decide (t.nameOf C = some c) && decide ((c, C) ∈ t.cls)
    | none => true) &&
  (t.cls.all fun p => decide (t.nameOf p.2 = some p.1)) &&
  (t.fds.all fun f => !decide (f.name = ("__init__" : Str)) || (match P.fn f.id with
    | some F => F.keep
    | none => true)) &&
  (t.cls.all fun p => (t.init p.2).isSome) &&
  (t.flds.all fun p => t.cls.any fun q => decide (q.2 = p.1)) &&
  (t.exs.all fun p => decide (t.nameOf p.2 = some p.1)) &&
  (t.cls.all fun p => decide (p.2 < 10)) &&
  (t.fds.all fun f => t.lams.all fun g => !decide (defScope g.st = defScope f.st) || (f.isTop && t.lam.any fun x => x == f.name))
theorem tok_by {t : Dat} {P : Pg} (h : tokB t P = true) : TOk t P := by
  unfold tokB at h
  simp only [Bool.and_eq_true, List.all_eq_true] at h
  obtain ⟨⟨⟨⟨⟨⟨⟨h1, h2⟩, h3⟩, h4⟩, h5⟩, h6⟩, h7⟩, h8⟩ := h
  refine ⟨fun f hf c C e => ?_, fun p hp => of_decide_eq_true (h2 p hp), fun f hf e F eF => ?_, fun p hp => Option.isSome_iff_exists.mp (h4 p hp), fun p hp => ?_, fun p hp => of_decide_eq_true (h6 p hp), fun C x h10 e => ?_, fun f hf g hg e => ?_⟩
  · have q := h1 f hf
    rw [e] at q
    simp only [Bool.and_eq_true, decide_eq_true_eq] at q
    exact q
  · have q := h3 f hf
    rw [eF, e] at q
    simpa using q
  · obtain ⟨q, hq, e⟩ := List.any_eq_true.mp (h5 p hp)
    exact ⟨q.1, by rw [← of_decide_eq_true e]; exact hq⟩
  · unfold Dat.nameOf at e
    simp only [Option.map_eq_some_iff] at e
    obtain ⟨p, hp, e⟩ := e
    have q := List.find?_some hp
    have q := beq_iff_eq.mp q
    subst q e
    rcases List.mem_append.mp (List.mem_of_find?_eq_some hp) with z | z
    · have := of_decide_eq_true (h7 p z)
      omega
    · exact z
  · have q := h8 f hf g hg
    rw [e] at q
    simp only [Bool.or_eq_true, Bool.not_eq_true', decide_true, Bool.true_eq_false, false_or] at q
    exact List.mem_filter.mpr ⟨hf, q⟩
def tdB (t : Dat) (P : Pg) (a : Str) (p : TD) : Bool := match toldM (defBody p.st) with
  | some (b, e, n, y) => decide (b = a) && scB [b, n] [b] (defScope p.st) && decide ((defScope p.st).names.lookup b = some .local) && decide ((defScope p.st).names.lookup n = some .local) && decide ((defScope p.st).names.lookup e = some .globalImplicit) &&
    decide ((defScope p.st).names.lookup y = some .globalImplicit) && decide (10 ≤ p.C) && plainNm b && plainNm n && plainNm e && plainNm y && decide ((e, p.C) ∈ t.exs) && t.fds.any fun g => decide (g.cl = none) && decide (g.name = y) && decide (g.id = p.f) && hotF P g
  | none => false
theorem td_by {t : Dat} {P : Pg} {p : TD} {a : Str} (h : tdB t P a p = true) (bd : ∀ (kV doc pm : Value) (an : Option Addr) (cdv ct : Value) (us : List Value), us.length = [a].length → bindArgs (PySem.W.fnOf p.name p.name (defArgs p.st) (defBody p.st) (defScope p.st) .none kV doc pm an cdv ct) ⟨us, []⟩ = pure ([a].zip us)) : TDOk t P p := by
  unfold tdB at h
  split at h
  · rename_i b e n y em
    simp only [Bool.and_eq_true, decide_eq_true_eq, List.any_eq_true] at h
    obtain ⟨⟨⟨⟨⟨⟨⟨⟨⟨⟨⟨⟨rfl, h1⟩, h2⟩, h3⟩, h4⟩, h5⟩, h6⟩, h7⟩, h8⟩, h9⟩, h10⟩, h11⟩, g, hg, ⟨⟨g1, g2⟩, g3⟩, g4⟩ := h
    exact ⟨b, e, n, y, em, sc_by h1, h2, h3, h4, h5, h6, h7, h8, h9, h10, h11, ⟨g, hg, g1, g2, g3, g4⟩, bd⟩
  · cases h
/-- the arguments bind: by their number -/
theorem bd_of {n : Nat} {ps : List Str} {t : List Value → Prop} (h : ∀ us : List Value, us.length = n → t us) (e : ps.length = n) (us : List Value) (hl : us.length = ps.length) : t us := h us (hl.trans e)
end IL
end

section
set_option autoImplicit false
set_option linter.all false
set_option Elab.async false
set_option maxRecDepth 100000
set_option maxHeartbeats 0
open PySem
namespace IL
/-- is_whole(thing, low, high) slots 0:thing 1:low 2:high -/
def b1 : List Sm := [.ret (.and (.blt (.isinst 0) [(.var 0)]) (.and (.not (.blt (.isinst 1) [(.var 0)])) (.chn .le .le (.var 1) (.var 0) (.var 2))))]
/-- is_box(thing) slots 0:thing 1:one -/
def b2 : List Sm := [.ife (.or (.not (.blt (.isinst 2) [(.var 0)])) (.cmp .ne (.blt .len [(.var 0)]) (.cst (.int 4)))) [.ret (.cst (.bl false))] [],
    .ife (.not (.blt .all [(.lc false [1] (.nm 1) .seq [(.slc false (.var 0) (.cst .non) (.cst (.int 2)) (.cst .non))] [] (.call 1 [(.var 1), (.bin .sub (.cst (.int 0)) (.gc "FARTHEST" (.int 20))), (.gc "FARTHEST" (.int 20))]))])) [.ret (.cst (.bl false))] [],
    .ret (.blt .all [(.lc false [1] (.nm 1) .seq [(.slc false (.var 0) (.cst (.int 2)) (.cst .non) (.cst .non))] [] (.call 1 [(.var 1), (.cst (.int 1)), (.gc "LARGEST" (.int 8))]))])]
/-- is_stamp(thing) slots 0:thing -/
def b3 : List Sm := [.ife (.or (.not (.blt (.isinst 2) [(.var 0)])) (.cmp .ne (.blt .len [(.var 0)]) (.cst (.int 2)))) [.ret (.cst (.bl false))] [],
    .ret (.and (.call 1 [(.idx (.var 0) (.cst (.int 0))), (.cst (.int 1)), (.bin .pow (.cst (.int 10)) (.cst (.int 6)))]) (.call 1 [(.idx (.var 0) (.cst (.int 1))), (.cst (.int 0)), (.bin .sub (.gc "MOST_HANDS" (.int 3)) (.cst (.int 1)))]))]
/-- are_stamps(thing) slots 0:thing 1:one -/
def b4 : List Sm := [.ife (.or (.not (.blt (.isinst 2) [(.var 0)])) (.or (.not (.chn .le .le (.cst (.int 2)) (.blt .len [(.var 0)]) (.gc "MOST_MEMBERS" (.int 3)))) (.not (.blt .all [(.lc false [1] (.nm 1) .seq [(.var 0)] [] (.call 3 [(.var 1)]))])))) [.ret (.cst (.bl false))] [],
    .ret (.cmp .eq (.blt .lenset [(.var 0)]) (.blt .len [(.var 0)]))]
/-- is_deed(thing) slots 0:thing 1:word 2:one -/
def b5 : List Sm := [.ife (.or (.not (.blt (.isinst 2) [(.var 0)])) (.or (.cmp .lt (.blt .len [(.var 0)]) (.cst (.int 2))) (.not (.blt (.isinst 3) [(.idx (.var 0) (.cst (.int 0)))])))) [.ret (.cst (.bl false))] [],
    .set 1 (.idx (.var 0) (.cst (.int 0))),
    .ife (.cmp .eq (.var 1) (.cst (.str "draw"))) [.ret (.and (.cmp .eq (.blt .len [(.var 0)]) (.cst (.int 2))) (.call 2 [(.idx (.var 0) (.cst (.int 1)))]))] [],
    .ife (.cmp .eq (.var 1) (.cst (.str "group"))) [.ret (.and (.cmp .eq (.blt .len [(.var 0)]) (.cst (.int 2))) (.call 4 [(.idx (.var 0) (.cst (.int 1)))]))] [],
    .ife (.not (.call 3 [(.idx (.var 0) (.cst (.int 1)))])) [.ret (.cst (.bl false))] [],
    .ife (.cmp .eq (.var 1) (.cst (.str "move"))) [.ret (.and (.cmp .eq (.blt .len [(.var 0)]) (.cst (.int 4))) (.blt .all [(.lc false [2] (.nm 2) .seq [(.slc false (.var 0) (.cst (.int 2)) (.cst .non) (.cst .non))] [] (.call 1 [(.var 2), (.bin .sub (.cst (.int 0)) (.gc "FARTHEST" (.int 20))), (.gc "FARTHEST" (.int 20))]))]))] [],
    .ife (.cmp .eq (.var 1) (.cst (.str "size"))) [.ret (.and (.cmp .eq (.blt .len [(.var 0)]) (.cst (.int 4))) (.blt .all [(.lc false [2] (.nm 2) .seq [(.slc false (.var 0) (.cst (.int 2)) (.cst .non) (.cst .non))] [] (.call 1 [(.var 2), (.cst (.int 1)), (.gc "LARGEST" (.int 8))]))]))] [],
    .ife (.cmp .eq (.var 1) (.cst (.str "colour"))) [.ret (.and (.cmp .eq (.blt .len [(.var 0)]) (.cst (.int 3))) (.call 1 [(.idx (.var 0) (.cst (.int 2))), (.cst (.int 0)), (.gc "MOST_COLOUR" (.int 7))]))] [],
    .ret (.and (.cmp .eq (.blt .len [(.var 0)]) (.cst (.int 2))) (.cmp .isin (.var 1) (.tup [(.cst (.str "raise")), (.cst (.str "lower")), (.cst (.str "ungroup")), (.cst (.str "erase")), (.cst (.str "lock")), (.cst (.str "unlock")), (.cst (.str "undo"))])))]
/-- is_letter(thing) slots 0:thing -/
def b6 : List Sm := [.ife (.or (.not (.blt (.isinst 2) [(.var 0)])) (.or (.cmp .ne (.blt .len [(.var 0)]) (.cst (.int 3))) (.not (.call 3 [(.idx (.var 0) (.cst (.int 0)))])))) [.ret (.cst (.bl false))] [],
    .ret (.and (.call 1 [(.idx (.var 0) (.cst (.int 1))), (.cst (.int 0)), (.bin .pow (.cst (.int 10)) (.cst (.int 6)))]) (.call 5 [(.idx (.var 0) (.cst (.int 2)))]))]
/-- _law_cell(_law_script, _law_k) slots 0:_law_script 1:_law_k -/
def b7 : List Sm := [.ife (.cmp .lt (.var 1) (.blt .len [(.var 0)])) [.ret (.idx (.var 0) (.var 1))] [],
    .ife (.cmp .eq (.var 0) (.lst false [])) [.ret (.cst (.int 0))] [],
    .ret (.bin .add (.bin .mul (.idx (.var 0) (.bin .mod (.var 1) (.blt .len [(.var 0)]))) (.cst (.int 31))) (.var 1))]
/-- _law_pick(_law_script, _law_k, _law_many) slots 0:_law_script 1:_law_k 2:_law_many 3:_law_drawn -/
def b8 : List Sm := [.set 3 (.bin .mod (.bin .mul (.bin .add (.call 7 [(.var 0), (.var 1)]) (.bin .mul (.cst (.int 6151)) (.bin .add (.var 1) (.cst (.int 1))))) (.cst (.int 40692))) (.cst (.int 2147483399))),
    .ret (.bin .mod (.bin .mod (.bin .add (.bin .mul (.var 3) (.var 3)) (.bin .fdiv (.var 3) (.cst (.int 31)))) (.cst (.int 2147483629))) (.var 2))]
/-- _law_deed(_law_script, _law_at, _law_names) slots 0:_law_script 1:_law_at 2:_law_names 3:_law_name 4:_law_way 5:_law_box 6:_law_start 7:_law_some 8:_law_words -/
def b9 : List Sm := [.set 3 (.tup [(.cst (.int 2)), (.cst (.int 1))]),
    .ife (.cmp .ne (.var 2) (.lst false [])) [.set 3 (.idx (.var 2) (.call 8 [(.var 0), (.var 1), (.blt .len [(.var 2)])]))] [],
    .set 4 (.call 8 [(.var 0), (.bin .add (.var 1) (.cst (.int 1))), (.cst (.int 25))]),
    .ife (.or (.cmp .lt (.blt .len [(.var 2)]) (.cst (.int 3))) (.cmp .lt (.var 4) (.cst (.int 5)))) [.set 5 (.tup [(.call 8 [(.var 0), (.bin .add (.var 1) (.cst (.int 2))), (.cst (.int 12))]), (.call 8 [(.var 0), (.bin .add (.var 1) (.cst (.int 3))), (.cst (.int 12))])]),
    .ret (.tup [(.cst (.str "draw")), (.bin .add (.var 5) (.tup [(.bin .add (.cst (.int 1)) (.call 8 [(.var 0), (.bin .add (.var 1) (.cst (.int 4))), (.cst (.int 6))])), (.bin .add (.cst (.int 1)) (.call 8 [(.var 0), (.bin .add (.var 1) (.cst (.int 5))), (.cst (.int 6))]))]))])] [],
    .ife (.cmp .lt (.var 4) (.cst (.int 9))) [.set 6 (.call 8 [(.var 0), (.bin .add (.var 1) (.cst (.int 2))), (.bin .sub (.blt .len [(.var 2)]) (.cst (.int 1)))]),
    .set 7 (.slc false (.var 2) (.var 6) (.bin .add (.bin .add (.var 6) (.cst (.int 2))) (.call 8 [(.var 0), (.bin .add (.var 1) (.cst (.int 3))), (.cst (.int 2))])) (.cst .non)),
    .ret (.tup [(.cst (.str "group")), (.blt .tuple [(.slc false (.var 7) (.cst .non) (.cst .non) (.bin .sub (.cst (.int 1)) (.bin .mul (.cst (.int 2)) (.call 8 [(.var 0), (.bin .add (.var 1) (.cst (.int 4))), (.cst (.int 2))]))))])])] [],
    .ife (.cmp .lt (.var 4) (.cst (.int 11))) [.ret (.tup [(.cst (.str "move")), (.var 3), (.bin .sub (.call 8 [(.var 0), (.bin .add (.var 1) (.cst (.int 2))), (.cst (.int 9))]) (.cst (.int 4))), (.bin .sub (.call 8 [(.var 0), (.bin .add (.var 1) (.cst (.int 3))), (.cst (.int 9))]) (.cst (.int 4)))])] [],
    .ife (.cmp .eq (.var 4) (.cst (.int 11))) [.ret (.tup [(.cst (.str "size")), (.var 3), (.bin .add (.cst (.int 1)) (.call 8 [(.var 0), (.bin .add (.var 1) (.cst (.int 2))), (.cst (.int 8))])), (.bin .add (.cst (.int 1)) (.call 8 [(.var 0), (.bin .add (.var 1) (.cst (.int 3))), (.cst (.int 8))]))])] [],
    .ife (.cmp .eq (.var 4) (.cst (.int 12))) [.ret (.tup [(.cst (.str "colour")), (.var 3), (.call 8 [(.var 0), (.bin .add (.var 1) (.cst (.int 2))), (.cst (.int 8))])])] [],
    .set 8 (.lst false [(.cst (.str "raise")), (.cst (.str "lower")), (.cst (.str "ungroup")), (.cst (.str "erase")), (.cst (.str "lock")), (.cst (.str "unlock")), (.cst (.str "undo")), (.cst (.str "lock")), (.cst (.str "lock")), (.cst (.str "erase")), (.cst (.str "erase")), (.cst (.str "erase"))]),
    .ret (.tup [(.idx (.var 8) (.bin .sub (.var 4) (.cst (.int 13)))), (.var 3)])]
/-- _law_story(_law_script, _law_at, _law_many) slots 0:_law_script 1:_law_at 2:_law_many 3:_law_made 4:_law_last 5:_law_numbers 6:_law_k 7:_law_hand 8:_law_words 9:_law_names 10:_law_letter 11:_law_deed_here -/
def b10 : List Sm := [.set 3 (.lst true []),
    .set 4 (.lst true [(.cst (.int 0)), (.cst (.int 0)), (.cst (.int 0))]),
    .set 5 (.lst true [(.cst (.int 0)), (.cst (.int 0)), (.cst (.int 0))]),
    .for_ (.nm 6) .rng [(.call 8 [(.var 0), (.var 1), (.bin .add (.var 2) (.cst (.int 1)))])] [.set 7 (.call 8 [(.var 0), (.bin .add (.bin .add (.var 1) (.cst (.int 1))) (.bin .mul (.cst (.int 10)) (.var 6))), (.cst (.int 3))]),
    .set 8 (.ite (.cmp .gt (.call 8 [(.var 0), (.bin .add (.bin .add (.var 1) (.cst (.int 9))) (.bin .mul (.cst (.int 10)) (.var 6))), (.cst (.int 5))]) (.cst (.int 0))) (.tup [(.cst (.str "draw")), (.cst (.str "group"))]) (.tup [(.cst (.str "draw")), (.cst (.str "group")), (.cst (.str "undo")), (.cst (.str "move"))])),
    .set 9 (.lc false [10] (.nm 10) .seq [(.var 3)] [(.cmp .isin (.idx (.idx (.var 10) (.cst (.int 2))) (.cst (.int 0))) (.var 8))] (.idx (.var 10) (.cst (.int 0)))),
    .setI (.var 4) (.var 7) (.blt .max [(.bin .add (.idx (.var 4) (.var 7)) (.cst (.int 1))), (.bin .add (.cst (.int 1)) (.bin .fdiv (.var 6) (.cst (.int 2))))]),
    .set 11 (.call 9 [(.var 0), (.bin .add (.bin .add (.var 1) (.cst (.int 2))) (.bin .mul (.cst (.int 10)) (.var 6))), (.var 9)]),
    .drop (.bm .append (.var 3) [(.tup [(.tup [(.idx (.var 4) (.var 7)), (.var 7)]), (.idx (.var 5) (.var 7)), (.var 11)])]),
    .setI (.var 5) (.var 7) (.bin .add (.idx (.var 5) (.var 7)) (.cst (.int 1)))],
    .ret (.var 3)]
/-- _law_bad(_law_cell_here) slots 0:_law_cell_here 1:_law_one 2:_law_some -/
def b11 : List Sm := [.set 1 (.tup [(.cst (.int 1)), (.cst (.int 0))]),
    .set 2 (.lst true [(.tup [(.cst (.str "draw"))]), (.tup [(.cst (.str "draw")), (.tup [(.cst (.int 0)), (.cst (.int 0)), (.cst (.int 1))])]), (.tup [(.cst (.str "draw")), (.tup [(.cst (.int 0)), (.cst (.int 0)), (.cst (.int 0)), (.cst (.int 1))])]), (.tup [(.cst (.str "draw")), (.tup [(.cst (.int 21)), (.cst (.int 0)), (.cst (.int 1)), (.cst (.int 1))])]), (.tup [(.cst (.str "draw")), (.tup [(.cst (.int 0)), (.cst (.int 0)), (.cst (.int 9)), (.cst (.int 1))])])]),
    .drop (.bm .extend (.var 2) [(.lst false [(.tup [(.cst (.str "draw")), (.lst false [(.cst (.int 0)), (.cst (.int 0)), (.cst (.int 1)), (.cst (.int 1))])]), (.tup [(.cst (.str "draw")), (.tup [(.cst (.bl true)), (.cst (.int 0)), (.cst (.int 1)), (.cst (.int 1))])]), (.tup [(.cst (.str "move")), (.var 1), (.cst (.int 1))]), (.tup [(.cst (.str "move")), (.var 1), (.cst (.int 21)), (.cst (.int 0))])])]),
    .drop (.bm .append (.var 2) [(.tup [(.cst (.str "move")), (.var 1), (.cst (.int 0)), (.cst .non)])]),
    .drop (.bm .extend (.var 2) [(.lst false [(.tup [(.cst (.str "size")), (.var 1), (.cst (.int 0)), (.cst (.int 1))]), (.tup [(.cst (.str "size")), (.var 1), (.cst (.int 1)), (.cst (.int 9))]), (.tup [(.cst (.str "colour")), (.var 1), (.cst (.int 8))]), (.tup [(.cst (.str "colour")), (.var 1), (.neg (.cst (.int 1)))]), (.tup [(.cst (.str "colour")), (.var 1)])])]),
    .drop (.bm .extend (.var 2) [(.lst false [(.tup [(.cst (.str "raise"))]), (.tup [(.cst (.str "raise")), (.var 1), (.cst (.int 1))]), (.tup [(.cst (.str "raise")), (.tup [(.cst (.int 0)), (.cst (.int 0))])]), (.tup [(.cst (.str "raise")), (.tup [(.cst (.int 1)), (.cst (.int 3))])]), (.tup [(.cst (.str "raise")), (.lst false [(.cst (.int 1)), (.cst (.int 0))])])])]),
    .drop (.bm .append (.var 2) [(.tup [(.cst (.str "raise")), (.tup [(.cst (.int 1)), (.cst (.bl true))])])]),
    .drop (.bm .extend (.var 2) [(.lst false [(.tup [(.cst (.str "group")), (.tup [(.var 1)])]), (.tup [(.cst (.str "group")), (.tup [(.var 1), (.var 1)])]), (.tup [(.cst (.str "group")), (.lst false [(.var 1), (.tup [(.cst (.int 2)), (.cst (.int 0))])])]), (.tup [(.cst (.str "turn")), (.var 1)])])]),
    .drop (.bm .append (.var 2) [(.tup [(.cst (.str "group")), (.tup [(.var 1), (.tup [(.cst (.int 2)), (.cst (.int 0))]), (.cst .non)])])]),
    .drop (.bm .extend (.var 2) [(.lst false [(.cst .non), (.tup []), (.cst (.str "raise")), (.lst false [(.cst (.str "raise")), (.var 1)]), (.tup [(.cst (.int 5)), (.var 1)]), (.tup [(.cst (.str "lock")), (.cst .non)]), (.tup [(.cst (.str "undo")), (.tup [(.cst (.int 1)), (.cst (.int 0)), (.cst (.int 0))])])])]),
    .drop (.bm .append (.var 2) [(.tup [(.cst (.str "erase")), (.tup [(.bin .add (.bin .pow (.cst (.int 10)) (.cst (.int 6))) (.cst (.int 1))), (.cst (.int 0))])])]),
    .ret (.idx (.var 2) (.bin .mod (.var 0) (.blt .len [(.var 2)])))]
/-- law(_law_script) slots 0:_law_script 1:_law_letters 2:_law_letter 3:_law_one 4:_law_word 5:_law_bad_here 6:_law_good 7:_law_some 8:_law_many 9:_law_k 10:_law_boxes -/
def b12 : List Sm := [.set 1 (.call 10 [(.var 0), (.cst (.int 0)), (.cst (.int 8))]),
    .for_ (.nm 2) .seq [(.var 1)] [.ife (.or (.cmp .isnot (.call 5 [(.idx (.var 2) (.cst (.int 2)))]) (.cst (.bl true))) (.cmp .isnot (.call 6 [(.var 2)]) (.cst (.bl true)))) [.ret (.cst (.bl false))] []],
    .set 3 (.tup [(.cst (.int 1)), (.cst (.int 0))]),
    .for_ (.nm 4) .seq [(.tup [(.cst (.str "raise")), (.cst (.str "lower")), (.cst (.str "ungroup")), (.cst (.str "erase")), (.cst (.str "lock")), (.cst (.str "unlock")), (.cst (.str "undo"))])] [.ife (.cmp .isnot (.call 5 [(.tup [(.var 4), (.var 3)])]) (.cst (.bl true))) [.ret (.cst (.bl false))] []],
    .set 5 (.call 11 [(.call 8 [(.var 0), (.cst (.int 200)), (.bin .pow (.cst (.int 10)) (.cst (.int 6)))])]),
    .ife (.or (.cmp .isnot (.call 5 [(.var 5)]) (.cst (.bl false))) (.cmp .isnot (.call 6 [(.tup [(.var 3), (.cst (.int 0)), (.var 5)])]) (.cst (.bl false)))) [.ret (.cst (.bl false))] [],
    .set 6 (.tup [(.cst (.str "raise")), (.var 3)]),
    .set 7 (.lst false [(.tup [(.var 3), (.cst (.int 0))]), (.tup [(.var 3), (.neg (.cst (.int 1))), (.var 6)]), (.tup [(.var 3), (.cst (.bl true)), (.var 6)]), (.tup [(.tup [(.cst (.int 0)), (.cst (.int 0))]), (.cst (.int 0)), (.var 6)]), (.lst false [(.var 3), (.cst (.int 0)), (.var 6)]), (.cst .non), (.tup [(.var 3), (.cst (.int 0)), (.var 6), (.cst (.int 0))])]),
    .ife (.cmp .isnot (.call 6 [(.idx (.var 7) (.call 8 [(.var 0), (.cst (.int 201)), (.cst (.int 7))]))]) (.cst (.bl false))) [.ret (.cst (.bl false))] [],
    .ife (.cmp .ne (.lc false [7] (.nm 7) .seq [(.tup [(.tup [(.tup [(.cst (.int 1)), (.cst (.int 0))]), (.tup [(.cst (.int 0)), (.cst (.int 0))])]), (.tup [(.tup [(.cst (.int 1)), (.cst (.int 0))]), (.cst .non)]), (.tup [(.tup [(.cst (.int 1)), (.cst (.int 0))]), (.tup [(.cst (.int 2)), (.cst (.int 3))])])])] [] (.call 5 [(.tup [(.cst (.str "group")), (.var 7)])])) (.bin .mul (.lst false [(.cst (.bl false))]) (.cst (.int 3)))) [.ret (.cst (.bl false))] [],
    .set 8 (.bin .add (.cst (.int 3)) (.call 8 [(.var 0), (.cst (.int 202)), (.cst (.int 2))])),
    .ife (.cmp .ne (.call 5 [(.tup [(.cst (.str "group")), (.blt .tuple [(.lc false [9] (.nm 9) .rng [(.var 8)] [] (.tup [(.bin .add (.var 9) (.cst (.int 1))), (.cst (.int 0))]))])])]) (.cmp .lt (.var 8) (.cst (.int 4)))) [.ret (.cst (.bl false))] [],
    .set 10 (.lst false [(.tup [(.cst (.int 0)), (.cst (.int 0)), (.cst (.int 1))]), (.tup [(.cst (.int 0)), (.cst (.int 0)), (.cst (.int 1)), (.cst (.int 0))]), (.cst .non), (.lst false [(.cst (.int 0)), (.cst (.int 0)), (.cst (.int 1)), (.cst (.int 1))]), (.tup [(.cst (.int 0)), (.cst (.int 0)), (.cst (.int 1)), (.cst (.bl true))]), (.tup [(.neg (.cst (.int 21))), (.cst (.int 0)), (.cst (.int 1)), (.cst (.int 1))])]),
    .ret (.and (.cmp .is (.call 2 [(.tup [(.neg (.cst (.int 20))), (.cst (.int 20)), (.cst (.int 8)), (.cst (.int 1))])]) (.cst (.bl true))) (.cmp .is (.call 2 [(.idx (.var 10) (.call 8 [(.var 0), (.cst (.int 203)), (.cst (.int 6))]))]) (.cst (.bl false))))]
/-- Slate.__init__(self, top, things, locks) slots 0:self 1:top 2:things 3:locks -/
def b13 : List Sm := [.setF (.var 0) "top" (.blt (.list true) [(.var 1)]),
    .setF (.var 0) "things" (.blt (.dict true) [(.var 2)]),
    .setF (.var 0) "locks" (.blt (.dict true) [(.var 3)])]
/-- Slate.has(self, name) slots 0:self 1:name -/
def b14 : List Sm := [.ret (.cmp .isin (.var 1) (.fld (.var 0) "things"))]
/-- Slate.is_group(self, name) slots 0:self 1:name -/
def b15 : List Sm := [.ret (.cmp .eq (.idx (.idx (.fld (.var 0) "things") (.var 1)) (.cst (.int 0))) (.cst (.str "group")))]
/-- Slate.members(self, name) slots 0:self 1:name -/
def b16 : List Sm := [.ret (.ite (.meth "is_group" (.var 0) [(.var 1)]) (.blt (.list false) [(.idx (.idx (.fld (.var 0) "things") (.var 1)) (.cst (.int 1)))]) (.lst false []))]
/-- Slate.around(self, name) slots 0:self 1:name 2:one -/
def b17 : List Sm := [.for_ (.nm 2) .seq [(.fld (.var 0) "things")] [.ife (.cmp .isin (.var 1) (.meth "members" (.var 0) [(.var 2)])) [.ret (.var 2)] []],
    .ret (.cst .non)]
/-- Slate.path(self, name) slots 0:self 1:name 2:made -/
def b18 : List Sm := [.set 2 (.lst true [(.var 1)]),
    .whl 100000 (.cmp .isnot (.meth "around" (.var 0) [(.idx (.var 2) (.neg (.cst (.int 1))))]) (.cst .non)) [.drop (.bm .append (.var 2) [(.meth "around" (.var 0) [(.idx (.var 2) (.neg (.cst (.int 1))))])])],
    .ret (.var 2)]
/-- Slate.shapes(self, name) slots 0:self 1:name 2:made 3:one -/
def b19 : List Sm := [.ife (.not (.meth "is_group" (.var 0) [(.var 1)])) [.ret (.lst false [(.var 1)])] [],
    .set 2 (.lst true []),
    .for_ (.nm 3) .seq [(.meth "members" (.var 0) [(.var 1)])] [.drop (.bm .extend (.var 2) [(.meth "shapes" (.var 0) [(.var 3)])])],
    .ret (.var 2)]
/-- Slate.all_in(self, name) slots 0:self 1:name 2:made 3:one -/
def b20 : List Sm := [.set 2 (.lst true [(.var 1)]),
    .for_ (.nm 3) .seq [(.meth "members" (.var 0) [(.var 1)])] [.drop (.bm .extend (.var 2) [(.meth "all_in" (.var 0) [(.var 3)])])],
    .ret (.var 2)]
/-- Slate.row(self) slots 0:self 1:made 2:name 3:one -/
def b21 : List Sm := [.set 1 (.lst true []),
    .for_ (.nm 2) .seq [(.fld (.var 0) "top")] [.drop (.bm .extend (.var 1) [(.lc false [3] (.nm 3) .seq [(.meth "shapes" (.var 0) [(.var 2)])] [] (.bin .add (.tup [(.var 3)]) (.slc false (.idx (.fld (.var 0) "things") (.var 3)) (.cst (.int 1)) (.cst .non) (.cst .non))))])],
    .ret (.var 1)]
/-- Slate.told(self) slots 0:self 1:things 2:name 3:locks -/
def b22 : List Sm := [.set 1 (.blt .tuple [(.lc false [2] (.nm 2) .seq [(.blt .sorted [(.blt (.list false) [(.fld (.var 0) "things")])])] [] (.tup [(.var 2), (.idx (.fld (.var 0) "things") (.var 2))]))]),
    .set 3 (.blt .tuple [(.lc false [2] (.nm 2) .seq [(.blt .sorted [(.blt (.list false) [(.fld (.var 0) "locks")])])] [] (.tup [(.var 2), (.idx (.fld (.var 0) "locks") (.var 2))]))]),
    .ret (.tup [(.blt .tuple [(.fld (.var 0) "top")]), (.var 1), (.var 3)])]
/-- blank() slots  -/
def b23 : List Sm := [.ret (.make 0 [(.lst false []), (.dnew true), (.dnew true)])]
/-- may_do(slate, hand, name) slots 0:slate 1:hand 2:name 3:some 4:one -/
def b24 : List Sm := [.ife (.not (.meth "has" (.var 0) [(.var 2)])) [.ret (.cst (.bl false))] [],
    .set 3 (.bin .add (.meth "path" (.var 0) [(.var 2)]) (.meth "all_in" (.var 0) [(.var 2)])),
    .ret (.blt .all [(.lc false [4] (.nm 4) .seq [(.var 3)] [] (.cmp .eq (.bm .get (.fld (.var 0) "locks") [(.var 4), (.var 1)]) (.var 1)))])]
/-- in_its_row(slate, name) slots 0:slate 1:name 2:group -/
def b25 : List Sm := [.set 2 (.meth "around" (.var 0) [(.var 1)]),
    .ret (.ite (.cmp .is (.var 2) (.cst .non)) (.blt (.list false) [(.fld (.var 0) "top")]) (.meth "members" (.var 0) [(.var 2)]))]
/-- with_row(slate, name, row) slots 0:slate 1:name 2:row 3:group -/
def b26 : List Sm := [.set 3 (.meth "around" (.var 0) [(.var 1)]),
    .ife (.cmp .is (.var 3) (.cst .non)) [.setF (.var 0) "top" (.blt (.list false) [(.var 2)])] [.setI (.fld (.var 0) "things") (.var 3) (.tup [(.cst (.str "group")), (.blt .tuple [(.var 2)])])]]
/-- moved(slate, name, by) slots 0:slate 1:name 2:by 3:one 4:word 5:box 6:colour -/
def b27 : List Sm := [.for_ (.nm 3) .seq [(.meth "shapes" (.var 0) [(.var 1)])] [.setT [(.nm 4), (.nm 5), (.nm 6)] (.idx (.fld (.var 0) "things") (.var 3)),
    .setI (.fld (.var 0) "things") (.var 3) (.tup [(.var 4), (.bin .add (.tup [(.bin .add (.idx (.var 5) (.cst (.int 0))) (.idx (.var 2) (.cst (.int 0)))), (.bin .add (.idx (.var 5) (.cst (.int 1))) (.idx (.var 2) (.cst (.int 1))))]) (.slc false (.var 5) (.cst (.int 2)) (.cst .non) (.cst .non))), (.var 6)])]]
/-- erased(slate, name) slots 0:slate 1:name 2:group 3:row 4:one -/
def b28 : List Sm := [.set 2 (.meth "around" (.var 0) [(.var 1)]),
    .set 3 (.lc false [4] (.nm 4) .seq [(.call 25 [(.var 0), (.var 1)])] [(.cmp .ne (.var 4) (.var 1))] (.var 4)),
    .drop (.call 26 [(.var 0), (.var 1), (.var 3)]),
    .for_ (.nm 4) .seq [(.meth "all_in" (.var 0) [(.var 1)])] [.drop (.bm .pop (.fld (.var 0) "things") [(.var 4)]),
    .drop (.bm .pop (.fld (.var 0) "locks") [(.var 4), (.cst .non)])],
    .ife (.and (.cmp .isnot (.var 2) (.cst .non)) (.cmp .eq (.var 3) (.lst false []))) [.drop (.call 28 [(.var 0), (.var 2)])] []]
/-- grouped(slate, stamp, names) slots 0:slate 1:stamp 2:names 3:row 4:made 5:one 6:rest -/
def b29 : List Sm := [.set 3 (.call 25 [(.var 0), (.idx (.var 2) (.cst (.int 0)))]),
    .set 4 (.lc false [5] (.nm 5) .seq [(.var 3)] [(.cmp .isin (.var 5) (.var 2))] (.var 5)),
    .set 6 (.lst true []),
    .for_ (.nm 5) .seq [(.var 3)] [.ife (.cmp .eq (.var 5) (.idx (.var 4) (.neg (.cst (.int 1))))) [.drop (.bm .append (.var 6) [(.var 1)])] [.ife (.cmp .notin (.var 5) (.var 4)) [.drop (.bm .append (.var 6) [(.var 5)])] []]],
    .drop (.call 26 [(.var 0), (.idx (.var 2) (.cst (.int 0))), (.var 6)]),
    .setI (.fld (.var 0) "things") (.var 1) (.tup [(.cst (.str "group")), (.blt .tuple [(.var 4)])])]
/-- ungrouped(slate, name) slots 0:slate 1:name 2:row 3:at -/
def b30 : List Sm := [.set 2 (.call 25 [(.var 0), (.var 1)]),
    .set 3 (.bm .index (.var 2) [(.var 1)]),
    .drop (.call 26 [(.var 0), (.var 1), (.bin .add (.bin .add (.slc false (.var 2) (.cst .non) (.var 3) (.cst .non)) (.meth "members" (.var 0) [(.var 1)])) (.slc false (.var 2) (.bin .add (.var 3) (.cst (.int 1))) (.cst .non) (.cst .non)))]),
    .drop (.bm .pop (.fld (.var 0) "things") [(.var 1)]),
    .drop (.bm .pop (.fld (.var 0) "locks") [(.var 1), (.cst .non)])]
/-- is_due(slate, stamp, deed) slots 0:slate 1:stamp 2:deed 3:word 4:hand 5:name -/
def b31 : List Sm := [.set 3 (.idx (.var 2) (.cst (.int 0))),
    .set 4 (.idx (.var 1) (.cst (.int 1))),
    .ife (.cmp .eq (.var 3) (.cst (.str "draw"))) [.ret (.cst (.bl true))] [],
    .ife (.cmp .eq (.var 3) (.cst (.str "group"))) [.ife (.not (.blt .all [(.lc false [5] (.nm 5) .seq [(.idx (.var 2) (.cst (.int 1)))] [] (.call 24 [(.var 0), (.var 4), (.var 5)]))])) [.ret (.cst (.bl false))] [],
    .ret (.cmp .eq (.blt .lenset [(.lc false [5] (.nm 5) .seq [(.idx (.var 2) (.cst (.int 1)))] [] (.meth "around" (.var 0) [(.var 5)]))]) (.cst (.int 1)))] [],
    .ife (.or (.cmp .eq (.var 3) (.cst (.str "undo"))) (.not (.call 24 [(.var 0), (.var 4), (.idx (.var 2) (.cst (.int 1)))]))) [.ret (.cst (.bl false))] [],
    .ife (.cmp .isin (.var 3) (.tup [(.cst (.str "size")), (.cst (.str "colour"))])) [.ret (.not (.meth "is_group" (.var 0) [(.idx (.var 2) (.cst (.int 1)))]))] [],
    .ife (.cmp .eq (.var 3) (.cst (.str "unlock"))) [.ret (.cmp .isin (.idx (.var 2) (.cst (.int 1))) (.fld (.var 0) "locks"))] [],
    .ret (.or (.cmp .ne (.var 3) (.cst (.str "ungroup"))) (.meth "is_group" (.var 0) [(.idx (.var 2) (.cst (.int 1)))]))]
/-- behind(slate, stamp, deed) slots 0:slate 1:stamp 2:deed 3:made 4:word 5:name 6:one -/
def b32 : List Sm := [.set 3 (.make 0 [(.fld (.var 0) "top"), (.fld (.var 0) "things"), (.fld (.var 0) "locks")]),
    .ife (.not (.call 31 [(.var 3), (.var 1), (.var 2)])) [.ret (.var 3)] [],
    .set 4 (.idx (.var 2) (.cst (.int 0))),
    .set 5 (.idx (.var 2) (.cst (.int 1))),
    .ife (.cmp .eq (.var 4) (.cst (.str "draw"))) [.setI (.fld (.var 3) "things") (.var 1) (.tup [(.cst (.str "shape")), (.idx (.var 2) (.cst (.int 1))), (.cst (.int 0))]),
    .drop (.bm .append (.fld (.var 3) "top") [(.var 1)])] [.ife (.cmp .eq (.var 4) (.cst (.str "group"))) [.drop (.call 29 [(.var 3), (.var 1), (.idx (.var 2) (.cst (.int 1)))])] [.ife (.cmp .eq (.var 4) (.cst (.str "move"))) [.drop (.call 27 [(.var 3), (.var 5), (.slc false (.var 2) (.cst (.int 2)) (.cst .non) (.cst .non))])] [.ife (.cmp .eq (.var 4) (.cst (.str "size"))) [.setI (.fld (.var 3) "things") (.var 5) (.tup [(.cst (.str "shape")), (.bin .add (.slc false (.idx (.idx (.fld (.var 3) "things") (.var 5)) (.cst (.int 1))) (.cst .non) (.cst (.int 2)) (.cst .non)) (.slc false (.var 2) (.cst (.int 2)) (.cst .non) (.cst .non))), (.idx (.idx (.fld (.var 3) "things") (.var 5)) (.cst (.int 2)))])] [.ife (.cmp .eq (.var 4) (.cst (.str "colour"))) [.setI (.fld (.var 3) "things") (.var 5) (.tup [(.cst (.str "shape")), (.idx (.idx (.fld (.var 3) "things") (.var 5)) (.cst (.int 1))), (.idx (.var 2) (.cst (.int 2)))])] [.ife (.cmp .eq (.var 4) (.cst (.str "raise"))) [.drop (.call 26 [(.var 3), (.var 5), (.bin .add (.lc false [6] (.nm 6) .seq [(.call 25 [(.var 3), (.var 5)])] [(.cmp .ne (.var 6) (.var 5))] (.var 6)) (.lst false [(.var 5)]))])] [.ife (.cmp .eq (.var 4) (.cst (.str "lower"))) [.drop (.call 26 [(.var 3), (.var 5), (.bin .add (.lst false [(.var 5)]) (.lc false [6] (.nm 6) .seq [(.call 25 [(.var 3), (.var 5)])] [(.cmp .ne (.var 6) (.var 5))] (.var 6)))])] [.ife (.cmp .eq (.var 4) (.cst (.str "ungroup"))) [.drop (.call 30 [(.var 3), (.var 5)])] [.ife (.cmp .eq (.var 4) (.cst (.str "erase"))) [.drop (.call 28 [(.var 3), (.var 5)])] [.ife (.cmp .eq (.var 4) (.cst (.str "lock"))) [.setI (.fld (.var 3) "locks") (.var 5) (.idx (.var 1) (.cst (.int 1)))] [.drop (.bm .pop (.fld (.var 3) "locks") [(.var 5)])]]]]]]]]]],
    .ret (.var 3)]
/-- in_order(letters) slots 0:letters -/
def b33 : List Sm := [.ret (.srt 34 (.var 0))]
/-- stamp_of(letter) slots 0:letter -/
def b34 : List Sm := [.ret (.idx (.var 0) (.cst (.int 0)))]
/-- counting(letters) slots 0:letters 1:gone 2:made 3:stamp 4:number 5:deed -/
def b35 : List Sm := [.set 1 (.dnew true),
    .set 2 (.lst true []),
    .for_ (.tp [(.nm 3), (.nm 4), (.nm 5)]) .seq [(.slc false (.call 33 [(.var 0)]) (.cst .non) (.cst .non) (.neg (.cst (.int 1))))] [.ife (.cmp .notin (.var 3) (.var 1)) [.drop (.bm .append (.var 2) [(.tup [(.var 3), (.var 4), (.var 5)])]),
    .ife (.and (.cmp .eq (.idx (.var 5) (.cst (.int 0))) (.cst (.str "undo"))) (.and (.cmp .eq (.idx (.idx (.var 5) (.cst (.int 1))) (.cst (.int 1))) (.idx (.var 3) (.cst (.int 1)))) (.cmp .lt (.idx (.var 5) (.cst (.int 1))) (.var 3)))) [.setI (.var 1) (.idx (.var 5) (.cst (.int 1))) (.cst (.bl true))] []] []],
    .ret (.slc false (.var 2) (.cst .non) (.cst .non) (.neg (.cst (.int 1))))]
/-- slate_of(letters) slots 0:letters 1:slate 2:stamp 3:number 4:deed -/
def b36 : List Sm := [.set 1 (.call 23 []),
    .for_ (.tp [(.nm 2), (.nm 3), (.nm 4)]) .seq [(.call 35 [(.var 0)])] [.set 1 (.call 32 [(.var 1), (.var 2), (.var 4)])],
    .ret (.var 1)]
/-- due_ones(letters) slots 0:letters 1:slate 2:made 3:stamp 4:number 5:deed 6:later -/
def b37 : List Sm := [.set 1 (.call 23 []),
    .set 2 (.lst true []),
    .for_ (.tp [(.nm 3), (.nm 4), (.nm 5)]) .seq [(.call 35 [(.var 0)])] [.set 6 (.call 32 [(.var 1), (.var 3), (.var 5)]),
    .ife (.cmp .ne (.meth "told" (.var 6) []) (.meth "told" (.var 1) [])) [.drop (.bm .append (.var 2) [(.var 3)])] [],
    .set 1 (.var 6)],
    .ret (.var 2)]
/-- _law_find(_law_row, _law_name, _law_around) slots 0:_law_row 1:_law_name 2:_law_around 3:_law_node 4:_law_found -/
def b38 : List Sm := [.for_ (.nm 3) .seq [(.var 0)] [.ife (.cmp .eq (.idx (.var 3) (.cst (.int 1))) (.var 1)) [.ret (.tup [(.var 0), (.var 3), (.var 2)])] [],
    .set 4 (.ite (.cmp .eq (.idx (.var 3) (.cst (.int 0))) (.cst (.str "group"))) (.call 38 [(.idx (.var 3) (.cst (.int 2))), (.var 1), (.bin .add (.var 2) (.lst false [(.var 3)]))]) (.cst .non)),
    .ife (.cmp .isnot (.var 4) (.cst .non)) [.ret (.var 4)] []],
    .ret (.cst .non)]
/-- _law_nodes(_law_node) slots 0:_law_node 1:_law_made 2:_law_one -/
def b39 : List Sm := [.set 1 (.lst true [(.var 0)]),
    .for_ (.nm 2) .seq [(.ite (.cmp .eq (.idx (.var 0) (.cst (.int 0))) (.cst (.str "group"))) (.idx (.var 0) (.cst (.int 2))) (.lst false []))] [.drop (.bm .extend (.var 1) [(.call 39 [(.var 2)])])],
    .ret (.var 1)]
/-- _law_grouped(_law_top, _law_stamp, _law_hand, _law_names) slots 0:_law_top 1:_law_stamp 2:_law_hand 3:_law_names 4:_law_found 5:_law_name 6:_law_one 7:_law_row 8:_law_node 9:_law_made -/
def b40 : List Sm := [.set 4 (.lc false [5] (.nm 5) .seq [(.var 3)] [] (.call 38 [(.var 0), (.var 5), (.lst false [])])),
    .ife (.or (.cmp .isin (.cst .non) (.var 4)) (.not (.blt .all [(.lc false [6] (.nm 6) .seq [(.var 4)] [] (.call 41 [(.var 2), (.var 6)]))]))) [.retN] [],
    .set 7 (.idx (.idx (.var 4) (.cst (.int 0))) (.cst (.int 0))),
    .ife (.cmp .ne (.lc false [6] (.nm 6) .seq [(.var 4)] [(.cmp .ne (.lc false [8] (.nm 8) .seq [(.idx (.var 6) (.cst (.int 0)))] [] (.idx (.var 8) (.cst (.int 1)))) (.lc false [8] (.nm 8) .seq [(.var 7)] [] (.idx (.var 8) (.cst (.int 1)))))] (.var 6)) (.lst false [])) [.retN] [],
    .set 9 (.lc false [8] (.nm 8) .seq [(.var 7)] [(.cmp .isin (.idx (.var 8) (.cst (.int 1))) (.var 3))] (.var 8)),
    .setI (.var 7) (.bm .index (.var 7) [(.idx (.var 9) (.neg (.cst (.int 1))))]) (.lst false [(.cst (.str "group")), (.var 1), (.var 9), (.cst (.int 0)), (.cst .non)]),
    .for_ (.nm 8) .seq [(.slc false (.var 9) (.cst .non) (.neg (.cst (.int 1))) (.cst .non))] [.drop (.bm .remove (.var 7) [(.var 8)])]]
/-- _law_is_free(_law_hand, _law_found) slots 0:_law_hand 1:_law_found 2:_law_node -/
def b41 : List Sm := [.ret (.cmp .eq (.lc false [2] (.nm 2) .seq [(.bin .add (.idx (.var 1) (.cst (.int 2))) (.call 39 [(.idx (.var 1) (.cst (.int 1)))]))] [(.cmp .notin (.idx (.var 2) (.cst (.int 4))) (.tup [(.cst .non), (.var 0)]))] (.var 2)) (.lst false []))]
/-- _law_act(_law_top, _law_stamp, _law_deed_here) slots 0:_law_top 1:_law_stamp 2:_law_deed_here 3:_law_word 4:_law_found 5:_law_row 6:_law_node 7:_law_around 8:_law_one -/
def b42 : List Sm := [.set 3 (.idx (.var 2) (.cst (.int 0))),
    .ife (.cmp .eq (.var 3) (.cst (.str "draw"))) [.drop (.bm .append (.var 0) [(.lst false [(.cst (.str "shape")), (.var 1), (.blt (.list false) [(.idx (.var 2) (.cst (.int 1)))]), (.cst (.int 0)), (.cst .non)])])] [.ife (.cmp .eq (.var 3) (.cst (.str "group"))) [.drop (.call 40 [(.var 0), (.var 1), (.idx (.var 1) (.cst (.int 1))), (.idx (.var 2) (.cst (.int 1)))])] []],
    .set 4 (.ite (.cmp .notin (.var 3) (.tup [(.cst (.str "draw")), (.cst (.str "group")), (.cst (.str "undo"))])) (.call 38 [(.var 0), (.idx (.var 2) (.cst (.int 1))), (.lst false [])]) (.cst .non)),
    .ife (.or (.cmp .is (.var 4) (.cst .non)) (.not (.call 41 [(.idx (.var 1) (.cst (.int 1))), (.var 4)]))) [.retN] [],
    .setT [(.nm 5), (.nm 6), (.nm 7)] (.var 4),
    .ife (.cmp .eq (.var 3) (.cst (.str "move"))) [.for_ (.nm 8) .seq [(.call 39 [(.var 6)])] [.ife (.cmp .eq (.idx (.var 8) (.cst (.int 0))) (.cst (.str "shape"))) [.setI (.var 8) (.cst (.int 2)) (.bin .add (.lst false [(.bin .add (.idx (.idx (.var 8) (.cst (.int 2))) (.cst (.int 0))) (.idx (.var 2) (.cst (.int 2)))), (.bin .add (.idx (.idx (.var 8) (.cst (.int 2))) (.cst (.int 1))) (.idx (.var 2) (.cst (.int 3))))]) (.slc false (.idx (.var 8) (.cst (.int 2))) (.cst (.int 2)) (.cst .non) (.cst .non)))] []]] [.ife (.and (.cmp .eq (.var 3) (.cst (.str "size"))) (.cmp .eq (.idx (.var 6) (.cst (.int 0))) (.cst (.str "shape")))) [.setI (.var 6) (.cst (.int 2)) (.bin .add (.slc false (.idx (.var 6) (.cst (.int 2))) (.cst .non) (.cst (.int 2)) (.cst .non)) (.blt (.list false) [(.slc false (.var 2) (.cst (.int 2)) (.cst .non) (.cst .non))]))] [.ife (.and (.cmp .eq (.var 3) (.cst (.str "colour"))) (.cmp .eq (.idx (.var 6) (.cst (.int 0))) (.cst (.str "shape")))) [.setI (.var 6) (.cst (.int 3)) (.idx (.var 2) (.cst (.int 2)))] [.ife (.cmp .isin (.var 3) (.tup [(.cst (.str "lock")), (.cst (.str "unlock"))])) [.setI (.var 6) (.cst (.int 4)) (.ite (.cmp .eq (.var 3) (.cst (.str "lock"))) (.idx (.var 1) (.cst (.int 1))) (.cst .non))] [.drop (.call 43 [(.var 5), (.var 6), (.var 7), (.var 3), (.var 0)])]]]]]
/-- _law_laid(_law_row, _law_node, _law_around, _law_word, _law_top) slots 0:_law_row 1:_law_node 2:_law_around 3:_law_word 4:_law_top 5:_law_at 6:_law_k 7:_law_here -/
def b43 : List Sm := [.set 5 (.bm .index (.var 0) [(.var 1)]),
    .ife (.cmp .eq (.var 3) (.cst (.str "raise"))) [.drop (.bm .append (.var 0) [(.bm .pop (.var 0) [(.var 5)])])] [.ife (.cmp .eq (.var 3) (.cst (.str "lower"))) [.drop (.bm .insert (.var 0) [(.cst (.int 0)), (.bm .pop (.var 0) [(.var 5)])])] [.ife (.and (.cmp .eq (.var 3) (.cst (.str "ungroup"))) (.cmp .eq (.idx (.var 1) (.cst (.int 0))) (.cst (.str "group")))) [.setS (.var 0) (.var 5) (.bin .add (.var 5) (.cst (.int 1))) (.idx (.var 1) (.cst (.int 2)))] [.ife (.cmp .eq (.var 3) (.cst (.str "erase"))) [.drop (.bm .pop (.var 0) [(.var 5)]),
    .for_ (.nm 6) .rng [(.blt .len [(.var 2)])] [.set 7 (.idx (.var 2) (.bin .sub (.bin .sub (.blt .len [(.var 2)]) (.cst (.int 1))) (.var 6))),
    .ife (.cmp .eq (.idx (.var 7) (.cst (.int 2))) (.lst false [])) [.drop (.bm .remove (.idx (.call 38 [(.var 4), (.idx (.var 7) (.cst (.int 1))), (.lst false [])]) (.cst (.int 0))) [(.var 7)])] []]] []]]]]
/-- _law_counting(_law_letters) slots 0:_law_letters 1:_law_gone 2:_law_made 3:_law_stamp 4:_law_number 5:_law_deed_here -/
def b44 : List Sm := [.set 1 (.lst true []),
    .set 2 (.lst false []),
    .for_ (.tp [(.nm 3), (.nm 4), (.nm 5)]) .seq [(.slc false (.blt .sorted [(.var 0)]) (.cst .non) (.cst .non) (.neg (.cst (.int 1))))] [.ife (.cmp .notin (.var 3) (.var 1)) [.set 2 (.bin .add (.lst false [(.tup [(.var 3), (.var 4), (.var 5)])]) (.var 2)),
    .ife (.and (.cmp .eq (.idx (.var 5) (.cst (.int 0))) (.cst (.str "undo"))) (.and (.cmp .eq (.idx (.idx (.var 5) (.cst (.int 1))) (.cst (.int 1))) (.idx (.var 3) (.cst (.int 1)))) (.cmp .lt (.idx (.idx (.var 5) (.cst (.int 1))) (.cst (.int 0))) (.idx (.var 3) (.cst (.int 0)))))) [.drop (.bm .append (.var 1) [(.idx (.var 5) (.cst (.int 1)))])] []] []],
    .ret (.var 2)]
/-- _law_board(_law_letters) slots 0:_law_letters 1:_law_top 2:_law_stamp 3:_law_number 4:_law_deed_here -/
def b45 : List Sm := [.set 1 (.lst true []),
    .for_ (.tp [(.nm 2), (.nm 3), (.nm 4)]) .seq [(.call 44 [(.var 0)])] [.drop (.call 42 [(.var 1), (.var 2), (.var 4)])],
    .ret (.var 1)]
/-- _law_shapes(_law_row) slots 0:_law_row 1:_law_made 2:_law_node 3:_law_one -/
def b46 : List Sm := [.set 1 (.lst true []),
    .for_ (.nm 2) .seq [(.var 0)] [.for_ (.nm 3) .seq [(.call 39 [(.var 2)])] [.ife (.cmp .eq (.idx (.var 3) (.cst (.int 0))) (.cst (.str "shape"))) [.drop (.bm .append (.var 1) [(.tup [(.idx (.var 3) (.cst (.int 1))), (.blt .tuple [(.idx (.var 3) (.cst (.int 2)))]), (.idx (.var 3) (.cst (.int 3)))])])] []]],
    .ret (.var 1)]
/-- _law_told(_law_top) slots 0:_law_top 1:_law_things 2:_law_locks 3:_law_node 4:_law_one 5:_law_what 6:_law_inner -/
def b47 : List Sm := [.set 1 (.lst true []),
    .set 2 (.lst true []),
    .for_ (.nm 3) .seq [(.var 0)] [.for_ (.nm 4) .seq [(.call 39 [(.var 3)])] [.set 5 (.tup [(.cst (.str "shape")), (.blt .tuple [(.idx (.var 4) (.cst (.int 2)))]), (.idx (.var 4) (.cst (.int 3)))]),
    .ife (.cmp .eq (.idx (.var 4) (.cst (.int 0))) (.cst (.str "group"))) [.set 5 (.tup [(.cst (.str "group")), (.blt .tuple [(.lc false [6] (.nm 6) .seq [(.idx (.var 4) (.cst (.int 2)))] [] (.idx (.var 6) (.cst (.int 1))))])])] [],
    .drop (.bm .append (.var 1) [(.tup [(.idx (.var 4) (.cst (.int 1))), (.var 5)])]),
    .ife (.cmp .isnot (.idx (.var 4) (.cst (.int 4))) (.cst .non)) [.drop (.bm .append (.var 2) [(.tup [(.idx (.var 4) (.cst (.int 1))), (.idx (.var 4) (.cst (.int 4)))])])] []]],
    .ret (.tup [(.blt .tuple [(.lc false [3] (.nm 3) .seq [(.var 0)] [] (.idx (.var 3) (.cst (.int 1))))]), (.blt .tuple [(.blt .sorted [(.var 1)])]), (.blt .tuple [(.blt .sorted [(.var 2)])])])]
/-- _law_mixed(_law_script, _law_at, _law_some) slots 0:_law_script 1:_law_at 2:_law_some 3:_law_left 4:_law_made -/
def b48 : List Sm := [.set 3 (.blt (.list true) [(.var 2)]),
    .set 4 (.lst true []),
    .whl 100000 (.cmp .ne (.var 3) (.lst false [])) [.drop (.bm .append (.var 4) [(.bm .pop (.var 3) [(.call 8 [(.var 0), (.bin .add (.var 1) (.blt .len [(.var 4)])), (.blt .len [(.var 3)])])])])],
    .ret (.var 4)]
/-- law(_law_script) slots 0:_law_script 1:_law_letters 2:_law_top 3:_law_slate 4:_law_due 5:_law_before 6:_law_some 7:_law_stamp 8:_law_number 9:_law_deed_here 10:_law_after -/
def b49 : List Sm := [.set 1 (.call 10 [(.var 0), (.cst (.int 0)), (.cst (.int 14))]),
    .set 2 (.call 45 [(.var 1)]),
    .set 3 (.call 36 [(.call 48 [(.var 0), (.cst (.int 400)), (.var 1)])]),
    .ife (.or (.cmp .ne (.meth "told" (.var 3) []) (.call 47 [(.var 2)])) (.cmp .ne (.meth "row" (.var 3) []) (.call 46 [(.var 2)]))) [.ret (.cst (.bl false))] [],
    .set 4 (.lst true []),
    .set 5 (.call 47 [(.lst false [])]),
    .set 6 (.call 44 [(.var 1)]),
    .set 2 (.lst true []),
    .for_ (.tp [(.nm 7), (.nm 8), (.nm 9)]) .seq [(.var 6)] [.drop (.call 42 [(.var 2), (.var 7), (.var 9)]),
    .set 10 (.call 47 [(.var 2)]),
    .ife (.cmp .ne (.var 10) (.var 5)) [.drop (.bm .append (.var 4) [(.var 7)])] [],
    .set 5 (.var 10)],
    .ret (.cmp .eq (.call 37 [(.var 1)]) (.var 4))]
/-- joined(one, other) slots 0:one 1:other 2:made 3:letter 4:stamp -/
def b50 : List Sm := [.set 2 (.dnew true),
    .for_ (.nm 3) .seq [(.bin .add (.var 0) (.var 1))] [.ife (.cmp .ne (.bm .get (.var 2) [(.idx (.var 3) (.cst (.int 0))), (.var 3)]) (.var 3)) [.raise 13] [],
    .setI (.var 2) (.idx (.var 3) (.cst (.int 0))) (.var 3)],
    .ret (.lc false [4] (.nm 4) .seq [(.blt .sorted [(.blt (.list false) [(.var 2)])])] [] (.idx (.var 2) (.var 4)))]
/-- _law_word(_law_kept) slots 0:_law_kept 1:_law_kinds -/
def b51 : List Sm := [.set 1 (.lst true [(.isE (.var 0) 12), (.isE (.var 0) 13), (.isE (.var 0) 15)]),
    .drop (.bm .extend (.var 1) [(.lst false [(.isE (.var 0) 14), (.isE (.var 0) 16), (.isE (.var 0) 11)])]),
    .ife (.or (.cmp .ne (.bm .count (.var 1) [(.cst (.bl true))]) (.cst (.int 1))) (.not (.isE (.var 0) 9))) [.ret (.cst (.str "wrong"))] [],
    .ret (.idx (.lst false [(.cst (.str "bad deed")), (.cst (.str "bad letter")), (.cst (.str "no hand")), (.cst (.str "no letter")), (.cst (.str "no text")), (.cst (.str "no thing"))]) (.bm .index (.var 1) [(.cst (.bl true))]))]
/-- _law_joined(_law_one, _law_other) slots 0:_law_one 1:_law_other 2:_law_kept 3:_law_answer 4:e -/
def b52 : List Sm := [.set 2 (.cst .non),
    .set 3 (.cst .non),
    .try_ [.set 3 (.call 50 [(.var 0), (.var 1)])] 10 (some 4) [.set 2 (.var 4)],
    .ife (.cmp .is (.var 2) (.cst .non)) [.ret (.var 3)] [],
    .ret (.call 51 [(.var 2)])]
/-- law(_law_script) slots 0:_law_script 1:_law_letters 2:_law_one 3:_law_other 4:_law_due 5:_law_mine 6:_law_k 7:_law_letter 8:_law_yours 9:_law_both 10:_law_stamp 11:_law_number 12:_law_deed_here 13:_law_bad -/
def b54 : List Sm := [.set 1 (.call 10 [(.var 0), (.cst (.int 0)), (.cst (.int 14))]),
    .set 2 (.call 48 [(.var 0), (.cst (.int 400)), (.var 1)]),
    .set 3 (.call 48 [(.var 0), (.cst (.int 500)), (.bin .add (.var 1) (.slc false (.var 1) (.cst .non) (.cst .non) (.cst (.int 2))))]),
    .set 4 (.meth "told" (.call 36 [(.var 1)]) []),
    .ife (.or (.cmp .ne (.meth "told" (.call 36 [(.var 2)]) []) (.var 4)) (.cmp .ne (.meth "told" (.call 36 [(.call 52 [(.var 3), (.var 2)])]) []) (.var 4))) [.ret (.cst (.bl false))] [],
    .ife (.cmp .ne (.call 52 [(.var 2), (.var 3)]) (.call 53 [(.var 1)])) [.ret (.cst (.bl false))] [],
    .set 5 (.lc false [6, 7] (.tp [(.nm 6), (.nm 7)]) .enum [(.var 1)] [(.cmp .gt (.call 8 [(.var 0), (.bin .add (.cst (.int 600)) (.var 6)), (.cst (.int 3))]) (.cst (.int 0)))] (.var 7)),
    .set 8 (.lc false [6, 7] (.tp [(.nm 6), (.nm 7)]) .enum [(.var 1)] [(.cmp .gt (.call 8 [(.var 0), (.bin .add (.cst (.int 620)) (.var 6)), (.cst (.int 3))]) (.cst (.int 0)))] (.var 7)),
    .set 9 (.call 52 [(.var 5), (.var 8)]),
    .ife (.cmp .ne (.var 9) (.call 52 [(.var 8), (.var 5)])) [.ret (.cst (.bl false))] [],
    .ife (.cmp .ne (.var 9) (.lc false [7] (.nm 7) .seq [(.call 53 [(.var 1)])] [(.or (.cmp .isin (.var 7) (.var 5)) (.cmp .isin (.var 7) (.var 8)))] (.var 7))) [.ret (.cst (.bl false))] [],
    .ife (.cmp .ne (.meth "told" (.call 36 [(.var 9)]) []) (.meth "told" (.call 36 [(.bin .add (.var 5) (.lc false [7] (.nm 7) .seq [(.var 8)] [(.cmp .notin (.var 7) (.var 5))] (.var 7)))]) [])) [.ret (.cst (.bl false))] [],
    .ife (.cmp .eq (.var 1) (.lst false [])) [.ret (.cmp .eq (.call 52 [(.lst false []), (.lst false [])]) (.lst false []))] [],
    .setT [(.nm 10), (.nm 11), (.nm 12)] (.idx (.var 1) (.cst (.int 0))),
    .set 13 (.tup [(.var 10), (.bin .add (.var 11) (.cst (.int 1))), (.var 12)]),
    .ret (.and (.cmp .eq (.call 52 [(.var 1), (.lst false [(.var 13)])]) (.cst (.str "bad letter"))) (.cmp .eq (.call 52 [(.lst false [(.var 13)]), (.var 2)]) (.cst (.str "bad letter"))))]
/-- law(_law_script) slots 0:_law_script 1:_law_letters 2:_law_due 3:_law_stamp 4:_law_number 5:_law_deed_here 6:_law_hand 7:_law_last 8:_law_letter 9:_law_back 10:_law_again 11:_law_less 12:_law_some 13:_law_still 14:_law_one 15:_law_other 16:_law_third 17:_law_early 18:_law_more -/
def b55 : List Sm := [.set 1 (.call 10 [(.var 0), (.cst (.int 0)), (.cst (.int 12))]),
    .ife (.cmp .ne (.call 35 [(.slc false (.var 1) (.cst .non) (.cst .non) (.neg (.cst (.int 1))))]) (.call 44 [(.var 1)])) [.ret (.cst (.bl false))] [],
    .set 2 (.meth "told" (.call 36 [(.var 1)]) []),
    .ife (.cmp .eq (.var 1) (.lst false [])) [.ret (.cmp .eq (.var 2) (.call 47 [(.lst false [])]))] [],
    .setT [(.nm 3), (.nm 4), (.nm 5)] (.idx (.var 1) (.call 8 [(.var 0), (.cst (.int 300)), (.blt .len [(.var 1)])])),
    .set 6 (.idx (.var 3) (.cst (.int 1))),
    .set 7 (.blt .max [(.lc false [8] (.nm 8) .seq [(.var 1)] [] (.idx (.idx (.var 8) (.cst (.int 0))) (.cst (.int 0))))]),
    .set 9 (.tup [(.tup [(.bin .add (.var 7) (.cst (.int 1))), (.var 6)]), (.cst (.int 50)), (.tup [(.cst (.str "undo")), (.var 3)])]),
    .set 10 (.tup [(.tup [(.bin .add (.var 7) (.cst (.int 2))), (.var 6)]), (.cst (.int 51)), (.tup [(.cst (.str "undo")), (.tup [(.bin .add (.var 7) (.cst (.int 1))), (.var 6)])])]),
    .set 11 (.lc false [8] (.nm 8) .seq [(.var 1)] [(.cmp .ne (.idx (.var 8) (.cst (.int 0))) (.var 3))] (.var 8)),
    .set 12 (.lc false [8] (.nm 8) .seq [(.var 1)] [(.and (.cmp .eq (.idx (.var 8) (.cst (.int 2))) (.tup [(.cst (.str "undo")), (.var 3)])) (.cmp .eq (.idx (.idx (.var 8) (.cst (.int 0))) (.cst (.int 1))) (.var 6)))] (.var 8)),
    .set 13 (.lc false [8] (.nm 8) .seq [(.var 1)] [(.or (.cmp .notin (.var 8) (.var 12)) (.not (.cmp .lt (.var 3) (.idx (.var 8) (.cst (.int 0))))))] (.var 8)),
    .ife (.cmp .ne (.meth "told" (.call 36 [(.bin .add (.var 13) (.lst false [(.var 9)]))]) []) (.meth "told" (.call 36 [(.lc false [14] (.nm 14) .seq [(.var 13)] [(.cmp .isin (.var 14) (.var 11))] (.var 14))]) [])) [.ret (.cst (.bl false))] [],
    .ife (.cmp .ne (.meth "told" (.call 36 [(.bin .add (.var 1) (.lst false [(.var 9), (.var 10)]))]) []) (.var 2)) [.ret (.cst (.bl false))] [],
    .set 15 (.tup [(.tup [(.bin .add (.var 7) (.cst (.int 1))), (.bin .mod (.bin .add (.var 6) (.cst (.int 1))) (.cst (.int 3)))]), (.cst (.int 50)), (.tup [(.cst (.str "undo")), (.var 3)])]),
    .ife (.cmp .ne (.meth "told" (.call 36 [(.bin .add (.var 1) (.lst false [(.var 15)]))]) []) (.var 2)) [.ret (.cst (.bl false))] [],
    .set 16 (.tup [(.tup [(.bin .add (.var 7) (.cst (.int 3))), (.var 6)]), (.cst (.int 52)), (.tup [(.cst (.str "undo")), (.tup [(.bin .add (.var 7) (.cst (.int 2))), (.var 6)])])]),
    .ife (.cmp .ne (.meth "told" (.call 36 [(.bin .add (.var 1) (.lst false [(.var 9), (.var 10), (.var 16)]))]) []) (.meth "told" (.call 36 [(.bin .add (.var 1) (.lst false [(.var 9)]))]) [])) [.ret (.cst (.bl false))] [],
    .set 17 (.tup [(.tup [(.bin .add (.var 7) (.cst (.int 1))), (.var 6)]), (.cst (.int 50)), (.tup [(.cst (.str "undo")), (.tup [(.bin .add (.var 7) (.cst (.int 2))), (.var 6)])])]),
    .set 18 (.tup [(.tup [(.bin .add (.var 7) (.cst (.int 2))), (.var 6)]), (.cst (.int 51)), (.tup [(.cst (.str "draw")), (.tup [(.cst (.int 0)), (.cst (.int 0)), (.cst (.int 1)), (.cst (.int 1))])])]),
    .ret (.cmp .eq (.meth "told" (.call 36 [(.bin .add (.var 1) (.lst false [(.var 17), (.var 18)]))]) []) (.meth "told" (.call 36 [(.bin .add (.var 1) (.lst false [(.var 18)]))]) []))]
/-- up_to(letters, stamp) slots 0:letters 1:stamp 2:letter -/
def b56 : List Sm := [.ret (.lc false [2] (.nm 2) .seq [(.call 33 [(.var 0)])] [(.not (.cmp .lt (.var 1) (.idx (.var 2) (.cst (.int 0)))))] (.var 2))]
/-- behind_of(letters, stamp) slots 0:letters 1:stamp 2:letter -/
def b57 : List Sm := [.ret (.lc false [2] (.nm 2) .seq [(.call 33 [(.var 0)])] [(.cmp .lt (.var 1) (.idx (.var 2) (.cst (.int 0))))] (.var 2))]
/-- gone_on(slate, letters) slots 0:slate 1:letters 2:stamp 3:number 4:deed -/
def b58 : List Sm := [.for_ (.tp [(.nm 2), (.nm 3), (.nm 4)]) .seq [(.call 35 [(.var 1)])] [.set 0 (.call 32 [(.var 0), (.var 2), (.var 4)])],
    .ret (.var 0)]
/-- is_closed(letters, stamp) slots 0:letters 1:stamp 2:letter -/
def b59 : List Sm := [.ret (.not (.blt .any [(.lc false [2] (.nm 2) .seq [(.call 57 [(.var 0), (.var 1)])] [] (.and (.cmp .eq (.idx (.idx (.var 2) (.cst (.int 2))) (.cst (.int 0))) (.cst (.str "undo"))) (.not (.cmp .lt (.var 1) (.idx (.idx (.var 2) (.cst (.int 2))) (.cst (.int 1)))))))]))]
/-- law(_law_script) slots 0:_law_script 1:_law_letters 2:_law_stamp 3:_law_mixed_here 4:_law_first 5:_law_letter 6:_law_last 7:_law_due 8:_law_slate 9:_law_before 10:_law_more 11:_law_middle 12:_law_step 13:_law_plain 14:_law_some -/
def b60 : List Sm := [.set 1 (.call 10 [(.var 0), (.cst (.int 0)), (.cst (.int 14))]),
    .set 2 (.tup [(.bin .add (.cst (.int 1)) (.call 8 [(.var 0), (.cst (.int 300)), (.cst (.int 9))])), (.call 8 [(.var 0), (.cst (.int 301)), (.cst (.int 3))])]),
    .ife (.and (.cmp .ne (.var 1) (.lst false [])) (.cmp .gt (.call 8 [(.var 0), (.cst (.int 302)), (.cst (.int 3))]) (.cst (.int 0)))) [.set 2 (.idx (.idx (.var 1) (.call 8 [(.var 0), (.cst (.int 303)), (.blt .len [(.var 1)])])) (.cst (.int 0)))] [],
    .set 3 (.call 48 [(.var 0), (.cst (.int 400)), (.var 1)]),
    .set 4 (.lc false [5] (.nm 5) .seq [(.var 1)] [(.cmp .le (.idx (.var 5) (.cst (.int 0))) (.var 2))] (.var 5)),
    .set 6 (.lc false [5] (.nm 5) .seq [(.var 1)] [(.cmp .gt (.idx (.var 5) (.cst (.int 0))) (.var 2))] (.var 5)),
    .ife (.or (.cmp .ne (.call 56 [(.var 3), (.var 2)]) (.blt .sorted [(.var 4)])) (.cmp .ne (.call 57 [(.var 3), (.var 2)]) (.blt .sorted [(.var 6)]))) [.ret (.cst (.bl false))] [],
    .set 7 (.lc false [5] (.nm 5) .seq [(.var 6)] [(.and (.cmp .eq (.idx (.idx (.var 5) (.cst (.int 2))) (.cst (.int 0))) (.cst (.str "undo"))) (.cmp .le (.idx (.idx (.var 5) (.cst (.int 2))) (.cst (.int 1))) (.var 2)))] (.var 5)),
    .ife (.cmp .ne (.call 59 [(.var 3), (.var 2)]) (.cmp .eq (.var 7) (.lst false []))) [.ret (.cst (.bl false))] [],
    .set 8 (.call 36 [(.call 56 [(.var 3), (.var 2)])]),
    .set 9 (.meth "told" (.var 8) []),
    .set 10 (.call 58 [(.var 8), (.call 57 [(.var 3), (.var 2)])]),
    .ife (.or (.and (.cmp .eq (.var 7) (.lst false [])) (.cmp .ne (.meth "told" (.var 10) []) (.meth "told" (.call 36 [(.var 1)]) []))) (.cmp .ne (.meth "told" (.var 8) []) (.var 9))) [.ret (.cst (.bl false))] [],
    .ife (.and (.cmp .eq (.var 7) (.lst false [])) (.cmp .ne (.var 6) (.lst false []))) [.set 11 (.idx (.idx (.var 6) (.call 8 [(.var 0), (.cst (.int 304)), (.blt .len [(.var 6)])])) (.cst (.int 0))),
    .ife (.call 59 [(.var 1), (.var 11)]) [.set 12 (.call 58 [(.var 8), (.lc false [5] (.nm 5) .seq [(.var 6)] [(.cmp .le (.idx (.var 5) (.cst (.int 0))) (.var 11))] (.var 5))]),
    .ife (.cmp .ne (.meth "told" (.call 58 [(.var 12), (.call 57 [(.var 1), (.var 11)])]) []) (.meth "told" (.call 36 [(.var 1)]) [])) [.ret (.cst (.bl false))] []] []] [],
    .set 13 (.lc false [5] (.nm 5) .seq [(.var 1)] [(.cmp .ne (.idx (.idx (.var 5) (.cst (.int 2))) (.cst (.int 0))) (.cst (.str "undo")))] (.var 5)),
    .set 14 (.call 36 [(.var 13)]),
    .for_ (.nm 5) .seq [(.var 13)] [.ife (.cmp .isnot (.call 59 [(.var 13), (.idx (.var 5) (.cst (.int 0)))]) (.cst (.bl true))) [.ret (.cst (.bl false))] []],
    .ret (.cmp .eq (.meth "told" (.call 58 [(.call 36 [(.lst false [])]), (.var 13)]) []) (.meth "told" (.var 14) []))]
/-- _law_with_group(_law_script, _law_letters) slots 0:_law_script 1:_law_letters 2:_law_top 3:_law_node 4:_law_last 5:_law_letter 6:_law_some -/
def b61 : List Sm := [.set 2 (.lc false [3] (.nm 3) .seq [(.call 45 [(.var 1)])] [] (.idx (.var 3) (.cst (.int 1)))),
    .ife (.and (.cmp .gt (.blt .len [(.var 2)]) (.cst (.int 1))) (.cmp .gt (.call 8 [(.var 0), (.cst (.int 310)), (.cst (.int 4))]) (.cst (.int 0)))) [.set 4 (.blt .max [(.lc false [5] (.nm 5) .seq [(.var 1)] [] (.idx (.idx (.var 5) (.cst (.int 0))) (.cst (.int 0))))]),
    .set 6 (.blt .tuple [(.slc false (.var 2) (.cst .non) (.bin .add (.cst (.int 2)) (.call 8 [(.var 0), (.cst (.int 311)), (.cst (.int 2))])) (.cst .non))]),
    .set 1 (.bin .add (.var 1) (.lst false [(.tup [(.tup [(.bin .add (.var 4) (.cst (.int 1))), (.cst (.int 1))]), (.cst (.int 45)), (.tup [(.cst (.str "group")), (.var 6)])])]))] [],
    .ret (.var 1)]
/-- law(_law_script) slots 0:_law_script 1:_law_letters 2:_law_letter 3:_law_top 4:_law_nodes_here 5:_law_node 6:_law_name 7:_law_last 8:_law_hand 9:_law_locked 10:_law_before 11:_law_found 12:_law_near 13:_law_goal 14:_law_other 15:_law_words 16:_law_k 17:_law_deed_here 18:_law_mine 19:_law_free -/
def b62 : List Sm := [.set 1 (.lc false [2] (.nm 2) .seq [(.call 10 [(.var 0), (.cst (.int 0)), (.cst (.int 10))])] [(.cmp .notin (.idx (.idx (.var 2) (.cst (.int 2))) (.cst (.int 0))) (.tup [(.cst (.str "lock")), (.cst (.str "undo"))]))] (.var 2)),
    .set 1 (.call 61 [(.var 0), (.var 1)]),
    .set 3 (.call 45 [(.var 1)]),
    .set 4 (.lst true []),
    .for_ (.nm 5) .seq [(.var 3)] [.drop (.bm .extend (.var 4) [(.call 39 [(.var 5)])])],
    .ife (.cmp .eq (.var 4) (.lst false [])) [.ret (.cmp .eq (.meth "told" (.call 36 [(.var 1)]) []) (.call 47 [(.lst false [])]))] [],
    .set 6 (.idx (.idx (.var 4) (.call 8 [(.var 0), (.cst (.int 300)), (.blt .len [(.var 4)])])) (.cst (.int 1))),
    .set 7 (.blt .max [(.lc false [2] (.nm 2) .seq [(.var 1)] [] (.idx (.idx (.var 2) (.cst (.int 0))) (.cst (.int 0))))]),
    .set 8 (.call 8 [(.var 0), (.cst (.int 301)), (.cst (.int 3))]),
    .set 9 (.bin .add (.var 1) (.lst false [(.tup [(.tup [(.bin .add (.var 7) (.cst (.int 1))), (.var 8)]), (.cst (.int 50)), (.tup [(.cst (.str "lock")), (.var 6)])])])),
    .set 10 (.meth "told" (.call 36 [(.var 9)]) []),
    .set 11 (.call 38 [(.var 3), (.var 6), (.lst false [])]),
    .set 12 (.lc false [5] (.nm 5) .seq [(.bin .add (.idx (.var 11) (.cst (.int 2))) (.call 39 [(.idx (.var 11) (.cst (.int 1)))]))] [] (.idx (.var 5) (.cst (.int 1)))),
    .set 13 (.idx (.var 12) (.call 8 [(.var 0), (.cst (.int 302)), (.blt .len [(.var 12)])])),
    .set 14 (.bin .mod (.bin .add (.bin .add (.var 8) (.cst (.int 1))) (.call 8 [(.var 0), (.cst (.int 303)), (.cst (.int 2))])) (.cst (.int 3))),
    .set 15 (.lst true [(.tup [(.cst (.str "move")), (.var 13), (.cst (.int 1)), (.cst (.int 1))]), (.tup [(.cst (.str "size")), (.var 13), (.cst (.int 3)), (.cst (.int 3))]), (.tup [(.cst (.str "colour")), (.var 13), (.cst (.int 5))]), (.tup [(.cst (.str "raise")), (.var 13)]), (.tup [(.cst (.str "lower")), (.var 13)])]),
    .drop (.bm .extend (.var 15) [(.lst false [(.tup [(.cst (.str "ungroup")), (.var 13)]), (.tup [(.cst (.str "erase")), (.var 13)]), (.tup [(.cst (.str "lock")), (.var 13)]), (.tup [(.cst (.str "unlock")), (.var 13)])])]),
    .ife (.and (.cmp .gt (.blt .len [(.var 3)]) (.cst (.int 1))) (.cmp .isin (.var 13) (.lc false [5] (.nm 5) .seq [(.var 3)] [] (.idx (.var 5) (.cst (.int 1)))))) [.drop (.bm .append (.var 15) [(.tup [(.cst (.str "group")), (.tup [(.var 13), (.idx (.lc false [5] (.nm 5) .seq [(.var 3)] [(.cmp .ne (.idx (.var 5) (.cst (.int 1))) (.var 13))] (.idx (.var 5) (.cst (.int 1)))) (.cst (.int 0)))])])])] [],
    .for_ (.tp [(.nm 16), (.nm 17)]) .enum [(.var 15)] [.ife (.cmp .ne (.meth "told" (.call 36 [(.bin .add (.var 9) (.lst false [(.tup [(.tup [(.bin .add (.bin .add (.var 7) (.cst (.int 2))) (.var 16)), (.var 14)]), (.bin .add (.cst (.int 60)) (.var 16)), (.var 17)])]))]) []) (.var 10)) [.ret (.cst (.bl false))] []],
    .set 17 (.idx (.var 15) (.call 8 [(.var 0), (.cst (.int 304)), (.cst (.int 7))])),
    .set 18 (.call 36 [(.bin .add (.var 9) (.lst false [(.tup [(.tup [(.bin .add (.var 7) (.cst (.int 20))), (.var 8)]), (.cst (.int 70)), (.var 17)]), (.tup [(.tup [(.bin .add (.var 7) (.cst (.int 21))), (.var 8)]), (.cst (.int 71)), (.tup [(.cst (.str "unlock")), (.var 6)])])]))]),
    .ife (.cmp .ne (.meth "told" (.var 18) []) (.meth "told" (.call 36 [(.bin .add (.var 1) (.lst false [(.tup [(.tup [(.bin .add (.var 7) (.cst (.int 20))), (.var 8)]), (.cst (.int 70)), (.var 17)])]))]) [])) [.ret (.cst (.bl false))] [],
    .set 19 (.bin .add (.var 9) (.lst false [(.tup [(.tup [(.bin .add (.var 7) (.cst (.int 2))), (.var 8)]), (.cst (.int 51)), (.tup [(.cst (.str "unlock")), (.var 6)])]), (.tup [(.tup [(.bin .add (.var 7) (.cst (.int 30))), (.var 14)]), (.cst (.int 80)), (.var 17)])])),
    .ret (.cmp .eq (.meth "told" (.call 36 [(.var 19)]) []) (.meth "told" (.call 36 [(.bin .add (.var 1) (.lst false [(.tup [(.tup [(.bin .add (.var 7) (.cst (.int 30))), (.var 14)]), (.cst (.int 80)), (.var 17)])]))]) []))]
/-- look_deed(deed) slots 0:deed -/
def b63 : List Sm := [.ife (.not (.call 5 [(.var 0)])) [.raise 12] []]
/-- lacking(letters, known) slots 0:letters 1:known 2:letter -/
def b64 : List Sm := [.ret (.lc false [2] (.nm 2) .seq [(.call 33 [(.var 0)])] [(.cmp .notin (.idx (.var 2) (.cst (.int 1))) (.bm .get (.var 1) [(.idx (.idx (.var 2) (.cst (.int 0))) (.cst (.int 1))), (.lst false [])]))] (.var 2))]
/-- numbers_known(letters) slots 0:letters 1:made 2:stamp 3:number 4:deed -/
def b65 : List Sm := [.set 1 (.dnew false),
    .for_ (.tp [(.nm 2), (.nm 3), (.nm 4)]) .seq [(.var 0)] [.setI (.var 1) (.idx (.var 2) (.cst (.int 1))) (.blt .sorted [(.bin .add (.bm .get (.var 1) [(.idx (.var 2) (.cst (.int 1))), (.lst false [])]) (.lst false [(.var 3)]))])],
    .ret (.var 1)]
/-- gaps(letters) slots 0:letters 1:known 2:made 3:hand 4:number -/
def b66 : List Sm := [.set 1 (.call 65 [(.var 0)]),
    .set 2 (.lst true []),
    .for_ (.nm 3) .seq [(.blt .sorted [(.blt (.list false) [(.var 1)])])] [.drop (.bm .extend (.var 2) [(.lc false [4] (.nm 4) .rng [(.idx (.idx (.var 1) (.var 3)) (.neg (.cst (.int 1))))] [(.cmp .notin (.var 4) (.idx (.var 1) (.var 3)))] (.tup [(.var 3), (.var 4)]))])],
    .ret (.var 2)]
/-- Hand.__init__(self, own) slots 0:self 1:own -/
def b67 : List Sm := [.setF (.var 0) "own" (.var 1),
    .setF (.var 0) "kept" (.lst false []),
    .setF (.var 0) "clock" (.cst (.int 0)),
    .setF (.var 0) "many" (.cst (.int 0))]
/-- Hand.letters(self) slots 0:self -/
def b68 : List Sm := [.ret (.blt (.list false) [(.fld (.var 0) "kept")])]
/-- Hand.slate(self) slots 0:self -/
def b69 : List Sm := [.ret (.call 36 [(.fld (.var 0) "kept")])]
/-- Hand.do(self, deed) slots 0:self 1:deed 2:letter -/
def b70 : List Sm := [.drop (.call 63 [(.var 1)]),
    .setF (.var 0) "clock" (.bin .add (.fld (.var 0) "clock") (.cst (.int 1))),
    .set 2 (.tup [(.tup [(.fld (.var 0) "clock"), (.fld (.var 0) "own")]), (.fld (.var 0) "many"), (.var 1)]),
    .setF (.var 0) "many" (.bin .add (.fld (.var 0) "many") (.cst (.int 1))),
    .setF (.var 0) "kept" (.call 50 [(.fld (.var 0) "kept"), (.lst false [(.var 2)])]),
    .ret (.var 2)]
/-- Hand.take(self, letter) slots 0:self 1:letter 2:more 3:is_new -/
def b71 : List Sm := [.ife (.not (.call 6 [(.var 1)])) [.raise 13] [],
    .set 2 (.call 50 [(.fld (.var 0) "kept"), (.lst false [(.var 1)])]),
    .set 3 (.cmp .gt (.blt .len [(.var 2)]) (.blt .len [(.fld (.var 0) "kept")])),
    .setF (.var 0) "kept" (.var 2),
    .setF (.var 0) "clock" (.blt .max [(.fld (.var 0) "clock"), (.idx (.idx (.var 1) (.cst (.int 0))) (.cst (.int 0)))]),
    .ret (.var 3)]
/-- Hand.known(self) slots 0:self -/
def b72 : List Sm := [.ret (.call 65 [(.fld (.var 0) "kept")])]
/-- Hand.missing(self) slots 0:self -/
def b73 : List Sm := [.ret (.call 66 [(.fld (.var 0) "kept")])]
/-- Hand.for_other(self, known) slots 0:self 1:known -/
def b74 : List Sm := [.ret (.call 64 [(.fld (.var 0) "kept"), (.var 1)])]
/-- _law_do(_law_hand, _law_way, _law_one) slots 0:_law_hand 1:_law_way 2:_law_one 3:_law_kept 4:_law_answer 5:e -/
def b75 : List Sm := [.set 3 (.cst .non),
    .set 4 (.cst .non),
    .try_ [.set 4 (.ite (.cmp .eq (.var 1) (.cst (.int 0))) (.meth "do" (.var 0) [(.var 2)]) (.meth "take" (.var 0) [(.var 2)]))] 10 (some 5) [.set 3 (.var 5)],
    .ife (.cmp .is (.var 3) (.cst .non)) [.ret (.var 4)] [],
    .ret (.call 51 [(.var 3)])]
/-- _law_lacks(_law_letters) slots 0:_law_letters 1:_law_made 2:_law_hand 3:_law_numbers 4:_law_letter 5:_law_number -/
def b76 : List Sm := [.set 1 (.lst true []),
    .for_ (.nm 2) .rng [(.cst (.int 3))] [.set 3 (.lc false [4] (.nm 4) .seq [(.var 0)] [(.cmp .eq (.idx (.idx (.var 4) (.cst (.int 0))) (.cst (.int 1))) (.var 2))] (.idx (.var 4) (.cst (.int 1)))),
    .drop (.bm .extend (.var 1) [(.lc false [5] (.nm 5) .rng [(.blt .max [(.bin .add (.var 3) (.lst false [(.cst (.int 0))]))])] [(.cmp .notin (.var 5) (.var 3))] (.tup [(.var 2), (.var 5)]))])],
    .ret (.var 1)]
/-- _law_is_bad(_law_letter, _law_have) slots 0:_law_letter 1:_law_have 2:_law_one -/
def b77 : List Sm := [.ife (.or (.cmp .is (.var 0) (.cst .non)) (.cmp .lt (.blt .len [(.var 0)]) (.cst (.int 3)))) [.ret (.cst (.bl true))] [],
    .ret (.cmp .ne (.lc false [2] (.nm 2) .seq [(.var 1)] [(.and (.cmp .eq (.idx (.var 2) (.cst (.int 0))) (.idx (.var 0) (.cst (.int 0)))) (.cmp .ne (.var 2) (.var 0)))] (.var 2)) (.lst false []))]
/-- _law_turn(_law_hand, _law_script, _law_base, _law_have, _law_others) slots 0:_law_hand 1:_law_script 2:_law_base 3:_law_have 4:_law_others 5:_law_clock 6:_law_one 7:_law_many 8:_law_deed_here 9:_law_letter 10:_law_due -/
def b78 : List Sm := [.set 5 (.blt .max [(.bin .add (.lst false [(.cst (.int 0))]) (.lc false [6] (.nm 6) .seq [(.var 3)] [] (.idx (.idx (.var 6) (.cst (.int 0))) (.cst (.int 0)))))]),
    .set 7 (.blt .len [(.lc false [6] (.nm 6) .seq [(.var 3)] [(.cmp .eq (.idx (.idx (.var 6) (.cst (.int 0))) (.cst (.int 1))) (.cst (.int 1)))] (.var 6))]),
    .ife (.or (.cmp .eq (.call 8 [(.var 1), (.var 2), (.cst (.int 3))]) (.cst (.int 0))) (.cmp .eq (.var 4) (.lst false []))) [.set 8 (.call 9 [(.var 1), (.bin .add (.var 2) (.cst (.int 1))), (.lc false [9] (.nm 9) .seq [(.var 3)] [] (.idx (.var 9) (.cst (.int 0))))]),
    .ife (.cmp .eq (.call 8 [(.var 1), (.bin .add (.var 2) (.cst (.int 9))), (.cst (.int 5))]) (.cst (.int 0))) [.ret (.cmp .eq (.call 75 [(.var 0), (.cst (.int 0)), (.tup [(.cst (.str "turn")), (.tup [(.cst (.int 1)), (.cst (.int 0))])])]) (.cst (.str "bad deed")))] [],
    .drop (.bm .append (.var 3) [(.tup [(.tup [(.bin .add (.var 5) (.cst (.int 1))), (.cst (.int 1))]), (.var 7), (.var 8)])]),
    .ret (.cmp .eq (.call 75 [(.var 0), (.cst (.int 0)), (.var 8)]) (.idx (.var 3) (.neg (.cst (.int 1)))))] [],
    .set 9 (.idx (.var 4) (.call 8 [(.var 1), (.bin .add (.var 2) (.cst (.int 10))), (.blt .len [(.var 4)])])),
    .ife (.cmp .eq (.call 8 [(.var 1), (.bin .add (.var 2) (.cst (.int 11))), (.cst (.int 4))]) (.cst (.int 0))) [.set 9 (.idx (.lst false [(.tup [(.idx (.var 9) (.cst (.int 0))), (.bin .add (.idx (.var 9) (.cst (.int 1))) (.cst (.int 9))), (.idx (.var 9) (.cst (.int 2)))]), (.cst .non), (.slc false (.var 9) (.cst .non) (.cst (.int 2)) (.cst .non))]) (.call 8 [(.var 1), (.bin .add (.var 2) (.cst (.int 12))), (.cst (.int 3))]))] [],
    .set 10 (.ite (.call 77 [(.var 9), (.var 3)]) (.cst (.str "bad letter")) (.cmp .notin (.var 9) (.var 3))),
    .ife (.cmp .is (.var 10) (.cst (.bl true))) [.drop (.bm .append (.var 3) [(.var 9)])] [],
    .ret (.cmp .eq (.call 75 [(.var 0), (.cst (.int 1)), (.var 9)]) (.var 10))]
/-- Hand.take_back(self) slots 0:self 1:some 2:stamp -/
def b80 : List Sm := [.set 1 (.lc false [2] (.nm 2) .seq [(.call 37 [(.fld (.var 0) "kept")])] [(.cmp .eq (.idx (.var 2) (.cst (.int 1))) (.fld (.var 0) "own"))] (.var 2)),
    .ife (.cmp .eq (.var 1) (.lst false [])) [.raise 11] [],
    .ret (.meth "do" (.var 0) [(.tup [(.cst (.str "undo")), (.idx (.var 1) (.neg (.cst (.int 1))))])])]
/-- _law_back(_law_hand) slots 0:_law_hand 1:_law_kept 2:_law_answer 3:e -/
def b81 : List Sm := [.set 1 (.cst .non),
    .set 2 (.cst .non),
    .try_ [.set 2 (.meth "take_back" (.var 0) [])] 10 (some 3) [.set 1 (.var 3)],
    .ife (.cmp .is (.var 1) (.cst .non)) [.ret (.var 2)] [],
    .ret (.call 51 [(.var 1)])]
/-- Post.__init__(self, many) slots 0:self 1:many 2:own -/
def b83 : List Sm := [.setF (.var 0) "hands" (.lc false [2] (.nm 2) .rng [(.var 1)] [] (.make 1 [(.var 2)])),
    .setF (.var 0) "ways" (.dnew true)]
/-- Post.look(self, own) slots 0:self 1:own -/
def b84 : List Sm := [.ife (.not (.chn .le .lt (.cst (.int 0)) (.var 1) (.blt .len [(.fld (.var 0) "hands")]))) [.raise 15] []]
/-- Post.hand(self, own) slots 0:self 1:own -/
def b85 : List Sm := [.drop (.meth "look" (.var 0) [(.var 1)]),
    .ret (.idx (.fld (.var 0) "hands") (.var 1))]
/-- Post.sent(self, own, letter) slots 0:self 1:own 2:letter 3:other -/
def b86 : List Sm := [.for_ (.nm 3) .rng [(.blt .len [(.fld (.var 0) "hands")])] [.ife (.cmp .ne (.var 3) (.var 1)) [.setI (.fld (.var 0) "ways") (.tup [(.var 1), (.var 3)]) (.bin .add (.meth "waiting" (.var 0) [(.var 1), (.var 3)]) (.lst false [(.var 2)]))] []],
    .ret (.var 2)]
/-- Post.do(self, own, deed) slots 0:self 1:own 2:deed -/
def b87 : List Sm := [.ret (.meth "sent" (.var 0) [(.var 1), (.meth "do" (.meth "hand" (.var 0) [(.var 1)]) [(.var 2)])])]
/-- Post.take_back(self, own) slots 0:self 1:own -/
def b88 : List Sm := [.ret (.meth "sent" (.var 0) [(.var 1), (.meth "take_back" (.meth "hand" (.var 0) [(.var 1)]) [])])]
/-- Post.waiting(self, own, other) slots 0:self 1:own 2:other -/
def b89 : List Sm := [.drop (.meth "look" (.var 0) [(.var 1)]),
    .drop (.meth "look" (.var 0) [(.var 2)]),
    .ret (.blt (.list false) [(.bm .get (.fld (.var 0) "ways") [(.tup [(.var 1), (.var 2)]), (.lst false [])])])]
/-- Post.carry(self, own, other, at) slots 0:self 1:own 2:other 3:at 4:row -/
def b90 : List Sm := [.set 4 (.meth "waiting" (.var 0) [(.var 1), (.var 2)]),
    .ife (.not (.chn .le .lt (.cst (.int 0)) (.var 3) (.blt .len [(.var 4)]))) [.raise 14] [],
    .setI (.fld (.var 0) "ways") (.tup [(.var 1), (.var 2)]) (.bin .add (.slc false (.var 4) (.cst .non) (.var 3) (.cst .non)) (.slc false (.var 4) (.bin .add (.var 3) (.cst (.int 1))) (.cst .non) (.cst .non))),
    .ret (.meth "take" (.idx (.fld (.var 0) "hands") (.var 2)) [(.idx (.var 4) (.var 3))])]
/-- Post.lost(self, own, other, at) slots 0:self 1:own 2:other 3:at 4:row -/
def b91 : List Sm := [.set 4 (.meth "waiting" (.var 0) [(.var 1), (.var 2)]),
    .ife (.not (.chn .le .lt (.cst (.int 0)) (.var 3) (.blt .len [(.var 4)]))) [.raise 14] [],
    .setI (.fld (.var 0) "ways") (.tup [(.var 1), (.var 2)]) (.bin .add (.slc false (.var 4) (.cst .non) (.var 3) (.cst .non)) (.slc false (.var 4) (.bin .add (.var 3) (.cst (.int 1))) (.cst .non) (.cst .non)))]
/-- Post.carry_all(self) slots 0:self 1:many 2:own 3:other 4:letter -/
def b92 : List Sm := [.set 1 (.cst (.int 0)),
    .for_ (.nm 2) .rng [(.blt .len [(.fld (.var 0) "hands")])] [.for_ (.nm 3) .rng [(.blt .len [(.fld (.var 0) "hands")])] [.for_ (.nm 4) .seq [(.meth "waiting" (.var 0) [(.var 2), (.var 3)])] [.set 1 (.bin .add (.var 1) (.blt .int [(.meth "take" (.idx (.fld (.var 0) "hands") (.var 3)) [(.var 4)])]))],
    .setI (.fld (.var 0) "ways") (.tup [(.var 2), (.var 3)]) (.lst false [])]],
    .ret (.var 1)]
/-- Post.meet(self, own, other) slots 0:self 1:own 2:other 3:one 4:two 5:some 6:more 7:letter -/
def b93 : List Sm := [.set 3 (.meth "hand" (.var 0) [(.var 1)]),
    .set 4 (.meth "hand" (.var 0) [(.var 2)]),
    .set 5 (.meth "for_other" (.var 3) [(.meth "known" (.var 4) [])]),
    .set 6 (.meth "for_other" (.var 4) [(.meth "known" (.var 3) [])]),
    .for_ (.nm 7) .seq [(.var 5)] [.drop (.meth "take" (.var 4) [(.var 7)])],
    .for_ (.nm 7) .seq [(.var 6)] [.drop (.meth "take" (.var 3) [(.var 7)])],
    .ret (.bin .add (.blt .len [(.var 5)]) (.blt .len [(.var 6)]))]
/-- Post.are_alike(self) slots 0:self 1:hand -/
def b94 : List Sm := [.ret (.blt .all [(.lc false [1] (.nm 1) .seq [(.fld (.var 0) "hands")] [] (.cmp .eq (.meth "letters" (.var 1) []) (.meth "letters" (.idx (.fld (.var 0) "hands") (.cst (.int 0))) [])))])]
/-- _law_do(_law_post, _law_way, _law_own, _law_other, _law_at) slots 0:_law_post 1:_law_way 2:_law_own 3:_law_other 4:_law_at 5:_law_kept 6:_law_answer 7:e -/
def b95 : List Sm := [.set 5 (.cst .non),
    .set 6 (.cst .non),
    .try_ [.ife (.cmp .eq (.var 1) (.cst (.int 0))) [.set 6 (.meth "carry" (.var 0) [(.var 2), (.var 3), (.var 4)])] [.ife (.cmp .eq (.var 1) (.cst (.int 1))) [.set 6 (.meth "lost" (.var 0) [(.var 2), (.var 3), (.var 4)])] [.ife (.cmp .eq (.var 1) (.cst (.int 2))) [.set 6 (.meth "waiting" (.var 0) [(.var 2), (.var 3)])] [.set 6 (.meth "take_back" (.var 0) [(.var 2)])]]]] 10 (some 7) [.set 5 (.var 7)],
    .ife (.cmp .is (.var 5) (.cst .non)) [.ret (.var 6)] [],
    .ret (.call 51 [(.var 5)])]
/-- _law_turn(_law_post, _law_script, _law_base, _law_many, _law_ways) slots 0:_law_post 1:_law_script 2:_law_base 3:_law_many 4:_law_ways 5:_law_own 6:_law_way 7:_law_letter 8:_law_names 9:_law_other 10:_law_row 11:_law_at 12:_law_due 13:_law_is_new -/
def b96 : List Sm := [.set 5 (.call 8 [(.var 1), (.var 2), (.var 3)]),
    .set 6 (.call 8 [(.var 1), (.bin .add (.var 2) (.cst (.int 1))), (.cst (.int 9))]),
    .ife (.cmp .lt (.var 6) (.cst (.int 5))) [.set 7 (.cst .non),
    .ife (.cmp .lt (.var 6) (.cst (.int 4))) [.set 8 (.lc false [7] (.nm 7) .seq [(.meth "letters" (.meth "hand" (.var 0) [(.var 5)]) [])] [] (.idx (.var 7) (.cst (.int 0)))),
    .set 7 (.meth "do" (.var 0) [(.var 5), (.call 9 [(.var 1), (.bin .add (.var 2) (.cst (.int 5))), (.var 8)])])] [.set 7 (.call 95 [(.var 0), (.cst (.int 3)), (.var 5), (.cst (.int 0)), (.cst (.int 0))])],
    .ife (.cmp .ne (.var 7) (.cst (.str "no thing"))) [.for_ (.nm 9) .rng [(.var 3)] [.ife (.cmp .ne (.var 9) (.var 5)) [.setI (.var 4) (.tup [(.var 5), (.var 9)]) (.bin .add (.bm .get (.var 4) [(.tup [(.var 5), (.var 9)]), (.lst false [])]) (.lst false [(.var 7)]))] []]] [],
    .ret (.cst (.bl true))] [],
    .set 9 (.call 8 [(.var 1), (.bin .add (.var 2) (.cst (.int 2))), (.bin .add (.var 3) (.cst (.int 1)))]),
    .set 10 (.bm .get (.var 4) [(.tup [(.var 5), (.var 9)]), (.lst false [])]),
    .set 11 (.call 8 [(.var 1), (.bin .add (.var 2) (.cst (.int 3))), (.bin .add (.blt .len [(.var 10)]) (.cst (.int 1)))]),
    .set 12 (.ite (.cmp .eq (.var 9) (.var 3)) (.cst (.str "no hand")) (.cst (.str "no letter"))),
    .ife (.and (.cmp .lt (.var 9) (.var 3)) (.cmp .lt (.var 11) (.blt .len [(.var 10)]))) [.set 13 (.cmp .notin (.idx (.var 10) (.var 11)) (.meth "letters" (.meth "hand" (.var 0) [(.var 9)]) [])),
    .setI (.var 4) (.tup [(.var 5), (.var 9)]) (.bin .add (.slc false (.var 10) (.cst .non) (.var 11) (.cst .non)) (.slc false (.var 10) (.bin .add (.var 11) (.cst (.int 1))) (.cst .non) (.cst .non))),
    .set 12 (.ite (.cmp .lt (.var 6) (.cst (.int 8))) (.var 13) (.cst .non))] [],
    .ret (.cmp .eq (.call 95 [(.var 0), (.ite (.cmp .lt (.var 6) (.cst (.int 8))) (.cst (.int 0)) (.cst (.int 1))), (.var 5), (.var 9), (.var 11)]) (.var 12))]
/-- _law_meet_right(_law_post, _law_own, _law_other) slots 0:_law_post 1:_law_own 2:_law_other 3:_law_mine 4:_law_yours 5:_law_less 6:_law_letter 7:_law_due -/
def b97 : List Sm := [.set 3 (.meth "letters" (.meth "hand" (.var 0) [(.var 1)]) []),
    .set 4 (.meth "letters" (.meth "hand" (.var 0) [(.var 2)]) []),
    .set 5 (.lc false [6] (.nm 6) .seq [(.var 3)] [(.cmp .notin (.var 6) (.var 4))] (.var 6)),
    .set 7 (.blt .len [(.bin .add (.var 5) (.lc false [6] (.nm 6) .seq [(.var 4)] [(.cmp .notin (.var 6) (.var 3))] (.var 6)))]),
    .ret (.and (.cmp .eq (.meth "meet" (.var 0) [(.var 1), (.var 2)]) (.var 7)) (.cmp .eq (.meth "letters" (.meth "hand" (.var 0) [(.var 1)]) []) (.meth "letters" (.meth "hand" (.var 0) [(.var 2)]) [])))]
/-- law(_law_script) slots 0:_law_script 1:_law_many 2:_law_post 3:_law_ways 4:_law_k 5:_law_own 6:_law_other 7:_law_new 8:_law_letter 9:_law_pair 10:_law_rows 11:_law_row 12:_law_slates 13:_law_slate -/
def b98 : List Sm := [.set 1 (.bin .add (.cst (.int 2)) (.call 8 [(.var 0), (.cst (.int 0)), (.cst (.int 2))])),
    .set 2 (.make 2 [(.var 1)]),
    .set 3 (.dnew true),
    .for_ (.nm 4) .rng [(.call 8 [(.var 0), (.cst (.int 1)), (.cst (.int 13))])] [.ife (.not (.call 96 [(.var 2), (.var 0), (.bin .add (.cst (.int 10)) (.bin .mul (.cst (.int 20)) (.var 4))), (.var 1), (.var 3)])) [.ret (.cst (.bl false))] []],
    .for_ (.nm 5) .rng [(.var 1)] [.for_ (.nm 6) .rng [(.var 1)] [.ife (.cmp .ne (.call 95 [(.var 2), (.cst (.int 2)), (.var 5), (.var 6), (.cst (.int 0))]) (.bm .get (.var 3) [(.tup [(.var 5), (.var 6)]), (.lst false [])])) [.ret (.cst (.bl false))] []]],
    .set 7 (.cst (.int 0)),
    .for_ (.tp [(.nm 5), (.nm 6)]) .seq [(.var 3)] [.set 7 (.bin .add (.var 7) (.blt .len [(.lc false [8] (.nm 8) .seq [(.idx (.var 3) (.tup [(.var 5), (.var 6)]))] [(.cmp .notin (.var 8) (.meth "letters" (.meth "hand" (.var 2) [(.var 6)]) []))] (.var 8))]))],
    .ife (.or (.cmp .ne (.meth "carry_all" (.var 2) []) (.var 7)) (.cmp .ne (.lc false [9] (.nm 9) .seq [(.var 3)] [(.cmp .ne (.meth "waiting" (.var 2) [(.idx (.var 9) (.cst (.int 0))), (.idx (.var 9) (.cst (.int 1)))]) (.lst false []))] (.var 9)) (.lst false []))) [.ret (.cst (.bl false))] [],
    .set 10 (.lc false [5] (.nm 5) .rng [(.var 1)] [] (.meth "letters" (.meth "hand" (.var 2) [(.var 5)]) [])),
    .ife (.cmp .ne (.meth "are_alike" (.var 2) []) (.cmp .eq (.lc false [11] (.nm 11) .seq [(.var 10)] [(.cmp .ne (.var 11) (.idx (.var 10) (.cst (.int 0))))] (.var 11)) (.lst false []))) [.ret (.cst (.bl false))] [],
    .for_ (.tp [(.nm 5), (.nm 6)]) .seq [(.lst false [(.tup [(.cst (.int 1)), (.cst (.int 0))]), (.tup [(.bin .sub (.var 1) (.cst (.int 1))), (.cst (.int 0))]), (.tup [(.bin .sub (.var 1) (.cst (.int 1))), (.cst (.int 1))]), (.tup [(.cst (.int 1)), (.cst (.int 0))]), (.tup [(.bin .sub (.var 1) (.cst (.int 1))), (.cst (.int 0))])])] [.ife (.and (.cmp .ne (.var 5) (.var 6)) (.not (.call 97 [(.var 2), (.var 5), (.var 6)]))) [.ret (.cst (.bl false))] []],
    .set 12 (.lc false [5] (.nm 5) .rng [(.var 1)] [] (.meth "told" (.meth "slate" (.meth "hand" (.var 2) [(.var 5)]) []) [])),
    .ife (.or (.cmp .isnot (.meth "are_alike" (.var 2) []) (.cst (.bl true))) (.cmp .ne (.lc false [13] (.nm 13) .seq [(.var 12)] [(.cmp .ne (.var 13) (.idx (.var 12) (.cst (.int 0))))] (.var 13)) (.lst false []))) [.ret (.cst (.bl false))] [],
    .ife (.cmp .ne (.lc false [5] (.nm 5) .seq [(.tup [(.var 1), (.neg (.cst (.int 1)))])] [] (.call 95 [(.var 2), (.cst (.int 3)), (.var 5), (.cst (.int 0)), (.cst (.int 0))])) (.bin .mul (.lst false [(.cst (.str "no hand"))]) (.cst (.int 2)))) [.ret (.cst (.bl false))] [],
    .ret (.and (.cmp .eq (.meth "meet" (.var 2) [(.cst (.int 0)), (.cst (.int 1))]) (.cst (.int 0))) (.and (.cmp .eq (.meth "carry_all" (.var 2) []) (.cst (.int 0))) (.cmp .eq (.call 95 [(.var 2), (.cst (.int 2)), (.var 1), (.cst (.int 0)), (.cst (.int 0))]) (.cst (.str "no hand")))))]
/-- need(slate, name) slots 0:slate 1:name -/
def b100 : List Sm := [.ife (.not (.meth "has" (.var 0) [(.var 1)])) [.raise 11] []]
/-- has_point(box, x, y) slots 0:box 1:x 2:y -/
def b101 : List Sm := [.ret (.and (.chn .le .lt (.idx (.var 0) (.cst (.int 0))) (.var 1) (.bin .add (.idx (.var 0) (.cst (.int 0))) (.idx (.var 0) (.cst (.int 2))))) (.chn .le .lt (.idx (.var 0) (.cst (.int 1))) (.var 2) (.bin .add (.idx (.var 0) (.cst (.int 1))) (.idx (.var 0) (.cst (.int 3))))))]
/-- all_at(slate, x, y) slots 0:slate 1:x 2:y 3:name 4:box 5:colour -/
def b102 : List Sm := [.ret (.lc false [3, 4, 5] (.tp [(.nm 3), (.nm 4), (.nm 5)]) .seq [(.slc false (.meth "row" (.var 0) []) (.cst .non) (.cst .non) (.neg (.cst (.int 1))))] [(.call 101 [(.var 4), (.var 1), (.var 2)])] (.var 3))]
/-- touched(slate, x, y) slots 0:slate 1:x 2:y 3:some -/
def b103 : List Sm := [.set 3 (.call 102 [(.var 0), (.var 1), (.var 2)]),
    .ret (.ite (.cmp .ne (.var 3) (.lst false [])) (.slc false (.meth "path" (.var 0) [(.idx (.var 3) (.cst (.int 0)))]) (.cst .non) (.cst .non) (.neg (.cst (.int 1)))) (.lst false []))]
/-- area(slate, name) slots 0:slate 1:name 2:boxes 3:one 4:left 5:box 6:top -/
def b104 : List Sm := [.drop (.call 100 [(.var 0), (.var 1)]),
    .set 2 (.lc false [3] (.nm 3) .seq [(.meth "shapes" (.var 0) [(.var 1)])] [] (.idx (.idx (.fld (.var 0) "things") (.var 3)) (.cst (.int 1)))),
    .set 4 (.blt .min [(.lc false [5] (.nm 5) .seq [(.var 2)] [] (.idx (.var 5) (.cst (.int 0))))]),
    .set 6 (.blt .min [(.lc false [5] (.nm 5) .seq [(.var 2)] [] (.idx (.var 5) (.cst (.int 1))))]),
    .ret (.tup [(.var 4), (.var 6), (.blt .max [(.lc false [5] (.nm 5) .seq [(.var 2)] [] (.bin .add (.idx (.var 5) (.cst (.int 0))) (.idx (.var 5) (.cst (.int 2)))))]), (.blt .max [(.lc false [5] (.nm 5) .seq [(.var 2)] [] (.bin .add (.idx (.var 5) (.cst (.int 1))) (.idx (.var 5) (.cst (.int 3)))))])])]
/-- within(slate, left, top, right, bottom) slots 0:slate 1:left 2:top 3:right 4:bottom 5:made 6:name 7:box 8:colour -/
def b105 : List Sm := [.set 5 (.lst true []),
    .for_ (.tp [(.nm 6), (.nm 7), (.nm 8)]) .seq [(.meth "row" (.var 0) [])] [.ife (.and (.cmp .le (.var 1) (.idx (.var 7) (.cst (.int 0)))) (.and (.cmp .le (.var 2) (.idx (.var 7) (.cst (.int 1)))) (.and (.cmp .le (.bin .add (.idx (.var 7) (.cst (.int 0))) (.idx (.var 7) (.cst (.int 2)))) (.var 3)) (.cmp .le (.bin .add (.idx (.var 7) (.cst (.int 1))) (.idx (.var 7) (.cst (.int 3)))) (.var 4))))) [.drop (.bm .append (.var 5) [(.var 6)])] []],
    .ret (.var 5)]
/-- seen_colour(slate, x, y) slots 0:slate 1:x 2:y 3:some -/
def b106 : List Sm := [.set 3 (.call 102 [(.var 0), (.var 1), (.var 2)]),
    .ret (.ite (.cmp .ne (.var 3) (.lst false [])) (.idx (.idx (.fld (.var 0) "things") (.idx (.var 3) (.cst (.int 0)))) (.cst (.int 2))) (.cst .non))]
/-- above(slate, one, other) slots 0:slate 1:one 2:other 3:order 4:row 5:lowest 6:name -/
def b107 : List Sm := [.drop (.call 100 [(.var 0), (.var 1)]),
    .drop (.call 100 [(.var 0), (.var 2)]),
    .set 3 (.lc false [4] (.nm 4) .seq [(.meth "row" (.var 0) [])] [] (.idx (.var 4) (.cst (.int 0)))),
    .set 5 (.blt .min [(.lc false [6] (.nm 6) .seq [(.meth "shapes" (.var 0) [(.var 1)])] [] (.bm .index (.var 3) [(.var 6)]))]),
    .ret (.cmp .gt (.var 5) (.blt .max [(.lc false [6] (.nm 6) .seq [(.meth "shapes" (.var 0) [(.var 2)])] [] (.bm .index (.var 3) [(.var 6)]))]))]
/-- _law_act(_law_top, _law_stamp, _law_deed_here) slots 0:_law_top 1:_law_stamp 2:_law_deed_here 3:_law_word_here 4:_law_found 5:_law_row 6:_law_node 7:_law_around 8:_law_one -/
def b108 : List Sm := [.set 3 (.idx (.var 2) (.cst (.int 0))),
    .ife (.cmp .eq (.var 3) (.cst (.str "draw"))) [.drop (.bm .append (.var 0) [(.lst false [(.cst (.str "shape")), (.var 1), (.blt (.list false) [(.idx (.var 2) (.cst (.int 1)))]), (.cst (.int 0)), (.cst .non)])])] [.ife (.cmp .eq (.var 3) (.cst (.str "group"))) [.drop (.call 40 [(.var 0), (.var 1), (.idx (.var 1) (.cst (.int 1))), (.idx (.var 2) (.cst (.int 1)))])] []],
    .set 4 (.ite (.cmp .notin (.var 3) (.tup [(.cst (.str "draw")), (.cst (.str "group")), (.cst (.str "undo"))])) (.call 38 [(.var 0), (.idx (.var 2) (.cst (.int 1))), (.lst false [])]) (.cst .non)),
    .ife (.or (.cmp .is (.var 4) (.cst .non)) (.not (.call 41 [(.idx (.var 1) (.cst (.int 1))), (.var 4)]))) [.retN] [],
    .setT [(.nm 5), (.nm 6), (.nm 7)] (.var 4),
    .ife (.cmp .eq (.var 3) (.cst (.str "move"))) [.for_ (.nm 8) .seq [(.call 39 [(.var 6)])] [.ife (.cmp .eq (.idx (.var 8) (.cst (.int 0))) (.cst (.str "shape"))) [.setI (.var 8) (.cst (.int 2)) (.bin .add (.lst false [(.bin .add (.idx (.idx (.var 8) (.cst (.int 2))) (.cst (.int 0))) (.idx (.var 2) (.cst (.int 2)))), (.bin .add (.idx (.idx (.var 8) (.cst (.int 2))) (.cst (.int 1))) (.idx (.var 2) (.cst (.int 3))))]) (.slc false (.idx (.var 8) (.cst (.int 2))) (.cst (.int 2)) (.cst .non) (.cst .non)))] []]] [.ife (.and (.cmp .eq (.var 3) (.cst (.str "size"))) (.cmp .eq (.idx (.var 6) (.cst (.int 0))) (.cst (.str "shape")))) [.setI (.var 6) (.cst (.int 2)) (.bin .add (.slc false (.idx (.var 6) (.cst (.int 2))) (.cst .non) (.cst (.int 2)) (.cst .non)) (.blt (.list false) [(.slc false (.var 2) (.cst (.int 2)) (.cst .non) (.cst .non))]))] [.ife (.and (.cmp .eq (.var 3) (.cst (.str "colour"))) (.cmp .eq (.idx (.var 6) (.cst (.int 0))) (.cst (.str "shape")))) [.setI (.var 6) (.cst (.int 3)) (.idx (.var 2) (.cst (.int 2)))] [.ife (.cmp .isin (.var 3) (.tup [(.cst (.str "lock")), (.cst (.str "unlock"))])) [.setI (.var 6) (.cst (.int 4)) (.ite (.cmp .eq (.var 3) (.cst (.str "lock"))) (.idx (.var 1) (.cst (.int 1))) (.cst .non))] [.drop (.call 109 [(.var 5), (.var 6), (.var 7), (.var 3), (.var 0)])]]]]]
/-- _law_laid(_law_row, _law_node, _law_around, _law_word_here, _law_top) slots 0:_law_row 1:_law_node 2:_law_around 3:_law_word_here 4:_law_top 5:_law_at 6:_law_k 7:_law_here -/
def b109 : List Sm := [.set 5 (.bm .index (.var 0) [(.var 1)]),
    .ife (.cmp .eq (.var 3) (.cst (.str "raise"))) [.drop (.bm .append (.var 0) [(.bm .pop (.var 0) [(.var 5)])])] [.ife (.cmp .eq (.var 3) (.cst (.str "lower"))) [.drop (.bm .insert (.var 0) [(.cst (.int 0)), (.bm .pop (.var 0) [(.var 5)])])] [.ife (.and (.cmp .eq (.var 3) (.cst (.str "ungroup"))) (.cmp .eq (.idx (.var 1) (.cst (.int 0))) (.cst (.str "group")))) [.setS (.var 0) (.var 5) (.bin .add (.var 5) (.cst (.int 1))) (.idx (.var 1) (.cst (.int 2)))] [.ife (.cmp .eq (.var 3) (.cst (.str "erase"))) [.drop (.bm .pop (.var 0) [(.var 5)]),
    .for_ (.nm 6) .rng [(.blt .len [(.var 2)])] [.set 7 (.idx (.var 2) (.bin .sub (.bin .sub (.blt .len [(.var 2)]) (.cst (.int 1))) (.var 6))),
    .ife (.cmp .eq (.idx (.var 7) (.cst (.int 2))) (.lst false [])) [.drop (.bm .remove (.idx (.call 38 [(.var 4), (.idx (.var 7) (.cst (.int 1))), (.lst false [])]) (.cst (.int 0))) [(.var 7)])] []]] []]]]]
/-- _law_board(_law_letters) slots 0:_law_letters 1:_law_top 2:_law_stamp 3:_law_number 4:_law_deed_here -/
def b110 : List Sm := [.set 1 (.lst true []),
    .for_ (.tp [(.nm 2), (.nm 3), (.nm 4)]) .seq [(.call 44 [(.var 0)])] [.drop (.call 108 [(.var 1), (.var 2), (.var 4)])],
    .ret (.var 1)]
/-- _law_tried(_law_what, _law_slate, _law_one, _law_other) slots 0:_law_what 1:_law_slate 2:_law_one 3:_law_other 4:_law_kept 5:_law_answer 6:e -/
def b111 : List Sm := [.set 4 (.cst .non),
    .set 5 (.cst .non),
    .try_ [.set 5 (.ite (.cmp .eq (.var 0) (.cst (.int 0))) (.call 104 [(.var 1), (.var 2)]) (.call 107 [(.var 1), (.var 2), (.var 3)]))] 10 (some 6) [.set 4 (.var 6)],
    .ife (.cmp .is (.var 4) (.cst .non)) [.ret (.var 5)] [],
    .ret (.call 51 [(.var 4)])]
/-- _law_ends(_law_some) slots 0:_law_some 1:_law_left 2:_law_one 3:_law_up 4:_law_right -/
def b112 : List Sm := [.set 1 (.blt .min [(.lc false [2] (.nm 2) .seq [(.var 0)] [] (.idx (.idx (.var 2) (.cst (.int 2))) (.cst (.int 0))))]),
    .set 3 (.blt .min [(.lc false [2] (.nm 2) .seq [(.var 0)] [] (.idx (.idx (.var 2) (.cst (.int 2))) (.cst (.int 1))))]),
    .set 4 (.blt .max [(.lc false [2] (.nm 2) .seq [(.var 0)] [] (.bin .add (.idx (.idx (.var 2) (.cst (.int 2))) (.cst (.int 0))) (.idx (.idx (.var 2) (.cst (.int 2))) (.cst (.int 2)))))]),
    .ret (.tup [(.var 1), (.var 3), (.var 4), (.blt .max [(.lc false [2] (.nm 2) .seq [(.var 0)] [] (.bin .add (.idx (.idx (.var 2) (.cst (.int 2))) (.cst (.int 1))) (.idx (.idx (.var 2) (.cst (.int 2))) (.cst (.int 3)))))])])]
/-- _law_are_right(_law_script, _law_slate, _law_top, _law_rows) slots 0:_law_script 1:_law_slate 2:_law_top 3:_law_rows 4:_law_names 5:_law_node 6:_law_one 7:_law_order 8:_law_row 9:_law_name 10:_law_some 11:_law_other 12:_law_more 13:_law_is_over -/
def b113 : List Sm := [.set 4 (.lst true []),
    .for_ (.nm 5) .seq [(.var 2)] [.drop (.bm .extend (.var 4) [(.lc false [6] (.nm 6) .seq [(.call 39 [(.var 5)])] [] (.idx (.var 6) (.cst (.int 1))))])],
    .set 7 (.lc false [8] (.nm 8) .seq [(.var 3)] [] (.idx (.var 8) (.cst (.int 0)))),
    .for_ (.nm 9) .seq [(.var 4)] [.set 5 (.idx (.call 38 [(.var 2), (.var 9), (.lst false [])]) (.cst (.int 1))),
    .set 10 (.lc false [6] (.nm 6) .seq [(.call 39 [(.var 5)])] [(.cmp .eq (.idx (.var 6) (.cst (.int 0))) (.cst (.str "shape")))] (.var 6)),
    .ife (.or (.cmp .ne (.call 111 [(.cst (.int 0)), (.var 1), (.var 9), (.cst .non)]) (.call 112 [(.var 10)])) (.cmp .ne (.meth "shapes" (.var 1) [(.var 9)]) (.lc false [6] (.nm 6) .seq [(.var 10)] [] (.idx (.var 6) (.cst (.int 1)))))) [.ret (.cst (.bl false))] [],
    .ife (.cmp .ne (.meth "members" (.var 1) [(.var 9)]) (.ite (.cmp .eq (.idx (.var 5) (.cst (.int 0))) (.cst (.str "group"))) (.lc false [6] (.nm 6) .seq [(.idx (.var 5) (.cst (.int 2)))] [] (.idx (.var 6) (.cst (.int 1)))) (.lst false []))) [.ret (.cst (.bl false))] [],
    .ife (.cmp .ne (.slc false (.meth "path" (.var 1) [(.var 9)]) (.cst .non) (.cst .non) (.neg (.cst (.int 1)))) (.bin .add (.lc false [6] (.nm 6) .seq [(.idx (.call 38 [(.var 2), (.var 9), (.lst false [])]) (.cst (.int 2)))] [] (.idx (.var 6) (.cst (.int 1)))) (.lst false [(.var 9)]))) [.ret (.cst (.bl false))] [],
    .set 11 (.idx (.var 4) (.call 8 [(.var 0), (.cst (.int 340)), (.blt .len [(.var 4)])])),
    .set 12 (.lc false [6] (.nm 6) .seq [(.call 39 [(.idx (.call 38 [(.var 2), (.var 11), (.lst false [])]) (.cst (.int 1)))])] [(.cmp .eq (.idx (.var 6) (.cst (.int 0))) (.cst (.str "shape")))] (.idx (.var 6) (.cst (.int 1)))),
    .set 13 (.cmp .gt (.blt .min [(.lc false [6] (.nm 6) .seq [(.var 10)] [] (.bm .index (.var 7) [(.idx (.var 6) (.cst (.int 1)))]))]) (.blt .max [(.lc false [6] (.nm 6) .seq [(.var 12)] [] (.bm .index (.var 7) [(.var 6)]))])),
    .ife (.cmp .ne (.call 111 [(.cst (.int 1)), (.var 1), (.var 9), (.var 11)]) (.var 13)) [.ret (.cst (.bl false))] [],
    .ife (.cmp .ne (.lc false [6] (.nm 6) .seq [(.meth "path" (.var 1) [(.var 9)])] [] (.call 111 [(.cst (.int 1)), (.var 1), (.var 9), (.var 6)])) (.bin .mul (.lst false [(.cst (.bl false))]) (.blt .len [(.meth "path" (.var 1) [(.var 9)])]))) [.ret (.cst (.bl false))] [],
    .ife (.cmp .ne (.lst false [(.call 111 [(.cst (.int 1)), (.var 1), (.var 9), (.tup [(.cst (.int 99)), (.cst (.int 0))])]), (.call 111 [(.cst (.int 1)), (.var 1), (.tup [(.cst (.int 99)), (.cst (.int 0))]), (.var 9)])]) (.bin .mul (.lst false [(.cst (.str "no thing"))]) (.cst (.int 2)))) [.ret (.cst (.bl false))] []],
    .ret (.cst (.bl true))]
/-- law(_law_script) slots 0:_law_script 1:_law_letters 2:_law_top 3:_law_slate 4:_law_rows 5:_law_k 6:_law_x 7:_law_y 8:_law_some 9:_law_row 10:_law_path 11:_law_node 12:_law_left 13:_law_up 14:_law_right 15:_law_down 16:_law_due 17:_law_name 18:_law_box 19:_law_colour -/
def b114 : List Sm := [.set 1 (.call 10 [(.var 0), (.cst (.int 0)), (.cst (.int 14))]),
    .set 2 (.call 110 [(.var 1)]),
    .set 3 (.call 36 [(.var 1)]),
    .set 4 (.call 46 [(.var 2)]),
    .for_ (.nm 5) .rng [(.cst (.int 6))] [.set 6 (.bin .sub (.call 8 [(.var 0), (.bin .add (.cst (.int 300)) (.bin .mul (.cst (.int 2)) (.var 5))), (.cst (.int 20))]) (.cst (.int 3))),
    .set 7 (.bin .sub (.call 8 [(.var 0), (.bin .add (.cst (.int 301)) (.bin .mul (.cst (.int 2)) (.var 5))), (.cst (.int 20))]) (.cst (.int 3))),
    .set 8 (.lc false [9] (.nm 9) .seq [(.slc false (.var 4) (.cst .non) (.cst .non) (.neg (.cst (.int 1))))] [(.and (.chn .le .lt (.cst (.int 0)) (.bin .sub (.var 6) (.idx (.idx (.var 9) (.cst (.int 1))) (.cst (.int 0)))) (.idx (.idx (.var 9) (.cst (.int 1))) (.cst (.int 2)))) (.chn .le .lt (.cst (.int 0)) (.bin .sub (.var 7) (.idx (.idx (.var 9) (.cst (.int 1))) (.cst (.int 1)))) (.idx (.idx (.var 9) (.cst (.int 1))) (.cst (.int 3)))))] (.var 9)),
    .set 10 (.lst false []),
    .ife (.cmp .ne (.var 8) (.lst false [])) [.set 10 (.bin .add (.lc false [11] (.nm 11) .seq [(.idx (.call 38 [(.var 2), (.idx (.idx (.var 8) (.cst (.int 0))) (.cst (.int 0))), (.lst false [])]) (.cst (.int 2)))] [] (.idx (.var 11) (.cst (.int 1)))) (.lst false [(.idx (.idx (.var 8) (.cst (.int 0))) (.cst (.int 0)))]))] [],
    .ife (.or (.cmp .ne (.call 102 [(.var 3), (.var 6), (.var 7)]) (.lc false [9] (.nm 9) .seq [(.var 8)] [] (.idx (.var 9) (.cst (.int 0))))) (.cmp .ne (.call 103 [(.var 3), (.var 6), (.var 7)]) (.var 10))) [.ret (.cst (.bl false))] [],
    .ife (.cmp .ne (.call 106 [(.var 3), (.var 6), (.var 7)]) (.ite (.cmp .ne (.var 8) (.lst false [])) (.idx (.idx (.var 8) (.cst (.int 0))) (.cst (.int 2))) (.cst .non))) [.ret (.cst (.bl false))] []],
    .setT [(.nm 12), (.nm 13)] (.tup [(.bin .sub (.call 8 [(.var 0), (.cst (.int 330)), (.cst (.int 10))]) (.cst (.int 3))), (.bin .sub (.call 8 [(.var 0), (.cst (.int 331)), (.cst (.int 10))]) (.cst (.int 3)))]),
    .setT [(.nm 14), (.nm 15)] (.tup [(.bin .add (.var 12) (.call 8 [(.var 0), (.cst (.int 332)), (.cst (.int 20))])), (.bin .add (.var 13) (.call 8 [(.var 0), (.cst (.int 333)), (.cst (.int 20))]))]),
    .set 16 (.lst true []),
    .for_ (.tp [(.nm 17), (.nm 18), (.nm 19)]) .seq [(.var 4)] [.ife (.and (.cmp .ge (.idx (.var 18) (.cst (.int 0))) (.var 12)) (.and (.cmp .ge (.idx (.var 18) (.cst (.int 1))) (.var 13)) (.and (.cmp .le (.bin .add (.idx (.var 18) (.cst (.int 0))) (.idx (.var 18) (.cst (.int 2)))) (.var 14)) (.cmp .le (.bin .add (.idx (.var 18) (.cst (.int 1))) (.idx (.var 18) (.cst (.int 3)))) (.var 15))))) [.drop (.bm .append (.var 16) [(.var 17)])] []],
    .ife (.cmp .ne (.call 105 [(.var 3), (.var 12), (.var 13), (.var 14), (.var 15)]) (.var 16)) [.ret (.cst (.bl false))] [],
    .ife (.not (.call 113 [(.var 0), (.var 3), (.var 2), (.var 4)])) [.ret (.cst (.bl false))] [],
    .ret (.and (.cmp .eq (.call 111 [(.cst (.int 0)), (.var 3), (.tup [(.cst (.int 99)), (.cst (.int 0))]), (.cst .non)]) (.cst (.str "no thing"))) (.cmp .eq (.call 111 [(.cst (.int 1)), (.var 3), (.tup [(.cst (.int 99)), (.cst (.int 0))]), (.tup [(.cst (.int 99)), (.cst (.int 1))])]) (.cst (.str "no thing"))))]
/-- covered(slate, name) slots 0:slate 1:name 2:many 3:one 4:box 5:x 6:some 7:y -/
def b115 : List Sm := [.drop (.call 100 [(.var 0), (.var 1)]),
    .set 2 (.cst (.int 0)),
    .for_ (.nm 3) .seq [(.meth "shapes" (.var 0) [(.var 1)])] [.set 4 (.idx (.idx (.fld (.var 0) "things") (.var 3)) (.cst (.int 1))),
    .for_ (.nm 5) .rng [(.idx (.var 4) (.cst (.int 0))), (.bin .add (.idx (.var 4) (.cst (.int 0))) (.idx (.var 4) (.cst (.int 2))))] [.set 6 (.lc false [7] (.nm 7) .rng [(.idx (.var 4) (.cst (.int 1))), (.bin .add (.idx (.var 4) (.cst (.int 1))) (.idx (.var 4) (.cst (.int 3))))] [(.cmp .ne (.idx (.call 102 [(.var 0), (.var 5), (.var 7)]) (.cst (.int 0))) (.var 3))] (.var 7)),
    .set 2 (.bin .add (.var 2) (.blt .len [(.var 6)]))]],
    .ret (.var 2)]
/-- _law_rows(_law_slate, _law_name) slots 0:_law_slate 1:_law_name 2:_law_one -/
def b116 : List Sm := [.for_ (.nm 2) .seq [(.idx (.meth "told" (.var 0) []) (.cst (.int 1)))] [.ife (.and (.cmp .eq (.idx (.idx (.var 2) (.cst (.int 1))) (.cst (.int 0))) (.cst (.str "group"))) (.cmp .isin (.var 1) (.idx (.idx (.var 2) (.cst (.int 1))) (.cst (.int 1))))) [.ret (.blt (.list false) [(.idx (.idx (.var 2) (.cst (.int 1))) (.cst (.int 1)))])] []],
    .ret (.blt (.list false) [(.idx (.meth "told" (.var 0) []) (.cst (.int 0)))])]
/-- law(_law_script) slots 0:_law_script 1:_law_letters 2:_law_one 3:_law_slate 4:_law_names 5:_law_name 6:_law_row 7:_law_rest 8:_law_up 9:_law_down 10:_law_others 11:_law_steps 12:_law_k 13:_law_high 14:_law_inner 15:_law_last 16:_law_x 17:_law_y -/
def b117 : List Sm := [.set 1 (.lc false [2] (.nm 2) .seq [(.call 10 [(.var 0), (.cst (.int 0)), (.cst (.int 10))])] [(.cmp .notin (.idx (.idx (.var 2) (.cst (.int 2))) (.cst (.int 0))) (.tup [(.cst (.str "lock")), (.cst (.str "undo"))]))] (.var 2)),
    .set 3 (.call 36 [(.var 1)]),
    .set 4 (.lc false [2] (.nm 2) .seq [(.idx (.meth "told" (.var 3) []) (.cst (.int 1)))] [] (.idx (.var 2) (.cst (.int 0)))),
    .ife (.cmp .eq (.var 4) (.lst false [])) [.ret (.cmp .eq (.meth "row" (.var 3) []) (.lst false []))] [],
    .set 5 (.idx (.var 4) (.call 8 [(.var 0), (.cst (.int 300)), (.blt .len [(.var 4)])])),
    .set 6 (.call 116 [(.var 3), (.var 5)]),
    .set 7 (.lc false [2] (.nm 2) .seq [(.var 6)] [(.cmp .ne (.var 2) (.var 5))] (.var 2)),
    .set 8 (.call 58 [(.var 3), (.lst false [(.tup [(.tup [(.cst (.int 50)), (.cst (.int 0))]), (.cst (.int 0)), (.tup [(.cst (.str "raise")), (.var 5)])])])]),
    .set 9 (.call 58 [(.var 3), (.lst false [(.tup [(.tup [(.cst (.int 50)), (.cst (.int 0))]), (.cst (.int 0)), (.tup [(.cst (.str "lower")), (.var 5)])])])]),
    .ife (.or (.cmp .ne (.call 116 [(.var 8), (.var 5)]) (.bin .add (.var 7) (.lst false [(.var 5)]))) (.cmp .ne (.call 116 [(.var 9), (.var 5)]) (.bin .add (.lst false [(.var 5)]) (.var 7)))) [.ret (.cst (.bl false))] [],
    .ife (.cmp .ne (.meth "told" (.call 58 [(.var 8), (.lst false [(.tup [(.tup [(.cst (.int 51)), (.cst (.int 1))]), (.cst (.int 0)), (.tup [(.cst (.str "raise")), (.var 5)])])])]) []) (.meth "told" (.var 8) [])) [.ret (.cst (.bl false))] [],
    .ife (.cmp .ne (.meth "told" (.call 58 [(.var 8), (.lst false [(.tup [(.tup [(.cst (.int 51)), (.cst (.int 1))]), (.cst (.int 0)), (.tup [(.cst (.str "lower")), (.var 5)])])])]) []) (.meth "told" (.var 9) [])) [.ret (.cst (.bl false))] [],
    .set 10 (.lc false [2] (.nm 2) .seq [(.idx (.meth "told" (.var 3) []) (.cst (.int 1)))] [(.or (.cmp .eq (.idx (.idx (.var 2) (.cst (.int 1))) (.cst (.int 0))) (.cst (.str "shape"))) (.cmp .notin (.var 5) (.idx (.idx (.var 2) (.cst (.int 1))) (.cst (.int 1)))))] (.var 2)),
    .ife (.cmp .ne (.lc false [2] (.nm 2) .seq [(.var 10)] [(.cmp .notin (.var 2) (.idx (.meth "told" (.var 8) []) (.cst (.int 1))))] (.var 2)) (.lst false [])) [.ret (.cst (.bl false))] [],
    .set 11 (.lc false [12, 2] (.tp [(.nm 12), (.nm 2)]) .enum [(.meth "path" (.var 3) [(.var 5)])] [] (.tup [(.tup [(.bin .add (.cst (.int 60)) (.var 12)), (.cst (.int 2))]), (.var 12), (.tup [(.cst (.str "raise")), (.var 2)])])),
    .set 13 (.call 58 [(.var 3), (.var 11)]),
    .set 14 (.meth "shapes" (.var 13) [(.var 5)]),
    .ife (.cmp .ne (.slc false (.meth "row" (.var 13) []) (.bin .sub (.cst (.int 0)) (.blt .len [(.var 14)])) (.cst .non) (.cst .non)) (.lc false [2] (.nm 2) .seq [(.meth "row" (.var 13) [])] [(.cmp .isin (.idx (.var 2) (.cst (.int 0))) (.var 14))] (.var 2))) [.ret (.cst (.bl false))] [],
    .set 15 (.idx (.meth "row" (.var 13) []) (.neg (.cst (.int 1)))),
    .ife (.cmp .ne (.call 115 [(.var 13), (.idx (.var 15) (.cst (.int 0)))]) (.cst (.int 0))) [.ret (.cst (.bl false))] [],
    .setT [(.nm 16), (.nm 17)] (.tup [(.bin .add (.idx (.idx (.var 15) (.cst (.int 1))) (.cst (.int 0))) (.call 8 [(.var 0), (.cst (.int 301)), (.idx (.idx (.var 15) (.cst (.int 1))) (.cst (.int 2)))])), (.bin .add (.idx (.idx (.var 15) (.cst (.int 1))) (.cst (.int 1))) (.call 8 [(.var 0), (.cst (.int 302)), (.idx (.idx (.var 15) (.cst (.int 1))) (.cst (.int 3)))]))]),
    .ret (.cmp .eq (.idx (.call 102 [(.var 13), (.var 16), (.var 17)]) (.cst (.int 0))) (.idx (.var 15) (.cst (.int 0))))]
/-- _law_is_tree(_law_slate) slots 0:_law_slate 1:_law_rows 2:_law_name 3:_law_what 4:_law_together 5:_law_row 6:_law_empty 7:_law_one -/
def b118 : List Sm := [.set 1 (.lst true [(.blt (.list false) [(.idx (.meth "told" (.var 0) []) (.cst (.int 0)))])]),
    .for_ (.tp [(.nm 2), (.nm 3)]) .seq [(.idx (.meth "told" (.var 0) []) (.cst (.int 1)))] [.ife (.cmp .eq (.idx (.var 3) (.cst (.int 0))) (.cst (.str "group"))) [.drop (.bm .append (.var 1) [(.blt (.list false) [(.idx (.var 3) (.cst (.int 1)))])])] []],
    .set 4 (.lst true []),
    .for_ (.nm 5) .seq [(.var 1)] [.drop (.bm .extend (.var 4) [(.var 5)])],
    .set 6 (.lc false [5] (.nm 5) .seq [(.slc false (.var 1) (.cst (.int 1)) (.cst .non) (.cst .non))] [(.cmp .eq (.var 5) (.lst false []))] (.var 5)),
    .ret (.and (.cmp .eq (.blt .sorted [(.var 4)]) (.lc false [7] (.nm 7) .seq [(.idx (.meth "told" (.var 0) []) (.cst (.int 1)))] [] (.idx (.var 7) (.cst (.int 0))))) (.cmp .eq (.var 6) (.lst false [])))]
/-- law(_law_script) slots 0:_law_script 1:_law_slate 2:_law_one 3:_law_top 4:_law_some 5:_law_k 6:_law_group 7:_law_members 8:_law_name 9:_law_due 10:_law_two 11:_law_at 12:_law_by 13:_law_inner 14:_law_three 15:_law_old 16:_law_new 17:_law_box 18:_law_four 19:_law_row 20:_law_five -/
def b119 : List Sm := [.set 1 (.call 36 [(.lc false [2] (.nm 2) .seq [(.call 10 [(.var 0), (.cst (.int 0)), (.cst (.int 10))])] [(.cmp .notin (.idx (.idx (.var 2) (.cst (.int 2))) (.cst (.int 0))) (.tup [(.cst (.str "lock")), (.cst (.str "undo"))]))] (.var 2))]),
    .set 3 (.blt (.list true) [(.idx (.meth "told" (.var 1) []) (.cst (.int 0)))]),
    .ife (.or (.not (.call 118 [(.var 1)])) (.cmp .lt (.blt .len [(.var 3)]) (.cst (.int 2)))) [.ret (.call 118 [(.var 1)])] [],
    .set 4 (.blt .sortedset [(.lc false [5] (.nm 5) .rng [(.cst (.int 3))] [] (.idx (.var 3) (.call 8 [(.var 0), (.bin .add (.cst (.int 300)) (.var 5)), (.blt .len [(.var 3)])])))]),
    .set 4 (.ite (.cmp .gt (.blt .len [(.var 4)]) (.cst (.int 1))) (.var 4) (.slc false (.var 3) (.cst .non) (.cst (.int 2)) (.cst .non))),
    .set 6 (.tup [(.cst (.int 50)), (.cst (.int 0))]),
    .set 2 (.call 58 [(.var 1), (.lst false [(.tup [(.var 6), (.cst (.int 0)), (.tup [(.cst (.str "group")), (.blt .tuple [(.var 4)])])])])]),
    .set 7 (.lc false [8] (.nm 8) .seq [(.var 3)] [(.cmp .isin (.var 8) (.var 4))] (.var 8)),
    .set 9 (.lc false [8] (.nm 8) .seq [(.var 3)] [(.cmp .notin (.var 8) (.slc false (.var 7) (.cst .non) (.neg (.cst (.int 1))) (.cst .non)))] (.ite (.cmp .eq (.var 8) (.idx (.var 7) (.neg (.cst (.int 1))))) (.var 6) (.var 8))),
    .ife (.or (.cmp .ne (.blt (.list false) [(.idx (.meth "told" (.var 2) []) (.cst (.int 0)))]) (.var 9)) (.or (.cmp .ne (.meth "members" (.var 2) [(.var 6)]) (.var 7)) (.not (.call 118 [(.var 2)])))) [.ret (.cst (.bl false))] [],
    .set 10 (.call 58 [(.var 2), (.lst false [(.tup [(.tup [(.cst (.int 51)), (.cst (.int 1))]), (.cst (.int 0)), (.tup [(.cst (.str "ungroup")), (.var 6)])])])]),
    .set 11 (.bm .index (.var 9) [(.var 6)]),
    .ife (.or (.cmp .ne (.blt (.list false) [(.idx (.meth "told" (.var 10) []) (.cst (.int 0)))]) (.bin .add (.bin .add (.slc false (.var 9) (.cst .non) (.var 11) (.cst .non)) (.var 7)) (.slc false (.var 9) (.bin .add (.var 11) (.cst (.int 1))) (.cst .non) (.cst .non)))) (.cmp .ne (.idx (.meth "told" (.var 10) []) (.cst (.int 1))) (.idx (.meth "told" (.var 1) []) (.cst (.int 1))))) [.ret (.cst (.bl false))] [],
    .set 12 (.tup [(.bin .sub (.call 8 [(.var 0), (.cst (.int 310)), (.cst (.int 9))]) (.cst (.int 4))), (.bin .sub (.call 8 [(.var 0), (.cst (.int 311)), (.cst (.int 9))]) (.cst (.int 4)))]),
    .set 13 (.meth "shapes" (.var 2) [(.var 6)]),
    .set 14 (.call 58 [(.var 2), (.lst false [(.tup [(.tup [(.cst (.int 51)), (.cst (.int 1))]), (.cst (.int 0)), (.bin .add (.tup [(.cst (.str "move")), (.var 6)]) (.var 12))])])]),
    .for_ (.tp [(.nm 15), (.nm 16)]) .zip [(.meth "row" (.var 2) []), (.meth "row" (.var 14) [])] [.set 17 (.idx (.var 15) (.cst (.int 1))),
    .ife (.cmp .isin (.idx (.var 15) (.cst (.int 0))) (.var 13)) [.set 17 (.bin .add (.tup [(.bin .add (.idx (.var 17) (.cst (.int 0))) (.idx (.var 12) (.cst (.int 0)))), (.bin .add (.idx (.var 17) (.cst (.int 1))) (.idx (.var 12) (.cst (.int 1))))]) (.slc false (.var 17) (.cst (.int 2)) (.cst .non) (.cst .non)))] [],
    .ife (.cmp .ne (.var 16) (.tup [(.idx (.var 15) (.cst (.int 0))), (.var 17), (.idx (.var 15) (.cst (.int 2)))])) [.ret (.cst (.bl false))] []],
    .set 18 (.call 58 [(.var 2), (.lst false [(.tup [(.tup [(.cst (.int 51)), (.cst (.int 1))]), (.cst (.int 0)), (.tup [(.cst (.str "erase")), (.var 6)])])])]),
    .ife (.or (.cmp .ne (.meth "row" (.var 18) []) (.lc false [19] (.nm 19) .seq [(.meth "row" (.var 2) [])] [(.cmp .notin (.idx (.var 19) (.cst (.int 0))) (.var 13))] (.var 19))) (.not (.call 118 [(.var 18)]))) [.ret (.cst (.bl false))] [],
    .set 20 (.call 58 [(.var 2), (.lst false [(.tup [(.tup [(.cst (.int 51)), (.cst (.int 1))]), (.cst (.int 0)), (.tup [(.cst (.str "erase")), (.idx (.var 7) (.cst (.int 0)))])])])]),
    .ret (.and (.call 118 [(.var 20)]) (.cmp .eq (.meth "members" (.var 20) [(.var 6)]) (.slc false (.var 7) (.cst (.int 1)) (.cst .non) (.cst .non))))]
/-- _law_covered(_law_slate, _law_name) slots 0:_law_slate 1:_law_name 2:_law_kept 3:_law_answer 4:e -/
def b120 : List Sm := [.set 2 (.cst .non),
    .set 3 (.cst .non),
    .try_ [.set 3 (.call 115 [(.var 0), (.var 1)])] 10 (some 4) [.set 2 (.var 4)],
    .ife (.cmp .is (.var 2) (.cst .non)) [.ret (.var 3)] [],
    .ret (.call 51 [(.var 2)])]
/-- law(_law_script) slots 0:_law_script 1:_law_slate 2:_law_rows 3:_law_points 4:_law_name 5:_law_box 6:_law_colour 7:_law_x 8:_law_y 9:_law_counts 10:_law_free 11:_law_seen 12:_law_point 13:_law_what 14:_law_inner 15:_law_one 16:_law_k -/
def b121 : List Sm := [.set 1 (.call 36 [(.call 10 [(.var 0), (.cst (.int 0)), (.cst (.int 7))])]),
    .set 2 (.meth "row" (.var 1) []),
    .set 3 (.dnew true),
    .for_ (.tp [(.nm 4), (.nm 5), (.nm 6)]) .seq [(.var 2)] [.for_ (.nm 7) .rng [(.idx (.var 5) (.cst (.int 0))), (.bin .add (.idx (.var 5) (.cst (.int 0))) (.idx (.var 5) (.cst (.int 2))))] [.for_ (.nm 8) .rng [(.idx (.var 5) (.cst (.int 1))), (.bin .add (.idx (.var 5) (.cst (.int 1))) (.idx (.var 5) (.cst (.int 3))))] [.setI (.var 3) (.tup [(.var 7), (.var 8)]) (.var 4)]]],
    .set 9 (.dnew true),
    .set 10 (.cst (.int 0)),
    .for_ (.tp [(.nm 4), (.nm 5), (.nm 6)]) .seq [(.var 2)] [.set 11 (.blt .len [(.lc false [12] (.nm 12) .seq [(.var 3)] [(.cmp .eq (.idx (.var 3) (.var 12)) (.var 4))] (.var 12))]),
    .setI (.var 9) (.var 4) (.bin .sub (.bin .mul (.idx (.var 5) (.cst (.int 2))) (.idx (.var 5) (.cst (.int 3)))) (.var 11)),
    .set 10 (.bin .add (.var 10) (.var 11)),
    .ife (.cmp .ne (.call 120 [(.var 1), (.var 4)]) (.idx (.var 9) (.var 4))) [.ret (.cst (.bl false))] []],
    .for_ (.tp [(.nm 4), (.nm 13)]) .seq [(.idx (.meth "told" (.var 1) []) (.cst (.int 1)))] [.set 14 (.meth "shapes" (.var 1) [(.var 4)]),
    .ife (.and (.cmp .eq (.idx (.var 13) (.cst (.int 0))) (.cst (.str "group"))) (.cmp .ne (.call 120 [(.var 1), (.var 4)]) (.blt .sum [(.lc false [15] (.nm 15) .seq [(.var 14)] [] (.idx (.var 9) (.var 15)))]))) [.ret (.cst (.bl false))] []],
    .for_ (.nm 16) .rng [(.cst (.int 3))] [.set 7 (.call 8 [(.var 0), (.bin .add (.cst (.int 300)) (.bin .mul (.cst (.int 2)) (.var 16))), (.cst (.int 16))]),
    .set 8 (.call 8 [(.var 0), (.bin .add (.cst (.int 301)) (.bin .mul (.cst (.int 2)) (.var 16))), (.cst (.int 16))]),
    .ife (.cmp .ne (.slc false (.call 102 [(.var 1), (.var 7), (.var 8)]) (.cst .non) (.cst (.int 1)) (.cst .non)) (.ite (.cmp .isin (.tup [(.var 7), (.var 8)]) (.var 3)) (.lst false [(.idx (.var 3) (.tup [(.var 7), (.var 8)]))]) (.lst false []))) [.ret (.cst (.bl false))] []],
    .ret (.and (.cmp .eq (.var 10) (.blt .len [(.var 3)])) (.cmp .eq (.call 120 [(.var 1), (.tup [(.cst (.int 99)), (.cst (.int 2))])]) (.cst (.str "no thing"))))]
/-- parts_of(slate) slots 0:slate 1:row 2:things 3:locked 4:shapes 5:stamp 6:what -/
def b122 : List Sm := [.setT [(.nm 1), (.nm 2), (.nm 3)] (.meth "told" (.var 0) []),
    .set 4 (.blt .len [(.lc false [5, 6] (.tp [(.nm 5), (.nm 6)]) .seq [(.var 2)] [(.cmp .eq (.idx (.var 6) (.cst (.int 0))) (.cst (.str "shape")))] (.cst (.int 1)))]),
    .ret (.tup [(.var 4), (.bin .sub (.blt .len [(.var 2)]) (.var 4)), (.blt .len [(.var 3)])])]
/-- heights_of(slate) slots 0:slate 1:at 2:stamp 3:box 4:colour -/
def b123 : List Sm := [.ret (.blt .sorted [(.lc false [1, 2, 3, 4] (.tp [(.nm 1), (.tp [(.nm 2), (.nm 3), (.nm 4)])]) .enum [(.meth "row" (.var 0) [])] [] (.tup [(.var 2), (.var 1)]))])]
/-- groups_on(slate) slots 0:slate 1:row 2:things 3:locked 4:stamp 5:what -/
def b124 : List Sm := [.setT [(.nm 1), (.nm 2), (.nm 3)] (.meth "told" (.var 0) []),
    .ret (.lc false [4, 5] (.tp [(.nm 4), (.nm 5)]) .seq [(.var 2)] [(.cmp .eq (.idx (.var 5) (.cst (.int 0))) (.cst (.str "group")))] (.tup [(.var 4), (.bin .sub (.blt .len [(.meth "path" (.var 0) [(.var 4)])]) (.cst (.int 1)))]))]
/-- extent(slate) slots 0:slate 1:some 2:stamp 3:box 4:colour 5:low 6:one 7:at -/
def b125 : List Sm := [.set 1 (.lc false [2, 3, 4] (.tp [(.nm 2), (.nm 3), (.nm 4)]) .seq [(.meth "row" (.var 0) [])] [] (.call 104 [(.var 0), (.var 2)])),
    .ife (.cmp .eq (.var 1) (.lst false [])) [.ret (.cst .non)] [],
    .set 5 (.lc false [7] (.nm 7) .seq [(.tup [(.cst (.int 0)), (.cst (.int 1))])] [] (.blt .min [(.lc false [6] (.nm 6) .seq [(.var 1)] [] (.idx (.var 6) (.var 7)))])),
    .ret (.blt .tuple [(.bin .add (.var 5) (.lc false [7] (.nm 7) .seq [(.tup [(.cst (.int 2)), (.cst (.int 3))])] [] (.blt .max [(.lc false [6] (.nm 6) .seq [(.var 1)] [] (.idx (.var 6) (.var 7)))])))])]
/-- _law_deed(_law_script, _law_at, _law_names) slots 0:_law_script 1:_law_at 2:_law_names 3:_law_name 4:_law_way 5:_law_box 6:_law_start 7:_law_some 8:_law_words -/
def b126 : List Sm := [.set 3 (.tup [(.cst (.int 2)), (.cst (.int 1))]),
    .ife (.cmp .ne (.var 2) (.lst false [])) [.set 3 (.idx (.var 2) (.call 8 [(.var 0), (.var 1), (.blt .len [(.var 2)])]))] [],
    .set 4 (.call 8 [(.var 0), (.bin .add (.var 1) (.cst (.int 1))), (.cst (.int 25))]),
    .ife (.or (.cmp .lt (.blt .len [(.var 2)]) (.cst (.int 3))) (.cmp .lt (.var 4) (.cst (.int 5)))) [.set 5 (.tup [(.call 8 [(.var 0), (.bin .add (.var 1) (.cst (.int 2))), (.cst (.int 12))]), (.call 8 [(.var 0), (.bin .add (.var 1) (.cst (.int 3))), (.cst (.int 12))])]),
    .ret (.tup [(.cst (.str "draw")), (.bin .add (.var 5) (.tup [(.bin .add (.cst (.int 1)) (.call 8 [(.var 0), (.bin .add (.var 1) (.cst (.int 4))), (.cst (.int 6))])), (.bin .add (.cst (.int 1)) (.call 8 [(.var 0), (.bin .add (.var 1) (.cst (.int 5))), (.cst (.int 6))]))]))])] [],
    .ife (.cmp .lt (.var 4) (.cst (.int 9))) [.set 6 (.call 8 [(.var 0), (.bin .add (.var 1) (.cst (.int 2))), (.bin .sub (.blt .len [(.var 2)]) (.cst (.int 1)))]),
    .set 7 (.slc false (.var 2) (.var 6) (.bin .add (.bin .add (.var 6) (.cst (.int 2))) (.call 8 [(.var 0), (.bin .add (.var 1) (.cst (.int 3))), (.cst (.int 2))])) (.cst .non)),
    .ret (.tup [(.cst (.str "group")), (.blt .tuple [(.slc false (.var 7) (.cst .non) (.cst .non) (.bin .sub (.cst (.int 1)) (.bin .mul (.cst (.int 2)) (.call 8 [(.var 0), (.bin .add (.var 1) (.cst (.int 4))), (.cst (.int 2))]))))])])] [],
    .ife (.cmp .lt (.var 4) (.cst (.int 11))) [.ret (.tup [(.cst (.str "move")), (.var 3), (.bin .sub (.call 8 [(.var 0), (.bin .add (.var 1) (.cst (.int 2))), (.cst (.int 9))]) (.cst (.int 4))), (.bin .sub (.call 8 [(.var 0), (.bin .add (.var 1) (.cst (.int 3))), (.cst (.int 9))]) (.cst (.int 4)))])] [],
    .ife (.cmp .eq (.var 4) (.cst (.int 11))) [.ret (.tup [(.cst (.str "size")), (.var 3), (.bin .add (.cst (.int 1)) (.call 8 [(.var 0), (.bin .add (.var 1) (.cst (.int 2))), (.cst (.int 8))])), (.bin .add (.cst (.int 1)) (.call 8 [(.var 0), (.bin .add (.var 1) (.cst (.int 3))), (.cst (.int 8))]))])] [],
    .ife (.cmp .eq (.var 4) (.cst (.int 12))) [.ret (.tup [(.cst (.str "colour")), (.var 3), (.call 8 [(.var 0), (.bin .add (.var 1) (.cst (.int 2))), (.cst (.int 8))])])] [],
    .set 8 (.lst true [(.cst (.str "raise")), (.cst (.str "lower")), (.cst (.str "ungroup")), (.cst (.str "erase")), (.cst (.str "lock")), (.cst (.str "unlock")), (.cst (.str "undo")), (.cst (.str "lock")), (.cst (.str "lock")), (.cst (.str "erase"))]),
    .drop (.bm .extend (.var 8) [(.lst false [(.cst (.str "erase")), (.cst (.str "erase"))])]),
    .ret (.tup [(.idx (.var 8) (.bin .sub (.var 4) (.cst (.int 13)))), (.var 3)])]
/-- _law_story(_law_script, _law_at, _law_many) slots 0:_law_script 1:_law_at 2:_law_many 3:_law_made 4:_law_last 5:_law_numbers 6:_law_k 7:_law_hand 8:_law_words 9:_law_names 10:_law_letter 11:_law_deed_here -/
def b127 : List Sm := [.set 3 (.lst true []),
    .set 4 (.lst true [(.cst (.int 0)), (.cst (.int 0)), (.cst (.int 0))]),
    .set 5 (.lst true [(.cst (.int 0)), (.cst (.int 0)), (.cst (.int 0))]),
    .for_ (.nm 6) .rng [(.call 8 [(.var 0), (.var 1), (.bin .add (.var 2) (.cst (.int 1)))])] [.set 7 (.call 8 [(.var 0), (.bin .add (.bin .add (.var 1) (.cst (.int 1))) (.bin .mul (.cst (.int 10)) (.var 6))), (.cst (.int 3))]),
    .set 8 (.ite (.cmp .gt (.call 8 [(.var 0), (.bin .add (.bin .add (.var 1) (.cst (.int 9))) (.bin .mul (.cst (.int 10)) (.var 6))), (.cst (.int 5))]) (.cst (.int 0))) (.tup [(.cst (.str "draw")), (.cst (.str "group"))]) (.tup [(.cst (.str "draw")), (.cst (.str "group")), (.cst (.str "undo")), (.cst (.str "move"))])),
    .set 9 (.lc false [10] (.nm 10) .seq [(.var 3)] [(.cmp .isin (.idx (.idx (.var 10) (.cst (.int 2))) (.cst (.int 0))) (.var 8))] (.idx (.var 10) (.cst (.int 0)))),
    .setI (.var 4) (.var 7) (.blt .max [(.bin .add (.idx (.var 4) (.var 7)) (.cst (.int 1))), (.bin .add (.cst (.int 1)) (.bin .fdiv (.var 6) (.cst (.int 2))))]),
    .set 11 (.call 126 [(.var 0), (.bin .add (.bin .add (.var 1) (.cst (.int 2))) (.bin .mul (.cst (.int 10)) (.var 6))), (.var 9)]),
    .drop (.bm .append (.var 3) [(.tup [(.tup [(.idx (.var 4) (.var 7)), (.var 7)]), (.idx (.var 5) (.var 7)), (.var 11)])]),
    .setI (.var 5) (.var 7) (.bin .add (.idx (.var 5) (.var 7)) (.cst (.int 1)))],
    .ret (.var 3)]
/-- law(_law_script) slots 0:_law_script 1:_law_letters 2:_law_slate 3:_law_top 4:_law_things 5:_law_locked 6:_law_groups 7:_law_stamp 8:_law_what 9:_law_shapes 10:_law_lower 11:_law_box 12:_law_colour 13:_law_around 14:_law_here 15:_law_many 16:_law_one 17:_law_boxes 18:_law_due 19:_law_told 20:_law_whole 21:_law_at -/
def b128 : List Sm := [.set 1 (.call 127 [(.var 0), (.cst (.int 100)), (.cst (.int 14))]),
    .set 2 (.call 36 [(.var 1)]),
    .setT [(.nm 3), (.nm 4), (.nm 5)] (.meth "told" (.var 2) []),
    .set 6 (.blt (.dict false) [(.lc false [7, 8] (.tp [(.nm 7), (.nm 8)]) .seq [(.var 4)] [(.cmp .eq (.idx (.var 8) (.cst (.int 0))) (.cst (.str "group")))] (.tup [(.var 7), (.idx (.var 8) (.cst (.int 1)))]))]),
    .set 9 (.bin .sub (.blt .len [(.var 4)]) (.blt .len [(.var 6)])),
    .ife (.or (.cmp .ne (.call 122 [(.var 2)]) (.tup [(.var 9), (.blt .len [(.var 6)]), (.blt .len [(.var 5)])])) (.cmp .ne (.blt .len [(.meth "row" (.var 2) [])]) (.var 9))) [.ret (.cst (.bl false))] [],
    .set 10 (.dnew true),
    .for_ (.tp [(.nm 7), (.nm 11), (.nm 12)]) .seq [(.meth "row" (.var 2) [])] [.setI (.var 10) (.var 7) (.blt .len [(.var 10)])],
    .ife (.cmp .ne (.call 123 [(.var 2)]) (.blt .sitems [(.var 10)])) [.ret (.cst (.bl false))] [],
    .set 13 (.lst true []),
    .for_ (.nm 7) .seq [(.blt .sorted [(.var 6)])] [.setT [(.nm 14), (.nm 15)] (.tup [(.var 7), (.cst (.int 0))]),
    .whl 100000 (.cmp .ne (.lc false [16] (.nm 16) .seq [(.var 6)] [(.cmp .isin (.var 14) (.idx (.var 6) (.var 16)))] (.var 16)) (.lst false [])) [.set 14 (.idx (.lc false [16] (.nm 16) .seq [(.var 6)] [(.cmp .isin (.var 14) (.idx (.var 6) (.var 16)))] (.var 16)) (.cst (.int 0))),
    .set 15 (.bin .add (.var 15) (.cst (.int 1)))],
    .drop (.bm .append (.var 13) [(.tup [(.var 7), (.var 15)])])],
    .ife (.cmp .ne (.call 124 [(.var 2)]) (.var 13)) [.ret (.cst (.bl false))] [],
    .ife (.cmp .eq (.var 10) (.dnew true)) [.ret (.and (.cmp .is (.call 125 [(.var 2)]) (.cst .non)) (.cmp .eq (.call 122 [(.call 36 [(.lst false [])])]) (.tup [(.cst (.int 0)), (.cst (.int 0)), (.cst (.int 0))])))] [],
    .set 17 (.lc false [7, 11, 12] (.tp [(.nm 7), (.nm 11), (.nm 12)]) .seq [(.meth "row" (.var 2) [])] [] (.tup [(.idx (.var 11) (.cst (.int 0))), (.idx (.var 11) (.cst (.int 1))), (.bin .add (.idx (.var 11) (.cst (.int 0))) (.idx (.var 11) (.cst (.int 2)))), (.bin .add (.idx (.var 11) (.cst (.int 1))) (.idx (.var 11) (.cst (.int 3))))])),
    .set 18 (.tup [(.blt .min [(.lc false [11] (.nm 11) .seq [(.var 17)] [] (.idx (.var 11) (.cst (.int 0))))]), (.blt .min [(.lc false [11] (.nm 11) .seq [(.var 17)] [] (.idx (.var 11) (.cst (.int 1))))])]),
    .ife (.cmp .ne (.call 125 [(.var 2)]) (.bin .add (.var 18) (.tup [(.blt .max [(.lc false [11] (.nm 11) .seq [(.var 17)] [] (.idx (.var 11) (.cst (.int 2))))]), (.blt .max [(.lc false [11] (.nm 11) .seq [(.var 17)] [] (.idx (.var 11) (.cst (.int 3))))])]))) [.ret (.cst (.bl false))] [],
    .for_ (.tp [(.nm 7), (.nm 15)]) .seq [(.call 124 [(.var 2)])] [.setT [(.nm 19), (.nm 20)] (.tup [(.call 104 [(.var 2), (.var 7)]), (.call 125 [(.var 2)])]),
    .ife (.or (.cmp .lt (.idx (.var 19) (.cst (.int 0))) (.idx (.var 20) (.cst (.int 0)))) (.or (.cmp .lt (.idx (.var 19) (.cst (.int 1))) (.idx (.var 20) (.cst (.int 1)))) (.or (.cmp .gt (.idx (.var 19) (.cst (.int 2))) (.idx (.var 20) (.cst (.int 2)))) (.cmp .gt (.idx (.var 19) (.cst (.int 3))) (.idx (.var 20) (.cst (.int 3))))))) [.ret (.cst (.bl false))] []],
    .ret (.cmp .eq (.lc false [7, 21] (.tp [(.nm 7), (.nm 21)]) .seq [(.call 123 [(.var 2)])] [] (.idx (.idx (.meth "row" (.var 2) []) (.var 21)) (.cst (.int 0)))) (.blt .sorted [(.var 10)]))]
/-- unlike_things(one, other) slots 0:one 1:other 2:mine 3:yours 4:alone 5:stamp 6:both -/
def b129 : List Sm := [.setT [(.nm 2), (.nm 3)] (.tup [(.blt (.dict false) [(.idx (.meth "told" (.var 0) []) (.cst (.int 1)))]), (.blt (.dict false) [(.idx (.meth "told" (.var 1) []) (.cst (.int 1)))])]),
    .set 4 (.lc false [5] (.nm 5) .seq [(.blt .sorted [(.var 2)])] [(.cmp .notin (.var 5) (.var 3))] (.var 5)),
    .set 6 (.lc false [5] (.nm 5) .seq [(.blt .sorted [(.var 2)])] [(.and (.cmp .isin (.var 5) (.var 3)) (.cmp .ne (.idx (.var 2) (.var 5)) (.idx (.var 3) (.var 5))))] (.var 5)),
    .ret (.tup [(.var 4), (.lc false [5] (.nm 5) .seq [(.blt .sorted [(.var 3)])] [(.cmp .notin (.var 5) (.var 2))] (.var 5)), (.var 6)])]
/-- looked(letters) slots 0:letters 1:letter -/
def b130 : List Sm := [.ife (.not (.blt .all [(.lc false [1] (.nm 1) .seq [(.var 0)] [] (.call 6 [(.var 1)]))])) [.raise 13] [],
    .ret (.var 0)]
/-- of_hand(letters, hand) slots 0:letters 1:hand 2:letter -/
def b131 : List Sm := [.ret (.blt .sorted [(.lc false [2] (.nm 2) .seq [(.call 130 [(.var 0)])] [(.cmp .eq (.idx (.idx (.var 2) (.cst (.int 0))) (.cst (.int 1))) (.var 1))] (.var 2))])]
/-- points_of(slate) slots 0:slate 1:made 2:stamp 3:box 4:colour 5:left 6:top 7:width 8:height 9:x 10:y -/
def b132 : List Sm := [.set 1 (.dnew true),
    .for_ (.tp [(.nm 2), (.nm 3), (.nm 4)]) .seq [(.meth "row" (.var 0) [])] [.setT [(.nm 5), (.nm 6), (.nm 7), (.nm 8)] (.var 3),
    .for_ (.nm 9) .rng [(.var 5), (.bin .add (.var 5) (.var 7))] [.for_ (.nm 10) .rng [(.var 6), (.bin .add (.var 6) (.var 8))] [.setI (.var 1) (.tup [(.var 9), (.var 10)]) (.cst (.bl true))]]],
    .ret (.blt .sorted [(.var 1)])]
/-- unlike_points(one, other) slots 0:one 1:other 2:some 3:x 4:y -/
def b133 : List Sm := [.set 2 (.blt .sortedset [(.bin .add (.call 132 [(.var 0)]) (.call 132 [(.var 1)]))]),
    .ret (.lc false [3, 4] (.tp [(.nm 3), (.nm 4)]) .seq [(.var 2)] [(.cmp .ne (.call 106 [(.var 0), (.var 3), (.var 4)]) (.call 106 [(.var 1), (.var 3), (.var 4)]))] (.tup [(.var 3), (.var 4)]))]
/-- law(_law_script) slots 0:_law_script 1:_law_letters 2:_law_less 3:_law_k 4:_law_letter 5:_law_one 6:_law_other 7:_law_mine 8:_law_yours 9:_law_alone 10:_law_stamp 11:_law_more_so 12:_law_both 13:_law_is_same 14:_law_hand 15:_law_rest 16:_law_gone -/
def b134 : List Sm := [.set 1 (.call 127 [(.var 0), (.cst (.int 100)), (.cst (.int 14))]),
    .set 2 (.lc false [3, 4] (.tp [(.nm 3), (.nm 4)]) .enum [(.var 1)] [(.cmp .gt (.call 8 [(.var 0), (.bin .add (.cst (.int 600)) (.var 3)), (.cst (.int 4))]) (.cst (.int 0)))] (.var 4)),
    .setT [(.nm 5), (.nm 6)] (.tup [(.call 36 [(.var 1)]), (.call 36 [(.var 2)])]),
    .setT [(.nm 7), (.nm 8)] (.tup [(.blt (.dict false) [(.idx (.meth "told" (.var 5) []) (.cst (.int 1)))]), (.blt (.dict false) [(.idx (.meth "told" (.var 6) []) (.cst (.int 1)))])]),
    .set 9 (.lc false [10] (.nm 10) .seq [(.blt .sorted [(.var 7)])] [(.cmp .notin (.var 10) (.var 8))] (.var 10)),
    .set 11 (.lc false [10] (.nm 10) .seq [(.blt .sorted [(.var 8)])] [(.cmp .notin (.var 10) (.var 7))] (.var 10)),
    .set 12 (.lc false [10] (.nm 10) .seq [(.blt .sorted [(.var 7)])] [(.and (.cmp .isin (.var 10) (.var 8)) (.cmp .ne (.idx (.var 7) (.var 10)) (.idx (.var 8) (.var 10))))] (.var 10)),
    .ife (.or (.cmp .ne (.call 129 [(.var 5), (.var 6)]) (.tup [(.var 9), (.var 11), (.var 12)])) (.cmp .ne (.call 129 [(.var 6), (.var 5)]) (.tup [(.var 11), (.var 9), (.var 12)]))) [.ret (.cst (.bl false))] [],
    .ife (.or (.cmp .ne (.call 129 [(.var 5), (.call 36 [(.call 35 [(.var 1)])])]) (.tup [(.lst false []), (.lst false []), (.lst false [])])) (.cmp .ne (.call 129 [(.var 5), (.var 5)]) (.tup [(.lst false []), (.lst false []), (.lst false [])]))) [.ret (.cst (.bl false))] [],
    .ife (.cmp .ne (.call 129 [(.var 5), (.call 36 [(.lst false [])])]) (.tup [(.blt .sorted [(.var 7)]), (.lst false []), (.lst false [])])) [.ret (.cst (.bl false))] [],
    .set 13 (.and (.cmp .eq (.tup [(.var 9), (.var 11), (.var 12)]) (.tup [(.lst false []), (.lst false []), (.lst false [])])) (.cmp .eq (.idx (.meth "told" (.var 5) []) (.cst (.int 0))) (.idx (.meth "told" (.var 6) []) (.cst (.int 0))))),
    .ife (.and (.var 13) (.cmp .ne (.call 133 [(.var 5), (.var 6)]) (.lst false []))) [.ret (.cst (.bl false))] [],
    .ife (.cmp .ne (.bin .sub (.blt .sum [(.slc false (.call 122 [(.var 5)]) (.cst .non) (.cst (.int 2)) (.cst .non))]) (.blt .len [(.var 9)])) (.bin .sub (.blt .sum [(.slc false (.call 122 [(.var 6)]) (.cst .non) (.cst (.int 2)) (.cst .non))]) (.blt .len [(.var 11)]))) [.ret (.cst (.bl false))] [],
    .set 14 (.call 8 [(.var 0), (.cst (.int 700)), (.cst (.int 3))]),
    .set 15 (.call 36 [(.lc false [4] (.nm 4) .seq [(.var 1)] [(.cmp .ne (.idx (.idx (.var 4) (.cst (.int 0))) (.cst (.int 1))) (.var 14))] (.var 4))]),
    .set 16 (.lc false [4] (.nm 4) .seq [(.call 131 [(.var 1), (.var 14)])] [] (.idx (.var 4) (.cst (.int 0)))),
    .ret (.cmp .eq (.lc false [10] (.nm 10) .seq [(.blt .sorted [(.var 7)])] [(.and (.cmp .isin (.var 10) (.var 16)) (.cmp .notin (.var 10) (.idx (.call 129 [(.var 5), (.var 15)]) (.cst (.int 0)))))] (.var 10)) (.lst false []))]
/-- stamp_text(stamp) slots 0:stamp -/
def b135 : List Sm := [.ret (.bin .add (.bin .add (.blt .str [(.idx (.var 0) (.cst (.int 0)))]) (.cst (.str "."))) (.blt .str [(.idx (.var 0) (.cst (.int 1)))]))]
/-- words_of(deed) slots 0:deed 1:one -/
def b136 : List Sm := [.ife (.cmp .eq (.idx (.var 0) (.cst (.int 0))) (.cst (.str "draw"))) [.ret (.bin .add (.lst false [(.cst (.str "draw"))]) (.lc false [1] (.nm 1) .seq [(.idx (.var 0) (.cst (.int 1)))] [] (.blt .str [(.var 1)])))] [],
    .ife (.cmp .eq (.idx (.var 0) (.cst (.int 0))) (.cst (.str "group"))) [.ret (.bin .add (.lst false [(.cst (.str "group"))]) (.lc false [1] (.nm 1) .seq [(.idx (.var 0) (.cst (.int 1)))] [] (.call 135 [(.var 1)])))] [],
    .ret (.bin .add (.lst false [(.idx (.var 0) (.cst (.int 0))), (.call 135 [(.idx (.var 0) (.cst (.int 1)))])]) (.lc false [1] (.nm 1) .seq [(.slc false (.var 0) (.cst (.int 2)) (.cst .non) (.cst .non))] [] (.blt .str [(.var 1)])))]
/-- letter_text(letter) slots 0:letter -/
def b137 : List Sm := [.ret (.bm .join (.cst (.str " ")) [(.bin .add (.lst false [(.call 135 [(.idx (.var 0) (.cst (.int 0)))]), (.blt .str [(.idx (.var 0) (.cst (.int 1)))])]) (.call 136 [(.idx (.var 0) (.cst (.int 2)))]))])]
/-- written(letters) slots 0:letters 1:letter -/
def b138 : List Sm := [.ret (.bm .join (.cst (.str "")) [(.lc false [1] (.nm 1) .seq [(.var 0)] [] (.bin .add (.call 137 [(.var 1)]) (.cst (.str "\n"))))])]
/-- number_of(word) slots 0:word 1:figures 2:sign -/
def b139 : List Sm := [.set 1 (.ite (.cmp .eq (.slc false (.var 0) (.cst .non) (.cst (.int 1)) (.cst .non)) (.cst (.str "-"))) (.slc false (.var 0) (.cst (.int 1)) (.cst .non) (.cst .non)) (.var 0)),
    .ife (.or (.not (.chn .le .le (.cst (.int 1)) (.blt .len [(.var 1)]) (.gc "MOST_FIGURES" (.int 7)))) (.not (.blt .all [(.lc false [2] (.nm 2) .seq [(.var 1)] [] (.cmp .isin (.var 2) (.cst (.str "0123456789"))))]))) [.raise 16] [],
    .ret (.blt .int [(.var 0)])]
/-- stamp_in(word) slots 0:word 1:clock 2:gap 3:hand -/
def b140 : List Sm := [.setT [(.nm 1), (.nm 2), (.nm 3)] (.bm .partition (.var 0) [(.cst (.str "."))]),
    .ret (.tup [(.call 139 [(.var 1)]), (.call 139 [(.var 3)])])]
/-- deed_in(words) slots 0:words 1:word -/
def b141 : List Sm := [.ife (.cmp .eq (.idx (.var 0) (.cst (.int 0))) (.cst (.str "draw"))) [.ret (.tup [(.cst (.str "draw")), (.blt .tuple [(.lc false [1] (.nm 1) .seq [(.slc false (.var 0) (.cst (.int 1)) (.cst .non) (.cst .non))] [] (.call 139 [(.var 1)]))])])] [],
    .ife (.cmp .eq (.idx (.var 0) (.cst (.int 0))) (.cst (.str "group"))) [.ret (.tup [(.cst (.str "group")), (.blt .tuple [(.lc false [1] (.nm 1) .seq [(.slc false (.var 0) (.cst (.int 1)) (.cst .non) (.cst .non))] [] (.call 140 [(.var 1)]))])])] [],
    .ife (.cmp .lt (.blt .len [(.var 0)]) (.cst (.int 2))) [.raise 16] [],
    .ret (.bin .add (.tup [(.idx (.var 0) (.cst (.int 0))), (.call 140 [(.idx (.var 0) (.cst (.int 1)))])]) (.blt .tuple [(.lc false [1] (.nm 1) .seq [(.slc false (.var 0) (.cst (.int 2)) (.cst .non) (.cst .non))] [] (.call 139 [(.var 1)]))]))]
/-- letter_in(line) slots 0:line 1:words 2:letter -/
def b142 : List Sm := [.set 1 (.bm .split (.var 0) [(.cst (.str " "))]),
    .ife (.cmp .lt (.blt .len [(.var 1)]) (.cst (.int 3))) [.raise 16] [],
    .set 2 (.tup [(.call 140 [(.idx (.var 1) (.cst (.int 0)))]), (.call 139 [(.idx (.var 1) (.cst (.int 1)))]), (.call 141 [(.slc false (.var 1) (.cst (.int 2)) (.cst .non) (.cst .non))])]),
    .ife (.or (.not (.call 6 [(.var 2)])) (.cmp .ne (.call 137 [(.var 2)]) (.var 0))) [.raise 16] [],
    .ret (.var 2)]
/-- read(text) slots 0:text 1:lines 2:line -/
def b143 : List Sm := [.set 1 (.bm .split (.var 0) [(.cst (.str "\n"))]),
    .ife (.cmp .ne (.idx (.var 1) (.neg (.cst (.int 1)))) (.cst (.str ""))) [.raise 16] [],
    .ret (.lc false [2] (.nm 2) .seq [(.slc false (.var 1) (.cst .non) (.neg (.cst (.int 1))) (.cst .non))] [] (.call 142 [(.var 2)]))]
/-- _law_spoilt(_law_text, _law_cell_here, _law_signs) slots 0:_law_text 1:_law_cell_here 2:_law_signs 3:_law_at 4:_law_sign 5:_law_on 6:_law_way -/
def b144 : List Sm := [.set 3 (.bin .mod (.var 1) (.bin .add (.blt .len [(.var 0)]) (.cst (.int 1)))),
    .set 4 (.idx (.var 2) (.bin .mod (.bin .fdiv (.var 1) (.cst (.int 1000))) (.blt .len [(.var 2)]))),
    .set 5 (.bin .add (.bin .add (.var 3) (.cst (.int 1))) (.bin .mod (.bin .fdiv (.var 1) (.cst (.int 7))) (.cst (.int 9)))),
    .set 6 (.bin .mod (.bin .fdiv (.var 1) (.cst (.int 100000))) (.cst (.int 8))),
    .ife (.cmp .lt (.var 6) (.cst (.int 2))) [.ret (.bin .add (.bin .add (.slc false (.var 0) (.cst .non) (.var 3) (.cst .non)) (.var 4)) (.slc false (.var 0) (.var 3) (.cst .non) (.cst .non)))] [],
    .ife (.cmp .eq (.var 6) (.cst (.int 2))) [.ret (.bin .add (.slc false (.var 0) (.cst .non) (.var 3) (.cst .non)) (.slc false (.var 0) (.bin .add (.var 3) (.cst (.int 1))) (.cst .non) (.cst .non)))] [],
    .ife (.cmp .lt (.var 6) (.cst (.int 5))) [.ret (.bin .add (.bin .add (.slc false (.var 0) (.cst .non) (.var 3) (.cst .non)) (.var 4)) (.slc false (.var 0) (.bin .add (.var 3) (.cst (.int 1))) (.cst .non) (.cst .non)))] [],
    .ife (.cmp .eq (.var 6) (.cst (.int 5))) [.ret (.bin .add (.slc false (.var 0) (.cst .non) (.var 3) (.cst .non)) (.slc false (.var 0) (.var 5) (.cst .non) (.cst .non)))] [],
    .ife (.cmp .eq (.var 6) (.cst (.int 6))) [.ret (.bin .add (.slc false (.var 0) (.cst .non) (.var 5) (.cst .non)) (.slc false (.var 0) (.var 3) (.cst .non) (.cst .non)))] [],
    .ret (.idx (.lst false [(.bin .add (.var 0) (.cst (.str " "))), (.bin .add (.cst (.str " ")) (.var 0)), (.bin .add (.slc false (.var 0) (.var 3) (.cst .non) (.cst .non)) (.slc false (.var 0) (.cst .non) (.var 3) (.cst .non))), (.cst (.str "")), (.bin .add (.var 0) (.var 0))]) (.bin .mod (.var 1) (.cst (.int 5))))]
/-- _law_stamp(_law_stamp_here) slots 0:_law_stamp_here -/
def b145 : List Sm := [.ret (.bin .add (.bin .add (.blt .str [(.idx (.var 0) (.cst (.int 0)))]) (.cst (.str "."))) (.blt .str [(.idx (.var 0) (.cst (.int 1)))]))]
/-- _law_line(_law_letter) slots 0:_law_letter 1:_law_stamp_here 2:_law_number 3:_law_deed_here 4:_law_text 5:_law_one -/
def b146 : List Sm := [.setT [(.nm 1), (.nm 2), (.nm 3)] (.var 0),
    .set 4 (.bin .add (.bin .add (.bin .add (.bin .add (.call 145 [(.var 1)]) (.cst (.str " "))) (.blt .str [(.var 2)])) (.cst (.str " "))) (.idx (.var 3) (.cst (.int 0)))),
    .ife (.cmp .eq (.idx (.var 3) (.cst (.int 0))) (.cst (.str "draw"))) [.for_ (.nm 5) .seq [(.idx (.var 3) (.cst (.int 1)))] [.set 4 (.bin .add (.bin .add (.var 4) (.cst (.str " "))) (.blt .str [(.var 5)]))]] [.ife (.cmp .eq (.idx (.var 3) (.cst (.int 0))) (.cst (.str "group"))) [.for_ (.nm 5) .seq [(.idx (.var 3) (.cst (.int 1)))] [.set 4 (.bin .add (.bin .add (.var 4) (.cst (.str " "))) (.call 145 [(.var 5)]))]] [.set 4 (.bin .add (.bin .add (.var 4) (.cst (.str " "))) (.call 145 [(.idx (.var 3) (.cst (.int 1)))])),
    .for_ (.nm 5) .seq [(.slc false (.var 3) (.cst (.int 2)) (.cst .non) (.cst .non))] [.set 4 (.bin .add (.bin .add (.var 4) (.cst (.str " "))) (.blt .str [(.var 5)]))]]],
    .ret (.bin .add (.var 4) (.cst (.str "\n")))]
/-- _law_holds(_law_text) slots 0:_law_text 1:_law_kept 2:_law_answer 3:e 4:_law_letter -/
def b147 : List Sm := [.set 1 (.cst .non),
    .set 2 (.cst .non),
    .try_ [.set 2 (.call 143 [(.var 0)])] 10 (some 3) [.set 1 (.var 3)],
    .ife (.cmp .isnot (.var 1) (.cst .non)) [.ret (.cmp .eq (.call 51 [(.var 1)]) (.cst (.str "no text")))] [],
    .ife (.cmp .ne (.lc false [4] (.nm 4) .seq [(.var 2)] [(.cmp .isnot (.call 6 [(.var 4)]) (.cst (.bl true)))] (.var 4)) (.lst false [])) [.ret (.cst (.bl false))] [],
    .ret (.cmp .eq (.bm .join (.cst (.str "")) [(.lc false [4] (.nm 4) .seq [(.var 2)] [] (.call 146 [(.var 4)]))]) (.var 0))]
/-- law(_law_script) slots 0:_law_script 1:_law_letters 2:_law_text 3:_law_letter 4:_law_k 5:_law_lines 6:_law_place 7:_law_less 8:_law_line_here 9:_law_odd -/
def b148 : List Sm := [.set 1 (.call 10 [(.var 0), (.cst (.int 0)), (.cst (.int 10))]),
    .set 2 (.bm .join (.cst (.str "")) [(.lc false [3] (.nm 3) .seq [(.var 1)] [] (.call 146 [(.var 3)]))]),
    .ife (.or (.cmp .ne (.call 138 [(.var 1)]) (.var 2)) (.cmp .ne (.call 143 [(.var 2)]) (.var 1))) [.ret (.cst (.bl false))] [],
    .for_ (.nm 4) .rng [(.cst (.int 4))] [.ife (.not (.call 147 [(.call 144 [(.var 2), (.call 8 [(.var 0), (.bin .add (.cst (.int 200)) (.var 4)), (.bin .pow (.cst (.int 10)) (.cst (.int 9)))]), (.cst (.str "0123. -\nmoveraisegroup"))])])) [.ret (.cst (.bl false))] []],
    .set 5 (.bm .split (.var 2) [(.cst (.str "\n"))]),
    .set 6 (.call 8 [(.var 0), (.cst (.int 210)), (.blt .len [(.var 5)])]),
    .set 7 (.bm .join (.cst (.str "\n")) [(.bin .add (.slc false (.var 5) (.cst .non) (.var 6) (.cst .non)) (.slc false (.var 5) (.bin .add (.var 6) (.cst (.int 1))) (.cst .non) (.cst .non)))]),
    .ife (.and (.cmp .lt (.var 6) (.bin .sub (.blt .len [(.var 5)]) (.cst (.int 1)))) (.cmp .ne (.call 143 [(.var 7)]) (.bin .add (.slc false (.var 1) (.cst .non) (.var 6) (.cst .non)) (.slc false (.var 1) (.bin .add (.var 6) (.cst (.int 1))) (.cst .non) (.cst .non))))) [.ret (.cst (.bl false))] [],
    .ife (.cmp .ne (.call 143 [(.bm .join (.cst (.str "")) [(.lc false [8] (.nm 8) .seq [(.slc false (.slc false (.var 5) (.cst .non) (.neg (.cst (.int 1))) (.cst .non)) (.cst .non) (.cst .non) (.neg (.cst (.int 1))))] [] (.bin .add (.var 8) (.cst (.str "\n"))))])]) (.slc false (.var 1) (.cst .non) (.cst .non) (.neg (.cst (.int 1))))) [.ret (.cst (.bl false))] [],
    .set 9 (.lst true [(.cst (.str "1.0 0 raise 01.0\n")), (.cst (.str "1.0 0 raise 1.0")), (.cst (.str "1.0 00 raise 1.0\n")), (.cst (.str "1.0 0 draw 0 0 1\n")), (.cst (.str "1.3 0 raise 1.0\n"))]),
    .drop (.bm .extend (.var 9) [(.lst false [(.cst (.str "1.0 0 lift 1.0\n")), (.cst (.str "1.0 0\n")), (.cst (.str "1 0 raise 1.0\n")), (.cst (.str "1.0 0 colour 1.0 9\n")), (.cst (.str " \n"))])]),
    .ret (.and (.call 147 [(.idx (.var 9) (.call 8 [(.var 0), (.cst (.int 220)), (.cst (.int 10))]))]) (.cmp .eq (.call 143 [(.cst (.str ""))]) (.lst false [])))]
/-- later_stamp(stamp, by) slots 0:stamp 1:by -/
def b149 : List Sm := [.ret (.tup [(.bin .add (.idx (.var 0) (.cst (.int 0))) (.var 1)), (.idx (.var 0) (.cst (.int 1)))])]
/-- later_deed(deed, by) slots 0:deed 1:by 2:stamp -/
def b150 : List Sm := [.ife (.cmp .eq (.idx (.var 0) (.cst (.int 0))) (.cst (.str "draw"))) [.ret (.var 0)] [],
    .ife (.cmp .eq (.idx (.var 0) (.cst (.int 0))) (.cst (.str "group"))) [.ret (.tup [(.cst (.str "group")), (.blt .tuple [(.lc false [2] (.nm 2) .seq [(.idx (.var 0) (.cst (.int 1)))] [] (.call 149 [(.var 2), (.var 1)]))])])] [],
    .ret (.bin .add (.tup [(.idx (.var 0) (.cst (.int 0))), (.call 149 [(.idx (.var 0) (.cst (.int 1))), (.var 1)])]) (.slc false (.var 0) (.cst (.int 2)) (.cst .non) (.cst .non)))]
/-- clocks_later(letters, by) slots 0:letters 1:by 2:stamp 3:number 4:deed -/
def b151 : List Sm := [.drop (.call 130 [(.var 0)]),
    .ret (.call 130 [(.lc false [2, 3, 4] (.tp [(.nm 2), (.nm 3), (.nm 4)]) .seq [(.var 0)] [] (.tup [(.call 149 [(.var 2), (.var 1)]), (.var 3), (.call 150 [(.var 4), (.var 1)])]))])]
/-- drawn_farther(letters, x, y) slots 0:letters 1:x 2:y 3:made 4:stamp 5:number 6:deed 7:left 8:top 9:width 10:height -/
def b152 : List Sm := [.drop (.call 130 [(.var 0)]),
    .set 3 (.lst true []),
    .for_ (.tp [(.nm 4), (.nm 5), (.nm 6)]) .seq [(.var 0)] [.ife (.cmp .eq (.idx (.var 6) (.cst (.int 0))) (.cst (.str "draw"))) [.setT [(.nm 7), (.nm 8), (.nm 9), (.nm 10)] (.idx (.var 6) (.cst (.int 1))),
    .set 6 (.tup [(.cst (.str "draw")), (.tup [(.bin .add (.var 7) (.var 1)), (.bin .add (.var 8) (.var 2)), (.var 9), (.var 10)])])] [],
    .drop (.bm .append (.var 3) [(.tup [(.var 4), (.var 5), (.var 6)])])],
    .ret (.call 130 [(.var 3)])]
/-- picture(slate, left, top, right, bottom) slots 0:slate 1:left 2:top 3:right 4:bottom 5:made 6:y 7:x 8:here -/
def b153 : List Sm := [.set 5 (.cst (.str "")),
    .for_ (.nm 6) .rng [(.var 2), (.var 4)] [.for_ (.nm 7) .rng [(.var 1), (.var 3)] [.set 8 (.call 106 [(.var 0), (.var 7), (.var 6)]),
    .set 5 (.bin .add (.var 5) (.ite (.cmp .isnot (.var 8) (.cst .non)) (.blt .str [(.var 8)]) (.cst (.str "."))))],
    .set 5 (.bin .add (.var 5) (.cst (.str "\n")))],
    .ret (.var 5)]
/-- colours(slate) slots 0:slate 1:made 2:x 3:y 4:here -/
def b154 : List Sm := [.set 1 (.dnew false),
    .for_ (.tp [(.nm 2), (.nm 3)]) .seq [(.call 132 [(.var 0)])] [.set 4 (.call 106 [(.var 0), (.var 2), (.var 3)]),
    .setI (.var 1) (.var 4) (.bin .add (.bm .get (.var 1) [(.var 4), (.cst (.int 0))]) (.cst (.int 1)))],
    .ret (.blt .sitems [(.var 1)])]
/-- _law_class(_law_kept) slots 0:_law_kept 1:_law_kinds 2:_law_some -/
def b155 : List Sm := [.set 1 (.lst true [(.isE (.var 0) 12), (.isE (.var 0) 13), (.isE (.var 0) 17)]),
    .drop (.bm .extend (.var 1) [(.lst false [(.isE (.var 0) 15)])]),
    .set 1 (.bin .add (.var 1) (.lst false [(.isE (.var 0) 14), (.isE (.var 0) 16), (.isE (.var 0) 11)])),
    .ife (.or (.cmp .ne (.bm .count (.var 1) [(.cst (.bl true))]) (.cst (.int 1))) (.not (.isE (.var 0) 9))) [.ret (.cst (.str "wrong"))] [],
    .set 2 (.lst false [(.cst (.str "bad deed")), (.cst (.str "bad letter")), (.cst (.str "no back")), (.cst (.str "no hand")), (.cst (.str "no letter")), (.cst (.str "no text")), (.cst (.str "no thing"))]),
    .ret (.idx (.var 2) (.bm .index (.var 1) [(.cst (.bl true))]))]
/-- _law_later(_law_stamp, _law_by) slots 0:_law_stamp 1:_law_by -/
def b157 : List Sm := [.ret (.tup [(.bin .add (.idx (.var 0) (.cst (.int 0))) (.var 1)), (.idx (.var 0) (.cst (.int 1)))])]
/-- _law_all_later(_law_letters, _law_by) slots 0:_law_letters 1:_law_by 2:_law_made 3:_law_stamp 4:_law_number 5:_law_deed_here 6:_law_one -/
def b158 : List Sm := [.set 2 (.lst true []),
    .for_ (.tp [(.nm 3), (.nm 4), (.nm 5)]) .seq [(.var 0)] [.ife (.cmp .eq (.idx (.var 5) (.cst (.int 0))) (.cst (.str "group"))) [.set 5 (.tup [(.cst (.str "group")), (.blt .tuple [(.lc false [6] (.nm 6) .seq [(.idx (.var 5) (.cst (.int 1)))] [] (.call 157 [(.var 6), (.var 1)]))])])] [.ife (.cmp .ne (.idx (.var 5) (.cst (.int 0))) (.cst (.str "draw"))) [.set 5 (.bin .add (.tup [(.idx (.var 5) (.cst (.int 0))), (.call 157 [(.idx (.var 5) (.cst (.int 1))), (.var 1)])]) (.slc false (.var 5) (.cst (.int 2)) (.cst .non) (.cst .non)))] []],
    .drop (.bm .append (.var 2) [(.tup [(.call 157 [(.var 3), (.var 1)]), (.var 4), (.var 5)])])],
    .ret (.var 2)]
/-- _law_slate_later(_law_told_here, _law_by) slots 0:_law_told_here 1:_law_by 2:_law_things 3:_law_stamp 4:_law_what 5:_law_one 6:_law_locked 7:_law_hand -/
def b159 : List Sm := [.set 2 (.lst true []),
    .for_ (.tp [(.nm 3), (.nm 4)]) .seq [(.idx (.var 0) (.cst (.int 1)))] [.ife (.cmp .eq (.idx (.var 4) (.cst (.int 0))) (.cst (.str "group"))) [.set 4 (.tup [(.cst (.str "group")), (.blt .tuple [(.lc false [5] (.nm 5) .seq [(.idx (.var 4) (.cst (.int 1)))] [] (.call 157 [(.var 5), (.var 1)]))])])] [],
    .drop (.bm .append (.var 2) [(.tup [(.call 157 [(.var 3), (.var 1)]), (.var 4)])])],
    .set 6 (.blt .tuple [(.lc false [3, 7] (.tp [(.nm 3), (.nm 7)]) .seq [(.idx (.var 0) (.cst (.int 2)))] [] (.tup [(.call 157 [(.var 3), (.var 1)]), (.var 7)]))]),
    .ret (.tup [(.blt .tuple [(.lc false [3] (.nm 3) .seq [(.idx (.var 0) (.cst (.int 0)))] [] (.call 157 [(.var 3), (.var 1)]))]), (.blt .tuple [(.var 2)]), (.var 6)])]
/-- _law_is_late(_law_script, _law_letters) slots 0:_law_script 1:_law_letters 2:_law_by 3:_law_due 4:_law_told_here 5:_law_clocks 6:_law_stamp 7:_law_number 8:_law_deed_here 9:_law_named 10:_law_one 11:_law_clock 12:_law_heights 13:_law_at -/
def b160 : List Sm := [.set 2 (.idx (.lst false [(.cst (.int 0)), (.cst (.int 1)), (.cst (.int 7)), (.cst (.int 999000)), (.cst (.int 999999)), (.neg (.cst (.int 1)))]) (.call 8 [(.var 0), (.cst (.int 600)), (.cst (.int 6))])),
    .set 3 (.call 158 [(.var 1), (.var 2)]),
    .set 4 (.told 10 155 (.call 151 [(.var 1), (.var 2)])),
    .set 5 (.lc true [6, 7, 8] (.tp [(.nm 6), (.nm 7), (.nm 8)]) .seq [(.var 3)] [] (.idx (.var 6) (.cst (.int 0)))),
    .for_ (.tp [(.nm 6), (.nm 7), (.nm 8)]) .seq [(.var 3)] [.set 9 (.ite (.cmp .eq (.idx (.var 8) (.cst (.int 0))) (.cst (.str "draw"))) (.lst false []) (.ite (.cmp .eq (.idx (.var 8) (.cst (.int 0))) (.cst (.str "group"))) (.blt (.list false) [(.idx (.var 8) (.cst (.int 1)))]) (.lst false [(.idx (.var 8) (.cst (.int 1)))]))),
    .drop (.bm .extend (.var 5) [(.lc false [10] (.nm 10) .seq [(.var 9)] [] (.idx (.var 10) (.cst (.int 0))))])],
    .ife (.cmp .ne (.lc false [11] (.nm 11) .seq [(.var 5)] [(.not (.chn .le .le (.cst (.int 1)) (.var 11) (.cst (.int 1000000))))] (.var 11)) (.lst false [])) [.ret (.cmp .eq (.var 4) (.cst (.str "bad letter")))] [],
    .ife (.or (.cmp .ne (.var 4) (.var 3)) (.cmp .ne (.call 151 [(.blt .tuple [(.var 4)]), (.bin .sub (.cst (.int 0)) (.var 2))]) (.var 1))) [.ret (.cst (.bl false))] [],
    .ife (.cmp .ne (.call 35 [(.var 4)]) (.call 158 [(.call 35 [(.var 1)]), (.var 2)])) [.ret (.cst (.bl false))] [],
    .ife (.cmp .ne (.meth "told" (.call 36 [(.var 4)]) []) (.call 159 [(.meth "told" (.call 36 [(.var 1)]) []), (.var 2)])) [.ret (.cst (.bl false))] [],
    .set 12 (.call 123 [(.call 36 [(.var 1)])]),
    .ife (.cmp .ne (.call 123 [(.call 36 [(.var 4)])]) (.lc false [6, 13] (.tp [(.nm 6), (.nm 13)]) .seq [(.var 12)] [] (.tup [(.call 157 [(.var 6), (.var 2)]), (.var 13)]))) [.ret (.cst (.bl false))] [],
    .ret (.cmp .eq (.call 37 [(.var 4)]) (.lc false [6] (.nm 6) .seq [(.call 37 [(.var 1)])] [] (.call 157 [(.var 6), (.var 2)])))]
/-- law(_law_script) slots 0:_law_script 1:_law_letters 2:_law_x 3:_law_y 4:_law_boxes 5:_law_stamp 6:_law_number 7:_law_deed_here 8:_law_made 9:_law_box 10:_law_one 11:_law_other 12:_law_rows 13:_law_colour 14:_law_left 15:_law_top 16:_law_right 17:_law_bottom -/
def b161 : List Sm := [.set 1 (.call 127 [(.var 0), (.cst (.int 100)), (.cst (.int 12))]),
    .ife (.not (.call 160 [(.var 0), (.var 1)])) [.ret (.cst (.bl false))] [],
    .setT [(.nm 2), (.nm 3)] (.tup [(.bin .sub (.call 8 [(.var 0), (.cst (.int 601)), (.cst (.int 31))]) (.cst (.int 20))), (.bin .sub (.call 8 [(.var 0), (.cst (.int 602)), (.cst (.int 31))]) (.cst (.int 20)))]),
    .set 4 (.lc false [5, 6, 7] (.tp [(.nm 5), (.nm 6), (.nm 7)]) .seq [(.var 1)] [(.cmp .eq (.idx (.var 7) (.cst (.int 0))) (.cst (.str "draw")))] (.idx (.var 7) (.cst (.int 1)))),
    .set 8 (.told 10 155 (.call 152 [(.var 1), (.var 2), (.var 3)])),
    .ife (.cmp .ne (.lc false [9] (.nm 9) .seq [(.var 4)] [(.or (.not (.chn .le .le (.neg (.cst (.int 20))) (.bin .add (.idx (.var 9) (.cst (.int 0))) (.var 2)) (.cst (.int 20)))) (.not (.chn .le .le (.neg (.cst (.int 20))) (.bin .add (.idx (.var 9) (.cst (.int 1))) (.var 3)) (.cst (.int 20)))))] (.var 9)) (.lst false [])) [.ret (.cmp .eq (.var 8) (.cst (.str "bad letter")))] [],
    .setT [(.nm 10), (.nm 11)] (.tup [(.call 36 [(.var 1)]), (.call 36 [(.var 8)])]),
    .set 12 (.lc false [5, 9, 13] (.tp [(.nm 5), (.nm 9), (.nm 13)]) .seq [(.meth "row" (.var 10) [])] [] (.tup [(.var 5), (.bin .add (.tup [(.bin .add (.idx (.var 9) (.cst (.int 0))) (.var 2)), (.bin .add (.idx (.var 9) (.cst (.int 1))) (.var 3))]) (.slc false (.var 9) (.cst (.int 2)) (.cst .non) (.cst .non))), (.var 13)])),
    .ife (.or (.cmp .ne (.meth "row" (.var 11) []) (.var 12)) (.or (.cmp .ne (.call 152 [(.var 8), (.bin .sub (.cst (.int 0)) (.var 2)), (.bin .sub (.cst (.int 0)) (.var 3))]) (.var 1)) (.cmp .ne (.call 154 [(.var 11)]) (.call 154 [(.var 10)])))) [.ret (.cst (.bl false))] [],
    .ife (.cmp .eq (.var 12) (.lst false [])) [.ret (.cmp .is (.call 125 [(.var 11)]) (.cst .non))] [],
    .setT [(.nm 14), (.nm 15), (.nm 16), (.nm 17)] (.call 125 [(.var 10)]),
    .ife (.cmp .ne (.call 125 [(.var 11)]) (.tup [(.bin .add (.var 14) (.var 2)), (.bin .add (.var 15) (.var 3)), (.bin .add (.var 16) (.var 2)), (.bin .add (.var 17) (.var 3))])) [.ret (.cst (.bl false))] [],
    .ret (.cmp .eq (.call 153 [(.var 11), (.bin .add (.var 14) (.var 2)), (.bin .add (.var 15) (.var 3)), (.bin .add (.var 16) (.var 2)), (.bin .add (.var 17) (.var 3))]) (.call 153 [(.var 10), (.var 14), (.var 15), (.var 16), (.var 17)]))]
/-- naming(letters, stamp) slots 0:letters 1:stamp 2:made 3:letter 4:deed -/
def b162 : List Sm := [.set 2 (.lst true []),
    .for_ (.nm 3) .seq [(.call 130 [(.var 0)])] [.set 4 (.idx (.var 3) (.cst (.int 2))),
    .ife (.and (.cmp .ne (.idx (.var 4) (.cst (.int 0))) (.cst (.str "draw"))) (.ite (.cmp .eq (.idx (.var 4) (.cst (.int 0))) (.cst (.str "group"))) (.cmp .isin (.var 1) (.idx (.var 4) (.cst (.int 1)))) (.cmp .eq (.var 1) (.idx (.var 4) (.cst (.int 1)))))) [.drop (.bm .append (.var 2) [(.var 3)])] []],
    .ret (.blt .sorted [(.var 2)])]
/-- names_in(letter) slots 0:letter 1:stamp 2:number 3:deed -/
def b163 : List Sm := [.setT [(.nm 1), (.nm 2), (.nm 3)] (.var 0),
    .ife (.cmp .eq (.idx (.var 3) (.cst (.int 0))) (.cst (.str "draw"))) [.ret (.lst false [(.var 1)])] [],
    .ife (.cmp .eq (.idx (.var 3) (.cst (.int 0))) (.cst (.str "group"))) [.ret (.bin .add (.lst false [(.var 1)]) (.blt (.list false) [(.idx (.var 3) (.cst (.int 1)))]))] [],
    .ret (.lst false [(.idx (.var 3) (.cst (.int 1)))])]
/-- story_of(letters, stamp) slots 0:letters 1:stamp 2:letter -/
def b164 : List Sm := [.ret (.lc false [2] (.nm 2) .seq [(.call 35 [(.var 0)])] [(.and (.cmp .ne (.idx (.idx (.var 2) (.cst (.int 2))) (.cst (.int 0))) (.cst (.str "undo"))) (.cmp .isin (.var 1) (.call 163 [(.var 2)])))] (.idx (.var 2) (.cst (.int 0))))]
/-- by_hands(letters) slots 0:letters 1:due 2:count 3:letter 4:made 5:hand 6:own 7:kept 8:done 9:one -/
def b165 : List Sm := [.set 1 (.call 37 [(.var 0)]),
    .set 2 (.lc false [3] (.nm 3) .seq [(.call 35 [(.var 0)])] [] (.idx (.var 3) (.cst (.int 0)))),
    .set 4 (.lst true []),
    .for_ (.nm 5) .seq [(.blt .sortedset [(.lc false [3] (.nm 3) .seq [(.var 0)] [] (.idx (.idx (.var 3) (.cst (.int 0))) (.cst (.int 1))))])] [.set 6 (.lc false [3] (.nm 3) .seq [(.var 0)] [(.cmp .eq (.idx (.idx (.var 3) (.cst (.int 0))) (.cst (.int 1))) (.var 5))] (.idx (.var 3) (.cst (.int 0)))),
    .setT [(.nm 7), (.nm 8)] (.tup [(.lc false [9] (.nm 9) .seq [(.var 6)] [(.cmp .isin (.var 9) (.var 2))] (.var 9)), (.lc false [9] (.nm 9) .seq [(.var 6)] [(.cmp .isin (.var 9) (.var 1))] (.var 9))]),
    .drop (.bm .append (.var 4) [(.tup [(.var 5), (.blt .len [(.var 6)]), (.blt .len [(.var 7)]), (.blt .len [(.var 8)])])])],
    .ret (.var 4)]
/-- law(_law_script) slots 0:_law_script 1:_law_letters 2:_law_turned_about 3:_law_parts 4:_law_hand 5:_law_told 6:_law_letter 7:_law_wrote 8:_law_k 9:_law_row 10:_law_stamps 11:_law_stamp 12:_law_due 13:_law_word 14:_law_named 15:_law_known 16:_law_one -/
def b166 : List Sm := [.set 1 (.call 127 [(.var 0), (.cst (.int 100)), (.cst (.int 14))]),
    .set 2 (.slc false (.var 1) (.cst .non) (.cst .non) (.neg (.cst (.int 1)))),
    .set 3 (.lst false []),
    .for_ (.nm 4) .seq [(.tup [(.cst (.int 0)), (.cst (.int 1)), (.cst (.int 2))])] [.set 5 (.call 131 [(.var 2), (.var 4)]),
    .ife (.cmp .ne (.var 5) (.blt .sorted [(.lc false [6] (.nm 6) .seq [(.var 1)] [(.cmp .eq (.idx (.idx (.var 6) (.cst (.int 0))) (.cst (.int 1))) (.var 4))] (.var 6))])) [.ret (.cst (.bl false))] [],
    .ife (.cmp .ne (.call 131 [(.blt .tuple [(.var 1)]), (.var 4)]) (.var 5)) [.ret (.cst (.bl false))] [],
    .ife (.cmp .ne (.lc false [6] (.nm 6) .seq [(.var 5)] [] (.idx (.var 6) (.cst (.int 1)))) (.blt .lrange [(.blt .len [(.var 5)])])) [.ret (.cst (.bl false))] [],
    .set 3 (.call 50 [(.var 3), (.var 5)])],
    .ife (.or (.cmp .ne (.var 3) (.blt .sorted [(.var 1)])) (.or (.cmp .ne (.call 131 [(.var 1), (.cst (.int 3))]) (.lst false [])) (.cmp .ne (.call 131 [(.var 1), (.neg (.cst (.int 1)))]) (.lst false [])))) [.ret (.cst (.bl false))] [],
    .set 7 (.lc true [8] (.nm 8) .rng [(.cst (.int 3))] [(.cmp .ne (.call 131 [(.var 1), (.var 8)]) (.lst false []))] (.tup [(.var 8), (.blt .len [(.call 131 [(.var 1), (.var 8)])])])),
    .ife (.cmp .ne (.lc false [9] (.nm 9) .seq [(.call 165 [(.var 1)])] [] (.slc false (.var 9) (.cst .non) (.cst (.int 2)) (.cst .non))) (.var 7)) [.ret (.cst (.bl false))] [],
    .set 10 (.bin .add (.lc false [6] (.nm 6) .seq [(.var 1)] [] (.idx (.var 6) (.cst (.int 0)))) (.lst false [(.tup [(.cst (.int 2)), (.cst (.int 1))]), (.tup [(.cst (.int 99)), (.cst (.int 0))])])),
    .for_ (.nm 8) .rng [(.cst (.int 6))] [.set 11 (.idx (.var 10) (.call 8 [(.var 0), (.bin .add (.cst (.int 600)) (.var 8)), (.blt .len [(.var 10)])])),
    .set 12 (.lst true []),
    .for_ (.nm 6) .seq [(.blt .sorted [(.var 1)])] [.setT [(.nm 13), (.nm 14)] (.tup [(.idx (.idx (.var 6) (.cst (.int 2))) (.cst (.int 0))), (.idx (.idx (.var 6) (.cst (.int 2))) (.cst (.int 1)))]),
    .ife (.or (.and (.cmp .eq (.var 13) (.cst (.str "group"))) (.cmp .isin (.var 11) (.var 14))) (.and (.cmp .notin (.var 13) (.tup [(.cst (.str "draw")), (.cst (.str "group"))])) (.cmp .eq (.var 14) (.var 11)))) [.drop (.bm .append (.var 12) [(.var 6)])] []],
    .ife (.cmp .ne (.call 162 [(.var 2), (.var 11)]) (.var 12)) [.ret (.cst (.bl false))] [],
    .set 15 (.bin .add (.lc false [6] (.nm 6) .seq [(.var 12)] [] (.idx (.var 6) (.cst (.int 0)))) (.lst false [(.var 11)])),
    .ife (.cmp .ne (.lc false [16] (.nm 16) .seq [(.call 164 [(.var 1), (.var 11)])] [(.cmp .notin (.var 16) (.var 15))] (.var 16)) (.lst false [])) [.ret (.cst (.bl false))] []],
    .ret (.and (.cmp .eq (.call 162 [(.lst false []), (.tup [(.cst (.int 1)), (.cst (.int 0))])]) (.lst false [])) (.cmp .eq (.call 131 [(.tup []), (.cst (.int 0))]) (.lst false [])))]
/-- law(_law_script) slots 0:_law_script 1:_law_odd 2:_law_good 3:_law_k 4:_law_thing 5:_law_letters 6:_law_told_here -/
def b168 : List Sm := [.set 1 (.lst true [(.cst .non), (.tup []), (.tup [(.tup [(.cst (.int 1)), (.cst (.int 0))]), (.cst (.int 0))]), (.tup [(.tup [(.cst (.int 0)), (.cst (.int 0))]), (.cst (.int 0)), (.tup [(.cst (.str "draw")), (.tup [(.cst (.int 0)), (.cst (.int 0)), (.cst (.int 1)), (.cst (.int 1))])])]), (.tup [(.tup [(.cst (.int 1)), (.cst (.int 3))]), (.cst (.int 0)), (.tup [(.cst (.str "lock")), (.tup [(.cst (.int 1)), (.cst (.int 0))])])])]),
    .drop (.bm .extend (.var 1) [(.lst false [(.tup [(.tup [(.cst (.int 1)), (.cst (.int 0))]), (.neg (.cst (.int 1))), (.tup [(.cst (.str "lock")), (.tup [(.cst (.int 1)), (.cst (.int 0))])])])])]),
    .drop (.bm .extend (.var 1) [(.lst false [(.tup [(.tup [(.cst (.int 1)), (.cst (.int 0))]), (.cst (.int 0)), (.tup [(.cst (.str "draw")), (.tup [(.cst (.int 21)), (.cst (.int 0)), (.cst (.int 1)), (.cst (.int 1))])])]), (.lst false [(.tup [(.cst (.int 1)), (.cst (.int 0))]), (.cst (.int 0)), (.tup [(.cst (.str "lock")), (.tup [(.cst (.int 1)), (.cst (.int 0))])])])])]),
    .drop (.bm .extend (.var 1) [(.lst false [(.tup [(.tup [(.cst (.int 1)), (.cst (.int 0))]), (.cst (.int 0)), (.tup [(.cst (.str "group")), (.tup [(.tup [(.cst (.int 1)), (.cst (.int 0))])])])]), (.cst (.int 5))])]),
    .set 2 (.lst true [(.tup [(.tup [(.cst (.int 1)), (.cst (.int 0))]), (.cst (.int 0)), (.tup [(.cst (.str "draw")), (.tup [(.neg (.cst (.int 20))), (.cst (.int 20)), (.cst (.int 1)), (.cst (.int 8))])])]), (.tup [(.tup [(.cst (.int 2)), (.cst (.int 1))]), (.cst (.int 0)), (.tup [(.cst (.str "lock")), (.tup [(.cst (.int 1)), (.cst (.int 0))])])])]),
    .drop (.bm .extend (.var 2) [(.lst false [(.tup [(.tup [(.cst (.int 3)), (.cst (.int 0))]), (.cst (.int 1)), (.tup [(.cst (.str "group")), (.tup [(.tup [(.cst (.int 1)), (.cst (.int 0))]), (.tup [(.cst (.int 9)), (.cst (.int 2))])])])])])]),
    .for_ (.nm 3) .rng [(.cst (.int 4))] [.set 4 (.idx (.var 1) (.bin .mod (.bin .add (.call 8 [(.var 0), (.cst (.int 0)), (.cst (.int 10))]) (.bin .mul (.cst (.int 3)) (.var 3))) (.cst (.int 10)))),
    .set 5 (.bin .add (.bin .add (.slc false (.var 2) (.cst .non) (.var 3) (.cst .non)) (.lst false [(.var 4)])) (.slc false (.var 2) (.var 3) (.cst .non) (.cst .non))),
    .set 6 (.lst true [(.told 10 155 (.call 151 [(.var 5), (.cst (.int 1))]))]),
    .drop (.bm .append (.var 6) [(.told 10 155 (.call 152 [(.var 5), (.cst (.int 0)), (.cst (.int 0))]))]),
    .drop (.bm .append (.var 6) [(.told 10 155 (.call 131 [(.var 5), (.cst (.int 0))]))]),
    .drop (.bm .append (.var 6) [(.told 10 155 (.call 162 [(.blt .tuple [(.var 5)]), (.tup [(.cst (.int 1)), (.cst (.int 0))])]))]),
    .drop (.bm .append (.var 6) [(.told 10 155 (.call 151 [(.var 2), (.idx (.lst false [(.neg (.cst (.int 1))), (.neg (.cst (.int 2))), (.cst (.int 999992)), (.cst (.int 1000000))]) (.var 3))]))]),
    .drop (.bm .append (.var 6) [(.told 10 155 (.call 152 [(.var 2), (.idx (.lst false [(.neg (.cst (.int 1))), (.cst (.int 41)), (.cst (.int 0)), (.cst (.int 0))]) (.var 3)), (.idx (.lst false [(.cst (.int 0)), (.cst (.int 0)), (.cst (.int 1)), (.neg (.cst (.int 41)))]) (.var 3))]))]),
    .ife (.cmp .ne (.var 6) (.bin .mul (.lst false [(.cst (.str "bad letter"))]) (.cst (.int 6)))) [.ret (.cst (.bl false))] []],
    .ife (.cmp .ne (.idx (.call 151 [(.var 2), (.cst (.int 999991))]) (.cst (.int 2))) (.tup [(.tup [(.cst (.int 999994)), (.cst (.int 0))]), (.cst (.int 1)), (.tup [(.cst (.str "group")), (.tup [(.tup [(.cst (.int 999992)), (.cst (.int 0))]), (.tup [(.cst (.int 1000000)), (.cst (.int 2))])])])])) [.ret (.cst (.bl false))] [],
    .ife (.cmp .ne (.idx (.call 152 [(.var 2), (.cst (.int 40)), (.neg (.cst (.int 40)))]) (.cst (.int 0))) (.tup [(.tup [(.cst (.int 1)), (.cst (.int 0))]), (.cst (.int 0)), (.tup [(.cst (.str "draw")), (.tup [(.cst (.int 20)), (.neg (.cst (.int 20))), (.cst (.int 1)), (.cst (.int 8))])])])) [.ret (.cst (.bl false))] [],
    .ret (.and (.cmp .eq (.call 131 [(.var 2), (.cst (.int 0))]) (.slc false (.var 2) (.cst .non) (.cst .non) (.cst (.int 2)))) (.and (.cmp .eq (.call 162 [(.var 2), (.tup [(.cst (.int 1)), (.cst (.int 0))])]) (.slc false (.var 2) (.cst (.int 1)) (.cst .non) (.cst .non))) (.cmp .eq (.call 162 [(.var 2), (.tup [(.cst (.int 9)), (.cst (.int 2))])]) (.slc false (.var 2) (.cst (.int 2)) (.cst .non) (.cst .non)))))]
/-- _law_do(_law_what, _law_hand, _law_thing) slots 0:_law_what 1:_law_hand 2:_law_thing 3:_law_kept 4:_law_answer 5:e -/
def b169 : List Sm := [.set 3 (.cst .non),
    .set 4 (.cst .non),
    .try_ [.ife (.cmp .lt (.var 0) (.cst (.int 2))) [.set 4 (.ite (.cmp .eq (.var 0) (.cst (.int 0))) (.meth "do" (.var 1) [(.var 2)]) (.meth "take" (.var 1) [(.var 2)]))] [.set 4 (.meth "waiting" (.var 1) [(.cst (.int 0)), (.var 2)])]] 10 (some 5) [.set 3 (.var 5)],
    .ife (.cmp .is (.var 3) (.cst .non)) [.ret (.var 4)] [],
    .ret (.call 51 [(.var 3)])]
/-- _law_lists(_law_letters, _law_slate) slots 0:_law_letters 1:_law_slate 2:_law_made 3:_law_name 4:_law_box 5:_law_colour -/
def b170 : List Sm := [.set 2 (.lst true [(.call 50 [(.var 0), (.lst false [])]), (.call 35 [(.var 0)]), (.call 37 [(.var 0)]), (.call 56 [(.var 0), (.tup [(.cst (.int 3)), (.cst (.int 1))])]), (.call 143 [(.call 138 [(.var 0)])])]),
    .drop (.bm .extend (.var 2) [(.lst false [(.call 57 [(.var 0), (.tup [(.cst (.int 3)), (.cst (.int 1))])]), (.meth "row" (.var 1) []), (.call 102 [(.var 1), (.cst (.int 5)), (.cst (.int 5))]), (.call 103 [(.var 1), (.cst (.int 5)), (.cst (.int 5))])])]),
    .drop (.bm .append (.var 2) [(.call 105 [(.var 1), (.cst (.int 0)), (.cst (.int 0)), (.cst (.int 9)), (.cst (.int 9))])]),
    .for_ (.tp [(.nm 3), (.nm 4), (.nm 5)]) .seq [(.slc false (.meth "row" (.var 1) []) (.cst .non) (.cst (.int 2)) (.cst .non))] [.drop (.bm .extend (.var 2) [(.lst false [(.meth "members" (.var 1) [(.var 3)]), (.meth "path" (.var 1) [(.var 3)]), (.meth "shapes" (.var 1) [(.var 3)])])])],
    .ret (.var 2)]
/-- _law_known(_law_hand) slots 0:_law_hand 1:_law_some 2:_law_number -/
def b171 : List Sm := [.set 1 (.meth "known" (.var 0) []),
    .ret (.lc false [2] (.nm 2) .seq [(.blt .sorted [(.var 1)])] [] (.tup [(.var 2), (.blt (.list false) [(.idx (.var 1) (.var 2))])]))]
/-- _law_is_post_kept() slots 0:_law_post -/
def b172 : List Sm := [.set 0 (.make 2 [(.cst (.int 2))]),
    .drop (.meth "do" (.var 0) [(.cst (.int 0)), (.tup [(.cst (.str "draw")), (.tup [(.cst (.int 1)), (.cst (.int 1)), (.cst (.int 2)), (.cst (.int 2))])])]),
    .drop (.bm .clear (.meth "waiting" (.var 0) [(.cst (.int 0)), (.cst (.int 1))]) []),
    .drop (.bm .clear (.meth "letters" (.meth "hand" (.var 0) [(.cst (.int 0))]) []) []),
    .ife (.or (.cmp .ne (.blt .len [(.meth "waiting" (.var 0) [(.cst (.int 0)), (.cst (.int 1))])]) (.cst (.int 1))) (.or (.cmp .ne (.blt .len [(.meth "letters" (.meth "hand" (.var 0) [(.cst (.int 0))]) [])]) (.cst (.int 1))) (.cmp .ne (.meth "letters" (.meth "hand" (.var 0) [(.cst (.int 1))]) []) (.lst false [])))) [.ret (.cst (.bl false))] [],
    .ret (.cmp .eq (.call 169 [(.cst (.int 2)), (.var 0), (.cst (.int 5))]) (.cst (.str "no hand")))]
/-- law(_law_script) slots 0:_law_script 1:_law_letters 2:_law_copy 3:_law_slate 4:_law_before 5:_law_told 6:_law_asked 7:_law_row 8:_law_first 9:_law_rest 10:_law_held 11:_law_one 12:_law_idle 13:_law_letter 14:_law_known_here 15:_law_rows 16:_law_kept 17:_law_number -/
def b173 : List Sm := [.set 1 (.call 10 [(.var 0), (.cst (.int 0)), (.cst (.int 10))]),
    .setT [(.nm 2), (.nm 3)] (.tup [(.blt (.list false) [(.var 1)]), (.call 36 [(.var 1)])]),
    .setT [(.nm 4), (.nm 5)] (.tup [(.meth "told" (.var 3) []), (.call 170 [(.var 1), (.var 3)])]),
    .set 6 (.lc false [7] (.nm 7) .seq [(.var 5)] [] (.blt (.list false) [(.var 7)])),
    .for_ (.nm 7) .seq [(.var 5)] [.drop (.bm .append (.var 7) [(.cst .non)]),
    .drop (.bm .reverse (.var 7) [])],
    .ife (.or (.cmp .ne (.call 170 [(.var 1), (.var 3)]) (.var 6)) (.or (.cmp .ne (.var 1) (.var 2)) (.cmp .ne (.meth "told" (.var 3) []) (.var 4)))) [.ret (.cst (.bl false))] [],
    .setT [(.nm 8), (.nm 9)] (.tup [(.call 36 [(.call 56 [(.var 1), (.tup [(.cst (.int 3)), (.cst (.int 1))])])]), (.call 57 [(.var 1), (.tup [(.cst (.int 3)), (.cst (.int 1))])])]),
    .set 10 (.meth "told" (.var 8) []),
    .ife (.or (.cmp .ne (.meth "told" (.call 58 [(.var 8), (.var 9)]) []) (.meth "told" (.call 58 [(.var 8), (.var 9)]) [])) (.cmp .ne (.meth "told" (.var 8) []) (.var 10))) [.ret (.cst (.bl false))] [],
    .ife (.cmp .ne (.lc false [7] (.nm 7) .seq [(.slc false (.meth "row" (.var 3) []) (.cst .non) (.cst (.int 2)) (.cst .non))] [] (.call 115 [(.var 3), (.idx (.var 7) (.cst (.int 0)))])) (.lc false [7] (.nm 7) .seq [(.slc false (.meth "row" (.var 3) []) (.cst .non) (.cst (.int 2)) (.cst .non))] [] (.call 115 [(.var 3), (.idx (.var 7) (.cst (.int 0)))]))) [.ret (.cst (.bl false))] [],
    .setT [(.nm 11), (.nm 12)] (.tup [(.make 1 [(.cst (.int 0))]), (.make 1 [(.cst (.int 1))])]),
    .set 1 (.lc false [13] (.nm 13) .seq [(.var 1)] [(.cmp .ne (.idx (.idx (.var 13) (.cst (.int 0))) (.cst (.int 1))) (.cst (.int 0)))] (.var 13)),
    .setT [(.nm 2), (.nm 4)] (.tup [(.blt (.list false) [(.var 1)]), (.meth "told" (.call 36 [(.var 1)]) [])]),
    .for_ (.nm 13) .seq [(.var 1)] [.drop (.meth "take" (.var 11) [(.var 13)]),
    .ife (.cmp .ne (.lst false [(.call 169 [(.cst (.int 0)), (.var 11), (.cst .non)]), (.call 169 [(.cst (.int 1)), (.var 11), (.slc false (.var 13) (.cst .non) (.cst (.int 2)) (.cst .non))])]) (.lst false [(.cst (.str "bad deed")), (.cst (.str "bad letter"))])) [.ret (.cst (.bl false))] []],
    .setT [(.nm 14), (.nm 15)] (.tup [(.call 171 [(.var 11)]), (.lst false [(.meth "letters" (.var 11) []), (.meth "missing" (.var 11) []), (.meth "for_other" (.var 11) [(.dnew true)])])]),
    .set 16 (.lc false [7] (.nm 7) .seq [(.var 15)] [] (.blt (.list false) [(.var 7)])),
    .for_ (.nm 7) .seq [(.bin .add (.var 15) (.lc false [17] (.nm 17) .seq [(.meth "known" (.var 11) [])] [] (.idx (.meth "known" (.var 11) []) (.var 17))))] [.drop (.bm .append (.var 7) [(.cst .non)])],
    .drop (.bm .clear (.meth "known" (.var 11) []) []),
    .ife (.or (.cmp .ne (.lst false [(.meth "letters" (.var 11) []), (.meth "missing" (.var 11) []), (.meth "for_other" (.var 11) [(.dnew true)])]) (.var 16)) (.cmp .ne (.call 171 [(.var 11)]) (.var 14))) [.ret (.cst (.bl false))] [],
    .ife (.or (.cmp .ne (.meth "letters" (.var 12) []) (.lst false [])) (.or (.cmp .ne (.meth "known" (.var 12) []) (.dnew true)) (.cmp .ne (.meth "told" (.meth "slate" (.var 12) []) []) (.meth "told" (.call 36 [(.lst false [])]) [])))) [.ret (.cst (.bl false))] [],
    .ret (.and (.call 172 []) (.and (.cmp .eq (.meth "told" (.meth "slate" (.var 11) []) []) (.var 4)) (.cmp .eq (.var 1) (.var 2))))]
/-- steps_of(letters) slots 0:letters 1:made 2:slate 3:stamp 4:number 5:deed -/
def b174 : List Sm := [.setT [(.nm 1), (.nm 2)] (.tup [(.lst true []), (.call 23 [])]),
    .for_ (.tp [(.nm 3), (.nm 4), (.nm 5)]) .seq [(.call 35 [(.var 0)])] [.set 2 (.call 32 [(.var 2), (.var 3), (.var 5)]),
    .drop (.bm .append (.var 1) [(.tup [(.var 3), (.meth "told" (.var 2) [])])])],
    .ret (.var 1)]
/-- law(_law_script) slots 0:_law_script 1:_law_letters 2:_law_mixed_here 3:_law_told 4:_law_some 5:_law_stamp 6:_law_here 7:_law_letter 8:_law_empty 9:_law_due 10:_law_before 11:_law_k 12:_law_part -/
def b175 : List Sm := [.set 1 (.call 127 [(.var 0), (.cst (.int 100)), (.cst (.int 14))]),
    .set 2 (.call 48 [(.var 0), (.cst (.int 400)), (.var 1)]),
    .setT [(.nm 3), (.nm 4)] (.tup [(.call 174 [(.var 2)]), (.call 35 [(.var 1)])]),
    .ife (.cmp .ne (.lc false [5, 6] (.tp [(.nm 5), (.nm 6)]) .seq [(.var 3)] [] (.var 5)) (.lc false [7] (.nm 7) .seq [(.var 4)] [] (.idx (.var 7) (.cst (.int 0))))) [.ret (.cst (.bl false))] [],
    .set 8 (.call 36 [(.lst false [])]),
    .setT [(.nm 9), (.nm 10)] (.tup [(.lst true []), (.meth "told" (.var 8) [])]),
    .for_ (.tp [(.nm 11), (.tp [(.nm 5), (.nm 6)])]) .enum [(.var 3)] [.ife (.cmp .ne (.meth "told" (.call 58 [(.var 8), (.lc false [7] (.nm 7) .seq [(.slc false (.var 4) (.cst .non) (.bin .add (.var 11) (.cst (.int 1))) (.cst .non))] [(.cmp .ne (.idx (.idx (.var 7) (.cst (.int 2))) (.cst (.int 0))) (.cst (.str "undo")))] (.var 7))]) []) (.var 6)) [.ret (.cst (.bl false))] [],
    .drop (.bm .extend (.var 9) [(.bin .mul (.lst false [(.var 5)]) (.blt .int [(.cmp .ne (.var 6) (.var 10))]))]),
    .set 10 (.var 6)],
    .ife (.or (.cmp .ne (.call 37 [(.var 1)]) (.var 9)) (.cmp .ne (.var 10) (.meth "told" (.call 36 [(.var 1)]) []))) [.ret (.cst (.bl false))] [],
    .for_ (.nm 7) .seq [(.slc false (.var 1) (.cst .non) (.cst (.int 4)) (.cst .non))] [.set 12 (.call 56 [(.var 1), (.idx (.var 7) (.cst (.int 0)))]),
    .ife (.and (.cmp .ne (.call 174 [(.var 12)]) (.lst false [])) (.cmp .ne (.idx (.idx (.call 174 [(.var 12)]) (.neg (.cst (.int 1)))) (.cst (.int 1))) (.meth "told" (.call 36 [(.var 12)]) []))) [.ret (.cst (.bl false))] []],
    .ret (.cmp .eq (.call 174 [(.lst false [])]) (.lst false []))]
/-- last_on(letters, stamp) slots 0:letters 1:stamp 2:due 3:some 4:one -/
def b176 : List Sm := [.set 2 (.call 37 [(.var 0)]),
    .set 3 (.lc false [4] (.nm 4) .seq [(.call 164 [(.var 0), (.var 1)])] [(.cmp .isin (.var 4) (.var 2))] (.var 4)),
    .ret (.ite (.cmp .ne (.var 3) (.lst false [])) (.idx (.var 3) (.neg (.cst (.int 1)))) (.cst .non))]
/-- law(_law_script) slots 0:_law_script 1:_law_letters 2:_law_mixed_here 3:_law_some 4:_law_due_list 5:_law_stamp 6:_law_letter 7:_law_due 8:_law_mine 9:_law_number 10:_law_deed_here 11:_law_named 12:_law_makes 13:_law_last 14:_law_one -/
def b177 : List Sm := [.set 1 (.call 127 [(.var 0), (.cst (.int 100)), (.cst (.int 14))]),
    .set 2 (.call 48 [(.var 0), (.cst (.int 400)), (.var 1)]),
    .setT [(.nm 3), (.nm 4)] (.tup [(.call 35 [(.var 1)]), (.call 37 [(.var 1)])]),
    .for_ (.nm 5) .seq [(.bin .add (.lc false [6] (.nm 6) .seq [(.var 1)] [] (.idx (.var 6) (.cst (.int 0)))) (.lst false [(.tup [(.cst (.int 999)), (.cst (.int 2))])]))] [.set 7 (.lst true []),
    .for_ (.tp [(.nm 8), (.nm 9), (.nm 10)]) .seq [(.var 3)] [.set 11 (.ite (.cmp .eq (.idx (.var 10) (.cst (.int 0))) (.cst (.str "group"))) (.blt (.list false) [(.idx (.var 10) (.cst (.int 1)))]) (.lst false [(.idx (.var 10) (.cst (.int 1)))])),
    .set 12 (.and (.cmp .isin (.idx (.var 10) (.cst (.int 0))) (.tup [(.cst (.str "draw")), (.cst (.str "group"))])) (.cmp .eq (.var 8) (.var 5))),
    .ife (.or (.var 12) (.and (.cmp .notin (.idx (.var 10) (.cst (.int 0))) (.tup [(.cst (.str "draw")), (.cst (.str "undo"))])) (.cmp .isin (.var 5) (.var 11)))) [.drop (.bm .append (.var 7) [(.var 8)])] []],
    .ife (.cmp .ne (.call 164 [(.var 2), (.var 5)]) (.var 7)) [.ret (.cst (.bl false))] [],
    .set 13 (.lc false [14] (.nm 14) .seq [(.var 7)] [(.cmp .isin (.var 14) (.var 4))] (.var 14)),
    .ife (.cmp .ne (.call 176 [(.var 2), (.var 5)]) (.ite (.cmp .ne (.var 13) (.lst false [])) (.idx (.var 13) (.neg (.cst (.int 1)))) (.cst .non))) [.ret (.cst (.bl false))] [],
    .ife (.cmp .ne (.lc false [14] (.nm 14) .seq [(.var 13)] [(.cmp .lt (.var 14) (.var 5))] (.var 14)) (.lst false [])) [.ret (.cst (.bl false))] []],
    .ret (.and (.cmp .eq (.call 164 [(.lst false []), (.tup [(.cst (.int 1)), (.cst (.int 0))])]) (.lst false [])) (.cmp .is (.call 176 [(.lst false []), (.tup [(.cst (.int 1)), (.cst (.int 0))])]) (.cst .non)))]
/-- law(_law_script) slots 0:_law_script 1:_law_letters 2:_law_some 3:_law_due_list 4:_law_letter 5:_law_due 6:_law_hand 7:_law_own 8:_law_kept 9:_law_stamp 10:_law_told 11:_law_one -/
def b178 : List Sm := [.set 1 (.call 127 [(.var 0), (.cst (.int 100)), (.cst (.int 14))]),
    .setT [(.nm 2), (.nm 3)] (.tup [(.lc false [4] (.nm 4) .seq [(.call 35 [(.var 1)])] [] (.idx (.var 4) (.cst (.int 0)))), (.call 37 [(.var 1)])]),
    .set 5 (.lst true []),
    .for_ (.nm 6) .rng [(.cst (.int 3))] [.set 7 (.lc false [4] (.nm 4) .seq [(.var 1)] [(.cmp .eq (.idx (.idx (.var 4) (.cst (.int 0))) (.cst (.int 1))) (.var 6))] (.idx (.var 4) (.cst (.int 0)))),
    .ife (.cmp .ne (.var 7) (.lst false [])) [.set 8 (.lc false [9] (.nm 9) .seq [(.var 7)] [(.cmp .isin (.var 9) (.var 2))] (.var 9)),
    .drop (.bm .append (.var 5) [(.tup [(.var 6), (.blt .len [(.var 7)]), (.blt .len [(.var 8)]), (.blt .len [(.lc false [9] (.nm 9) .seq [(.var 7)] [(.cmp .isin (.var 9) (.var 3))] (.var 9))])])])] []],
    .set 10 (.call 165 [(.call 48 [(.var 0), (.cst (.int 400)), (.var 1)])]),
    .ife (.or (.cmp .ne (.var 10) (.var 5)) (.cmp .ne (.call 165 [(.lst false [])]) (.lst false []))) [.ret (.cst (.bl false))] [],
    .ife (.or (.cmp .ne (.blt .sum [(.lc false [11] (.nm 11) .seq [(.var 10)] [] (.idx (.var 11) (.cst (.int 1))))]) (.blt .len [(.var 1)])) (.cmp .ne (.blt .sum [(.lc false [11] (.nm 11) .seq [(.var 10)] [] (.idx (.var 11) (.cst (.int 2))))]) (.blt .len [(.var 2)]))) [.ret (.cst (.bl false))] [],
    .ret (.cmp .eq (.blt .sum [(.lc false [11] (.nm 11) .seq [(.var 10)] [] (.idx (.var 11) (.cst (.int 3))))]) (.blt .len [(.var 3)]))]
/-- _law_paint(_law_slate) slots 0:_law_slate 1:_law_made 2:_law_stamp 3:_law_box 4:_law_colour 5:_law_x 6:_law_y -/
def b179 : List Sm := [.set 1 (.dnew true),
    .for_ (.tp [(.nm 2), (.nm 3), (.nm 4)]) .seq [(.meth "row" (.var 0) [])] [.for_ (.nm 5) .rng [(.idx (.var 3) (.cst (.int 0))), (.bin .add (.idx (.var 3) (.cst (.int 0))) (.idx (.var 3) (.cst (.int 2))))] [.for_ (.nm 6) .rng [(.idx (.var 3) (.cst (.int 1))), (.bin .add (.idx (.var 3) (.cst (.int 1))) (.idx (.var 3) (.cst (.int 3))))] [.setI (.var 1) (.tup [(.var 5), (.var 6)]) (.var 4)]]],
    .ret (.var 1)]
/-- law(_law_script) slots 0:_law_script 1:_law_slate 2:_law_book 3:_law_left 4:_law_top 5:_law_right 6:_law_bottom 7:_law_due 8:_law_y 9:_law_x 10:_law_tally 11:_law_spot 12:_law_colour 13:_law_many -/
def b180 : List Sm := [.set 1 (.call 36 [(.call 127 [(.var 0), (.cst (.int 100)), (.cst (.int 14))])]),
    .set 2 (.call 179 [(.var 1)]),
    .setT [(.nm 3), (.nm 4)] (.tup [(.bin .sub (.call 8 [(.var 0), (.cst (.int 0)), (.cst (.int 20))]) (.cst (.int 6))), (.bin .sub (.call 8 [(.var 0), (.cst (.int 1)), (.cst (.int 20))]) (.cst (.int 6)))]),
    .setT [(.nm 5), (.nm 6)] (.tup [(.bin .add (.var 3) (.call 8 [(.var 0), (.cst (.int 2)), (.cst (.int 16))])), (.bin .add (.var 4) (.call 8 [(.var 0), (.cst (.int 3)), (.cst (.int 9))]))]),
    .set 7 (.cst (.str "")),
    .for_ (.nm 8) .rng [(.var 4), (.var 6)] [.set 7 (.bin .add (.bin .add (.var 7) (.bm .join (.cst (.str "")) [(.lc false [9] (.nm 9) .rng [(.var 3), (.var 5)] [] (.blt .str [(.bm .get (.var 2) [(.tup [(.var 9), (.var 8)]), (.cst (.str "."))])]))])) (.cst (.str "\n")))],
    .ife (.or (.cmp .ne (.call 153 [(.var 1), (.var 3), (.var 4), (.var 5), (.var 6)]) (.var 7)) (.cmp .ne (.call 153 [(.var 1), (.cst (.int 0)), (.cst (.int 0)), (.cst (.int 5)), (.cst (.int 0))]) (.cst (.str "")))) [.ret (.cst (.bl false))] [],
    .set 10 (.dnew false),
    .for_ (.nm 11) .seq [(.var 2)] [.setI (.var 10) (.idx (.var 2) (.var 11)) (.bin .add (.bm .get (.var 10) [(.idx (.var 2) (.var 11)), (.cst (.int 0))]) (.cst (.int 1)))],
    .ife (.or (.cmp .ne (.call 154 [(.var 1)]) (.blt .sitems [(.var 10)])) (.cmp .ne (.blt .sum [(.lc false [12, 13] (.tp [(.nm 12), (.nm 13)]) .seq [(.call 154 [(.var 1)])] [] (.var 13))]) (.blt .len [(.var 2)]))) [.ret (.cst (.bl false))] [],
    .for_ (.tp [(.nm 9), (.nm 8)]) .seq [(.slc false (.blt .sorted [(.var 2)]) (.cst .non) (.cst (.int 4)) (.cst .non))] [.ife (.cmp .ne (.call 106 [(.var 1), (.var 9), (.var 8)]) (.idx (.var 2) (.tup [(.var 9), (.var 8)]))) [.ret (.cst (.bl false))] [],
    .ife (.cmp .ne (.call 153 [(.var 1), (.var 9), (.var 8), (.bin .add (.var 9) (.cst (.int 1))), (.bin .add (.var 8) (.cst (.int 1)))]) (.bin .add (.blt .str [(.idx (.var 2) (.tup [(.var 9), (.var 8)]))]) (.cst (.str "\n")))) [.ret (.cst (.bl false))] []],
    .ret (.and (.cmp .eq (.call 154 [(.call 36 [(.lst false [])])]) (.lst false [])) (.cmp .eq (.call 153 [(.call 36 [(.lst false [])]), (.cst (.int 0)), (.cst (.int 0)), (.cst (.int 2)), (.cst (.int 2))]) (.cst (.str "..\n..\n"))))]
/-- law(_law_script) slots 0:_law_script 1:_law_letters 2:_law_other 3:_law_one 4:_law_two 5:_law_mine 6:_law_yours 7:_law_due 8:_law_spot 9:_law_told 10:_law_rows 11:_law_lines 12:_law_y 13:_law_x -/
def b181 : List Sm := [.set 1 (.call 127 [(.var 0), (.cst (.int 100)), (.cst (.int 14))]),
    .set 2 (.slc false (.var 1) (.cst .non) (.call 8 [(.var 0), (.cst (.int 0)), (.bin .add (.blt .len [(.var 1)]) (.cst (.int 1)))]) (.cst .non)),
    .ife (.cmp .eq (.call 8 [(.var 0), (.cst (.int 1)), (.cst (.int 3))]) (.cst (.int 0))) [.set 2 (.call 127 [(.var 0), (.cst (.int 600)), (.cst (.int 9))])] [],
    .setT [(.nm 3), (.nm 4)] (.tup [(.call 36 [(.var 1)]), (.call 36 [(.var 2)])]),
    .setT [(.nm 5), (.nm 6)] (.tup [(.call 179 [(.var 3)]), (.call 179 [(.var 4)])]),
    .set 7 (.lc false [8] (.nm 8) .seq [(.blt .sortedset [(.bin .add (.blt (.list false) [(.var 5)]) (.blt (.list false) [(.var 6)]))])] [(.cmp .ne (.bm .get (.var 5) [(.var 8)]) (.bm .get (.var 6) [(.var 8)]))] (.var 8)),
    .set 9 (.call 133 [(.var 3), (.var 4)]),
    .ife (.or (.cmp .ne (.var 9) (.var 7)) (.or (.cmp .ne (.call 133 [(.var 4), (.var 3)]) (.var 7)) (.cmp .ne (.call 133 [(.var 3), (.var 3)]) (.lst false [])))) [.ret (.cst (.bl false))] [],
    .setT [(.nm 10), (.nm 11)] (.tup [(.bm .split (.call 153 [(.var 3), (.cst (.int 0)), (.cst (.int 0)), (.cst (.int 12)), (.cst (.int 12))]) [(.cst (.str "\n"))]), (.bm .split (.call 153 [(.var 4), (.cst (.int 0)), (.cst (.int 0)), (.cst (.int 12)), (.cst (.int 12))]) [(.cst (.str "\n"))])]),
    .for_ (.nm 12) .rng [(.cst (.int 12))] [.for_ (.nm 13) .rng [(.cst (.int 12))] [.ife (.cmp .ne (.cmp .ne (.idx (.idx (.var 10) (.var 12)) (.var 13)) (.idx (.idx (.var 11) (.var 12)) (.var 13))) (.cmp .isin (.tup [(.var 13), (.var 12)]) (.var 7))) [.ret (.cst (.bl false))] []]],
    .ret (.cmp .eq (.call 133 [(.var 3), (.call 36 [(.lst false [])])]) (.blt .sorted [(.var 5)]))]
/-- Draft.__init__(self, own, letters) slots 0:self 1:own 2:letters 3:letter -/
def b182 : List Sm := [.ife (.not (.call 1 [(.var 1), (.cst (.int 0)), (.bin .sub (.gc "MOST_HANDS" (.int 3)) (.cst (.int 1)))])) [.raise 15] [],
    .ife (.not (.blt .all [(.lc false [3] (.nm 3) .seq [(.var 2)] [] (.call 6 [(.var 3)]))])) [.raise 13] [],
    .setF (.var 0) "own" (.var 1),
    .setF (.var 0) "base" (.blt .tuple [(.call 50 [(.blt (.list false) [(.var 2)]), (.lst false [])])]),
    .setF (.var 0) "now" (.tup []),
    .setF (.var 0) "past" (.lst true []),
    .setF (.var 0) "later" (.lst true [])]
/-- Draft.put(self, deed) slots 0:self 1:deed 2:ahead 3:clock 4:letter 5:number -/
def b183 : List Sm := [.drop (.call 63 [(.var 1)]),
    .ife (.cmp .eq (.blt .len [(.fld (.var 0) "now")]) (.gc "MOST_DRAFTED" (.int 12))) [.raise 13] [],
    .set 2 (.meth "told" (.meth "slate" (.var 0) []) []),
    .set 3 (.bin .add (.blt .max [(.bin .add (.lst false [(.cst (.int 0))]) (.lc false [4] (.nm 4) .seq [(.bin .add (.fld (.var 0) "base") (.fld (.var 0) "now"))] [] (.idx (.idx (.var 4) (.cst (.int 0))) (.cst (.int 0)))))]) (.cst (.int 1))),
    .set 5 (.blt .len [(.lc false [4] (.nm 4) .seq [(.bin .add (.fld (.var 0) "base") (.fld (.var 0) "now"))] [(.cmp .eq (.idx (.idx (.var 4) (.cst (.int 0))) (.cst (.int 1))) (.fld (.var 0) "own"))] (.cst (.int 1)))]),
    .drop (.bm .append (.fld (.var 0) "past") [(.fld (.var 0) "now")]),
    .setF (.var 0) "later" (.lst true []),
    .setF (.var 0) "now" (.bin .add (.fld (.var 0) "now") (.tup [(.tup [(.tup [(.var 3), (.fld (.var 0) "own")]), (.var 5), (.var 1)])])),
    .ret (.cmp .ne (.meth "told" (.meth "slate" (.var 0) []) []) (.var 2))]
/-- Draft.slate(self) slots 0:self -/
def b184 : List Sm := [.ret (.call 36 [(.blt (.list false) [(.bin .add (.fld (.var 0) "base") (.fld (.var 0) "now"))])])]
/-- Draft.drafted(self) slots 0:self -/
def b185 : List Sm := [.ret (.blt (.list false) [(.fld (.var 0) "now")])]
/-- Draft.ground(self) slots 0:self -/
def b186 : List Sm := [.ret (.blt (.list false) [(.fld (.var 0) "base")])]
/-- Draft.hand_of(self) slots 0:self -/
def b187 : List Sm := [.ret (.fld (.var 0) "own")]
/-- Draft.back(self) slots 0:self 1:deed -/
def b188 : List Sm := [.ife (.cmp .eq (.fld (.var 0) "past") (.lst false [])) [.raise 17] [],
    .set 1 (.idx (.idx (.fld (.var 0) "now") (.neg (.cst (.int 1)))) (.cst (.int 2))),
    .drop (.bm .append (.fld (.var 0) "later") [(.fld (.var 0) "now")]),
    .setF (.var 0) "now" (.bm .pop (.fld (.var 0) "past") []),
    .ret (.var 1)]
/-- Draft.counts(self) slots 0:self -/
def b189 : List Sm := [.ret (.tup [(.blt .len [(.fld (.var 0) "past")]), (.blt .len [(.fld (.var 0) "later")])])]
/-- _law_put(_law_script, _law_at, _law_ground, _law_drafted, _law_own) slots 0:_law_script 1:_law_at 2:_law_ground 3:_law_drafted 4:_law_own 5:_law_every 6:_law_names 7:_law_letter 8:_law_deed_here 9:_law_clock -/
def b190 : List Sm := [.set 5 (.bin .add (.var 2) (.var 3)),
    .set 6 (.lc false [7] (.nm 7) .seq [(.var 5)] [(.cmp .isin (.idx (.idx (.var 7) (.cst (.int 2))) (.cst (.int 0))) (.tup [(.cst (.str "draw")), (.cst (.str "group"))]))] (.idx (.var 7) (.cst (.int 0)))),
    .ife (.cmp .eq (.call 8 [(.var 0), (.var 1), (.cst (.int 4))]) (.cst (.int 0))) [.set 6 (.lc false [7] (.nm 7) .seq [(.var 5)] [] (.idx (.var 7) (.cst (.int 0))))] [],
    .set 8 (.call 126 [(.var 0), (.bin .add (.var 1) (.cst (.int 1))), (.var 6)]),
    .set 9 (.bin .add (.blt .max [(.bin .add (.lst false [(.cst (.int 0))]) (.lc false [7] (.nm 7) .seq [(.var 5)] [] (.idx (.idx (.var 7) (.cst (.int 0))) (.cst (.int 0)))))]) (.cst (.int 1))),
    .ret (.tup [(.tup [(.var 9), (.var 4)]), (.blt .len [(.lc false [7] (.nm 7) .seq [(.var 5)] [(.cmp .eq (.idx (.idx (.var 7) (.cst (.int 0))) (.cst (.int 1))) (.var 4))] (.var 7))]), (.var 8)])]
/-- law(_law_script) slots 0:_law_script 1:_law_ground 2:_law_own 3:_law_draft 4:_law_drafted 5:_law_k 6:_law_letter 7:_law_before -/
def b191 : List Sm := [.setT [(.nm 1), (.nm 2)] (.tup [(.blt .sorted [(.call 127 [(.var 0), (.cst (.int 100)), (.cst (.int 10))])]), (.call 8 [(.var 0), (.cst (.int 0)), (.cst (.int 3))])]),
    .setT [(.nm 3), (.nm 4)] (.tup [(.make 3 [(.var 2), (.call 48 [(.var 0), (.cst (.int 400)), (.var 1)])]), (.lst false [])]),
    .ife (.or (.cmp .ne (.meth "ground" (.var 3) []) (.var 1)) (.or (.cmp .ne (.meth "hand_of" (.var 3) []) (.var 2)) (.cmp .ne (.meth "told" (.meth "slate" (.var 3) []) []) (.meth "told" (.call 36 [(.var 1)]) [])))) [.ret (.cst (.bl false))] [],
    .for_ (.nm 5) .rng [(.cst (.int 7))] [.set 6 (.call 190 [(.var 0), (.bin .add (.cst (.int 1000)) (.bin .mul (.cst (.int 20)) (.var 5))), (.var 1), (.var 4), (.var 2)]),
    .set 7 (.meth "told" (.call 36 [(.bin .add (.var 1) (.var 4))]) []),
    .set 4 (.bin .add (.var 4) (.lst false [(.var 6)])),
    .ife (.or (.cmp .ne (.meth "put" (.var 3) [(.idx (.var 6) (.cst (.int 2)))]) (.cmp .ne (.meth "told" (.call 36 [(.bin .add (.var 1) (.var 4))]) []) (.var 7))) (.cmp .ne (.meth "drafted" (.var 3) []) (.var 4))) [.ret (.cst (.bl false))] [],
    .ife (.cmp .ne (.meth "told" (.meth "slate" (.var 3) []) []) (.meth "told" (.call 36 [(.bin .add (.var 1) (.var 4))]) [])) [.ret (.cst (.bl false))] []],
    .ret (.and (.cmp .eq (.meth "ground" (.var 3) []) (.var 1)) (.cmp .eq (.meth "counts" (.var 3) []) (.tup [(.cst (.int 7)), (.cst (.int 0))])))]
/-- Draft.forth(self) slots 0:self -/
def b192 : List Sm := [.ife (.cmp .eq (.fld (.var 0) "later") (.lst false [])) [.raise 17] [],
    .drop (.bm .append (.fld (.var 0) "past") [(.fld (.var 0) "now")]),
    .setF (.var 0) "now" (.bm .pop (.fld (.var 0) "later") []),
    .ret (.idx (.idx (.fld (.var 0) "now") (.neg (.cst (.int 1)))) (.cst (.int 2)))]
/-- _law_class(_law_kept) slots 0:_law_kept 1:_law_kinds -/
def b193 : List Sm := [.set 1 (.lst true [(.isE (.var 0) 12), (.isE (.var 0) 13), (.isE (.var 0) 17)]),
    .drop (.bm .extend (.var 1) [(.lst false [(.isE (.var 0) 15)])]),
    .set 1 (.bin .add (.var 1) (.lst false [(.isE (.var 0) 14), (.isE (.var 0) 16), (.isE (.var 0) 11)])),
    .ife (.or (.cmp .ne (.bm .count (.var 1) [(.cst (.bl true))]) (.cst (.int 1))) (.not (.isE (.var 0) 9))) [.ret (.cst (.str "wrong"))] [],
    .ret (.idx (.lst false [(.cst (.str "bad deed")), (.cst (.str "bad letter")), (.cst (.str "no back")), (.cst (.str "no hand")), (.cst (.str "no letter")), (.cst (.str "no text")), (.cst (.str "no thing"))]) (.bm .index (.var 1) [(.cst (.bl true))]))]
/-- law(_law_script) slots 0:_law_script 1:_law_ground 2:_law_own 3:_law_draft 4:_law_drafted 5:_law_gone 6:_law_k 7:_law_way 8:_law_letter 9:_law_told_here -/
def b195 : List Sm := [.setT [(.nm 1), (.nm 2)] (.tup [(.blt .sorted [(.call 127 [(.var 0), (.cst (.int 100)), (.cst (.int 8))])]), (.call 8 [(.var 0), (.cst (.int 0)), (.cst (.int 3))])]),
    .setT [(.nm 3), (.nm 4), (.nm 5)] (.tup [(.make 3 [(.var 2), (.var 1)]), (.lst false []), (.lst false [])]),
    .for_ (.nm 6) .rng [(.cst (.int 18))] [.set 7 (.call 8 [(.var 0), (.bin .add (.cst (.int 900)) (.var 6)), (.cst (.int 9))]),
    .ife (.cmp .lt (.var 7) (.cst (.int 6))) [.set 8 (.call 190 [(.var 0), (.bin .add (.cst (.int 1000)) (.bin .mul (.cst (.int 20)) (.var 6))), (.var 1), (.var 4), (.var 2)]),
    .set 9 (.told 10 193 (.meth "put" (.var 3) [(.idx (.var 8) (.cst (.int 2)))])),
    .ife (.cmp .ne (.cmp .eq (.var 9) (.cst (.str "bad letter"))) (.cmp .eq (.blt .len [(.var 4)]) (.cst (.int 12)))) [.ret (.cst (.bl false))] [],
    .ife (.cmp .ne (.var 9) (.cst (.str "bad letter"))) [.setT [(.nm 4), (.nm 5)] (.tup [(.bin .add (.var 4) (.lst false [(.var 8)])), (.lst false [])])] []] [.ife (.cmp .lt (.var 7) (.cst (.int 8))) [.ife (.cmp .ne (.told 10 193 (.meth "back" (.var 3) [])) (.ite (.cmp .ne (.var 4) (.lst false [])) (.idx (.idx (.var 4) (.neg (.cst (.int 1)))) (.cst (.int 2))) (.cst (.str "no back")))) [.ret (.cst (.bl false))] [],
    .set 5 (.bin .add (.var 5) (.slc false (.var 4) (.neg (.cst (.int 1))) (.cst .non) (.cst .non))),
    .set 4 (.slc false (.var 4) (.cst .non) (.neg (.cst (.int 1))) (.cst .non))] [.ife (.cmp .ne (.told 10 193 (.meth "forth" (.var 3) [])) (.ite (.cmp .ne (.var 5) (.lst false [])) (.idx (.idx (.var 5) (.neg (.cst (.int 1)))) (.cst (.int 2))) (.cst (.str "no back")))) [.ret (.cst (.bl false))] [],
    .setT [(.nm 4), (.nm 5)] (.tup [(.bin .add (.var 4) (.slc false (.var 5) (.neg (.cst (.int 1))) (.cst .non) (.cst .non))), (.slc false (.var 5) (.cst .non) (.neg (.cst (.int 1))) (.cst .non))])]],
    .ife (.or (.cmp .ne (.meth "drafted" (.var 3) []) (.var 4)) (.or (.cmp .ne (.meth "counts" (.var 3) []) (.tup [(.blt .len [(.var 4)]), (.blt .len [(.var 5)])])) (.cmp .ne (.meth "ground" (.var 3) []) (.var 1)))) [.ret (.cst (.bl false))] []],
    .ret (.cst (.bl true))]
/-- Draft.twin(self) slots 0:self 1:made -/
def b196 : List Sm := [.set 1 (.make 3 [(.fld (.var 0) "own"), (.fld (.var 0) "base")]),
    .setF (.var 1) "now" (.fld (.var 0) "now"),
    .setF (.var 1) "past" (.blt (.list true) [(.fld (.var 0) "past")]),
    .setF (.var 1) "later" (.blt (.list true) [(.fld (.var 0) "later")]),
    .ret (.var 1)]
/-- law(_law_script) slots 0:_law_script 1:_law_ground 2:_law_own 3:_law_draft 4:_law_drafted 5:_law_k 6:_law_other 7:_law_both 8:_law_one 9:_law_at 10:_law_here -/
def b197 : List Sm := [.setT [(.nm 1), (.nm 2)] (.tup [(.blt .sorted [(.call 127 [(.var 0), (.cst (.int 100)), (.cst (.int 8))])]), (.call 8 [(.var 0), (.cst (.int 0)), (.cst (.int 3))])]),
    .setT [(.nm 3), (.nm 4)] (.tup [(.make 3 [(.var 2), (.var 1)]), (.lst true [])]),
    .for_ (.nm 5) .rng [(.cst (.int 5))] [.drop (.bm .append (.var 4) [(.call 190 [(.var 0), (.bin .add (.cst (.int 1000)) (.bin .mul (.cst (.int 20)) (.var 5))), (.var 1), (.var 4), (.var 2)])]),
    .drop (.meth "put" (.var 3) [(.idx (.idx (.var 4) (.neg (.cst (.int 1)))) (.cst (.int 2)))])],
    .drop (.meth "back" (.var 3) []),
    .set 6 (.meth "twin" (.var 3) []),
    .ife (.or (.cmp .ne (.meth "counts" (.var 6) []) (.tup [(.cst (.int 4)), (.cst (.int 1))])) (.or (.cmp .ne (.meth "drafted" (.var 6) []) (.slc false (.var 4) (.cst .non) (.cst (.int 4)) (.cst .non))) (.or (.cmp .ne (.meth "ground" (.var 6) []) (.var 1)) (.cmp .ne (.meth "hand_of" (.var 6) []) (.var 2))))) [.ret (.cst (.bl false))] [],
    .set 7 (.lst false [(.tup [(.var 3), (.cst (.int 2000))]), (.tup [(.var 6), (.cst (.int 3000))])]),
    .for_ (.tp [(.nm 8), (.nm 9)]) .seq [(.ite (.cmp .eq (.call 8 [(.var 0), (.cst (.int 5)), (.cst (.int 2))]) (.cst (.int 0))) (.var 7) (.slc false (.var 7) (.cst .non) (.cst .non) (.neg (.cst (.int 1)))))] [.ife (.or (.cmp .ne (.meth "forth" (.var 8) []) (.idx (.idx (.var 4) (.cst (.int 4))) (.cst (.int 2)))) (.cmp .ne (.meth "drafted" (.var 8) []) (.var 4))) [.ret (.cst (.bl false))] [],
    .set 10 (.blt (.list true) [(.var 4)]),
    .for_ (.nm 5) .rng [(.cst (.int 3))] [.drop (.bm .append (.var 10) [(.call 190 [(.var 0), (.bin .add (.var 9) (.bin .mul (.cst (.int 20)) (.var 5))), (.var 1), (.var 10), (.var 2)])]),
    .drop (.meth "put" (.var 8) [(.idx (.idx (.var 10) (.neg (.cst (.int 1)))) (.cst (.int 2)))])],
    .ife (.cmp .ne (.meth "drafted" (.var 8) []) (.var 10)) [.ret (.cst (.bl false))] [],
    .for_ (.nm 5) .rng [(.cst (.int 8))] [.drop (.meth "back" (.var 8) [])],
    .ife (.or (.cmp .ne (.meth "drafted" (.var 8) []) (.lst false [])) (.cmp .ne (.told 10 193 (.meth "back" (.var 8) [])) (.cst (.str "no back")))) [.ret (.cst (.bl false))] [],
    .for_ (.nm 5) .rng [(.cst (.int 8))] [.drop (.meth "forth" (.var 8) [])],
    .ife (.or (.cmp .ne (.meth "drafted" (.var 8) []) (.var 10)) (.cmp .ne (.meth "counts" (.var 8) []) (.tup [(.cst (.int 8)), (.cst (.int 0))]))) [.ret (.cst (.bl false))] []],
    .ret (.cmp .eq (.meth "ground" (.var 3) []) (.var 1))]
/-- law(_law_script) slots 0:_law_script 1:_law_box 2:_law_good 3:_law_odd 4:_law_bad 5:_law_k 6:_law_own 7:_law_thing 8:_law_draft 9:_law_here 10:_law_steps 11:_law_deed 12:_law_full -/
def b199 : List Sm := [.set 1 (.tup [(.cst (.int 0)), (.cst (.int 0)), (.cst (.int 2)), (.cst (.int 2))]),
    .set 2 (.lst false [(.tup [(.tup [(.cst (.int 1)), (.cst (.int 0))]), (.cst (.int 0)), (.tup [(.cst (.str "draw")), (.var 1)])]), (.tup [(.tup [(.cst (.int 3)), (.cst (.int 1))]), (.cst (.int 0)), (.tup [(.cst (.str "draw")), (.var 1)])])]),
    .set 3 (.lst true [(.cst .non), (.tup []), (.tup [(.tup [(.cst (.int 0)), (.cst (.int 0))]), (.cst (.int 0)), (.tup [(.cst (.str "draw")), (.var 1)])]), (.tup [(.tup [(.cst (.int 1)), (.cst (.int 3))]), (.cst (.int 0)), (.tup [(.cst (.str "draw")), (.var 1)])])]),
    .drop (.bm .extend (.var 3) [(.lst false [(.tup [(.tup [(.cst (.int 1)), (.cst (.int 0))]), (.neg (.cst (.int 1))), (.tup [(.cst (.str "draw")), (.var 1)])]), (.tup [(.tup [(.cst (.int 1)), (.cst (.int 0))]), (.cst (.int 0)), (.tup [(.cst (.str "draw"))])]), (.cst (.int 5))])]),
    .set 4 (.lst true [(.cst .non), (.tup []), (.tup [(.cst (.str "draw"))]), (.tup [(.cst (.str "draw")), (.tup [(.cst (.int 0)), (.cst (.int 0)), (.cst (.int 9)), (.cst (.int 1))])]), (.tup [(.cst (.str "move")), (.tup [(.cst (.int 1)), (.cst (.int 0))]), (.cst (.int 21)), (.cst (.int 0))]), (.tup [(.cst (.str "raise"))])]),
    .drop (.bm .extend (.var 4) [(.lst false [(.tup [(.cst (.str "raise")), (.tup [(.cst (.int 0)), (.cst (.int 0))])]), (.lst false [(.cst (.str "raise")), (.tup [(.cst (.int 1)), (.cst (.int 0))])]), (.cst (.int 5))])]),
    .for_ (.nm 5) .rng [(.cst (.int 3))] [.set 6 (.idx (.lst false [(.cst (.int 3)), (.neg (.cst (.int 1))), (.cst .non), (.cst (.bl true)), (.cst (.str "0")), (.tup [(.cst (.int 0))])]) (.bin .mod (.bin .add (.call 8 [(.var 0), (.cst (.int 0)), (.cst (.int 6))]) (.var 5)) (.cst (.int 6)))),
    .set 7 (.idx (.var 3) (.bin .mod (.bin .add (.call 8 [(.var 0), (.cst (.int 1)), (.cst (.int 7))]) (.bin .mul (.cst (.int 2)) (.var 5))) (.cst (.int 7)))),
    .ife (.cmp .ne (.told 10 193 (.make 3 [(.var 6), (.var 2)])) (.cst (.str "no hand"))) [.ret (.cst (.bl false))] [],
    .ife (.cmp .ne (.told 10 193 (.make 3 [(.cst (.int 0)), (.bin .add (.var 2) (.lst false [(.var 7)]))])) (.cst (.str "bad letter"))) [.ret (.cst (.bl false))] []],
    .ife (.cmp .ne (.told 10 193 (.make 3 [(.cst (.int 0)), (.bin .add (.var 2) (.lst false [(.tup [(.tup [(.cst (.int 1)), (.cst (.int 0))]), (.cst (.int 1)), (.tup [(.cst (.str "draw")), (.var 1)])])]))])) (.cst (.str "bad letter"))) [.ret (.cst (.bl false))] [],
    .set 8 (.make 3 [(.cst (.int 2)), (.blt .tuple [(.bin .add (.var 2) (.slc false (.var 2) (.cst .non) (.cst (.int 1)) (.cst .non)))])]),
    .drop (.meth "put" (.var 8) [(.tup [(.cst (.str "lower")), (.tup [(.cst (.int 3)), (.cst (.int 1))])])]),
    .drop (.meth "put" (.var 8) [(.tup [(.cst (.str "erase")), (.tup [(.cst (.int 1)), (.cst (.int 0))])])]),
    .drop (.meth "back" (.var 8) []),
    .setT [(.nm 9), (.nm 10)] (.tup [(.meth "drafted" (.var 8) []), (.meth "counts" (.var 8) [])]),
    .for_ (.nm 5) .rng [(.cst (.int 4))] [.set 11 (.idx (.var 4) (.bin .mod (.bin .add (.call 8 [(.var 0), (.cst (.int 2)), (.cst (.int 9))]) (.bin .mul (.cst (.int 2)) (.var 5))) (.cst (.int 9)))),
    .ife (.cmp .ne (.told 10 193 (.meth "put" (.var 8) [(.var 11)])) (.cst (.str "bad deed"))) [.ret (.cst (.bl false))] []],
    .ife (.or (.cmp .ne (.meth "drafted" (.var 8) []) (.var 9)) (.or (.cmp .ne (.meth "counts" (.var 8) []) (.var 10)) (.cmp .ne (.var 9) (.lst false [(.tup [(.tup [(.cst (.int 4)), (.cst (.int 2))]), (.cst (.int 0)), (.tup [(.cst (.str "lower")), (.tup [(.cst (.int 3)), (.cst (.int 1))])])])])))) [.ret (.cst (.bl false))] [],
    .set 12 (.make 3 [(.cst (.int 0)), (.lst false [])]),
    .for_ (.nm 5) .rng [(.cst (.int 12))] [.drop (.meth "put" (.var 12) [(.tup [(.cst (.str "draw")), (.var 1)])])],
    .ife (.or (.cmp .ne (.told 10 193 (.meth "put" (.var 12) [(.tup [(.cst (.str "draw")), (.var 1)])])) (.cst (.str "bad letter"))) (.cmp .ne (.meth "counts" (.var 12) []) (.tup [(.cst (.int 12)), (.cst (.int 0))]))) [.ret (.cst (.bl false))] [],
    .ret (.and (.cmp .eq (.meth "forth" (.var 8) []) (.tup [(.cst (.str "erase")), (.tup [(.cst (.int 1)), (.cst (.int 0))])])) (.and (.cmp .eq (.meth "ground" (.var 8) []) (.var 2)) (.cmp .eq (.blt .len [(.meth "drafted" (.var 8) [])]) (.cst (.int 2)))))]
/-- _law_do(_law_what, _law_post, _law_at) slots 0:_law_what 1:_law_post 2:_law_at 3:_law_kept 4:_law_answer 5:e -/
def b200 : List Sm := [.set 3 (.cst .non),
    .set 4 (.cst .non),
    .try_ [.ife (.cmp .eq (.var 0) (.cst (.int 0))) [.set 4 (.meth "lost" (.var 1) [(.cst (.int 0)), (.cst (.int 1)), (.var 2)])] [.set 4 (.ite (.cmp .eq (.var 0) (.cst (.int 1))) (.meth "carry" (.var 1) [(.cst (.int 0)), (.cst (.int 1)), (.var 2)]) (.call 143 [(.var 2)]))]] 10 (some 5) [.set 3 (.var 5)],
    .ife (.cmp .is (.var 3) (.cst .non)) [.ret (.var 4)] [],
    .ret (.call 51 [(.var 3)])]
/-- _law_are_bound() slots 0:_law_box 1:_law_odd 2:_law_good 3:_law_deed -/
def b201 : List Sm := [.for_ (.nm 0) .seq [(.tup [(.tup [(.neg (.cst (.int 20))), (.neg (.cst (.int 20))), (.cst (.int 1)), (.cst (.int 1))]), (.tup [(.cst (.int 20)), (.cst (.int 20)), (.cst (.int 8)), (.cst (.int 8))])])] [.ife (.or (.cmp .isnot (.call 2 [(.var 0)]) (.cst (.bl true))) (.cmp .isnot (.call 5 [(.tup [(.cst (.str "draw")), (.var 0)])]) (.cst (.bl true)))) [.ret (.cst (.bl false))] []],
    .set 1 (.lst true [(.tup [(.neg (.cst (.int 21))), (.cst (.int 0)), (.cst (.int 1)), (.cst (.int 1))]), (.tup [(.cst (.int 0)), (.cst (.int 21)), (.cst (.int 1)), (.cst (.int 1))]), (.tup [(.cst (.int 21)), (.cst (.int 0)), (.cst (.int 1)), (.cst (.int 1))]), (.tup [(.cst (.int 0)), (.neg (.cst (.int 21))), (.cst (.int 1)), (.cst (.int 1))]), (.tup [(.cst (.int 0)), (.cst (.int 0)), (.cst (.int 0)), (.cst (.int 1))]), (.tup [(.cst (.int 0)), (.cst (.int 0)), (.cst (.int 1)), (.cst (.int 9))]), (.tup [(.cst (.int 0)), (.cst (.int 0)), (.cst (.int 9)), (.cst (.int 1))])]),
    .ife (.cmp .ne (.bin .add (.lc false [0] (.nm 0) .seq [(.var 1)] [] (.call 2 [(.var 0)])) (.lc false [0] (.nm 0) .seq [(.var 1)] [] (.call 5 [(.tup [(.cst (.str "draw")), (.var 0)])]))) (.bin .mul (.lst false [(.cst (.bl false))]) (.cst (.int 14)))) [.ret (.cst (.bl false))] [],
    .set 2 (.lst true [(.tup [(.cst (.str "move")), (.tup [(.cst (.int 1)), (.cst (.int 0))]), (.cst (.int 20)), (.neg (.cst (.int 20)))]), (.tup [(.cst (.str "size")), (.tup [(.bin .pow (.cst (.int 10)) (.cst (.int 6))), (.cst (.int 2))]), (.cst (.int 8)), (.cst (.int 1))]), (.tup [(.cst (.str "colour")), (.tup [(.cst (.int 1)), (.cst (.int 1))]), (.cst (.int 7))]), (.tup [(.cst (.str "colour")), (.tup [(.cst (.int 1)), (.cst (.int 1))]), (.cst (.int 0))])]),
    .drop (.bm .extend (.var 2) [(.lst false [(.tup [(.cst (.str "group")), (.tup [(.tup [(.cst (.int 1)), (.cst (.int 0))]), (.tup [(.cst (.int 2)), (.cst (.int 0))]), (.tup [(.cst (.int 1)), (.cst (.int 1))])])]), (.tup [(.cst (.str "undo")), (.tup [(.cst (.int 1)), (.cst (.int 0))])])])]),
    .set 1 (.lst true [(.tup [(.cst (.str "move")), (.tup [(.cst (.int 1)), (.cst (.int 0))]), (.cst (.int 21)), (.cst (.int 0))]), (.tup [(.cst (.str "move")), (.tup [(.cst (.int 1)), (.cst (.int 0))]), (.cst (.int 0)), (.neg (.cst (.int 21)))]), (.tup [(.cst (.str "size")), (.tup [(.cst (.int 1)), (.cst (.int 0))]), (.cst (.int 9)), (.cst (.int 1))]), (.tup [(.cst (.str "size")), (.tup [(.cst (.int 1)), (.cst (.int 0))]), (.cst (.int 1)), (.cst (.int 0))])]),
    .drop (.bm .extend (.var 1) [(.lst false [(.tup [(.cst (.str "colour")), (.tup [(.cst (.int 1)), (.cst (.int 0))]), (.cst (.int 8))]), (.tup [(.cst (.str "colour")), (.tup [(.cst (.int 1)), (.cst (.int 0))]), (.neg (.cst (.int 1)))]), (.tup [(.cst (.str "undo")), (.tup [(.cst (.int 0)), (.cst (.int 0))])]), (.tup [(.cst (.str "undo")), (.tup [(.bin .add (.bin .pow (.cst (.int 10)) (.cst (.int 6))) (.cst (.int 1))), (.cst (.int 0))])])])]),
    .drop (.bm .append (.var 1) [(.tup [(.cst (.str "undo")), (.tup [(.cst (.int 1)), (.cst (.int 3))])])]),
    .drop (.bm .extend (.var 1) [(.lst false [(.tup [(.cst (.str "undo")), (.tup [(.cst (.int 1)), (.neg (.cst (.int 1)))])]), (.tup [(.cst (.str "group")), (.tup [(.tup [(.cst (.int 1)), (.cst (.int 0))])])]), (.tup [(.cst (.str "group")), (.tup [(.tup [(.cst (.int 1)), (.cst (.int 0))]), (.tup [(.cst (.int 1)), (.cst (.int 0))])])]), (.tup [(.cst (.str "group")), (.bin .mul (.tup [(.tup [(.cst (.int 1)), (.cst (.int 0))])]) (.cst (.int 4)))])])]),
    .ret (.cmp .eq (.lc false [3] (.nm 3) .seq [(.bin .add (.var 2) (.var 1))] [] (.call 5 [(.var 3)])) (.bin .add (.bin .mul (.lst false [(.cst (.bl true))]) (.cst (.int 6))) (.bin .mul (.lst false [(.cst (.bl false))]) (.cst (.int 13)))))]
/-- _law_are_letters_bound() slots 0:_law_deed 1:_law_good 2:_law_odd 3:_law_one 4:_law_text 5:_law_some -/
def b202 : List Sm := [.set 0 (.tup [(.cst (.str "colour")), (.tup [(.cst (.int 1)), (.cst (.int 0))]), (.cst (.int 3))]),
    .set 1 (.lst false [(.tup [(.tup [(.bin .pow (.cst (.int 10)) (.cst (.int 6))), (.cst (.int 2))]), (.bin .pow (.cst (.int 10)) (.cst (.int 6))), (.var 0)]), (.tup [(.tup [(.cst (.int 1)), (.cst (.int 0))]), (.cst (.int 0)), (.var 0)])]),
    .set 2 (.lst true [(.tup [(.tup [(.cst (.int 1)), (.cst (.int 0))]), (.bin .add (.bin .pow (.cst (.int 10)) (.cst (.int 6))) (.cst (.int 1))), (.var 0)]), (.tup [(.tup [(.cst (.int 1)), (.cst (.int 0))]), (.neg (.cst (.int 1))), (.var 0)]), (.tup [(.tup [(.cst (.int 0)), (.cst (.int 0))]), (.cst (.int 0)), (.var 0)]), (.tup [(.tup [(.cst (.int 1)), (.cst (.int 3))]), (.cst (.int 0)), (.var 0)])]),
    .drop (.bm .append (.var 2) [(.tup [(.tup [(.bin .add (.bin .pow (.cst (.int 10)) (.cst (.int 6))) (.cst (.int 1))), (.cst (.int 0))]), (.cst (.int 0)), (.var 0)])]),
    .ife (.cmp .ne (.lc false [3] (.nm 3) .seq [(.bin .add (.var 1) (.var 2))] [] (.call 6 [(.var 3)])) (.bin .add (.bin .mul (.lst false [(.cst (.bl true))]) (.cst (.int 2))) (.bin .mul (.lst false [(.cst (.bl false))]) (.cst (.int 5))))) [.ret (.cst (.bl false))] [],
    .set 4 (.cst (.str "1000000.2 1000000 colour 1.0 3\n1.0 0 colour 1.0 3\n")),
    .ife (.or (.cmp .ne (.call 138 [(.var 1)]) (.var 4)) (.cmp .ne (.call 200 [(.cst (.int 2)), (.cst .non), (.var 4)]) (.var 1))) [.ret (.cst (.bl false))] [],
    .set 5 (.lst true [(.cst (.str "1.0 0 undo\n")), (.cst (.str "1.0 0\n")), (.cst (.str "1.0\n")), (.cst (.str "\n")), (.cst (.str "1.0 0 lock 1\n")), (.cst (.str "1.0 0 colour 1.0 03\n")), (.cst (.str "01.0 0 undo 1.0\n"))]),
    .drop (.bm .extend (.var 5) [(.lst false [(.cst (.str "1.0 10000000 undo 1.0\n")), (.cst (.str "10000000.0 0 undo 1.0\n")), (.cst (.str "1.0 0 colour 1.0\n")), (.cst (.str "1.0 0 move 1.0 1\n"))])]),
    .ret (.cmp .eq (.lc false [3] (.nm 3) .seq [(.var 5)] [] (.call 200 [(.cst (.int 2)), (.cst .non), (.var 3)])) (.bin .mul (.lst false [(.cst (.str "no text"))]) (.cst (.int 11))))]
/-- _law_are_groups_left(_law_script) slots 0:_law_script 1:_law_box 2:_law_hand 3:_law_letters 4:_law_whole 5:_law_deed 6:_law_slate 7:_law_told -/
def b203 : List Sm := [.setT [(.nm 1), (.nm 2)] (.tup [(.tup [(.cst (.int 1)), (.cst (.int 2)), (.cst (.int 3)), (.cst (.int 4))]), (.call 8 [(.var 0), (.cst (.int 5)), (.cst (.int 3))])]),
    .set 3 (.lst true [(.tup [(.tup [(.cst (.int 1)), (.cst (.int 0))]), (.cst (.int 0)), (.tup [(.cst (.str "draw")), (.var 1)])]), (.tup [(.tup [(.cst (.int 2)), (.cst (.int 0))]), (.cst (.int 1)), (.tup [(.cst (.str "draw")), (.var 1)])]), (.tup [(.tup [(.cst (.int 3)), (.cst (.int 0))]), (.cst (.int 2)), (.tup [(.cst (.str "group")), (.tup [(.tup [(.cst (.int 1)), (.cst (.int 0))]), (.tup [(.cst (.int 2)), (.cst (.int 0))])])])])]),
    .set 4 (.meth "told" (.call 36 [(.var 3)]) []),
    .for_ (.nm 5) .seq [(.tup [(.tup [(.cst (.str "size")), (.tup [(.cst (.int 3)), (.cst (.int 0))]), (.cst (.int 1)), (.cst (.int 1))]), (.tup [(.cst (.str "colour")), (.tup [(.cst (.int 3)), (.cst (.int 0))]), (.cst (.int 5))])])] [.ife (.cmp .ne (.meth "told" (.call 36 [(.bin .add (.var 3) (.lst false [(.tup [(.tup [(.cst (.int 4)), (.var 2)]), (.cst (.int 9)), (.var 5)])]))]) []) (.var 4)) [.ret (.cst (.bl false))] []],
    .drop (.bm .extend (.var 3) [(.lst false [(.tup [(.tup [(.cst (.int 4)), (.var 2)]), (.cst (.int 9)), (.tup [(.cst (.str "erase")), (.tup [(.cst (.int 1)), (.cst (.int 0))])])]), (.tup [(.tup [(.cst (.int 5)), (.var 2)]), (.cst (.int 10)), (.tup [(.cst (.str "erase")), (.tup [(.cst (.int 2)), (.cst (.int 0))])])])])]),
    .ife (.or (.cmp .ne (.idx (.meth "told" (.call 36 [(.slc false (.var 3) (.cst .non) (.cst (.int 4)) (.cst .non))]) []) (.cst (.int 0))) (.tup [(.tup [(.cst (.int 3)), (.cst (.int 0))])])) (.cmp .ne (.meth "told" (.call 36 [(.var 3)]) []) (.tup [(.tup []), (.tup []), (.tup [])]))) [.ret (.cst (.bl false))] [],
    .set 6 (.call 36 [(.slc false (.var 3) (.cst .non) (.cst (.int 1)) (.cst .non))]),
    .set 7 (.lst false [(.call 105 [(.var 6), (.cst (.int 1)), (.cst (.int 2)), (.cst (.int 4)), (.cst (.int 6))]), (.call 105 [(.var 6), (.cst (.int 2)), (.cst (.int 2)), (.cst (.int 4)), (.cst (.int 6))]), (.call 105 [(.var 6), (.cst (.int 1)), (.cst (.int 3)), (.cst (.int 4)), (.cst (.int 6))]), (.call 105 [(.var 6), (.cst (.int 1)), (.cst (.int 2)), (.cst (.int 3)), (.cst (.int 6))])]),
    .ret (.cmp .eq (.bin .add (.var 7) (.lst false [(.call 105 [(.var 6), (.cst (.int 1)), (.cst (.int 2)), (.cst (.int 4)), (.cst (.int 5))])])) (.lst false [(.lst false [(.tup [(.cst (.int 1)), (.cst (.int 0))])]), (.lst false []), (.lst false []), (.lst false []), (.lst false [])]))]
/-- _law_are_posts_kept(_law_script) slots 0:_law_script 1:_law_many 2:_law_post 3:_law_rows 4:_law_k 5:_law_one 6:_law_rest 7:_law_other 8:_law_at 9:_law_what -/
def b204 : List Sm := [.setT [(.nm 1), (.nm 2)] (.tup [(.bin .add (.cst (.int 3)) (.call 8 [(.var 0), (.cst (.int 1)), (.cst (.int 3))])), (.make 2 [(.cst (.int 2))])]),
    .set 3 (.lc false [4] (.nm 4) .rng [(.var 1)] [] (.meth "do" (.var 2) [(.cst (.int 0)), (.tup [(.cst (.str "draw")), (.tup [(.var 4), (.cst (.int 0)), (.cst (.int 1)), (.cst (.int 1))])])])),
    .set 5 (.call 8 [(.var 0), (.cst (.int 2)), (.var 1)]),
    .ife (.or (.cmp .isnot (.call 200 [(.cst (.int 0)), (.var 2), (.var 5)]) (.cst .non)) (.cmp .ne (.meth "waiting" (.var 2) [(.cst (.int 0)), (.cst (.int 1))]) (.bin .add (.slc false (.var 3) (.cst .non) (.var 5) (.cst .non)) (.slc false (.var 3) (.bin .add (.var 5) (.cst (.int 1))) (.cst .non) (.cst .non))))) [.ret (.cst (.bl false))] [],
    .setT [(.nm 6), (.nm 7)] (.tup [(.meth "waiting" (.var 2) [(.cst (.int 0)), (.cst (.int 1))]), (.call 8 [(.var 0), (.cst (.int 3)), (.bin .sub (.var 1) (.cst (.int 1)))])]),
    .ife (.or (.cmp .isnot (.call 200 [(.cst (.int 1)), (.var 2), (.var 7)]) (.cst (.bl true))) (.cmp .ne (.meth "waiting" (.var 2) [(.cst (.int 0)), (.cst (.int 1))]) (.bin .add (.slc false (.var 6) (.cst .non) (.var 7) (.cst .non)) (.slc false (.var 6) (.bin .add (.var 7) (.cst (.int 1))) (.cst .non) (.cst .non))))) [.ret (.cst (.bl false))] [],
    .for_ (.nm 8) .seq [(.tup [(.neg (.cst (.int 1))), (.bin .sub (.var 1) (.cst (.int 2)))])] [.ife (.cmp .ne (.lc false [9] (.nm 9) .rng [(.cst (.int 2))] [] (.call 200 [(.var 9), (.var 2), (.var 8)])) (.bin .mul (.lst false [(.cst (.str "no letter"))]) (.cst (.int 2)))) [.ret (.cst (.bl false))] []],
    .ife (.or (.cmp .ne (.meth "letters" (.meth "hand" (.var 2) [(.cst (.int 1))]) []) (.lst false [(.idx (.var 6) (.var 7))])) (.cmp .isnot (.meth "are_alike" (.var 2) []) (.cst (.bl false)))) [.ret (.cst (.bl false))] [],
    .for_ (.nm 4) .rng [(.cst (.int 2))] [.drop (.meth "do" (.var 2) [(.cst (.int 1)), (.tup [(.cst (.str "draw")), (.tup [(.cst (.int 0)), (.var 4), (.cst (.int 1)), (.cst (.int 1))])])])],
    .ret (.and (.cmp .eq (.meth "meet" (.var 2) [(.cst (.int 0)), (.cst (.int 1))]) (.bin .add (.bin .sub (.var 1) (.cst (.int 1))) (.cst (.int 2)))) (.and (.cmp .eq (.meth "meet" (.var 2) [(.cst (.int 1)), (.cst (.int 0))]) (.cst (.int 0))) (.cmp .is (.meth "are_alike" (.var 2) []) (.cst (.bl true)))))]
/-- law(_law_script) slots 0:_law_script 1:_law_hand 2:_law_letters 3:_law_told -/
def b205 : List Sm := [.ife (.or (.not (.call 201 [])) (.or (.not (.call 202 [])) (.not (.call 203 [(.var 0)])))) [.ret (.cst (.bl false))] [],
    .set 1 (.call 8 [(.var 0), (.cst (.int 4)), (.cst (.int 3))]),
    .set 2 (.lst true [(.tup [(.tup [(.cst (.int 1)), (.var 1)]), (.cst (.int 0)), (.tup [(.cst (.str "draw")), (.tup [(.cst (.int 0)), (.cst (.int 0)), (.cst (.int 1)), (.cst (.int 1))])])]), (.tup [(.tup [(.cst (.int 2)), (.var 1)]), (.cst (.int 1)), (.tup [(.cst (.str "undo")), (.tup [(.cst (.int 2)), (.var 1)])])])]),
    .set 3 (.lst false [(.call 59 [(.var 2), (.tup [(.cst (.int 1)), (.var 1)])]), (.call 59 [(.var 2), (.tup [(.cst (.int 2)), (.var 1)])])]),
    .ife (.or (.cmp .ne (.call 35 [(.var 2)]) (.var 2)) (.cmp .ne (.var 3) (.lst false [(.cst (.bl true)), (.cst (.bl true))]))) [.ret (.cst (.bl false))] [],
    .drop (.bm .append (.var 2) [(.tup [(.tup [(.cst (.int 3)), (.var 1)]), (.cst (.int 2)), (.tup [(.cst (.str "undo")), (.tup [(.cst (.int 1)), (.var 1)])])])]),
    .set 3 (.lst false [(.call 59 [(.var 2), (.tup [(.cst (.int 1)), (.var 1)])]), (.call 59 [(.var 2), (.tup [(.cst (.int 3)), (.var 1)])])]),
    .ife (.or (.cmp .ne (.var 3) (.lst false [(.cst (.bl false)), (.cst (.bl true))])) (.cmp .ne (.call 35 [(.var 2)]) (.slc false (.var 2) (.cst (.int 1)) (.cst .non) (.cst .non)))) [.ret (.cst (.bl false))] [],
    .ret (.call 204 [(.var 0)])]
/-- draft_text(draft) slots 0:draft -/
def b206 : List Sm := [.ret (.bin .add (.bin .add (.bin .add (.bin .add (.bin .add (.gc "HEAD" (.str "hand ")) (.blt .str [(.meth "hand_of" (.var 0) [])])) (.cst (.str "\n"))) (.call 138 [(.meth "ground" (.var 0) [])])) (.cst (.str "--\n"))) (.call 138 [(.meth "drafted" (.var 0) [])]))]
/-- read_draft(text) slots 0:text 1:lines 2:at 3:some 4:line 5:letter 6:made -/
def b207 : List Sm := [.ife (.or (.not (.blt (.isinst 3) [(.var 0)])) (.or (.cmp .ne (.idx (.bm .split (.var 0) [(.cst (.str "\n"))]) (.neg (.cst (.int 1)))) (.cst (.str ""))) (.cmp .ne (.slc false (.var 0) (.cst .non) (.blt .len [(.gc "HEAD" (.str "hand "))]) (.cst .non)) (.gc "HEAD" (.str "hand "))))) [.raise 16] [],
    .set 1 (.slc false (.bm .split (.var 0) [(.cst (.str "\n"))]) (.cst .non) (.neg (.cst (.int 1))) (.cst .non)),
    .ife (.or (.cmp .notin (.slc false (.idx (.var 1) (.cst (.int 0))) (.blt .len [(.gc "HEAD" (.str "hand "))]) (.cst .non) (.cst .non)) (.tup [(.cst (.str "0")), (.cst (.str "1")), (.cst (.str "2"))])) (.cmp .notin (.cst (.str "--")) (.var 1))) [.raise 16] [],
    .set 2 (.bm .index (.var 1) [(.cst (.str "--"))]),
    .set 3 (.call 143 [(.bm .join (.cst (.str "")) [(.lc false [4] (.nm 4) .seq [(.slc false (.var 1) (.cst (.int 1)) (.var 2) (.cst .non))] [] (.bin .add (.var 4) (.cst (.str "\n"))))])]),
    .ife (.cmp .ne (.blt .lenset [(.lc false [5] (.nm 5) .seq [(.var 3)] [] (.idx (.var 5) (.cst (.int 0))))]) (.blt .len [(.var 3)])) [.raise 16] [],
    .set 6 (.make 3 [(.blt .int [(.slc false (.idx (.var 1) (.cst (.int 0))) (.blt .len [(.gc "HEAD" (.str "hand "))]) (.cst .non) (.cst .non))]), (.var 3)]),
    .for_ (.nm 5) .seq [(.slc false (.call 143 [(.bm .join (.cst (.str "")) [(.lc false [4] (.nm 4) .seq [(.slc false (.var 1) (.bin .add (.var 2) (.cst (.int 1))) (.cst .non) (.cst .non))] [] (.bin .add (.var 4) (.cst (.str "\n"))))])]) (.cst .non) (.gc "MOST_DRAFTED" (.int 12)) (.cst .non))] [.drop (.meth "put" (.var 6) [(.idx (.var 5) (.cst (.int 2)))])],
    .ife (.cmp .ne (.call 206 [(.var 6)]) (.var 0)) [.raise 16] [],
    .ret (.var 6)]
/-- law(_law_script) slots 0:_law_script 1:_law_ground 2:_law_own 3:_law_draft 4:_law_drafted 5:_law_k 6:_law_head 7:_law_text 8:_law_many 9:_law_other 10:_law_here -/
def b208 : List Sm := [.setT [(.nm 1), (.nm 2)] (.tup [(.blt .sorted [(.call 127 [(.var 0), (.cst (.int 100)), (.cst (.int 10))])]), (.call 8 [(.var 0), (.cst (.int 0)), (.cst (.int 3))])]),
    .setT [(.nm 3), (.nm 4)] (.tup [(.make 3 [(.var 2), (.var 1)]), (.lst true [])]),
    .for_ (.nm 5) .rng [(.cst (.int 7))] [.drop (.bm .append (.var 4) [(.call 190 [(.var 0), (.bin .add (.cst (.int 1000)) (.bin .mul (.cst (.int 20)) (.var 5))), (.var 1), (.var 4), (.var 2)])]),
    .drop (.meth "put" (.var 3) [(.idx (.idx (.var 4) (.neg (.cst (.int 1)))) (.cst (.int 2)))])],
    .for_ (.nm 5) .rng [(.call 8 [(.var 0), (.cst (.int 1)), (.cst (.int 4))])] [.drop (.meth "back" (.var 3) []),
    .set 4 (.slc true (.var 4) (.cst .non) (.neg (.cst (.int 1))) (.cst .non))],
    .set 6 (.bin .add (.bin .add (.bin .add (.bin .add (.cst (.str "hand ")) (.blt .str [(.var 2)])) (.cst (.str "\n"))) (.call 138 [(.var 1)])) (.cst (.str "--\n"))),
    .setT [(.nm 7), (.nm 8)] (.tup [(.bin .add (.var 6) (.call 138 [(.var 4)])), (.meth "counts" (.var 3) [])]),
    .ife (.cmp .ne (.call 206 [(.var 3)]) (.var 7)) [.ret (.cst (.bl false))] [],
    .set 9 (.call 207 [(.var 7)]),
    .ife (.or (.cmp .ne (.meth "drafted" (.var 9) []) (.var 4)) (.or (.cmp .ne (.meth "ground" (.var 9) []) (.var 1)) (.cmp .ne (.meth "hand_of" (.var 9) []) (.var 2)))) [.ret (.cst (.bl false))] [],
    .ife (.or (.cmp .ne (.meth "counts" (.var 9) []) (.tup [(.blt .len [(.var 4)]), (.cst (.int 0))])) (.cmp .ne (.meth "told" (.meth "slate" (.var 9) []) []) (.meth "told" (.meth "slate" (.var 3) []) []))) [.ret (.cst (.bl false))] [],
    .set 10 (.blt (.list true) [(.var 4)]),
    .for_ (.nm 5) .rng [(.cst (.int 3))] [.drop (.bm .append (.var 10) [(.call 190 [(.var 0), (.bin .add (.cst (.int 2000)) (.bin .mul (.cst (.int 20)) (.var 5))), (.var 1), (.var 10), (.var 2)])]),
    .drop (.meth "put" (.var 9) [(.idx (.idx (.var 10) (.neg (.cst (.int 1)))) (.cst (.int 2)))]),
    .ife (.cmp .ne (.call 206 [(.var 9)]) (.bin .add (.var 6) (.call 138 [(.var 10)]))) [.ret (.cst (.bl false))] []],
    .ife (.or (.cmp .ne (.call 206 [(.var 3)]) (.var 7)) (.cmp .ne (.meth "counts" (.var 3) []) (.var 8))) [.ret (.cst (.bl false))] [],
    .whl 100000 (.cmp .gt (.idx (.meth "counts" (.var 9) []) (.cst (.int 0))) (.cst (.int 0))) [.drop (.meth "back" (.var 9) [])],
    .ret (.and (.cmp .eq (.call 206 [(.var 9)]) (.var 6)) (.cmp .eq (.meth "counts" (.var 9) []) (.tup [(.cst (.int 0)), (.blt .len [(.var 10)])])))]
/-- law(_law_script) slots 0:_law_script 1:_law_ground 2:_law_own 3:_law_draft 4:_law_drafted 5:_law_k 6:_law_text 7:_law_rows 8:_law_some 9:_law_cell_here 10:_law_at 11:_law_two 12:_law_one 13:_law_told_here 14:_law_line 15:_law_good 16:_law_bad -/
def b209 : List Sm := [.setT [(.nm 1), (.nm 2)] (.tup [(.blt .sorted [(.call 127 [(.var 0), (.cst (.int 100)), (.cst (.int 6))])]), (.call 8 [(.var 0), (.cst (.int 0)), (.cst (.int 3))])]),
    .setT [(.nm 3), (.nm 4)] (.tup [(.make 3 [(.var 2), (.var 1)]), (.lst true [])]),
    .for_ (.nm 5) .rng [(.cst (.int 5))] [.drop (.bm .append (.var 4) [(.call 190 [(.var 0), (.bin .add (.cst (.int 1000)) (.bin .mul (.cst (.int 20)) (.var 5))), (.var 1), (.var 4), (.var 2)])]),
    .drop (.meth "put" (.var 3) [(.idx (.idx (.var 4) (.neg (.cst (.int 1)))) (.cst (.int 2)))])],
    .set 6 (.call 206 [(.var 3)]),
    .setT [(.nm 7), (.nm 8)] (.tup [(.bm .split (.var 6) [(.cst (.str "\n"))]), (.lst true [(.var 6)])]),
    .for_ (.nm 5) .rng [(.cst (.int 2))] [.set 9 (.bin .add (.bin .mul (.call 7 [(.var 0), (.bin .add (.cst (.int 1700)) (.var 5))]) (.cst (.int 7919))) (.call 8 [(.var 0), (.bin .add (.cst (.int 1720)) (.var 5)), (.cst (.int 999983))])),
    .drop (.bm .append (.var 8) [(.call 144 [(.var 6), (.var 9), (.cst (.str "012 .-draw\n"))])]),
    .set 10 (.call 8 [(.var 0), (.bin .add (.cst (.int 1740)) (.var 5)), (.blt .len [(.var 7)])]),
    .set 11 (.slc false (.var 7) (.var 10) (.bin .add (.var 10) (.cst (.int 2))) (.cst .non)),
    .drop (.bm .append (.var 8) [(.bm .join (.cst (.str "\n")) [(.bin .add (.slc false (.var 7) (.cst .non) (.var 10) (.cst .non)) (.slc false (.var 7) (.bin .add (.var 10) (.cst (.int 1))) (.cst .non) (.cst .non)))])]),
    .drop (.bm .append (.var 8) [(.bm .join (.cst (.str "\n")) [(.bin .add (.slc false (.var 7) (.cst .non) (.bin .add (.var 10) (.cst (.int 1))) (.cst .non)) (.slc false (.var 7) (.var 10) (.cst .non) (.cst .non)))])]),
    .drop (.bm .append (.var 8) [(.bm .join (.cst (.str "\n")) [(.bin .add (.bin .add (.slc false (.var 7) (.cst .non) (.var 10) (.cst .non)) (.slc false (.var 11) (.cst .non) (.cst .non) (.neg (.cst (.int 1))))) (.slc false (.var 7) (.bin .add (.var 10) (.cst (.int 2))) (.cst .non) (.cst .non)))])])],
    .for_ (.nm 12) .seq [(.var 8)] [.set 13 (.told 10 193 (.call 206 [(.call 207 [(.var 12)])])),
    .ife (.and (.cmp .ne (.var 13) (.var 12)) (.or (.cmp .ne (.var 13) (.cst (.str "no text"))) (.cmp .eq (.var 12) (.var 6)))) [.ret (.cst (.bl false))] []],
    .set 14 (.cst (.str "1.0 0 draw 0 0 1 1\n")),
    .set 15 (.lst true [(.cst (.str "hand 0\n--\n")), (.bin .add (.bin .add (.cst (.str "hand 2\n")) (.var 14)) (.cst (.str "--\n"))), (.bin .add (.cst (.str "hand 0\n--\n")) (.var 14))]),
    .drop (.bm .extend (.var 15) [(.lst false [(.bin .add (.bin .add (.cst (.str "hand 1\n")) (.var 14)) (.cst (.str "--\n2.1 0 erase 1.0\n")))])]),
    .ife (.cmp .ne (.lc false [12] (.nm 12) .seq [(.var 15)] [] (.call 206 [(.call 207 [(.var 12)])])) (.var 15)) [.ret (.cst (.bl false))] [],
    .set 16 (.lst true [(.cst (.str "")), (.cst (.str "\n")), (.cst (.str "hand 0\n")), (.cst (.str "hand 3\n--\n")), (.cst (.str "hand\n--\n")), (.cst (.str "hand 00\n--\n")), (.cst (.str "--\n")), (.cst (.str "hand 0\n--"))]),
    .drop (.bm .extend (.var 16) [(.lst false [(.bin .add (.cst (.str "hand 1\n--\n")) (.var 14))])]),
    .drop (.bm .extend (.var 16) [(.lst false [(.bin .add (.bin .add (.bin .add (.cst (.str "hand 0\n")) (.var 14)) (.var 14)) (.cst (.str "--\n"))), (.cst (.str "hand 0\n--\n2.0 0 draw 0 0 1 1\n"))])]),
    .drop (.bm .extend (.var 16) [(.lst false [(.cst (.str "hand 0\n--\n1.0 1 draw 0 0 1 1\n"))])]),
    .drop (.bm .extend (.var 16) [(.lst false [(.cst (.str "hand 0\n--\n--\n")), (.bin .add (.bin .add (.bin .add (.cst (.str "hand 0\n")) (.var 14)) (.cst (.str "--\n"))) (.var 14)), (.cst .non), (.cst (.int 5)), (.tup [(.idx (.var 15) (.cst (.int 0)))]), (.cst (.str "Hand 0\n--\n"))])]),
    .drop (.bm .extend (.var 16) [(.lst false [(.cst (.str "hand 0 \n--\n"))])]),
    .drop (.bm .append (.var 16) [(.bin .add (.cst (.str "hand 0\n--\n")) (.bm .join (.cst (.str "")) [(.lc false [5] (.nm 5) .rng [(.cst (.int 13))] [] (.bin .add (.bin .add (.bin .add (.blt .str [(.bin .add (.var 5) (.cst (.int 1)))]) (.cst (.str ".0 "))) (.blt .str [(.var 5)])) (.cst (.str " draw 0 0 1 1\n"))))]))]),
    .drop (.bm .append (.var 16) [(.bin .add (.bin .add (.cst (.str "hand 0\n2.0 0 draw 0 0 1 1\n")) (.var 14)) (.cst (.str "--\n")))]),
    .drop (.bm .append (.var 16) [(.bin .add (.bin .add (.cst (.str "hand 0\n")) (.var 14)) (.cst (.str "1.0 1 draw 0 0 1 1\n--\n")))]),
    .ret (.cmp .eq (.lc false [12] (.nm 12) .seq [(.var 16)] [] (.told 10 193 (.call 207 [(.var 12)]))) (.bin .mul (.lst false [(.cst (.str "no text"))]) (.cst (.int 22))))]
/-- law(_law_script) slots 0:_law_script 1:_law_own 2:_law_hand 3:_law_other 4:_law_k 5:_law_draft 6:_law_sent 7:_law_past 8:_law_letter 9:_law_slate -/
def b212 : List Sm := [.setT [(.nm 1), (.nm 2), (.nm 3)] (.tup [(.call 8 [(.var 0), (.cst (.int 0)), (.cst (.int 3))]), (.make 1 [(.call 8 [(.var 0), (.cst (.int 0)), (.cst (.int 3))])]), (.make 1 [(.bin .mod (.bin .add (.call 8 [(.var 0), (.cst (.int 0)), (.cst (.int 3))]) (.cst (.int 1))) (.cst (.int 3)))])]),
    .for_ (.nm 4) .rng [(.cst (.int 4))] [.drop (.meth "take" (.var 3) [(.meth "do" (.var 2) [(.idx (.call 190 [(.var 0), (.bin .add (.cst (.int 1000)) (.bin .mul (.cst (.int 20)) (.var 4))), (.meth "letters" (.var 2) []), (.lst false []), (.var 1)]) (.cst (.int 2)))])])],
    .setT [(.nm 5), (.nm 6), (.nm 7)] (.tup [(.make 3 [(.var 1), (.meth "letters" (.var 2) [])]), (.lst true []), (.lst true [])]),
    .for_ (.nm 4) .rng [(.cst (.int 3))] [.drop (.bm .append (.var 7) [(.meth "slate" (.var 5) [])]),
    .set 8 (.call 190 [(.var 0), (.bin .add (.cst (.int 2000)) (.bin .mul (.cst (.int 20)) (.var 4))), (.meth "letters" (.var 2) []), (.meth "drafted" (.var 5) []), (.var 1)]),
    .drop (.meth "put" (.var 5) [(.idx (.var 8) (.cst (.int 2)))])],
    .for_ (.nm 8) .seq [(.meth "drafted" (.var 5) [])] [.drop (.bm .append (.var 6) [(.meth "do" (.var 2) [(.idx (.var 8) (.cst (.int 2)))])]),
    .drop (.meth "take" (.var 3) [(.idx (.var 6) (.neg (.cst (.int 1))))])],
    .ife (.or (.cmp .ne (.var 6) (.meth "drafted" (.var 5) [])) (.cmp .ne (.meth "told" (.meth "slate" (.var 2) []) []) (.meth "told" (.meth "slate" (.var 5) []) []))) [.ret (.cst (.bl false))] [],
    .ife (.cmp .ne (.call 133 [(.meth "slate" (.var 3) []), (.meth "slate" (.var 5) [])]) (.lst false [])) [.ret (.cst (.bl false))] [],
    .ife (.cmp .ne (.call 153 [(.meth "slate" (.var 2) []), (.cst (.int 0)), (.cst (.int 0)), (.cst (.int 9)), (.cst (.int 9))]) (.call 153 [(.meth "slate" (.var 5) []), (.cst (.int 0)), (.cst (.int 0)), (.cst (.int 9)), (.cst (.int 9))])) [.ret (.cst (.bl false))] [],
    .ife (.cmp .ne (.call 174 [(.meth "letters" (.var 2) [])]) (.call 174 [(.bin .add (.meth "ground" (.var 5) []) (.meth "drafted" (.var 5) []))])) [.ret (.cst (.bl false))] [],
    .for_ (.nm 9) .seq [(.slc false (.var 7) (.cst .non) (.cst .non) (.neg (.cst (.int 1))))] [.drop (.meth "back" (.var 5) []),
    .ife (.cmp .ne (.meth "told" (.meth "slate" (.var 5) []) []) (.meth "told" (.var 9) [])) [.ret (.cst (.bl false))] []],
    .ret (.cmp .eq (.meth "counts" (.var 5) []) (.tup [(.cst (.int 0)), (.cst (.int 3))]))]
/-- law(_law_script) slots 0:_law_script 1:_law_clock 2:_law_many 3:_law_stamp 4:_law_other 5:_law_some 6:_law_box 7:_law_writer 8:_law_order 9:_law_post 10:_law_letters 11:_law_drawn 12:_law_own -/
def b214 : List Sm := [.setT [(.nm 1), (.nm 2)] (.tup [(.bin .add (.cst (.int 1)) (.call 8 [(.var 0), (.cst (.int 0)), (.cst (.int 90))])), (.bin .add (.cst (.int 2)) (.call 8 [(.var 0), (.cst (.int 1)), (.cst (.int 2))]))]),
    .setT [(.nm 3), (.nm 4)] (.tup [(.tup [(.var 1), (.call 8 [(.var 0), (.cst (.int 2)), (.cst (.int 3))])]), (.tup [(.bin .add (.var 1) (.cst (.int 1))), (.call 8 [(.var 0), (.cst (.int 3)), (.cst (.int 3))])])]),
    .for_ (.nm 5) .seq [(.tup [(.tup [(.var 3), (.var 3)]), (.tup [(.var 3), (.var 4), (.var 3)]), (.tup [(.var 4), (.var 3), (.var 3)])])] [.ife (.cmp .isnot (.call 5 [(.tup [(.cst (.str "group")), (.var 5)])]) (.cst (.bl false))) [.ret (.cst (.bl false))] []],
    .ife (.or (.cmp .isnot (.call 5 [(.tup [(.cst (.str "group")), (.tup [(.var 3), (.var 4)])])]) (.cst (.bl true))) (.cmp .isnot (.call 5 [(.tup [(.cst (.str "group")), (.tup [(.var 3)])])]) (.cst (.bl false)))) [.ret (.cst (.bl false))] [],
    .set 6 (.tup [(.call 8 [(.var 0), (.cst (.int 4)), (.cst (.int 9))]), (.call 8 [(.var 0), (.cst (.int 5)), (.cst (.int 9))]), (.cst (.int 2)), (.cst (.int 3))]),
    .for_ (.nm 7) .rng [(.cst (.int 2))] [.for_ (.nm 8) .seq [(.tup [(.tup [(.cst (.int 0)), (.cst (.int 1))]), (.tup [(.cst (.int 1)), (.cst (.int 0))])])] [.set 9 (.make 2 [(.var 2)]),
    .set 10 (.lst false [(.meth "do" (.var 9) [(.var 7), (.tup [(.cst (.str "draw")), (.var 6)])]), (.meth "do" (.var 9) [(.var 7), (.tup [(.cst (.str "draw")), (.var 6)])])]),
    .ife (.or (.cmp .ne (.meth "meet" (.var 9) [(.idx (.var 8) (.cst (.int 0))), (.idx (.var 8) (.cst (.int 1)))]) (.cst (.int 2))) (.cmp .ne (.meth "letters" (.meth "hand" (.var 9) [(.bin .sub (.cst (.int 1)) (.var 7))]) []) (.var 10))) [.ret (.cst (.bl false))] [],
    .ife (.or (.cmp .ne (.meth "told" (.meth "slate" (.meth "hand" (.var 9) [(.bin .sub (.cst (.int 1)) (.var 7))]) []) []) (.meth "told" (.meth "slate" (.meth "hand" (.var 9) [(.var 7)]) []) [])) (.cmp .ne (.meth "meet" (.var 9) [(.cst (.int 0)), (.cst (.int 1))]) (.cst (.int 0)))) [.ret (.cst (.bl false))] [],
    .ife (.cmp .ne (.meth "are_alike" (.var 9) []) (.cmp .eq (.var 2) (.cst (.int 2)))) [.ret (.cst (.bl false))] []]],
    .set 11 (.lst false [(.tup [(.tup [(.var 1), (.cst (.int 0))]), (.cst (.int 0)), (.tup [(.cst (.str "draw")), (.var 6)])]), (.tup [(.tup [(.bin .add (.var 1) (.cst (.int 1))), (.cst (.int 1))]), (.cst (.int 0)), (.tup [(.cst (.str "undo")), (.tup [(.var 1), (.cst (.int 0))])])])]),
    .ife (.or (.cmp .ne (.call 35 [(.var 11)]) (.var 11)) (.cmp .ne (.blt .len [(.meth "row" (.call 36 [(.var 11)]) [])]) (.cst (.int 1)))) [.ret (.cst (.bl false))] [],
    .set 12 (.bin .add (.slc false (.var 11) (.cst .non) (.cst (.int 1)) (.cst .non)) (.lst false [(.tup [(.tup [(.bin .add (.var 1) (.cst (.int 1))), (.cst (.int 0))]), (.cst (.int 1)), (.tup [(.cst (.str "undo")), (.tup [(.var 1), (.cst (.int 0))])])])])),
    .ret (.and (.cmp .eq (.call 35 [(.var 12)]) (.slc false (.var 12) (.cst (.int 1)) (.cst .non) (.cst .non))) (.cmp .eq (.meth "row" (.call 36 [(.var 12)]) []) (.lst false [])))]
/-- law(_law_script) slots 0:_law_script 1:_law_letters 2:_law_by 3:_law_slate 4:_law_hand 5:_law_own 6:_law_letter 7:_law_later_here 8:_law_one 9:_law_other 10:_law_k 11:_law_deed_here 12:_law_there 13:_law_stamp 14:_law_number 15:_law_made -/
def b215 : List Sm := [.setT [(.nm 1), (.nm 2)] (.tup [(.call 127 [(.var 0), (.cst (.int 100)), (.cst (.int 12))]), (.bin .add (.cst (.int 1)) (.call 8 [(.var 0), (.cst (.int 600)), (.cst (.int 50))]))]),
    .set 3 (.call 36 [(.var 1)]),
    .set 4 (.make 1 [(.cst (.int 2))]),
    .for_ (.nm 5) .seq [(.tup [(.cst (.int 2)), (.cst (.int 0)), (.cst (.int 1))])] [.for_ (.nm 6) .seq [(.slc false (.call 131 [(.var 1), (.var 5)]) (.cst .non) (.cst .non) (.neg (.cst (.int 1))))] [.ife (.cmp .isnot (.meth "take" (.var 4) [(.var 6)]) (.cst (.bl true))) [.ret (.cst (.bl false))] []]],
    .ife (.or (.cmp .ne (.call 129 [(.meth "slate" (.var 4) []), (.var 3)]) (.tup [(.lst false []), (.lst false []), (.lst false [])])) (.cmp .ne (.call 123 [(.meth "slate" (.var 4) [])]) (.call 123 [(.var 3)]))) [.ret (.cst (.bl false))] [],
    .set 7 (.call 151 [(.var 1), (.var 2)]),
    .ife (.or (.cmp .ne (.call 143 [(.call 138 [(.var 7)])]) (.var 7)) (.cmp .ne (.call 122 [(.call 36 [(.var 7)])]) (.call 122 [(.var 3)]))) [.ret (.cst (.bl false))] [],
    .setT [(.nm 8), (.nm 9)] (.tup [(.make 3 [(.cst (.int 0)), (.var 1)]), (.make 3 [(.cst (.int 0)), (.var 7)])]),
    .for_ (.nm 10) .rng [(.cst (.int 3))] [.set 11 (.call 126 [(.var 0), (.bin .add (.cst (.int 700)) (.bin .mul (.cst (.int 20)) (.var 10))), (.lc false [6] (.nm 6) .seq [(.var 1)] [] (.idx (.var 6) (.cst (.int 0))))]),
    .set 12 (.idx (.idx (.call 158 [(.lst false [(.tup [(.tup [(.cst (.int 1)), (.cst (.int 0))]), (.cst (.int 0)), (.var 11)])]), (.var 2)]) (.cst (.int 0))) (.cst (.int 2))),
    .ife (.cmp .ne (.meth "put" (.var 8) [(.var 11)]) (.meth "put" (.var 9) [(.var 12)])) [.ret (.cst (.bl false))] []],
    .ife (.cmp .ne (.lc false [13, 14, 11] (.tp [(.nm 13), (.nm 14), (.nm 11)]) .seq [(.meth "drafted" (.var 8) [])] [] (.var 14)) (.lc false [13, 14, 11] (.tp [(.nm 13), (.nm 14), (.nm 11)]) .seq [(.meth "drafted" (.var 9) [])] [] (.var 14))) [.ret (.cst (.bl false))] [],
    .ife (.and (.cmp .ne (.var 1) (.lst false [])) (.cmp .ne (.meth "drafted" (.var 9) []) (.call 158 [(.meth "drafted" (.var 8) []), (.var 2)]))) [.ret (.cst (.bl false))] [],
    .ife (.cmp .ne (.var 1) (.lst false [])) [.set 13 (.idx (.idx (.var 1) (.call 8 [(.var 0), (.cst (.int 601)), (.blt .len [(.var 1)])])) (.cst (.int 0))),
    .ife (.call 59 [(.var 1), (.var 13)]) [.set 15 (.call 58 [(.call 36 [(.call 56 [(.var 1), (.var 13)])]), (.call 57 [(.var 1), (.var 13)])]),
    .ife (.or (.cmp .ne (.call 129 [(.var 15), (.var 3)]) (.tup [(.lst false []), (.lst false []), (.lst false [])])) (.cmp .ne (.call 123 [(.var 15)]) (.call 123 [(.var 3)]))) [.ret (.cst (.bl false))] []] []] [],
    .ret (.cst (.bl true))]
/-- law(_law_script) slots 0:_law_script 1:_law_post 2:_law_wrote 3:_law_k 4:_law_own 5:_law_names 6:_law_letter 7:_law_other 8:_law_letters 9:_law_slate 10:_law_row 11:_law_stamp 12:_law_what 13:_law_one -/
def b216 : List Sm := [.setT [(.nm 1), (.nm 2)] (.tup [(.make 2 [(.cst (.int 3))]), (.lst true [(.lst true []), (.lst true []), (.lst true [])])]),
    .for_ (.nm 3) .rng [(.cst (.int 9))] [.set 4 (.call 8 [(.var 0), (.bin .add (.cst (.int 10)) (.var 3)), (.cst (.int 3))]),
    .set 5 (.lc false [6] (.nm 6) .seq [(.meth "letters" (.meth "hand" (.var 1) [(.var 4)]) [])] [] (.idx (.var 6) (.cst (.int 0)))),
    .set 6 (.meth "do" (.var 1) [(.var 4), (.call 126 [(.var 0), (.bin .add (.cst (.int 100)) (.bin .mul (.cst (.int 20)) (.var 3))), (.var 5)])]),
    .drop (.bm .append (.idx (.var 2) (.var 4)) [(.var 6)]),
    .ife (.cmp .ne (.call 131 [(.meth "letters" (.meth "hand" (.var 1) [(.var 4)]) []), (.var 4)]) (.idx (.var 2) (.var 4))) [.ret (.cst (.bl false))] [],
    .set 7 (.bin .mod (.bin .add (.bin .add (.var 4) (.cst (.int 1))) (.call 8 [(.var 0), (.bin .add (.cst (.int 30)) (.var 3)), (.cst (.int 2))])) (.cst (.int 3))),
    .ife (.cmp .eq (.call 8 [(.var 0), (.bin .add (.cst (.int 50)) (.var 3)), (.cst (.int 3))]) (.cst (.int 0))) [.drop (.meth "meet" (.var 1) [(.var 4), (.var 7)]),
    .ife (.cmp .ne (.call 129 [(.meth "slate" (.meth "hand" (.var 1) [(.var 4)]) []), (.meth "slate" (.meth "hand" (.var 1) [(.var 7)]) [])]) (.tup [(.lst false []), (.lst false []), (.lst false [])])) [.ret (.cst (.bl false))] []] []],
    .drop (.meth "carry_all" (.var 1) []),
    .set 8 (.blt .sorted [(.bin .add (.bin .add (.idx (.var 2) (.cst (.int 0))) (.idx (.var 2) (.cst (.int 1)))) (.idx (.var 2) (.cst (.int 2))))]),
    .ife (.cmp .isnot (.meth "are_alike" (.var 1) []) (.cst (.bl true))) [.ret (.cst (.bl false))] [],
    .set 9 (.call 36 [(.var 8)]),
    .for_ (.nm 4) .rng [(.cst (.int 3))] [.ife (.or (.cmp .ne (.meth "letters" (.meth "hand" (.var 1) [(.var 4)]) []) (.var 8)) (.cmp .ne (.call 123 [(.meth "slate" (.meth "hand" (.var 1) [(.var 4)]) [])]) (.call 123 [(.var 9)]))) [.ret (.cst (.bl false))] [],
    .ife (.cmp .ne (.call 131 [(.meth "letters" (.meth "hand" (.var 1) [(.bin .mod (.bin .add (.var 4) (.cst (.int 1))) (.cst (.int 3)))]) []), (.var 4)]) (.idx (.var 2) (.var 4))) [.ret (.cst (.bl false))] [],
    .ife (.cmp .ne (.call 129 [(.meth "slate" (.meth "hand" (.var 1) [(.var 4)]) []), (.var 9)]) (.tup [(.lst false []), (.lst false []), (.lst false [])])) [.ret (.cst (.bl false))] []],
    .ife (.cmp .ne (.lc false [10] (.nm 10) .seq [(.call 165 [(.var 8)])] [] (.slc false (.var 10) (.cst .non) (.cst (.int 2)) (.cst .non))) (.lc false [4] (.nm 4) .rng [(.cst (.int 3))] [(.cmp .ne (.idx (.var 2) (.var 4)) (.lst false []))] (.tup [(.var 4), (.blt .len [(.idx (.var 2) (.var 4))])]))) [.ret (.cst (.bl false))] [],
    .for_ (.tp [(.nm 11), (.nm 12)]) .seq [(.idx (.meth "told" (.var 9) []) (.cst (.int 1)))] [.ife (.cmp .notin (.var 11) (.lc false [6] (.nm 6) .seq [(.var 8)] [] (.idx (.var 6) (.cst (.int 0))))) [.ret (.cst (.bl false))] [],
    .ife (.cmp .ne (.lc false [13] (.nm 13) .seq [(.call 162 [(.var 8), (.var 11)])] [(.cmp .le (.idx (.var 13) (.cst (.int 0))) (.var 11))] (.var 13)) (.lst false [])) [.ret (.cst (.bl false))] []],
    .ret (.cmp .eq (.idx (.call 122 [(.var 9)]) (.cst (.int 0))) (.blt .len [(.meth "row" (.var 9) [])]))]
/-- law(_law_script) slots 0:_law_script 1:_law_letters 2:_law_x 3:_law_y 4:_law_made 5:_law_one 6:_law_other 7:_law_k 8:_law_left 9:_law_top 10:_law_right 11:_law_bottom 12:_law_stamps 13:_law_stamp 14:_law_what 15:_law_here 16:_law_by 17:_law_less 18:_law_points -/
def b217 : List Sm := [.set 1 (.call 127 [(.var 0), (.cst (.int 100)), (.cst (.int 12))]),
    .setT [(.nm 2), (.nm 3)] (.tup [(.bin .sub (.call 8 [(.var 0), (.cst (.int 0)), (.cst (.int 17))]) (.cst (.int 8))), (.bin .sub (.call 8 [(.var 0), (.cst (.int 1)), (.cst (.int 17))]) (.cst (.int 8)))]),
    .try_ [.set 4 (.call 152 [(.var 1), (.var 2), (.var 3)])] 13 none [.setT [(.nm 2), (.nm 3)] (.tup [(.cst (.int 0)), (.cst (.int 0))]),
    .set 4 (.call 152 [(.var 1), (.cst (.int 0)), (.cst (.int 0))])],
    .setT [(.nm 5), (.nm 6)] (.tup [(.call 36 [(.var 1)]), (.call 36 [(.var 4)])]),
    .ife (.or (.cmp .ne (.call 122 [(.var 6)]) (.call 122 [(.var 5)])) (.cmp .ne (.call 124 [(.var 6)]) (.call 124 [(.var 5)]))) [.ret (.cst (.bl false))] [],
    .for_ (.nm 7) .rng [(.cst (.int 6))] [.setT [(.nm 8), (.nm 9)] (.tup [(.call 8 [(.var 0), (.bin .add (.cst (.int 10)) (.var 7)), (.cst (.int 18))]), (.call 8 [(.var 0), (.bin .add (.cst (.int 20)) (.var 7)), (.cst (.int 18))])]),
    .ife (.cmp .ne (.call 102 [(.var 6), (.bin .add (.var 8) (.var 2)), (.bin .add (.var 9) (.var 3))]) (.call 102 [(.var 5), (.var 8), (.var 9)])) [.ret (.cst (.bl false))] [],
    .ife (.cmp .ne (.call 103 [(.var 6), (.bin .add (.var 8) (.var 2)), (.bin .add (.var 9) (.var 3))]) (.call 103 [(.var 5), (.var 8), (.var 9)])) [.ret (.cst (.bl false))] [],
    .ife (.cmp .ne (.call 106 [(.var 6), (.bin .add (.var 8) (.var 2)), (.bin .add (.var 9) (.var 3))]) (.call 106 [(.var 5), (.var 8), (.var 9)])) [.ret (.cst (.bl false))] [],
    .setT [(.nm 10), (.nm 11)] (.tup [(.bin .add (.var 8) (.call 8 [(.var 0), (.bin .add (.cst (.int 30)) (.var 7)), (.cst (.int 12))])), (.bin .add (.var 9) (.call 8 [(.var 0), (.bin .add (.cst (.int 40)) (.var 7)), (.cst (.int 12))]))]),
    .ife (.cmp .ne (.call 105 [(.var 6), (.bin .add (.var 8) (.var 2)), (.bin .add (.var 9) (.var 3)), (.bin .add (.var 10) (.var 2)), (.bin .add (.var 11) (.var 3))]) (.call 105 [(.var 5), (.var 8), (.var 9), (.var 10), (.var 11)])) [.ret (.cst (.bl false))] []],
    .set 12 (.lc false [13, 14] (.tp [(.nm 13), (.nm 14)]) .seq [(.idx (.meth "told" (.var 5) []) (.cst (.int 1)))] [] (.var 13)),
    .for_ (.nm 13) .seq [(.var 12)] [.ife (.cmp .ne (.call 104 [(.var 6), (.var 13)]) (.blt .tuple [(.lc false [15, 16] (.tp [(.nm 15), (.nm 16)]) .zip [(.call 104 [(.var 5), (.var 13)]), (.tup [(.var 2), (.var 3), (.var 2), (.var 3)])] [] (.bin .add (.var 15) (.var 16)))])) [.ret (.cst (.bl false))] [],
    .ife (.cmp .ne (.call 115 [(.var 6), (.var 13)]) (.call 115 [(.var 5), (.var 13)])) [.ret (.cst (.bl false))] [],
    .ife (.cmp .ne (.call 107 [(.var 6), (.var 13), (.idx (.var 12) (.cst (.int 0)))]) (.call 107 [(.var 5), (.var 13), (.idx (.var 12) (.cst (.int 0)))])) [.ret (.cst (.bl false))] []],
    .set 17 (.slc false (.var 1) (.cst .non) (.bin .fdiv (.blt .len [(.var 1)]) (.cst (.int 2))) (.cst .non)),
    .set 18 (.call 133 [(.var 5), (.call 36 [(.var 17)])]),
    .ife (.cmp .ne (.call 133 [(.var 6), (.call 36 [(.call 152 [(.var 17), (.var 2), (.var 3)])])]) (.lc false [8, 9] (.tp [(.nm 8), (.nm 9)]) .seq [(.var 18)] [] (.tup [(.bin .add (.var 8) (.var 2)), (.bin .add (.var 9) (.var 3))]))) [.ret (.cst (.bl false))] [],
    .ret (.cmp .eq (.cmp .is (.call 125 [(.var 6)]) (.cst .non)) (.cmp .is (.call 125 [(.var 5)]) (.cst .non)))]
abbrev F1 : Fn := ⟨3, 3, false, b1⟩
abbrev F2 : Fn := ⟨1, 2, false, b2⟩
abbrev F3 : Fn := ⟨1, 1, false, b3⟩
abbrev F4 : Fn := ⟨1, 2, false, b4⟩
abbrev F5 : Fn := ⟨1, 3, false, b5⟩
abbrev F6 : Fn := ⟨1, 1, false, b6⟩
abbrev F7 : Fn := ⟨2, 2, false, b7⟩
abbrev F8 : Fn := ⟨3, 4, false, b8⟩
abbrev F9 : Fn := ⟨3, 9, false, b9⟩
abbrev F10 : Fn := ⟨3, 12, false, b10⟩
abbrev F11 : Fn := ⟨1, 3, false, b11⟩
abbrev F12 : Fn := ⟨1, 11, false, b12⟩
abbrev F13 : Fn := ⟨4, 4, true, b13⟩
abbrev F14 : Fn := ⟨2, 2, false, b14⟩
abbrev F15 : Fn := ⟨2, 2, false, b15⟩
abbrev F16 : Fn := ⟨2, 2, false, b16⟩
abbrev F17 : Fn := ⟨2, 3, false, b17⟩
abbrev F18 : Fn := ⟨2, 3, false, b18⟩
abbrev F19 : Fn := ⟨2, 4, false, b19⟩
abbrev F20 : Fn := ⟨2, 4, false, b20⟩
abbrev F21 : Fn := ⟨1, 4, false, b21⟩
abbrev F22 : Fn := ⟨1, 4, false, b22⟩
abbrev F23 : Fn := ⟨0, 0, false, b23⟩
abbrev F24 : Fn := ⟨3, 5, false, b24⟩
abbrev F25 : Fn := ⟨2, 3, false, b25⟩
abbrev F26 : Fn := ⟨3, 4, false, b26⟩
abbrev F27 : Fn := ⟨3, 7, false, b27⟩
abbrev F28 : Fn := ⟨2, 5, false, b28⟩
abbrev F29 : Fn := ⟨3, 7, false, b29⟩
abbrev F30 : Fn := ⟨2, 4, false, b30⟩
abbrev F31 : Fn := ⟨3, 6, false, b31⟩
abbrev F32 : Fn := ⟨3, 7, false, b32⟩
abbrev F33 : Fn := ⟨1, 1, false, b33⟩
abbrev F34 : Fn := ⟨1, 1, false, b34⟩
abbrev F35 : Fn := ⟨1, 6, false, b35⟩
abbrev F36 : Fn := ⟨1, 5, false, b36⟩
abbrev F37 : Fn := ⟨1, 7, false, b37⟩
abbrev F38 : Fn := ⟨3, 5, true, b38⟩
abbrev F39 : Fn := ⟨1, 3, false, b39⟩
abbrev F40 : Fn := ⟨4, 10, false, b40⟩
abbrev F41 : Fn := ⟨2, 3, false, b41⟩
abbrev F42 : Fn := ⟨3, 9, false, b42⟩
abbrev F43 : Fn := ⟨5, 8, false, b43⟩
abbrev F44 : Fn := ⟨1, 6, false, b44⟩
abbrev F45 : Fn := ⟨1, 5, false, b45⟩
abbrev F46 : Fn := ⟨1, 4, false, b46⟩
abbrev F47 : Fn := ⟨1, 7, false, b47⟩
abbrev F48 : Fn := ⟨3, 5, false, b48⟩
abbrev F49 : Fn := ⟨1, 11, false, b49⟩
abbrev F50 : Fn := ⟨2, 5, false, b50⟩
abbrev F51 : Fn := ⟨1, 2, false, b51⟩
abbrev F52 : Fn := ⟨2, 5, false, b52⟩
abbrev F54 : Fn := ⟨1, 14, false, b54⟩
abbrev F55 : Fn := ⟨1, 19, false, b55⟩
abbrev F56 : Fn := ⟨2, 3, false, b56⟩
abbrev F57 : Fn := ⟨2, 3, false, b57⟩
abbrev F58 : Fn := ⟨2, 5, false, b58⟩
abbrev F59 : Fn := ⟨2, 3, false, b59⟩
abbrev F60 : Fn := ⟨1, 15, false, b60⟩
abbrev F61 : Fn := ⟨2, 7, false, b61⟩
abbrev F62 : Fn := ⟨1, 20, false, b62⟩
abbrev F63 : Fn := ⟨1, 1, false, b63⟩
abbrev F64 : Fn := ⟨2, 3, false, b64⟩
abbrev F65 : Fn := ⟨1, 5, false, b65⟩
abbrev F66 : Fn := ⟨1, 5, false, b66⟩
abbrev F67 : Fn := ⟨2, 2, true, b67⟩
abbrev F68 : Fn := ⟨1, 1, false, b68⟩
abbrev F69 : Fn := ⟨1, 1, false, b69⟩
abbrev F70 : Fn := ⟨2, 3, false, b70⟩
abbrev F71 : Fn := ⟨2, 4, false, b71⟩
abbrev F72 : Fn := ⟨1, 1, false, b72⟩
abbrev F73 : Fn := ⟨1, 1, false, b73⟩
abbrev F74 : Fn := ⟨2, 2, false, b74⟩
abbrev F75 : Fn := ⟨3, 6, false, b75⟩
abbrev F76 : Fn := ⟨1, 6, false, b76⟩
abbrev F77 : Fn := ⟨2, 3, false, b77⟩
abbrev F78 : Fn := ⟨5, 11, false, b78⟩
abbrev F80 : Fn := ⟨1, 3, false, b80⟩
abbrev F81 : Fn := ⟨1, 4, false, b81⟩
abbrev F83 : Fn := ⟨2, 3, true, b83⟩
abbrev F84 : Fn := ⟨2, 2, false, b84⟩
abbrev F85 : Fn := ⟨2, 2, false, b85⟩
abbrev F86 : Fn := ⟨3, 4, false, b86⟩
abbrev F87 : Fn := ⟨3, 3, false, b87⟩
abbrev F88 : Fn := ⟨2, 2, false, b88⟩
abbrev F89 : Fn := ⟨3, 3, false, b89⟩
abbrev F90 : Fn := ⟨4, 5, false, b90⟩
abbrev F91 : Fn := ⟨4, 5, false, b91⟩
abbrev F92 : Fn := ⟨1, 5, false, b92⟩
abbrev F93 : Fn := ⟨3, 8, false, b93⟩
abbrev F94 : Fn := ⟨1, 2, false, b94⟩
abbrev F95 : Fn := ⟨5, 8, false, b95⟩
abbrev F96 : Fn := ⟨5, 14, false, b96⟩
abbrev F97 : Fn := ⟨3, 8, false, b97⟩
abbrev F98 : Fn := ⟨1, 14, false, b98⟩
abbrev F100 : Fn := ⟨2, 2, false, b100⟩
abbrev F101 : Fn := ⟨3, 3, false, b101⟩
abbrev F102 : Fn := ⟨3, 6, false, b102⟩
abbrev F103 : Fn := ⟨3, 4, false, b103⟩
abbrev F104 : Fn := ⟨2, 7, false, b104⟩
abbrev F105 : Fn := ⟨5, 9, false, b105⟩
abbrev F106 : Fn := ⟨3, 4, false, b106⟩
abbrev F107 : Fn := ⟨3, 7, false, b107⟩
abbrev F108 : Fn := ⟨3, 9, false, b108⟩
abbrev F109 : Fn := ⟨5, 8, false, b109⟩
abbrev F110 : Fn := ⟨1, 5, false, b110⟩
abbrev F111 : Fn := ⟨4, 7, false, b111⟩
abbrev F112 : Fn := ⟨1, 5, false, b112⟩
abbrev F113 : Fn := ⟨4, 14, false, b113⟩
abbrev F114 : Fn := ⟨1, 20, false, b114⟩
abbrev F115 : Fn := ⟨2, 8, false, b115⟩
abbrev F116 : Fn := ⟨2, 3, false, b116⟩
abbrev F117 : Fn := ⟨1, 18, false, b117⟩
abbrev F118 : Fn := ⟨1, 8, false, b118⟩
abbrev F119 : Fn := ⟨1, 21, false, b119⟩
abbrev F120 : Fn := ⟨2, 5, false, b120⟩
abbrev F121 : Fn := ⟨1, 17, false, b121⟩
abbrev F122 : Fn := ⟨1, 7, false, b122⟩
abbrev F123 : Fn := ⟨1, 5, false, b123⟩
abbrev F124 : Fn := ⟨1, 6, false, b124⟩
abbrev F125 : Fn := ⟨1, 8, false, b125⟩
abbrev F126 : Fn := ⟨3, 9, false, b126⟩
abbrev F127 : Fn := ⟨3, 12, false, b127⟩
abbrev F128 : Fn := ⟨1, 22, false, b128⟩
abbrev F129 : Fn := ⟨2, 7, false, b129⟩
abbrev F130 : Fn := ⟨1, 2, false, b130⟩
abbrev F131 : Fn := ⟨2, 3, false, b131⟩
abbrev F132 : Fn := ⟨1, 11, false, b132⟩
abbrev F133 : Fn := ⟨2, 5, false, b133⟩
abbrev F134 : Fn := ⟨1, 17, false, b134⟩
abbrev F135 : Fn := ⟨1, 1, false, b135⟩
abbrev F136 : Fn := ⟨1, 2, false, b136⟩
abbrev F137 : Fn := ⟨1, 1, false, b137⟩
abbrev F138 : Fn := ⟨1, 2, false, b138⟩
abbrev F139 : Fn := ⟨1, 3, false, b139⟩
abbrev F140 : Fn := ⟨1, 4, false, b140⟩
abbrev F141 : Fn := ⟨1, 2, false, b141⟩
abbrev F142 : Fn := ⟨1, 3, false, b142⟩
abbrev F143 : Fn := ⟨1, 3, false, b143⟩
abbrev F144 : Fn := ⟨3, 7, false, b144⟩
abbrev F145 : Fn := ⟨1, 1, false, b145⟩
abbrev F146 : Fn := ⟨1, 6, false, b146⟩
abbrev F147 : Fn := ⟨1, 5, false, b147⟩
abbrev F148 : Fn := ⟨1, 10, false, b148⟩
abbrev F149 : Fn := ⟨2, 2, false, b149⟩
abbrev F150 : Fn := ⟨2, 3, false, b150⟩
abbrev F151 : Fn := ⟨2, 5, false, b151⟩
abbrev F152 : Fn := ⟨3, 11, false, b152⟩
abbrev F153 : Fn := ⟨5, 9, false, b153⟩
abbrev F154 : Fn := ⟨1, 5, false, b154⟩
abbrev F155 : Fn := ⟨1, 3, false, b155⟩
abbrev F157 : Fn := ⟨2, 2, false, b157⟩
abbrev F158 : Fn := ⟨2, 7, false, b158⟩
abbrev F159 : Fn := ⟨2, 8, false, b159⟩
abbrev F160 : Fn := ⟨2, 14, false, b160⟩
abbrev F161 : Fn := ⟨1, 18, false, b161⟩
abbrev F162 : Fn := ⟨2, 5, false, b162⟩
abbrev F163 : Fn := ⟨1, 4, false, b163⟩
abbrev F164 : Fn := ⟨2, 3, false, b164⟩
abbrev F165 : Fn := ⟨1, 10, false, b165⟩
abbrev F166 : Fn := ⟨1, 17, false, b166⟩
abbrev F168 : Fn := ⟨1, 7, false, b168⟩
abbrev F169 : Fn := ⟨3, 6, false, b169⟩
abbrev F170 : Fn := ⟨2, 6, false, b170⟩
abbrev F171 : Fn := ⟨1, 3, false, b171⟩
abbrev F172 : Fn := ⟨0, 1, false, b172⟩
abbrev F173 : Fn := ⟨1, 18, false, b173⟩
abbrev F174 : Fn := ⟨1, 6, false, b174⟩
abbrev F175 : Fn := ⟨1, 13, false, b175⟩
abbrev F176 : Fn := ⟨2, 5, false, b176⟩
abbrev F177 : Fn := ⟨1, 15, false, b177⟩
abbrev F178 : Fn := ⟨1, 12, false, b178⟩
abbrev F179 : Fn := ⟨1, 7, false, b179⟩
abbrev F180 : Fn := ⟨1, 14, false, b180⟩
abbrev F181 : Fn := ⟨1, 14, false, b181⟩
abbrev F182 : Fn := ⟨3, 4, true, b182⟩
abbrev F183 : Fn := ⟨2, 6, true, b183⟩
abbrev F184 : Fn := ⟨1, 1, false, b184⟩
abbrev F185 : Fn := ⟨1, 1, false, b185⟩
abbrev F186 : Fn := ⟨1, 1, false, b186⟩
abbrev F187 : Fn := ⟨1, 1, false, b187⟩
abbrev F188 : Fn := ⟨1, 2, false, b188⟩
abbrev F189 : Fn := ⟨1, 1, false, b189⟩
abbrev F190 : Fn := ⟨5, 10, false, b190⟩
abbrev F191 : Fn := ⟨1, 8, false, b191⟩
abbrev F192 : Fn := ⟨1, 1, false, b192⟩
abbrev F193 : Fn := ⟨1, 2, false, b193⟩
abbrev F195 : Fn := ⟨1, 10, false, b195⟩
abbrev F196 : Fn := ⟨1, 2, true, b196⟩
abbrev F197 : Fn := ⟨1, 11, false, b197⟩
abbrev F199 : Fn := ⟨1, 13, false, b199⟩
abbrev F200 : Fn := ⟨3, 6, false, b200⟩
abbrev F201 : Fn := ⟨0, 4, false, b201⟩
abbrev F202 : Fn := ⟨0, 6, false, b202⟩
abbrev F203 : Fn := ⟨1, 8, false, b203⟩
abbrev F204 : Fn := ⟨1, 10, false, b204⟩
abbrev F205 : Fn := ⟨1, 4, false, b205⟩
abbrev F206 : Fn := ⟨1, 1, false, b206⟩
abbrev F207 : Fn := ⟨1, 7, true, b207⟩
abbrev F208 : Fn := ⟨1, 11, false, b208⟩
abbrev F209 : Fn := ⟨1, 17, false, b209⟩
abbrev F212 : Fn := ⟨1, 10, false, b212⟩
abbrev F214 : Fn := ⟨1, 13, false, b214⟩
abbrev F215 : Fn := ⟨1, 16, false, b215⟩
abbrev F216 : Fn := ⟨1, 14, false, b216⟩
abbrev F217 : Fn := ⟨1, 19, false, b217⟩
def tblU : Nat → Option Fn
  | 1 => some F1
  | 2 => some F2
  | 3 => some F3
  | 4 => some F4
  | 5 => some F5
  | 6 => some F6
  | 7 => some F7
  | 8 => some F8
  | 9 => some F9
  | 10 => some F10
  | 11 => some F11
  | 12 => some F12
  | 13 => some F13
  | 14 => some F14
  | 15 => some F15
  | 16 => some F16
  | 17 => some F17
  | 18 => some F18
  | 19 => some F19
  | 20 => some F20
  | 21 => some F21
  | 22 => some F22
  | 23 => some F23
  | 24 => some F24
  | 25 => some F25
  | 26 => some F26
  | 27 => some F27
  | 28 => some F28
  | 29 => some F29
  | 30 => some F30
  | 31 => some F31
  | 32 => some F32
  | 33 => some F33
  | 34 => some F34
  | 35 => some F35
  | 36 => some F36
  | 37 => some F37
  | 38 => some F38
  | 39 => some F39
  | 40 => some F40
  | 41 => some F41
  | 42 => some F42
  | 43 => some F43
  | 44 => some F44
  | 45 => some F45
  | 46 => some F46
  | 47 => some F47
  | 48 => some F48
  | 49 => some F49
  | 50 => some F50
  | 51 => some F51
  | 52 => some F52
  | 54 => some F54
  | 55 => some F55
  | 56 => some F56
  | 57 => some F57
  | 58 => some F58
  | 59 => some F59
  | 60 => some F60
  | 61 => some F61
  | 62 => some F62
  | 63 => some F63
  | 64 => some F64
  | 65 => some F65
  | 66 => some F66
  | 67 => some F67
  | 68 => some F68
  | 69 => some F69
  | 70 => some F70
  | 71 => some F71
  | 72 => some F72
  | 73 => some F73
  | 74 => some F74
  | 75 => some F75
  | 76 => some F76
  | 77 => some F77
  | 78 => some F78
  | 80 => some F80
  | 81 => some F81
  | 83 => some F83
  | 84 => some F84
  | 85 => some F85
  | 86 => some F86
  | 87 => some F87
  | 88 => some F88
  | 89 => some F89
  | 90 => some F90
  | 91 => some F91
  | 92 => some F92
  | 93 => some F93
  | 94 => some F94
  | 95 => some F95
  | 96 => some F96
  | 97 => some F97
  | 98 => some F98
  | 100 => some F100
  | 101 => some F101
  | 102 => some F102
  | 103 => some F103
  | 104 => some F104
  | 105 => some F105
  | 106 => some F106
  | 107 => some F107
  | 108 => some F108
  | 109 => some F109
  | 110 => some F110
  | 111 => some F111
  | 112 => some F112
  | 113 => some F113
  | 114 => some F114
  | 115 => some F115
  | 116 => some F116
  | 117 => some F117
  | 118 => some F118
  | 119 => some F119
  | 120 => some F120
  | 121 => some F121
  | 122 => some F122
  | 123 => some F123
  | 124 => some F124
  | 125 => some F125
  | 126 => some F126
  | 127 => some F127
  | 128 => some F128
  | 129 => some F129
  | 130 => some F130
  | 131 => some F131
  | 132 => some F132
  | 133 => some F133
  | 134 => some F134
  | 135 => some F135
  | 136 => some F136
  | 137 => some F137
  | 138 => some F138
  | 139 => some F139
  | 140 => some F140
  | 141 => some F141
  | 142 => some F142
  | 143 => some F143
  | 144 => some F144
  | 145 => some F145
  | 146 => some F146
  | 147 => some F147
  | 148 => some F148
  | 149 => some F149
  | 150 => some F150
  | 151 => some F151
  | 152 => some F152
  | 153 => some F153
  | 154 => some F154
  | 155 => some F155
  | 157 => some F157
  | 158 => some F158
  | 159 => some F159
  | 160 => some F160
  | 161 => some F161
  | 162 => some F162
  | 163 => some F163
  | 164 => some F164
  | 165 => some F165
  | 166 => some F166
  | 168 => some F168
  | 169 => some F169
  | 170 => some F170
  | 171 => some F171
  | 172 => some F172
  | 173 => some F173
  | 174 => some F174
  | 175 => some F175
  | 176 => some F176
  | 177 => some F177
  | 178 => some F178
  | 179 => some F179
  | 180 => some F180
  | 181 => some F181
  | 182 => some F182
  | 183 => some F183
  | 184 => some F184
  | 185 => some F185
  | 186 => some F186
  | 187 => some F187
  | 188 => some F188
  | 189 => some F189
  | 190 => some F190
  | 191 => some F191
  | 192 => some F192
  | 193 => some F193
  | 195 => some F195
  | 196 => some F196
  | 197 => some F197
  | 199 => some F199
  | 200 => some F200
  | 201 => some F201
  | 202 => some F202
  | 203 => some F203
  | 204 => some F204
  | 205 => some F205
  | 206 => some F206
  | 207 => some F207
  | 208 => some F208
  | 209 => some F209
  | 212 => some F212
  | 214 => some F214
  | 215 => some F215
  | 216 => some F216
  | 217 => some F217
  | _ => none
def subU : Nat → Nat → Bool := fun a b => a == b || b == 10 || b == 9
end IL
end

section
set_option autoImplicit false
set_option linter.all false
set_option Elab.async false
set_option maxRecDepth 100000
set_option maxHeartbeats 4000000
/-! first words -/
namespace IL
open PySem
/-- a program over all the bodies -/
class Uni (P : Pg) : Prop where
  fn : P.fn = tblU
  sub : P.sub = subU
/-- a method, a making, a field of a class -/
class Mt (P : Pg) (C : Nat) (m : Str) (i : Nat) : Prop where
  mt : P.mt C m = some i
class Ini (P : Pg) (C : Nat) (i : Nat) : Prop where
  init : P.init C = some i
class Fld (P : Pg) (C : Nat) (f : Str) : Prop where
  fl : P.fl C f = true
section
variable {P : Pg} [Uni P]
theorem callC_ok {rn : Nat → List Vl → Hh → Rs Vl} {f : Nat} {F : Fn} {vs : List Vl} {h h' : Hh} {v v' : Vl} (hf : tblU f = some F) (hk : F.keep = false) (hb : vs.all (below deep 0) = true) (hr : rn f vs [] = .ok v h') (ht : thaw deep 0 h' v = some v') : callC P rn f vs h = .ok v' h := by
  unfold callC
  rw [Uni.fn, hf]
  simp only [hk, Bool.false_eq_true, if_false, hb, if_true, hr, ht]
theorem thaw_of {n : Nat} {h : Hh} {v : Vl} (hb : below deep n v = true) : thaw deep n h v = some v := by
  unfold thaw
  rw [if_pos hb]
/-- a call that answers with plain data -/
theorem callC_val {rn : Nat → List Vl → Hh → Rs Vl} {f : Nat} {F : Fn} {vs : List Vl} {h h' : Hh} {v : Vl} (hf : tblU f = some F) (hk : F.keep = false) (hb : vs.all (below deep 0) = true) (hr : rn f vs [] = .ok v h') (ht : below deep 0 v = true) : callC P rn f vs h = .ok v h :=
  callC_ok hf hk hb hr (thaw_of ht)
theorem run_eq {d f : Nat} {F : Fn} {vs : List Vl} {h : Hh} (hf : tblU f = some F) (hl : vs.length = F.n) : run P (d + 1) f vs h = (execB P (callC P (run P d)) F.body (startE F vs) h).val := by
  unfold run
  rw [Uni.fn, hf]
  simp only [hl, if_true]
/-! ### is_whole -/
def isW (v : Vl) (lo hi : Int) : Bool := match v with
  | .int i => decide (lo ≤ i) && decide (i ≤ hi)
  | _ => false
theorem run_whole {d : Nat} {v : Vl} {lo hi : Int} (hv : instOk v = true) : run P (d + 1) 1 [v, .int lo, .int hi] [] = .ok (.bl (isW v lo hi)) [] := by
  rw [run_eq (F := F1) rfl rfl]
  cases v <;> simp [instOk] at hv <;> simp [b1, execB, execS, evalE, evalL, Rs.bind, Rs.fl, startE, Fl.val, bltV, instOk, isinstV, isW, cmpV, cmpI, Rs.of]
  rename_i i
  by_cases c : lo ≤ i <;> simp [c]
abbrev scr (ns : List Int) : Vl := .scr (ns.map .int)
theorem below_scr (ns : List Int) : below deep 0 (scr ns) = true := by
  show (ns.map Vl.int).all (below 11 0) = true
  rw [List.all_eq_true]
  intro x hx
  obtain ⟨n, _, rfl⟩ := List.mem_map.mp hx
  rfl
theorem data_scr (ns : List Int) : isData deep (scr ns) = true := by
  show (ns.map Vl.int).all (isData 11) = true
  rw [List.all_eq_true]
  intro x hx
  obtain ⟨n, _, rfl⟩ := List.mem_map.mp hx
  rfl
def cellI (ns : List Int) (k : Int) : Int := if k < ns.length then ns.getD k.toNat 0 else if ns = [] then 0 else ns.getD (k % ns.length).toNat 0 * 31 + k
theorem idx_scr {ns : List Int} {k : Int} {h : Hh} (h0 : 0 ≤ k) (h1 : k < ns.length) : idxV (scr ns) (.int k) h = .ok (.int (ns.getD k.toNat 0)) h := by
  have hn : k.toNat < ns.length := by omega
  simp [idxV, asSeq, ixOf, h0, h1, hn, Rs.of]
theorem len_scr {ns : List Int} {h : Hh} : bltV .len [scr ns] h = .ok (.int ns.length) h := by
  simp [bltV, lenV, asSeq, Rs.of]
theorem lt_int {i j : Int} {h : Hh} : cmpV .lt (.int i) (.int j) h = .ok (.bl (decide (i < j))) h := rfl
theorem eq_nil {ns : List Int} {h : Hh} : cmpV .eq (scr ns) (.lst []) h = .ok (.bl (decide (ns = []))) h := by
  have e : eqH (scr ns) (.lst []) h = some (decide (ns = [])) := by
    unfold eqH
    have z : thaw deep 0 h (scr ns) = some (scr ns) := thaw_of (below_scr ns)
    rw [z, thaw_of (v := .lst []) rfl]
    simp only [data_scr]
    cases ns <;> simp [isData, eqv, eqvs]
  simp [cmpV, e, Rs.of]
theorem run_cell {d : Nat} {ns : List Int} {k : Int} (hk : 0 ≤ k) : run P (d + 1) 7 [scr ns, .int k] [] = .ok (.int (cellI ns k)) [] := by
  rw [run_eq (F := F7) rfl rfl]
  unfold cellI
  have ev : ∀ x y : Vl, startE F7 [x, y] = [some x, some y] := fun _ _ => rfl
  rw [ev]
  by_cases c : k < ns.length
  · simp [b7, execB, execS, evalE, evalL, Rs.bind, Rs.fl, Fl.val, len_scr, lt_int, c, idx_scr hk c]
  · by_cases c2 : ns = []
    · have q : ∀ h, cmpV .eq (scr ns) (.lst []) h = .ok (.bl true) h := fun h => by rw [eq_nil]; simp [c2]
      rw [if_neg c, if_pos c2]
      simp [b7, execB, execS, evalE, evalL, Rs.bind, Rs.fl, Fl.val, len_scr, lt_int, c, place, q]
    · have pos : 0 < ns.length := List.length_pos_iff.mpr c2
      have p2 : (0 : Int) < ns.length := by omega
      have g := fun h => idx_scr (ns := ns) (k := k % ns.length) (h := h) (Int.emod_nonneg _ (by omega)) (Int.emod_lt_of_pos _ p2)
      simp [b7, execB, execS, evalE, evalL, Rs.bind, Rs.fl, Fl.val, len_scr, lt_int, c, place, eq_nil, c2, binV, p2, g, pos]
def drawnI (ns : List Int) (k : Int) : Int := (cellI ns k + 6151 * (k + 1)) * 40692 % 2147483399
def pickI (ns : List Int) (k m : Int) : Int := (drawnI ns k * drawnI ns k + drawnI ns k / 31) % 2147483629 % m
theorem pick_lt {ns : List Int} {k m : Int} (hm : 0 < m) : 0 ≤ pickI ns k m ∧ pickI ns k m < m := ⟨Int.emod_nonneg _ (by omega), Int.emod_lt_of_pos _ hm⟩
theorem call_cell {d : Nat} {ns : List Int} {k : Int} {h : Hh} (hk : 0 ≤ k) : callC P (run P (d + 1)) 7 [scr ns, .int k] h = .ok (.int (cellI ns k)) h :=
  callC_val (F := F7) rfl rfl (by simp [below_scr]; rfl) (run_cell hk) rfl
theorem run_pick {d : Nat} {ns : List Int} {k m : Int} (hk : 0 ≤ k) (hm : 0 < m) : run P (d + 2) 8 [scr ns, .int k, .int m] [] = .ok (.int (pickI ns k m)) [] := by
  rw [run_eq (F := F8) rfl rfl]
  have d1 : 0 ≤ drawnI ns k := Int.emod_nonneg _ (by omega)
  have d2 : drawnI ns k < 2147483399 := Int.emod_lt_of_pos _ (by omega)
  have d3 : (-18446744073709551616 < drawnI ns k ∧ drawnI ns k < 18446744073709551616) := by omega
  have e : (cellI ns k + 6151 * (k + 1)) * 40692 % 2147483399 = drawnI ns k := rfl
  simp [b8, execB, execS, evalE, evalL, Rs.bind, Rs.fl, startE, Fl.val, call_cell hk, binV, e, d3, hm, pickI]
theorem call_pick {d : Nat} {ns : List Int} {k m : Int} {h : Hh} (hk : 0 ≤ k) (hm : 0 < m) : callC P (run P (d + 2)) 8 [scr ns, .int k, .int m] h = .ok (.int (pickI ns k m)) h :=
  callC_val (F := F8) rfl rfl (by simp [below_scr]; exact ⟨rfl, rfl⟩) (run_pick hk hm) rfl
end
end IL
end

section
set_option autoImplicit false
set_option linter.all false
set_option Elab.async false
set_option maxRecDepth 100000
set_option maxHeartbeats 0
open PySem L2
namespace IL
def top (i : Nat) : Stmt := PySem.Challenge.pw_slatehands_k89_drafts_refused.main.body.getD i (.Pass ⟨0, 0, 0, 0⟩)
def f1 : FD := ⟨1, none, ("is_whole" : Str), top 16, ["thing", "low", "high"], ["thing", "low", "high"]⟩
def f2 : FD := ⟨2, none, ("is_box" : Str), top 17, ["thing", "one"], ["thing"]⟩
def f3 : FD := ⟨3, none, ("is_stamp" : Str), top 18, ["thing"], ["thing"]⟩
def f4 : FD := ⟨4, none, ("are_stamps" : Str), top 19, ["thing", "one"], ["thing"]⟩
def f5 : FD := ⟨5, none, ("is_deed" : Str), top 20, ["thing", "word", "one"], ["thing"]⟩
def f63 : FD := ⟨63, none, ("look_deed" : Str), top 21, ["deed"], ["deed"]⟩
def f6 : FD := ⟨6, none, ("is_letter" : Str), top 22, ["thing"], ["thing"]⟩
def f13 : FD := ⟨13, some (("Slate" : Str), 0), ("__init__" : Str), inClass (top 24) 0, ["self", "top", "things", "locks"], ["self", "top", "things", "locks"]⟩
def f14 : FD := ⟨14, some (("Slate" : Str), 0), ("has" : Str), inClass (top 24) 1, ["self", "name"], ["self", "name"]⟩
def f15 : FD := ⟨15, some (("Slate" : Str), 0), ("is_group" : Str), inClass (top 24) 2, ["self", "name"], ["self", "name"]⟩
def f16 : FD := ⟨16, some (("Slate" : Str), 0), ("members" : Str), inClass (top 24) 3, ["self", "name"], ["self", "name"]⟩
def f17 : FD := ⟨17, some (("Slate" : Str), 0), ("around" : Str), inClass (top 24) 4, ["self", "name", "one"], ["self", "name"]⟩
def f18 : FD := ⟨18, some (("Slate" : Str), 0), ("path" : Str), inClass (top 24) 5, ["self", "name", "made"], ["self", "name"]⟩
def f19 : FD := ⟨19, some (("Slate" : Str), 0), ("shapes" : Str), inClass (top 24) 6, ["self", "name", "made", "one"], ["self", "name"]⟩
def f20 : FD := ⟨20, some (("Slate" : Str), 0), ("all_in" : Str), inClass (top 24) 7, ["self", "name", "made", "one"], ["self", "name"]⟩
def f21 : FD := ⟨21, some (("Slate" : Str), 0), ("row" : Str), inClass (top 24) 8, ["self", "made", "name", "one"], ["self"]⟩
def f22 : FD := ⟨22, some (("Slate" : Str), 0), ("told" : Str), inClass (top 24) 9, ["self", "things", "name", "locks"], ["self"]⟩
def f23 : FD := ⟨23, none, ("blank" : Str), top 25, [], []⟩
def f24 : FD := ⟨24, none, ("may_do" : Str), top 26, ["slate", "hand", "name", "some", "one"], ["slate", "hand", "name"]⟩
def f25 : FD := ⟨25, none, ("in_its_row" : Str), top 27, ["slate", "name", "group"], ["slate", "name"]⟩
def f26 : FD := ⟨26, none, ("with_row" : Str), top 28, ["slate", "name", "row", "group"], ["slate", "name", "row"]⟩
def f27 : FD := ⟨27, none, ("moved" : Str), top 29, ["slate", "name", "by", "one", "word", "box", "colour"], ["slate", "name", "by"]⟩
def f28 : FD := ⟨28, none, ("erased" : Str), top 30, ["slate", "name", "group", "row", "one"], ["slate", "name"]⟩
def f29 : FD := ⟨29, none, ("grouped" : Str), top 31, ["slate", "stamp", "names", "row", "made", "one", "rest"], ["slate", "stamp", "names"]⟩
def f30 : FD := ⟨30, none, ("ungrouped" : Str), top 32, ["slate", "name", "row", "at"], ["slate", "name"]⟩
def f31 : FD := ⟨31, none, ("is_due" : Str), top 33, ["slate", "stamp", "deed", "word", "hand", "name"], ["slate", "stamp", "deed"]⟩
def f32 : FD := ⟨32, none, ("behind" : Str), top 34, ["slate", "stamp", "deed", "made", "word", "name", "one"], ["slate", "stamp", "deed"]⟩
def f33 : FD := ⟨33, none, ("in_order" : Str), top 36, ["letters"], ["letters"]⟩
def f34 : FD := ⟨34, none, ("stamp_of" : Str), top 37, ["letter"], ["letter"]⟩
def f50 : FD := ⟨50, none, ("joined" : Str), top 38, ["one", "other", "made", "letter", "stamp"], ["one", "other"]⟩
def f35 : FD := ⟨35, none, ("counting" : Str), top 39, ["letters", "gone", "made", "stamp", "number", "deed"], ["letters"]⟩
def f36 : FD := ⟨36, none, ("slate_of" : Str), top 40, ["letters", "slate", "stamp", "number", "deed"], ["letters"]⟩
def f182 : FD := ⟨182, some (("Draft" : Str), 3), ("__init__" : Str), inClass (top 43) 0, ["self", "own", "letters", "letter"], ["self", "own", "letters"]⟩
def f183 : FD := ⟨183, some (("Draft" : Str), 3), ("put" : Str), inClass (top 43) 1, ["self", "deed", "ahead", "clock", "letter", "number"], ["self", "deed"]⟩
def f184 : FD := ⟨184, some (("Draft" : Str), 3), ("slate" : Str), inClass (top 43) 2, ["self"], ["self"]⟩
def f185 : FD := ⟨185, some (("Draft" : Str), 3), ("drafted" : Str), inClass (top 43) 3, ["self"], ["self"]⟩
def f186 : FD := ⟨186, some (("Draft" : Str), 3), ("ground" : Str), inClass (top 43) 4, ["self"], ["self"]⟩
def f188 : FD := ⟨188, some (("Draft" : Str), 3), ("back" : Str), inClass (top 43) 6, ["self", "deed"], ["self"]⟩
def f192 : FD := ⟨192, some (("Draft" : Str), 3), ("forth" : Str), inClass (top 43) 7, ["self"], ["self"]⟩
def f189 : FD := ⟨189, some (("Draft" : Str), 3), ("counts" : Str), inClass (top 43) 8, ["self"], ["self"]⟩
def f7 : FD := ⟨7, none, ("_law_cell" : Str), top 45, ["_law_script", "_law_k"], ["_law_script", "_law_k"]⟩
def f8 : FD := ⟨8, none, ("_law_pick" : Str), top 46, ["_law_script", "_law_k", "_law_many", "_law_drawn"], ["_law_script", "_law_k", "_law_many"]⟩
def f193 : FD := ⟨193, none, ("_law_class" : Str), top 47, ["_law_kept", "_law_kinds"], ["_law_kept"]⟩
def f199 : FD := ⟨199, none, ("law" : Str), top 49, ["_law_script", "_law_box", "_law_good", "_law_odd", "_law_bad", "_law_k", "_law_own", "_law_thing", "_law_draft", "_law_here", "_law_steps", "_law_deed", "_law_full"], ["_law_script"]⟩
def td0 : TD := ⟨("_law_told" : Str), top 48, 10, 193⟩
def dat : Dat where
  fds := [f1, f2, f3, f4, f5, f63, f6, f13, f14, f15, f16, f17, f18, f19, f20, f21, f22, f23, f24, f25, f26, f27, f28, f29, f30, f31, f32, f33, f34, f50, f35, f36, f182, f183, f184, f185, f186, f188, f192, f189, f7, f8, f193, f199]
  cls := [("Slate", 0), ("Draft", 3)]
  exs := [("SlateError", 10), ("NoThing", 11), ("BadDeed", 12), ("BadLetter", 13), ("NoLetter", 14), ("NoHand", 15), ("NoText", 16), ("NoBack", 17)]
  cis := [("FARTHEST", 20), ("LARGEST", 8), ("MOST_COLOUR", 7), ("MOST_MEMBERS", 3), ("MOST_HANDS", 3), ("MOST_DRAFTED", 12)]
  css := []
  bls := ["bool", "len", "all", "isinstance", "list", "tuple", "max", "int", "str", "sorted", "set", "dict", "range"]
  flds := [(0, "top"), (0, "things"), (0, "locks"), (3, "own"), (3, "base"), (3, "now"), (3, "past"), (3, "later")]
  tds := [td0]
  lam := ["law"]
def prg : Pg := dat.pg tblU subU
abbrev lawF : FD := f199
theorem tok : TOk dat prg := tok_by (by decide +kernel)
theorem ok1 : FOk dat prg f1 := fok_by (by decide +kernel) fun _ _ _ _ _ _ us hl => match us, hl with | [_, _, _], _ => rfl
theorem ok2 : FOk dat prg f2 := fok_by (by decide +kernel) fun _ _ _ _ _ _ us hl => match us, hl with | [_], _ => rfl
theorem ok3 : FOk dat prg f3 := fok_by (by decide +kernel) fun _ _ _ _ _ _ us hl => match us, hl with | [_], _ => rfl
theorem ok4 : FOk dat prg f4 := fok_by (by decide +kernel) fun _ _ _ _ _ _ us hl => match us, hl with | [_], _ => rfl
theorem ok5 : FOk dat prg f5 := fok_by (by decide +kernel) fun _ _ _ _ _ _ us hl => match us, hl with | [_], _ => rfl
theorem ok63 : FOk dat prg f63 := fok_by (by decide +kernel) fun _ _ _ _ _ _ us hl => match us, hl with | [_], _ => rfl
theorem ok6 : FOk dat prg f6 := fok_by (by decide +kernel) fun _ _ _ _ _ _ us hl => match us, hl with | [_], _ => rfl
theorem ok13 : FOk dat prg f13 := fok_by (by decide +kernel) fun _ _ _ _ _ _ us hl => match us, hl with | [_, _, _, _], _ => rfl
theorem ok14 : FOk dat prg f14 := fok_by (by decide +kernel) fun _ _ _ _ _ _ us hl => match us, hl with | [_, _], _ => rfl
theorem ok15 : FOk dat prg f15 := fok_by (by decide +kernel) fun _ _ _ _ _ _ us hl => match us, hl with | [_, _], _ => rfl
theorem ok16 : FOk dat prg f16 := fok_by (by decide +kernel) fun _ _ _ _ _ _ us hl => match us, hl with | [_, _], _ => rfl
theorem ok17 : FOk dat prg f17 := fok_by (by decide +kernel) fun _ _ _ _ _ _ us hl => match us, hl with | [_, _], _ => rfl
theorem ok18 : FOk dat prg f18 := fok_by (by decide +kernel) fun _ _ _ _ _ _ us hl => match us, hl with | [_, _], _ => rfl
theorem ok19 : FOk dat prg f19 := fok_by (by decide +kernel) fun _ _ _ _ _ _ us hl => match us, hl with | [_, _], _ => rfl
theorem ok20 : FOk dat prg f20 := fok_by (by decide +kernel) fun _ _ _ _ _ _ us hl => match us, hl with | [_, _], _ => rfl
theorem ok21 : FOk dat prg f21 := fok_by (by decide +kernel) fun _ _ _ _ _ _ us hl => match us, hl with | [_], _ => rfl
theorem ok22 : FOk dat prg f22 := fok_by (by decide +kernel) fun _ _ _ _ _ _ us hl => match us, hl with | [_], _ => rfl
theorem ok23 : FOk dat prg f23 := fok_by (by decide +kernel) fun _ _ _ _ _ _ us hl => match us, hl with | [], _ => rfl
theorem ok24 : FOk dat prg f24 := fok_by (by decide +kernel) fun _ _ _ _ _ _ us hl => match us, hl with | [_, _, _], _ => rfl
theorem ok25 : FOk dat prg f25 := fok_by (by decide +kernel) fun _ _ _ _ _ _ us hl => match us, hl with | [_, _], _ => rfl
theorem ok26 : FOk dat prg f26 := fok_by (by decide +kernel) fun _ _ _ _ _ _ us hl => match us, hl with | [_, _, _], _ => rfl
theorem ok27 : FOk dat prg f27 := fok_by (by decide +kernel) fun _ _ _ _ _ _ us hl => match us, hl with | [_, _, _], _ => rfl
theorem ok28 : FOk dat prg f28 := fok_by (by decide +kernel) fun _ _ _ _ _ _ us hl => match us, hl with | [_, _], _ => rfl
theorem ok29 : FOk dat prg f29 := fok_by (by decide +kernel) fun _ _ _ _ _ _ us hl => match us, hl with | [_, _, _], _ => rfl
theorem ok30 : FOk dat prg f30 := fok_by (by decide +kernel) fun _ _ _ _ _ _ us hl => match us, hl with | [_, _], _ => rfl
theorem ok31 : FOk dat prg f31 := fok_by (by decide +kernel) fun _ _ _ _ _ _ us hl => match us, hl with | [_, _, _], _ => rfl
theorem ok32 : FOk dat prg f32 := fok_by (by decide +kernel) fun _ _ _ _ _ _ us hl => match us, hl with | [_, _, _], _ => rfl
theorem ok33 : FOk dat prg f33 := fok_by (by decide +kernel) fun _ _ _ _ _ _ us hl => match us, hl with | [_], _ => rfl
theorem ok34 : FOk dat prg f34 := fok_by (by decide +kernel) fun _ _ _ _ _ _ us hl => match us, hl with | [_], _ => rfl
theorem ok50 : FOk dat prg f50 := fok_by (by decide +kernel) fun _ _ _ _ _ _ us hl => match us, hl with | [_, _], _ => rfl
theorem ok35 : FOk dat prg f35 := fok_by (by decide +kernel) fun _ _ _ _ _ _ us hl => match us, hl with | [_], _ => rfl
theorem ok36 : FOk dat prg f36 := fok_by (by decide +kernel) fun _ _ _ _ _ _ us hl => match us, hl with | [_], _ => rfl
theorem ok182 : FOk dat prg f182 := fok_by (by decide +kernel) fun _ _ _ _ _ _ us hl => match us, hl with | [_, _, _], _ => rfl
theorem ok183 : FOk dat prg f183 := fok_by (by decide +kernel) fun _ _ _ _ _ _ us hl => match us, hl with | [_, _], _ => rfl
theorem ok184 : FOk dat prg f184 := fok_by (by decide +kernel) fun _ _ _ _ _ _ us hl => match us, hl with | [_], _ => rfl
theorem ok185 : FOk dat prg f185 := fok_by (by decide +kernel) fun _ _ _ _ _ _ us hl => match us, hl with | [_], _ => rfl
theorem ok186 : FOk dat prg f186 := fok_by (by decide +kernel) fun _ _ _ _ _ _ us hl => match us, hl with | [_], _ => rfl
theorem ok188 : FOk dat prg f188 := fok_by (by decide +kernel) fun _ _ _ _ _ _ us hl => match us, hl with | [_], _ => rfl
theorem ok192 : FOk dat prg f192 := fok_by (by decide +kernel) fun _ _ _ _ _ _ us hl => match us, hl with | [_], _ => rfl
theorem ok189 : FOk dat prg f189 := fok_by (by decide +kernel) fun _ _ _ _ _ _ us hl => match us, hl with | [_], _ => rfl
theorem ok7 : FOk dat prg f7 := fok_by (by decide +kernel) fun _ _ _ _ _ _ us hl => match us, hl with | [_, _], _ => rfl
theorem ok8 : FOk dat prg f8 := fok_by (by decide +kernel) fun _ _ _ _ _ _ us hl => match us, hl with | [_, _, _], _ => rfl
theorem ok193 : FOk dat prg f193 := fok_by (by decide +kernel) fun _ _ _ _ _ _ us hl => match us, hl with | [_], _ => rfl
theorem ok199 : FOk dat prg f199 := fok_by (by decide +kernel) fun _ _ _ _ _ _ us hl => match us, hl with | [_], _ => rfl
theorem oks : ∀ f ∈ dat.fds, FOk dat prg f := by
  intro f hf
  simp only [dat, List.mem_cons, List.not_mem_nil, or_false] at hf
  rcases hf with rfl | rfl | rfl | rfl | rfl | rfl | rfl | rfl | rfl | rfl | rfl | rfl | rfl | rfl | rfl | rfl | rfl | rfl | rfl | rfl | rfl | rfl | rfl | rfl | rfl | rfl | rfl | rfl | rfl | rfl | rfl | rfl | rfl | rfl | rfl | rfl | rfl | rfl | rfl | rfl | rfl | rfl | rfl | rfl
  · exact ok1
  · exact ok2
  · exact ok3
  · exact ok4
  · exact ok5
  · exact ok63
  · exact ok6
  · exact ok13
  · exact ok14
  · exact ok15
  · exact ok16
  · exact ok17
  · exact ok18
  · exact ok19
  · exact ok20
  · exact ok21
  · exact ok22
  · exact ok23
  · exact ok24
  · exact ok25
  · exact ok26
  · exact ok27
  · exact ok28
  · exact ok29
  · exact ok30
  · exact ok31
  · exact ok32
  · exact ok33
  · exact ok34
  · exact ok50
  · exact ok35
  · exact ok36
  · exact ok182
  · exact ok183
  · exact ok184
  · exact ok185
  · exact ok186
  · exact ok188
  · exact ok192
  · exact ok189
  · exact ok7
  · exact ok8
  · exact ok193
  · exact ok199
theorem otd0 : TDOk dat prg td0 := td_by (a := "_law_deed") (by decide +kernel) fun _ _ _ _ _ _ us hl => match us, hl with | [_], _ => rfl
theorem otds : ∀ p ∈ dat.tds, TDOk dat prg p := by
  intro p hp
  simp only [dat, List.mem_cons, List.not_mem_nil, or_false] at hp
  rcases hp with rfl
  · exact otd0
instance : Uni prg := ⟨rfl, rfl⟩
instance : Ini prg 0 13 := ⟨rfl⟩
instance : Mt prg 0 "has" 14 := ⟨by decide +kernel⟩
instance : Mt prg 0 "is_group" 15 := ⟨by decide +kernel⟩
instance : Mt prg 0 "members" 16 := ⟨by decide +kernel⟩
instance : Mt prg 0 "around" 17 := ⟨by decide +kernel⟩
instance : Mt prg 0 "path" 18 := ⟨by decide +kernel⟩
instance : Mt prg 0 "shapes" 19 := ⟨by decide +kernel⟩
instance : Mt prg 0 "all_in" 20 := ⟨by decide +kernel⟩
instance : Mt prg 0 "row" 21 := ⟨by decide +kernel⟩
instance : Mt prg 0 "told" 22 := ⟨by decide +kernel⟩
instance : Ini prg 3 182 := ⟨rfl⟩
instance : Mt prg 3 "put" 183 := ⟨by decide +kernel⟩
instance : Mt prg 3 "slate" 184 := ⟨by decide +kernel⟩
instance : Mt prg 3 "drafted" 185 := ⟨by decide +kernel⟩
instance : Mt prg 3 "ground" 186 := ⟨by decide +kernel⟩
instance : Mt prg 3 "back" 188 := ⟨by decide +kernel⟩
instance : Mt prg 3 "forth" 192 := ⟨by decide +kernel⟩
instance : Mt prg 3 "counts" 189 := ⟨by decide +kernel⟩
instance : Fld prg 0 "top" := ⟨by decide +kernel⟩
instance : Fld prg 0 "things" := ⟨by decide +kernel⟩
instance : Fld prg 0 "locks" := ⟨by decide +kernel⟩
instance : Fld prg 3 "own" := ⟨by decide +kernel⟩
instance : Fld prg 3 "base" := ⟨by decide +kernel⟩
instance : Fld prg 3 "now" := ⟨by decide +kernel⟩
instance : Fld prg 3 "past" := ⟨by decide +kernel⟩
instance : Fld prg 3 "later" := ⟨by decide +kernel⟩
end IL
end

section
set_option autoImplicit false
set_option linter.all false
set_option Elab.async false
set_option maxRecDepth 100000
set_option maxHeartbeats 4000000
/-! runs that hang on a few draws alone: asked one by one in the kernel -/
namespace IL
open PySem
def forBody : Sm → List Sm
  | .for_ _ _ _ b => b
  | _ => []
def slotN (i : Nat) : Fl → Option (Option Vl)
  | .nx ρ _ => ρ[i]?
  | _ => none
def isTrue : Fl → Bool
  | .rt (.bl true) _ => true
  | _ => false
def envOf : Fl → Ev
  | .nx ρ _ => ρ
  | _ => []
def heapOf : Fl → Hh
  | .nx _ h => h
  | _ => []
section
variable {P : Pg} {cf : Nat → List Vl → Hh → Rs Vl}
def thenB (P : Pg) (cf : Nat → List Vl → Hh → Rs Vl) (b : List Sm) : Fl → Fl
  | .nx ρ h => execB P cf b ρ h
  | f => f
/-- a turn of a loop over range, its variable at i -/
def turnK (P : Pg) (cf : Nat → List Vl → Hh → Rs Vl) (b : List Sm) (i : Nat) (k : Int) : Fl → Fl
  | .nx ρ h => execB P cf b (ρ.set i (some (.int k))) h
  | f => f
theorem slotN_nx {i : Nat} {f : Fl} {v : Option Vl} (h : slotN i f = some v) : ∃ ρ h, f = .nx ρ h ∧ ρ[i]? = some v := by
  cases f with
  | nx ρ h' => exact ⟨ρ, h', rfl, h⟩
  | _ => cases h
theorem isTrue_rt {f : Fl} (h : isTrue f = true) : ∃ h', f = .rt (.bl true) h' := by
  unfold isTrue at h
  split at h
  · exact ⟨_, rfl⟩
  · cases h
theorem execB_app : ∀ (a b : List Sm) (ρ : Ev) (h : Hh), execB P cf (a ++ b) ρ h = thenB P cf b (execB P cf a ρ h)
  | [], b, ρ, h => by simp only [List.nil_append, execB, thenB]
  | s :: a, b, ρ, h => by
    simp only [List.cons_append, execB]
    cases execS P cf s ρ h <;> simp only [execB_app a b, thenB]
theorem execB_cons (s : Sm) (b : List Sm) (ρ : Ev) (h : Hh) : execB P cf (s :: b) ρ h = thenB P cf b (execS P cf s ρ h) := by
  simp only [execB]
  cases execS P cf s ρ h <;> simp only [thenB]
/-- another expression that tells the same here -/
theorem set_swap {i : Nat} {e e' : Ex} {ρ : Ev} {h : Hh} (r : List Sm) (q : evalE P cf e ρ h = evalE P cf e' ρ h) : execB P cf (.set i e :: r) ρ h = execB P cf (.set i e' :: r) ρ h := by
  simp only [execB, execS, q]
/-- another rest that does the same behind -/
theorem set_rest {i : Nat} {e : Ex} {ρ : Ev} {h : Hh} {r r' : List Sm} (q : ∀ v h1, execB P cf r (ρ.set i (some v)) h1 = execB P cf r' (ρ.set i (some v)) h1) : execB P cf (.set i e :: r) ρ h = execB P cf (.set i e :: r') ρ h := by
  simp only [execB, execS]
  cases evalE P cf e ρ h <;> simp only [Rs.fl, q]
theorem for_eq {i : Nat} {n : Int} {ρ : Ev} {h : Hh} (b : List Sm) (h0 : -1000000 < n ∧ n < 1000000) : execS P cf (.for_ (.nm i) .rng [.cst (.int n)] b) ρ h = forL (fun v ρ h => execB P cf b (ρ.set i (some v)) h) (rngI 0 n) ρ h := by
  simp only [execS, evalL, evalE, Rs.bind, Rs.fl, walked, wRng, bindT, h0]
  rfl
theorem piece {a b : List Sm} {s : Sm} {ρ ρ1 : Ev} {h h1 : Hh} {f : Fl} (e1 : execB P cf a ρ h = .nx ρ1 h1) (e2 : execS P cf s ρ1 h1 = f) : execB P cf (a ++ (s :: b)) ρ h = thenB P cf b f := by
  rw [execB_app, e1]
  show execB P cf (s :: b) ρ1 h1 = _
  rw [execB_cons, e2]
theorem thenB_app (a b : List Sm) (f : Fl) : thenB P cf (a ++ b) f = thenB P cf b (thenB P cf a f) := by
  cases f <;> first | rfl | exact execB_app _ _ _ _
theorem piece2 {a b : List Sm} {s : Sm} {ρ1 : Ev} {h1 : Hh} {f g : Fl} (e1 : thenB P cf a g = .nx ρ1 h1) (e2 : execS P cf s ρ1 h1 = f) : thenB P cf (a ++ (s :: b)) g = thenB P cf b f := by
  rw [thenB_app, e1]
  show execB P cf (s :: b) ρ1 h1 = _
  rw [execB_cons, e2]
/-- one turn more -/
theorem forL_nx {turn : Vl → Ev → Hh → Fl} {v : Vl} {vs : List Vl} {ρ ρ' : Ev} {h h' : Hh} (e : turn v ρ h = .nx ρ' h') : forL turn (v :: vs) ρ h = forL turn vs ρ' h' := by
  simp only [forL, e]
end
end IL
end

section
set_option autoImplicit false
set_option linter.all false
set_option Elab.async false
set_option maxRecDepth 100000
set_option maxHeartbeats 4000000
/-! law k89: some ways to draw -/
namespace IL
open PySem
abbrev dep : Nat := 40
abbrev cfk : Nat → List Vl → Hh → Rs Vl := callC prg (run prg dep)
abbrev s199 (i : Nat) : Sm := b199.getD i .bad
abbrev t1 : List Sm := forBody (s199 6)
abbrev t2 : List Sm := forBody (s199 13)
abbrev own6 : Ex := .lst false [.cst (.int 3), .neg (.cst (.int 1)), .cst .non, .cst (.bl true), .cst (.str "0"), .tup [.cst (.int 0)]]
abbrev pA (e : Ex) : Sm := .set 6 (.idx own6 (.bin .mod (.bin .add e (.var 5)) (.cst (.int 6))))
abbrev pB (e : Ex) : Sm := .set 7 (.idx (.var 3) (.bin .mod (.bin .add e (.bin .mul (.cst (.int 2)) (.var 5))) (.cst (.int 7))))
abbrev pC (e : Ex) : Sm := .set 11 (.idx (.var 4) (.bin .mod (.bin .add e (.bin .mul (.cst (.int 2)) (.var 5))) (.cst (.int 9))))
abbrev dr (k m : Int) : Ex := .call 8 [.var 0, .cst (.int k), .cst (.int m)]
abbrev rr1 : List Sm := t1.drop 2
abbrev rr2 : List Sm := t2.drop 1
abbrev turn1 (a b k : Int) : Fl → Fl := turnK prg cfk (pA (.cst (.int a)) :: pB (.cst (.int b)) :: rr1) 5 k
abbrev turn2 (c k : Int) : Fl → Fl := turnK prg cfk (pC (.cst (.int c)) :: rr2) 5 k
abbrev st0 (v : Vl) : Fl := execB prg cfk (b199.take 6) (startE F199 [v]) []
abbrev stA (a b : Int) (v : Vl) : Fl := turn1 a b 2 (turn1 a b 1 (turn1 a b 0 (st0 v)))
/-- what is left of the first loop -/
abbrev mk1 (x y : Option Vl) (v : Vl) : Fl := .nx (((envOf (stA 0 0 v)).set 6 x).set 7 y) (heapOf (stA 0 0 v))
structure Fin1 (a b : Int) : Prop where
  a1 : ∀ v, slotN 0 (turn1 a b 0 (st0 v)) = some (some v)
  a2 : ∀ v, slotN 0 (turn1 a b 1 (turn1 a b 0 (st0 v))) = some (some v)
  a3 : ∀ v, stA a b v = mk1 ((slotN 6 (stA a b v)).getD none) ((slotN 7 (stA a b v)).getD none) v
theorem first0 (v : Vl) : slotN 0 (st0 v) = some (some v) := by kernel_rfl
theorem fin1_0_0 : Fin1 0 0 := ⟨fun v => by kernel_rfl, fun v => by kernel_rfl, fun v => by kernel_rfl⟩
theorem fin1_0_1 : Fin1 0 1 := ⟨fun v => by kernel_rfl, fun v => by kernel_rfl, fun v => by kernel_rfl⟩
theorem fin1_0_2 : Fin1 0 2 := ⟨fun v => by kernel_rfl, fun v => by kernel_rfl, fun v => by kernel_rfl⟩
theorem fin1_0_3 : Fin1 0 3 := ⟨fun v => by kernel_rfl, fun v => by kernel_rfl, fun v => by kernel_rfl⟩
theorem fin1_0_4 : Fin1 0 4 := ⟨fun v => by kernel_rfl, fun v => by kernel_rfl, fun v => by kernel_rfl⟩
theorem fin1_0_5 : Fin1 0 5 := ⟨fun v => by kernel_rfl, fun v => by kernel_rfl, fun v => by kernel_rfl⟩
theorem fin1_0_6 : Fin1 0 6 := ⟨fun v => by kernel_rfl, fun v => by kernel_rfl, fun v => by kernel_rfl⟩
theorem fin1_1_0 : Fin1 1 0 := ⟨fun v => by kernel_rfl, fun v => by kernel_rfl, fun v => by kernel_rfl⟩
theorem fin1_1_1 : Fin1 1 1 := ⟨fun v => by kernel_rfl, fun v => by kernel_rfl, fun v => by kernel_rfl⟩
theorem fin1_1_2 : Fin1 1 2 := ⟨fun v => by kernel_rfl, fun v => by kernel_rfl, fun v => by kernel_rfl⟩
theorem fin1_1_3 : Fin1 1 3 := ⟨fun v => by kernel_rfl, fun v => by kernel_rfl, fun v => by kernel_rfl⟩
theorem fin1_1_4 : Fin1 1 4 := ⟨fun v => by kernel_rfl, fun v => by kernel_rfl, fun v => by kernel_rfl⟩
theorem fin1_1_5 : Fin1 1 5 := ⟨fun v => by kernel_rfl, fun v => by kernel_rfl, fun v => by kernel_rfl⟩
theorem fin1_1_6 : Fin1 1 6 := ⟨fun v => by kernel_rfl, fun v => by kernel_rfl, fun v => by kernel_rfl⟩
theorem fin1_2_0 : Fin1 2 0 := ⟨fun v => by kernel_rfl, fun v => by kernel_rfl, fun v => by kernel_rfl⟩
theorem fin1_2_1 : Fin1 2 1 := ⟨fun v => by kernel_rfl, fun v => by kernel_rfl, fun v => by kernel_rfl⟩
theorem fin1_2_2 : Fin1 2 2 := ⟨fun v => by kernel_rfl, fun v => by kernel_rfl, fun v => by kernel_rfl⟩
theorem fin1_2_3 : Fin1 2 3 := ⟨fun v => by kernel_rfl, fun v => by kernel_rfl, fun v => by kernel_rfl⟩
theorem fin1_2_4 : Fin1 2 4 := ⟨fun v => by kernel_rfl, fun v => by kernel_rfl, fun v => by kernel_rfl⟩
theorem fin1_2_5 : Fin1 2 5 := ⟨fun v => by kernel_rfl, fun v => by kernel_rfl, fun v => by kernel_rfl⟩
theorem fin1_2_6 : Fin1 2 6 := ⟨fun v => by kernel_rfl, fun v => by kernel_rfl, fun v => by kernel_rfl⟩
theorem fin1_3_0 : Fin1 3 0 := ⟨fun v => by kernel_rfl, fun v => by kernel_rfl, fun v => by kernel_rfl⟩
theorem fin1_3_1 : Fin1 3 1 := ⟨fun v => by kernel_rfl, fun v => by kernel_rfl, fun v => by kernel_rfl⟩
theorem fin1_3_2 : Fin1 3 2 := ⟨fun v => by kernel_rfl, fun v => by kernel_rfl, fun v => by kernel_rfl⟩
theorem fin1_3_3 : Fin1 3 3 := ⟨fun v => by kernel_rfl, fun v => by kernel_rfl, fun v => by kernel_rfl⟩
theorem fin1_3_4 : Fin1 3 4 := ⟨fun v => by kernel_rfl, fun v => by kernel_rfl, fun v => by kernel_rfl⟩
theorem fin1_3_5 : Fin1 3 5 := ⟨fun v => by kernel_rfl, fun v => by kernel_rfl, fun v => by kernel_rfl⟩
theorem fin1_3_6 : Fin1 3 6 := ⟨fun v => by kernel_rfl, fun v => by kernel_rfl, fun v => by kernel_rfl⟩
theorem fin1_4_0 : Fin1 4 0 := ⟨fun v => by kernel_rfl, fun v => by kernel_rfl, fun v => by kernel_rfl⟩
theorem fin1_4_1 : Fin1 4 1 := ⟨fun v => by kernel_rfl, fun v => by kernel_rfl, fun v => by kernel_rfl⟩
theorem fin1_4_2 : Fin1 4 2 := ⟨fun v => by kernel_rfl, fun v => by kernel_rfl, fun v => by kernel_rfl⟩
theorem fin1_4_3 : Fin1 4 3 := ⟨fun v => by kernel_rfl, fun v => by kernel_rfl, fun v => by kernel_rfl⟩
theorem fin1_4_4 : Fin1 4 4 := ⟨fun v => by kernel_rfl, fun v => by kernel_rfl, fun v => by kernel_rfl⟩
theorem fin1_4_5 : Fin1 4 5 := ⟨fun v => by kernel_rfl, fun v => by kernel_rfl, fun v => by kernel_rfl⟩
theorem fin1_4_6 : Fin1 4 6 := ⟨fun v => by kernel_rfl, fun v => by kernel_rfl, fun v => by kernel_rfl⟩
theorem fin1_5_0 : Fin1 5 0 := ⟨fun v => by kernel_rfl, fun v => by kernel_rfl, fun v => by kernel_rfl⟩
theorem fin1_5_1 : Fin1 5 1 := ⟨fun v => by kernel_rfl, fun v => by kernel_rfl, fun v => by kernel_rfl⟩
theorem fin1_5_2 : Fin1 5 2 := ⟨fun v => by kernel_rfl, fun v => by kernel_rfl, fun v => by kernel_rfl⟩
theorem fin1_5_3 : Fin1 5 3 := ⟨fun v => by kernel_rfl, fun v => by kernel_rfl, fun v => by kernel_rfl⟩
theorem fin1_5_4 : Fin1 5 4 := ⟨fun v => by kernel_rfl, fun v => by kernel_rfl, fun v => by kernel_rfl⟩
theorem fin1_5_5 : Fin1 5 5 := ⟨fun v => by kernel_rfl, fun v => by kernel_rfl, fun v => by kernel_rfl⟩
theorem fin1_5_6 : Fin1 5 6 := ⟨fun v => by kernel_rfl, fun v => by kernel_rfl, fun v => by kernel_rfl⟩
theorem fin1 (a b : Int) (h0 : 0 ≤ a) (h1 : a < 6) (h2 : 0 ≤ b) (h3 : b < 7) : Fin1 a b := by
  have ea : a = 0 ∨ a = 1 ∨ a = 2 ∨ a = 3 ∨ a = 4 ∨ a = 5 := by omega
  have eb : b = 0 ∨ b = 1 ∨ b = 2 ∨ b = 3 ∨ b = 4 ∨ b = 5 ∨ b = 6 := by omega
  rcases ea with rfl | rfl | rfl | rfl | rfl | rfl <;> rcases eb with rfl | rfl | rfl | rfl | rfl | rfl | rfl
  · exact fin1_0_0
  · exact fin1_0_1
  · exact fin1_0_2
  · exact fin1_0_3
  · exact fin1_0_4
  · exact fin1_0_5
  · exact fin1_0_6
  · exact fin1_1_0
  · exact fin1_1_1
  · exact fin1_1_2
  · exact fin1_1_3
  · exact fin1_1_4
  · exact fin1_1_5
  · exact fin1_1_6
  · exact fin1_2_0
  · exact fin1_2_1
  · exact fin1_2_2
  · exact fin1_2_3
  · exact fin1_2_4
  · exact fin1_2_5
  · exact fin1_2_6
  · exact fin1_3_0
  · exact fin1_3_1
  · exact fin1_3_2
  · exact fin1_3_3
  · exact fin1_3_4
  · exact fin1_3_5
  · exact fin1_3_6
  · exact fin1_4_0
  · exact fin1_4_1
  · exact fin1_4_2
  · exact fin1_4_3
  · exact fin1_4_4
  · exact fin1_4_5
  · exact fin1_4_6
  · exact fin1_5_0
  · exact fin1_5_1
  · exact fin1_5_2
  · exact fin1_5_3
  · exact fin1_5_4
  · exact fin1_5_5
  · exact fin1_5_6
abbrev stB (x y : Option Vl) (v : Vl) : Fl := thenB prg cfk ((b199.drop 7).take 6) (mk1 x y v)
abbrev stC (c : Int) (x y : Option Vl) (v : Vl) : Fl := turn2 c 3 (turn2 c 2 (turn2 c 1 (turn2 c 0 (stB x y v))))
abbrev mk2 (z x y : Option Vl) (v : Vl) : Fl := .nx ((envOf (stC 0 x y v)).set 11 z) (heapOf (stC 0 x y v))
theorem second0 (x y : Option Vl) (v : Vl) : slotN 0 (stB x y v) = some (some v) := by kernel_rfl
structure Fin2 (c : Int) : Prop where
  a1 : ∀ x y v, slotN 0 (turn2 c 0 (stB x y v)) = some (some v)
  a2 : ∀ x y v, slotN 0 (turn2 c 1 (turn2 c 0 (stB x y v))) = some (some v)
  a3 : ∀ x y v, slotN 0 (turn2 c 2 (turn2 c 1 (turn2 c 0 (stB x y v)))) = some (some v)
  a4 : ∀ x y v, stC c x y v = mk2 ((slotN 11 (stC c x y v)).getD none) x y v
theorem fin2_0 : Fin2 0 := ⟨fun x y v => by kernel_rfl, fun x y v => by kernel_rfl, fun x y v => by kernel_rfl, fun x y v => by kernel_rfl⟩
theorem fin2_1 : Fin2 1 := ⟨fun x y v => by kernel_rfl, fun x y v => by kernel_rfl, fun x y v => by kernel_rfl, fun x y v => by kernel_rfl⟩
theorem fin2_2 : Fin2 2 := ⟨fun x y v => by kernel_rfl, fun x y v => by kernel_rfl, fun x y v => by kernel_rfl, fun x y v => by kernel_rfl⟩
theorem fin2_3 : Fin2 3 := ⟨fun x y v => by kernel_rfl, fun x y v => by kernel_rfl, fun x y v => by kernel_rfl, fun x y v => by kernel_rfl⟩
theorem fin2_4 : Fin2 4 := ⟨fun x y v => by kernel_rfl, fun x y v => by kernel_rfl, fun x y v => by kernel_rfl, fun x y v => by kernel_rfl⟩
theorem fin2_5 : Fin2 5 := ⟨fun x y v => by kernel_rfl, fun x y v => by kernel_rfl, fun x y v => by kernel_rfl, fun x y v => by kernel_rfl⟩
theorem fin2_6 : Fin2 6 := ⟨fun x y v => by kernel_rfl, fun x y v => by kernel_rfl, fun x y v => by kernel_rfl, fun x y v => by kernel_rfl⟩
theorem fin2_7 : Fin2 7 := ⟨fun x y v => by kernel_rfl, fun x y v => by kernel_rfl, fun x y v => by kernel_rfl, fun x y v => by kernel_rfl⟩
theorem fin2_8 : Fin2 8 := ⟨fun x y v => by kernel_rfl, fun x y v => by kernel_rfl, fun x y v => by kernel_rfl, fun x y v => by kernel_rfl⟩
theorem fin2 (c : Int) (h0 : 0 ≤ c) (h1 : c < 9) : Fin2 c := by
  have e : c = 0 ∨ c = 1 ∨ c = 2 ∨ c = 3 ∨ c = 4 ∨ c = 5 ∨ c = 6 ∨ c = 7 ∨ c = 8 := by omega
  rcases e with rfl | rfl | rfl | rfl | rfl | rfl | rfl | rfl | rfl
  · exact fin2_0
  · exact fin2_1
  · exact fin2_2
  · exact fin2_3
  · exact fin2_4
  · exact fin2_5
  · exact fin2_6
  · exact fin2_7
  · exact fin2_8
theorem last (z x y : Option Vl) (v : Vl) : isTrue (thenB prg cfk (b199.drop 14) (mk2 z x y v)) = true := by kernel_rfl
theorem hp {ns : List Int} {k m : Int} (hk : 0 ≤ k) (hm : 0 < m) (h : Hh) : cfk 8 [scr ns, .int k, .int m] h = .ok (.int (pickI ns k m)) h := call_pick (P := prg) (d := 38) hk hm
theorem dr_eq {ns : List Int} {k m : Int} {ρ : Ev} (hk : 0 ≤ k) (hm : 0 < m) (h0 : ρ[0]? = some (some (scr ns))) (h : Hh) : evalE prg cfk (dr k m) ρ h = evalE prg cfk (.cst (.int (pickI ns k m))) ρ h := by
  simp only [evalE, evalL, h0, Rs.bind, hp hk hm]
theorem turn1_eq {ns : List Int} {k : Int} {ρ : Ev} {h : Hh} (h0 : ρ[0]? = some (some (scr ns))) : execB prg cfk t1 (ρ.set 5 (some (.int k))) h = turn1 (pickI ns 0 6) (pickI ns 1 7) k (.nx ρ h) := by
  have e0 : ∀ w, (ρ.set 5 w)[0]? = some (some (scr ns)) := fun w => by rw [List.getElem?_set_ne (by decide)]; exact h0
  show execB prg cfk (pA (dr 0 6) :: pB (dr 1 7) :: rr1) _ h = execB prg cfk (pA _ :: pB _ :: rr1) _ h
  rw [set_swap (e' := .idx own6 (.bin .mod (.bin .add (.cst (.int (pickI ns 0 6))) (.var 5)) (.cst (.int 6)))) _ (by
    have q := fun h => dr_eq (ns := ns) (k := 0) (m := 6) (by decide) (by decide) (e0 (some (.int k))) h
    simp only [evalE] at q ⊢
    simp only [q])]
  refine set_rest fun v h1 => set_swap _ ?_
  have q := fun h => dr_eq (ns := ns) (k := 1) (m := 7) (ρ := (ρ.set 5 (some (.int k))).set 6 (some v)) (by decide) (by decide) (by rw [List.getElem?_set_ne (by decide)]; exact e0 _) h
  simp only [evalE] at q ⊢
  simp only [q]
theorem turn2_eq {ns : List Int} {k : Int} {ρ : Ev} {h : Hh} (h0 : ρ[0]? = some (some (scr ns))) : execB prg cfk t2 (ρ.set 5 (some (.int k))) h = turn2 (pickI ns 2 9) k (.nx ρ h) := by
  have e0 : ∀ w, (ρ.set 5 w)[0]? = some (some (scr ns)) := fun w => by rw [List.getElem?_set_ne (by decide)]; exact h0
  show execB prg cfk (pC (dr 2 9) :: rr2) _ h = execB prg cfk (pC _ :: rr2) _ h
  refine set_swap _ ?_
  have q := fun h => dr_eq (ns := ns) (k := 2) (m := 9) (by decide) (by decide) (e0 (some (.int k))) h
  simp only [evalE] at q ⊢
  simp only [q]
theorem loop1 {ns : List Int} {v : Vl} (hv : v = scr ns) {ρ : Ev} {h : Hh} (e : st0 v = .nx ρ h) : ∃ x y, execS prg cfk (s199 6) ρ h = mk1 x y v := by
  subst hv
  have A := fin1 (pickI ns 0 6) (pickI ns 1 7) (pick_lt (by decide)).1 (pick_lt (by decide)).2 (pick_lt (by decide)).1 (pick_lt (by decide)).2
  generalize hx : (slotN 6 (stA (pickI ns 0 6) (pickI ns 1 7) (scr ns))).getD none = x
  generalize hy : (slotN 7 (stA (pickI ns 0 6) (pickI ns 1 7) (scr ns))).getD none = y
  refine ⟨x, y, ?_⟩
  have a3 := A.a3 (scr ns)
  rw [hx, hy] at a3
  have f0 := first0 (scr ns)
  obtain ⟨ρ1, h1, e1, z1⟩ := slotN_nx (A.a1 (scr ns))
  obtain ⟨ρ2, h2, e2, z2⟩ := slotN_nx (A.a2 (scr ns))
  rw [e] at f0
  have z0 : ρ[0]? = some (some (scr ns)) := f0
  unfold stA at a3
  rw [e] at e1
  rw [e, e1] at e2
  rw [e, e1, e2] at a3
  show execS prg cfk (.for_ (.nm 5) .rng [.cst (.int 3)] t1) ρ h = _
  rw [for_eq t1 (by decide)]
  show forL _ [.int 0, .int 1, .int 2] ρ h = _
  rw [forL_nx ((turn1_eq z0).trans e1), forL_nx ((turn1_eq z1).trans e2), forL_nx ((turn1_eq z2).trans a3)]
  simp only [forL]
theorem loop2 {ns : List Int} {v : Vl} (hv : v = scr ns) {x y : Option Vl} {ρ : Ev} {h : Hh} (e : stB x y v = .nx ρ h) : ∃ z, execS prg cfk (s199 13) ρ h = mk2 z x y v := by
  subst hv
  have A := fin2 (pickI ns 2 9) (pick_lt (by decide)).1 (pick_lt (by decide)).2
  generalize hz : (slotN 11 (stC (pickI ns 2 9) x y (scr ns))).getD none = z
  refine ⟨z, ?_⟩
  have a4 := A.a4 x y (scr ns)
  rw [hz] at a4
  have f0 := second0 x y (scr ns)
  obtain ⟨ρ1, h1, e1, z1⟩ := slotN_nx (A.a1 x y (scr ns))
  obtain ⟨ρ2, h2, e2, z2⟩ := slotN_nx (A.a2 x y (scr ns))
  obtain ⟨ρ3, h3, e3, z3⟩ := slotN_nx (A.a3 x y (scr ns))
  rw [e] at f0
  have z0 : ρ[0]? = some (some (scr ns)) := f0
  unfold stC at a4
  rw [e] at e1
  rw [e, e1] at e2
  rw [e, e1, e2] at e3
  rw [e, e1, e2, e3] at a4
  show execS prg cfk (.for_ (.nm 5) .rng [.cst (.int 4)] t2) ρ h = _
  rw [for_eq t2 (by decide)]
  show forL _ [.int 0, .int 1, .int 2, .int 3] ρ h = _
  rw [forL_nx ((turn2_eq z0).trans e1), forL_nx ((turn2_eq z1).trans e2), forL_nx ((turn2_eq z2).trans e3), forL_nx ((turn2_eq z3).trans a4)]
  simp only [forL]
theorem run_k89 (ns : List Int) : ∃ h, run prg (dep + 1) 199 [scr ns] [] = .ok (.bl true) h := by
  rw [run_eq (F := F199) rfl rfl]
  obtain ⟨v, hv⟩ : ∃ v, v = scr ns := ⟨_, rfl⟩
  rw [← hv]
  obtain ⟨ρ0, h0, e0, _⟩ := slotN_nx (first0 v)
  obtain ⟨x, y, e1⟩ := loop1 hv e0
  obtain ⟨ρ2, h2, e2, _⟩ := slotN_nx (second0 x y v)
  obtain ⟨z, e3⟩ := loop2 hv e2
  obtain ⟨h5, e5⟩ := isTrue_rt (last z x y v)
  refine ⟨h5, ?_⟩
  have c1 : F199.body = b199.take 6 ++ (s199 6 :: ((b199.drop 7).take 6 ++ (s199 13 :: b199.drop 14))) := rfl
  have w1 := piece (b := (b199.drop 7).take 6 ++ (s199 13 :: b199.drop 14)) e0 e1
  have w2 := piece2 (b := b199.drop 14) e2 e3
  rw [c1, w1, w2, e5]
  rfl
end IL
end

section
set_option autoImplicit false
set_option linter.all false
namespace IL
open PySem
theorem mathP (ns : List Int) (_ : ns.length ≤ 63) : ∃ h, run prg (dep + 1) 199 [.scr (ns.map .int)] [] = .ok (.bl true) h := run_k89 ns
end IL
end

section
set_option autoImplicit false
set_option linter.all false
set_option Elab.async false
set_option maxRecDepth 100000
set_option maxHeartbeats 0
open PySem L2
namespace IL
theorem math (ns : List Int) (h : ns.length ≤ 63) : ∃ h, run prg (dep + 1) lawF.id [.scr (ns.map .int)] [] = .ok (.bl true) h := mathP ns h
def loose0 : List Str := ["_wall", "SlateError", "NoThing", "BadDeed", "BadLetter", "NoLetter", "NoHand", "NoText", "NoBack", "FARTHEST", "LARGEST", "MOST_COLOUR", "MOST_MEMBERS", "MOST_HANDS", "is_whole", "is_box", "is_stamp", "are_stamps", "is_deed", "look_deed", "is_letter", "Slate", "blank", "may_do", "in_its_row", "with_row", "moved", "erased", "grouped", "ungrouped"]
def loose1 : List Str := ["is_due", "behind", "in_order", "stamp_of", "joined", "counting", "slate_of", "MOST_DRAFTED", "Draft", "_law_cell", "_law_pick", "_law_class", "_law_told"]
abbrev R : PySem.W.OpenRow := PySem.W.OpenLaw.row PySem.Challenge.rw_slatehands_k89_drafts_refused
abbrev qv : Program := PySem.W.view R.prog [49]
abbrev hk : PySem.W.Hook := He.hookX 5 dat.fas dat.defs [] (dat.lams.map FD.at_) (dat.moreB subU)
def names : List Str := loose0 ++ loose1
def ob (s : PySem.W.SharedT) : He.AlX := He.obsX 5 dat.fas dat.defs [] (dat.lams.map FD.at_) (dat.moreB subU) (HandSHeadRun.getT s)
theorem ob_eq (s : PySem.W.SharedT) : ob s = hk.obs s.abs := He.obsX_eq (HandSHeadRun.getT_eq s)
theorem run0 (w : World) : HandSHeadRun.RunEq R qv hk ob 6000 names w := by
  intro os
  kernel_rfl
end IL
open PySem PySem.W PySem.Calls PyProof.Rows
theorem PySem.Challenge.cw_slatehands_k89_drafts_refused_holds : PySem.Challenge.rw_slatehands_k89_drafts_refused.Holds := by
  w_on; o_law
  refine HandSHeadRun.head_any (r := OpenLaw.row PySem.Challenge.rw_slatehands_k89_drafts_refused) (q := IL.qv) (H := IL.hk) (ob := IL.ob) (M := 6000) (loose := IL.names) (d := HandSHeadRun.topDef (OpenLaw.row PySem.Challenge.rw_slatehands_k89_drafts_refused).prog 49) (kwd := []) IL.ob_eq
    (by kernel_rfl) (fun s => by kernel_rfl) IL.run0 (by kernel_rfl) (by kernel_rfl) (by kernel_rfl) (by rfl) (by first | assumption | decide +kernel) (by decide +kernel) ⟨rfl, rfl, rfl, rfl, rfl, by decide +kernel⟩ ?hw ?hc
  case hw => w_witness2
  case hc => exact IL.walkIL (l := PySem.Challenge.rw_slatehands_k89_drafts_refused) (n := 63) (d := IL.dep) (lw := IL.lawF) (x := "_law_script") rfl IL.tok IL.oks IL.otds (List.mem_of_getElem? (i := 43) rfl) rfl rfl (by kernel_rfl) rfl (by decide) (by kernel_rfl) ⟨rfl, by decide, by decide⟩ fun ns hl => IL.math ns hl
end
