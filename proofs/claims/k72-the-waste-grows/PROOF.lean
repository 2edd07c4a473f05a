import PyProof.Rows.All
import Wide.All
import OpenK.AllK
import Wide.FinOn
import KE.BitLaws
import HandS.Base
import HandS.Call
import HandS.List
import HandS.Text
import HandS.SortRule
import KE.SortData
import HandS.Exc
import HandS.Defaults
import HandS.SortKw
import KE.SortKeyHeap
import HandS.Wide
import HandS.WideBits
import HandS.IsInst
import HandS.Flow
import HandS.TupLe
import HandS.ExcOwn
import HandS.Deep
import HandS.SortInts
import HandS.RaiseMore
import HandS.Flt
import HandS.Dict
import HandS.More
import HandS.Comp
import HandS.ClsMeth
import HandS.CallSlots
import HandS.ExcIs
import HandS.ExcField
import HandS.ExcInit
import KE.KExcIs
import KE.KExcInit
import KE.KExcLine
import HandS.TryMany
import HandS.Iter
import HandS.Finally
import HandS.SetKeys
import HandS.WordsExc
import HandS.EndBits
import HandS.Head0
import HandS.Head1
import HandS.Head2
import HandS.HeadEnd
import HandS.HeadHook4
import PySem.Challenge.RW_stow_k72_the_waste_grows
set_option Elab.async false
set_option linter.all false
set_option maxRecDepth 100000
set_option maxHeartbeats 8000000
/-! TrSem: a small language of trees. Values are trees (no heap); lists and dicts bear a flag (z: they may only be read here) and n (their items may hold further lists); a def is run on trees. -/
namespace Tr
open PySem

inductive T where
  | non
  | bl (b : Bool)
  | int (i : Int)
  | str (s : Str)
  | tup (ts : List T)
  | lst (z n : Bool) (ts : List T)
  | dic (z n : Bool) (ks : List L2.Key) (ts : List T)
  | obj (i : Nat)
  deriving Inhabited

/-- an own class of exceptions by its number, its field (none where it has none) -/
structure Exn where
  cls : Nat
  fld : Option T

structure Ob where
  cls : Nat
  fs : List (Nat × Option T)

/-- names of fields and of methods: the numbers are places -/
def fldNames : List String := ["room_cells", "room_turn", "shelf_cells", "shelf_room", "hand_keeper", "hand_places", "hand_next", "most", "top", "turn", "shift", "asked", "held", "due", "keeper", "made", "spots", "sheet"]
def mthNames : List String := ["__init__", "cells", "pieces", "lay", "clear", "room_piece", "many", "room_cell", "put", "get", "ask", "give", "grow", "room_moved", "chosen", "rover", "handles", "place", "gather", "make_room", "may_ask", "go_on", "deed", "placed", "gone", "live", "step", "offset", "say", "read_sheet", "mend_sheet", "spoil", "gather_sheet", "foe_answer"]
def fldN (n : Nat) : Str := Str.ofString (fldNames.getD n "")
def mthN (m : Nat) : Str := Str.ofString (mthNames.getD m "")
/-- numbers of a call by a method's name, of a class that is called, of a look at a thing's class -/
def vmB : Nat := 10000
def nwB : Nat := 20000
def icB : Nat := 30000
def pbB : Nat := 40000
/-- a field is looked up, is put -/
def fgetL : List (Nat × Option T) → Nat → Option T
  | [], _ => none
  | (m, t) :: r, n => if m = n then t else fgetL r n
def fputL : List (Nat × Option T) → Nat → Option T → List (Nat × Option T)
  | [], n, t => [(n, t)]
  | (m, u) :: r, n, t => if m = n then (m, t) :: r else (m, u) :: fputL r n t
def fgetO (sto : List Ob) (i n : Nat) : Option T := match sto[i]? with
  | some o => fgetL o.fs n
  | none => none
def fputO (sto : List Ob) (i n : Nat) (t : Option T) : List Ob := match sto[i]? with
  | some o => sto.set i ⟨o.cls, fputL o.fs n t⟩
  | none => sto
/-- such a field may be put -/
def fokO (sto : List Ob) (i n : Nat) : Bool := match sto[i]? with
  | some o => decide (n < 18) && decide (o.fs.length < 900)
  | none => false
def fldT (sto : List Ob) (n : Nat) : T → Option T
  | .obj i => fgetO sto i n
  | _ => none

inductive Rs (α : Type) where
  | ok (a : α)
  | ex (e : Exn)
  | no
@[inline] def Rs.bind {α β : Type} : Rs α → (α → Rs β) → Rs β
  | .ok a, f => f a
  | .ex e, _ => .ex e
  | .no, _ => .no
@[simp] theorem Rs.bind_ok {α β : Type} (a : α) (f : α → Rs β) : (Rs.ok a).bind f = f a := Eq.trans rfl rfl
@[simp] theorem Rs.bind_ex {α β : Type} (e : Exn) (f : α → Rs β) : (Rs.ex e : Rs α).bind f = .ex e := Eq.trans rfl rfl
@[simp] theorem Rs.bind_no {α β : Type} (f : α → Rs β) : (Rs.no : Rs α).bind f = .no := Eq.trans rfl rfl

mutual
def flat : T → Bool
  | .tup ts => flatL ts
  | .lst _ _ _ => false
  | .dic _ _ _ _ => false
  | _ => true
def flatL : List T → Bool
  | [] => true
  | t :: ts => flat t && flatL ts
end
mutual
def clean : T → Bool
  | .tup ts => cleanL ts
  | .lst z _ _ => !z
  | .dic z _ _ _ => !z
  | _ => true
def cleanL : List T → Bool
  | [] => true
  | t :: ts => clean t && cleanL ts
end
mutual
/-- to be read only -/
def fz : T → T
  | .tup ts => .tup (fzL ts)
  | .lst _ n ts => .lst true n ts
  | .dic _ n ks ts => .dic true n ks ts
  | t => t
def fzL : List T → List T
  | [] => []
  | t :: ts => fz t :: fzL ts
end
def view (t : T) : T := if flat t then t else fz t

/-! ### operators -/
inductive BOp where | add | sub | mul | fdiv | mod | pow | shl | shr | band | bor | bxor
  deriving DecidableEq
inductive COp where | eq | ne | lt | le | gt | ge | is_ | isn | in_ | nin
  deriving DecidableEq
inductive BT where | int | bool | str | list | tuple | dict
  deriving DecidableEq
inductive BF where | len | int | list | max2 | min2 | abs | tuple | sum | str | max1 | min1 | min3 | sorted
  deriving DecidableEq

/-- methods of plain values -/
inductive BM where | bitl | index | upper | join | split
  deriving DecidableEq

def sizeT : Nat := 16777216
/-- products: one side small, or both below a million bits together -/
def mulOk (i j : Int) : Bool := decide (i.natAbs < 18446744073709551616) || decide (j.natAbs < 18446744073709551616) || decide (i.natAbs.log2 + j.natAbs.log2 < 134217720)
def divOk (j : Int) : Bool := decide (0 < j) && decide (j.natAbs.log2 < 9000)
def powOk (i j : Int) : Bool := decide (0 ≤ j) && decide (j ≤ 1000000) && decide (i.natAbs < 18446744073709551616)

/-- shifts to the left: numbers of at most some thousands of bits -/
def shlOk (i j : Int) : Bool := decide (0 ≤ j) && decide (j ≤ 1000000) && decide (i.natAbs.log2 < 4096)

def binT : BOp → T → T → Rs T
  | .add, .int i, .int j => .ok (.int (i + j))
  | .add, .int i, .bl b => .ok (.int (i + (if b then 1 else 0)))
  | .add, .str a, .str b => if a.length + b.length ≤ sizeT then .ok (.str (a ++ b)) else .no
  | .add, .lst _ false xs, .lst _ false ys => if xs.length + ys.length ≤ sizeT then .ok (.lst false false (xs ++ ys)) else .no
  | .sub, .int i, .int j => .ok (.int (i - j))
  | .mul, .int i, .int j => if mulOk i j then .ok (.int (i * j)) else .no
  | .mul, .lst _ false xs, .int k => if decide (-(2 ^ 63) ≤ k) && decide (k < 2 ^ 63) && decide (xs.length * k.toNat ≤ sizeT) then .ok (.lst false false (List.replicate k.toNat xs).flatten) else .no
  | .fdiv, .int i, .int j => if divOk j then .ok (.int (i / j)) else .no
  | .mod, .int i, .int j => if 0 < j then .ok (.int (i % j)) else .no
  | .pow, .int i, .int j => if powOk i j then .ok (.int (i ^ j.toNat)) else .no
  | .shl, .int i, .int j => if shlOk i j then .ok (.int (i * 2 ^ j.toNat)) else .no
  | .shr, .int i, .int j => if 0 ≤ j then .ok (.int (i / 2 ^ j.toNat)) else .no
  | .band, .int i, .int j => .ok (.int (Builtin.bitAnd i j))
  | .bor, .int i, .int j => .ok (.int (Builtin.bitOr i j))
  | .bxor, .int i, .int j => .ok (.int (Builtin.bitXor i j))
  | _, _, _ => .no

mutual
/-- plain data -/
def dat : T → Option PyData
  | .non => some .none
  | .bl b => some (.bool b)
  | .int i => some (.int i)
  | .str s => some (.str s)
  | .tup ts => (datL ts).map .tuple
  | .lst _ _ ts => (datL ts).map .list
  | _ => none
def datL : List T → Option (List PyData)
  | [] => some []
  | t :: ts => match dat t, datL ts with
    | some d, some ds => some (d :: ds)
    | _, _ => none
end
def eqT (a b : T) : Option Bool := match dat a, dat b with
  | some d, some e => if SeqAt.shaped d && SeqAt.shaped e then some (PyData.eqv d e) else none
  | _, _ => none
/-- == of two plain trees, the common cases first -/
def eqQ : T → T → Option Bool
  | .int i, .int j => some (decide (i = j))
  | .str i, .str j => some (decide (i = j))
  | .bl i, .bl j => some (decide (i = j))
  | .non, .non => some true
  | .non, .int _ => some false
  | .int _, .non => some false
  | .non, .str _ => some false
  | .str _, .non => some false
  | .int _, .str _ => some false
  | .str _, .int _ => some false
  | .non, .bl _ => some false
  | .bl _, .non => some false
  | .str _, .bl _ => some false
  | .bl _, .str _ => some false
  | a, b => eqT a b
/-- a key of a dict -/
def keyT : T → Option L2.Key
  | .int i => some (.inl i)
  | .str s => some (.inr s)
  | _ => none
def unkey : L2.Key → T
  | .inl i => .int i
  | .inr s => .str s
/-- the place of a key -/
def kix : List L2.Key → L2.Key → Option Nat
  | [], _ => none
  | a :: ks, k => if a = k then some 0 else (kix ks k).map (· + 1)
def dgetT (ks : List L2.Key) (ts : List T) (k : L2.Key) : Option T := (kix ks k).bind fun j => ts[j]?
def dputK (ks : List L2.Key) (k : L2.Key) : List L2.Key := if (kix ks k).isSome then ks else ks ++ [k]
def dputT (ks : List L2.Key) (ts : List T) (k : L2.Key) (t : T) : List T := match kix ks k with
  | some j => ts.set j t
  | none => ts ++ [t]
def ddropK (ks : List L2.Key) (k : L2.Key) : List L2.Key := match kix ks k with
  | some j => ks.eraseIdx j
  | none => ks
def ddropT (ks : List L2.Key) (ts : List T) (k : L2.Key) : List T := match kix ks k with
  | some j => ts.eraseIdx j
  | none => ts
def intsK : List L2.Key → Option (List Int)
  | [] => some []
  | .inl i :: ks => (intsK ks).map (i :: ·)
  | _ => none
/-- plain things that are == -/
def scT : T → Bool
  | .non => true
  | .bl _ => true
  | .int _ => true
  | .str _ => true
  | _ => false
def eqS : T → T → Bool
  | .non, .non => true
  | .bl a, .bl b => a == b
  | .bl a, .int b => (if a then 1 else 0) == b
  | .int a, .bl b => a == (if b then 1 else 0)
  | .int a, .int b => a == b
  | .str a, .str b => a == b
  | _, _ => false
def eqD (x y : T) : Bool := match dat x, dat y with
  | some d, some e => PyData.eqv d e
  | _, _ => false
/-- x in a list -/
def inT (x : T) (ts : List T) : Option Bool := if scT x && ts.all scT then some (ts.any fun y => eqS y x) else match dat x, datL ts with
  | some d, some ds => if SeqAt.shaped d && SeqAt.shaped (.list ds) then some (ts.any fun y => eqD y x) else none
  | _, _ => none
/-- x in a tuple -/
def inTt (x : T) (ts : List T) : Option Bool := if scT x && ts.all scT then some (ts.any fun y => eqS y x) else none
def ofO {α : Type} : Option α → Rs α
  | some a => .ok a
  | none => .no
def isNon : T → Bool
  | .non => true
  | _ => false
def intsL : List T → Option (List Int)
  | [] => some []
  | .int i :: ts => (intsL ts).map (i :: ·)
  | _ => none
def cmpT : COp → T → T → Rs T
  | .eq, a, b => (ofO (eqQ a b)).bind fun c => .ok (.bl c)
  | .ne, a, b => (ofO (eqQ a b)).bind fun c => .ok (.bl (!c))
  | .lt, .int i, .int j => .ok (.bl (decide (i < j)))
  | .lt, .tup xs, .tup ys => (ofO ((intsL xs).bind fun ns => (intsL ys).map fun ms => HT.lexLt ns ms)).bind fun c => .ok (.bl c)
  | .le, .int i, .int j => .ok (.bl (decide (i ≤ j)))
  | .gt, .int i, .int j => .ok (.bl (decide (j < i)))
  | .ge, .int i, .int j => .ok (.bl (decide (j ≤ i)))
  | .is_, .bl a, .bl b => .ok (.bl (decide (a = b)))
  | .isn, .bl a, .bl b => .ok (.bl (!decide (a = b)))
  | .is_, a, .non => .ok (.bl (isNon a))
  | .isn, a, .non => .ok (.bl (!isNon a))
  | .in_, x, .lst _ _ ts => (ofO (inT x ts)).bind fun c => .ok (.bl c)
  | .nin, x, .lst _ _ ts => (ofO (inT x ts)).bind fun c => .ok (.bl (!c))
  | .in_, x, .dic _ _ ks _ => (ofO (keyT x)).bind fun k => .ok (.bl (kix ks k).isSome)
  | .nin, x, .dic _ _ ks _ => (ofO (keyT x)).bind fun k => .ok (.bl (!(kix ks k).isSome))
  | .in_, x, .tup ts => (ofO (inTt x ts)).bind fun c => .ok (.bl c)
  | .nin, x, .tup ts => (ofO (inTt x ts)).bind fun c => .ok (.bl (!c))
  | _, _, _ => .no
def truthT : T → Rs Bool
  | .bl b => .ok b
  | .non => .ok false
  | .int i => .ok (decide (i ≠ 0))
  | .str s => if s.length ≤ sizeT then .ok (decide (s.length ≠ 0)) else .no
  | .lst _ _ ts => .ok (!ts.isEmpty)
  | .tup ts => .ok (!ts.isEmpty)
  | .dic _ _ ks _ => .ok (!ks.isEmpty)
  | _ => .no
def isaB : T → BT → Option Bool
  | .non, _ => some false
  | .bl _, .bool => some true
  | .bl _, .int => some true
  | .bl _, _ => some false
  | .int _, .int => some true
  | .int _, _ => some false
  | .str _, .str => some true
  | .str _, _ => some false
  | .tup _, .tuple => some true
  | .tup _, _ => some false
  | .lst _ _ _, .list => some true
  | .lst _ _ _, _ => some false
  | .dic _ _ _ _, .dict => some true
  | .dic _ _ _ _, _ => some false
  | .obj _, _ => none
/-- an item's place, from the end where below nought -/
def atT (ts : List T) (i : Int) : Option T := L2.atI ts i
def ixT : T → T → Rs T
  | .lst z n ts, .int i => (ofO (atT ts i)).bind fun t => .ok (if n then view t else t)
  | .tup ts, .int i => (ofO (atT ts i)).bind fun t => .ok (view t)
  | .dic z n ks ts, y => (ofO ((keyT y).bind (dgetT ks ts))).bind fun t => .ok (if n then view t else t)
  | .str z, .int i => if z.length ≤ sizeT then (ofO (L2.atI z.cps.toList i)).bind fun c => .ok (.str ⟨#[c]⟩) else .no
  | _, _ => .no
def cutT (ts : List T) (lo hi : Option Int) : List T := (ts.drop (HT.sIx ts.length 0 lo)).take (HT.sIx ts.length ts.length hi - HT.sIx ts.length 0 lo)
def slcT : T → Option Int → Option Int → Rs T
  | .lst _ false ts, lo, hi => .ok (.lst false false (cutT ts lo hi))
  | .str z, lo, hi => if z.length ≤ sizeT then .ok (.str (L2.cutS z lo hi)) else .no
  | _, _, _ => .no
def maxL : Int → List Int → Int
  | m, [] => m
  | m, n :: ns => maxL (if m < n then n else m) ns
def minL : Int → List Int → Int
  | m, [] => m
  | m, n :: ns => minL (if n < m then n else m) ns
def pairsL : List T → Option (List (Int × Int))
  | [] => some []
  | .tup [.int i, .int j] :: ts => (pairsL ts).map ((i, j) :: ·)
  | _ => none
def insI (i : Int) : List Int → List Int
  | [] => [i]
  | j :: js => if i ≤ j then i :: j :: js else j :: insI i js
def srtI : List Int → List Int
  | [] => []
  | i :: is => insI i (srtI is)
def insP (i : Int × Int) : List (Int × Int) → List (Int × Int)
  | [] => [i]
  | j :: js => if i.1 < j.1 ∨ i.1 = j.1 ∧ i.2 ≤ j.2 then i :: j :: js else j :: insP i js
def srtP : List (Int × Int) → List (Int × Int)
  | [] => []
  | i :: is => insP i (srtP is)
def trisL : List T → Option (List (Int × Int × Bool))
  | [] => some []
  | .tup [.int i, .int j, .bl b] :: ts => (trisL ts).map ((i, j, b) :: ·)
  | _ => none
def ins3 (i : Int × Int × Bool) : List (Int × Int × Bool) → List (Int × Int × Bool)
  | [] => [i]
  | j :: js => if i.1 ≤ j.1 then i :: j :: js else j :: ins3 i js
def srt3 : List (Int × Int × Bool) → List (Int × Int × Bool)
  | [] => []
  | i :: is => ins3 i (srt3 is)
/-- told apart by their first numbers -/
def dif3 (ps : List (Int × Int × Bool)) : Bool := ps.all fun p => ps.all fun q => !decide (p.1 = q.1) || decide (p = q)
def sortT (ts : List T) : Option (List T) := match intsL ts with
  | some ns => some ((srtI ns).map T.int)
  | none => match pairsL ts with
    | some ps => some ((srtP ps).map fun p => T.tup [.int p.1, .int p.2])
    | none => match trisL ts with
      | some ps => if dif3 ps then some ((srt3 ps).map fun p => T.tup [.int p.1, .int p.2.1, .bl p.2.2]) else none
      | none => none
def insBy {α : Type} (k : α → Int) (x : α) : List α → List α
  | [] => [x]
  | y :: ys => if k x ≤ k y then x :: y :: ys else y :: insBy k x ys
def srtBy {α : Type} (k : α → Int) : List α → List α
  | [] => []
  | x :: xs => insBy k x (srtBy k xs)
def keyI (j : Nat) : T → Option Int
  | .tup us => match us[j]? with
    | some (.int i) => some i
    | _ => none
  | _ => none
def keysI (j : Nat) : List T → Option (List (Int × T))
  | [] => some []
  | t :: ts => match keyI j t with
    | some i => (keysI j ts).map ((i, t) :: ·)
    | none => none
/-- sorted by the item j, told apart by it -/
def sortK (j : Nat) (ts : List T) : Option (List T) := match keysI j ts with
  | some ps => if decide ((ps.map (·.1)).Nodup) then some ((srtBy (·.1) ps).map (·.2)) else none
  | none => none
def bltT : BF → List T → Rs T
  | .len, [.lst _ _ ts] => .ok (.int ts.length)
  | .len, [.tup ts] => .ok (.int ts.length)
  | .len, [.dic _ _ ks _] => .ok (.int ks.length)
  | .len, [.str s] => if s.length ≤ sizeT then .ok (.int s.length) else .no
  | .int, [.int i] => .ok (.int i)
  | .int, [.bl b] => .ok (.int (if b then 1 else 0))
  | .list, [.lst _ false ts] => .ok (.lst false false ts)
  | .list, [.tup ts] => if flatL ts then .ok (.lst false false ts) else .no
  | .max2, [.int i, .int j] => .ok (.int (if j > i then j else i))
  | .min2, [.int i, .int j] => .ok (.int (if j < i then j else i))
  | .abs, [.int i] => .ok (.int (if i < 0 then -i else i))
  | .tuple, [.lst _ false ts] => .ok (.tup ts)
  | .tuple, [.tup ts] => if flatL ts then .ok (.tup ts) else .no
  | .sum, [.lst _ _ ts] => (ofO (intsL ts)).bind fun ns => .ok (.int ns.sum)
  | .max1, [.lst _ _ ts] => match intsL ts with
    | some (n :: ns) => .ok (.int (maxL n ns))
    | _ => .no
  | .min1, [.lst _ _ ts] => match intsL ts with
    | some (n :: ns) => .ok (.int (minL n ns))
    | _ => .no
  | .min3, [.int i, .int j, .int k] => .ok (.int (minL i [j, k]))
  | .sorted, [.lst _ _ ts] => (ofO (sortT ts)).bind fun us => .ok (.lst false false us)
  | .sorted, [.dic _ _ ks _] => if ks.length < 64 then (ofO (intsK ks)).bind fun ns => .ok (.lst false false ((srtI ns).map T.int)) else .no
  | .str, [.int i] => if i.natAbs.log2 < 1920 then .ok (.str (toString i)) else .no
  | .str, [.str x] => .ok (.str x)
  | _, _ => .no

def srtkT (j : Nat) (x : T) : Rs T := match x with
  | .lst _ false ts => (ofO (sortK j ts)).bind fun us => .ok (.lst false false us)
  | _ => .no
/-- the place of the first that is == -/
def idxT (x : T) : List T → Nat → Option Nat
  | [], _ => none
  | t :: ts, k => if eqS t x then some k else idxT x ts (k + 1)
def strsL : List T → Option (List Str)
  | [] => some []
  | .str i :: ts => (strsL ts).map (i :: ·)
  | _ => none
def bmB : BM → T → Bool
  | .bitl, .int _ => true
  | .index, .lst _ _ _ => true
  | .upper, .str _ => true
  | .join, .str _ => true
  | .split, .str _ => true
  | _, _ => false
def bmT : BM → T → List T → Rs T
  | .bitl, .int i, [] => .ok (.int (Builtin.Int.intBits i : Nat))
  | .index, .lst _ _ ts, [x] => if scT x && ts.all scT then (ofO (idxT x ts 0)).bind fun k => .ok (.int (k : Nat)) else .no
  | .upper, .str x, [] => if x.length ≤ 5592405 then .ok (.str (Txt.upper x)) else .no
  | .join, .str x, [.lst _ _ ts] => match strsL ts with
    | some ys => if (ys.map (·.length)).sum + ys.length * x.length ≤ 16777216 then .ok (.str (Txt.join x ys)) else .no
    | none => .no
  | .split, .str x, [.str y] => if (y.length == 0) = false ∧ x.length + 2 ≤ sizeT then .ok (.lst false false ((Txt.split x y).map T.str)) else .no
  | _, _, _ => .no

/-! ### expressions -/
mutual
inductive E where
  | var (i : Nat)
  | int (i : Int)
  | str (s : Str)
  | bl (b : Bool)
  | non
  | bin (op : BOp) (a b : E)
  | neg (a : E)
  | not (a : E)
  | and (a b : E)
  | or (a b : E)
  | cmp (op : COp) (a b : E)
  | chain (o1 o2 : COp) (a b c : E)
  | ite (c a b : E)
  | call (f : Nat) (as : Es)
  | meth (a : E) (m : Nat) (as : Es)
  | blt (f : BF) (as : Es)
  | isi (a : E) (t : BT)
  /-- a method of a plain value -/
  | bm (a : E) (m : BM) (as : Es)
  /-- {}, {k: v}, d.get(k) -/
  | dnew
  | dis1 (k v : E)
  | dget (d k : E)
  | ix (a i : E)
  | fld (a : E) (n : Nat)
  | slc (a : E) (lo hi : OE)
  | tup (as : Es)
  | lst (as : Es)
  /-- [elt for v in it if tst] -/
  | lc (v : Nat) (it tst elt : E)
  | lcr (v : Nat) (lo hi tst elt : E)
  /-- sorted(a, key=f), f a def that tells the item j -/
  | srtk (f j : Nat) (a : E)
inductive Es where
  | nil
  | cons (e : E) (es : Es)
inductive OE where
  | none
  | some (e : E)
end
inductive U where
  | int (i : Int)
  | str (s : Str)
  | bl (b : Bool)
  | non
  | var (i : Nat)
  | fld (c : Nat)
  | isx (cs : List Nat)
  | not (a : U)
  | and (a b : U)
  | ne (a b : U)
  /-- flags, perhaps behind a name's -/
  | isl (o : Option Nat) (cs : List Nat)
  /-- isinstance(e, (A, B)) -/
  | isxs (cs : List Nat)
  | nin (b : Bool) (i : Nat)

/-- what an argument of a call that may change things is: a name whose list (or dict) is lent, or a value -/
inductive A where
  | m (j : Nat)
  | v (j : Nat)
  | e (e : E)
  /-- a name whose tree is handed over -/
  | o (j : Nat)
/-- what is reckoned at a statement: a value; a call that may change what is lent to it, and tests of such -/
inductive C where
  | p (e : E)
  | call (f : Nat) (as : List A)
  | meth (a : E) (m : Nat) (as : List A)
  | not (c : C)
  | and (c d : C)
  | or (c d : C)
  | cmp (op : COp) (c : C) (e : E)
  | tup2 (c d : C)
  /-- x.pop(k), x a dict -/
  | dpop (i : Nat) (k : E)
  | ix (c : C) (e : E)
mutual
inductive S where
  | pass
  | set (i : Nat) (c : C)
  /-- a name's value handed to another name -/
  | mov (i j : Nat)
  | setix (i : Nat) (k e : E)
  | setsl (i : Nat) (lo hi : OE) (e : E)
  | app (i : Nat) (e : E)
  /-- a.n = c, a.n[k] = e, a.n.append(e) -/
  | setf (a : E) (n : Nat) (c : C)
  | setfix (a : E) (n : Nat) (k e : E)
  | appf (a : E) (n : Nat) (e : E)
  | unp (is : List Nat) (c : C)
  | expr (c : C)
  | ret (c : C)
  | retn
  | ife (t : C) (a b : Ss)
  | whl (t : E) (b : Ss)
  | forv (i j : Nat) (b : Ss)
  | forr (i : Nat) (lo hi : E) (b : Ss)
  | fore (i : Nat) (e : E) (b : Ss)
  /-- for a, b in e -/
  | fort (is : List Nat) (e : E) (b : Ss)
  | fortv (is : List Nat) (j : Nat) (b : Ss)
  | fors (i : Nat) (lo hi st : E) (b : Ss)
  /-- x.clear() -/
  | clr (i : Nat)
  | clr1 (i : Nat)
  | clrd (i : Nat)
  | fork (i j : Nat) (b : Ss)
  /-- x[k] = e, x.setdefault(k, e), x a dict -/
  | dset (i : Nat) (k e : E)
  | dsd (i : Nat) (k e : E)
  | brk
  | cnt
  | raise (c : Nat) (a : OE)
  | tryx (b : Ss) (hs : Hs)
  /-- the run never comes here -/
  | nev
inductive Ss where
  | nil
  | cons (s : S) (ss : Ss)
/-- except clauses: the class, the name, what is stored in the suite, perhaps what is handed back -/
inductive Hs where
  | nil
  | cons (c : Nat) (nm : Option Nat) (sets : List (Nat × U)) (ret : Option U) (hs : Hs)
end

/-! ### how it goes -/
inductive FR where
  | ok (t : T) (ms : List T) (sto : List Ob)
  | ex (e : Exn) (ms : List T) (sto : List Ob)
  | no
abbrev CF := Nat → List T → List Ob → Bool → FR
abbrev En := List (Option T)
def getV (env : En) (i : Nat) : Rs T := match env[i]? with
  | some (some t) => .ok t
  | _ => .no
def items : T → Option (List T)
  | .lst z false ts => some ts
  | .tup ts => if flatL ts then some ts else none
  | _ => none
/-- the items of a comprehension -/
def lcR (f g : T → Rs T) : List T → Option (List T)
  | [] => some []
  | t :: ts => match (f t).bind truthT with
    | .ok true => match g t with
      | .ok y => if flat y then (lcR f g ts).map (y :: ·) else none
      | _ => none
    | .ok false => lcR f g ts
    | _ => none
def lcV (f g : T → Rs T) (ts : List T) : Rs T := if ts.length ≤ sizeT && flatL ts then match lcR f g ts with
    | some ys => .ok (.lst false false ys)
    | none => .no
  else .no
/-- a call in a locked run: what is left of its outcome -/
def unF (r : FR) : Rs T := match r with
  | .ok t [] _ => .ok t
  | .ex e [] _ => .ex e
  | _ => .no
/-- whether the object has the method -/
def prb (cf : CF) (m i : Nat) (sto : List Ob) : Bool := match cf (pbB + m) [.obj i] sto true with
  | .ok _ _ _ => true
  | _ => false
/-- the arguments of a method: where they raise, the method must be there all the same -/
def mArg {α : Type} (pb : Bool) (r : Rs α) : Rs α := match r with
  | .ex e => if pb then .ex e else .no
  | r => r
@[simp] theorem mArg_ok {α : Type} (pb : Bool) (a : α) : mArg pb (.ok a) = .ok a := Eq.trans rfl rfl
def intsT (lo : Int) (n : Nat) : List T := (List.range n).map fun (j : Nat) => T.int (lo + j)
section
variable (cf : CF)
mutual
/-- a value; nothing is changed -/
def pv : En → List Ob → E → Rs T
  | env, sto, .var i => (getV env i).bind fun t => .ok (view t)
  | env, sto, .int i => .ok (.int i)
  | env, sto, .str s => .ok (.str s)
  | env, sto, .bl b => .ok (.bl b)
  | env, sto, .non => .ok .non
  | env, sto, .bin op a b => (pv env sto a).bind fun x => (pv env sto b).bind fun y => binT op x y
  | env, sto, .neg a => (pv env sto a).bind fun x => match x with | .int i => .ok (.int (-i)) | _ => .no
  | env, sto, .not a => (pv env sto a).bind fun x => (truthT x).bind fun b => .ok (.bl (!b))
  | env, sto, .and a b => (pv env sto a).bind fun x => match x with | .bl c => if c then pv env sto b else .ok (.bl false) | _ => .no
  | env, sto, .or a b => (pv env sto a).bind fun x => match x with | .bl c => if c then .ok (.bl true) else pv env sto b | _ => .no
  | env, sto, .cmp op a b => (pv env sto a).bind fun x => (pv env sto b).bind fun y => cmpT op x y
  | env, sto, .chain o1 o2 a b c => (pv env sto a).bind fun x => (pv env sto b).bind fun y => (cmpT o1 x y).bind fun r => match r with
      | .bl true => (pv env sto c).bind fun z => cmpT o2 y z
      | .bl false => .ok (.bl false)
      | _ => .no
  | env, sto, .ite c a b => ((pv env sto c).bind truthT).bind fun t => if t then pv env sto a else pv env sto b
  | env, sto, .call f as => (pvs env sto as).bind fun ts => match cf f (ts.map view) sto true with
      | .ok t [] _ => .ok t
      | .ex e [] _ => .ex e
      | _ => .no
  | env, sto, .meth a m as => (pv env sto a).bind fun x => match x with
      | .obj i => (mArg (prb cf m i sto) (pvs env sto as)).bind fun ts => unF (cf (vmB + m) (.obj i :: ts.map view) sto true)
      | _ => .no
  | env, sto, .blt f as => (pvs env sto as).bind fun ts => bltT f ts
  | env, sto, .isi a t => (pv env sto a).bind fun x => (ofO (isaB x t)).bind fun b => .ok (.bl b)
  | env, sto, .bm a m as => (pv env sto a).bind fun x => if bmB m x then (pvs env sto as).bind fun ts => bmT m x ts else .no
  | env, sto, .srtk f j a => (pv env sto a).bind fun x => srtkT j x
  | env, sto, .dnew => .ok (.dic false false [] [])
  | env, sto, .dis1 k v => (pv env sto k).bind fun x => (pv env sto v).bind fun y => (ofO (keyT x)).bind fun k => if flat y then .ok (.dic false false [k] [y]) else .no
  | env, sto, .dget d k => (pv env sto d).bind fun x => match x with
    | .dic z n ks ts => (pv env sto k).bind fun y => (ofO (keyT y)).bind fun key => .ok (match dgetT ks ts key with
      | some t => if n then view t else t
      | none => .non)
    | _ => .no
  | env, sto, .ix a i => (pv env sto a).bind fun x => (pv env sto i).bind fun y => ixT x y
  | env, sto, .fld a n => (pv env sto a).bind fun x => (ofO (fldT sto n x)).bind fun t => .ok (view t)
  | env, sto, .slc a lo hi => (pv env sto a).bind fun x => (pvo env sto lo).bind fun l => (pvo env sto hi).bind fun h => slcT x l h
  | env, sto, .tup as => (pvs env sto as).bind fun ts => if ts.length ≤ 1000 then .ok (.tup ts) else .no
  | env, sto, .lst as => (pvs env sto as).bind fun ts => if ts.length ≤ 1000 && cleanL ts then .ok (.lst false (!flatL ts) ts) else .no
  | env, sto, .lc v it tst elt => (pv env sto it).bind fun t => match items t with
      | some ts => lcV (fun x => pv (env.set v (some x)) sto tst) (fun x => pv (env.set v (some x)) sto elt) ts
      | none => .no
  | env, sto, .lcr v lo hi tst elt => (pv env sto lo).bind fun x => (pv env sto hi).bind fun y => match x, y with
      | .int l, .int h => if -(2 ^ 62) ≤ l ∧ l < 2 ^ 62 ∧ -(2 ^ 62) ≤ h ∧ h < 2 ^ 62 then
          lcV (fun x => pv (env.set v (some x)) sto tst) (fun x => pv (env.set v (some x)) sto elt) (intsT l (h - l).toNat) else .no
      | _, _ => .no
def pvs : En → List Ob → Es → Rs (List T)
  | _, _, .nil => .ok []
  | env, sto, .cons e es => (pv env sto e).bind fun t => (pvs env sto es).bind fun ts => .ok (t :: ts)
def pvo : En → List Ob → OE → Rs (Option Int)
  | _, _, .none => .ok none
  | env, sto, .some e => (pv env sto e).bind fun t => match t with | .int i => .ok (some i) | _ => .no
end
variable (env : En) (sto : List Ob)
/-- a test -/
def tv : E → Rs Bool
  | .not a => (tv a).bind fun b => .ok (!b)
  | .and a b => (tv a).bind fun c => if c then tv b else .ok false
  | .or a b => (tv a).bind fun c => if c then .ok true else tv b
  | e => (pv cf env sto e).bind truthT
end
/-- what goes on behind a reckoning that may change things -/
inductive GR (α : Type) where
  | ok (a : α) (env : En) (sto : List Ob)
  | ex (e : Exn) (env : En) (sto : List Ob)
  | no
def GR.bind {α β : Type} : GR α → (α → En → List Ob → GR β) → GR β
  | .ok a env sto, f => f a env sto
  | .ex e env sto, _ => .ex e env sto
  | .no, _ => .no
@[simp] theorem GR.bind_ok {α β : Type} (a : α) (env sto) (f : α → En → List Ob → GR β) : (GR.ok a env sto).bind f = f a env sto := Eq.trans rfl rfl
@[simp] theorem GR.bind_ex {α β : Type} (e : Exn) (env sto) (f : α → En → List Ob → GR β) : (GR.ex e env sto : GR α).bind f = .ex e env sto := Eq.trans rfl rfl
@[simp] theorem GR.bind_no {α β : Type} (f : α → En → List Ob → GR β) : (GR.no : GR α).bind f = .no := Eq.trans rfl rfl
def Rs.g {α : Type} (r : Rs α) (env : En) (sto : List Ob) : GR α := match r with
  | .ok a => .ok a env sto
  | .ex e => .ex e env sto
  | .no => .no
section
variable (cf : CF)
mutual
/-- a value that is kept: a name's list is handed over -/
def kv : E → En → List Ob → GR T
  | .var i, env, sto => match getV env i with
    | .ok t => if flat t then .ok t env sto else if clean t then .ok t (env.set i none) sto else .no
    | _ => .no
  | .tup as, env, sto => (kvs as env sto).bind fun ts env sto => if ts.length ≤ 1000 then .ok (.tup ts) env sto else .no
  | .lst as, env, sto => (kvs as env sto).bind fun ts env sto => if ts.length ≤ 1000 then .ok (.lst false (!flatL ts) ts) env sto else .no
  | e, env, sto => ((pv cf env sto e).g env sto).bind fun t env sto => if clean t then .ok t env sto else .no
def kvs : Es → En → List Ob → GR (List T)
  | .nil, env, sto => .ok [] env sto
  | .cons e es, env, sto => (kv e env sto).bind fun t env sto => (kvs es env sto).bind fun ts env sto => .ok (t :: ts) env sto
end
end
def lentAt : List A → Nat → List Nat
  | [], _ => []
  | .m _ :: as, k => k :: lentAt as (k + 1)
  | _ :: as, k => lentAt as (k + 1)
def lentOf : List A → List Nat
  | [] => []
  | .m j :: as => j :: lentOf as
  | _ :: as => lentOf as
def takn : List A → List Nat
  | [] => []
  | .m j :: as => j :: takn as
  | .o j :: as => j :: takn as
  | .v _ :: as => takn as
  | .e _ :: as => takn as
def lend : List Nat → En → En
  | [], env => env
  | j :: js, env => lend js (env.set j none)
def giveBack : List Nat → List T → En → Option En
  | [], [], env => some env
  | j :: js, t :: ts, env => giveBack js ts (env.set j (some t))
  | _, _, _ => none
section
variable (cf : CF)
/-- arguments: env as it was, em without what is lent -/
def argv (env em : En) (sto : List Ob) : List A → Rs (List T)
  | [] => .ok []
  | .m j :: as => (getV env j).bind fun t => if clean t && !flat t then (argv env em sto as).bind fun ts => .ok (t :: ts) else .no
  | .o j :: as => (getV env j).bind fun t => if clean t then (argv env em sto as).bind fun ts => .ok (t :: ts) else .no
  | .v j :: as => (getV em j).bind fun t => (argv env em sto as).bind fun ts => .ok (view t :: ts)
  | .e e :: as => (pv cf em sto e).bind fun t => if clean t then (argv env em sto as).bind fun ts => .ok (view t :: ts) else .no
variable (lk : Bool)
def gv : C → En → List Ob → GR T
  | .p e, env, sto => kv cf e env sto
  | .call f as, env, sto =>
    if (takn as).Nodup then
      match argv cf env (lend (takn as) env) sto as with
      | .ok ts => match cf f ts sto lk with
        | .ok t ms sto' => match giveBack (lentOf as) ms (lend (takn as) env) with
          | some env' => .ok t env' (if lk then sto else sto')
          | none => .no
        | .ex e ms sto' => match giveBack (lentOf as) ms (lend (takn as) env) with
          | some env' => .ex e env' (if lk then sto else sto')
          | none => .no
        | .no => .no
      | .ex e => .ex e env sto
      | .no => .no
    else .no
  | .meth a m as, env, sto => match pv cf env sto a with
    | .ok (.obj i) => match mArg (prb cf m i sto) (argv cf env env sto as) with
      | .ok ts => match cf (vmB + m) (.obj i :: ts) sto lk with
        | .ok t [] sto' => .ok t env (if lk then sto else sto')
        | .ex e [] sto' => .ex e env (if lk then sto else sto')
        | _ => .no
      | .ex e => .ex e env sto
      | .no => .no
    | .ex e => .ex e env sto
    | _ => .no
  | .not c, env, sto => (gv c env sto).bind fun t env sto => ((truthT t).g env sto).bind fun b env sto => .ok (.bl (!b)) env sto
  | .and c d, env, sto => (gv c env sto).bind fun t env sto => match t with
    | .bl b => if b then gv d env sto else .ok (.bl false) env sto
    | _ => .no
  | .or c d, env, sto => (gv c env sto).bind fun t env sto => match t with
    | .bl b => if b then .ok (.bl true) env sto else gv d env sto
    | _ => .no
  | .cmp op c e, env, sto => (gv c env sto).bind fun x env sto => ((pv cf env sto e).g env sto).bind fun y env sto => (cmpT op x y).g env sto
  | .dpop i k, env, sto => match getV env i with
    | .ok (.dic false n ks ts) => ((pv cf env sto k).g env sto).bind fun y env sto => match (keyT y).bind fun k => (dgetT ks ts k).map fun t => (k, t) with
      | some (k, t) => .ok t (env.set i (some (.dic false n (ddropK ks k) (ddropT ks ts k)))) sto
      | none => .no
    | _ => .no
  | .tup2 c d, env, sto => (gv c env sto).bind fun x env sto => (gv d env sto).bind fun y env sto => .ok (.tup [x, y]) env sto
  | .ix c e, env, sto => (gv c env sto).bind fun x env sto => ((pv cf env sto e).g env sto).bind fun y env sto => ((ixT x y).g env sto).bind fun t env sto => if flat t then .ok t env sto else .no
def gt : C → En → List Ob → GR Bool
  | .p e, env, sto => (tv cf env sto e).g env sto
  | .not c, env, sto => (gt c env sto).bind fun b env sto => .ok (!b) env sto
  | .and c d, env, sto => (gt c env sto).bind fun b env sto => if b then gt d env sto else .ok false env sto
  | .or c d, env, sto => (gt c env sto).bind fun b env sto => if b then .ok true env sto else gt d env sto
  | c, env, sto => (gv cf lk c env sto).bind fun t env sto => (truthT t).g env sto
end

inductive SR where
  | nx (env : En) (sto : List Ob)
  | rt (t : T) (env : En) (sto : List Ob)
  | ex (e : Exn) (env : En) (sto : List Ob)
  | bk (env : En) (sto : List Ob)
  | ct (env : En) (sto : List Ob)
  | no
def SR.thn : SR → (En → List Ob → SR) → SR
  | .nx env sto, f => f env sto
  | r, _ => r
/-- nothing is to be raised -/
def SR.noex : SR → SR
  | .ex _ _ _ => .no
  | r => r
def GR.thn {α : Type} : GR α → (α → En → List Ob → SR) → SR
  | .ok a env sto, f => f a env sto
  | .ex e env sto, _ => .ex e env sto
  | .no, _ => .no
@[simp] theorem GR.thn_ok {α : Type} (a : α) (env sto) (f : α → En → List Ob → SR) : (GR.ok a env sto).thn f = f a env sto := Eq.trans rfl rfl
@[simp] theorem GR.thn_ex {α : Type} (e : Exn) (env sto) (f : α → En → List Ob → SR) : (GR.ex e env sto : GR α).thn f = .ex e env sto := Eq.trans rfl rfl
@[simp] theorem GR.thn_no {α : Type} (f : α → En → List Ob → SR) : (GR.no : GR α).thn f = .no := Eq.trans rfl rfl
@[simp] theorem SR.thn_nx (env sto) (f : En → List Ob → SR) : (SR.nx env sto).thn f = f env sto := Eq.trans rfl rfl
@[simp] theorem SR.thn_rt (t env sto) (f : En → List Ob → SR) : (SR.rt t env sto).thn f = .rt t env sto := Eq.trans rfl rfl
@[simp] theorem SR.thn_ex (e env sto) (f : En → List Ob → SR) : (SR.ex e env sto).thn f = .ex e env sto := Eq.trans rfl rfl
@[simp] theorem SR.thn_no (f : En → List Ob → SR) : (SR.no).thn f = .no := Eq.trans rfl rfl
@[simp] theorem SR.thn_bk (env sto) (f : En → List Ob → SR) : (SR.bk env sto).thn f = .bk env sto := Eq.trans rfl rfl
@[simp] theorem SR.thn_ct (env sto) (f : En → List Ob → SR) : (SR.ct env sto).thn f = .ct env sto := Eq.trans rfl rfl

/-! ### except suites -/
def islV (env : En) : Option Nat → Rs (List T)
  | none => .ok []
  | some i => (getV env i).bind fun t => match t with
    | .lst _ false ts => if flatL ts then .ok ts else .no
    | _ => .no
def uv (xs : Nat → Nat → Bool) (e : Exn) (env : En) : U → Rs T
  | .int i => .ok (.int i)
  | .str s => .ok (.str s)
  | .bl b => .ok (.bl b)
  | .non => .ok .non
  | .var i => (getV env i).bind fun t => if flat t then .ok t else .no
  | .fld c => if e.cls = c then ofO e.fld else .no
  | .isx cs => match cs with
    | [c] => .ok (.bl (xs e.cls c))
    | _ => .no
  | .not a => (uv xs e env a).bind fun x => match x with | .bl b => .ok (.bl (!b)) | _ => .no
  | .and a b => (uv xs e env a).bind fun x => match x with | .bl c => if c then uv xs e env b else .ok (.bl false) | _ => .no
  | .ne a b => (uv xs e env a).bind fun x => (uv xs e env b).bind fun y => match x, y with | .bl c, .bl d => .ok (.bl (!decide (c = d))) | _, _ => .no
  | .isl o cs => (islV env o).bind fun ts => if ts.length + cs.length ≤ 1000 then .ok (.lst false false (ts ++ cs.map fun c => T.bl (xs e.cls c))) else .no
  | .isxs cs => .ok (.bl (cs.any (xs e.cls)))
  | .nin b i => (getV env i).bind fun t => (cmpT .nin (.bl b) t).bind fun r => if flat r then .ok r else .no
/-- what a suite does -/
def suiteT (xs : Nat → Nat → Bool) (e : Exn) : List (Nat × U) → Option U → En → List Ob → SR
  | [], none, env, sto => .nx env sto
  | [], some u, env, sto => match uv xs e env u with
    | .ok t => .rt t env sto
    | _ => .no
  | (i, u) :: r, ret, env, sto => match uv xs e env u with
    | .ok t => suiteT xs e r ret (env.set i (some t)) sto
    | _ => .no
/-- the name of a clause is let go -/
def unNm (nm : Option Nat) (env : En) : En := match nm with
  | some i => env.set i none
  | none => env
def SR.un (nm : Option Nat) : SR → SR
  | .nx env sto => .nx (unNm nm env) sto
  | r => r

/-! ### names that a block touches -/
mutual
/-- names whose list a reckoning lends or hands over -/
def tchE : E → List Nat
  | .var i => [i]
  | .tup as => tchEs as
  | .lst as => tchEs as
  | _ => []
def tchEs : Es → List Nat
  | .nil => []
  | .cons e es => tchE e ++ tchEs es
end
def tchC : C → List Nat
  | .p e => tchE e
  | .call _ as => takn as
  | .meth _ _ _ => []
  | .not c => tchC c
  | .and c d => tchC c ++ tchC d
  | .or c d => tchC c ++ tchC d
  | .cmp _ c _ => tchC c
  | .tup2 c d => tchC c ++ tchC d
  | .dpop i _ => [i]
  | .ix c _ => tchC c
mutual
def tchS : S → List Nat
  | .pass => []
  | .set i c => i :: tchC c
  | .mov i j => [i, j]
  | .setix i _ e => i :: tchE e
  | .setsl i _ _ e => i :: tchE e
  | .app i e => i :: tchE e
  | .setf _ _ c => tchC c
  | .setfix _ _ _ e => tchE e
  | .appf _ _ e => tchE e
  | .unp is c => is ++ tchC c
  | .expr c => tchC c
  | .ret c => tchC c
  | .retn => []
  | .ife t a b => tchC t ++ tchSs a ++ tchSs b
  | .whl _ b => tchSs b
  | .forv i _ b => i :: tchSs b
  | .forr i _ _ b => i :: tchSs b
  | .fore i _ b => i :: tchSs b
  | .fort is _ b => is ++ tchSs b
  | .fortv is _ b => is ++ tchSs b
  | .fors i _ _ _ b => i :: tchSs b
  | .clr i => [i]
  | .clr1 i => [i]
  | .clrd i => [i]
  | .fork i _ b => i :: tchSs b
  | .dset i _ e => i :: tchE e
  | .dsd i _ _ => [i]
  | .brk => []
  | .cnt => []
  | .raise _ _ => []
  | .tryx b hs => tchSs b ++ tchH hs
  | .nev => []
def tchSs : Ss → List Nat
  | .nil => []
  | .cons s ss => tchS s ++ tchSs ss
def tchH : Hs → List Nat
  | .nil => []
  | .cons _ nm sets _ hs => (match nm with | some i => [i] | none => []) ++ sets.map (·.1) ++ tchH hs
end

mutual
/-- names that a block assigns -/
def asgS : S → List Nat
  | .set i _ => [i]
  | .mov i _ => [i]
  | .unp is _ => is
  | .ife _ a b => asgSs a ++ asgSs b
  | .whl _ b => asgSs b
  | .forv i _ b => i :: asgSs b
  | .fork i _ b => i :: asgSs b
  | .forr i _ _ b => i :: asgSs b
  | .fore i _ b => i :: asgSs b
  | .fort is _ b => is ++ asgSs b
  | .fortv is _ b => is ++ asgSs b
  | .fors i _ _ _ b => i :: asgSs b
  | .tryx b hs => asgSs b ++ asgH hs
  | _ => []
def asgSs : Ss → List Nat
  | .nil => []
  | .cons s ss => asgS s ++ asgSs ss
def asgH : Hs → List Nat
  | .nil => []
  | .cons _ nm sets _ hs => (match nm with | some i => [i] | none => []) ++ sets.map (·.1) ++ asgH hs
end

/-! ### statements -/
/-- one turn of a loop -/
def SR.turn (r : SR) (nxt : En → List Ob → SR) : SR := match r with
  | .nx env sto => nxt env sto
  | .ct env sto => nxt env sto
  | .bk env sto => .nx env sto
  | r => r
@[simp] theorem SR.turn_nx (env sto) (f : En → List Ob → SR) : (SR.nx env sto).turn f = f env sto := Eq.trans rfl rfl
@[simp] theorem SR.turn_ct (env sto) (f : En → List Ob → SR) : (SR.ct env sto).turn f = f env sto := Eq.trans rfl rfl
@[simp] theorem SR.turn_bk (env sto) (f : En → List Ob → SR) : (SR.bk env sto).turn f = .nx env sto := Eq.trans rfl rfl
@[simp] theorem SR.turn_rt (t env sto) (f : En → List Ob → SR) : (SR.rt t env sto).turn f = .rt t env sto := Eq.trans rfl rfl
@[simp] theorem SR.turn_ex (e env sto) (f : En → List Ob → SR) : (SR.ex e env sto).turn f = .ex e env sto := Eq.trans rfl rfl
@[simp] theorem SR.turn_no (f : En → List Ob → SR) : (SR.no).turn f = .no := Eq.trans rfl rfl
def loopW (go : En → List Ob → SR) (test : En → List Ob → Rs Bool) : Nat → En → List Ob → SR
  | 0, _, _ => .no
  | n + 1, env, sto => match test env sto with
    | .ok true => (go env sto).turn (loopW go test n)
    | .ok false => .nx env sto
    | .ex e => .ex e env sto
    | .no => .no
def loopL (go : En → List Ob → SR) (i : Nat) : List T → En → List Ob → SR
  | [], env, sto => .nx env sto
  | t :: ts, env, sto => (go (env.set i (some t)) sto).turn (loopL go i ts)
def loopR (go : En → List Ob → SR) (i : Nat) : Nat → Int → En → List Ob → SR
  | 0, _, env, sto => .nx env sto
  | n + 1, k, env, sto => (go (env.set i (some (.int k))) sto).turn (loopR go i n (k + 1))
def unpack : List Nat → List T → En → Option En
  | [], [], env => some env
  | i :: is, t :: ts, env => unpack is ts (env.set i (some t))
  | _, _, _ => none
/-- a tuple is taken apart -/
def untup (is : List Nat) (t : T) (env : En) : Option En := match t with
  | .tup us => unpack is us env
  | _ => none
def loopT (go : En → List Ob → SR) (is : List Nat) : List T → En → List Ob → SR
  | [], env, sto => .nx env sto
  | t :: ts, env, sto => match untup is t env with
    | some env' => (go env' sto).turn (loopT go is ts)
    | none => .no
/-- so many turns, each so much further -/
def loopP (go : En → List Ob → SR) (i : Nat) (st : Int) : Nat → Int → En → List Ob → SR
  | 0, _, env, sto => .nx env sto
  | n + 1, k, env, sto => (go (env.set i (some (.int k))) sto).turn (loopP go i st n (k + st))
section
variable (N : Nat) (cf : CF) (xs : Nat → Nat → Bool) (lk : Bool)
mutual
def ex : S → En → List Ob → SR
  | .pass, env, sto => .nx env sto
  | .nev, _, _ => .no
  | .set i c, env, sto => match c with
    | .p (.var j) => match getV env j with
      | .ok t => if flat t then .nx (env.set i (some t)) sto else .nx ((env.set j (some (fz t))).set i (some (fz t))) sto
      | _ => .no
    | c => (gv cf lk c env sto).thn fun t env sto => .nx (env.set i (some t)) sto
  | .mov i j, env, sto => (gv cf lk (.p (.var j)) env sto).thn fun t env sto => .nx (env.set i (some t)) sto
  | .setix i k e, env, sto => (kv cf e env sto).thn fun t env sto => match env[i]? with
    | some (some (.lst false n ts)) => ((pv cf env sto k).g env sto).thn fun y env sto => match y with
      | .int j => match L2.ixN ts.length j with
        | some j => .nx (env.set i (some (.lst false (n || !flat t) (ts.set j t)))) sto
        | none => .no
      | _ => .no
    | _ => .no
  | .setsl i lo hi e, env, sto => (kv cf e env sto).thn fun r env sto => match env[i]? with
    | some (some (.lst false false ts)) => ((pvo cf env sto lo).g env sto).thn fun l env sto => ((pvo cf env sto hi).g env sto).thn fun h env sto =>
      match r, l, h with
      | .lst _ false ys, some a, some c => if 0 ≤ a ∧ a ≤ c ∧ c ≤ ts.length ∧ ts.length + ys.length ≤ sizeT then .nx (env.set i (some (.lst false false (ts.take a.toNat ++ ys ++ ts.drop c.toNat)))) sto else .no
      | _, _, _ => .no
    | _ => .no
  | .app i e, env, sto => match env[i]? with
    | some (some (.lst false _ _)) => (kv cf e env sto).thn fun t env sto => match env[i]? with
      | some (some (.lst false n ts)) => if ts.length < sizeT then .nx (env.set i (some (.lst false (n || !flat t) (ts ++ [t])))) sto else .no
      | _ => .no
    | _ => .no
  | .setf a n c, env, sto => (gv cf lk c env sto).thn fun t env sto => ((pv cf env sto a).g env sto).thn fun x env sto => match x with
    | .obj i => if !lk && fokO sto i n then .nx env (fputO sto i n (some t)) else .no
    | _ => .no
  | .setfix a n k e, env, sto => (kv cf e env sto).thn fun t env sto => ((pv cf env sto a).g env sto).thn fun x env sto => match x with
    | .obj i => match fgetO sto i n with
      | some (.lst false m ts) => ((pv cf env sto k).g env sto).thn fun y env sto => match y with
        | .int j => match L2.ixN ts.length j with
          | some j => if !lk && fokO sto i n then .nx env (fputO sto i n (some (.lst false (m || !flat t) (ts.set j t)))) else .no
          | none => .no
        | _ => .no
      | _ => .no
    | _ => .no
  | .appf a n e, env, sto => ((pv cf env sto a).g env sto).thn fun x env sto => match x with
    | .obj i => match fgetO sto i n with
      | some (.lst false m ts) => ((pv cf env sto e).g env sto).thn fun t env sto => if !lk && fokO sto i n && decide (ts.length < sizeT) && clean t then .nx env (fputO sto i n (some (.lst false (m || !flat t) (ts ++ [t])))) else .no
      | _ => .no
    | _ => .no
  | .unp is c, env, sto => (gv cf lk c env sto).thn fun t env sto => match t with
    | .tup ts => match unpack is ts env with
      | some env => .nx env sto
      | none => .no
    | _ => .no
  | .expr c, env, sto => (gv cf lk c env sto).thn fun _ env sto => .nx env sto
  | .ret c, env, sto => (gv cf lk c env sto).thn fun t env sto => .rt t env sto
  | .retn, env, sto => .rt .non env sto
  | .ife t a b, env, sto => (gt cf lk t env sto).thn fun c env sto => if c then exs a env sto else exs b env sto
  | .whl t b, env, sto => loopW (exs b) (fun env sto => tv cf env sto t) N env sto
  | .forv i j b, env, sto => match (getV env j).bind fun t => ofO (items t) with
    | .ok ts => loopL (exs b) i ts env sto
    | _ => .no
  | .forr i lo hi b, env, sto => ((pv cf env sto lo).g env sto).thn fun x env sto => ((pv cf env sto hi).g env sto).thn fun y env sto => match x, y with
    | .int l, .int h => if -(2 ^ 62) ≤ l ∧ l < 2 ^ 62 ∧ -(2 ^ 62) ≤ h ∧ h < 2 ^ 62 then loopR (exs b) i (h - l).toNat l env sto else .no
    | _, _ => .no
  | .fore i e b, env, sto => ((pv cf env sto e).g env sto).thn fun t env sto => if clean t then match items t with
      | some ts => loopL (exs b) i ts env sto
      | none => .no
    else .no
  | .fort is e b, env, sto => ((pv cf env sto e).g env sto).thn fun t env sto => if clean t then match items t with
      | some ts => loopT (exs b) is ts env sto
      | none => .no
    else .no
  | .fortv is j b, env, sto => match (getV env j).bind fun t => ofO (items t) with
    | .ok ts => loopT (exs b) is ts env sto
    | _ => .no
  | .fors i lo hi st b, env, sto => ((pv cf env sto lo).g env sto).thn fun x env sto => ((pv cf env sto hi).g env sto).thn fun y env sto => ((pv cf env sto st).g env sto).thn fun z env sto => match x, y, z with
    | .int l, .int h, .int c => if Builtin.Range.small l h c = true ∧ 0 < c ∧ c < 1073741824 then loopP (exs b) i c (Builtin.Range.rangeSize l h c).toNat l env sto else .no
    | _, _, _ => .no
  | .clr i, env, sto => match env[i]? with
    | some (some (.lst false _ _)) => .nx (env.set i (some (.lst false false []))) sto
    | _ => .no
  | .clrd i, env, sto => match env[i]? with
    | some (some (.dic false _ _ _)) => .nx (env.set i (some (.dic false false [] []))) sto
    | _ => .no
  | .fork i j b, env, sto => match env[j]? with
    | some (some (.dic true _ ks _)) => (loopL (exs b) i (ks.map unkey) env sto).noex
    | _ => .no
  | .clr1 i, env, sto => match env[i]? with
    | some (some (.tup [.int _, .lst false _ _])) => .nx (env.set i none) sto
    | _ => .no
  | .dset i k e, env, sto => (kv cf e env sto).thn fun t env sto => match getV env i with
    | .ok (.dic false n ks ts) => ((pv cf env sto k).g env sto).thn fun y env sto => match keyT y with
      | some k => if ks.length < sizeT then .nx (env.set i (some (.dic false (n || !flat t) (dputK ks k) (dputT ks ts k t)))) sto else .no
      | none => .no
    | _ => .no
  | .dsd i k e, env, sto => match getV env i with
    | .ok (.dic false n ks ts) => ((pv cf env sto k).g env sto).thn fun y env sto => ((pv cf env sto e).g env sto).thn fun t env sto => match keyT y with
      | some k => if ks.length < sizeT ∧ flat t = true then .nx (env.set i (some (.dic false n (dputK ks k) (if (kix ks k).isSome then ts else ts ++ [t])))) sto else .no
      | none => .no
    | _ => .no
  | .brk, env, sto => .bk env sto
  | .cnt, env, sto => .ct env sto
  | .raise c .none, env, sto => .ex ⟨c, none⟩ env sto
  | .raise c (.some e), env, sto => ((pv cf env sto e).g env sto).thn fun t env sto => if flat t then .ex ⟨c, some t⟩ env sto else .no
  | .tryx b hs, env, sto => match exs b env sto with
    | .ex e env sto => hdl e hs env sto
    | r => r
def exs : Ss → En → List Ob → SR
  | .nil, env, sto => .nx env sto
  | .cons s ss, env, sto => (ex s env sto).thn fun env sto => exs ss env sto
def hdl (e : Exn) : Hs → En → List Ob → SR
  | .nil, env, sto => .ex e env sto
  | .cons c nm sets ret hs, env, sto => if xs e.cls c then (suiteT xs e sets ret (unNm nm env) sto).un nm
    else hdl e hs env sto
end
end

/-! ### defs -/
/-- a def; a method's name (by the class of the first argument); a class (its __init__); a look whether a thing is of one of these classes -/
inductive Kd where
  | fn
  | vt (l : List (Nat × Nat))
  | nw (c g : Nat)
  | isc (cs : List Nat)
  /-- whether the class has the method -/
  | pb (l : List (Nat × Nat))
structure FD where
  /-- names, parameters -/
  n : Nat
  np : Nat
  mu : List Nat
  body : Ss
  /-- the last parameters' defaults -/
  dfl : List T
  kd : Kd
/-- a def that tells one item of a tuple -/
def keyB (d : FD) : Option Nat := if d.np = 1 && d.dfl.isEmpty then match d.body with
    | .cons (.ret (.p (.ix (.var 0) (.int (.ofNat j))))) .nil => if j < 1000 then some j else none
    | _ => none
  else none
def startT (n : Nat) (ts : List T) : En := ts.map some ++ List.replicate (n - ts.length) none
def musOf : List Nat → En → Option (List T)
  | [], _ => some []
  | j :: js, env => match env[j]? with
    | some (some t) => if clean t && !flat t then (musOf js env).map (t :: ·) else none
    | _ => none
def fin (mu : List Nat) (t : T) (env : En) (sto : List Ob) : FR := if clean t then match musOf mu env with
    | some ms => .ok t ms sto
    | none => .no
  else .no
/-- the defaults fill up -/
def padT (d : FD) (ts : List T) : List T := ts ++ d.dfl.drop (ts.length + d.dfl.length - d.np)
def fnT (N : Nat) (cf : CF) (xs : Nat → Nat → Bool) (d : FD) (ts : List T) (sto : List Ob) (lk : Bool) : FR :=
  if (padT d ts).length = d.np then
    match exs N cf xs lk d.body (startT d.n (padT d ts)) sto with
    | .nx env sto => fin d.mu .non env sto
    | .rt t env sto => fin d.mu t env sto
    | .ex e env sto => match musOf d.mu env with
      | some ms => .ex e ms sto
      | none => .no
    | _ => .no
  else .no
/-- the def that is meant -/
def dispT (tb : Nat → Option FD) (l : List (Nat × Nat)) (ts : List T) (sto : List Ob) : Option Nat := match ts with
  | .obj i :: _ => match sto[i]? with
    | some o => match l.lookup o.cls with
      | some g => match tb g with
        | some d => match d.kd, d.mu with
          | .fn, [] => some g
          | _, _ => none
        | none => none
      | none => none
    | none => none
  | _ => none
def iscT (cs : List Nat) (ts : List T) (sto : List Ob) : Option Bool := match ts with
  | [.obj i] => match sto[i]? with
    | some o => some (cs.contains o.cls)
    | none => none
  | _ => none
def newT (r : FR) (n : Nat) : FR := match r with
  | .ok .non [] sto => .ok (.obj n) [] sto
  | .ex e [] sto => .ex e [] sto
  | _ => .no
def callF (N : Nat) (xs : Nat → Nat → Bool) (tb : Nat → Option FD) : Nat → CF
  | 0 => fun _ _ _ _ => .no
  | k + 1 => fun f ts sto lk => match tb f with
    | some d => match d.kd with
      | .fn => fnT N (callF N xs tb k) xs d ts sto lk
      | .vt l => match dispT tb l ts sto with
        | some g => match tb g with
          | some d => fnT N (callF N xs tb k) xs d ts sto lk
          | none => .no
        | none => .no
      | .nw c g => if lk then .no else newT (callF N xs tb k g (.obj sto.length :: ts) (sto ++ [⟨c, []⟩]) false) sto.length
      | .isc cs => match iscT cs ts sto with
        | some b => .ok (.bl b) [] sto
        | none => .no
      | .pb l => match dispT tb l ts sto with
        | some _ => .ok .non [] sto
        | none => .no
    | none => .no
end Tr
/-! TrRep: how trees lie in the abstract heap. -/
namespace Tr
open PySem PySem.Spec PyProof.Rows L2

abbrev As := Addr → Prop
abbrev Fp := Addr → Nat
/-- keys and values of a dict -/
def DKy (ks : List Key) (ts : List T) : Prop := ks.length = ts.length ∧ ks.Nodup
/-- what a list or a dict is to the heap -/
def Lo : HO → Prop
  | .lst _ => True
  | .dK _ => True
  | _ => False
abbrev LDo := {u : HO // Lo u}
section
variable (F : As) (H : Hp) (ρ : List Addr)
mutual
/-- t is to be read at v; its lists lie in F -/
def Sn : T → V → Prop
  | .non, v => v = .non
  | .bl b, v => v = .bl b
  | .int i, v => v = .int i
  | .str s, v => v = .str s
  | .tup ts, v => ∃ a vs, v = .ref a ∧ H a = some (.tup vs) ∧ SnL ts vs
  | .lst _ n ts, v => ∃ a vs, v = .ref a ∧ F a ∧ Rd H a (.lst vs) ∧ SnL ts vs ∧ (n = false → flatL ts = true)
  | .dic _ n ks ts, v => ∃ a vs, v = .ref a ∧ F a ∧ Rd H a (.dK (ks.zip vs)) ∧ SnL ts vs ∧ (n = false → flatL ts = true) ∧ DKy ks ts
  | .obj i, v => ∃ a, ρ[i]? = some a ∧ v = .ref a
def SnL : List T → List V → Prop
  | [], vs => vs = []
  | t :: ts, vs => ∃ v vs', vs = v :: vs' ∧ Sn t v ∧ SnL ts vs'
end
mutual
/-- t lies at v; f counts its own lists -/
def Rp : T → V → Fp → Prop
  | .tup ts, v, f => ∃ a vs, v = .ref a ∧ H a = some (.tup vs) ∧ RpL ts vs f
  | .lst z n ts, v, f => if z = true then (∀ b, f b = 0) ∧ Sn F H ρ (.lst true n ts) v
      else ∃ a vs f', v = .ref a ∧ H a = some (.lst vs) ∧ RpL ts vs f' ∧ (n = false → flatL ts = true) ∧ cleanL ts = true ∧ ∀ b, f b = f' b + (if b = a then 1 else 0)
  | .dic z n ks ts, v, f => if z = true then (∀ b, f b = 0) ∧ Sn F H ρ (.dic true n ks ts) v
      else ∃ a vs f', v = .ref a ∧ H a = some (.dK (ks.zip vs)) ∧ RpL ts vs f' ∧ (n = false → flatL ts = true) ∧ (cleanL ts = true ∧ DKy ks ts) ∧ ∀ b, f b = f' b + (if b = a then 1 else 0)
  | .non, v, f => (∀ b, f b = 0) ∧ v = .non
  | .bl c, v, f => (∀ b, f b = 0) ∧ v = .bl c
  | .int i, v, f => (∀ b, f b = 0) ∧ v = .int i
  | .str s, v, f => (∀ b, f b = 0) ∧ v = .str s
  | .obj i, v, f => (∀ b, f b = 0) ∧ ∃ a, ρ[i]? = some a ∧ v = .ref a
def RpL : List T → List V → Fp → Prop
  | [], vs, f => vs = [] ∧ ∀ b, f b = 0
  | t :: ts, vs, f => ∃ v vs' f1 f2, vs = v :: vs' ∧ Rp t v f1 ∧ RpL ts vs' f2 ∧ ∀ b, f b = f1 b + f2 b
end
end
/-- what holds of a later heap: F is kept, tuples are kept, objects stay known -/
structure Kp (F : As) (H H' : Hp) : Prop where
  at_ : ∀ a, F a → H' a = H a
  tup : ∀ a vs, H a = some (.tup vs) → H' a = some (.tup vs)
theorem Kp.refl {F H} : Kp F H H := ⟨fun _ _ => rfl, fun _ _ h => h⟩
theorem Kp.trans {F F' H H1 H2} (a : Kp F H H1) (b : Kp F' H1 H2) (s : ∀ x, F x → F' x) : Kp F H H2 :=
  ⟨fun x h => (b.at_ x (s x h)).trans (a.at_ x h), fun x vs h => b.tup x vs (a.tup x vs h)⟩
/-- the abstract heap has grown -/
def Ext (H H' : Hp) : Prop := ∀ a o, H a = some o → H' a = some o
def dom (H : Hp) : As := fun a => ∃ o, H a = some o
theorem Ext.refl {H} : Ext H H := fun _ _ h => h
theorem Ext.trans {H H1 H2} (a : Ext H H1) (b : Ext H1 H2) : Ext H H2 := fun x o h => b x o (a x o h)
theorem Ext.kp {H H'} (e : Ext H H') : Kp (dom H) H H' := ⟨fun a ⟨o, h⟩ => by rw [h, e a o h], fun a vs h => e a _ h⟩
theorem Ext.upd {H : Hp} {a : Addr} {o : HO} (h : H a = none) : Ext H (upd H a o) := fun b u e => by rw [upd_ne (ne_of_none e h)]; exact e
theorem Kp.ext {H H'} (k : Kp (dom H) H H') : Ext H H' := fun a o h => by rw [k.at_ a ⟨o, h⟩, h]
theorem Ext.dom {H H'} (e : Ext H H') {a} (h : dom H a) : dom H' a := let ⟨o, h⟩ := h; ⟨o, e a o h⟩

section
variable {F F' : As} {H H' : Hp} {ρ ρ' : List Addr}
def Pre (ρ ρ' : List Addr) : Prop := ∀ (i : Nat) a, ρ[i]? = some a → ρ'[i]? = some a
theorem Pre.refl : Pre ρ ρ := fun _ _ h => h
theorem Pre.trans {ρ2 : List Addr} (a : Pre ρ ρ') (b : Pre ρ' ρ2) : Pre ρ ρ2 := fun i x h => b i x (a i x h)

theorem rd_eqv {a : Addr} {u : HO} (h : H' a = H a) (r : Rd H a u) : Rd H' a u := by
  rcases r with r | ⟨o, r⟩
  · exact .inl (h.trans r)
  · exact .inr ⟨o, h.trans r⟩
theorem rd_ext {a : Addr} {u : HO} (e : Ext H H') (r : Rd H a u) : Rd H' a u := by
  rcases r with r | ⟨o, r⟩
  · exact .inl (e _ _ r)
  · exact .inr ⟨o, e _ _ r⟩
theorem rd_dom {a : Addr} {u : HO} (r : Rd H a u) : Tr.dom H a := by
  rcases r with r | ⟨o, r⟩
  · exact ⟨_, r⟩
  · exact ⟨_, r⟩

mutual
theorem Sn.keep (k : Kp F H H') (p : Pre ρ ρ') (s : ∀ a, F a → F' a) : ∀ (t : T) (v : V), Sn F H ρ t v → Sn F' H' ρ' t v
  | .non, v, h => by simpa [Sn] using h
  | .bl b, v, h => by simpa [Sn] using h
  | .int b, v, h => by simpa [Sn] using h
  | .str b, v, h => by simpa [Sn] using h
  | .tup ts, v, h => by
    obtain ⟨a, vs, rfl, e, l⟩ := (by simpa only [Sn] using h : ∃ a vs, v = .ref a ∧ H a = some (.tup vs) ∧ SnL F H ρ ts vs)
    simp only [Sn]
    exact ⟨a, vs, rfl, k.tup a vs e, SnL.keep k p s ts vs l⟩
  | .lst z n ts, v, h => by
    simp only [Sn] at h ⊢
    obtain ⟨a, vs, rfl, fa, e, l, fl⟩ := h
    exact ⟨a, vs, rfl, s a fa, rd_eqv (k.at_ a fa) e, SnL.keep k p s ts vs l, fl⟩
  | .dic z n ks ts, v, h => by
    simp only [Sn] at h ⊢
    obtain ⟨a, vs, rfl, fa, e, l, fl⟩ := h
    exact ⟨a, vs, rfl, s a fa, rd_eqv (k.at_ a fa) e, SnL.keep k p s ts vs l, fl⟩
  | .obj i, v, h => by
    simp only [Sn] at h ⊢
    obtain ⟨a, e, rfl⟩ := h
    exact ⟨a, p i a e, rfl⟩
theorem SnL.keep (k : Kp F H H') (p : Pre ρ ρ') (s : ∀ a, F a → F' a) : ∀ (ts : List T) (vs : List V), SnL F H ρ ts vs → SnL F' H' ρ' ts vs
  | [], vs, h => by simpa [SnL] using h
  | t :: ts, vs, h => by
    simp only [SnL] at h ⊢
    obtain ⟨v, vs', rfl, h1, h2⟩ := h
    exact ⟨v, vs', rfl, Sn.keep k p s t v h1, SnL.keep k p s ts vs' h2⟩
end
mutual
/-- flat data is to be read whatever F is -/
theorem Sn.flat : ∀ (t : T) (v : V), flat t = true → Sn F H ρ t v → Sn F' H ρ t v
  | .non, v, _, h => by simpa [Sn] using h
  | .bl b, v, _, h => by simpa [Sn] using h
  | .int b, v, _, h => by simpa [Sn] using h
  | .str b, v, _, h => by simpa [Sn] using h
  | .tup ts, v, q, h => by
    simp only [Sn] at h ⊢
    obtain ⟨a, vs, rfl, e, l⟩ := h
    exact ⟨a, vs, rfl, e, SnL.flat ts vs (by simpa [Tr.flat] using q) l⟩
  | .lst z n ts, v, q, h => by simp [Tr.flat] at q
  | .dic z n ks ts, v, q, h => by simp [Tr.flat] at q
  | .obj i, v, _, h => by simpa [Sn] using h
theorem SnL.flat : ∀ (ts : List T) (vs : List V), flatL ts = true → SnL F H ρ ts vs → SnL F' H ρ ts vs
  | [], vs, _, h => by simpa [SnL] using h
  | t :: ts, vs, q, h => by
    simp only [SnL] at h ⊢
    simp only [flatL, Bool.and_eq_true] at q
    obtain ⟨v, vs', rfl, h1, h2⟩ := h
    exact ⟨v, vs', rfl, Sn.flat t v q.1 h1, SnL.flat ts vs' q.2 h2⟩
end
mutual
theorem Rp.keep (k : Kp F H H') (p : Pre ρ ρ') (s : ∀ a, F a → F' a) : ∀ (t : T) (v : V) (f : Fp), (∀ a, f a ≠ 0 → H' a = H a) → Rp F H ρ t v f → Rp F' H' ρ' t v f
  | .non, v, f, _, h => by simpa [Rp] using h
  | .bl b, v, f, _, h => by simpa [Rp] using h
  | .int b, v, f, _, h => by simpa [Rp] using h
  | .str b, v, f, _, h => by simpa [Rp] using h
  | .tup ts, v, f, g, h => by
    simp only [Rp] at h ⊢
    obtain ⟨a, vs, rfl, e, l⟩ := h
    exact ⟨a, vs, rfl, k.tup a vs e, RpL.keep k p s ts vs f g l⟩
  | .lst true n ts, v, f, g, h => by
    simp only [Rp, if_true] at h ⊢
    exact ⟨h.1, Sn.keep k p s _ v h.2⟩
  | .lst false n ts, v, f, g, h => by
    simp only [Rp, Bool.false_eq_true, if_false] at h ⊢
    obtain ⟨a, vs, f', rfl, e, l, fl, cl, hf⟩ := h
    refine ⟨a, vs, f', rfl, ?_, RpL.keep k p s ts vs f' (fun b hb => g b ?_) l, fl, cl, hf⟩
    · rw [g a (by rw [hf a]; simp)]; exact e
    · rw [hf b]; omega
  | .dic true n ks ts, v, f, g, h => by
    simp only [Rp, if_true] at h ⊢
    exact ⟨h.1, Sn.keep k p s _ v h.2⟩
  | .dic false n ks ts, v, f, g, h => by
    simp only [Rp, Bool.false_eq_true, if_false] at h ⊢
    obtain ⟨a, vs, f', rfl, e, l, fl, cl, hf⟩ := h
    refine ⟨a, vs, f', rfl, ?_, RpL.keep k p s ts vs f' (fun b hb => g b ?_) l, fl, cl, hf⟩
    · rw [g a (by rw [hf a]; simp)]; exact e
    · rw [hf b]; omega
  | .obj i, v, f, _, h => by
    simp only [Rp] at h ⊢
    obtain ⟨z, a, e, rfl⟩ := h
    exact ⟨z, a, p i a e, rfl⟩
theorem RpL.keep (k : Kp F H H') (p : Pre ρ ρ') (s : ∀ a, F a → F' a) : ∀ (ts : List T) (vs : List V) (f : Fp), (∀ a, f a ≠ 0 → H' a = H a) → RpL F H ρ ts vs f → RpL F' H' ρ' ts vs f
  | [], vs, f, _, h => by simpa [RpL] using h
  | t :: ts, vs, f, g, h => by
    simp only [RpL] at h ⊢
    obtain ⟨v, vs', f1, f2, rfl, h1, h2, hf⟩ := h
    exact ⟨v, vs', f1, f2, rfl, Rp.keep k p s t v f1 (fun b hb => g b (by rw [hf b]; omega)) h1, RpL.keep k p s ts vs' f2 (fun b hb => g b (by rw [hf b]; omega)) h2, hf⟩
end
mutual
/-- what lies there is to be read, its own lists known -/
theorem Rp.sn : ∀ (t : T) (v : V) (f : Fp), (∀ a, F a → F' a) → (∀ a, f a ≠ 0 → F' a) → Rp F H ρ t v f → Sn F' H ρ t v
  | .non, v, f, _, _, h => by simp only [Rp] at h; simpa [Sn] using h.2
  | .bl b, v, f, _, _, h => by simp only [Rp] at h; simpa [Sn] using h.2
  | .int b, v, f, _, _, h => by simp only [Rp] at h; simpa [Sn] using h.2
  | .str b, v, f, _, _, h => by simp only [Rp] at h; simpa [Sn] using h.2
  | .tup ts, v, f, s, g, h => by
    simp only [Rp] at h
    simp only [Sn]
    obtain ⟨a, vs, rfl, e, l⟩ := h
    exact ⟨a, vs, rfl, e, RpL.sn ts vs f s g l⟩
  | .lst true n ts, v, f, s, g, h => by
    simp only [Rp, if_true] at h
    exact Sn.keep Kp.refl Pre.refl s _ v h.2
  | .lst false n ts, v, f, s, g, h => by
    simp only [Rp, Bool.false_eq_true, if_false] at h
    simp only [Sn]
    obtain ⟨a, vs, f', rfl, e, l, fl, cl, hf⟩ := h
    exact ⟨a, vs, rfl, g a (by rw [hf a]; simp), .inl e, RpL.sn ts vs f' s (fun b hb => g b (by rw [hf b]; omega)) l, fl⟩
  | .dic true n ks ts, v, f, s, g, h => by
    simp only [Rp, if_true] at h
    exact Sn.keep Kp.refl Pre.refl s _ v h.2
  | .dic false n ks ts, v, f, s, g, h => by
    simp only [Rp, Bool.false_eq_true, if_false] at h
    simp only [Sn]
    obtain ⟨a, vs, f', rfl, e, l, fl, cl, hf⟩ := h
    exact ⟨a, vs, rfl, g a (by rw [hf a]; simp), .inl e, RpL.sn ts vs f' s (fun b hb => g b (by rw [hf b]; omega)) l, fl, cl.2⟩
  | .obj i, v, f, _, _, h => by simp only [Rp] at h; simpa [Sn] using h.2
theorem RpL.sn : ∀ (ts : List T) (vs : List V) (f : Fp), (∀ a, F a → F' a) → (∀ a, f a ≠ 0 → F' a) → RpL F H ρ ts vs f → SnL F' H ρ ts vs
  | [], vs, f, _, _, h => by simp only [RpL] at h; simpa [SnL] using h.1
  | t :: ts, vs, f, s, g, h => by
    simp only [RpL] at h
    simp only [SnL]
    obtain ⟨v, vs', f1, f2, rfl, h1, h2, hf⟩ := h
    exact ⟨v, vs', rfl, Rp.sn t v f1 s (fun b hb => g b (by rw [hf b]; omega)) h1, RpL.sn ts vs' f2 s (fun b hb => g b (by rw [hf b]; omega)) h2⟩
end
mutual
theorem Rp.flat0 : ∀ (t : T) (v : V) (f : Fp), flat t = true → Rp F H ρ t v f → ∀ b, f b = 0
  | .non, v, f, _, h => by simp only [Rp] at h; exact h.1
  | .bl b, v, f, _, h => by simp only [Rp] at h; exact h.1
  | .int b, v, f, _, h => by simp only [Rp] at h; exact h.1
  | .str b, v, f, _, h => by simp only [Rp] at h; exact h.1
  | .tup ts, v, f, q, h => by
    simp only [Rp] at h
    obtain ⟨a, vs, rfl, e, l⟩ := h
    exact RpL.flat0 ts vs f (by simpa [Tr.flat] using q) l
  | .lst z n ts, v, f, q, h => by simp [Tr.flat] at q
  | .dic z n ks ts, v, f, q, h => by simp [Tr.flat] at q
  | .obj i, v, f, _, h => by simp only [Rp] at h; exact h.1
theorem RpL.flat0 : ∀ (ts : List T) (vs : List V) (f : Fp), flatL ts = true → RpL F H ρ ts vs f → ∀ b, f b = 0
  | [], vs, f, _, h => by simp only [RpL] at h; exact h.2
  | t :: ts, vs, f, q, h => by
    simp only [RpL] at h
    simp only [flatL, Bool.and_eq_true] at q
    obtain ⟨v, vs', f1, f2, rfl, h1, h2, hf⟩ := h
    intro b
    rw [hf b, Rp.flat0 t v f1 q.1 h1 b, RpL.flat0 ts vs' f2 q.2 h2 b]
end
mutual
/-- flat data lies there -/
theorem Sn.rp0 : ∀ (t : T) (v : V), flat t = true → Sn F H ρ t v → Rp F' H ρ t v (fun _ => 0)
  | .non, v, _, h => by simp only [Rp]; exact ⟨fun _ => trivial, by simpa [Sn] using h⟩
  | .bl b, v, _, h => by simp only [Rp]; exact ⟨fun _ => trivial, by simpa [Sn] using h⟩
  | .int b, v, _, h => by simp only [Rp]; exact ⟨fun _ => trivial, by simpa [Sn] using h⟩
  | .str b, v, _, h => by simp only [Rp]; exact ⟨fun _ => trivial, by simpa [Sn] using h⟩
  | .tup ts, v, q, h => by
    simp only [Sn] at h
    simp only [Rp]
    obtain ⟨a, vs, rfl, e, l⟩ := h
    exact ⟨a, vs, rfl, e, SnL.rp0 ts vs (by simpa [Tr.flat] using q) l⟩
  | .lst z n ts, v, q, h => by simp [Tr.flat] at q
  | .dic z n ks ts, v, q, h => by simp [Tr.flat] at q
  | .obj i, v, _, h => by simp only [Rp]; exact ⟨fun _ => trivial, by simpa [Sn] using h⟩
theorem SnL.rp0 : ∀ (ts : List T) (vs : List V), flatL ts = true → SnL F H ρ ts vs → RpL F' H ρ ts vs (fun _ => 0)
  | [], vs, _, h => by simp only [RpL]; exact ⟨by simpa [SnL] using h, fun _ => trivial⟩
  | t :: ts, vs, q, h => by
    simp only [SnL] at h
    simp only [flatL, Bool.and_eq_true] at q
    simp only [RpL]
    obtain ⟨v, vs', rfl, h1, h2⟩ := h
    exact ⟨v, vs', _, _, rfl, Sn.rp0 t v q.1 h1, SnL.rp0 ts vs' q.2 h2, fun _ => by simp⟩
end
mutual
theorem Sn.fz : ∀ (t : T) (v : V), Sn F H ρ t v → Sn F H ρ (fz t) v
  | .non, v, h => h
  | .bl b, v, h => h
  | .int b, v, h => h
  | .str b, v, h => h
  | .tup ts, v, h => by
    simp only [Sn, Tr.fz] at h ⊢
    obtain ⟨a, vs, rfl, e, l⟩ := h
    exact ⟨a, vs, rfl, e, SnL.fz ts vs l⟩
  | .lst z n ts, v, h => by simpa only [Sn, Tr.fz] using h
  | .dic z n ks ts, v, h => by simpa only [Sn, Tr.fz] using h
  | .obj i, v, h => h
theorem SnL.fz : ∀ (ts : List T) (vs : List V), SnL F H ρ ts vs → SnL F H ρ (fzL ts) vs
  | [], vs, h => h
  | t :: ts, vs, h => by
    simp only [SnL, Tr.fzL] at h ⊢
    obtain ⟨v, vs', rfl, h1, h2⟩ := h
    exact ⟨v, vs', rfl, Sn.fz t v h1, SnL.fz ts vs' h2⟩
end
mutual
/-- what is only read lies there -/
theorem Sn.rpz : ∀ (t : T) (v : V), Sn F H ρ t v → Rp F H ρ (Tr.fz t) v (fun _ => 0)
  | .non, v, h => Sn.rp0 _ v rfl h
  | .bl b, v, h => Sn.rp0 _ v rfl h
  | .int b, v, h => Sn.rp0 _ v rfl h
  | .str b, v, h => Sn.rp0 _ v rfl h
  | .tup ts, v, h => by
    simp only [Sn] at h
    simp only [Rp, Tr.fz]
    obtain ⟨a, vs, rfl, e, l⟩ := h
    exact ⟨a, vs, rfl, e, SnL.rpz ts vs l⟩
  | .lst z n ts, v, h => by
    simp only [Rp, Tr.fz, if_true]
    exact ⟨fun _ => trivial, by simpa only [Sn] using h⟩
  | .dic z n ks ts, v, h => by
    simp only [Rp, Tr.fz, if_true]
    exact ⟨fun _ => trivial, by simpa only [Sn] using h⟩
  | .obj i, v, h => Sn.rp0 _ v rfl h
theorem SnL.rpz : ∀ (ts : List T) (vs : List V), SnL F H ρ ts vs → RpL F H ρ (fzL ts) vs (fun _ => 0)
  | [], vs, h => by simp only [RpL, Tr.fzL]; exact ⟨by simpa [SnL] using h, fun _ => trivial⟩
  | t :: ts, vs, h => by
    simp only [SnL] at h
    simp only [RpL, Tr.fzL]
    obtain ⟨v, vs', rfl, h1, h2⟩ := h
    exact ⟨v, vs', _, _, rfl, Sn.rpz t v h1, SnL.rpz ts vs' h2, fun _ => by simp⟩
end
theorem Sn.view {t : T} {v : V} (h : Sn F H ρ t v) : Rp F H ρ (Tr.view t) v (fun _ => 0) := by
  unfold Tr.view
  by_cases q : Tr.flat t = true
  · rw [if_pos q]; exact h.rp0 t v q
  · rw [if_neg q]; exact h.rpz t v
theorem SnL.views : ∀ {ts : List T} {vs : List V}, SnL F H ρ ts vs → RpL F H ρ (ts.map Tr.view) vs (fun _ => 0)
  | [], vs, h => by simp only [RpL, List.map_nil]; exact ⟨by simpa [SnL] using h, fun _ => trivial⟩
  | t :: ts, vs, h => by
    simp only [SnL] at h
    simp only [RpL, List.map_cons]
    obtain ⟨v, vs', rfl, h1, h2⟩ := h
    exact ⟨v, vs', _, _, rfl, h1.view, SnL.views h2, fun _ => by simp⟩
mutual
/-- what is clean leans on F in nothing but that its own lists lie outside -/
theorem Rp.clean : ∀ (t : T) (v : V) (f : Fp), clean t = true → Rp F H ρ t v f → Rp F' H ρ t v f
  | .non, v, f, _, h => by simpa [Rp] using h
  | .bl b, v, f, _, h => by simpa [Rp] using h
  | .int b, v, f, _, h => by simpa [Rp] using h
  | .str b, v, f, _, h => by simpa [Rp] using h
  | .tup ts, v, f, q, h => by
    simp only [Rp] at h ⊢
    obtain ⟨a, vs, rfl, e, l⟩ := h
    exact ⟨a, vs, rfl, e, RpL.clean ts vs f (by simpa [Tr.clean] using q) l⟩
  | .lst true n ts, v, f, q, h => by simp [Tr.clean] at q
  | .lst false n ts, v, f, q, h => by
    simp only [Rp, Bool.false_eq_true, if_false] at h ⊢
    obtain ⟨a, vs, f', rfl, e, l, fl, cl, hf⟩ := h
    exact ⟨a, vs, f', rfl, e, RpL.clean ts vs f' cl l, fl, cl, hf⟩
  | .dic true n ks ts, v, f, q, h => by simp [Tr.clean] at q
  | .dic false n ks ts, v, f, q, h => by
    simp only [Rp, Bool.false_eq_true, if_false] at h ⊢
    obtain ⟨a, vs, f', rfl, e, l, fl, cl, hf⟩ := h
    exact ⟨a, vs, f', rfl, e, RpL.clean ts vs f' cl.1 l, fl, cl, hf⟩
  | .obj i, v, f, _, h => by simpa [Rp] using h
theorem RpL.clean : ∀ (ts : List T) (vs : List V) (f : Fp), cleanL ts = true → RpL F H ρ ts vs f → RpL F' H ρ ts vs f
  | [], vs, f, _, h => by simpa [RpL] using h
  | t :: ts, vs, f, q, h => by
    simp only [RpL] at h ⊢
    simp only [cleanL, Bool.and_eq_true] at q
    obtain ⟨v, vs', f1, f2, rfl, h1, h2, hf⟩ := h
    exact ⟨v, vs', f1, f2, rfl, Rp.clean t v f1 q.1 h1, RpL.clean ts vs' f2 q.2 h2, hf⟩
end
mutual
theorem clean_of_flat : ∀ t : T, flat t = true → clean t = true
  | .non, _ => rfl
  | .bl b, _ => rfl
  | .int b, _ => rfl
  | .str b, _ => rfl
  | .tup ts, q => by simp only [Tr.clean]; exact cleanL_of_flatL ts (by simpa [Tr.flat] using q)
  | .lst z n ts, q => by simp [Tr.flat] at q
  | .dic z n ks ts, q => by simp [Tr.flat] at q
  | .obj i, _ => rfl
theorem cleanL_of_flatL : ∀ ts : List T, flatL ts = true → cleanL ts = true
  | [], _ => rfl
  | t :: ts, q => by
    simp only [flatL, Bool.and_eq_true] at q
    simp only [cleanL, Bool.and_eq_true]
    exact ⟨clean_of_flat t q.1, cleanL_of_flatL ts q.2⟩
end
/-- an own list lies in the heap -/
theorem Rp.dom : ∀ (t : T) (v : V) (f : Fp), Rp F H ρ t v f → True := fun _ _ _ _ => trivial
mutual
theorem Rp.in_ : ∀ (t : T) (v : V) (f : Fp), Rp F H ρ t v f → ∀ a, f a ≠ 0 → ∃ w : LDo, H a = some w.1
  | .non, v, f, h, a, n => by simp only [Rp] at h; exact absurd (h.1 a) n
  | .bl b, v, f, h, a, n => by simp only [Rp] at h; exact absurd (h.1 a) n
  | .int b, v, f, h, a, n => by simp only [Rp] at h; exact absurd (h.1 a) n
  | .str b, v, f, h, a, n => by simp only [Rp] at h; exact absurd (h.1 a) n
  | .tup ts, v, f, h, a, n => by
    simp only [Rp] at h
    obtain ⟨b, vs, rfl, e, l⟩ := h
    exact RpL.in_ ts vs f l a n
  | .lst true m ts, v, f, h, a, n => by simp only [Rp, if_true] at h; exact absurd (h.1 a) n
  | .lst false m ts, v, f, h, a, n => by
    simp only [Rp, Bool.false_eq_true, if_false] at h
    obtain ⟨b, vs, f', rfl, e, l, fl, cl, hf⟩ := h
    by_cases q : a = b
    · rw [q]; exact ⟨⟨.lst vs, trivial⟩, e⟩
    · exact RpL.in_ ts vs f' l a (by have := hf a; rw [if_neg q] at this; omega)
  | .dic true m ks ts, v, f, h, a, n => by simp only [Rp, if_true] at h; exact absurd (h.1 a) n
  | .dic false m ks ts, v, f, h, a, n => by
    simp only [Rp, Bool.false_eq_true, if_false] at h
    obtain ⟨b, vs, f', rfl, e, l, fl, cl, hf⟩ := h
    by_cases q : a = b
    · rw [q]; exact ⟨⟨.dK (ks.zip vs), trivial⟩, e⟩
    · exact RpL.in_ ts vs f' l a (by have := hf a; rw [if_neg q] at this; omega)
  | .obj i, v, f, h, a, n => by simp only [Rp] at h; exact absurd (h.1 a) n
theorem RpL.in_ : ∀ (ts : List T) (vs : List V) (f : Fp), RpL F H ρ ts vs f → ∀ a, f a ≠ 0 → ∃ w : LDo, H a = some w.1
  | [], vs, f, h, a, n => by simp only [RpL] at h; exact absurd (h.2 a) n
  | t :: ts, vs, f, h, a, n => by
    simp only [RpL] at h
    obtain ⟨v, vs', f1, f2, rfl, h1, h2, hf⟩ := h
    by_cases q : f1 a = 0
    · exact RpL.in_ ts vs' f2 h2 a (by have := hf a; omega)
    · exact Rp.in_ t v f1 h1 a q
end
mutual
theorem Sn.ext (k : Ext H H') (p : Pre ρ ρ') : ∀ (t : T) (v : V), Sn F H ρ t v → Sn F H' ρ' t v
  | .non, v, h => by simpa [Sn] using h
  | .bl b, v, h => by simpa [Sn] using h
  | .int b, v, h => by simpa [Sn] using h
  | .str b, v, h => by simpa [Sn] using h
  | .tup ts, v, h => by
    simp only [Sn] at h ⊢
    obtain ⟨a, vs, rfl, e, l⟩ := h
    exact ⟨a, vs, rfl, k a _ e, SnL.ext k p ts vs l⟩
  | .lst z n ts, v, h => by
    simp only [Sn] at h ⊢
    obtain ⟨a, vs, rfl, fa, e, l, fl⟩ := h
    exact ⟨a, vs, rfl, fa, rd_ext k e, SnL.ext k p ts vs l, fl⟩
  | .dic z n ks ts, v, h => by
    simp only [Sn] at h ⊢
    obtain ⟨a, vs, rfl, fa, e, l, fl⟩ := h
    exact ⟨a, vs, rfl, fa, rd_ext k e, SnL.ext k p ts vs l, fl⟩
  | .obj i, v, h => by
    simp only [Sn] at h ⊢
    obtain ⟨a, e, rfl⟩ := h
    exact ⟨a, p i a e, rfl⟩
theorem SnL.ext (k : Ext H H') (p : Pre ρ ρ') : ∀ (ts : List T) (vs : List V), SnL F H ρ ts vs → SnL F H' ρ' ts vs
  | [], vs, h => by simpa [SnL] using h
  | t :: ts, vs, h => by
    simp only [SnL] at h ⊢
    obtain ⟨v, vs', rfl, h1, h2⟩ := h
    exact ⟨v, vs', rfl, Sn.ext k p t v h1, SnL.ext k p ts vs' h2⟩
end
mutual
theorem Rp.ext (k : Ext H H') (p : Pre ρ ρ') : ∀ (t : T) (v : V) (f : Fp), Rp F H ρ t v f → Rp F H' ρ' t v f
  | .non, v, f, h => by simpa [Rp] using h
  | .bl b, v, f, h => by simpa [Rp] using h
  | .int b, v, f, h => by simpa [Rp] using h
  | .str b, v, f, h => by simpa [Rp] using h
  | .tup ts, v, f, h => by
    simp only [Rp] at h ⊢
    obtain ⟨a, vs, rfl, e, l⟩ := h
    exact ⟨a, vs, rfl, k a _ e, RpL.ext k p ts vs f l⟩
  | .lst true n ts, v, f, h => by
    simp only [Rp, if_true] at h ⊢
    exact ⟨h.1, Sn.ext k p _ v h.2⟩
  | .lst false n ts, v, f, h => by
    simp only [Rp, Bool.false_eq_true, if_false] at h ⊢
    obtain ⟨a, vs, f', rfl, e, l, fl, cl, hf⟩ := h
    exact ⟨a, vs, f', rfl, k a _ e, RpL.ext k p ts vs f' l, fl, cl, hf⟩
  | .dic true n ks ts, v, f, h => by
    simp only [Rp, if_true] at h ⊢
    exact ⟨h.1, Sn.ext k p _ v h.2⟩
  | .dic false n ks ts, v, f, h => by
    simp only [Rp, Bool.false_eq_true, if_false] at h ⊢
    obtain ⟨a, vs, f', rfl, e, l, fl, cl, hf⟩ := h
    exact ⟨a, vs, f', rfl, k a _ e, RpL.ext k p ts vs f' l, fl, cl, hf⟩
  | .obj i, v, f, h => by
    simp only [Rp] at h ⊢
    obtain ⟨z, a, e, rfl⟩ := h
    exact ⟨z, a, p i a e, rfl⟩
theorem RpL.ext (k : Ext H H') (p : Pre ρ ρ') : ∀ (ts : List T) (vs : List V) (f : Fp), RpL F H ρ ts vs f → RpL F H' ρ' ts vs f
  | [], vs, f, h => by simpa [RpL] using h
  | t :: ts, vs, f, h => by
    simp only [RpL] at h ⊢
    obtain ⟨v, vs', f1, f2, rfl, h1, h2, hf⟩ := h
    exact ⟨v, vs', f1, f2, rfl, Rp.ext k p t v f1 h1, RpL.ext k p ts vs' f2 h2, hf⟩
end
mutual
/-- F made smaller where the lists that are only read lie in it: not asked of flat and own ones -/
theorem Sn.low (s : ∀ a, F a → (∃ o, H a = some o) → F' a) : ∀ (t : T) (v : V), Sn F H ρ t v → Sn F' H ρ t v
  | .non, v, h => by simpa [Sn] using h
  | .bl b, v, h => by simpa [Sn] using h
  | .int b, v, h => by simpa [Sn] using h
  | .str b, v, h => by simpa [Sn] using h
  | .tup ts, v, h => by
    simp only [Sn] at h ⊢
    obtain ⟨a, vs, rfl, e, l⟩ := h
    exact ⟨a, vs, rfl, e, SnL.low s ts vs l⟩
  | .lst z n ts, v, h => by
    simp only [Sn] at h ⊢
    obtain ⟨a, vs, rfl, fa, e, l, fl⟩ := h
    exact ⟨a, vs, rfl, s a fa (rd_dom e), e, SnL.low s ts vs l, fl⟩
  | .dic z n ks ts, v, h => by
    simp only [Sn] at h ⊢
    obtain ⟨a, vs, rfl, fa, e, l, fl⟩ := h
    exact ⟨a, vs, rfl, s a fa (rd_dom e), e, SnL.low s ts vs l, fl⟩
  | .obj i, v, h => by simpa [Sn] using h
theorem SnL.low (s : ∀ a, F a → (∃ o, H a = some o) → F' a) : ∀ (ts : List T) (vs : List V), SnL F H ρ ts vs → SnL F' H ρ ts vs
  | [], vs, h => by simpa [SnL] using h
  | t :: ts, vs, h => by
    simp only [SnL] at h ⊢
    obtain ⟨v, vs', rfl, h1, h2⟩ := h
    exact ⟨v, vs', rfl, Sn.low s t v h1, SnL.low s ts vs' h2⟩
end
theorem SnL.length : ∀ {ts : List T} {vs : List V}, SnL F H ρ ts vs → vs.length = ts.length
  | [], vs, h => by simp only [SnL] at h; rw [h]; rfl
  | t :: ts, vs, h => by
    simp only [SnL] at h
    obtain ⟨v, vs', rfl, h1, h2⟩ := h
    simp [h2.length]
theorem SnL.get : ∀ {ts : List T} {vs : List V} {i : Nat} {t : T}, SnL F H ρ ts vs → ts[i]? = some t → ∃ v, vs[i]? = some v ∧ Sn F H ρ t v
  | [], vs, i, t, h, e => by simp at e
  | u :: ts, vs, 0, t, h, e => by
    simp only [SnL] at h
    obtain ⟨v, vs', rfl, h1, h2⟩ := h
    simp at e; subst e
    exact ⟨v, rfl, h1⟩
  | u :: ts, vs, i + 1, t, h, e => by
    simp only [SnL] at h
    obtain ⟨v, vs', rfl, h1, h2⟩ := h
    obtain ⟨w, e1, e2⟩ := SnL.get (i := i) h2 (by simpa using e)
    exact ⟨w, by simpa using e1, e2⟩
theorem SnL.app : ∀ {ts us : List T} {vs ws : List V}, SnL F H ρ ts vs → SnL F H ρ us ws → SnL F H ρ (ts ++ us) (vs ++ ws)
  | [], us, vs, ws, h, g => by simp only [SnL] at h; subst h; exact g
  | t :: ts, us, vs, ws, h, g => by
    simp only [SnL] at h
    obtain ⟨v, vs', rfl, h1, h2⟩ := h
    show SnL F H ρ (t :: (ts ++ us)) (v :: (vs' ++ ws))
    simp only [SnL]
    exact ⟨v, _, rfl, h1, h2.app g⟩
theorem SnL.take : ∀ {ts : List T} {vs : List V} (n : Nat), SnL F H ρ ts vs → SnL F H ρ (ts.take n) (vs.take n)
  | [], vs, n, h => by simp only [SnL] at h; subst h; simp [SnL]
  | t :: ts, vs, 0, h => by simp [SnL]
  | t :: ts, vs, n + 1, h => by
    simp only [SnL] at h
    obtain ⟨v, vs', rfl, h1, h2⟩ := h
    simp only [List.take_succ_cons, SnL]
    exact ⟨v, _, rfl, h1, h2.take n⟩
theorem SnL.drop : ∀ {ts : List T} {vs : List V} (n : Nat), SnL F H ρ ts vs → SnL F H ρ (ts.drop n) (vs.drop n)
  | [], vs, n, h => by simp only [SnL] at h; subst h; simp [SnL]
  | t :: ts, vs, 0, h => by simpa using h
  | t :: ts, vs, n + 1, h => by
    simp only [SnL] at h
    obtain ⟨v, vs', rfl, h1, h2⟩ := h
    simpa using h2.drop n
theorem flatL_app : ∀ {ts us : List T}, flatL ts = true → flatL us = true → flatL (ts ++ us) = true
  | [], us, _, g => g
  | t :: ts, us, h, g => by
    simp only [flatL, List.cons_append, Bool.and_eq_true] at h ⊢
    exact ⟨h.1, flatL_app h.2 g⟩
theorem flatL_take : ∀ {ts : List T} (n : Nat), flatL ts = true → flatL (ts.take n) = true
  | [], n, h => by simp [flatL]
  | t :: ts, 0, h => by simp [flatL]
  | t :: ts, n + 1, h => by
    simp only [flatL, List.take_succ_cons, Bool.and_eq_true] at h ⊢
    exact ⟨h.1, flatL_take n h.2⟩
theorem flatL_drop : ∀ {ts : List T} (n : Nat), flatL ts = true → flatL (ts.drop n) = true
  | [], n, h => by simp [flatL]
  | t :: ts, 0, h => by simpa using h
  | t :: ts, n + 1, h => by
    simp only [flatL, Bool.and_eq_true] at h
    simpa using flatL_drop n h.2
theorem flatL_get : ∀ {ts : List T} {i : Nat} {t : T}, flatL ts = true → ts[i]? = some t → flat t = true
  | [], i, t, _, e => by simp at e
  | u :: ts, 0, t, h, e => by
    simp only [flatL, Bool.and_eq_true] at h
    simp at e; subst e; exact h.1
  | u :: ts, i + 1, t, h, e => by
    simp only [flatL, Bool.and_eq_true] at h
    exact flatL_get (i := i) h.2 (by simpa using e)
end
end Tr
/-! TrSrt: sorted of triples (number, number, truth), told apart by their first numbers. -/
namespace Tr
open PySem PySem.Spec PyProof.Rows L2
abbrev Tri := Int × Int × Bool
theorem each_self {α : Type} {R : α → α → Prop} : ∀ l : List α, (∀ u ∈ l, R u u) → PySem.W.EachIs R l l
  | [], _ => .nil
  | u :: l, h => .cons (h u (by simp)) (each_self l fun v hv => h v (by simp [hv]))
theorem each_eq {α : Type} : ∀ {l m : List α}, PySem.W.EachIs (· = ·) l m → l = m
  | _, _, .nil => rfl
  | _, _, .cons h t => by rw [h, each_eq t]
def encD (p : Tri) : PyData := .tuple [.int p.1, .int p.2.1, .bool p.2.2]
def leF (p q : Tri) : Bool := decide (p.1 ≤ q.1)
theorem le_tri {p q : Tri} (h : p.1 = q.1 → p = q) : PySem.W.dataLe false encD p q = leF p q := by
  rw [PySem.W.dataLe_eq]
  show (!PySem.W.dataLt (encD q) (encD p)) = leF p q
  unfold leF encD
  rw [PySem.W.dataLt_tuple]
  by_cases e : p.1 = q.1
  · have := h e
    subst this
    rw [PyProof.Rows.lex_irrefl (O := PyProof.Rows.itemOrd)]
    simp
  · rw [PySem.W.dataLt_cons rfl, if_neg (by simp [PyData.eqv]; omega), PySem.W.dataLt_int]
    by_cases c : p.1 ≤ q.1
    · rw [decide_eq_true c, decide_eq_false (by omega)]; rfl
    · rw [decide_eq_false c, decide_eq_true (by omega)]; rfl
def rSorted3 (K : PySem.W.Frag) : List V → Hp → VK → Prop := fun vs H Q => ∃ (a : Addr) (xs : List V) (k : V → Tri), vs = [V.ref a] ∧ SqL K H a xs ∧ (∀ x ∈ xs, ∃ t, x = V.ref t ∧ H t = some (.tup [.int (k x).1, .int (k x).2.1, .bl (k x).2.2])) ∧ (∀ x ∈ xs, ∀ y ∈ xs, (k x).1 = (k y).1 → k x = k y) ∧
  ∀ ys p, ys.Perm xs → ys.Pairwise (fun x y => (k x).1 ≤ (k y).1) → H p = none → Q (.ref p) (upd H p (.lst ys))
theorem cr_sorted3 {X : Cx} (hu : X.A.units + 65 < cLine) : CallR X (.builtin "sorted") (rSorted3 X.K) := by
  intro pins s σ H xs us Q I r h
  obtain ⟨a, xs, k, rfl, hs, hx, hd, q⟩ := h
  obtain ⟨its, rv, hl, hz⟩ := I.list hs
  obtain ⟨u, rfl, ru⟩ := vals1 r
  obtain rfl : u = Value.ref a := ru
  obtain ⟨e1, e2⟩ := refs_back rv fun x m => by
    obtain ⟨t, e, _⟩ := hx x m
    exact ⟨t, e⟩
  have mem : ∀ u ∈ its, backV u ∈ xs := fun u hu' => by rw [e1]; exact List.mem_map.mpr ⟨u, hu', rfl⟩
  have rd : ∀ u ∈ its, ∃ as, Reads s.heap u (encD (k (backV u))) as := fun u hu' => by
    obtain ⟨t, rfl⟩ := e2 u hu'
    obtain ⟨t', e, ht⟩ := hx _ (mem _ hu')
    cases e
    obtain ⟨_, its2, r2, o, ho, hc, n, hdd⟩ := I.hok _ _ ht
    cases r2 with
    | cons ri r3 => cases r3 with
      | cons rj r4 => cases r4 with
        | cons rb r5 =>
          cases r5
          obtain ⟨t1, rfl⟩ := ri
          obtain ⟨t2, rfl⟩ := rj
          cases rb
          exact ⟨_, .tuple ho hc hdd (.cons (.int _ _) (.cons (.int _ _) (.cons (.bool _) .nil)))⟩
  refine PySem.W.sorted_data (β := Value) (bs := its) (enc := fun u => encD (k (backV u))) (R := (· = ·)) hl.isList (each_self its fun _ _ => rfl) (each_self its rd) (PySem.W.AllAlike.of fun b b' => rfl) (PySem.W.Sortable.tuples fun b => ⟨_, _, rfl⟩) (by rw [← rv.length]; exact hz) (fun b _ => ?_) fun out ho eo => ?_
  · have : (encD (k (backV b))).depth = 1 := rfl
    rw [this]
    omega
  · have eo := each_eq eo
    subst eo
    have pm : (its.mergeSort (PySem.W.dataLe false fun u => encD (k (backV u)))).Perm its := List.mergeSort_perm its _
    have pw := PySem.W.sort_pairwise (PySem.W.sortLe_total (PyProof.Rows.listOrd PyProof.Rows.itemOrd) false fun u => PySem.W.keyToks (encD (k (backV u)))) its
    generalize ho' : its.mergeSort (PySem.W.dataLe false fun u => encD (k (backV u))) = out at *
    have pw' : out.Pairwise fun u v => PySem.W.dataLe false (fun u => encD (k (backV u))) u v = true := by rw [← ho']; exact pw
    have h3 : ∀ u ∈ out, ∃ a, u = Value.ref a := fun u hu' => e2 u (pm.mem_iff.mp hu')
    obtain ⟨n, hn⟩ := sortedAll_at s.heap its out.toArray
    have hdd : s.heap.objs.size ≤ s.heap.objs.size + 1 := Nat.le_succ _
    refine ⟨.ref (s.heap.objs.size + 1), upd H (s.heap.objs.size + 1) (.lst (out.map backV)), I.laid (t' := s.toks) (fun _ _ => sortedAll_old) hdd ⟨?_, out, n, vals_back h3, hn⟩, rfl, q _ _ ?_ ?_ (I.hok.fresh hdd)⟩
    · rw [List.length_map, ho, ← rv.length]; exact hz
    · rw [e1]; exact pm.map backV
    · rw [List.pairwise_map]
      have hm : ∀ u ∈ out, u ∈ its := fun u hu' => pm.mem_iff.mp hu'
      refine List.Pairwise.imp_of_mem (fun {u v} mu mv h => ?_) pw'
      have e := le_tri (p := k (backV u)) (q := k (backV v)) (hd _ (mem u (hm u mu)) _ (mem v (hm v mv)))
      have h' : PySem.W.dataLe false encD (k (backV u)) (k (backV v)) = true := h
      rw [e] at h'
      exact of_decide_eq_true h'
end Tr
/-! TrKey: sorted by a key that is a def of one item of a tuple. -/
namespace Tr
open PySem PySem.Spec PyProof.Rows L2
/-- the def at f tells the item j of a tuple, where it is a whole number -/
def KeyA (P : Program) (w : World) (K : PySem.W.Frag) (mg : Str → Option Value) (base : Heap) (f : Addr) (j : Nat) : Prop :=
  ∀ (A : Around) (outer : List Env) (s : Shared) (t : Addr) (its : Array Value) (n : Int) (tk : Tok), Room 1 A → Env0 P w K mg base A outer s (fun _ => none) → IsTup s.heap t its → its[j]? = some (.int n tk) → j < 1000 →
    wpAny (model P w) A (call (.ref f) [.ref t]) (PySem.W.KeyPure (.int n) s) (fun _ _ => False) s
theorem key_body {P : Program} {w : World} {K : PySem.W.Frag} {mg : Str → Option Value} {base : Heap} {f : Addr} {x q : Str} {params : Arguments} {scope : Scope} {N : List Str} {y : Str} {j kk : Nat} {p1 p2 p3 p4 : Pos} {fd : FuncData}
    (F : FunD K x q params [.Return (some (.Subscript (.Name y p1) (.Constant (.int (j : Int)) kk p2) p3)) p4] scope [] [] f fd) (S : FnScope N [y] scope) (hb : Binds K fd [y] []) (hd : (y == ("__debug__" : Str)) = false) (hcc : (y == ("__classdict__" : Str)) = false) : KeyA P w K mg base f j := by
  obtain ⟨oc, od, dV, kV, doc, pm, an, cdv, ct, osl, rfl, lk, hcd, _, _⟩ := F.ex
  intro A outer s t its n tk hr e0 ht hj hlt
  have KX : K.In s.heap := e0.mod.kin.keeps fun b o e => (e0.bs b o e).1
  have lim : s.heap.NoLimit := e0.mod.nolimit.keeps fun b o e => (e0.bs b o e).1
  have hkind : ∀ z ∈ [y].zip [Value.ref t], scope.names.lookup z.1 = some .local ∨ (scope.names.lookup z.1 = some .cell ∧ ((cellsFrom (s.heap.objs.size + 1) scope.names []).lookup z.1).isSome = true) := fun ⟨n, v⟩ hy => by
    rcases S.par n (List.of_mem_zip hy).1 with q | q
    · exact .inl q
    · exact .inr ⟨q, PySem.W.cellsFrom_some _ _ _ (.inl q)⟩
  refine wpAny_call (codeAny_call_function hr.depth (KX _ _ lk) rfl S.co S.gen rfl (PySem.W.codeRec_of KX hcd) (hb s [.ref t] KX rfl _ _ _ _ ?_))
  refine wpAny_newFunctionEnv_cells S.kind hkind fun env he s1 x => ?_
  subst he
  refine ⟨lim.keeps x.toInCall.keep, codeAny_func ?_⟩
  have hr0 : Room 0 (A.deeper (envOfC q scope s.heap.objs.size f cdv)) := hr.deeper _
  have I : Inv (cxOf (L2.CX P w) P w K mg base N q scope f cdv A outer s (fun _ => none) (fun _ _ _ => False)) [] (start N [V.ref t]) (fun _ => none) s1 := inv_start S hr.hd e0 rfl (.cons (show RelV (V.ref t) (Value.ref t) from rfl) .nil) x
  obtain ⟨m, hn, hl⟩ := I.loc
  obtain ⟨h1, tk1, e1, hk1⟩ := x.done
  have N0 : N[0]? = some y := by
    have := S.pre
    cases N with
    | nil => exact nomatch this
    | cons a as => simpa using this
  have Vy : Vis scope y := by
    rcases S.par y (by simp) with q | q
    · exact .inl q
    · exact .inr (.inl q)
  obtain ⟨u, ru, lu⟩ := hl 0 y (.ref t) N0 rfl Vy
  obtain rfl : u = Value.ref t := ru
  have ht1 : IsTup s1.heap t its := ht.keeps x.toInCall.keep
  have hjs : j < its.size := by
    by_cases h : j < its.size
    · exact h
    · rw [Array.getElem?_eq_none (by omega)] at hj; exact nomatch hj
  have tail : wpAny (model P w) (A.deeper (envOfC q scope s.heap.objs.size f cdv)) (eval (.Constant (.int (j : Int)) kk p2) (envOfC q scope s.heap.objs.size f cdv)) (fun i s2 => wpAny (model P w) (A.deeper (envOfC q scope s.heap.objs.size f cdv)) (subscriptTail (.Name y p1) (.Constant (.int (j : Int)) kk p2) (.ref t) i) (fun v s3 => v = .int n tk ∧ ∃ tk3, s3 = { s1 with toks := tk3 }) (fun _ _ => False) s2) (fun _ _ => False) s1 := by
    refine wpAny_Constant_int ?_
    have ht2 : IsTup ({ s1 with toks := s1.toks + 1 } : Shared).heap t its := ht1
    exact subscriptTail_builtinR (x := .int n tk) ht2.typeIs slot_tuple_getitem.lookup
      (getItem_tuple (j := j) (Q := fun r s' => r = .int n tk ∧ r = .int n tk ∧ ∃ tk3, s' = { s1 with toks := tk3 }) ht2 (by omega) (by omega) (by rw [seqIndex_of (by omega) (by omega)]; simp) hj ⟨rfl, rfl, _, rfl⟩)
  have main : wpAny (model P w) (A.deeper (envOfC q scope s.heap.objs.size f cdv)) (eval (.Subscript (.Name y p1) (.Constant (.int (j : Int)) kk p2) p3) (envOfC q scope s.heap.objs.size f cdv)) (fun v s3 => v = .int n tk ∧ ∃ tk3, s3 = { s1 with toks := tk3 }) (fun _ _ => False) s1 := by
    refine Subscript_ ?_
    rcases lu with ⟨hk, hm⟩ | ⟨hk, c, hc, hcell⟩
    · exact wpAny_Name (wpAny_loadName_local I.ok.kind hk hn hm tail) hd
    · rcases hk with hk | hk
      · exact wpAny_Name (wpAny_loadName_cell I.ok.kind hk hc hcell tail) hd
      · exact wpAny_Name (wpAny_loadName_free I.ok.kind hk hc hcell tail hcc) hd
  refine wpAny_execs_cons (wpAny_mono (wpAny_Return_some (Q := fun f s' => f = .ret (.int n tk) ∧ ∃ tk3, s' = { s1 with toks := tk3 }) (wpAny_mono main (fun v s3 h => ⟨by rw [h.1], h.2⟩) fun _ _ h => h)) (fun g s3 h => ?_) fun _ _ h => h.elim)
  obtain ⟨rfl, tk3, rfl⟩ := h
  exact ⟨h1, tk3, by rw [e1], hk1, .int _ _⟩
theorem each_self' {α : Type} : ∀ l : List α, PySem.W.EachIs (· = ·) l l
  | [] => .nil
  | u :: l => .cons rfl (each_self' l)
theorem each_eq' {α : Type} : ∀ {l m : List α}, PySem.W.EachIs (· = ·) l m → l = m
  | _, _, .nil => rfl
  | _, _, .cons h t => by rw [h, each_eq' t]
def rSortK (K : PySem.W.Frag) (j : Nat) (f : Addr) : List V → List V → Hp → VK → Prop := fun vs zs H Q => ∃ (a : Addr) (xs : List V) (k : V → Int), vs = [V.ref a] ∧ zs = [V.ref f] ∧ SqL K H a xs ∧ (∀ x ∈ xs, ∃ t ys, x = V.ref t ∧ SqT K H t ys ∧ ys[j]? = some (.int (k x))) ∧ j < 1000 ∧
  ∀ ys p, ys.Perm xs → ys.Pairwise (fun x y => k x ≤ k y) → H p = none → Q (.ref p) (upd H p (.lst ys))
theorem cr_sortK {X : Cx} {j : Nat} {f : Addr} (hr : Room 3 X.A) (hk : KeyA X.prog X.w X.K X.mg X.base f j) : CallRK X (.builtin "sorted") [Str.ofString "key"] (rSortK X.K j f) := by
  intro pins s σ H xs zs us ws Q I r rz h
  obtain ⟨a, xs, k, rfl, rfl, hs, hx, hj, q⟩ := h
  obtain ⟨its, rv, hl, hz⟩ := I.list hs
  obtain ⟨u, rfl, ru⟩ := vals1 r
  obtain rfl : u = Value.ref a := ru
  obtain ⟨u, rfl, ru⟩ := vals1 rz
  obtain rfl : u = Value.ref f := ru
  obtain ⟨e1, e2⟩ := refs_back rv fun x m => by
    obtain ⟨t, ys, e, _⟩ := hx x m
    exact ⟨t, e⟩
  have mem : ∀ u ∈ its, backV u ∈ xs := fun u hu' => by rw [e1]; exact List.mem_map.mpr ⟨u, hu', rfl⟩
  have hun := hr.un
  refine PySem.W.sorted_key_data (β := Value) (bs := its) (R := (· = ·)) (b := false) (fun u => PyData.int (k (backV u))) hl.isList (each_self' its) (PySem.W.AllAlike.of fun b b' => rfl) (PySem.W.Sortable.others fun b => ⟨by simp, by simp⟩) (by rw [← rv.length]; exact hz) (fun b _ => ?_) (PyProof.Rows.ksk_s1 _ _) (fun _ => PyProof.Rows.ksk_l1 _ _) (fun _ => PyProof.Rows.ksk_t1 _ _) ?_ ?_
  · have : (PyData.int (k (backV b))).depth = 0 := rfl
    rw [this]
    omega
  · intro v x e hx' h tk kp
    subst e
    obtain ⟨t, rfl⟩ := e2 v hx'
    obtain ⟨t', ys, e, ht, hy⟩ := hx _ (mem _ hx')
    cases e
    obtain ⟨its2, r2, it, _⟩ := I.tuple ht
    obtain ⟨w, ew, rw'⟩ := r2.get hy
    obtain ⟨tk2, rfl⟩ := rw'
    have e0 := I.env0
    refine hk X.A.in1.in1 X.stack { s with heap := h, toks := tk } t its2.toArray (k (backV (.ref t))) tk2 ((hr.in1).in1) ⟨e0.in1.in1.frames, e0.mod, fun b o e => ⟨kp b o (e0.bs b o e).1, rfl⟩, ?_, ?_, fun _ _ => rfl, fun a o e => (nomatch e), e0.bare⟩ (it.keeps kp) (by simpa using ew) hj
    · obtain ⟨m, hn, _⟩ := I.loc
      obtain ⟨o, _, _, ho, _⟩ := hn
      have h1 : X.env.locals < h.objs.size := Heap.lt_size (kp _ _ ho)
      have h2 : X.base.objs.size ≤ X.s_0.heap.objs.size := I.ok.bsz
      have h3 : X.s_0.heap.objs.size ≤ X.env.locals := I.ok.above
      exact Nat.le_trans h2 (Nat.le_trans h3 (Nat.le_of_lt h1))
    · exact Heap.FunFrames.of_keeps (fun b o ho _ => ⟨o, kp b o ho, rfl⟩) e0.funs
  · intro out c h' tk kp fr at_ lo eo
    have eo := each_eq' eo
    subst eo
    have pm : (its.mergeSort (PySem.W.dataLe false fun u => PyData.int (k (backV u)))).Perm its := List.mergeSort_perm its _
    have pw := PySem.W.sort_pairwise (PySem.W.sortLe_total (PyProof.Rows.listOrd PyProof.Rows.itemOrd) false fun u => PySem.W.keyToks (PyData.int (k (backV u)))) its
    generalize ho' : its.mergeSort (PySem.W.dataLe false fun u => PyData.int (k (backV u))) = out at *
    have pw' : out.Pairwise fun u v => PySem.W.dataLe false (fun u => PyData.int (k (backV u))) u v = true := by rw [← ho']; exact pw
    have h3 : ∀ u ∈ out, ∃ a, u = Value.ref a := fun u hu' => e2 u (pm.mem_iff.mp hu')
    have hdd : s.heap.objs.size ≤ s.heap.objs.size + 1 := Nat.le_succ _
    refine ⟨.ref (s.heap.objs.size + 1), upd H (s.heap.objs.size + 1) (.lst (out.map backV)), I.laid (t' := tk) kp hdd ⟨?_, out, c, vals_back h3, at_⟩, rfl, q _ _ ?_ ?_ (I.hok.fresh hdd)⟩
    · rw [List.length_map, lo, ← rv.length]; exact hz
    · rw [e1]; exact pm.map backV
    · rw [List.pairwise_map]
      refine List.Pairwise.imp_of_mem (fun {u v} mu mv h => ?_) pw'
      have h' : PySem.W.dataLe false (fun u => PyData.int (k (backV u))) u v = true := h
      rw [PySem.W.dataLe_eq] at h'
      have h2 : (!PySem.W.dataLt (PyData.int (k (backV v))) (PyData.int (k (backV u)))) = true := h'
      rw [PySem.W.dataLt_int] at h2
      simp only [Bool.not_eq_true', decide_eq_false_iff_not] at h2
      omega
end Tr
/-! TrPure: a value that is reckoned is the tree's. -/
namespace Tr
open PySem PySem.Spec PyProof.Rows L2

abbrev Top : As := fun _ => True
/-- what a reckoning leaves: the heap has grown, the value's own lists are new -/
structure PR (H : Hp) (ρ : List Addr) (H' : Hp) (t : T) (v : V) : Prop where
  ext : Ext H H'
  rp : ∃ f, Rp Top H' ρ t v f ∧ (∀ b, f b ≤ 1) ∧ ∀ b, dom H b → f b = 0
theorem PR.base {H H1 H' ρ t v} (e : Ext H H1) (p : PR H1 ρ H' t v) : PR H ρ H' t v :=
  ⟨e.trans p.ext, let ⟨f, a, b, c⟩ := p.rp; ⟨f, a, b, fun x hx => c x (e.dom hx)⟩⟩
theorem PR.sn {H ρ H' t v} (p : PR H ρ H' t v) : Sn Top H' ρ t v := let ⟨f, a, _, _⟩ := p.rp; Rp.sn t v f (fun _ h => h) (fun _ _ => trivial) a
/-- a flat value -/
theorem PR.flat {H ρ t v} (fl : flat t = true) (s : Sn Top H ρ t v) : PR H ρ H t v := ⟨Ext.refl, _, Sn.rp0 t v fl s, fun _ => Nat.zero_le _, fun _ _ => rfl⟩
theorem PR.view {H ρ t v} (s : Sn Top H ρ t v) : PR H ρ H (Tr.view t) v := ⟨Ext.refl, _, s.view, fun _ => Nat.zero_le _, fun _ _ => rfl⟩
theorem PR.int {H ρ i} : PR H ρ H (.int i) (.int i) := .flat rfl (by simp [Sn])
theorem PR.bl {H ρ i} : PR H ρ H (.bl i) (.bl i) := .flat rfl (by simp [Sn])
theorem PR.str {H ρ i} : PR H ρ H (.str i) (.str i) := .flat rfl (by simp [Sn])
theorem PR.non {H ρ} : PR H ρ H .non .non := .flat rfl (by simp [Sn])
/-- a new list of flat items -/
theorem PR.newl {H ρ ts vs p} (n : H p = none) (fl : flatL ts = true) (s : SnL Top H ρ ts vs) : PR H ρ (upd H p (.lst vs)) (.lst false false ts) (.ref p) := by
  have e := Ext.upd (o := .lst vs) n
  refine ⟨e, fun b => if b = p then 1 else 0, ?_, fun b => by by_cases q : b = p <;> simp [q], fun b ⟨o, hb⟩ => ?_⟩
  · simp only [Rp, Bool.false_eq_true, if_false]
    exact ⟨p, vs, fun _ => 0, rfl, upd_same, SnL.rp0 ts vs fl (SnL.ext e Pre.refl ts vs s), fun _ => fl, cleanL_of_flatL ts fl, fun b => by simp⟩
  · have q : b ≠ p := ne_of_none hb n
    simp [q]

section
variable {X : Cx} {ρ : List Addr}

theorem sn_int {F H i v} (h : Sn F H ρ (.int i) v) : v = .int i := by simpa [Sn] using h
theorem sn_bl {F H i v} (h : Sn F H ρ (.bl i) v) : v = .bl i := by simpa [Sn] using h
theorem sn_str {F H i v} (h : Sn F H ρ (.str i) v) : v = .str i := by simpa [Sn] using h
theorem sn_non {F H v} (h : Sn F H ρ .non v) : v = .non := by simpa [Sn] using h
theorem sn_lst {F H z n ts v} (h : Sn F H ρ (.lst z n ts) v) : ∃ a vs, v = .ref a ∧ Rd H a (.lst vs) ∧ SnL F H ρ ts vs ∧ (n = false → flatL ts = true) := by
  simp only [Sn] at h
  obtain ⟨a, vs, rfl, _, e, l, fl⟩ := h
  exact ⟨a, vs, rfl, e, l, fl⟩
theorem sn_dic {F H z n ks ts v} (h : Sn F H ρ (.dic z n ks ts) v) : ∃ a vs, v = .ref a ∧ Rd H a (.dK (ks.zip vs)) ∧ SnL F H ρ ts vs ∧ (n = false → flatL ts = true) ∧ DKy ks ts := by
  simp only [Sn] at h
  obtain ⟨a, vs, rfl, _, e, l, fl, dk⟩ := h
  exact ⟨a, vs, rfl, e, l, fl, dk⟩
theorem sn_tup {F H ts v} (h : Sn F H ρ (.tup ts) v) : ∃ a vs, v = .ref a ∧ H a = some (.tup vs) ∧ SnL F H ρ ts vs := by
  simpa only [Sn] using h

/-- an operator by trees -/
def rT (ρ : List Addr) (g : T → T → Rs T) : R2 := fun v w H Q => ∃ x y t, Sn Top H ρ x v ∧ Sn Top H ρ y w ∧ g x y = .ok t ∧ ∀ u H', PR H ρ H' t u → Q u H'
def pyOp : BOp → Operator
  | .add => .Add | .sub => .Sub | .mul => .Mult | .fdiv => .FloorDiv | .mod => .Mod | .pow => .Pow | .shl => .LShift | .shr => .RShift | .band => .BitAnd | .bor => .BitOr | .bxor => .BitXor

theorem mulOk_ok {i j : Int} (h : mulOk i j = true) : IntMulOk i j := by
  unfold mulOk at h
  simp only [Bool.or_eq_true, decide_eq_true_eq] at h
  rcases h with (h | h) | h
  · exact CMul.ok (.inl (by omega))
  · exact CMul.ok (.inr (by omega))
  · have b : ∀ x : Int, Builtin.Int.intBits x ≤ x.natAbs.log2 + 1 := fun x => by
      unfold Builtin.Int.intBits
      split <;> omega
    have h1 := b i
    have h2 := b j
    refine CMulX.ok ?_
    unfold CMulX
    omega
def CMulT (i j : Int) : Prop := mulOk i j = true
theorem op_mulT : OpR X (binaryOp .Mult) (rI CMulT fun i j => .int (i * j)) := opI fun _ _ _ _ _ _ _ hc q => mul_int q (mulOk_ok hc)
/-- xs + ys, any two lists that may be read -/
theorem op_catR : OpR X (binaryOp .Add) (fun x y H Q => ∃ l b xs zs, x = .ref l ∧ y = .ref b ∧ Rd H l (.lst xs) ∧ Rd H b (.lst zs) ∧ xs.length + zs.length ≤ sizeLine ∧ ∀ p, H p = none → Q (.ref p) (upd H p (.lst (xs ++ zs)))) := by
  intro pins s σ H x y v u Q I rx ry h
  obtain ⟨l, b, xs, zs, rfl, rfl, hH, hB, hz, q⟩ := h
  cases rx
  cases ry
  obtain ⟨z, its, n, r, e⟩ := hH.ok I.hok
  obtain ⟨z2, its2, n2, r2, e2⟩ := hB.ok I.hok
  have hl := r.length
  have hl2 := r2.length
  refine PySem.P.add_list e e2 ?_ (by rw [List.size_toArray, List.size_toArray]; omega)
  have ea : its.toArray ++ its2.toArray = (its ++ its2).toArray := by simp
  rw [ea]
  exact ⟨.ref _, _, I.lnew (t' := s.toks) (r.append r2) (by rw [List.length_append]; omega), rfl, q _ I.fresh⟩
theorem op_repR : OpR X (binaryOp .Mult) (fun x y H Q => ∃ l k xs, x = .ref l ∧ y = .int k ∧ Rd H l (.lst xs) ∧ -(2 ^ 63) ≤ k ∧ k < 2 ^ 63 ∧ xs.length * k.toNat ≤ sizeLine ∧
  ∀ p, H p = none → Q (.ref p) (upd H p (.lst (List.replicate k.toNat xs).flatten))) := by
  intro pins s σ H x y v u Q I rx ry h
  obtain ⟨l, k, xs, rfl, rfl, hH, h1, h2, hz, q⟩ := h
  cases rx
  obtain ⟨t, rfl⟩ := ry
  obtain ⟨z, its, n, r, e⟩ := hH.ok I.hok
  have hl := r.length
  have hlen : its.toArray.size * k.toNat ≤ sizeLine := by rw [List.size_toArray, ← hl]; exact hz
  have hcap : ¬ its.toArray.size * k.toNat > (2 ^ 63 - 1) / 8 := by
    have : (sizeLine : Nat) ≤ (2 ^ 63 - 1) / 8 := by decide
    omega
  have hfit : ¬ (!Builtin.List.listFitsIndex k) = true := by
    rw [fitsIndex_both h1 h2]
    exact Bool.false_ne_true
  have hlong : ¬ Builtin.List.listTooLong (its.toArray.size * k.toNat) = true := by
    rw [notLongL hlen]
    exact Bool.false_ne_true
  have hnew : List.foldl (fun x1 x2 => x1 ++ x2) #[] (List.replicate (if its.toArray.isEmpty = true then 0 else k.toNat) its.toArray) = (List.replicate k.toNat its).flatten.toArray := by
    have f0 : ∀ m : Nat, List.foldl (fun x1 x2 => x1 ++ x2) #[] (List.replicate m its.toArray) = (List.replicate m its).flatten.toArray := fun m => by
      have := foldl_rep its m []
      rw [List.nil_append] at this
      exact this
    rw [f0]
    cases its with
    | nil => simp
    | cons a r' => rw [if_neg (by simp)]
  refine wpAny_binaryOp_repeat_ref (T := "list") (U := "int") (by decide) ⟨_, e, rfl⟩ (fun s' => typeIs_int s' k t) noFill_list_mul F.fills_int_mul F.slot_int_rmul repeat_list F.slot_int_index.lookup
    (call_meets F.slot_int_rmul (typeIs_int s k t) F.entry_int_rmul (F.args_int_rmul_2 _ _) (int___rmul___int_list k t l its.toArray n)
      ⟨e, rfl, ⟨_, e, rfl⟩, call_meets F.slot_list_mul ⟨_, e, rfl⟩ F.entry_list_mul (F.args_list_mul_2 _ _) (AutoListH.list___mul___list_int_3 l its.toArray n k t hfit hcap hlong) ⟨e, ?_⟩⟩)
  rw [hnew]
  exact ⟨.ref _, _, I.lnew (t' := s.toks) (r.rep k.toNat) (by rw [PyProof.Rows.lm_len_rep_flat, Nat.mul_comm]; exact hz), rfl, q _ I.fresh⟩
theorem SnL.rep {F H} {ts : List T} {vs : List V} (h : SnL F H ρ ts vs) : ∀ k : Nat, SnL F H ρ (List.replicate k ts).flatten (List.replicate k vs).flatten
  | 0 => by simp [SnL]
  | k + 1 => by
    simp only [List.replicate_succ, List.flatten_cons]
    exact h.app (SnL.rep h k)
theorem flatL_rep {ts : List T} (h : flatL ts = true) : ∀ k : Nat, flatL (List.replicate k ts).flatten = true
  | 0 => by simp [flatL]
  | k + 1 => by
    simp only [List.replicate_succ, List.flatten_cons]
    exact flatL_app h (flatL_rep h k)
theorem sizeT_eq : sizeT = sizeLine := by rw [sizeLine_eq]; rfl
theorem bin_ok (op : BOp) : OpR X (binaryOp (pyOp op)) (rT ρ (binT op)) := by
  intro pins s σ H v w u1 u2 Q I r1 r2 h
  obtain ⟨x, y, t, sx, sy, e, k⟩ := h
  have ok : ∀ {a b : T}, (Rs.ok a : Rs T) = .ok b → a = b := fun h => by injection h
  have no : ∀ {b : T}, (Rs.no : Rs T) = .ok b → False := fun h => by injection h
  unfold binT at e
  split at e
  · obtain rfl := sn_int sx; obtain rfl := sn_int sy; obtain rfl := ok e
    exact op_add pins s σ H _ _ _ _ Q I r1 r2 ⟨_, _, rfl, rfl, k _ _ PR.int⟩
  · obtain rfl := sn_int sx; obtain rfl := sn_bl sy; obtain rfl := ok e
    exact op_add_ib pins s σ H _ _ _ _ Q I r1 r2 ⟨_, _, rfl, rfl, k _ _ PR.int⟩
  · obtain rfl := sn_str sx; obtain rfl := sn_str sy
    split at e
    · obtain rfl := ok e
      exact op_add_str pins s σ H _ _ _ _ Q I r1 r2 ⟨_, _, rfl, rfl, by rw [← sizeT_eq]; assumption, k _ _ PR.str⟩
    · exact (no e).elim
  · obtain ⟨a, vs, rfl, ra, la, fa⟩ := sn_lst sx
    obtain ⟨b, ws, rfl, rb, lb, fb⟩ := sn_lst sy
    split at e
    · rename_i hz
      obtain rfl := ok e
      refine op_catR pins s σ H _ _ _ _ Q I r1 r2 ⟨_, _, _, _, rfl, rfl, ra, rb, ?_, fun p np => k _ _ (PR.newl np (flatL_app (fa rfl) (fb rfl)) (la.app lb))⟩
      rw [la.length, lb.length, ← sizeT_eq]; exact hz
    · exact (no e).elim
  · obtain rfl := sn_int sx; obtain rfl := sn_int sy; obtain rfl := ok e
    exact op_sub pins s σ H _ _ _ _ Q I r1 r2 ⟨_, _, rfl, rfl, k _ _ PR.int⟩
  · obtain rfl := sn_int sx; obtain rfl := sn_int sy
    split at e
    · obtain rfl := ok e
      exact op_mulT pins s σ H _ _ _ _ Q I r1 r2 ⟨_, _, rfl, rfl, by assumption, k _ _ PR.int⟩
    · exact (no e).elim
  · obtain ⟨a, vs, rfl, ra, la, fa⟩ := sn_lst sx
    obtain rfl := sn_int sy
    split at e
    · rename_i hz
      simp only [Bool.and_eq_true, decide_eq_true_eq] at hz
      obtain rfl := ok e
      exact op_repR pins s σ H _ _ _ _ Q I r1 r2 ⟨_, _, _, rfl, rfl, ra, hz.1.1, hz.1.2, by rw [la.length, ← sizeT_eq]; exact hz.2, fun p np => k _ _ (PR.newl np (flatL_rep (fa rfl) _) (la.rep _))⟩
    · exact (no e).elim
  · obtain rfl := sn_int sx; obtain rfl := sn_int sy
    split at e
    · rename_i hz
      simp only [divOk, Bool.and_eq_true, decide_eq_true_eq] at hz
      obtain rfl := ok e
      exact op_fdivW pins s σ H _ _ _ _ Q I r1 r2 ⟨_, _, rfl, rfl, hz, k _ _ PR.int⟩
    · exact (no e).elim
  · obtain rfl := sn_int sx; obtain rfl := sn_int sy
    split at e
    · obtain rfl := ok e
      exact op_mod pins s σ H _ _ _ _ Q I r1 r2 ⟨_, _, rfl, rfl, by assumption, k _ _ PR.int⟩
    · exact (no e).elim
  · obtain rfl := sn_int sx; obtain rfl := sn_int sy
    split at e
    · rename_i hz
      simp only [powOk, Bool.and_eq_true, decide_eq_true_eq] at hz
      obtain rfl := ok e
      exact op_pow pins s σ H _ _ _ _ Q I r1 r2 ⟨_, _, rfl, rfl, ⟨hz.1.1, hz.1.2, hz.2⟩, k _ _ PR.int⟩
    · exact (no e).elim
  · obtain rfl := sn_int sx; obtain rfl := sn_int sy
    split at e
    · rename_i hz
      simp only [shlOk, Bool.and_eq_true, decide_eq_true_eq] at hz
      obtain rfl := ok e
      rename_i i j
      have hc : CShl i j := by
        obtain ⟨n, rfl⟩ := Int.eq_ofNat_of_zero_le hz.1.1
        refine shl_ok (n := 4096) ?_ (by have := hz.1.2; omega)
        by_cases z : i.natAbs = 0
        · rw [z]; exact Nat.two_pow_pos _
        · exact (Nat.log2_lt z).mp hz.2
      exact op_shlW pins s σ H _ _ _ _ Q I r1 r2 ⟨_, _, rfl, rfl, hc, k _ _ PR.int⟩
    · exact (no e).elim
  · obtain rfl := sn_int sx; obtain rfl := sn_int sy
    split at e
    · obtain rfl := ok e
      exact op_shr pins s σ H _ _ _ _ Q I r1 r2 ⟨_, _, rfl, rfl, by assumption, k _ _ PR.int⟩
    · exact (no e).elim
  · obtain rfl := sn_int sx; obtain rfl := sn_int sy; obtain rfl := ok e
    exact op_and pins s σ H _ _ _ _ Q I r1 r2 ⟨_, _, rfl, rfl, k _ _ PR.int⟩
  · obtain rfl := sn_int sx; obtain rfl := sn_int sy; obtain rfl := ok e
    exact op_or pins s σ H _ _ _ _ Q I r1 r2 ⟨_, _, rfl, rfl, k _ _ PR.int⟩
  · obtain rfl := sn_int sx; obtain rfl := sn_int sy; obtain rfl := ok e
    exact op_xor pins s σ H _ _ _ _ Q I r1 r2 ⟨_, _, rfl, rfl, k _ _ PR.int⟩
  · exact (no e).elim

/-! ### comparisons -/
def pyCmp : COp → CmpOp
  | .eq => .Eq | .ne => .NotEq | .lt => .Lt | .le => .LtE | .gt => .Gt | .ge => .GtE | .is_ => .Is | .isn => .IsNot | .in_ => .In | .nin => .NotIn
theorem rd_sqL {K H a vs} (h : Rd H a (.lst vs)) : SqL K H a vs := .inl h
mutual
theorem dp_of {K F H} : ∀ (t : T) (v : V) (d : PyData), Sn F H ρ t v → dat t = some d → Dp K H v d
  | .non, v, d, h, e => by
    obtain rfl := sn_non h
    simp only [dat] at e; cases e; exact .non
  | .bl b, v, d, h, e => by
    obtain rfl := sn_bl h
    simp only [dat] at e; cases e; exact .bl b
  | .int b, v, d, h, e => by
    obtain rfl := sn_int h
    simp only [dat] at e; cases e; exact .int b
  | .str b, v, d, h, e => by
    obtain rfl := sn_str h
    simp only [dat] at e; cases e; exact .str b
  | .tup ts, v, d, h, e => by
    obtain ⟨a, vs, rfl, ea, l⟩ := sn_tup h
    simp only [dat] at e
    cases q : datL ts with
    | none => rw [q] at e; cases e
    | some ds =>
      rw [q] at e; cases e
      exact .tup (SqT.of ea) (dpL_of ts vs ds l q)
  | .lst z n ts, v, d, h, e => by
    obtain ⟨a, vs, rfl, ea, l, _⟩ := sn_lst h
    simp only [dat] at e
    cases q : datL ts with
    | none => rw [q] at e; cases e
    | some ds =>
      rw [q] at e; cases e
      exact .lst (rd_sqL ea) (dpL_of ts vs ds l q)
  | .dic z n ks ts, v, d, h, e => by simp only [dat] at e; cases e
  | .obj i, v, d, h, e => by simp only [dat] at e; cases e
theorem dpL_of {K F H} : ∀ (ts : List T) (vs : List V) (ds : List PyData), SnL F H ρ ts vs → datL ts = some ds → DpAll K H vs ds
  | [], vs, ds, h, e => by
    simp only [SnL] at h
    simp only [datL] at e
    cases e; subst h; exact .nil
  | t :: ts, vs, ds, h, e => by
    simp only [SnL] at h
    obtain ⟨v, vs', rfl, h1, h2⟩ := h
    simp only [datL] at e
    split at e
    · rename_i d ds' q1 q2
      cases e
      exact .cons (dp_of t v d h1 q1) (dpL_of ts vs' ds' h2 q2)
    · cases e
end
theorem eqT_ok {K F H} {x y : T} {v w : V} {c : Bool} (sx : Sn F H ρ x v) (sy : Sn F H ρ y w) (e : eqT x y = some c) :
    ∃ d d', Dp K H v d ∧ Dp K H w d' ∧ SeqAt.shaped d = true ∧ SeqAt.shaped d' = true ∧ c = PyData.eqv d d' := by
  unfold eqT at e
  split at e
  · rename_i d d' q1 q2
    split at e
    · rename_i hs
      simp only [Bool.and_eq_true] at hs
      cases e
      exact ⟨d, d', dp_of x v d sx q1, dp_of y w d' sy q2, hs.1, hs.2, rfl⟩
    · cases e
  · cases e
theorem eqQ_ok {F H} {x y : T} {v w : V} {c : Bool} (sx : Sn F H ρ x v) (sy : Sn F H ρ y w) (e : eqQ x y = some c) :
    (scal v w = true ∧ c = decide (v = w)) ∨ eqT x y = some c := by
  unfold eqQ at e
  split at e
  · obtain rfl := sn_int sx; obtain rfl := sn_int sy; cases e
    exact .inl ⟨rfl, by simp⟩
  · obtain rfl := sn_str sx; obtain rfl := sn_str sy; cases e
    exact .inl ⟨rfl, by simp⟩
  · obtain rfl := sn_bl sx; obtain rfl := sn_bl sy; cases e
    exact .inl ⟨rfl, by simp⟩
  · obtain rfl := sn_non sx; obtain rfl := sn_non sy; cases e
    exact .inl ⟨rfl, by simp⟩
  · obtain rfl := sn_non sx; obtain rfl := sn_int sy; cases e
    exact .inl ⟨rfl, rfl⟩
  · obtain rfl := sn_int sx; obtain rfl := sn_non sy; cases e
    exact .inl ⟨rfl, rfl⟩
  · obtain rfl := sn_non sx; obtain rfl := sn_str sy; cases e
    exact .inl ⟨rfl, rfl⟩
  · obtain rfl := sn_str sx; obtain rfl := sn_non sy; cases e
    exact .inl ⟨rfl, rfl⟩
  · obtain rfl := sn_int sx; obtain rfl := sn_str sy; cases e
    exact .inl ⟨rfl, rfl⟩
  · obtain rfl := sn_str sx; obtain rfl := sn_int sy; cases e
    exact .inl ⟨rfl, rfl⟩
  · obtain rfl := sn_non sx; obtain rfl := sn_bl sy; cases e
    exact .inl ⟨rfl, rfl⟩
  · obtain rfl := sn_bl sx; obtain rfl := sn_non sy; cases e
    exact .inl ⟨rfl, rfl⟩
  · obtain rfl := sn_str sx; obtain rfl := sn_bl sy; cases e
    exact .inl ⟨rfl, rfl⟩
  · obtain rfl := sn_bl sx; obtain rfl := sn_str sy; cases e
    exact .inl ⟨rfl, rfl⟩
  · exact .inr e
theorem ofO_ok {α : Type} {o : Option α} {a : α} (h : ofO o = .ok a) : o = some a := by
  cases o with
  | none => exact nomatch h
  | some b => injection h with h; rw [h]
theorem bind_inv {α β : Type} {m : Rs α} {f : α → Rs β} {b : β} (h : m.bind f = .ok b) : ∃ a, m = .ok a ∧ f a = .ok b := by
  cases m with
  | ok a => exact ⟨a, rfl, h⟩
  | ex e => exact nomatch h
  | no => exact nomatch h
/-! ### in -/
theorem sc_flat {F H} {t : T} {v : V} (h : scT t = true) (s : Sn F H ρ t v) : flatV v = true := by
  cases t <;> simp only [scT, Bool.false_eq_true] at h <;> simp only [Sn] at s <;> subst s <;> rfl
theorem sc_eq {F H} {t u : T} {v w : V} (h1 : scT t = true) (h2 : scT u = true) (s1 : Sn F H ρ t v) (s2 : Sn F H ρ u w) : eqV v w = eqS t u := by
  cases t <;> simp only [scT, Bool.false_eq_true] at h1 <;> cases u <;> simp only [scT, Bool.false_eq_true] at h2 <;> simp only [Sn] at s1 s2 <;> subst s1 <;> subst s2 <;> rfl
theorem sc_all {F H} {x : T} {w : V} (hx : scT x = true) (sx : Sn F H ρ x w) : ∀ {ts : List T} {vs : List V}, SnL F H ρ ts vs → ts.all scT = true → vs.all flatV = true ∧ inV w vs = ts.any fun y => eqS y x
  | [], vs, l, h => by
    have : vs = [] := by simpa only [SnL] using l
    subst this; exact ⟨rfl, rfl⟩
  | t :: ts, vs, l, h => by
    simp only [SnL] at l
    obtain ⟨v, vs', rfl, a, b⟩ := l
    simp only [List.all_cons, Bool.and_eq_true] at h
    obtain ⟨h1, h2⟩ := sc_all hx sx b h.2
    refine ⟨by rw [List.all_cons, sc_flat h.1 a, h1]; rfl, ?_⟩
    show (eqV v w || inV w vs') = _
    rw [sc_eq h.1 hx a sx, h2, List.any_cons]
theorem any_eqD {x : T} {d : PyData} (hx : dat x = some d) : ∀ {ts : List T} {ds : List PyData}, datL ts = some ds → (ts.any fun y => eqD y x) = ds.any fun z => PyData.eqv z d
  | [], ds, h => by simp only [datL] at h; cases h; rfl
  | t :: ts, ds, h => by
    simp only [datL] at h
    split at h
    · rename_i e es q1 q2
      cases h
      rw [List.any_cons, List.any_cons, any_eqD hx q2]
      have : eqD t x = PyData.eqv e d := by unfold eqD; rw [q1, hx]
      rw [this]
    · cases h
theorem inT_ok {K F H} {x : T} {z n : Bool} {ts : List T} {v w : V} {c : Bool} (sx : Sn F H ρ x v) (sy : Sn F H ρ (.lst z n ts) w) (e : inT x ts = some c) :
    (∃ p xs, w = .ref p ∧ SqL K H p xs ∧ flatV v = true ∧ xs.all flatV = true ∧ c = inV v xs) ∨ ∃ d ds, Dp K H v d ∧ Dp K H w (.list ds) ∧ SeqAt.shaped d = true ∧ SeqAt.shaped (.list ds) = true ∧ c = ds.any fun z => PyData.eqv z d := by
  unfold inT at e
  split at e
  · rename_i h
    simp only [Bool.and_eq_true] at h
    cases e
    obtain ⟨a, vs, rfl, ra, la, _⟩ := sn_lst sy
    obtain ⟨h1, h2⟩ := sc_all h.1 sx la h.2
    exact .inl ⟨a, vs, rfl, rd_sqL ra, sc_flat h.1 sx, h1, h2.symm⟩
  · split at e
    · rename_i d ds q1 q2
      split at e
      · rename_i hs
        simp only [Bool.and_eq_true] at hs
        cases e
        exact .inr ⟨d, ds, dp_of x v d sx q1, dp_of _ w (.list ds) sy (by simp only [dat, q2]; rfl), hs.1, hs.2, any_eqD q1 q2⟩
      · cases e
    · cases e
theorem inTt_ok {F H} {x : T} {ts : List T} {v w : V} {c : Bool} (sx : Sn F H ρ x v) (sy : Sn F H ρ (.tup ts) w) (e : inTt x ts = some c) :
    ∃ p xs, w = .ref p ∧ H p = some (.tup xs) ∧ flatV v = true ∧ xs.all flatV = true ∧ c = inV v xs := by
  unfold inTt at e
  split at e
  · rename_i h
    simp only [Bool.and_eq_true] at h
    cases e
    obtain ⟨a, vs, rfl, ra, la⟩ := sn_tup sy
    obtain ⟨h1, h2⟩ := sc_all h.1 sx la h.2
    exact ⟨a, vs, rfl, ra, sc_flat h.1 sx, h1, h2.symm⟩
  · cases e
/-! dicts: what stands at a key -/
theorem kix_lt : ∀ {ks : List Key} {k : Key} {j : Nat}, kix ks k = some j → j < ks.length ∧ ks[j]? = some k
  | [], k, j, h => by simp [kix] at h
  | a :: ks, k, j, h => by
    unfold kix at h
    split at h
    · rename_i e; cases h; exact ⟨by simp, by simp [e]⟩
    · cases q : kix ks k with
      | none => rw [q] at h; cases h
      | some i =>
        rw [q] at h; cases h
        obtain ⟨h1, h2⟩ := kix_lt q
        exact ⟨by simpa using h1, by simpa using h2⟩
theorem valV_zip : ∀ {ks : List Key} {vs : List V} (k : Key), vs.length = ks.length → valV (ks.zip vs) k = (kix ks k).bind fun j => vs[j]?
  | [], vs, k, h => by simp [kix, valV]
  | a :: ks, [], k, h => by simp at h
  | a :: ks, v :: vs, k, h => by
    rw [List.zip_cons_cons]
    unfold kix
    by_cases e : a = k
    · rw [valV_pos (p := (a, v)) e, if_pos e]; rfl
    · rw [valV_neg (p := (a, v)) e, if_neg e, valV_zip k (by simpa using h)]
      cases kix ks k <;> rfl
theorem keyT_ok {F H} {x : T} {v : V} {k : Key} (s : Sn F H ρ x v) (e : keyT x = some k) : v = kV k := by
  cases x <;> simp only [keyT, reduceCtorEq, Option.some.injEq] at e <;> subst e
  · exact sn_int s
  · exact sn_str s
theorem dget_ok {F H} {ks : List Key} {ts : List T} {vs : List V} {k : Key} (l : SnL F H ρ ts vs) (dk : DKy ks ts) : (∀ t, dgetT ks ts k = some t → ∃ v, valV (ks.zip vs) k = some v ∧ Sn F H ρ t v ∧ ∃ j : Nat, ts[j]? = some t) ∧ (valV (ks.zip vs) k).isSome = (kix ks k).isSome := by
  have e := valV_zip (ks := ks) (vs := vs) k (by rw [l.length, dk.1])
  rw [e]
  refine ⟨fun t h => ?_, ?_⟩
  · unfold dgetT at h
    cases q : kix ks k with
    | none => rw [q] at h; cases h
    | some j =>
      rw [q] at h
      obtain ⟨v, e1, e2⟩ := l.get (show ts[j]? = some t from h)
      exact ⟨v, e1, e2, j, h⟩
  · cases q : kix ks k with
    | none => rfl
    | some j =>
      have := (kix_lt q).1
      have hl : j < vs.length := by rw [l.length, ← dk.1]; exact this
      show (vs[j]?).isSome = true
      rw [List.getElem?_eq_getElem hl]; rfl
theorem ix_dict (hu : X.A.units + 1 < cLine) : IxR X (fun x y H Q => ∃ a v, x = .ref a ∧ DGet H a y (some v) ∧ Q v H) := by
  intro value slice pins s σ H x y v u Q I rx ry h hs
  obtain ⟨a, z, rfl, g, q⟩ := h
  cases rx
  exact tail_any (dict_typeIs I g) PySem.F.slot_dict_getitem.lookup (d_getItem hu I g ry fun w' s' I' r' => ⟨z, H, I', r', q⟩) hs
theorem op_dinR (hu : X.A.units + 1 < cLine) : OpR X (compareOp .In) (fun x y H Q => ∃ a o, y = .ref a ∧ DGet H a x o ∧ Q (.bl o.isSome) H) := by
  intro pins s σ H x y v u Q I rx ry h
  obtain ⟨a, o, rfl, g, q⟩ := h
  cases ry
  exact d_in hu I g rx fun s' I' => ⟨.bl _, H, I', rfl, q⟩
theorem op_dninR (hu : X.A.units + 1 < cLine) : OpR X (compareOp .NotIn) (fun x y H Q => ∃ a o, y = .ref a ∧ DGet H a x o ∧ Q (.bl (!o.isSome)) H) := by
  intro pins s σ H x y v u Q I rx ry h
  obtain ⟨a, o, rfl, g, q⟩ := h
  cases ry
  exact d_notIn hu I g rx fun s' I' => ⟨.bl _, H, I', rfl, q⟩
theorem snL_cons {F H t ts vs} (h : SnL F H ρ (t :: ts) vs) : ∃ v vs', vs = v :: vs' ∧ Sn F H ρ t v ∧ SnL F H ρ ts vs' := by simpa only [SnL] using h
theorem snL_intsQ0 {F H} : ∀ {ts : List T} {vs : List V} {ns : List Int}, SnL F H ρ ts vs → intsL ts = some ns → vs = ns.map V.int
  | [], vs, ns, l, h => by
    simp only [intsL] at h; cases h
    simpa only [SnL, List.map_nil] using l
  | t :: ts, vs, ns, l, h => by
    cases t <;> simp only [intsL, reduceCtorEq] at h
    cases q : intsL ts with
    | none => rw [q] at h; cases h
    | some ms =>
      rw [q] at h; cases h
      obtain ⟨v, vs', rfl, a, b⟩ := snL_cons l
      obtain rfl := sn_int a
      rw [snL_intsQ0 b q]; rfl
theorem cmp_ok (hu : X.A.units + 65 < cLine) (op : COp) : OpR X (compareOp (pyCmp op)) (rT ρ (cmpT op)) := by
  intro pins s σ H v w u1 u2 Q I r1 r2 h
  obtain ⟨x, y, t, sx, sy, e, k⟩ := h
  have ok : ∀ {a b : T}, (Rs.ok a : Rs T) = .ok b → a = b := fun h => by injection h
  have no : ∀ {b : T}, (Rs.no : Rs T) = .ok b → False := fun h => by injection h
  unfold cmpT at e
  split at e
  · obtain ⟨c, e1, e2⟩ := bind_inv e
    obtain rfl := ok e2
    rcases eqQ_ok sx sy (ofO_ok e1) with ⟨h1, rfl⟩ | h1
    · exact op_eq pins s σ H _ _ _ _ Q I r1 r2 ⟨h1, k _ _ PR.bl⟩
    · obtain ⟨d, d', hd, hd', s1, s2, rfl⟩ := eqT_ok (K := X.K) sx sy h1
      exact op_eqD (by omega) pins s σ H _ _ _ _ Q I r1 r2 ⟨d, d', hd, hd', s1, s2, k _ _ PR.bl⟩
  · obtain ⟨c, e1, e2⟩ := bind_inv e
    obtain rfl := ok e2
    rcases eqQ_ok sx sy (ofO_ok e1) with ⟨h1, rfl⟩ | h1
    · exact op_ne pins s σ H _ _ _ _ Q I r1 r2 ⟨h1, k _ _ PR.bl⟩
    · obtain ⟨d, d', hd, hd', s1, s2, rfl⟩ := eqT_ok (K := X.K) sx sy h1
      exact op_neD (by omega) pins s σ H _ _ _ _ Q I r1 r2 ⟨d, d', hd, hd', s1, s2, k _ _ PR.bl⟩
  · obtain rfl := sn_int sx; obtain rfl := sn_int sy; obtain rfl := ok e
    exact op_lt pins s σ H _ _ _ _ Q I r1 r2 ⟨_, _, rfl, rfl, k _ _ PR.bl⟩
  · obtain ⟨a, vs, rfl, ra, la⟩ := sn_tup sx
    obtain ⟨b, ws, rfl, rb, lb⟩ := sn_tup sy
    rename_i xs ys
    obtain ⟨c, e1, e2⟩ := bind_inv e
    obtain rfl := ok e2
    have e1 := ofO_ok e1
    cases q1 : intsL xs with
    | none => rw [q1] at e1; cases e1
    | some ns =>
      cases q2 : intsL ys with
      | none => rw [q1, q2] at e1; cases e1
      | some ms =>
        rw [q1, q2] at e1
        cases e1
        have w1 := snL_intsQ0 la q1
        have w2 := snL_intsQ0 lb q2
        subst w1
        subst w2
        exact op_ltT (by omega) pins s σ H _ _ _ _ Q I r1 r2 ⟨_, _, ns, ms, rfl, rfl, SqT.of ra, SqT.of rb, k _ _ PR.bl⟩
  · obtain rfl := sn_int sx; obtain rfl := sn_int sy; obtain rfl := ok e
    exact op_le pins s σ H _ _ _ _ Q I r1 r2 ⟨_, _, rfl, rfl, k _ _ PR.bl⟩
  · obtain rfl := sn_int sx; obtain rfl := sn_int sy; obtain rfl := ok e
    exact op_gt pins s σ H _ _ _ _ Q I r1 r2 ⟨_, _, rfl, rfl, k _ _ PR.bl⟩
  · obtain rfl := sn_int sx; obtain rfl := sn_int sy; obtain rfl := ok e
    exact op_ge pins s σ H _ _ _ _ Q I r1 r2 ⟨_, _, rfl, rfl, k _ _ PR.bl⟩
  · obtain rfl := sn_bl sx; obtain rfl := sn_bl sy; obtain rfl := ok e
    exact op_is_bl pins s σ H _ _ _ _ Q I r1 r2 ⟨_, _, rfl, rfl, k _ _ PR.bl⟩
  · obtain rfl := sn_bl sx; obtain rfl := sn_bl sy; obtain rfl := ok e
    exact op_isnot_bl pins s σ H _ _ _ _ Q I r1 r2 ⟨_, _, rfl, rfl, k _ _ PR.bl⟩
  · obtain rfl := sn_non sy; obtain rfl := ok e
    refine op_isN pins s σ H _ _ _ _ Q I r1 r2 ⟨rfl, ?_⟩
    have q : decide (v = V.non) = isNon x := by
      cases x <;> simp only [Sn] at sx <;> first | (subst sx; rfl) | exact sx.elim | (obtain ⟨a, _, rfl, _⟩ := sx; rfl) | (obtain ⟨a, _, rfl⟩ := sx; rfl)
    rw [q]; exact k _ _ PR.bl
  · obtain rfl := sn_non sy; obtain rfl := ok e
    refine op_notN pins s σ H _ _ _ _ Q I r1 r2 ⟨rfl, ?_⟩
    have q : (!decide (v = V.non)) = (!isNon x) := by
      cases x <;> simp only [Sn] at sx <;> first | (subst sx; rfl) | exact sx.elim | (obtain ⟨a, _, rfl, _⟩ := sx; rfl) | (obtain ⟨a, _, rfl⟩ := sx; rfl)
    rw [q]; exact k _ _ PR.bl
  · obtain ⟨c, e1, e2⟩ := bind_inv e
    obtain rfl := ok e2
    rcases inT_ok (K := X.K) sx sy (ofO_ok e1) with ⟨p, xs, rfl, r, f1, f2, rfl⟩ | ⟨d, ds, d1, d2, s1, s2, rfl⟩
    · exact op_in_seq pins s σ H _ _ _ _ Q I r1 r2 ⟨p, xs, rfl, .inl r, f1, f2, k _ _ PR.bl⟩
    · exact op_inD hu pins s σ H _ _ _ _ Q I r1 r2 ⟨d, ds, d1, d2, s1, s2, k _ _ PR.bl⟩
  · obtain ⟨c, e1, e2⟩ := bind_inv e
    obtain rfl := ok e2
    rcases inT_ok (K := X.K) sx sy (ofO_ok e1) with ⟨p, xs, rfl, r, f1, f2, rfl⟩ | ⟨d, ds, d1, d2, s1, s2, rfl⟩
    · exact op_notIn_seq pins s σ H _ _ _ _ Q I r1 r2 ⟨p, xs, rfl, .inl r, f1, f2, k _ _ PR.bl⟩
    · exact op_notInD hu pins s σ H _ _ _ _ Q I r1 r2 ⟨d, ds, d1, d2, s1, s2, k _ _ PR.bl⟩
  · obtain ⟨c, e1, e2⟩ := bind_inv e
    obtain rfl := ok e2
    obtain rfl := keyT_ok sx (ofO_ok e1)
    obtain ⟨a, vs, rfl, r, l, _, dk⟩ := sn_dic sy
    refine op_dinR (by omega) pins s σ H _ _ _ _ Q I r1 r2 ⟨a, _, rfl, .inl ⟨_, c, r, rfl, rfl⟩, ?_⟩
    rw [(dget_ok (k := c) l dk).2]; exact k _ _ PR.bl
  · obtain ⟨c, e1, e2⟩ := bind_inv e
    obtain rfl := ok e2
    obtain rfl := keyT_ok sx (ofO_ok e1)
    obtain ⟨a, vs, rfl, r, l, _, dk⟩ := sn_dic sy
    refine op_dninR (by omega) pins s σ H _ _ _ _ Q I r1 r2 ⟨a, _, rfl, .inl ⟨_, c, r, rfl, rfl⟩, ?_⟩
    rw [(dget_ok (k := c) l dk).2]; exact k _ _ PR.bl
  · obtain ⟨c, e1, e2⟩ := bind_inv e
    obtain rfl := ok e2
    obtain ⟨p, xs, rfl, r, f1, f2, rfl⟩ := inTt_ok sx sy (ofO_ok e1)
    exact op_in_seq pins s σ H _ _ _ _ Q I r1 r2 ⟨p, xs, rfl, .inr (SqT.of r), f1, f2, k _ _ PR.bl⟩
  · obtain ⟨c, e1, e2⟩ := bind_inv e
    obtain rfl := ok e2
    obtain ⟨p, xs, rfl, r, f1, f2, rfl⟩ := inTt_ok sx sy (ofO_ok e1)
    exact op_notIn_seq pins s σ H _ _ _ _ Q I r1 r2 ⟨p, xs, rfl, .inr (SqT.of r), f1, f2, k _ _ PR.bl⟩
  · exact (no e).elim

/-! ### truth -/
/-- truth, of a dict that may be locked too -/
def TruX (K : PySem.W.Frag) (v : V) (H : Hp) (b : Bool) : Prop := TruV K v H b ∨ ∃ a kvs, v = .ref a ∧ Rd H a (.dK kvs) ∧ b = !kvs.isEmpty
theorem tru_okX {X : Cx} (pins : List (Addr × Obj)) (s : Shared) (σ : L2.St) (H : Hp) (x : V) (v : Value) (Q : Bool → Hp → Prop) (I : Inv X pins σ H s) (rx : RelV x v) (h : ∃ k, TruX X.K x H k ∧ Q k H) :
    wpAny (model X.prog X.w) X.A (truthy v) (fun c s' => ∃ H', Inv X pins σ H' s' ∧ Q c H') X.xe s := by
  obtain ⟨k, h | ⟨a, kvs, rfl, r, rfl⟩, q⟩ := h
  · exact tru_ok pins s σ H x v Q I rx ⟨k, h, q⟩
  · cases rx
    exact d_truth I r fun s' I' => ⟨H, I', q⟩
theorem pt_truthX {X : Cx} {a : Expr} {ta : TE} (ha : PE X a ta) (he : ∀ whole, isTrue a X.env whole = (do let v ← whole; standAt a.pos; holding [v] (truthy v))) :
    PT X a (fun σ H Q => ta σ H fun x H' => ∃ k, TruX X.K x H' k ∧ Q k H') := by
  refine ⟨fun pins s σ H Q I h => ?_⟩
  exact isTrue_plain (thn (ha.run pins s σ H _ I h) fun v s1 ⟨x, H1, I1, r1, q1⟩ => tru_okX pins s1 σ H1 x v Q I1 r1 q1) (he _)
def tNotX (K : PySem.W.Frag) (ta : TE) : TE := fun σ H Q => ta σ H fun x H1 => ∃ k, TruX K x H1 k ∧ Q (.bl (!k)) H1
theorem pe_notTX {X : Cx} {a : Expr} {ta : TE} {pos : Pos} (ha : PE X a ta) : PE X (.UnaryOp .Not a pos) (tNotX X.K ta) := by
  refine ⟨fun pins s σ H Q I h => ?_⟩
  refine UnaryOp_ (thn (ha.run pins s σ H _ I h) fun v s1 ⟨x, H1, I1, r1, q1⟩ => ?_)
  obtain ⟨k, e, q1⟩ := q1
  exact not_of (thn (tru_okX pins s1 σ H1 x v (fun c H2 => Q (.bl (!c)) H2) I1 r1 ⟨k, e, q1⟩) fun c s2 ⟨H2, I2, q2⟩ => ⟨.bl (!c), H2, I2, rfl, q2⟩)
theorem truth_ok {K F H} {x : T} {v : V} {b : Bool} (sx : Sn F H ρ x v) (e : truthT x = .ok b) : TruX K v H b := by
  by_cases hd : ∃ z n ks ts, x = .dic z n ks ts
  · obtain ⟨z, n, ks, ts, rfl⟩ := hd
    obtain ⟨a, vs, rfl, r, l, _, dk⟩ := sn_dic sx
    refine .inr ⟨a, _, rfl, r, ?_⟩
    have e' : (!ks.isEmpty) = b := by injection e
    rw [← e']
    have h1 : (ks.zip vs).length = ks.length := by rw [List.length_zip, l.length, ← dk.1]; omega
    rw [Bool.eq_iff_iff]
    simp [List.isEmpty_iff, ← List.length_eq_zero_iff, h1]
  refine .inl ?_
  have ok : ∀ {a b : Bool}, (Rs.ok a : Rs Bool) = .ok b → a = b := fun h => by injection h
  unfold truthT at e
  split at e
  · obtain rfl := sn_bl sx; obtain rfl := ok e; rfl
  · obtain rfl := sn_non sx; obtain rfl := ok e; rfl
  · obtain rfl := sn_int sx; obtain rfl := ok e
    show _ = _
    simp [bne, Bool.beq_eq_decide_eq]
  · obtain rfl := sn_str sx
    split at e
    · rename_i hz
      obtain rfl := ok e
      refine ⟨by rw [← sizeT_eq]; exact hz, ?_⟩
      rw [Bool.eq_iff_iff]
      simp
    · exact nomatch e
  · obtain ⟨a, vs, rfl, ra, la, fa⟩ := sn_lst sx; obtain rfl := ok e
    refine .inl ⟨vs, rd_sqL ra, ?_⟩
    have := la.length
    rw [Bool.eq_iff_iff]
    simp [List.isEmpty_iff, ← List.length_eq_zero_iff, this]
  · obtain ⟨a, vs, rfl, ra, la⟩ := sn_tup sx; obtain rfl := ok e
    refine .inr (.inl ⟨vs, SqT.of ra, ?_⟩)
    have := la.length
    rw [Bool.eq_iff_iff]
    simp [List.isEmpty_iff, ← List.length_eq_zero_iff, this]
  · exact absurd ⟨_, _, _, _, rfl⟩ hd
  · exact nomatch e

/-! ### kinds, items, cuts, built-in functions -/
def pyTy : BT → String
  | .int => "int" | .bool => "bool" | .str => "str" | .list => "list" | .tuple => "tuple" | .dict => "dict"
def tyV (t : T) : String := match t with
  | .non => "NoneType" | .bl _ => "bool" | .int _ => "int" | .str _ => "str" | .tup _ => "tuple" | .lst _ _ _ => "list" | .dic _ _ _ _ => "dict" | .obj _ => ""
theorem ty_ok {K F H} {x : T} {v : V} (sx : Sn F H ρ x v) (n : ∀ i, x ≠ .obj i) : TyX K H v (.type (tyV x)) := by
  cases x with
  | non => obtain rfl := sn_non sx; exact .base .non
  | bl b => obtain rfl := sn_bl sx; exact .base (.bl b)
  | int b => obtain rfl := sn_int sx; exact .base (.int b)
  | str b => obtain rfl := sn_str sx; exact .base (.str b)
  | tup ts => obtain ⟨a, vs, rfl, ra, la⟩ := sn_tup sx; exact .base (.tup ra)
  | lst z m ts =>
    obtain ⟨a, vs, rfl, ra, la, _⟩ := sn_lst sx
    rcases ra with ra | ⟨o, ra⟩
    · exact .base (.lst ra)
    · exact .base (.frz ra)
  | dic z m ks ts =>
    obtain ⟨a, vs, rfl, ra, la, _⟩ := sn_dic sx
    rcases ra with ra | ⟨o, ra⟩
    · exact .base (.dK ra)
    · exact .fDict ra
  | obj i => exact absurd rfl (n i)
theorem isa_ok {K F H} {x : T} {v : V} {t : BT} {b : Bool} (sx : Sn F H ρ x v) (e : isaB x t = some b) : TyX K H v (.type (tyV x)) ∧ PySem.W.kitOne K (.type (tyV x)) (.type (pyTy t)) = some b := by
  have n : ∀ i, x ≠ .obj i := fun i q => by rw [q] at e; simp [isaB] at e
  refine ⟨ty_ok sx n, ?_⟩
  cases x with
  | obj i => exact absurd rfl (n i)
  | _ => cases t <;> simp only [isaB, Option.some.injEq] at e <;> subst e <;> exact kit_ty (by dsimp only [tyV, pyTy]; decide +kernel)
theorem atT_sn {F H} {ts : List T} {vs : List V} {i : Int} {t : T} (l : SnL F H ρ ts vs) (e : atT ts i = some t) : ∃ v, atI vs i = some v ∧ Sn F H ρ t v ∧ ∃ j : Nat, ts[j]? = some t := by
  unfold atT atI at e
  unfold atI
  rw [l.length]
  cases q : ixN ts.length i with
  | none => rw [q] at e; cases e
  | some j =>
    rw [q] at e
    obtain ⟨v, e1, e2⟩ := l.get (show ts[j]? = some t from e)
    exact ⟨v, e1, e2, j, e⟩
theorem ix_ok (hu : X.A.units + 1 < cLine) : IxR X (rT ρ ixT) := by
  intro value slice pins s σ H v w u1 u2 Q I r1 r2 h hs
  obtain ⟨x, y, t, sx, sy, e, k⟩ := h
  have ok : ∀ {a b : T}, (Rs.ok a : Rs T) = .ok b → a = b := fun h => by injection h
  unfold ixT at e
  split at e
  · obtain ⟨a, vs, rfl, ra, la, fa⟩ := sn_lst sx
    obtain rfl := sn_int sy
    obtain ⟨c, e1, e2⟩ := bind_inv e
    obtain ⟨c', e3, e4, j, e5⟩ := atT_sn la (ofO_ok e1)
    refine ix_list value slice pins s σ H _ _ _ _ Q I r1 r2 ⟨_, _, _, _, rfl, rfl, rd_sqL ra, e3, k _ _ ?_⟩ hs
    split at e2
    · obtain rfl := ok e2; exact PR.view e4
    · rename_i hn
      obtain rfl := ok e2
      exact PR.flat (flatL_get (fa (by simpa using hn)) e5) e4
  · obtain ⟨a, vs, rfl, ra, la⟩ := sn_tup sx
    obtain rfl := sn_int sy
    obtain ⟨c, e1, e2⟩ := bind_inv e
    obtain rfl := ok e2
    obtain ⟨c', e3, e4, j, e5⟩ := atT_sn la (ofO_ok e1)
    exact ix_tup value slice pins s σ H _ _ _ _ Q I r1 r2 ⟨_, _, _, _, rfl, rfl, SqT.of ra, e3, k _ _ (PR.view e4)⟩ hs
  · obtain ⟨a, vs, rfl, ra, la, fa, dk⟩ := sn_dic sx
    obtain ⟨c, e1, e2⟩ := bind_inv e
    obtain ⟨key, e3, e4⟩ := Option.bind_eq_some_iff.mp (ofO_ok e1)
    obtain rfl := keyT_ok sy e3
    obtain ⟨w, h1, h2, j, h3⟩ := (dget_ok (k := key) la dk).1 c e4
    refine ix_dict hu value slice pins s σ H _ _ _ _ Q I r1 r2 ⟨a, w, rfl, .inl ⟨_, key, ra, rfl, h1.symm⟩, k _ _ ?_⟩ hs
    split at e2
    · obtain rfl := ok e2; exact PR.view h2
    · rename_i hn
      obtain rfl := ok e2
      exact PR.flat (flatL_get (fa (by simpa using hn)) h3) h2
  · obtain rfl := sn_str sx
    obtain rfl := sn_int sy
    split at e
    · rename_i hz
      obtain ⟨c, e1, e2⟩ := bind_inv e
      obtain rfl := ok e2
      exact ix_str value slice pins s σ H _ _ _ _ Q I r1 r2 ⟨_, _, _, rfl, rfl, Nat.le_trans hz (Nat.le_of_eq sizeT_eq), ofO_ok e1, k _ _ PR.str⟩ hs
    · exact nomatch e
  · exact nomatch e
theorem sl_ok : SlR X (fun v lo hi H Q => ∃ x t, Sn Top H ρ x v ∧ slcT x lo hi = .ok t ∧ ∀ u H', PR H ρ H' t u → Q u H') := by
  intro pins s σ H v u1 vl vu lo hi sl Q I r1 hs pl pu h
  obtain ⟨x, t, sx, e, k⟩ := h
  unfold slcT at e
  split at e
  · obtain ⟨a, vs, rfl, ra, la, fa⟩ := sn_lst sx
    have ok : ∀ {a b : T}, (Rs.ok a : Rs T) = .ok b → a = b := fun h => by injection h
    obtain rfl := ok e
    refine sl_list pins s σ H _ _ vl vu lo hi sl Q I r1 hs pl pu ⟨_, _, rfl, rd_sqL ra, fun p np => k _ _ ?_⟩
    refine PR.newl np (flatL_take _ (flatL_drop _ (fa rfl))) ?_
    unfold cutT cutV
    rw [la.length]
    exact (la.drop _).take _
  · obtain rfl := sn_str sx
    split at e
    · rename_i hz
      have ok : ∀ {a b : T}, (Rs.ok a : Rs T) = .ok b → a = b := fun h => by injection h
      obtain rfl := ok e
      exact sl_str pins s σ H _ _ vl vu lo hi sl Q I r1 hs pl pu ⟨_, rfl, Nat.le_trans hz (Nat.le_of_eq sizeT_eq), k _ _ PR.str⟩
    · exact nomatch e
  · exact nomatch e
theorem snL_nil {F H vs} (h : SnL F H ρ [] vs) : vs = [] := by simpa only [SnL] using h
theorem snL_1 {F H t vs} (h : SnL F H ρ [t] vs) : ∃ v, vs = [v] ∧ Sn F H ρ t v := by
  obtain ⟨v, vs', rfl, a, b⟩ := snL_cons h
  obtain rfl := snL_nil b
  exact ⟨v, rfl, a⟩
theorem snL_2 {F H t u vs} (h : SnL F H ρ [t, u] vs) : ∃ v w, vs = [v, w] ∧ Sn F H ρ t v ∧ Sn F H ρ u w := by
  obtain ⟨v, vs', rfl, a, b⟩ := snL_cons h
  obtain ⟨w, rfl, c⟩ := snL_1 b
  exact ⟨v, w, rfl, a, c⟩
theorem snL_3 {F H t u x vs} (h : SnL F H ρ [t, u, x] vs) : ∃ v w y, vs = [v, w, y] ∧ Sn F H ρ t v ∧ Sn F H ρ u w ∧ Sn F H ρ x y := by
  obtain ⟨v, vs', rfl, a, b⟩ := snL_cons h
  obtain ⟨w, y, rfl, c, d⟩ := snL_2 b
  exact ⟨v, w, y, rfl, a, c, d⟩
theorem snL_intsQ {F H} : ∀ {ts : List T} {vs : List V} {ns : List Int}, SnL F H ρ ts vs → intsL ts = some ns → vs = ns.map V.int
  | [], vs, ns, l, h => by
    simp only [intsL] at h; cases h
    simpa only [SnL, List.map_nil] using l
  | t :: ts, vs, ns, l, h => by
    cases t <;> simp only [intsL, reduceCtorEq] at h
    cases q : intsL ts with
    | none => rw [q] at h; cases h
    | some ms =>
      rw [q] at h; cases h
      obtain ⟨v, vs', rfl, a, b⟩ := snL_cons l
      obtain rfl := sn_int a
      rw [snL_intsQ b q]; rfl
theorem snL_of_ints {F H} : ∀ ns : List Int, SnL F H ρ (ns.map T.int) (ns.map V.int)
  | [] => by simp [SnL]
  | n :: ns => by
    simp only [List.map_cons, SnL]
    exact ⟨_, _, rfl, by simp [Sn], snL_of_ints ns⟩
theorem flatL_intsQ : ∀ ns : List Int, flatL (ns.map T.int) = true
  | [] => rfl
  | n :: ns => by simp only [List.map_cons, flatL, flat, flatL_intsQ ns, Bool.and_true]
theorem insI_perm (i : Int) : ∀ l : List Int, (insI i l).Perm (i :: l)
  | [] => List.Perm.refl _
  | j :: js => by
    unfold insI
    split
    · exact List.Perm.refl _
    · exact ((insI_perm i js).cons j).trans (List.Perm.swap i j js)
theorem srtI_perm : ∀ l : List Int, (srtI l).Perm l
  | [] => List.Perm.refl _
  | i :: l => (insI_perm i (srtI l)).trans ((srtI_perm l).cons i)
theorem insI_srt (i : Int) : ∀ {l : List Int}, l.Pairwise (· ≤ ·) → (insI i l).Pairwise (· ≤ ·)
  | [], _ => by simp [insI]
  | j :: js, h => by
    have h2 := List.pairwise_cons.mp h
    unfold insI
    split
    · rename_i q
      refine List.pairwise_cons.mpr ⟨fun x hx => ?_, h⟩
      rcases List.mem_cons.mp hx with rfl | hx
      · exact q
      · have := h2.1 x hx; omega
    · rename_i q
      refine List.pairwise_cons.mpr ⟨fun x hx => ?_, insI_srt i h2.2⟩
      rcases List.mem_cons.mp ((insI_perm i js).mem_iff.mp hx) with rfl | hx
      · omega
      · exact h2.1 x hx
theorem srtI_srt : ∀ l : List Int, (srtI l).Pairwise (· ≤ ·)
  | [] => List.Pairwise.nil
  | i :: l => insI_srt i (srtI_srt l)
theorem srtI_uniq {l m : List Int} (p : m.Perm l) (s : m.Pairwise (· ≤ ·)) : m = srtI l :=
  (p.trans (srtI_perm l).symm).eq_of_pairwise (fun a b _ _ h1 h2 => Int.le_antisymm h1 h2) s (srtI_srt l)
def leP (p q : Int × Int) : Prop := p.1 < q.1 ∨ p.1 = q.1 ∧ p.2 ≤ q.2
theorem insP_perm (i : Int × Int) : ∀ l : List (Int × Int), (insP i l).Perm (i :: l)
  | [] => List.Perm.refl _
  | j :: js => by
    unfold insP
    split
    · exact List.Perm.refl _
    · exact ((insP_perm i js).cons j).trans (List.Perm.swap i j js)
theorem srtP_perm : ∀ l : List (Int × Int), (srtP l).Perm l
  | [] => List.Perm.refl _
  | i :: l => (insP_perm i (srtP l)).trans ((srtP_perm l).cons i)
theorem insP_srt (i : Int × Int) : ∀ {l : List (Int × Int)}, l.Pairwise leP → (insP i l).Pairwise leP
  | [], _ => by simp [insP]
  | j :: js, h => by
    have h2 := List.pairwise_cons.mp h
    unfold insP
    split
    · rename_i q
      refine List.pairwise_cons.mpr ⟨fun x hx => ?_, h⟩
      rcases List.mem_cons.mp hx with rfl | hx
      · exact q
      · have := h2.1 x hx; unfold leP at this ⊢; omega
    · rename_i q
      refine List.pairwise_cons.mpr ⟨fun x hx => ?_, insP_srt i h2.2⟩
      rcases List.mem_cons.mp ((insP_perm i js).mem_iff.mp hx) with rfl | hx
      · unfold leP; omega
      · exact h2.1 x hx
theorem srtP_srt : ∀ l : List (Int × Int), (srtP l).Pairwise leP
  | [] => List.Pairwise.nil
  | i :: l => insP_srt i (srtP_srt l)
theorem leP_anti {p q : Int × Int} (a : leP p q) (b : leP q p) : p = q := by
  unfold leP at a b
  exact Prod.ext (by omega) (by omega)
theorem srtP_uniq {l m : List (Int × Int)} (p : m.Perm l) (s : m.Pairwise leP) : m = srtP l :=
  (p.trans (srtP_perm l).symm).eq_of_pairwise (fun a b _ _ => leP_anti) s (srtP_srt l)
def kP (H : Hp) : V → Int × Int
  | .ref a => match H a with
    | some (.tup [.int i, .int j]) => (i, j)
    | _ => (0, 0)
  | _ => (0, 0)
def tupP (p : Int × Int) : T := .tup [.int p.1, .int p.2]
theorem snL_pairs {F H} : ∀ {ts : List T} {vs : List V} {ps : List (Int × Int)}, SnL F H ρ ts vs → pairsL ts = some ps → vs.map (kP H) = ps ∧ ∀ x ∈ vs, ∃ t, x = V.ref t ∧ H t = some (.tup [.int (kP H x).1, .int (kP H x).2])
  | [], vs, ps, l, h => by
    simp only [pairsL] at h; cases h
    have : vs = [] := by simpa only [SnL] using l
    subst this; exact ⟨rfl, fun x hx => nomatch hx⟩
  | t :: ts, vs, ps, l, h => by
    obtain ⟨v, vs', rfl, a, b⟩ := snL_cons l
    unfold pairsL at h
    split at h
    · rename_i e
      cases e
    · rename_i i j us e
      cases e
      cases q : pairsL ts with
      | none => rw [q] at h; cases h
      | some qs =>
        rw [q] at h; cases h
        obtain ⟨h1, h2⟩ := snL_pairs b q
        obtain ⟨ad, ws, rfl, ea, l2⟩ := sn_tup a
        obtain ⟨x, y, rfl, sx, sy⟩ := snL_2 l2
        obtain rfl := sn_int sx; obtain rfl := sn_int sy
        have ek : kP H (.ref ad) = (i, j) := by simp only [kP, ea]
        refine ⟨by rw [List.map_cons, ek, h1], fun x hx => ?_⟩
        rcases List.mem_cons.mp hx with rfl | hx
        · exact ⟨ad, rfl, by rw [ek]; exact ea⟩
        · exact h2 x hx
    · cases h
theorem snL_of_pairs {F H} : ∀ {ys : List V}, (∀ x ∈ ys, ∃ t, x = V.ref t ∧ H t = some (.tup [.int (kP H x).1, .int (kP H x).2])) → SnL F H ρ ((ys.map (kP H)).map tupP) ys
  | [], _ => by simp [SnL]
  | y :: ys, h => by
    simp only [List.map_cons, SnL]
    obtain ⟨t, e, ht⟩ := h y (by simp)
    refine ⟨y, ys, rfl, ?_, snL_of_pairs fun x hx => h x (by simp [hx])⟩
    simp only [tupP, Sn, SnL]
    exact ⟨t, _, e, ht, _, _, rfl, rfl, _, _, rfl, rfl, rfl⟩
theorem flatL_pairs : ∀ ps : List (Int × Int), flatL (ps.map tupP) = true
  | [] => rfl
  | p :: ps => by simp only [List.map_cons, flatL, flatL_pairs ps, Bool.and_true]; rfl
theorem maxL_spec : ∀ (ns : List Int) (m : Int), maxL m ns ∈ m :: ns ∧ ∀ y ∈ m :: ns, y ≤ maxL m ns
  | [], m => ⟨by simp [maxL], fun y hy => by simp at hy; subst hy; exact Int.le_refl _⟩
  | n :: ns, m => by
    unfold maxL
    split
    · rename_i q
      obtain ⟨h1, h2⟩ := maxL_spec ns n
      refine ⟨by rcases List.mem_cons.mp h1 with e | h <;> simp [*], fun y hy => ?_⟩
      rcases List.mem_cons.mp hy with rfl | hy
      · have := h2 n (by simp); omega
      · exact h2 y hy
    · rename_i q
      obtain ⟨h1, h2⟩ := maxL_spec ns m
      refine ⟨by rcases List.mem_cons.mp h1 with e | h <;> simp [*], fun y hy => ?_⟩
      rcases List.mem_cons.mp hy with rfl | hy
      · exact h2 _ (by simp)
      · rcases List.mem_cons.mp hy with rfl | hy
        · have := h2 m (by simp); omega
        · exact h2 y (by simp [hy])
theorem minL_spec : ∀ (ns : List Int) (m : Int), minL m ns ∈ m :: ns ∧ ∀ y ∈ m :: ns, minL m ns ≤ y
  | [], m => ⟨by simp [minL], fun y hy => by simp at hy; subst hy; exact Int.le_refl _⟩
  | n :: ns, m => by
    unfold minL
    split
    · rename_i q
      obtain ⟨h1, h2⟩ := minL_spec ns n
      refine ⟨by rcases List.mem_cons.mp h1 with e | h <;> simp [*], fun y hy => ?_⟩
      rcases List.mem_cons.mp hy with rfl | hy
      · have := h2 n (by simp); omega
      · exact h2 y hy
    · rename_i q
      obtain ⟨h1, h2⟩ := minL_spec ns m
      refine ⟨by rcases List.mem_cons.mp h1 with e | h <;> simp [*], fun y hy => ?_⟩
      rcases List.mem_cons.mp hy with rfl | hy
      · exact h2 _ (by simp)
      · rcases List.mem_cons.mp hy with rfl | hy
        · have := h2 m (by simp); omega
        · exact h2 y (by simp [hy])
theorem PR.newt {H ρ ts vs p} (n : H p = none) (fl : flatL ts = true) (s : SnL Top H ρ ts vs) : PR H ρ (upd H p (.tup vs)) (.tup ts) (.ref p) := by
  have e := Ext.upd (o := .tup vs) n
  refine ⟨e, fun _ => 0, ?_, fun _ => Nat.zero_le _, fun _ _ => rfl⟩
  simp only [Rp]
  exact ⟨p, vs, rfl, upd_same, SnL.rp0 ts vs fl (SnL.ext e Pre.refl ts vs s)⟩
theorem nuLt_int (i j : Int) : nuLt (.int i) (.int j) = some (decide (i < j)) := rfl
theorem min3_nu (i j m : Int) : nuMin3 (.int i) (.int j) (.int m) = some (.int (minL i [j, m])) := by
  unfold nuMin3 nuMin2
  simp only [nuLt_int, Option.map_some, Option.bind_some]
  by_cases c : j < i
  · simp only [minL, c, decide_true, if_true, Option.bind_some, nuLt_int, Option.map_some]
    by_cases d : m < j <;> simp [d]
  · simp only [minL, c, decide_false, Bool.false_eq_true, if_false, Option.bind_some, nuLt_int, Option.map_some]
    by_cases d : m < i <;> simp [d]
/-- the value that a built-in function's name stands for -/
def bfVal : BF → Value
  | .len => .builtin "len" | .int => .type "int" | .list => .type "list" | .max2 => .builtin "max" | .min2 => .builtin "min" | .abs => .builtin "abs" | .tuple => .type "tuple" | .sum => .builtin "sum" | .str => .type "str" | .max1 => .builtin "max" | .min1 => .builtin "min" | .min3 => .builtin "min" | .sorted => .builtin "sorted"
def bfName : BF → Str
  | .len => "len" | .int => "int" | .list => "list" | .max2 => "max" | .min2 => "min" | .abs => "abs" | .tuple => "tuple" | .sum => "sum" | .str => "str" | .max1 => "max" | .min1 => "min" | .min3 => "min" | .sorted => "sorted"
theorem call_lenR : CallR X (.builtin "len") (fun xs H Q => ∃ a kvs, xs = [V.ref a] ∧ Rd H a (.dK kvs) ∧ Q (.int kvs.length) H) := by
  intro pins s σ H xs us Q I r h
  obtain ⟨a, kvs, rfl, ha, q⟩ := h
  obtain ⟨u, rfl, ru⟩ := vals1 r
  cases ru
  exact d_len I ha fun t s' I' => ⟨.int kvs.length, H, I', ⟨t, rfl⟩, q⟩
theorem intsK_map : ∀ {ks : List Key} {ns : List Int}, intsK ks = some ns → ks = ns.map Sum.inl
  | [], ns, h => by simp only [intsK] at h; cases h; rfl
  | .inr s :: ks, ns, h => by simp [intsK] at h
  | .inl i :: ks, ns, h => by
    simp only [intsK] at h
    cases q : intsK ks with
    | none => rw [q] at h; cases h
    | some ms => rw [q] at h; cases h; rw [intsK_map q]; rfl
/-! triples -/
def leT (p q : Tri) : Prop := p.1 ≤ q.1
theorem ins3_perm (i : Tri) : ∀ l : List Tri, (ins3 i l).Perm (i :: l)
  | [] => List.Perm.refl _
  | j :: js => by
    unfold ins3
    split
    · exact List.Perm.refl _
    · exact ((ins3_perm i js).cons j).trans (List.Perm.swap i j js)
theorem srt3_perm : ∀ l : List Tri, (srt3 l).Perm l
  | [] => List.Perm.refl _
  | i :: l => (ins3_perm i (srt3 l)).trans ((srt3_perm l).cons i)
theorem ins3_srt (i : Tri) : ∀ {l : List Tri}, l.Pairwise leT → (ins3 i l).Pairwise leT
  | [], _ => by simp [ins3]
  | j :: js, h => by
    have h2 := List.pairwise_cons.mp h
    unfold ins3
    split
    · rename_i q
      refine List.pairwise_cons.mpr ⟨fun x hx => ?_, h⟩
      rcases List.mem_cons.mp hx with rfl | hx
      · exact q
      · have := h2.1 x hx; unfold leT at this ⊢; omega
    · rename_i q
      refine List.pairwise_cons.mpr ⟨fun x hx => ?_, ins3_srt i h2.2⟩
      rcases List.mem_cons.mp ((ins3_perm i js).mem_iff.mp hx) with rfl | hx
      · unfold leT; omega
      · exact h2.1 x hx
theorem srt3_srt : ∀ l : List Tri, (srt3 l).Pairwise leT
  | [] => List.Pairwise.nil
  | i :: l => ins3_srt i (srt3_srt l)
theorem srt3_uniq {l m : List Tri} (p : m.Perm l) (s : m.Pairwise leT) (d : ∀ x ∈ l, ∀ y ∈ l, x.1 = y.1 → x = y) : m = srt3 l :=
  (p.trans (srt3_perm l).symm).eq_of_pairwise (fun a b ha hb h1 h2 => d a (p.mem_iff.mp ha) b ((srt3_perm l).mem_iff.mp hb) (Int.le_antisymm h1 h2)) s (srt3_srt l)
def k3 (H : Hp) : V → Tri
  | .ref a => match H a with
    | some (.tup [.int i, .int j, .bl b]) => (i, j, b)
    | _ => (0, 0, false)
  | _ => (0, 0, false)
def tup3 (p : Tri) : T := .tup [.int p.1, .int p.2.1, .bl p.2.2]
theorem snL_tris {F H} : ∀ {ts : List T} {vs : List V} {ps : List Tri}, SnL F H ρ ts vs → trisL ts = some ps → vs.map (k3 H) = ps ∧ ∀ x ∈ vs, ∃ t, x = V.ref t ∧ H t = some (.tup [.int (k3 H x).1, .int (k3 H x).2.1, .bl (k3 H x).2.2])
  | [], vs, ps, l, h => by
    simp only [trisL] at h; cases h
    have : vs = [] := by simpa only [SnL] using l
    subst this; exact ⟨rfl, fun x hx => nomatch hx⟩
  | t :: ts, vs, ps, l, h => by
    obtain ⟨v, vs', rfl, a, b⟩ := snL_cons l
    unfold trisL at h
    split at h
    · rename_i e
      cases e
    · rename_i i j c us e
      cases e
      cases q : trisL ts with
      | none => rw [q] at h; cases h
      | some qs =>
        rw [q] at h; cases h
        obtain ⟨h1, h2⟩ := snL_tris b q
        obtain ⟨ad, ws, rfl, ea, l2⟩ := sn_tup a
        obtain ⟨x, ws2, rfl, sx, l3⟩ := snL_cons l2
        obtain ⟨y, z, rfl, sy, sz⟩ := snL_2 l3
        obtain rfl := sn_int sx; obtain rfl := sn_int sy; obtain rfl := sn_bl sz
        have ek : k3 H (.ref ad) = (i, j, c) := by simp only [k3, ea]
        refine ⟨by rw [List.map_cons, ek, h1], fun x hx => ?_⟩
        rcases List.mem_cons.mp hx with rfl | hx
        · exact ⟨ad, rfl, by rw [ek]; exact ea⟩
        · exact h2 x hx
    · cases h
theorem snL_of_tris {F H} : ∀ {ys : List V}, (∀ x ∈ ys, ∃ t, x = V.ref t ∧ H t = some (.tup [.int (k3 H x).1, .int (k3 H x).2.1, .bl (k3 H x).2.2])) → SnL F H ρ ((ys.map (k3 H)).map tup3) ys
  | [], _ => by simp [SnL]
  | y :: ys, h => by
    obtain ⟨t, e, ht⟩ := h y (by simp)
    simp only [List.map_cons, SnL]
    refine ⟨y, ys, rfl, ?_, snL_of_tris fun x hx => h x (by simp [hx])⟩
    subst e
    simp only [tup3, Sn, SnL]
    exact ⟨t, _, rfl, ht, _, _, rfl, rfl, _, _, rfl, rfl, _, _, rfl, rfl, rfl⟩
theorem flatL_tris : ∀ ps : List Tri, flatL (ps.map tup3) = true
  | [] => rfl
  | p :: ps => by simp only [List.map_cons, flatL, flatL_tris ps, Bool.and_true]; rfl
theorem dif3_of {ps : List Tri} (h : dif3 ps = true) : ∀ x ∈ ps, ∀ y ∈ ps, x.1 = y.1 → x = y := fun x hx y hy e => by
  have := List.all_eq_true.mp (List.all_eq_true.mp h x hx) y hy
  simp only [e, decide_true, Bool.not_true, Bool.false_or, decide_eq_true_eq] at this
  exact this
theorem insBy_perm {α : Type} (k : α → Int) (x : α) : ∀ l : List α, (insBy k x l).Perm (x :: l)
  | [] => .refl _
  | y :: ys => by
    unfold insBy
    split
    · exact .refl _
    · exact ((insBy_perm k x ys).cons y).trans (.swap x y ys)
theorem srtBy_perm {α : Type} (k : α → Int) : ∀ l : List α, (srtBy k l).Perm l
  | [] => .refl _
  | x :: l => (insBy_perm k x _).trans ((srtBy_perm k l).cons x)
theorem insBy_srt {α : Type} (k : α → Int) (x : α) : ∀ {l : List α}, l.Pairwise (fun a b => k a ≤ k b) → (insBy k x l).Pairwise (fun a b => k a ≤ k b)
  | [], _ => by simp [insBy]
  | y :: ys, h => by
    have h2 := List.pairwise_cons.mp h
    unfold insBy
    split
    · rename_i le
      refine List.pairwise_cons.mpr ⟨fun z hz => ?_, h⟩
      rcases List.mem_cons.mp hz with rfl | hz
      · exact le
      · exact Int.le_trans le (h2.1 z hz)
    · rename_i le
      refine List.pairwise_cons.mpr ⟨fun z hz => ?_, insBy_srt k x h2.2⟩
      rcases List.mem_cons.mp ((insBy_perm k x ys).mem_iff.mp hz) with rfl | hz
      · omega
      · exact h2.1 z hz
theorem srtBy_srt {α : Type} (k : α → Int) : ∀ l : List α, (srtBy k l).Pairwise (fun a b => k a ≤ k b)
  | [] => List.Pairwise.nil
  | x :: l => insBy_srt k x (srtBy_srt k l)
theorem insBy_map {α β : Type} (k : β → Int) (f : α → β) (x : α) : ∀ l : List α, insBy k (f x) (l.map f) = (insBy (fun a => k (f a)) x l).map f
  | [] => rfl
  | y :: ys => by
    rw [List.map_cons]
    unfold insBy
    split
    · rfl
    · rw [List.map_cons, insBy_map k f x ys]
theorem srtBy_map {α β : Type} (k : β → Int) (f : α → β) : ∀ l : List α, srtBy k (l.map f) = (srtBy (fun a => k (f a)) l).map f
  | [] => rfl
  | x :: l => by rw [List.map_cons]; unfold srtBy; rw [srtBy_map k f l, insBy_map]
theorem nodup_of_map {α : Type} {k : α → Int} : ∀ {l : List α}, (l.map k).Nodup → ∀ x ∈ l, ∀ y ∈ l, k x = k y → x = y
  | a :: l, h, x, hx, y, hy, e => by
    rw [List.map_cons] at h
    obtain ⟨h1, h2⟩ := List.nodup_cons.mp h
    rcases List.mem_cons.mp hx with ex | hx'
    · rcases List.mem_cons.mp hy with ey | hy'
      · rw [ex, ey]
      · exact absurd (List.mem_map.mpr ⟨y, hy', by rw [← e, ex]⟩) h1
    · rcases List.mem_cons.mp hy with ey | hy'
      · exact absurd (List.mem_map.mpr ⟨x, hx', by rw [e, ey]⟩) h1
      · exact nodup_of_map h2 x hx' y hy' e
theorem srtBy_uniq {α : Type} {k : α → Int} {l m : List α} (p : m.Perm l) (s : m.Pairwise (fun a b => k a ≤ k b)) (d : ∀ x ∈ l, ∀ y ∈ l, k x = k y → x = y) : m = srtBy k l :=
  (p.trans (srtBy_perm k l).symm).eq_of_pairwise (fun a b ha hb h1 h2 => d a (p.mem_iff.mp ha) b ((srtBy_perm k l).mem_iff.mp hb) (Int.le_antisymm h1 h2)) s (srtBy_srt k l)
/-- the item j of the tuple at v -/
def kvj (j : Nat) (H : Hp) : V → Int
  | .ref a => match H a with
    | some (.tup xs) => match xs[j]? with
      | some (.int i) => i
      | _ => 0
    | _ => 0
  | _ => 0
theorem snL_at {F H} : ∀ {ts : List T} {vs : List V} {j : Nat} {i : Int}, SnL F H ρ ts vs → ts[j]? = some (.int i) → vs[j]? = some (.int i)
  | [], vs, j, i, l, h => by simp at h
  | t :: ts, vs, j, i, l, h => by
    obtain ⟨v, ws, rfl, a, b⟩ := snL_cons l
    cases j with
    | zero =>
      have : t = .int i := by simpa using h
      subst this
      rw [sn_int a]; rfl
    | succ j => simpa using snL_at b (by simpa using h)
theorem keysI_sn {F H} {j : Nat} : ∀ {ts : List T} {vs : List V} {ps : List (Int × T)}, SnL F H ρ ts vs → keysI j ts = some ps →
    ∃ L : List (Int × T × V), L.map (fun z => (z.1, z.2.1)) = ps ∧ L.map (·.2.2) = vs ∧ ∀ z ∈ L, z.1 = kvj j H z.2.2 ∧ Sn F H ρ z.2.1 z.2.2 ∧ z.2.1 ∈ ts ∧ ∃ t ys, z.2.2 = .ref t ∧ H t = some (.tup ys) ∧ ys[j]? = some (.int (kvj j H z.2.2))
  | [], vs, ps, l, h => by
    have e : [] = ps := by simpa [keysI] using h
    subst e
    have : vs = [] := by simpa only [SnL] using l
    subst this
    exact ⟨[], rfl, rfl, fun z hz => by simp at hz⟩
  | t :: ts, vs, ps, l, h => by
    obtain ⟨v, ws, rfl, a, b⟩ := snL_cons l
    unfold keysI at h
    cases e1 : keyI j t with
    | none => rw [e1] at h; exact nomatch h
    | some i =>
      rw [e1] at h
      cases e2 : keysI j ts with
      | none => rw [e2] at h; exact nomatch h
      | some qs =>
        rw [e2] at h
        have e3 : (i, t) :: qs = ps := by simpa using h
        subst e3
        obtain ⟨L, l1, l2, l3⟩ := keysI_sn b e2
        unfold keyI at e1
        split at e1
        · rename_i us
          split at e1
          · rename_i i' e4
            have e5 : i' = i := by simpa using e1
            subst e5
            obtain ⟨ad, xs, rfl, ea, lx⟩ := sn_tup a
            have e6 := snL_at lx e4
            have ek : kvj j H (.ref ad) = i' := by unfold kvj; simp only [ea, e6]
            refine ⟨(i', .tup us, .ref ad) :: L, by rw [List.map_cons, l1], by rw [List.map_cons, l2], fun z hz => ?_⟩
            rcases List.mem_cons.mp hz with rfl | hz
            · exact ⟨ek.symm, a, by simp, ad, xs, rfl, ea, by rw [ek]; exact e6⟩
            · obtain ⟨c1, c2, c3, c4⟩ := l3 z hz
              exact ⟨c1, c2, List.mem_cons_of_mem _ c3, c4⟩
          · exact nomatch e1
        · exact nomatch e1
theorem snL_ofL {F H} : ∀ {L : List (Int × T × V)}, (∀ z ∈ L, Sn F H ρ z.2.1 z.2.2) → SnL F H ρ (L.map (·.2.1)) (L.map (·.2.2))
  | [], _ => by simp [SnL]
  | z :: L, h => by
    simp only [List.map_cons, SnL]
    exact ⟨_, _, rfl, h z (by simp), snL_ofL fun y hy => h y (by simp [hy])⟩
theorem flatL_mem : ∀ {ts : List T}, flatL ts = true ↔ ∀ t ∈ ts, flat t = true
  | [] => by simp [flatL]
  | t :: ts => by simp [flatL, flatL_mem (ts := ts)]
theorem srtk_ok {K : PySem.W.Frag} {j : Nat} {H : Hp} {x : T} {v : V} {t : T} (s : Sn Top H ρ x v) (e : srtkT j x = .ok t) :
    ∃ a ws, ∃ kf : V → Int, v = .ref a ∧ Rd H a (.lst ws) ∧ (∀ x ∈ ws, ∃ t ys, x = V.ref t ∧ SqT K H t ys ∧ ys[j]? = some (.int (kf x))) ∧ ∀ ys p, ys.Perm ws → ys.Pairwise (fun x y => kf x ≤ kf y) → H p = none → PR H ρ (upd H p (.lst ys)) t (.ref p) := by
  unfold srtkT at e
  split at e
  · rename_i z ts
    obtain ⟨a, ws, rfl, ra, la, fa⟩ := sn_lst s
    obtain ⟨us, e1, e2⟩ := bind_inv e
    have e2 : T.lst false false us = t := by injection e2
    subst e2
    have e1 := ofO_ok e1
    unfold sortK at e1
    split at e1
    · rename_i ps q1
      split at e1
      · rename_i nd
        have e3 : (srtBy (·.1) ps).map (·.2) = us := by simpa using e1
        subst e3
        obtain ⟨L, l1, l2, l3⟩ := keysI_sn la q1
        subst l1 l2
        have nd := of_decide_eq_true nd
        have kz : ∀ z ∈ L, kvj j H z.2.2 = z.1 := fun z hz => (l3 z hz).1.symm
        have nd' : ((L.map (·.2.2)).map (kvj j H)).Nodup := by
          rw [List.map_map] at nd ⊢
          have e4 : L.map (kvj j H ∘ fun x => x.2.2) = L.map (fun z => z.1) := List.map_congr_left fun z hz => kz z hz
          rw [e4]
          exact nd
        refine ⟨a, _, kvj j H, rfl, ra, fun x hx => ?_, fun ys p p1 p2 np => ?_⟩
        · obtain ⟨z, hz, rfl⟩ := List.mem_map.mp hx
          obtain ⟨_, _, _, t, ys, c1, c2, c3⟩ := l3 z hz
          exact ⟨t, ys, c1, SqT.of c2, c3⟩
        · have ey := srtBy_uniq p1 p2 (nodup_of_map nd')
          rw [srtBy_map] at ey
          have ek : ∀ l : List (Int × T × V), (∀ z ∈ l, kvj j H z.2.2 = z.1) → srtBy (fun z => kvj j H z.2.2) l = srtBy (fun z => z.1) l := fun l => by
            have ik : ∀ (z : Int × T × V) (m : List (Int × T × V)), kvj j H z.2.2 = z.1 → (∀ z ∈ m, kvj j H z.2.2 = z.1) → insBy (fun z => kvj j H z.2.2) z m = insBy (fun z => z.1) z m := fun z m hz => by
              induction m with
              | nil => intro _; rfl
              | cons y m ih =>
                intro hm
                unfold insBy
                rw [hz, hm y (by simp), ih fun w hw => hm w (by simp [hw])]
            induction l with
            | nil => intro _; rfl
            | cons z l ih =>
              intro hl
              unfold srtBy
              rw [ih fun w hw => hl w (by simp [hw]), ik z _ (hl z (by simp)) fun w hw => hl w (by
                have := (srtBy_perm _ l).mem_iff.mp hw
                simp [this])]
          rw [ek L kz] at ey
          subst ey
          rw [srtBy_map, List.map_map]
          have hs : ∀ z ∈ srtBy (fun z : Int × T × V => z.1) L, Sn Top H ρ z.2.1 z.2.2 := fun z hz => (l3 z ((srtBy_perm _ L).mem_iff.mp hz)).2.1
          have fl := flatL_mem.mp (fa rfl)
          refine PR.newl np (flatL_mem.mpr fun t ht => ?_) (snL_ofL hs)
          obtain ⟨z, hz, rfl⟩ := List.mem_map.mp ht
          exact fl _ (l3 z ((srtBy_perm _ L).mem_iff.mp hz)).2.2.1
      · exact nomatch e1
    · exact nomatch e1
  · exact nomatch e
theorem blt_ok (hc : X.calm = true) (hu : X.A.units + 65 < cLine) (f : BF) : CallR X (bfVal f) (fun vs H Q => ∃ ts t, SnL Top H ρ ts vs ∧ bltT f ts = .ok t ∧ ∀ u H', PR H ρ H' t u → Q u H') := by
  intro pins s σ H vs us Q I r h
  obtain ⟨ts, t, l, e, k⟩ := h
  have ok : ∀ {a b : T}, (Rs.ok a : Rs T) = .ok b → a = b := fun h => by injection h
  unfold bltT at e
  split at e
  · obtain ⟨v, rfl, sv⟩ := snL_1 l
    obtain ⟨a, ws, rfl, ra, la, fa⟩ := sn_lst sv
    obtain rfl := ok e
    exact call_len pins s σ H _ us Q I r ⟨_, _, rfl, .inl ⟨ws, rd_sqL ra, rfl⟩, by rw [la.length]; exact k _ _ PR.int⟩
  · obtain ⟨v, rfl, sv⟩ := snL_1 l
    obtain ⟨a, ws, rfl, ra, la⟩ := sn_tup sv
    obtain rfl := ok e
    exact call_len pins s σ H _ us Q I r ⟨_, _, rfl, .inr ⟨ws, SqT.of ra, rfl⟩, by rw [la.length]; exact k _ _ PR.int⟩
  · obtain ⟨v, rfl, sv⟩ := snL_1 l
    obtain ⟨a, ws, rfl, ra, la, fa, dk⟩ := sn_dic sv
    obtain rfl := ok e
    refine call_lenR pins s σ H _ us Q I r ⟨a, _, rfl, ra, ?_⟩
    have h1 : (List.zip ‹List Key› ws).length = (‹List Key›).length := by rw [List.length_zip, la.length, ← dk.1]; omega
    rw [h1]; exact k _ _ PR.int
  · obtain ⟨v, rfl, sv⟩ := snL_1 l
    obtain rfl := sn_str sv
    split at e
    · obtain rfl := ok e
      exact call_len pins s σ H _ us Q I r ⟨_, _, rfl, ⟨by rw [← sizeT_eq]; assumption, rfl⟩, k _ _ PR.int⟩
    · exact nomatch e
  · obtain ⟨v, rfl, sv⟩ := snL_1 l
    obtain rfl := sn_int sv; obtain rfl := ok e
    exact call_int1 pins s σ H _ us Q I r (.inl ⟨_, rfl, k _ _ PR.int⟩)
  · obtain ⟨v, rfl, sv⟩ := snL_1 l
    obtain rfl := sn_bl sv; obtain rfl := ok e
    exact call_int1 pins s σ H _ us Q I r (.inr ⟨_, rfl, k _ _ PR.int⟩)
  · obtain ⟨v, rfl, sv⟩ := snL_1 l
    obtain ⟨a, ws, rfl, ra, la, fa⟩ := sn_lst sv
    obtain rfl := ok e
    exact call_list_of pins s σ H _ us Q I r ⟨_, _, rfl, .inl (rd_sqL ra), fun p np => k _ _ (PR.newl np (fa rfl) la)⟩
  · obtain ⟨v, rfl, sv⟩ := snL_1 l
    obtain ⟨a, ws, rfl, ra, la⟩ := sn_tup sv
    split at e
    · rename_i hf
      obtain rfl := ok e
      exact call_list_of pins s σ H _ us Q I r ⟨_, _, rfl, .inr (SqT.of ra), fun p np => k _ _ (PR.newl np hf la)⟩
    · exact nomatch e
  · obtain ⟨v, w, rfl, sv, sw⟩ := snL_2 l
    obtain rfl := sn_int sv; obtain rfl := sn_int sw; obtain rfl := ok e
    exact call_max2 hc pins s σ H _ us Q I r ⟨_, _, rfl, k _ _ PR.int⟩
  · obtain ⟨v, w, rfl, sv, sw⟩ := snL_2 l
    obtain rfl := sn_int sv; obtain rfl := sn_int sw; obtain rfl := ok e
    exact call_min2 hc pins s σ H _ us Q I r ⟨_, _, rfl, k _ _ PR.int⟩
  · obtain ⟨v, rfl, sv⟩ := snL_1 l
    obtain rfl := sn_int sv; obtain rfl := ok e
    exact call_abs pins s σ H _ us Q I r ⟨_, rfl, k _ _ PR.int⟩
  · obtain ⟨v, rfl, sv⟩ := snL_1 l
    obtain ⟨a, ws, rfl, ra, la, fa⟩ := sn_lst sv
    obtain rfl := ok e
    exact call_tuple_of pins s σ H _ us Q I r ⟨_, _, rfl, .inl ⟨rd_sqL ra, fun p np => k _ _ (PR.newt np (fa rfl) la)⟩⟩
  · obtain ⟨v, rfl, sv⟩ := snL_1 l
    split at e
    · rename_i hf
      obtain rfl := ok e
      obtain ⟨a, ws, rfl, ra, la⟩ := sn_tup sv
      exact call_tuple_of pins s σ H _ us Q I r ⟨_, _, rfl, .inr ⟨SqT.of ra, k _ _ (PR.flat (by simpa [flat] using hf) sv)⟩⟩
    · exact nomatch e
  · obtain ⟨v, rfl, sv⟩ := snL_1 l
    obtain ⟨a, ws, rfl, ra, la, fa⟩ := sn_lst sv
    obtain ⟨ns, e1, e2⟩ := bind_inv e
    obtain rfl := ok e2
    have ew := snL_intsQ la (ofO_ok e1)
    subst ew
    exact cr_sum hc pins s σ H _ us Q I r ⟨_, _, rfl, rd_sqL ra, k _ _ PR.int⟩
  · obtain ⟨v, rfl, sv⟩ := snL_1 l
    obtain ⟨a, ws, rfl, ra, la, fa⟩ := sn_lst sv
    split at e
    · rename_i n ns e1
      obtain rfl := ok e
      have ew := snL_intsQ la e1
      subst ew
      obtain ⟨m1, m2⟩ := maxL_spec ns n
      refine cr_max hc pins s σ H _ us Q I r ⟨_, _, rfl, rd_sqL ra, by simp, fun m hm hy => ?_⟩
      have : m = maxL n ns := Int.le_antisymm (m2 m hm) (hy _ m1)
      subst this
      exact k _ _ PR.int
    · exact nomatch e
  · obtain ⟨v, rfl, sv⟩ := snL_1 l
    obtain ⟨a, ws, rfl, ra, la, fa⟩ := sn_lst sv
    split at e
    · rename_i n ns e1
      obtain rfl := ok e
      have ew := snL_intsQ la e1
      subst ew
      obtain ⟨m1, m2⟩ := minL_spec ns n
      refine cr_min hc pins s σ H _ us Q I r ⟨_, _, rfl, rd_sqL ra, by simp, fun m hm hy => ?_⟩
      have : m = minL n ns := Int.le_antisymm (hy _ m1) (m2 m hm)
      subst this
      exact k _ _ PR.int
    · exact nomatch e
  · obtain ⟨v, w, y, rfl, sv, sw, sy⟩ := snL_3 l
    obtain rfl := sn_int sv; obtain rfl := sn_int sw; obtain rfl := sn_int sy; obtain rfl := ok e
    rename_i i j m
    refine call_min3Nu hc pins s σ H _ us Q I r ⟨.int i, .int j, .int m, .int (minL i [j, m]), rfl, ?_, k _ _ PR.int⟩
    exact min3_nu i j m
  · obtain ⟨v, rfl, sv⟩ := snL_1 l
    obtain ⟨a, ws, rfl, ra, la, fa⟩ := sn_lst sv
    obtain ⟨us', e1, e2⟩ := bind_inv e
    obtain rfl := ok e2
    have e1 := ofO_ok e1
    unfold sortT at e1
    split at e1
    · rename_i ns q1
      cases e1
      have ew := snL_intsQ la q1
      subst ew
      refine cr_sortedI pins s σ H _ us Q I r ⟨_, _, rfl, rd_sqL ra, fun ns' p p1 p2 np => ?_⟩
      obtain rfl := srtI_uniq p1 p2
      exact k _ _ (PR.newl np (flatL_intsQ _) (snL_of_ints _))
    · split at e1
      · rename_i ps q1
        cases e1
        obtain ⟨h1, h2⟩ := snL_pairs la q1
        refine cr_sortedPO pins s σ H _ us Q I r ⟨_, ws, kP H, rfl, rd_sqL ra, h2, fun ys p p1 p2 np => ?_⟩
        have hy : ∀ x ∈ ys, ∃ t, x = V.ref t ∧ H t = some (.tup [.int (kP H x).1, .int (kP H x).2]) := fun x hx => h2 x (p2.perm.mem_iff.mp hx)
        have e3 : ys.map (kP H) = srtP ps := srtP_uniq (by rw [← h1]; exact p2.perm.map _) (List.pairwise_map.mpr (p1.imp fun {x y} h => by
          have a := SrtO.lexB_no.mp h
          unfold leP; omega))
        have s := snL_of_pairs (F := Top) (ρ := ρ) hy
        rw [e3] at s
        exact k _ _ (PR.newl np (flatL_pairs _) s)
      · split at e1
        · rename_i ps q1
          split at e1
          · rename_i dd
            cases e1
            obtain ⟨h1, h2⟩ := snL_tris la q1
            have df := dif3_of dd
            refine cr_sorted3 hu pins s σ H _ us Q I r ⟨_, ws, k3 H, rfl, rd_sqL ra, h2, fun x hx y hy e => df _ (by rw [← h1]; exact List.mem_map.mpr ⟨x, hx, rfl⟩) _ (by rw [← h1]; exact List.mem_map.mpr ⟨y, hy, rfl⟩) e, fun ys p p2 p1 np => ?_⟩
            have hy : ∀ x ∈ ys, ∃ t, x = V.ref t ∧ H t = some (.tup [.int (k3 H x).1, .int (k3 H x).2.1, .bl (k3 H x).2.2]) := fun x hx => h2 x (p2.mem_iff.mp hx)
            have e3 : ys.map (k3 H) = srt3 ps := srt3_uniq (by rw [← h1]; exact p2.map _) (List.pairwise_map.mpr p1) df
            have s := snL_of_tris (F := Top) (ρ := ρ) hy
            rw [e3] at s
            exact k _ _ (PR.newl np (flatL_tris _) s)
          · cases e1
        · cases e1
  · obtain ⟨v, rfl, sv⟩ := snL_1 l
    obtain ⟨a, ws, rfl, ra, la, fa, dk⟩ := sn_dic sv
    split at e
    · rename_i hz
      obtain ⟨ns, e1, e2⟩ := bind_inv e
      obtain rfl := ok e2
      have e3 := intsK_map (ofO_ok e1)
      refine call_sortedDI hc pins s σ H _ us Q I r ⟨a, _, ns, rfl, ra, ?_, ?_, fun ys p p1 p2 np => ?_⟩
      · rw [← e3, List.map_fst_zip (by rw [la.length, ← dk.1]; exact Nat.le_refl _)]
      · have := congrArg List.length e3; rw [List.length_map] at this; omega
      · obtain rfl := srtI_uniq p1 p2
        exact k _ _ (PR.newl np (flatL_intsQ _) (snL_of_ints _))
    · exact nomatch e
  · obtain ⟨v, rfl, sv⟩ := snL_1 l
    obtain rfl := sn_int sv
    split at e
    · rename_i hz
      obtain rfl := ok e
      exact call_str_int pins s σ H _ us Q I r ⟨_, rfl, hz, k _ _ PR.str⟩
    · exact nomatch e
  · obtain ⟨v, rfl, sv⟩ := snL_1 l
    obtain rfl := sn_str sv; obtain rfl := ok e
    exact SkE.call_str_str pins s σ H _ us Q I r ⟨_, rfl, k _ _ PR.str⟩
  · exact nomatch e
/-! ### methods of plain values -/
def bmName : BM → Str
  | .bitl => "bit_length" | .index => "index" | .upper => "upper" | .join => "join" | .split => "split"
def bmId : BM → String
  | .bitl => "int.bit_length" | .index => "list.index" | .upper => "str.upper" | .join => "str.join" | .split => "str.split"
def bmTy : BM → String
  | .bitl => "int" | .index => "list" | .upper => "str" | .join => "str" | .split => "str"
theorem mt_bitl : MtR X "int.bit_length" (fun x xs H Q => ∃ i, x = .int i ∧ xs = [] ∧ Q (.int (Builtin.Int.intBits i : Nat)) H) := by
  intro pins s σ H x xs v us Q I rx rv h
  obtain ⟨i, rfl, rfl, q⟩ := h
  obtain ⟨t, rfl⟩ := rx
  have hus := rv.zero
  subst hus
  exact call_int_bit_length ⟨.int _, H, I.tok _, ⟨_, rfl⟩, q⟩
theorem bm_ty {F H} {m : BM} {x : T} {v : V} (h : bmB m x = true) (s : Sn F H ρ x v) : L2.tyV X.K (bmTy m) v H := by
  unfold bmB at h
  split at h
  · obtain rfl := sn_int s; rfl
  · obtain ⟨a, vs, rfl, ra, _, _⟩ := sn_lst s
    exact .inl ⟨rfl, vs, rd_sqL ra⟩
  · obtain rfl := sn_str s; rfl
  · obtain rfl := sn_str s; rfl
  · obtain rfl := sn_str s; rfl
  · exact absurd h Bool.false_ne_true
theorem idxT_ok {F H} {x : T} {w : V} (hx : scT x = true) (sx : Sn F H ρ x w) : ∀ {ts : List T} {vs : List V} {k j : Nat}, SnL F H ρ ts vs → ts.all scT = true → idxT x ts k = some j →
    k ≤ j ∧ ∃ z, vs[j - k]? = some z ∧ eqV z w = true ∧ ∀ (m : Nat) (z' : V), m < j - k → vs[m]? = some z' → eqV z' w = false
  | [], vs, k, j, l, h, e => by simp [idxT] at e
  | t :: ts, vs, k, j, l, h, e => by
    obtain ⟨v, vs', rfl, a, b⟩ := snL_cons l
    simp only [List.all_cons, Bool.and_eq_true] at h
    unfold idxT at e
    have q := sc_eq h.1 hx a sx
    by_cases c : eqS t x = true
    · rw [if_pos c] at e
      cases e
      refine ⟨Nat.le_refl _, v, by simp, by rw [q]; exact c, fun m z' hm => by omega⟩
    · rw [if_neg c] at e
      obtain ⟨h1, z, h2, h3, h4⟩ := idxT_ok hx sx b h.2 e
      have e1 : j - k = (j - (k + 1)) + 1 := by omega
      refine ⟨by omega, z, by rw [e1, List.getElem?_cons_succ]; exact h2, h3, fun m z' hm hz => ?_⟩
      cases m with
      | zero =>
        simp at hz
        subst hz
        rw [q]
        simpa using c
      | succ m => exact h4 m z' (by omega) (by simpa using hz)
theorem snL_strs {F H} : ∀ {ts : List T} {vs : List V} {ns : List Str}, SnL F H ρ ts vs → strsL ts = some ns → vs = ns.map V.str
  | [], vs, ns, l, h => by
    simp only [strsL] at h; cases h
    simpa only [SnL, List.map_nil] using l
  | t :: ts, vs, ns, l, h => by
    cases t <;> simp only [strsL, reduceCtorEq] at h
    cases q : strsL ts with
    | none => rw [q] at h; cases h
    | some ms =>
      rw [q] at h; cases h
      obtain ⟨v, vs', rfl, a, b⟩ := snL_cons l
      obtain rfl := sn_str a
      rw [snL_strs b q]; rfl
theorem snL_of_strs {F H} : ∀ ns : List Str, SnL F H ρ (ns.map T.str) (ns.map V.str)
  | [] => by simp [SnL]
  | n :: ns => by
    simp only [List.map_cons, SnL]
    exact ⟨_, _, rfl, by simp [Sn], snL_of_strs ns⟩
theorem flatL_strs : ∀ ns : List Str, flatL (ns.map T.str) = true
  | [] => rfl
  | n :: ns => by simp only [List.map_cons, flatL, flat, flatL_strs ns, Bool.and_true]
theorem mt_bm (m : BM) : MtR X (bmId m) (fun x xs H Q => ∃ tx ts t, Sn Top H ρ tx x ∧ SnL Top H ρ ts xs ∧ bmT m tx ts = .ok t ∧ ∀ u H', PR H ρ H' t u → Q u H') := by
  intro pins s σ H x xs v us Q I rx rv h
  obtain ⟨tx, ts, t, sx, l, e, k⟩ := h
  have ok : ∀ {a b : T}, (Rs.ok a : Rs T) = .ok b → a = b := fun h => by injection h
  unfold bmT at e
  split at e
  · obtain rfl := sn_int sx; obtain rfl := ok e
    exact mt_bitl pins s σ H _ _ v us Q I rx rv ⟨_, rfl, snL_nil l, k _ _ PR.int⟩
  · obtain ⟨w, rfl, sw⟩ := snL_1 l
    obtain ⟨a, vs, rfl, ra, la, _⟩ := sn_lst sx
    split at e
    · rename_i hs
      simp only [Bool.and_eq_true] at hs
      obtain ⟨j, e1, e2⟩ := bind_inv e
      obtain rfl := ok e2
      obtain ⟨_, z, h2, h3, h4⟩ := idxT_ok hs.1 sw la hs.2 (ofO_ok e1)
      obtain ⟨h5, _⟩ := sc_all hs.1 sw la hs.2
      exact mt_index pins s σ H _ _ v us Q I rx rv ⟨a, vs, w, j, z, rfl, rfl, rd_sqL ra, sc_flat hs.1 sw, h5, h2, h3, h4, k _ _ PR.int⟩
    · exact nomatch e
  · obtain rfl := sn_str sx
    split at e
    · rename_i hz
      obtain rfl := ok e
      exact mt_upper pins s σ H _ _ v us Q I rx rv ⟨_, rfl, snL_nil l, hz, k _ _ PR.str⟩
    · exact nomatch e
  · obtain ⟨w, rfl, sw⟩ := snL_1 l
    obtain rfl := sn_str sx
    obtain ⟨a, vs, rfl, ra, la, _⟩ := sn_lst sw
    split at e
    · rename_i ys e1
      have ew := snL_strs la e1
      subst ew
      split at e
      · rename_i hz
        obtain rfl := ok e
        exact mt_join pins s σ H _ _ v us Q I rx rv ⟨_, a, ys, rfl, rfl, .inl (rd_sqL ra), hz, k _ _ PR.str⟩
      · exact nomatch e
    · exact nomatch e
  · obtain ⟨w, rfl, sw⟩ := snL_1 l
    obtain rfl := sn_str sx
    obtain rfl := sn_str sw
    split at e
    · rename_i hz
      obtain rfl := ok e
      exact mt_split pins s σ H _ _ v us Q I rx rv ⟨_, _, rfl, rfl, hz.1, by rw [← sizeT_eq]; exact hz.2, fun p np => k _ _ (PR.newl np (flatL_strs _) (snL_of_strs _))⟩
    · exact nomatch e
  · exact nomatch e
end
end Tr
/-! TrExpr: expressions. -/
namespace Tr
open PySem PySem.Spec PyProof.Rows L2

/-- what is told of a program: the numbers of its defs, of its classes and of its classes of exceptions by their names, the field of such a class, the defs, which class is taken by which, the fields that are used -/
structure Pd where
  fns : List (Str × Nat)
  cls : List (Str × Nat)
  fl : List Nat
  exs : List (Str × Nat)
  efd : Nat → Option Str
  tb : Nat → Option FD
  xs : Nat → Nat → Bool

/-! ### the state -/
section
variable (F : As) (H : Hp) (ρ : List Addr)
/-- fields to be read -/
def FsS : List (Nat × Option T) → List (Str × V) → Prop
  | [], fs => fs = []
  | (n, o) :: r, fs => ∃ v fs', fs = (fldN n, v) :: fs' ∧ n < 18 ∧ (∀ t, o = some t → Sn F H ρ t v) ∧ FsS r fs'
/-- fields and their own lists -/
def FsR : List (Nat × Option T) → List (Str × V) → Fp → Prop
  | [], fs, f => fs = [] ∧ ∀ b, f b = 0
  | (n, o) :: r, fs, f => ∃ v fs' f1 f2, fs = (fldN n, v) :: fs' ∧ n < 18 ∧ (∀ t, o = some t → clean t = true ∧ Rp F H ρ t v f1) ∧ FsR r fs' f2 ∧ ∀ b, f b = f1 b + f2 b ∧ (f1 b ≠ 0 → o ≠ none)
end
section
variable (pd : Pd) (mg : Str → Option Value) (F : As) (H : Hp) (ρ : List Addr)
def ObS (o : Ob) (a : Addr) : Prop := ∃ x C dx fs, pd.cls.lookup x = some o.cls ∧ mg x = some (.ref C) ∧ H a = some (.ins C dx fs) ∧ FsS F H ρ o.fs fs
def ObR (o : Ob) (a : Addr) (f : Fp) : Prop := ∃ x C dx fs f', pd.cls.lookup x = some o.cls ∧ mg x = some (.ref C) ∧ H a = some (.ins C dx fs) ∧ FsR F H ρ o.fs fs f' ∧ ∀ b, f b = f' b + if b = a then 1 else 0
def StoS : List Ob → List Addr → Prop
  | [], as => as = []
  | o :: os, as => ∃ a as', as = a :: as' ∧ F a ∧ ObS pd mg F H ρ o a ∧ StoS os as'
def StoL : List Ob → List Addr → Fp → Prop
  | [], as, f => as = [] ∧ ∀ b, f b = 0
  | o :: os, as, f => ∃ a as' f1 f2, as = a :: as' ∧ ObR pd mg F H ρ o a f1 ∧ StoL os as' f2 ∧ ∀ b, f b = f1 b + f2 b
end
/-- the objects: to be read (lk), or owned -/
def StoR (pd : Pd) (mg : Str → Option Value) (F : As) (H : Hp) (ρ : List Addr) (lk : Bool) (sto : List Ob) (f : Fp) : Prop := if lk = true then (∀ b, f b = 0) ∧ StoS pd mg F H ρ sto ρ else StoL pd mg F H ρ sto ρ f
/-- .. as they are behind a call -/
def StoQ (pd : Pd) (mg : Str → Option Value) (F : As) (H : Hp) (ρ : List Addr) (lk : Bool) (sto : List Ob) (f : Fp) : Prop := if lk = true then ∀ b, f b = 0 else StoL pd mg F H ρ sto ρ f
def ViewS (pd : Pd) (mg : Str → Option Value) (H : Hp) (ρ : List Addr) (sto : List Ob) : Prop := StoS pd mg Top H ρ sto ρ
section
variable {pd : Pd} {mg : Str → Option Value} {F F' : As} {H H' : Hp} {ρ ρ' : List Addr}
theorem FsS.keep (k : Kp F H H') (p : Pre ρ ρ') (s : ∀ a, F a → F' a) : ∀ {o : List (Nat × Option T)} {fs : List (Str × V)}, FsS F H ρ o fs → FsS F' H' ρ' o fs
  | [], fs, h => h
  | (n, o) :: r, fs, h => by
    obtain ⟨v, fs', e, h1, h2, h3⟩ := h
    exact ⟨v, fs', e, h1, fun t q => Sn.keep k p s t v (h2 t q), h3.keep k p s⟩
theorem FsS.low (s : ∀ a, F a → (∃ o, H a = some o) → F' a) : ∀ {o : List (Nat × Option T)} {fs : List (Str × V)}, FsS F H ρ o fs → FsS F' H ρ o fs
  | [], fs, h => h
  | (n, o) :: r, fs, h => by
    obtain ⟨v, fs', e, h1, h2, h3⟩ := h
    exact ⟨v, fs', e, h1, fun t q => Sn.low s t v (h2 t q), h3.low s⟩
theorem FsS.ext (k : Ext H H') (p : Pre ρ ρ') : ∀ {o : List (Nat × Option T)} {fs : List (Str × V)}, FsS F H ρ o fs → FsS F H' ρ' o fs
  | [], fs, h => h
  | (n, o) :: r, fs, h => by
    obtain ⟨v, fs', e, h1, h2, h3⟩ := h
    exact ⟨v, fs', e, h1, fun t q => Sn.ext k p t v (h2 t q), h3.ext k p⟩
theorem FsR.keep (k : Kp F H H') (p : Pre ρ ρ') (s : ∀ a, F a → F' a) : ∀ {o : List (Nat × Option T)} {fs : List (Str × V)} {f : Fp}, (∀ a, f a ≠ 0 → H' a = H a) → FsR F H ρ o fs f → FsR F' H' ρ' o fs f
  | [], fs, f, g, h => h
  | (n, o) :: r, fs, f, g, h => by
    obtain ⟨v, fs', f1, f2, e, h1, h2, h3, h4⟩ := h
    exact ⟨v, fs', f1, f2, e, h1, fun t q => ⟨(h2 t q).1, Rp.keep k p s t v f1 (fun b hb => g b (by rw [(h4 b).1]; omega)) (h2 t q).2⟩, h3.keep k p s (fun b hb => g b (by rw [(h4 b).1]; omega)), h4⟩
theorem FsR.sn (s : ∀ a, F a → F' a) : ∀ {o : List (Nat × Option T)} {fs : List (Str × V)} {f : Fp}, (∀ a, f a ≠ 0 → F' a) → FsR F H ρ o fs f → FsS F' H ρ o fs
  | [], fs, f, g, h => h.1
  | (n, o) :: r, fs, f, g, h => by
    obtain ⟨v, fs', f1, f2, e, h1, h2, h3, h4⟩ := h
    exact ⟨v, fs', e, h1, fun t q => Rp.sn t v f1 s (fun b hb => g b (by rw [(h4 b).1]; omega)) (h2 t q).2, h3.sn s (fun b hb => g b (by rw [(h4 b).1]; omega))⟩
theorem FsR.any : ∀ {o : List (Nat × Option T)} {fs : List (Str × V)} {f : Fp}, FsR F H ρ o fs f → FsR F' H ρ o fs f
  | [], fs, f, h => h
  | (n, o) :: r, fs, f, h => by
    obtain ⟨v, fs', f1, f2, e, h1, h2, h3, h4⟩ := h
    exact ⟨v, fs', f1, f2, e, h1, fun t q => ⟨(h2 t q).1, Rp.clean t v f1 (h2 t q).1 (h2 t q).2⟩, h3.any, h4⟩
theorem FsR.in_ : ∀ {o : List (Nat × Option T)} {fs : List (Str × V)} {f : Fp}, FsR F H ρ o fs f → ∀ a, f a ≠ 0 → ∃ w : LDo, H a = some w.1
  | [], fs, f, h, a, n => absurd (h.2 a) n
  | (n', o) :: r, fs, f, h, a, n => by
    obtain ⟨v, fs', f1, f2, e, h1, h2, h3, h4⟩ := h
    by_cases q : f1 a = 0
    · exact h3.in_ a (by have := (h4 a).1; omega)
    · have no := (h4 a).2 q
      cases o with
      | none => exact absurd rfl no
      | some t => exact Rp.in_ t v f1 (h2 t rfl).2 a q
theorem ObS.keep {o : Ob} {a : Addr} (k : Kp F H H') (p : Pre ρ ρ') (s : ∀ a, F a → F' a) (fa : F a) (h : ObS pd mg F H ρ o a) : ObS pd mg F' H' ρ' o a := by
  obtain ⟨x, C, dx, fs, h1, h2, h3, h4⟩ := h
  exact ⟨x, C, dx, fs, h1, h2, by rw [k.at_ a fa]; exact h3, h4.keep k p s⟩
theorem StoS.keep (k : Kp F H H') (p : Pre ρ ρ') (s : ∀ a, F a → F' a) : ∀ {os : List Ob} {as : List Addr}, StoS pd mg F H ρ os as → StoS pd mg F' H' ρ' os as
  | [], as, h => h
  | o :: os, as, h => by
    obtain ⟨a, as', e, fa, h1, h2⟩ := h
    exact ⟨a, as', e, s a fa, h1.keep k p s fa, h2.keep k p s⟩
theorem StoS.low (s : ∀ a, F a → (∃ o, H a = some o) → F' a) : ∀ {os : List Ob} {as : List Addr}, StoS pd mg F H ρ os as → StoS pd mg F' H ρ os as
  | [], as, h => h
  | o :: os, as, h => by
    obtain ⟨a, as', e, fa, ⟨x, C, dx, fs, q1, q2, q3, q4⟩, h2⟩ := h
    exact ⟨a, as', e, s a fa ⟨_, q3⟩, ⟨x, C, dx, fs, q1, q2, q3, q4.low s⟩, h2.low s⟩
theorem StoS.ext (k : Ext H H') (p : Pre ρ ρ') : ∀ {os : List Ob} {as : List Addr}, StoS pd mg F H ρ os as → StoS pd mg F H' ρ' os as
  | [], as, h => h
  | o :: os, as, h => by
    obtain ⟨a, as', e, fa, ⟨x, C, dx, fs, q1, q2, q3, q4⟩, h2⟩ := h
    exact ⟨a, as', e, fa, ⟨x, C, dx, fs, q1, q2, k _ _ q3, q4.ext k p⟩, h2.ext k p⟩
theorem StoS.at_ : ∀ {os : List Ob} {as : List Addr} {i : Nat} {o : Ob}, StoS pd mg F H ρ os as → os[i]? = some o → ∃ a, as[i]? = some a ∧ F a ∧ ObS pd mg F H ρ o a
  | [], as, i, o, h, e => by simp at e
  | o' :: os, as, 0, o, h, e => by
    obtain ⟨a, as', rfl, fa, h1, h2⟩ := h
    simp at e; subst e
    exact ⟨a, rfl, fa, h1⟩
  | o' :: os, as, i + 1, o, h, e => by
    obtain ⟨a, as', rfl, fa, h1, h2⟩ := h
    obtain ⟨b, e1, e2, e3⟩ := h2.at_ (i := i) (by simpa using e)
    exact ⟨b, by simpa using e1, e2, e3⟩
theorem StoS.len : ∀ {os : List Ob} {as : List Addr}, StoS pd mg F H ρ os as → as.length = os.length
  | [], as, h => by rw [show as = [] from h]; rfl
  | o' :: os, as, h => by
    obtain ⟨a, as', rfl, fa, h1, h2⟩ := h
    simp [h2.len]
theorem StoL.keep (k : Kp F H H') (p : Pre ρ ρ') (s : ∀ a, F a → F' a) : ∀ {os : List Ob} {as : List Addr} {f : Fp}, (∀ a, f a ≠ 0 → H' a = H a) → StoL pd mg F H ρ os as f → StoL pd mg F' H' ρ' os as f
  | [], as, f, g, h => h
  | o :: os, as, f, g, h => by
    obtain ⟨a, as', f1, f2, e, ⟨x, C, dx, fs, f', q1, q2, q3, q4, q5⟩, h2, hf⟩ := h
    refine ⟨a, as', f1, f2, e, ⟨x, C, dx, fs, f', q1, q2, ?_, q4.keep k p s fun b hb => g b (by rw [hf b, q5 b]; omega), q5⟩, h2.keep k p s fun b hb => g b (by rw [hf b]; omega), hf⟩
    rw [g a (by rw [hf a, q5 a]; simp)]; exact q3
theorem StoL.sn (s : ∀ a, F a → F' a) : ∀ {os : List Ob} {as : List Addr} {f : Fp}, (∀ a, f a ≠ 0 → F' a) → StoL pd mg F H ρ os as f → StoS pd mg F' H ρ os as
  | [], as, f, g, h => h.1
  | o :: os, as, f, g, h => by
    obtain ⟨a, as', f1, f2, e, ⟨x, C, dx, fs, f', q1, q2, q3, q4, q5⟩, h2, hf⟩ := h
    exact ⟨a, as', e, g a (by rw [hf a, q5 a]; simp), ⟨x, C, dx, fs, q1, q2, q3, q4.sn s fun b hb => g b (by rw [hf b, q5 b]; omega)⟩, h2.sn s fun b hb => g b (by rw [hf b]; omega)⟩
theorem StoL.any : ∀ {os : List Ob} {as : List Addr} {f : Fp}, StoL pd mg F H ρ os as f → StoL pd mg F' H ρ os as f
  | [], as, f, h => h
  | o :: os, as, f, h => by
    obtain ⟨a, as', f1, f2, e, ⟨x, C, dx, fs, f', q1, q2, q3, q4, q5⟩, h2, hf⟩ := h
    exact ⟨a, as', f1, f2, e, ⟨x, C, dx, fs, f', q1, q2, q3, q4.any, q5⟩, h2.any, hf⟩
theorem StoL.in_ : ∀ {os : List Ob} {as : List Addr} {f : Fp}, StoL pd mg F H ρ os as f → ∀ a, f a ≠ 0 → ∃ o, H a = some o
  | [], as, f, h, a, n => absurd (h.2 a) n
  | o :: os, as, f, h, b, n => by
    obtain ⟨a, as', f1, f2, e, ⟨x, C, dx, fs, f', q1, q2, q3, q4, q5⟩, h2, hf⟩ := h
    by_cases q : f1 b = 0
    · exact h2.in_ b (by have := hf b; omega)
    · by_cases z : b = a
      · exact ⟨_, by rw [z]; exact q3⟩
      · obtain ⟨vs, w⟩ := q4.in_ b (by have := q5 b; rw [if_neg z] at this; omega)
        exact ⟨_, w⟩
theorem StoR.in_ {lk sto f} (h : StoR pd mg F H ρ lk sto f) : ∀ a, f a ≠ 0 → ∃ o, H a = some o := by
  unfold StoR at h
  split at h
  · exact fun a n => absurd (h.1 a) n
  · exact h.in_
theorem StoR.view {lk sto f} (h : StoR pd mg F H ρ lk sto f) : ViewS pd mg H ρ sto := by
  unfold StoR at h
  split at h
  · exact h.2.keep Kp.refl Pre.refl fun _ _ => trivial
  · exact h.sn (fun _ _ => trivial) fun _ _ => trivial
theorem StoR.keep {lk sto f} (k : Kp F H H') (p : Pre ρ ρ') (s : ∀ a, F a → F' a) (g : ∀ a, f a ≠ 0 → H' a = H a) (e : ρ' = ρ) (h : StoR pd mg F H ρ lk sto f) : StoR pd mg F' H' ρ' lk sto f := by
  subst e
  unfold StoR at h ⊢
  split at h
  · rename_i q; rw [if_pos q]; exact ⟨h.1, h.2.keep k p s⟩
  · rename_i q; rw [if_neg q]; exact h.keep k p s g
theorem StoR.q {lk sto f} (h : StoR pd mg F H ρ lk sto f) : StoQ pd mg F' H ρ lk sto f := by
  unfold StoR at h
  unfold StoQ
  split at h
  · rename_i q; rw [if_pos q]; exact h.1
  · rename_i q; rw [if_neg q]; exact h.any
theorem ViewS.ext {sto} (h : ViewS pd mg H ρ sto) (e : Ext H H') : ViewS pd mg H' ρ sto := StoS.ext e Pre.refl h
theorem ViewS.lock {sto} (h : ViewS pd mg H ρ sto) : StoR pd mg (dom H) H ρ true sto (fun _ => 0) := by
  unfold StoR
  rw [if_pos rfl]
  exact ⟨fun _ => rfl, h.low fun a _ o => o⟩
end
def ViewE (H : Hp) (ρ : List Addr) (σ : L2.St) (env : En) : Prop := ∀ (i : Nat) (t : T), env[i]? = some (some t) → ∃ v, σ[i]? = some (some v) ∧ Sn Top H ρ t v
theorem ViewE.ext {H H' ρ σ env} (h : ViewE H ρ σ env) (e : Ext H H') : ViewE H' ρ σ env := fun i t q => let ⟨v, a, b⟩ := h i t q; ⟨v, a, Sn.ext e Pre.refl t v b⟩

/-- an exception as it flies -/
def ExR (pd : Pd) (mg : Str → Option Value) (H : Hp) (ρ : List Addr) (e : Exn) (cls : Value) (d : Option Addr) : Prop :=
  ∃ x C, pd.exs.lookup x = some e.cls ∧ mg x = some (.ref C) ∧ cls = .ref C ∧ match e.fld with
    | none => d = none ∧ pd.efd e.cls = none
    | some t => flat t = true ∧ ∃ dd nm v, d = some dd ∧ pd.efd e.cls = some nm ∧ H dd = some (.xd [(nm, v)]) ∧ Sn Top H ρ t v

/-- what is wanted behind a reckoning -/
def Po {α β : Type} (P : Hp → List Addr → Hp → α → β → Prop) (pd : Pd) (mg : Str → Option Value) (ρ : List Addr) (W : Value → Option Addr → Hp → Prop) (H : Hp) (r : Rs α) (Q : β → Hp → Prop) : Prop := match r with
  | .ok t => ∀ v H', P H ρ H' t v → Q v H'
  | .ex e => ∀ cls d H', Ext H H' → ExR pd mg H' ρ e cls d → W cls d H'
  | .no => False
section
variable {α β γ δ : Type} {P : Hp → List Addr → Hp → α → β → Prop} {P' : Hp → List Addr → Hp → γ → δ → Prop} {pd : Pd} {mg : Str → Option Value} {ρ : List Addr} {W : Value → Option Addr → Hp → Prop} {H : Hp}
theorem Po.mono {r : Rs α} {Q Q' : β → Hp → Prop} (h : Po P pd mg ρ W H r Q) (k : ∀ t v H', r = .ok t → P H ρ H' t v → Q v H' → Q' v H') : Po P pd mg ρ W H r Q' := by
  cases r with
  | ok t => exact fun v H' p => k t v H' rfl p (h v H' p)
  | ex e => exact h
  | no => exact h
theorem Po.bind {m : Rs α} {g : α → Rs γ} {Q : δ → Hp → Prop} (h : Po P' pd mg ρ W H (m.bind g) Q) (pe : ∀ H' t v, P H ρ H' t v → Ext H H')
    (pb : ∀ H1 H' t v, Ext H H1 → P' H1 ρ H' t v → P' H ρ H' t v) : Po P pd mg ρ W H m (fun v H1 => ∃ x, m = .ok x ∧ P H ρ H1 x v ∧ Po P' pd mg ρ W H1 (g x) Q) := by
  cases m with
  | ok x =>
    intro v H1 p
    refine ⟨x, rfl, p, ?_⟩
    have h' : Po P' pd mg ρ W H (g x) Q := h
    have e := pe _ _ _ p
    cases q : g x with
    | ok y => rw [q] at h'; exact fun w H' p' => h' w H' (pb _ _ _ _ e p')
    | ex z => rw [q] at h'; exact fun cls d H' e' => h' cls d H' (e.trans e')
    | no => rw [q] at h'; exact h'
  | ex e => exact h
  | no => exact h
end
/-- several values -/
def PRL (H : Hp) (ρ : List Addr) (H' : Hp) (ts : List T) (vs : List V) : Prop := Ext H H' ∧ ∃ f, RpL Top H' ρ ts vs f ∧ (∀ b, f b ≤ 1) ∧ ∀ b, dom H b → f b = 0
theorem PRL.base {H H1 H' ρ t v} (e : Ext H H1) (p : PRL H1 ρ H' t v) : PRL H ρ H' t v :=
  ⟨e.trans p.1, let ⟨f, a, b, c⟩ := p.2; ⟨f, a, b, fun x hx => c x (e.dom hx)⟩⟩
theorem PRL.snl {H ρ H' t v} (p : PRL H ρ H' t v) : SnL Top H' ρ t v := let ⟨f, a, _, _⟩ := p.2; RpL.sn t v f (fun _ h => h) (fun _ _ => trivial) a
theorem PRL.nil {H ρ} : PRL H ρ H [] [] := ⟨Ext.refl, fun _ => 0, by simp [RpL], fun _ => Nat.zero_le _, fun _ _ => rfl⟩
theorem PRL.cons {H H1 H2 ρ t v ts vs} (a : PR H ρ H1 t v) (b : PRL H1 ρ H2 ts vs) : PRL H ρ H2 (t :: ts) (v :: vs) := by
  obtain ⟨e1, f1, r1, l1, d1⟩ := a
  obtain ⟨e2, f2, r2, l2, d2⟩ := b
  have k1 := Rp.ext e2 (Pre.refl (ρ := ρ)) t v f1 r1
  have dis : ∀ b, f1 b ≠ 0 → f2 b = 0 := fun b hb => let ⟨vs, q⟩ := Rp.in_ t v f1 r1 b hb; d2 b ⟨_, q⟩
  refine ⟨e1.trans e2, fun b => f1 b + f2 b, ?_, fun b => ?_, fun b hb => ?_⟩
  · simp only [RpL]
    exact ⟨v, vs, f1, f2, rfl, k1, r2, fun _ => rfl⟩
  · have h1 := l1 b; have h2 := l2 b; have h3 := dis b
    show f1 b + f2 b ≤ 1
    by_cases q : f1 b = 0
    · omega
    · have := h3 q; omega
  · show f1 b + f2 b = 0
    have h1 := d1 b hb; have h2 := d2 b (e1.dom hb); omega

abbrev PoV := @Po T V PR
abbrev PoL := @Po (List T) (List V) PRL
/-- a test -/
def PB (H : Hp) (ρ : List Addr) (H' : Hp) (b : Bool) (c : Bool) : Prop := Ext H H' ∧ b = c
abbrev PoB := @Po Bool Bool PB
/-- a slice's part -/
abbrev PoO := @Po (Option Int) (Option Int) (fun H _ H' o o' => Ext H H' ∧ o = o')

def tPv (pd : Pd) (mg : Str → Option Value) (W : WX) (r : En → List Ob → Rs T) : TE := fun σ H Q => ∃ ρ env sto, ViewE H ρ σ env ∧ ViewS pd mg H ρ sto ∧ PoV pd mg ρ (fun c d H' => W c d σ H') H (r env sto) Q
def tPl (pd : Pd) (mg : Str → Option Value) (W : WX) (r : En → List Ob → Rs (List T)) : TA := fun σ H Q => ∃ ρ env sto, ViewE H ρ σ env ∧ ViewS pd mg H ρ sto ∧ PoL pd mg ρ (fun c d H' => W c d σ H') H (r env sto) Q
def tPb (pd : Pd) (mg : Str → Option Value) (W : WX) (r : En → List Ob → Rs Bool) : TT := fun σ H Q => ∃ ρ env sto, ViewE H ρ σ env ∧ ViewS pd mg H ρ sto ∧ PoB pd mg ρ (fun c d H' => W c d σ H') H (r env sto) Q
def tPo (pd : Pd) (mg : Str → Option Value) (W : WX) (r : En → List Ob → Rs (Option Int)) : TO := fun σ H Q => ∃ ρ env sto, ViewE H ρ σ env ∧ ViewS pd mg H ρ sto ∧ PoO pd mg ρ (fun c d H' => W c d σ H') H (r env sto) Q
theorem PE.imp {X : Cx} {e : Expr} {t t' : TE} (h : PE X e t) (k : ∀ σ H Q, t' σ H Q → t σ H Q) : PE X e t' := ⟨fun pins s σ H Q I w => h.run pins s σ H Q I (k σ H Q w)⟩
theorem PT.imp {X : Cx} {e : Expr} {t t' : TT} (h : PT X e t) (k : ∀ σ H Q, t' σ H Q → t σ H Q) : PT X e t' := ⟨fun pins s σ H Q I w => h.run pins s σ H Q I (k σ H Q w)⟩
theorem PW.imp {X : Cx} {e : Expr} {t t' : TT} (h : PW X e t) (k : ∀ σ H Q, t' σ H Q → t σ H Q) : PW X e t' := ⟨fun w pins s σ H Q I z => h.run w pins s σ H Q I (k σ H Q z)⟩
theorem PA.imp {X : Cx} {e : List Expr} {t t' : TA} (h : PA X e t) (k : ∀ σ H Q, t' σ H Q → t σ H Q) : PA X e t' := ⟨fun p pins s σ H Q I z => h.run p pins s σ H Q I (k σ H Q z)⟩

/-! ### what a def promises -/
def FPost (pd : Pd) (mg : Str → Option Value) (F : As) (H : Hp) (ρ : List Addr) (lk : Bool) (mu : List Nat) (vs : List V) (r : FR) (Q : VK) (E : XK) : Prop := match r with
  | .ok t ms sto => ∀ v H' ρ', clean t = true → cleanL ms = true → Kp F H H' → Pre ρ ρ' → (lk = true → ρ' = ρ) → (∃ ft fm fs, Rp F H' ρ' t v ft ∧ RpL F H' ρ' ms (mu.filterMap fun j => vs[j]?) fm ∧ StoQ pd mg F H' ρ' lk sto fs ∧
      (∀ b, ft b + fm b + fs b ≤ 1) ∧ ∀ b, F b → ft b + fm b + fs b = 0) → Q v H'
  | .ex e ms sto => ∀ cls d H' ρ', cleanL ms = true → Kp F H H' → Pre ρ ρ' → (lk = true → ρ' = ρ) → ExR pd mg H' ρ' e cls d → (∃ fm fs, RpL F H' ρ' ms (mu.filterMap fun j => vs[j]?) fm ∧ StoQ pd mg F H' ρ' lk sto fs ∧
      (∀ b, fm b + fs b ≤ 1) ∧ ∀ b, F b → fm b + fs b = 0) → E cls d H'
  | .no => False
def spT (pd : Pd) (mg : Str → Option Value) (cf : CF) (f : Nat) (np : Nat) (mu : List Nat) : Sp := fun vs H Q E => ∃ F ρ lk ts sto fa fs, vs.length = np ∧ (∀ b, F b → dom H b) ∧ RpL F H ρ ts vs fa ∧ StoR pd mg F H ρ lk sto fs ∧
  (∀ b, fa b + fs b ≤ 1) ∧ (∀ b, F b → fa b + fs b = 0) ∧ FPost pd mg F H ρ lk mu vs (cf f ts sto lk) Q E
/-- a default's value -/
def dflV : T → V
  | .int i => .int i
  | .bl b => .bl b
  | .str x => .str x
  | _ => .non
def cstB : T → Bool
  | .int _ => true
  | .bl _ => true
  | .str _ => true
  | .non => true
  | _ => false
/-- how many of the defaults are left out -/
def padN (d : FD) (n : Nat) : Nat := n + d.dfl.length - d.np
/-- the def with the number f, at a, keeps its promise -/
def FnA (P : Program) (w : World) (K : PySem.W.Frag) (mg : Str → Option Value) (base : Heap) (pd : Pd) (cf : CF) (k : Nat) (f : Nat) (a : Addr) : Prop :=
  ∃ (fd : FuncData) (ps : List Str) (d : FD), pd.tb f = some d ∧ PySem.W.keepIn K (.ref a) = true ∧ (d.dfl.all cstB = true ∧ ∀ j, ∃ ds, Vals ((d.dfl.drop j).map dflV) ds ∧ Binds K fd ps ds) ∧ ps.length = d.np ∧
  ((∀ ts sto lk, (padT d ts).length = d.np → cf f ts sto lk = cf f (padT d ts) sto lk) ∧ ∀ ts sto lk, (padT d ts).length ≠ d.np → cf f ts sto lk = .no) ∧ FnOk P w K mg base (L2.CX P w) (k + 3) a fd ps (spT pd mg cf f d.np d.mu)
/-- a class of the text -/
structure ClsF (P : Program) (w : World) (K : PySem.W.Frag) (mg : Str → Option Value) (base : Heap) (pd : Pd) (cf : CF) (k : Nat) (c : Nat) (C : Addr) : Prop where
  cls : Cls K C
  kp : PySem.W.keepIn K (.ref C) = true
  na : ∀ n ∈ pd.fl, NoAttr K C (fldN n)
  mt : ∃ mc, ClX.CRead K C mc ∧ ∀ m d l g, m < 34 → pd.tb (vmB + m) = some d → d.kd = .vt l → l.lookup c = some g → ∃ a, FnA P w K mg base pd cf k g a ∧ Meth K C (mthN m) a ∧ ClX.CVal K C mc (mthN m) (.ref a) (.ref a)
  mkn : ∀ d g, pd.tb (nwB + c) = some d → d.kd = .nw c g → (∀ ts sto lk, cf (nwB + c) ts sto lk = .no) ∨ ∃ k' cf' a, k = k' + 1 ∧ Mk K C a ∧ FnA P w K mg base pd cf' k' g a ∧
    ∀ ts sto lk, cf (nwB + c) ts sto lk = if lk then .no else newT (cf' g (.obj sto.length :: ts) (sto ++ [⟨c, []⟩]) false) sto.length
  ty : ∀ {H a dx fs}, H a = some (.ins C dx fs) → TyOf K H (.ref a) (.ref C)
/-- f tells the item j -/
def keyOf (pd : Pd) (f j : Nat) : Bool := match pd.tb f with
  | some d => keyB d == some j
  | none => false
/-- the defs and classes, as they stand behind the top, keep their promises -/
structure FnS (P : Program) (w : World) (K : PySem.W.Frag) (mg : Str → Option Value) (base : Heap) (pd : Pd) (cf : CF) (k : Nat) : Prop where
  fn : ∀ x f, pd.fns.lookup x = some f → ∃ a, mg x = some (.ref a) ∧ FnA P w K mg base pd cf k f a
  cls : ∀ x c, pd.cls.lookup x = some c → ∃ C, mg x = some (.ref C) ∧ ClsF P w K mg base pd cf k c C
  vm : ∀ m d l, m < 34 → pd.tb (vmB + m) = some d → d.kd = .vt l → ∀ ts sto lk, cf (vmB + m) ts sto lk = match dispT pd.tb l ts sto with
    | some g => cf g ts sto lk
    | none => .no
  pb : ∀ m d l, m < 34 → pd.tb (vmB + m) = some d → d.kd = .vt l → ∀ i sto, prb cf m i sto = true → ∃ g, dispT pd.tb l [.obj i] sto = some g
  isc : ∀ z c D d cs, pd.cls.lookup z = some c → mg z = some (.ref D) → pd.tb (icB + c) = some d → d.kd = .isc cs → (∀ ts sto lk, cf (icB + c) ts sto lk = .no ∨ ∃ b, iscT cs ts sto = some b ∧ cf (icB + c) ts sto lk = .ok (.bl b) [] sto) ∧
    ∀ x c' C, pd.cls.lookup x = some c' → mg x = some (.ref C) → PySem.W.kitOne K (.ref C) (.ref D) = some (cs.contains c')
  ky : ∀ z f j, pd.fns.lookup z = some f → keyOf pd f j = true → ∃ a, mg z = some (.ref a) ∧ KeyA P w K mg base a j ∧ j < 1000

/-! ### the check: the text says what the tree says -/
def visB (sc : Scope) (x : Str) : Bool := match sc.names.lookup x with
  | some .local => true
  | some .cell => true
  | some .free => true
  | _ => false
def glB (sc : Scope) (x : Str) : Bool := (match sc.names.lookup x with
  | some .globalImplicit => true
  | _ => false) && !(x == ("__debug__" : Str)) && !(x == ("__classdict__" : Str))
/-- forms whose handing over is plain -/
def plainX : Expr → Bool
  | .Name _ _ => true
  | .Constant _ _ _ => true
  | .BinOp _ _ _ _ => true
  | .UnaryOp _ _ _ => true
  | .BoolOp _ _ _ => true
  | .Compare _ _ _ _ => true
  | .IfExp _ _ _ _ => true
  | .Call _ _ _ _ => true
  | .Subscript _ _ _ => true
  | .Tuple _ _ _ => true
  | .List _ _ => true
  | .Attribute _ _ _ => true
  | .Dict _ _ _ => true
  | _ => false
/-- forms of a receiver of a method or of a field -/
def rcvX : Expr → Bool
  | .Name _ _ => true
  | .Attribute _ _ _ => true
  | .Subscript _ _ _ => true
  | _ => false
def tstX : Expr → Bool
  | .IfExp _ _ _ _ => false
  | .Dict _ _ _ => false
  | e => plainX e
/-- not, and, or -/
def boolE : E → Bool
  | .not _ => true
  | .and _ _ => true
  | .or _ _ => true
  | _ => false
/-- what may be handed to a call -/
def plainA : Expr → Bool
  | .ListComp _ _ _ _ => true
  | e => plainX e
def lcH : Expr → Option (Expr × Str × Expr × List Expr × Scope)
  | .ListComp x [⟨.Name t _, iter, ifs, 0⟩] scope _ => some (x, t, iter, ifs, scope)
  | _ => none
def lcrH : Expr → Option (Expr × Str × List Expr × List Expr × Scope)
  | .ListComp x [⟨.Name t _, .Call (.Name r _) args [] _, ifs, 0⟩] scope _ => if r == ("range" : Str) then some (x, t, args, ifs, scope) else none
  | _ => none
def locB (sc : Scope) (x : Str) : Bool := match sc.names.lookup x with
  | some .local => true
  | _ => false
def isYes : E → Bool
  | .bl true => true
  | _ => false
def isZero : E → Bool
  | .int 0 => true
  | _ => false
/-- isinstance(e, C), C an own class -/
def iscB (pd : Pd) (sc : Scope) (f : Nat) (args : List Expr) (x : Str) : Bool := match args with
  | [y, .Name z _] => x == ("isinstance" : Str) && glB sc z && (pd.fns.lookup x).isNone && plainX y && (match pd.cls.lookup z with
    | some c => f == icB + c && (match pd.tb f with
      | some d => (match d.kd with | .isc _ => true | _ => false)
      | none => false)
    | none => false)
  | _ => false
/-- what is reckoned of the arguments of isinstance: the first one -/
def iscA (f : Nat) (args : List Expr) : List Expr := if icB ≤ f then args.take 1 else args
/-- a method's name -/
def vtB (pd : Pd) (m : Nat) : Bool := decide (m < 34) && (match pd.tb (vmB + m) with
  | some d => (match d.kd with | .vt _ => true | _ => false)
  | none => false)
/-- no in, no not in -/
def inOp : COp → Bool
  | .in_ => false
  | .nin => false
  | _ => true
/-- receivers of methods of plain values -/
def bmR : Expr → Bool
  | .Name _ _ => true
  | .Attribute _ _ _ => true
  | .Subscript _ _ _ => true
  | .Constant _ _ _ => true
  | .BinOp _ _ _ _ => true
  | _ => false
def fewB (es : List Expr) : Bool := decide (es.length < 28)
section
variable (pd : Pd) (Nm : List Str)
/-- key=z, z the def f -/
def kwB (pd : Pd) (sc : Scope) (f : Nat) (kw : Keyword) : Bool := kw.arg == some (Str.ofString "key") && match kw.value with
  | .Name z _ => pd.fns.lookup z == some f && glB sc z
  | _ => false
mutual
def chkE : Scope → E → Expr → Bool
  | sc, .var i, .Name x _ => Nm[i]? == some x && visB sc x && !(x == ("__debug__" : Str)) && !(x == ("__classdict__" : Str))
  | sc, .int i, .Constant (.int j) _ _ => i == j
  | sc, .str i, .Constant (.str j) _ _ => i == j
  | sc, .bl i, .Constant (.bool j) _ _ => i == j
  | sc, .non, .Constant .none _ _ => true
  | sc, .bin op a b, .BinOp x o y _ => decide (o = pyOp op) && chkE sc a x && chkE sc b y
  | sc, .neg a, .UnaryOp .USub x _ => chkE sc a x
  | sc, .not a, .UnaryOp .Not x _ => tstX x && chkE sc a x
  | sc, .and a b, .BoolOp .And (x :: y :: r) p => tstX x && chkE sc a x && (match r with
    | [] => tstX y && chkE sc b y
    | z :: r => chkE sc b (.BoolOp .And (y :: z :: r) p))
  | sc, .or a b, .BoolOp .Or (x :: y :: r) p => tstX x && chkE sc a x && (match r with
    | [] => tstX y && chkE sc b y
    | z :: r => chkE sc b (.BoolOp .Or (y :: z :: r) p))
  | sc, .cmp op a b, .Compare x [o] [y] _ => decide (o = pyCmp op) && (inOp op || plainA y) && chkE sc a x && chkE sc b y
  | sc, .chain o1 o2 a b c, .Compare x [p1, p2] [y, z] _ => decide (p1 = pyCmp o1) && decide (p2 = pyCmp o2) && decide (o1 ≠ .in_) && decide (o1 ≠ .nin) && decide (o2 ≠ .in_) && decide (o2 ≠ .nin) && plainX y && plainX z && chkE sc a x && chkE sc b y && chkE sc c z
  | sc, .ite c a b, .IfExp t x y _ => tstX t && !boolE c && chkE sc c t && chkE sc a x && chkE sc b y
  | sc, .call f as, .Call (.Name x _) args [] _ => (pd.fns.lookup x == some f && decide (f < icB) || iscB pd sc f args x) && glB sc x && chkEs sc as (iscA f args) && !args.isEmpty
  | sc, .meth a m as, .Call (.Attribute o n ap) args [] p => n == mthN m && vtB pd m && rcvX o && (ap.endLine == p.line) && fewB args && chkE sc a o && chkEs sc as args
  | sc, .fld a n, .Attribute o m _ => m == fldN n && pd.fl.contains n && decide (n < 18) && rcvX o && chkE sc a o
  | sc, .blt f as, .Call (.Name x _) args [] _ => x == bfName f && glB sc x && chkEs sc as args && !args.isEmpty
  | sc, .srtk f j a, .Call (.Name x _) [y] [kw] _ => x == ("sorted" : Str) && glB sc x && kwB pd sc f kw && keyOf pd f j && plainA y && chkE sc a y
  | sc, .dnew, .Dict [] [] _ => true
  | sc, .dis1 k v, .Dict [some x] [y] _ => plainX x && plainX y && chkE sc k x && chkE sc v y
  | sc, .dget d k, .Call (.Attribute o n ap) [y] [] p => n == ("get" : Str) && rcvX o && plainX y && (ap.endLine == p.line) && chkE sc d o && chkE sc k y
  | sc, .bm a m as, .Call (.Attribute o n ap) args [] p => n == bmName m && bmR o && (ap.endLine == p.line) && fewB args && chkE sc a o && chkEs sc as args
  | sc, .isi a t, .Call (.Name x _) [y, .Name z _] [] _ => x == ("isinstance" : Str) && z == Str.ofString (pyTy t) && glB sc x && glB sc z && plainX y && chkE sc a y
  | sc, .ix a i, .Subscript x y _ => plainX y && chkE sc a x && chkE sc i y
  | sc, .slc a lo hi, .Subscript x (.Slice l h none _) _ => chkE sc a x && chkO sc lo l && chkO sc hi h
  | sc, .tup as, .Tuple es _ _ => chkEs sc as es
  | sc, .lst as, .List es _ => chkEs sc as es
  | sc, .lc v it tst elt, e => match lcH e with
    | some (x, t, iter, ifs, scope) => plainX iter && chkE sc it iter && blkC Nm sc scope [(t, v)] && locB (relS scope sc) t && (match ifs with
      | [] => isYes tst
      | [c] => tstX c && chkE (relS scope sc) tst c
      | _ => false) && chkE (relS scope sc) elt x
    | none => false
  | sc, .lcr v lo hi tst elt, e => match lcrH e with
    | some (x, t, args, ifs, scope) => glB sc ("range" : Str) && (match args with
      | [b] => isZero lo && plainX b && chkE sc hi b
      | [a, b] => plainX a && plainX b && chkE sc lo a && chkE sc hi b
      | _ => false) && blkC Nm sc scope [(t, v)] && locB (relS scope sc) t && (match ifs with
      | [] => isYes tst
      | [c] => tstX c && chkE (relS scope sc) tst c
      | _ => false) && chkE (relS scope sc) elt x
    | none => false
  | _, _, _ => false
def chkEs : Scope → Es → List Expr → Bool
  | _, .nil, [] => true
  | sc, .cons e es, x :: xs => plainA x && chkE sc e x && chkEs sc es xs
  | _, _, _ => false
def chkO : Scope → OE → Option Expr → Bool
  | _, .none, none => true
  | sc, .some e, some x => chkE sc e x
  | _, _, _ => false
end
end
/-- names of built-in things that the text uses -/
def bltNames : List Str := ["len", "int", "list", "max", "min", "abs", "tuple", "sum", "str", "isinstance", "bool", "dict", "range", "ValueError", "sorted"]
/-- a place in the text from which expressions are walked -/
structure Gd (X : Cx) (pd : Pd) (Nm : List Str) (sc : Scope) (cf : CF) (k : Nat) (W : WX) : Prop where
  nd : X.N.Nodup
  nm : X.N = Nm
  sc_ : X.env.scope = sc
  calm : X.calm = true
  room : Room (k + 3) X.A
  tk : Takes X W
  blt : ∀ x ∈ bltNames, X.mg x = none
  fs : FnS X.prog X.w X.K X.mg X.base pd cf k
end Tr
/-! TrObj: own classes: fields, methods, new instances. -/
namespace Tr
open PySem PySem.Spec PyProof.Rows L2
/-- forms of a receiver -/
theorem rcv_base {o : Expr} (h : rcvX o = true) (m : Str) (env : Env) (w : Sem Value) : attributeBase o m env w = w := by
  cases o <;> simp only [rcvX, Bool.false_eq_true] at h <;> rfl
section
variable {X : Cx} {CX : CXT} {k : Nat} {E : L2.St → XK} {x m : Str} {p pos apos : Pos} {o : Expr} {es : List Expr} {ta : TE} {t : TA}
def plO (o : Expr) (env : Env) : Sem Bool := do return (← importBound o env).getD true
theorem meth_tree (hb : attributeBase o m X.env (eval o X.env) = eval o X.env) (hl : (apos.endLine == pos.line) = true) (hf : fewB es = true) (hst : (starEach es X.env).any (·.1) = false) :
    eval (.Call (.Attribute o m apos) es [] pos) X.env = (do
      let ov ← eval o X.env
      standAt apos.atName
      let (f, first) ← holding [ov] (getMethod ov m (plO o X.env))
      callWith pos f first (backTo pos (starEach es X.env)) (backToKw pos (keywordEach [] X.env))) := by
  have hform : methodCallForm (es.length + ([] : List Keyword).length) (backTo pos (starEach es X.env)) (backToKw pos (keywordEach [] X.env)) = true := by
    have h1 : (backTo pos (starEach es X.env)).all (!·.1) = true := by
      unfold backTo
      rw [List.all_map]
      rw [List.all_eq_true]
      intro q hq
      have := List.any_eq_false.mp hst q hq
      simpa using this
    have h2 : es.length < 28 := by simpa [fewB] using hf
    unfold methodCallForm
    simp only [h1, Bool.true_and, List.length_nil, Nat.add_zero]
    have h3 : (backToKw pos (keywordEach [] X.env)) = [] := rfl
    rw [h3]
    simp only [List.all_nil, Bool.true_and, List.isEmpty_nil, if_true, decide_eq_true_eq]
    omega
  rw [PySem.arm_eval_Call, hb]
  congr 1
  funext ov
  congr 1
  funext _
  have e1 : calleeOf (methodCallForm (es.length + ([] : List Keyword).length) (backTo pos (starEach es X.env)) (backToKw pos (keywordEach [] X.env))) o X.env ov m = getMethod ov m (plO o X.env) := by
    rw [hform] <;> rfl
  have e2 : methodCallPos (methodCallForm (es.length + ([] : List Keyword).length) (backTo pos (starEach es X.env)) (backToKw pos (keywordEach [] X.env))) o X.env apos pos = pure pos := by
    unfold methodCallPos
    exact if_pos (by rw [hl, Bool.or_true])
  unfold methodCall
  rw [e1, e2]
  first
    | rfl
    | simp only [pure_bind]
/-- o.m(..): the class of the receiver is found at the run -/
def tMethS (X : Cx) (CX : CXT) (k : Nat) (m : Str) (E : L2.St → XK) (ta : TE) (t : TA) : TE := fun σ H Q => ta σ H fun x H1 => ∃ (a C dx : Addr) (fs : List (Str × V)) (f : Addr) (fd : FuncData) (ps : List Str) (sp : Sp) (dvs : List V) (ds : List Value), x = .ref a ∧ H1 a = some (.ins C dx fs) ∧ Cls X.K C ∧ Meth X.K C m f ∧
  FnOk X.prog X.w X.K X.mg X.base CX k f fd ps sp ∧ Binds X.K fd ps ds ∧ Vals dvs ds ∧ fs.lookup m = none ∧ t σ H1 fun vs H2 => sp (x :: (vs ++ dvs)) H2 Q (E σ)
theorem pe_methS {e : Expr} (he : PE X o ta) (hr : Room k X.A) (hx : ∀ σ, PassesAt CX X σ (E σ)) (ha : PA X (e :: es) t) (hb : attributeBase o m X.env (eval o X.env) = eval o X.env) (hl : (apos.endLine == pos.line) = true) (hf : fewB (e :: es) = true)
    (hst : starEach (e :: es) X.env = (false, eval e X.env) :: starEach es X.env) (hpl : (starEach es X.env).any (·.1) = false) : PE X (.Call (.Attribute o m apos) (e :: es) [] pos) (tMethS X CX k m E ta t) := by
  refine ⟨fun pins s σ H Q I h => ?_⟩
  have hp2 : (backTo pos (starEach es X.env)).any (·.1) = false := by unfold backTo; rw [List.any_map]; exact hpl
  refine PySem.W.methodCall_KW (pl := plO o X.env) (thn (he.run pins s σ H _ I h) fun u s1 ⟨x, H1, I1, rx, a, C, dx, fs, f, fd, ps, sp, dvs, ds, ex, ea, c, hm, F, hbn, hd, l, q⟩ => ?_) (meth_tree hb hl hf (by rw [hst]; simpa using hpl))
  subst ex
  obtain rfl : u = Value.ref a := rx
  refine getmeth_ok I1 ea c hm l ?_
  refine PySem.W.callWith_K (first := [.ref a]) (h₀ := X.base) I.ok.mod.kin hm.kp (thn (ha.run pos pins s1 σ H1 _ I1 q) fun us s2 ⟨vs, H2, I2, r, q2⟩ => ⟨I2.kIn, ?_⟩) hst hp2
  exact run_fnSD (us := .ref a :: us) (vs := .ref a :: vs) F hr hbn hd (hx σ) I2 (.cons rfl r) q2
theorem pe_methS0 (he : PE X o ta) (hr : Room k X.A) (hx : ∀ σ, PassesAt CX X σ (E σ)) (hb : attributeBase o m X.env (eval o X.env) = eval o X.env) (hl : (apos.endLine == pos.line) = true) : PE X (.Call (.Attribute o m apos) [] [] pos) (tMethS X CX k m E ta tNil) := by
  refine ⟨fun pins s σ H Q I h => ?_⟩
  refine PySem.W.methodCall_KW (pl := plO o X.env) (thn (he.run pins s σ H _ I h) fun u s1 ⟨x, H1, I1, rx, a, C, dx, fs, f, fd, ps, sp, dvs, ds, ex, ea, c, hm, F, hbn, hd, l, q⟩ => ?_) (meth_tree hb hl rfl rfl)
  subst ex
  obtain rfl : u = Value.ref a := rx
  refine getmeth_ok I1 ea c hm l ?_
  exact PySem.W.callWith_K0 (first := [.ref a]) I1.kIn hm.kp (run_fnSD (us := [.ref a]) (vs := [.ref a]) F hr hbn hd (hx σ) I1 (.cons rfl .nil) q)
/-- C.m(..), C a class: a def of its own -/
theorem pe_cfnS {e : Expr} {C f : Addr} {mc : Value} {fd : FuncData} {ps : List Str} {sp : Sp} {dvs : List V} {ds : List Value} {cp : Pos} (hg : Gl X x) (hm : X.mg x = some (.ref C)) (hdb : (x == ("__debug__" : Str)) = false) (r : ClX.CRead X.K C mc) (c : ClX.CVal X.K C mc m (.ref f) (.ref f)) (hk : PySem.W.keepIn X.K (.ref f) = true)
    (F : FnOk X.prog X.w X.K X.mg X.base CX k f fd ps sp) (hbn : Binds X.K fd ps ds) (hd : Vals dvs ds) (hr : Room k X.A) (hx : ∀ σ, PassesAt CX X σ (E σ)) (ha : PA X (e :: es) t) (hl : (apos.endLine == pos.line) = true) (hf : fewB (e :: es) = true)
    (hst : starEach (e :: es) X.env = (false, eval e X.env) :: starEach es X.env) (hpl : (starEach es X.env).any (·.1) = false) : PE X (.Call (.Attribute (.Name x cp) m apos) (e :: es) [] pos) (tCallSD sp dvs E t) := by
  refine ⟨fun pins s σ H Q I h => ?_⟩
  have hp2 : (backTo pos (starEach es X.env)).any (·.1) = false := by unfold backTo; rw [List.any_map]; exact hpl
  refine PySem.W.methodCall_KW (pl := plO (.Name x cp) X.env) (ld_glob I hg hm ?_ hdb) (meth_tree rfl hl hf (by rw [hst]; simpa using hpl))
  refine PySem.W.method_cls I.kIn r.ga (ClX.getcval_ok I r c fun s1 I1 => ?_)
  refine PySem.W.callWith_K (first := []) (h₀ := X.base) I.ok.mod.kin hk (thn (ha.run pos pins s1 σ H _ I1 h) fun us s2 ⟨vs, H2, I2, r, q2⟩ => ⟨I2.kIn, ?_⟩) hst hp2
  exact run_fnSD F hr hbn hd (hx σ) I2 r q2
/-- C(..): a new instance -/
def tMakeS (C : Addr) (sp : Sp) (dvs : List V) (E : L2.St → XK) (t : TA) : TE := fun σ H Q => t σ H fun vs H1 => ∀ x dx, H1 x = none → H1 dx = none → dx ≠ x →
  sp (.ref x :: (vs ++ dvs)) (upd (upd H1 dx (.own x)) x (.ins C dx [])) (fun v H2 => v = .non ∧ Q (.ref x) H2) (E σ)
theorem run_makeS {f C : Addr} {fd : FuncData} {ps : List Str} {sp : Sp} {dvs : List V} {ds : List Value} {pins : List (Addr × Obj)} {σ : L2.St} {H : Hp} {s : Shared} {Q : VK} {us : List Value} {vs : List V} (M : Mk X.K C f) (F : FnOk X.prog X.w X.K X.mg X.base CX k f fd ps sp) (hr : Room (k + 1) X.A) (hb : Binds X.K fd ps ds) (hd : Vals dvs ds)
    (hx : PassesAt CX X σ (E σ)) (I : Inv X pins σ H s) (r : Vals vs us)
    (h : ∀ x dx, H x = none → H dx = none → dx ≠ x → sp (.ref x :: (vs ++ dvs)) (upd (upd H dx (.own x)) x (.ins C dx [])) (fun v H2 => v = .non ∧ Q (.ref x) H2) (E σ)) :
    wpAny (model X.prog X.w) X.A (call (.ref C) us) (EP X pins σ Q) X.xe s := by
  have hq := h (s.heap.objs.size + 1) s.heap.objs.size (I.hok.fresh (Nat.le_succ _)) (I.hok.fresh (Nat.le_refl _)) (Nat.ne_of_lt (Nat.lt_succ_self _))
  have I2 := Inv.made (C := C) I
  have r2 : Vals (V.ref (s.heap.objs.size + 1) :: (vs ++ dvs)) (Value.ref (s.heap.objs.size + 1) :: (us ++ ds)) := .cons rfl (r.append hd)
  have hl : (Value.ref (s.heap.objs.size + 1) :: us ++ ds).length = ps.length := by
    have e := r2.length
    rw [F.len _ _ _ _ hq] at e
    exact e.symm
  refine wpAny_call (make_map (f := f) I.kIn M.makes M.init (beq_iff_eq.mp M.fn) (codeAny_mono (F.run _ X.stack _ _ ⟨Value.ref (s.heap.objs.size + 1) :: us, []⟩ (Value.ref (s.heap.objs.size + 1) :: (us ++ ds)) _ _ (E σ) (hr.make C us [])
    (I2.env0.make C us []) (hb _ (Value.ref (s.heap.objs.size + 1) :: us) I2.kIn hl) r2 hq) fun r s' hq' => ?_))
  cases r with
  | error e => exact hx pins _ _ e s' I2 hq'
  | ok fl =>
    cases fl with
    | ret u =>
      obtain ⟨v, H', I3, rv, ev, q3⟩ := I2.after hq'
      subst ev
      exact ⟨rv, ⟨V.ref (s.heap.objs.size + 1), H', I3, rfl, q3⟩⟩
    | next => exact False.elim hq'
    | brk => exact False.elim hq'
    | cont => exact False.elim hq'
theorem pe_makeS {e : Expr} {f C : Addr} {fd : FuncData} {ps : List Str} {sp : Sp} {dvs : List V} {ds : List Value} (M : Mk X.K C f) (F : FnOk X.prog X.w X.K X.mg X.base CX k f fd ps sp) (hr : Room (k + 1) X.A) (hg : Gl X x) (hm : X.mg x = some (.ref C)) (hb : Binds X.K fd ps ds) (hd : Vals dvs ds) (hx : ∀ σ, PassesAt CX X σ (E σ))
    (ha : PA X (e :: es) t) (hdb : (x == ("__debug__" : Str)) = false) (he : starEach (e :: es) X.env = (false, eval e X.env) :: starEach es X.env) (hpl : (backTo pos (starEach es X.env)).any (·.1) = false) :
    PE X (.Call (.Name x p) (e :: es) [] pos) (tMakeS C sp dvs E t) := by
  refine ⟨fun pins s σ H Q I h => ?_⟩
  refine wpAny_Call_Name_kw (ld_glob I hg hm ?_ hdb)
  refine PySem.W.callWith_K (h₀ := X.base) I.ok.mod.kin M.kp (thn (ha.run pos pins s σ H _ I h) fun us s1 ⟨vs, H1, I1, r, q⟩ => ⟨I1.kIn, ?_⟩) he hpl
  exact run_makeS M F hr hb hd (hx σ) I1 r q
end
end Tr
/-! TrInv: what the check tells of a text. -/
namespace Tr
open PySem PySem.Spec PyProof.Rows L2
section
variable {pd : Pd} {Nm : List Str} {sc : Scope} {e : Expr}
theorem inv_var {i : Nat} (h : chkE pd Nm sc (.var i) e = true) : ∃ x p, e = .Name x p ∧ Nm[i]? = some x ∧ visB sc x = true ∧ (x == ("__debug__" : Str)) = false ∧ (x == ("__classdict__" : Str)) = false := by
  cases e <;> simp only [chkE, Bool.false_eq_true, Bool.and_eq_true, Bool.not_eq_true', beq_iff_eq] at h
  exact ⟨_, _, rfl, h.1.1.1, h.1.1.2, by simpa using h.1.2, by simpa using h.2⟩
theorem inv_int {i : Int} (h : chkE pd Nm sc (.int i) e = true) : ∃ j p, e = .Constant (.int i) j p := by
  cases e with
  | Constant c j p => cases c <;> simp only [chkE, Bool.false_eq_true, beq_iff_eq] at h; subst h; exact ⟨_, _, rfl⟩
  | _ => simp only [chkE, Bool.false_eq_true] at h
theorem inv_str {i : Str} (h : chkE pd Nm sc (.str i) e = true) : ∃ j p, e = .Constant (.str i) j p := by
  cases e with
  | Constant c j p => cases c <;> simp only [chkE, Bool.false_eq_true, beq_iff_eq] at h; subst h; exact ⟨_, _, rfl⟩
  | _ => simp only [chkE, Bool.false_eq_true] at h
theorem inv_bl {i : Bool} (h : chkE pd Nm sc (.bl i) e = true) : ∃ j p, e = .Constant (.bool i) j p := by
  cases e with
  | Constant c j p => cases c <;> simp only [chkE, Bool.false_eq_true, beq_iff_eq] at h; subst h; exact ⟨_, _, rfl⟩
  | _ => simp only [chkE, Bool.false_eq_true] at h
theorem inv_non (h : chkE pd Nm sc .non e = true) : ∃ j p, e = .Constant .none j p := by
  cases e with
  | Constant c j p => cases c <;> simp only [chkE, Bool.false_eq_true] at h; exact ⟨_, _, rfl⟩
  | _ => simp only [chkE, Bool.false_eq_true] at h
theorem inv_bin {op a b} (h : chkE pd Nm sc (.bin op a b) e = true) : ∃ x y p, e = .BinOp x (pyOp op) y p ∧ chkE pd Nm sc a x = true ∧ chkE pd Nm sc b y = true := by
  cases e <;> simp only [chkE, Bool.false_eq_true, Bool.and_eq_true, decide_eq_true_eq] at h
  obtain ⟨⟨rfl, h1⟩, h2⟩ := h
  exact ⟨_, _, _, rfl, h1, h2⟩
theorem inv_neg {a} (h : chkE pd Nm sc (.neg a) e = true) : ∃ x p, e = .UnaryOp .USub x p ∧ chkE pd Nm sc a x = true := by
  cases e with
  | UnaryOp o x p => cases o <;> simp only [chkE, Bool.false_eq_true] at h; exact ⟨_, _, rfl, h⟩
  | _ => simp only [chkE, Bool.false_eq_true] at h
theorem inv_not {a} (h : chkE pd Nm sc (.not a) e = true) : ∃ x p, e = .UnaryOp .Not x p ∧ tstX x = true ∧ chkE pd Nm sc a x = true := by
  cases e with
  | UnaryOp o x p => cases o <;> simp only [chkE, Bool.false_eq_true, Bool.and_eq_true] at h; exact ⟨_, _, rfl, h.1, h.2⟩
  | _ => simp only [chkE, Bool.false_eq_true] at h
theorem inv_and {a b} (h : chkE pd Nm sc (.and a b) e = true) : ∃ x y r p, e = .BoolOp .And (x :: y :: r) p ∧ tstX x = true ∧ chkE pd Nm sc a x = true ∧
    ((r = [] ∧ tstX y = true ∧ chkE pd Nm sc b y = true) ∨ ∃ z r', r = z :: r' ∧ chkE pd Nm sc b (.BoolOp .And (y :: z :: r') p) = true) := by
  cases e with
  | BoolOp o xs p =>
    cases o with
    | Or => simp only [chkE, Bool.false_eq_true] at h
    | And =>
      match xs, h with
      | [], h => simp only [chkE, Bool.false_eq_true] at h
      | [x], h => simp only [chkE, Bool.false_eq_true] at h
      | [x, y], h =>
        simp only [chkE, Bool.and_eq_true] at h
        exact ⟨_, _, _, _, rfl, h.1.1, h.1.2, .inl ⟨rfl, h.2.1, h.2.2⟩⟩
      | x :: y :: z :: r, h =>
        simp only [chkE, Bool.and_eq_true] at h
        exact ⟨_, _, _, _, rfl, h.1.1, h.1.2, .inr ⟨z, r, rfl, h.2⟩⟩
  | _ => simp only [chkE, Bool.false_eq_true] at h
theorem inv_or {a b} (h : chkE pd Nm sc (.or a b) e = true) : ∃ x y r p, e = .BoolOp .Or (x :: y :: r) p ∧ tstX x = true ∧ chkE pd Nm sc a x = true ∧
    ((r = [] ∧ tstX y = true ∧ chkE pd Nm sc b y = true) ∨ ∃ z r', r = z :: r' ∧ chkE pd Nm sc b (.BoolOp .Or (y :: z :: r') p) = true) := by
  cases e with
  | BoolOp o xs p =>
    cases o with
    | And => simp only [chkE, Bool.false_eq_true] at h
    | Or =>
      match xs, h with
      | [], h => simp only [chkE, Bool.false_eq_true] at h
      | [x], h => simp only [chkE, Bool.false_eq_true] at h
      | [x, y], h =>
        simp only [chkE, Bool.and_eq_true] at h
        exact ⟨_, _, _, _, rfl, h.1.1, h.1.2, .inl ⟨rfl, h.2.1, h.2.2⟩⟩
      | x :: y :: z :: r, h =>
        simp only [chkE, Bool.and_eq_true] at h
        exact ⟨_, _, _, _, rfl, h.1.1, h.1.2, .inr ⟨z, r, rfl, h.2⟩⟩
  | _ => simp only [chkE, Bool.false_eq_true] at h
theorem inOp_mark {op : COp} {y : Expr} (h : inOp op = true ∨ plainA y = true) : behindInMarks (pyCmp op) y = false := by
  rcases h with h | h
  · exact nomark _ (by cases op <;> first | (intro z; cases z; done) | exact absurd h Bool.false_ne_true) (by cases op <;> first | (intro z; cases z; done) | exact absurd h Bool.false_ne_true)
  · cases y <;> simp only [plainA, plainX, Bool.false_eq_true] at h <;> rfl
theorem inv_cmp {op a b} (h : chkE pd Nm sc (.cmp op a b) e = true) : ∃ x y p, e = .Compare x [pyCmp op] [y] p ∧ behindInMarks (pyCmp op) y = false ∧ chkE pd Nm sc a x = true ∧ chkE pd Nm sc b y = true := by
  cases e with
  | Compare x os ys p =>
    match os, ys, h with
    | [o], [y], h =>
      simp only [chkE, Bool.and_eq_true, Bool.or_eq_true, decide_eq_true_eq] at h
      obtain ⟨⟨⟨rfl, h1⟩, h3⟩, h4⟩ := h
      exact ⟨_, _, _, rfl, inOp_mark h1, h3, h4⟩
    | [], _, h => simp only [chkE, Bool.false_eq_true] at h
    | [_], [], h => simp only [chkE, Bool.false_eq_true] at h
    | [_], _ :: _ :: _, h => simp only [chkE, Bool.false_eq_true] at h
    | _ :: _ :: _, _, h => simp only [chkE, Bool.false_eq_true] at h
  | _ => simp only [chkE, Bool.false_eq_true] at h
theorem inv_chain {o1 o2 a b c} (h : chkE pd Nm sc (.chain o1 o2 a b c) e = true) : ∃ x y z p, e = .Compare x [pyCmp o1, pyCmp o2] [y, z] p ∧ o1 ≠ .in_ ∧ o1 ≠ .nin ∧ o2 ≠ .in_ ∧ o2 ≠ .nin ∧ plainX y = true ∧ plainX z = true ∧
    chkE pd Nm sc a x = true ∧ chkE pd Nm sc b y = true ∧ chkE pd Nm sc c z = true := by
  cases e with
  | Compare x os ys p =>
    match os, ys, h with
    | [o, o'], [y, z], h =>
      simp only [chkE, Bool.and_eq_true, decide_eq_true_eq] at h
      obtain ⟨⟨⟨⟨⟨⟨⟨⟨⟨⟨rfl, rfl⟩, h1⟩, h2⟩, h3⟩, h4⟩, h5⟩, h6⟩, h7⟩, h8⟩, h9⟩ := h
      exact ⟨_, _, _, _, rfl, h1, h2, h3, h4, h5, h6, h7, h8, h9⟩
    | [], _, h => simp only [chkE, Bool.false_eq_true] at h
    | [_], _, h => simp only [chkE, Bool.false_eq_true] at h
    | [_, _], [], h => simp only [chkE, Bool.false_eq_true] at h
    | [_, _], [_], h => simp only [chkE, Bool.false_eq_true] at h
    | [_, _], _ :: _ :: _ :: _, h => simp only [chkE, Bool.false_eq_true] at h
    | _ :: _ :: _ :: _, _, h => simp only [chkE, Bool.false_eq_true] at h
  | _ => simp only [chkE, Bool.false_eq_true] at h
theorem inv_ite {c a b} (h : chkE pd Nm sc (.ite c a b) e = true) : ∃ t x y p, e = .IfExp t x y p ∧ tstX t = true ∧ boolE c = false ∧ chkE pd Nm sc c t = true ∧ chkE pd Nm sc a x = true ∧ chkE pd Nm sc b y = true := by
  cases e <;> simp only [chkE, Bool.false_eq_true, Bool.and_eq_true, Bool.not_eq_true'] at h
  exact ⟨_, _, _, _, rfl, h.1.1.1.1, h.1.1.1.2, h.1.1.2, h.1.2, h.2⟩
/-- a call: of a def by its name, of isinstance with an own class -/
theorem inv_call {f as} (h : chkE pd Nm sc (.call f as) e = true) : (∃ x p args pos, e = .Call (.Name x p) args [] pos ∧ pd.fns.lookup x = some f ∧ glB sc x = true ∧ chkEs pd Nm sc as args = true ∧ args ≠ []) ∨
    (∃ p y z q pos c d cs, e = .Call (.Name ("isinstance" : Str) p) [y, .Name z q] [] pos ∧ glB sc ("isinstance" : Str) = true ∧ glB sc z = true ∧ plainX y = true ∧ pd.cls.lookup z = some c ∧ f = icB + c ∧ pd.tb f = some d ∧ d.kd = .isc cs ∧ chkEs pd Nm sc as [y] = true) := by
  cases e with
  | Call fn args kws pos =>
    cases kws with
    | cons _ _ => cases fn <;> simp only [chkE, Bool.false_eq_true] at h
    | nil =>
      cases fn with
      | Name x p =>
        simp only [chkE, Bool.and_eq_true, Bool.or_eq_true, beq_iff_eq, Bool.not_eq_true', decide_eq_true_eq] at h
        obtain ⟨⟨⟨h1, h2⟩, h3⟩, h4⟩ := h
        rcases h1 with ⟨h1, h0⟩ | h1
        · refine .inl ⟨_, _, _, _, rfl, h1, h2, ?_, by intro z; rw [z] at h4; simp at h4⟩
          unfold iscA at h3
          rw [if_neg (by omega)] at h3
          exact h3
        · refine .inr ?_
          unfold iscB at h1
          split at h1
          · rename_i y z q
            simp only [Bool.and_eq_true, beq_iff_eq] at h1
            obtain ⟨⟨⟨⟨rfl, g1⟩, g2⟩, g3⟩, g4⟩ := h1
            split at g4
            · rename_i c hc
              simp only [Bool.and_eq_true, beq_iff_eq] at g4
              obtain ⟨rfl, g5⟩ := g4
              split at g5
              · rename_i d hd
                split at g5
                · rename_i cs hk
                  refine ⟨_, _, _, _, _, c, d, cs, rfl, h2, g1, g3, hc, rfl, hd, hk, ?_⟩
                  unfold iscA at h3
                  rw [if_pos (by omega)] at h3
                  exact h3
                · exact absurd g5 Bool.false_ne_true
              · exact absurd g5 Bool.false_ne_true
            · exact absurd g4 Bool.false_ne_true
          · exact absurd h1 Bool.false_ne_true
      | _ => simp only [chkE, Bool.false_eq_true] at h
  | _ => simp only [chkE, Bool.false_eq_true] at h
theorem vt_inv {m : Nat} (h : vtB pd m = true) : m < 34 ∧ ∃ d l, pd.tb (vmB + m) = some d ∧ d.kd = .vt l := by
  unfold vtB at h
  simp only [Bool.and_eq_true, decide_eq_true_eq] at h
  obtain ⟨g1, g3⟩ := h
  refine ⟨g1, ?_⟩
  split at g3
  · rename_i d hd
    split at g3
    · rename_i l hk
      exact ⟨d, l, hd, hk⟩
    · exact absurd g3 Bool.false_ne_true
  · exact absurd g3 Bool.false_ne_true
theorem inv_meth {a m as} (h : chkE pd Nm sc (.meth a m as) e = true) : ∃ o ap args pos d l, e = .Call (.Attribute o (mthN m) ap) args [] pos ∧ m < 34 ∧ pd.tb (vmB + m) = some d ∧ d.kd = .vt l ∧ rcvX o = true ∧ (ap.endLine == pos.line) = true ∧ fewB args = true ∧ chkE pd Nm sc a o = true ∧ chkEs pd Nm sc as args = true := by
  cases e with
  | Call fn args kws pos =>
    cases kws with
    | cons _ _ => cases fn <;> simp only [chkE, Bool.false_eq_true] at h
    | nil =>
      cases fn with
      | Attribute o n ap =>
        simp only [chkE, Bool.and_eq_true, beq_iff_eq] at h
        obtain ⟨⟨⟨⟨⟨⟨rfl, h1⟩, h2⟩, h3⟩, h4⟩, h5⟩, h6⟩ := h
        obtain ⟨g1, d, l, hd, hk⟩ := vt_inv h1
        exact ⟨o, ap, args, pos, d, l, rfl, g1, hd, hk, h2, by simpa using h3, h4, h5, h6⟩
      | _ => simp only [chkE, Bool.false_eq_true] at h
  | _ => simp only [chkE, Bool.false_eq_true] at h
theorem inv_bm {a m as} (h : chkE pd Nm sc (.bm a m as) e = true) : ∃ o ap args pos, e = .Call (.Attribute o (bmName m) ap) args [] pos ∧ bmR o = true ∧ (ap.endLine == pos.line) = true ∧ fewB args = true ∧ chkE pd Nm sc a o = true ∧ chkEs pd Nm sc as args = true := by
  cases e with
  | Call fn args kws pos =>
    cases kws with
    | cons _ _ => cases fn <;> simp only [chkE, Bool.false_eq_true] at h
    | nil =>
      cases fn with
      | Attribute o n ap =>
        simp only [chkE, Bool.and_eq_true, beq_iff_eq] at h
        obtain ⟨⟨⟨⟨⟨rfl, h2⟩, h3⟩, h4⟩, h5⟩, h6⟩ := h
        exact ⟨o, ap, args, pos, rfl, h2, by simpa using h3, h4, h5, h6⟩
      | _ => simp only [chkE, Bool.false_eq_true] at h
  | _ => simp only [chkE, Bool.false_eq_true] at h
theorem inv_srtk {f j a} (h : chkE pd Nm sc (.srtk f j a) e = true) : ∃ p y z zp kp pos, e = .Call (.Name ("sorted" : Str) p) [y] [⟨some (Str.ofString "key"), .Name z zp, kp⟩] pos ∧ glB sc ("sorted" : Str) = true ∧ pd.fns.lookup z = some f ∧ glB sc z = true ∧ keyOf pd f j = true ∧ plainA y = true ∧ chkE pd Nm sc a y = true := by
  cases e with
  | Call fn args kws pos =>
    cases fn with
    | Name x p =>
      match args, kws, h with
      | [y], [kw], h =>
        simp only [chkE, Bool.and_eq_true, beq_iff_eq] at h
        obtain ⟨⟨⟨⟨⟨rfl, h2⟩, h3⟩, h4⟩, h5⟩, h6⟩ := h
        obtain ⟨q, v, kp⟩ := kw
        unfold kwB at h3
        simp only [Bool.and_eq_true, beq_iff_eq] at h3
        obtain ⟨rfl, h3⟩ := h3
        cases v with
        | Name z zp =>
          simp only [Bool.and_eq_true, beq_iff_eq] at h3
          exact ⟨_, _, _, _, _, _, rfl, h2, h3.1, h3.2, h4, h5, h6⟩
        | _ => exact absurd h3 Bool.false_ne_true
      | [], _, h => simp only [chkE, Bool.false_eq_true] at h
      | _ :: _ :: _, _, h => simp only [chkE, Bool.false_eq_true] at h
      | [_], [], h => simp only [chkE, Bool.false_eq_true] at h
      | [_], _ :: _ :: _, h => simp only [chkE, Bool.false_eq_true] at h
    | _ => simp only [chkE, Bool.false_eq_true] at h
  | _ => simp only [chkE, Bool.false_eq_true] at h
theorem inv_dnew (h : chkE pd Nm sc .dnew e = true) : ∃ p, e = .Dict [] [] p := by
  cases e <;> try (simp only [chkE, Bool.false_eq_true] at h; done)
  rename_i ks vs p
  match ks, vs, h with
  | [], [], h => exact ⟨_, rfl⟩
  | [], _ :: _, h => simp only [chkE, Bool.false_eq_true] at h
  | _ :: _, _, h => simp only [chkE, Bool.false_eq_true] at h
theorem inv_dis1 {k v} (h : chkE pd Nm sc (.dis1 k v) e = true) : ∃ x y p, e = .Dict [some x] [y] p ∧ plainX x = true ∧ plainX y = true ∧ chkE pd Nm sc k x = true ∧ chkE pd Nm sc v y = true := by
  cases e <;> try (simp only [chkE, Bool.false_eq_true] at h; done)
  rename_i ks vs p
  match ks, vs, h with
  | [some x], [y], h =>
    simp only [chkE, Bool.and_eq_true] at h
    exact ⟨_, _, _, rfl, h.1.1.1, h.1.1.2, h.1.2, h.2⟩
  | [], _, h => simp only [chkE, Bool.false_eq_true] at h
  | [none], _, h => simp only [chkE, Bool.false_eq_true] at h
  | [some _], [], h => simp only [chkE, Bool.false_eq_true] at h
  | [some _], _ :: _ :: _, h => simp only [chkE, Bool.false_eq_true] at h
  | none :: _ :: _, _, h => simp only [chkE, Bool.false_eq_true] at h
  | some _ :: _ :: _, _, h => simp only [chkE, Bool.false_eq_true] at h
theorem inv_dget {d k} (h : chkE pd Nm sc (.dget d k) e = true) : ∃ o ap y pos, e = .Call (.Attribute o ("get" : Str) ap) [y] [] pos ∧ rcvX o = true ∧ plainX y = true ∧ (ap.endLine == pos.line) = true ∧ chkE pd Nm sc d o = true ∧ chkE pd Nm sc k y = true := by
  cases e with
  | Call fn args kws pos =>
    cases kws with
    | cons _ _ => cases fn <;> simp only [chkE, Bool.false_eq_true] at h
    | nil =>
      cases fn with
      | Attribute o n ap =>
        match args, h with
        | [y], h =>
          simp only [chkE, Bool.and_eq_true, beq_iff_eq] at h
          obtain ⟨⟨⟨⟨⟨rfl, h2⟩, h3⟩, h4⟩, h5⟩, h6⟩ := h
          exact ⟨o, ap, y, pos, rfl, h2, h3, by simpa using h4, h5, h6⟩
        | [], h => simp only [chkE, Bool.false_eq_true] at h
        | _ :: _ :: _, h => simp only [chkE, Bool.false_eq_true] at h
      | _ => simp only [chkE, Bool.false_eq_true] at h
  | _ => simp only [chkE, Bool.false_eq_true] at h
theorem inv_fld {a n} (h : chkE pd Nm sc (.fld a n) e = true) : ∃ o p, e = .Attribute o (fldN n) p ∧ n ∈ pd.fl ∧ n < 18 ∧ rcvX o = true ∧ chkE pd Nm sc a o = true := by
  cases e <;> simp only [chkE, Bool.false_eq_true, Bool.and_eq_true, beq_iff_eq, decide_eq_true_eq, List.contains_eq_mem] at h
  obtain ⟨⟨⟨⟨rfl, h1⟩, h2⟩, h3⟩, h4⟩ := h
  exact ⟨_, _, rfl, h1, h2, h3, h4⟩
theorem inv_blt {f as} (h : chkE pd Nm sc (.blt f as) e = true) : ∃ p args pos, e = .Call (.Name (bfName f) p) args [] pos ∧ glB sc (bfName f) = true ∧ chkEs pd Nm sc as args = true ∧ args ≠ [] := by
  cases e with
  | Call fn args kws pos =>
    cases fn with
    | Name x p =>
      cases kws with
      | nil =>
        simp only [chkE, Bool.and_eq_true, beq_iff_eq, Bool.not_eq_true'] at h
        obtain ⟨⟨⟨h1, h2⟩, h3⟩, h4⟩ := h
        subst h1
        exact ⟨_, _, _, rfl, h2, h3, by intro z; rw [z] at h4; simp at h4⟩
      | cons _ _ => simp only [chkE, Bool.false_eq_true] at h
    | _ => simp only [chkE, Bool.false_eq_true] at h
  | _ => simp only [chkE, Bool.false_eq_true] at h
theorem inv_isi {a t} (h : chkE pd Nm sc (.isi a t) e = true) : ∃ p y q pos, e = .Call (.Name ("isinstance" : Str) p) [y, .Name (Str.ofString (pyTy t)) q] [] pos ∧ glB sc ("isinstance" : Str) = true ∧ glB sc (Str.ofString (pyTy t)) = true ∧ plainX y = true ∧ chkE pd Nm sc a y = true := by
  cases e with
  | Call fn args kws pos =>
    cases fn with
    | Name x p =>
      cases kws with
      | nil =>
        match args, h with
        | [y, .Name z q], h =>
          simp only [chkE, Bool.and_eq_true, beq_iff_eq] at h
          obtain ⟨⟨⟨⟨⟨rfl, rfl⟩, h1⟩, h2⟩, h3⟩, h4⟩ := h
          exact ⟨_, _, _, _, rfl, h1, h2, h3, h4⟩
        | [], h => simp only [chkE, Bool.false_eq_true] at h
        | [_], h => simp only [chkE, Bool.false_eq_true] at h
        | _ :: _ :: _ :: _, h => simp only [chkE, Bool.false_eq_true] at h
        | [y, z], h =>
          cases z with
          | Name z q =>
            simp only [chkE, Bool.and_eq_true, beq_iff_eq] at h
            obtain ⟨⟨⟨⟨⟨rfl, rfl⟩, h1⟩, h2⟩, h3⟩, h4⟩ := h
            exact ⟨_, _, _, _, rfl, h1, h2, h3, h4⟩
          | _ => simp only [chkE, Bool.false_eq_true] at h
      | cons _ _ => simp only [chkE, Bool.false_eq_true] at h
    | _ => simp only [chkE, Bool.false_eq_true] at h
  | _ => simp only [chkE, Bool.false_eq_true] at h
theorem inv_ix {a i} (h : chkE pd Nm sc (.ix a i) e = true) : ∃ x y p, e = .Subscript x y p ∧ plainX y = true ∧ chkE pd Nm sc a x = true ∧ chkE pd Nm sc i y = true := by
  cases e <;> simp only [chkE, Bool.false_eq_true, Bool.and_eq_true] at h
  exact ⟨_, _, _, rfl, h.1.1, h.1.2, h.2⟩
theorem inv_slc {a lo hi} (h : chkE pd Nm sc (.slc a lo hi) e = true) : ∃ x l u p2 p, e = .Subscript x (.Slice l u none p2) p ∧ chkE pd Nm sc a x = true ∧ chkO pd Nm sc lo l = true ∧ chkO pd Nm sc hi u = true := by
  cases e with
  | Subscript x y p =>
    cases y with
    | Slice l u st p2 =>
      cases st with
      | none => simp only [chkE, Bool.and_eq_true] at h; exact ⟨_, _, _, _, _, rfl, h.1.1, h.1.2, h.2⟩
      | some _ => simp only [chkE, Bool.false_eq_true] at h
    | _ => simp only [chkE, Bool.false_eq_true] at h
  | _ => simp only [chkE, Bool.false_eq_true] at h
theorem inv_tup {as} (h : chkE pd Nm sc (.tup as) e = true) : ∃ es k p, e = .Tuple es k p ∧ chkEs pd Nm sc as es = true := by
  cases e <;> simp only [chkE, Bool.false_eq_true] at h
  exact ⟨_, _, _, rfl, h⟩
theorem inv_lst {as} (h : chkE pd Nm sc (.lst as) e = true) : ∃ es p, e = .List es p ∧ chkEs pd Nm sc as es = true := by
  cases e <;> simp only [chkE, Bool.false_eq_true] at h
  exact ⟨_, _, rfl, h⟩
def tstB (pd : Pd) (Nm : List Str) (sc : Scope) (tst : E) (ifs : List Expr) : Bool := match ifs with
  | [] => isYes tst
  | [c] => tstX c && chkE pd Nm sc tst c
  | _ => false
theorem inv_lc {v it tst elt} (h : chkE pd Nm sc (.lc v it tst elt) e = true) : ∃ x t tp iter ifs scope pos, e = .ListComp x [⟨.Name t tp, iter, ifs, 0⟩] scope pos ∧ plainX iter = true ∧ chkE pd Nm sc it iter = true ∧ blkC Nm sc scope [(t, v)] = true ∧ locB (relS scope sc) t = true ∧
    tstB pd Nm (relS scope sc) tst ifs = true ∧ chkE pd Nm (relS scope sc) elt x = true := by
  unfold chkE at h
  cases hh : lcH e with
  | none => rw [hh] at h; exact nomatch h
  | some q =>
    obtain ⟨x, t, iter, ifs, scope⟩ := q
    rw [hh] at h
    simp only [Bool.and_eq_true] at h
    unfold lcH at hh
    split at hh
    · cases hh
      exact ⟨_, _, _, _, _, _, _, rfl, h.1.1.1.1.1, h.1.1.1.1.2, h.1.1.1.2, h.1.1.2, h.1.2, h.2⟩
    · cases hh
theorem inv_lcr {v lo hi tst elt} (h : chkE pd Nm sc (.lcr v lo hi tst elt) e = true) : ∃ x t tp rp args cpos ifs scope pos, e = .ListComp x [⟨.Name t tp, .Call (.Name ("range" : Str) rp) args [] cpos, ifs, 0⟩] scope pos ∧ glB sc ("range" : Str) = true ∧
    ((∃ b, args = [b] ∧ lo = .int 0 ∧ plainX b = true ∧ chkE pd Nm sc hi b = true) ∨ (∃ a b, args = [a, b] ∧ plainX a = true ∧ plainX b = true ∧ chkE pd Nm sc lo a = true ∧ chkE pd Nm sc hi b = true)) ∧
    blkC Nm sc scope [(t, v)] = true ∧ locB (relS scope sc) t = true ∧ tstB pd Nm (relS scope sc) tst ifs = true ∧ chkE pd Nm (relS scope sc) elt x = true := by
  unfold chkE at h
  cases hh : lcrH e with
  | none => rw [hh] at h; exact nomatch h
  | some q =>
    obtain ⟨x, t, args, ifs, scope⟩ := q
    rw [hh] at h
    simp only [Bool.and_eq_true] at h
    unfold lcrH at hh
    split at hh
    · split at hh
      · rename_i r _ _ _ _ _ hr
        cases hh
        have er := eq_of_beq hr
        subst er
        refine ⟨_, _, _, _, _, _, _, _, _, rfl, h.1.1.1.1.1, ?_, h.1.1.1.2, h.1.1.2, h.1.2, h.2⟩
        have h2 := h.1.1.1.1.2
        split at h2
        · simp only [Bool.and_eq_true] at h2
          refine .inl ⟨_, rfl, ?_, h2.1.2, h2.2⟩
          have h3 := h2.1.1
          unfold isZero at h3
          split at h3
          · rfl
          · cases h3
        · simp only [Bool.and_eq_true] at h2
          exact .inr ⟨_, _, rfl, h2.1.1.1, h2.1.1.2, h2.1.2, h2.2⟩
        · exact nomatch h2
      · cases hh
    · cases hh
theorem inv_nil {es} (h : chkEs pd Nm sc .nil es = true) : es = [] := by
  cases es <;> simp only [chkEs, Bool.false_eq_true] at h; rfl
theorem inv_cons {a as es} (h : chkEs pd Nm sc (.cons a as) es = true) : ∃ x xs, es = x :: xs ∧ plainA x = true ∧ chkE pd Nm sc a x = true ∧ chkEs pd Nm sc as xs = true := by
  cases es <;> simp only [chkEs, Bool.false_eq_true, Bool.and_eq_true] at h
  exact ⟨_, _, rfl, h.1.1, h.1.2, h.2⟩
theorem inv_onone {o} (h : chkO pd Nm sc .none o = true) : o = none := by
  cases o <;> simp only [chkO, Bool.false_eq_true] at h; rfl
theorem inv_osome {a o} (h : chkO pd Nm sc (.some a) o = true) : ∃ x, o = some x ∧ chkE pd Nm sc a x = true := by
  cases o <;> simp only [chkO, Bool.false_eq_true] at h
  exact ⟨_, rfl, h⟩
theorem plain_star {x : Expr} {xs : List Expr} {env : Env} (h : plainX x = true) : starEach (x :: xs) env = (false, eval x env) :: starEach xs env := by
  cases x <;> simp only [plainX, Bool.false_eq_true] at h <;> rfl
theorem plainA_of {x : Expr} (h : plainX x = true) : plainA x = true := by
  cases x <;> simp only [plainX, Bool.false_eq_true] at h <;> rfl
theorem plain_starA {x : Expr} {xs : List Expr} {env : Env} (h : plainA x = true) : starEach (x :: xs) env = (false, eval x env) :: starEach xs env := by
  cases x <;> simp only [plainA, plainX, Bool.false_eq_true] at h <;> rfl
theorem plain_behind {x : Expr} {op : CmpOp} (h : plainX x = true) : behindInMarks op x = false := by
  cases x <;> simp only [plainX, Bool.false_eq_true] at h <;> rfl
theorem plain_ix {x : Expr} (h : plainX x = true) : PlainIx x := by
  intro o i
  cases x <;> simp only [plainX, Bool.false_eq_true] at h <;> rfl
theorem pyCmp_ne {op : COp} (h1 : op ≠ .in_) (h2 : op ≠ .nin) : pyCmp op ≠ .In ∧ pyCmp op ≠ .NotIn := by
  cases op <;> first | exact absurd rfl h1 | exact absurd rfl h2 | exact ⟨(fun z => nomatch z), fun z => nomatch z⟩
theorem chkEs_star {as : Es} {es : List Expr} (h : chkEs pd Nm sc as es = true) (env : Env) : (starEach es env).any (·.1) = false := by
  induction es generalizing as with
  | nil => rfl
  | cons x xs ih =>
    cases as with
    | nil => simp only [chkEs, Bool.false_eq_true] at h
    | cons a as =>
      simp only [chkEs, Bool.and_eq_true] at h
      rw [plain_starA h.1.1]
      simp only [List.any_cons, Bool.false_or]
      exact ih h.2
def Es.len : Es → Nat
  | .nil => 0
  | .cons _ es => es.len + 1
theorem chkEs_len : ∀ {as : Es} {es : List Expr}, chkEs pd Nm sc as es = true → as.len = es.length
  | .nil, es, h => by rw [inv_nil h]; rfl
  | .cons a as, es, h => by
    obtain ⟨x, xs, rfl, _, _, h2⟩ := inv_cons h
    simp [Es.len, chkEs_len h2]
theorem pvs_len {cf env sto} : ∀ {as : Es} {ts : List T}, pvs cf env sto as = .ok ts → ts.length = as.len
  | .nil, ts, h => by
    unfold pvs at h
    have e : [] = ts := by injection h
    rw [← e]; rfl
  | .cons a as, ts, h => by
    unfold pvs at h
    obtain ⟨t, _, h1⟩ := bind_inv h
    obtain ⟨us, h2, h3⟩ := bind_inv h1
    have e : t :: us = ts := by injection h3
    rw [← e, List.length_cons, pvs_len h2]; rfl
theorem back_star {pos : Pos} {l : List (Bool × Sem Value)} (h : l.any (·.1) = false) : (backTo pos l).any (·.1) = false := by
  unfold backTo
  rw [List.any_map]
  exact h
end
end Tr
/-! TrComp: list comprehensions. -/
namespace Tr
open PySem PySem.Spec PyProof.Rows L2
section
variable {pd : Pd} {cf : CF} {W : WX}
theorem plain_fold {e : Expr} (h : plainX e = true) (env : Env) (x : Value) : foldedSetIterable e env x = pure x := by
  cases e <;> simp only [plainX, Bool.false_eq_true] at h <;> rfl
theorem pi_seq {X : Cx} {tg l : Expr} {tl : TE} (hl : PE X l tl) : PI X tg l (fun σ H R => iList X.K tl σ H R ∨ iTup X.K tl σ H R) :=
  ⟨fun pins s σ H R I h => h.elim ((pi_list hl).run pins s σ H R I) ((pi_tup hl).run pins s σ H R I)⟩
/-- nothing is raised within -/
abbrev W0 : WX := fun _ _ _ _ => False
theorem tk0 {X : Cx} : Takes X W0 := fun _ _ ⟨_, _, _, _, _, _, _, _, _, _, _, _, _, _, _, _, w⟩ => w.elim
theorem bind_okR {α β : Type} {m : Rs α} {f : α → Rs β} {b : β} (h : m.bind f = .ok b) : ∃ a, m = .ok a ∧ f a = .ok b := by
  cases m with
  | ok a => exact ⟨a, rfl, h⟩
  | ex e => exact nomatch h
  | no => exact nomatch h
theorem tv_of_pv {env sto} : ∀ (e : E) (b : Bool), (pv cf env sto e).bind truthT = .ok b → tv cf env sto e = .ok b
  | .not a, b, h => by
    obtain ⟨x, h1, h2⟩ := bind_okR h
    unfold pv at h1
    obtain ⟨y, h3, h4⟩ := bind_okR h1
    obtain ⟨c, h5, h6⟩ := bind_okR h4
    have := tv_of_pv a c (by rw [h3]; exact h5)
    unfold tv
    rw [this]
    cases h6
    have h2 : (Rs.ok (!c) : Rs Bool) = .ok b := h2
    exact h2
  | .and a a2, b, h => by
    obtain ⟨x, h1, h2⟩ := bind_okR h
    unfold pv at h1
    obtain ⟨y, h3, h4⟩ := bind_okR h1
    cases y <;> first | (cases h4; done) | skip
    rename_i c
    have := tv_of_pv a c (by rw [h3]; rfl)
    unfold tv
    rw [this]
    cases c with
    | true => exact tv_of_pv a2 b (by rw [show pv cf env sto a2 = .ok x from h4]; exact h2)
    | false =>
      cases h4
      exact h2
  | .or a a2, b, h => by
    obtain ⟨x, h1, h2⟩ := bind_okR h
    unfold pv at h1
    obtain ⟨y, h3, h4⟩ := bind_okR h1
    cases y <;> first | (cases h4; done) | skip
    rename_i c
    have := tv_of_pv a c (by rw [h3]; rfl)
    unfold tv
    rw [this]
    cases c with
    | false => exact tv_of_pv a2 b (by rw [show pv cf env sto a2 = .ok x from h4]; exact h2)
    | true =>
      cases h4
      exact h2
  | .var _, b, h => h
  | .int _, b, h => h
  | .str _, b, h => h
  | .bl _, b, h => h
  | .non, b, h => h
  | .bin _ _ _, b, h => h
  | .neg _, b, h => h
  | .cmp _ _ _, b, h => h
  | .chain _ _ _ _ _, b, h => h
  | .ite _ _ _, b, h => h
  | .call _ _, b, h => h
  | .blt _ _, b, h => h
  | .isi _ _, b, h => h
  | .bm _ _ _, b, h => h
  | .srtk _ _ _, b, h => h
  | .dnew, b, h => h
  | .dis1 _ _, b, h => h
  | .dget _ _, b, h => h
  | .ix _ _, b, h => h
  | .fld _ _, b, h => h
  | .meth _ _ _, b, h => h
  | .slc _ _ _, b, h => h
  | .tup _, b, h => h
  | .lst _, b, h => h
  | .lc _ _ _ _, b, h => h
  | .lcr _ _ _ _ _, b, h => h
/-- a clause's test, or none -/
def tTst (pd : Pd) (mg : Str → Option Value) (cf : CF) (tst : E) (ifs : List Expr) : TT := match ifs with
  | [] => tYes
  | _ => tPb pd mg W0 fun env sto => tv cf env sto tst
theorem tTst_ok {mg : Str → Option Value} {tst : E} {ifs : List Expr} {Nm sc ρ env σ H sto b} {Q : Bool → Hp → Prop} (hb : tstB pd Nm sc tst ifs = true) (ve : ViewE H ρ σ env) (vs : ViewS pd mg H ρ sto) (e : (pv cf env sto tst).bind truthT = .ok b)
    (h : ∀ H', Ext H H' → Q b H') : tTst pd mg cf tst ifs σ H Q := by
  cases ifs with
  | nil =>
    have : tst = .bl true := by
      unfold tstB at hb
      dsimp only at hb
      unfold isYes at hb
      split at hb
      · rfl
      · cases hb
    subst this
    have : b = true := by
      have e' : (Rs.ok true : Rs Bool) = .ok b := e
      cases e'; rfl
    subst this
    exact h H Ext.refl
  | cons c cs =>
    refine ⟨ρ, env, sto, ve, vs, ?_⟩
    show PoB pd mg ρ _ H (tv cf env sto tst) Q
    rw [tv_of_pv tst b e]
    exact fun b' H' ⟨e', q⟩ => q ▸ h H' e'
theorem snL_upd {H : Hp} {ρ D acc acc'} {ys : List T} {vs : List V} (fl : flatL ys = true) (hD : H D = some (.lst acc)) (s : SnL Top H ρ ys vs) : SnL Top (upd H D (.lst acc')) ρ ys vs := by
  refine SnL.keep (F := fun _ => False) ⟨fun a h => h.elim, fun a us q => ?_⟩ Pre.refl (fun _ h => h.elim) ys vs (SnL.flat ys vs fl s)
  rw [upd_ne fun z => by rw [z, hD] at q; cases q]; exact q
/-- where the loop stands -/
def LcP (f g : T → Rs T) (ρ : List Addr) (H1 : Hp) (D : Addr) (all ts : List T) (i : Nat) (H : Hp) : Prop :=
  Ext H1 H ∧ ∃ acc ys zs, H D = some (.lst acc) ∧ SnL Top H ρ ys acc ∧ flatL ys = true ∧ acc.length ≤ i ∧ lcR f g (ts.drop i) = some zs ∧ ys ++ zs = all
theorem lc_turn {mg : Str → Option Value} {Nm sc} {D : Addr} {all ts : List T} {v : Nat} {tst elt : E} {ifs : List Expr} {ρ env sto σ H1} (ve : ViewE H1 ρ σ env) (vs : ViewS pd mg H1 ρ sto) (hv : v < σ.length) (nD : H1 D = none) (hz : ts.length ≤ sizeT) (fl : flatL ts = true)
    (hb : tstB pd Nm sc tst ifs = true) {i : Nat} {x : V} {t : T} {H : Hp} (et : ts[i]? = some t) (sx : Sn Top H ρ t x) (p : LcP (fun x => pv cf (env.set v (some x)) sto tst) (fun x => pv cf (env.set v (some x)) sto elt) ρ H1 D all ts i H) :
    gName v x (wipe σ [v]) H fun σ2 H2 => wipe σ2 [v] = wipe σ [v] ∧ tTst pd mg cf tst ifs σ2 H2 fun b H3 =>
      if b = true then tPv pd mg W0 (fun env sto => pv cf env sto elt) σ2 H3 fun y H4 => ∃ acc, H4 D = some (.lst acc) ∧ acc.length < sizeLine ∧ LcP (fun x => pv cf (env.set v (some x)) sto tst) (fun x => pv cf (env.set v (some x)) sto elt) ρ H1 D all ts (i + 1) (upd H4 D (.lst (acc ++ [y])))
      else LcP (fun x => pv cf (env.set v (some x)) sto tst) (fun x => pv cf (env.set v (some x)) sto elt) ρ H1 D all ts (i + 1) H3 := by
  obtain ⟨ex, acc, ys, zs, hD, sy, fy, hl, er, ea⟩ := p
  have hi : i < ts.length := (List.getElem?_eq_some_iff.mp et).1
  have hdr : ts.drop i = t :: ts.drop (i + 1) := by
    rw [List.drop_eq_getElem_cons hi]
    have : ts[i] = t := by rw [List.getElem?_eq_getElem hi] at et; exact Option.some.inj et
    rw [this]
  rw [hdr] at er
  unfold lcR at er
  have ve2 : ViewE H ρ ((wipe σ [v]).set v (some x)) (env.set v (some t)) := by
    intro j u q
    have hw : (wipe σ [v]).set v (some x) = σ.set v (some x) := by simp [wipe]
    rw [hw]
    by_cases c : v = j
    · subst c
      have hve : v < env.length := by
        have := (List.getElem?_eq_some_iff.mp q).1
        simpa using this
      rw [List.getElem?_set_self hve] at q
      cases q
      exact ⟨x, by rw [List.getElem?_set_self hv], sx⟩
    · rw [List.getElem?_set_ne c] at q
      obtain ⟨w, e1, s1⟩ := ve j u q
      exact ⟨w, by rw [List.getElem?_set_ne c]; exact e1, Sn.ext ex Pre.refl u w s1⟩
  refine ⟨by simp [wipe], ?_⟩
  cases e1 : (pv cf (env.set v (some t)) sto tst).bind truthT with
  | ex e => rw [e1] at er; exact nomatch er
  | no => rw [e1] at er; exact nomatch er
  | ok b =>
    rw [e1] at er
    refine tTst_ok hb ve2 (vs.ext ex) e1 fun H3 x3 => ?_
    cases b with
    | false =>
      rw [if_neg Bool.false_ne_true]
      exact ⟨ex.trans x3, acc, ys, zs, x3 _ _ hD, SnL.ext x3 Pre.refl ys acc sy, fy, by omega, er, ea⟩
    | true =>
      rw [if_pos rfl]
      dsimp only at er
      cases e2 : pv cf (env.set v (some t)) sto elt with
      | ex e => rw [e2] at er; exact nomatch er
      | no => rw [e2] at er; exact nomatch er
      | ok y =>
        rw [e2] at er
        dsimp only at er
        split at er
        · rename_i fy1
          cases e3 : lcR (fun x => pv cf (env.set v (some x)) sto tst) (fun x => pv cf (env.set v (some x)) sto elt) (ts.drop (i + 1)) with
          | none => rw [e3] at er; exact nomatch er
          | some zs' =>
            rw [e3] at er
            have ez : zs = y :: zs' := by cases er; rfl
            refine ⟨ρ, env.set v (some t), sto, ve2.ext x3, (vs.ext ex).ext x3, ?_⟩
            show PoV pd mg ρ _ H3 (pv cf (env.set v (some t)) sto elt) _
            rw [e2]
            intro w H4 p4
            have x4 := x3.trans p4.ext
            have hD4 := x4 _ _ hD
            refine ⟨acc, hD4, by have := sizeT_eq; omega, ?_, acc ++ [w], ys ++ [y], zs', upd_same, ?_, flatL_app fy (by simp [flatL, fy1]), by simp; omega, e3, by rw [← ea, ez]; simp⟩
            · intro b o q
              have nb : b ≠ D := ne_of_none q nD
              rw [upd_ne nb]
              exact x4 _ _ (ex _ _ q)
            · refine snL_upd (flatL_app fy (by simp [flatL, fy1])) hD4 ((SnL.ext x4 Pre.refl ys acc sy).app ?_)
              simp only [SnL]
              exact ⟨w, [], rfl, p4.sn, rfl⟩
        · exact nomatch er
/-- behind the loop -/
theorem lc_end {mg : Str → Option Value} {f g : T → Rs T} {ρ H0 H1 D all ts} {W' : Value → Option Addr → Hp → Prop} {Q : VK} {H : Hp} {m : Rs T} (em : m = .ok (.lst false false all)) (x1 : Ext H0 H1) (nD : H1 D = none) (p : LcP f g ρ H1 D all ts ts.length H) (q : PoV pd mg ρ W' H0 m Q) : Q (.ref D) H := by
  obtain ⟨ex, acc, ys, zs, hD, sy, fy, hl, er, ea⟩ := p
  rw [List.drop_eq_nil_of_le (Nat.le_refl _)] at er
  have : zs = [] := by simpa [lcR] using er.symm
  subst this
  rw [List.append_nil] at ea
  subst ea
  rw [em] at q
  refine q _ _ ⟨x1.trans ex, fun b => if b = D then 1 else 0, ?_, fun b => by by_cases q : b = D <;> simp [q], fun b ⟨o, hb⟩ => ?_⟩
  · simp only [Rp, Bool.false_eq_true, if_false]
    exact ⟨D, acc, fun _ => 0, rfl, hD, SnL.rp0 ys acc fy sy, fun _ => fy, cleanL_of_flatL ys fy, fun b => by simp⟩
  · have : b ≠ D := ne_of_none (x1 _ _ hb) nD
    simp [this]
theorem lc_start {f g : T → Rs T} {ρ H1 D ts all} (nD : H1 D = none) (e : lcR f g ts = some all) : LcP f g ρ H1 D all ts 0 (upd H1 D (.lst [])) :=
  ⟨Ext.upd nD, [], [], all, upd_same, by simp [SnL], rfl, Nat.le_refl _, by simpa using e, rfl⟩
theorem lcV_ok {f g : T → Rs T} {ts : List T} : lcV f g ts = .no ∨ ∃ all, lcV f g ts = .ok (.lst false false all) ∧ ts.length ≤ sizeT ∧ flatL ts = true ∧ lcR f g ts = some all := by
  unfold lcV
  split
  · rename_i h
    simp only [Bool.and_eq_true, decide_eq_true_eq] at h
    split
    · rename_i ys e
      exact .inr ⟨ys, rfl, h.1, h.2, e⟩
    · exact .inl rfl
  · exact .inl rfl
/-- over a list or a tuple -/
theorem lc_read {X : Cx} {it tst elt : E} {v : Nat} {ifs : List Expr} {Nm sc σ H} {Q : VK} (hv : v < σ.length) (hb : tstB pd Nm sc tst ifs = true) (h : tPv pd X.mg W (fun env sto => pv cf env sto (.lc v it tst elt)) σ H Q) :
    tLc (fun σ H R => iList X.K (tPv pd X.mg W fun env sto => pv cf env sto it) σ H R ∨ iTup X.K (tPv pd X.mg W fun env sto => pv cf env sto it) σ H R) (gName v) (tTst pd X.mg cf tst ifs) (tPv pd X.mg W0 fun env sto => pv cf env sto elt) [v] σ H Q := by
  obtain ⟨ρ, env, sto, ve, vs, q⟩ := h
  dsimp only at q
  unfold pv at q
  cases e1 : pv cf env sto it with
  | no => rw [e1] at q; exact q.elim
  | ex z => rw [e1] at q; exact .inl ⟨ρ, env, sto, ve, vs, by dsimp only; rw [e1]; exact q⟩
  | ok t =>
    rw [e1, Rs.bind_ok] at q
    cases e2 : items t with
    | none => rw [e2] at q; exact q.elim
    | some ts =>
      rw [e2] at q
      dsimp only at q
      rcases lcV_ok (f := fun x => pv cf (env.set v (some x)) sto tst) (g := fun x => pv cf (env.set v (some x)) sto elt) (ts := ts) with hn | ⟨all, ea, hz, fl, er⟩
      · rw [hn] at q; exact q.elim
      · cases t <;> simp only [items] at e2 <;> first | (cases e2; done) | skip
        · split at e2
          · cases e2
            refine .inr ⟨ρ, env, sto, ve, vs, ?_⟩
            dsimp only
            rw [e1]
            intro w H1 p1
            obtain ⟨a, us, rfl, ha, l⟩ := sn_tup p1.sn
            refine ⟨a, rfl, ⟨us, .inl (.inl ha)⟩, fun D nD => ?_⟩
            refine lc_tup (xs := us) (LcP _ _ ρ H1 D all ts) (lc_start nD er) (fun i H _ p => .inl (.inl (p.1 _ _ ha))) (fun i x H ex p => ?_) (fun H p => lc_end ea p1.ext nD (by rw [← l.length]; exact p) q)
            obtain ⟨t, et, st⟩ : ∃ t, ts[i]? = some t ∧ Sn Top H ρ t x := by
              have hi : i < ts.length := by rw [← l.length]; exact (List.getElem?_eq_some_iff.mp ex).1
              obtain ⟨x', e', s'⟩ := l.get (List.getElem?_eq_getElem hi)
              rw [ex] at e'
              cases e'
              exact ⟨_, List.getElem?_eq_getElem hi, Sn.ext p.1 Pre.refl _ _ s'⟩
            exact lc_turn (ve.ext p1.ext) (vs.ext p1.ext) hv nD hz fl hb et st p
          · cases e2
        · rename_i z n us0
          cases n <;> simp only [items] at e2 <;> first | (cases e2; done) | skip
          cases e2
          refine .inl ⟨ρ, env, sto, ve, vs, ?_⟩
          dsimp only
          rw [e1]
          intro w H1 p1
          obtain ⟨a, us, rfl, ha, l, _⟩ := sn_lst p1.sn
          refine ⟨a, rfl, ⟨us, .inl ha⟩, fun D nD => ?_⟩
          refine lc_list (xs := us) (LcP _ _ ρ H1 D all ts) (lc_start nD er) (fun i H _ p => .inl (rd_ext p.1 ha)) (fun i x H ex p => ?_) (fun H p => lc_end ea p1.ext nD (by rw [← l.length]; exact p) q)
          obtain ⟨t, et, st⟩ : ∃ t, ts[i]? = some t ∧ Sn Top H ρ t x := by
            have hi : i < ts.length := by rw [← l.length]; exact (List.getElem?_eq_some_iff.mp ex).1
            obtain ⟨x', e', s'⟩ := l.get (List.getElem?_eq_getElem hi)
            rw [ex] at e'
            cases e'
            exact ⟨_, List.getElem?_eq_getElem hi, Sn.ext p.1 Pre.refl _ _ s'⟩
          exact lc_turn (ve.ext p1.ext) (vs.ext p1.ext) hv nD hz fl hb et st p
theorem intsT_len (l : Int) (n : Nat) : (intsT l n).length = n := by simp [intsT]
theorem intsT_get {l : Int} {n i : Nat} (h : i < n) : (intsT l n)[i]? = some (.int (l + i)) := by simp [intsT, h]
theorem lc_rng {mg : Str → Option Value} {tst elt : E} {v : Nat} {ifs : List Expr} {Nm sc ρ env sto σ H0 H2 l n} {W' : Value → Option Addr → Hp → Prop} {Q : VK} (hv : v < σ.length) (hb : tstB pd Nm sc tst ifs = true) (ve : ViewE H2 ρ σ env) (vs : ViewS pd mg H2 ρ sto) (x2 : Ext H0 H2)
    (q : PoV pd mg ρ W' H0 (lcV (fun x => pv cf (env.set v (some x)) sto tst) (fun x => pv cf (env.set v (some x)) sto elt) (intsT l n)) Q) : ∀ D, H2 D = none → ∃ Wv : Nat → Nat → Hp → Prop, (∃ m, Wv 0 m (upd H2 D (.lst []))) ∧ ∀ i m H, Wv i m H →
      ((Itr l n).stop i H ∧ Q (.ref D) H) ∨ ((Itr l n).go i H ∧ ∃ Nx : Hp → Prop, (∀ H', Nx H' → ∃ m', m' < m ∧ Wv (i + 1) m' H') ∧ ∀ x H', (Itr l n).yld i H x H' → gName v x (wipe σ [v]) H' fun σ2 H2 => wipe σ2 [v] = wipe σ [v] ∧ tTst pd mg cf tst ifs σ2 H2 fun b H3 =>
        if b = true then tPv pd mg W0 (fun env sto => pv cf env sto elt) σ2 H3 fun y H4 => ∃ acc, H4 D = some (.lst acc) ∧ acc.length < sizeLine ∧ Nx (upd H4 D (.lst (acc ++ [y]))) else Nx H3) := by
  intro D nD
  rcases lcV_ok (f := fun x => pv cf (env.set v (some x)) sto tst) (g := fun x => pv cf (env.set v (some x)) sto elt) (ts := intsT l n) with hn | ⟨all, ea, hz, fl, er⟩
  · rw [hn] at q; exact q.elim
  · exact lc_range (LcP _ _ ρ H2 D all (intsT l n)) (lc_start nD er) (fun i H hi p => lc_turn ve vs hv nD hz fl hb (intsT_get hi) (by simp [Sn]) p) (fun H p => lc_end ea x2 nD (by rw [intsT_len]; exact p) q)
theorem lc_readr2 {lo hi tst elt : E} {v : Nat} {ifs : List Expr} {Nm sc σ H} {mg : Str → Option Value} {Q : VK} (hv : v < σ.length) (hb : tstB pd Nm sc tst ifs = true) (h : tPv pd mg W (fun env sto => pv cf env sto (.lcr v lo hi tst elt)) σ H Q) :
    tLc (iRng2 (tCons (tPv pd mg W fun env sto => pv cf env sto lo) (tCons (tPv pd mg W fun env sto => pv cf env sto hi) tNil))) (gName v) (tTst pd mg cf tst ifs) (tPv pd mg W0 fun env sto => pv cf env sto elt) [v] σ H Q := by
  obtain ⟨ρ, env, sto, ve, vs, q⟩ := h
  dsimp only at q
  unfold pv at q
  refine ⟨ρ, env, sto, ve, vs, Po.mono (Po.bind (P := PR) (P' := PR) q (fun _ _ _ p => p.ext) fun _ _ _ _ e p => p.base e) ?_⟩
  rintro _ w1 H1 em0 em1 ⟨x, em2, p1, q1⟩
  refine ⟨ρ, env, sto, ve.ext p1.ext, vs.ext p1.ext, Po.mono (Po.bind (P := PR) (P' := PR) q1 (fun _ _ _ p => p.ext) fun _ _ _ _ e p => p.base e) ?_⟩
  rintro _ w2 H2 em3 em4 ⟨y, em5, p2, q2⟩
  split at q2
  · split at q2
    · rename_i l h hb'
      have e1 := sn_int p1.sn
      have e2 := sn_int p2.sn
      subst e1; subst e2
      exact ⟨l, h, rfl, hb', lc_rng hv hb ((ve.ext p1.ext).ext p2.ext) ((vs.ext p1.ext).ext p2.ext) Ext.refl q2⟩
    · exact q2.elim
  · exact q2.elim
theorem lc_readr1 {hi tst elt : E} {v : Nat} {ifs : List Expr} {Nm sc σ H} {mg : Str → Option Value} {Q : VK} (hv : v < σ.length) (hb : tstB pd Nm sc tst ifs = true) (h : tPv pd mg W (fun env sto => pv cf env sto (.lcr v (.int 0) hi tst elt)) σ H Q) :
    tLc (iRng1 (tCons (tPv pd mg W fun env sto => pv cf env sto hi) tNil)) (gName v) (tTst pd mg cf tst ifs) (tPv pd mg W0 fun env sto => pv cf env sto elt) [v] σ H Q := by
  obtain ⟨ρ, env, sto, ve, vs, q⟩ := h
  dsimp only at q
  unfold pv at q
  have q' : PoV pd mg ρ (fun c d H' => W c d σ H') H ((pv cf env sto hi).bind fun y => match T.int 0, y with
      | .int l, .int h => if -(2 ^ 62) ≤ l ∧ l < 2 ^ 62 ∧ -(2 ^ 62) ≤ h ∧ h < 2 ^ 62 then
          lcV (fun x => pv cf (env.set v (some x)) sto tst) (fun x => pv cf (env.set v (some x)) sto elt) (intsT l (h - l).toNat) else .no
      | _, _ => .no) Q := by
    have e0 : pv cf env sto (.int 0) = .ok (.int 0) := by unfold pv; rfl
    rw [e0, Rs.bind_ok] at q
    exact q
  refine ⟨ρ, env, sto, ve, vs, Po.mono (Po.bind (P := PR) (P' := PR) q' (fun _ _ _ p => p.ext) fun _ _ _ _ e p => p.base e) ?_⟩
  rintro _ w2 H2 em3 em4 ⟨y, em5, p2, q2⟩
  cases y <;> first | exact q2.elim | skip
  rename_i h
  dsimp only at q2
  split at q2
  · rename_i hb'
    have e2 := sn_int p2.sn
    subst e2
    rw [Int.sub_zero] at q2
    exact ⟨h, rfl, hb'.2.2.1, hb'.2.2.2, lc_rng hv hb (ve.ext p2.ext) (vs.ext p2.ext) Ext.refl q2⟩
  · exact q2.elim
end
end Tr
/-! TrFld: fields by their numbers; what a call of a def comes to. -/
namespace Tr
open PySem PySem.Spec PyProof.Rows L2
theorem fldN_all : ((List.range 18).all fun m => (List.range 18).all fun n => !(fldN m == fldN n) || m == n) = true := by decide +kernel
theorem mthN_all : ((List.range 34).all fun m => (List.range 18).all fun n => !(fldN n == mthN m)) = true := by decide +kernel
theorem fldN_inj {m n : Nat} (hm : m < 18) (hn : n < 18) (e : fldN m = fldN n) : m = n := by
  have h := List.all_eq_true.mp (List.all_eq_true.mp fldN_all m (List.mem_range.mpr hm)) n (List.mem_range.mpr hn)
  rw [e] at h
  simpa using h
theorem mthN_ne {m n : Nat} (hm : m < 34) (hn : n < 18) : mthN m ≠ fldN n := fun e => by
  have h := List.all_eq_true.mp (List.all_eq_true.mp mthN_all m (List.mem_range.mpr hm)) n (List.mem_range.mpr hn)
  rw [e] at h
  simp at h
section
variable {F : As} {H : Hp} {ρ : List Addr}
theorem lk_cons {α : Type} (x y : Str) (v : α) (l : List (Str × α)) : ((x, v) :: l).lookup y = if x = y then some v else l.lookup y := by
  rw [List.lookup_cons]
  by_cases q : x = y
  · subst q; simp
  · rw [if_neg q]
    have : (y == x) = false := by simpa using fun z => q z.symm
    rw [this]
theorem FsS.get : ∀ {o : List (Nat × Option T)} {fs : List (Str × V)} {n : Nat} {t : T}, FsS F H ρ o fs → n < 18 → fgetL o n = some t → ∃ v, fs.lookup (fldN n) = some v ∧ Sn F H ρ t v
  | [], fs, n, t, h, hn, e => by simp [fgetL] at e
  | (m, u) :: r, fs, n, t, h, hn, e => by
    obtain ⟨v, fs', rfl, h1, h2, h3⟩ := h
    unfold fgetL at e
    rw [lk_cons]
    by_cases q : m = n
    · subst q
      rw [if_pos rfl] at e
      rw [if_pos rfl]
      exact ⟨v, rfl, h2 t e⟩
    · rw [if_neg q] at e
      rw [if_neg fun z => q (fldN_inj h1 hn z)]
      exact h3.get hn e
theorem FsS.nomth : ∀ {o : List (Nat × Option T)} {fs : List (Str × V)} {m : Nat}, FsS F H ρ o fs → m < 34 → fs.lookup (mthN m) = none
  | [], fs, m, h, hm => by rw [show fs = [] from h]; rfl
  | (n, u) :: r, fs, m, h, hm => by
    obtain ⟨v, fs', rfl, h1, h2, h3⟩ := h
    rw [lk_cons, if_neg fun z => mthN_ne hm h1 z.symm]
    exact h3.nomth hm
theorem rp_dfl : ∀ {l : List T}, l.all cstB = true → RpL F H ρ l (l.map dflV) (fun _ => 0)
  | [], h => by simp only [RpL, List.map_nil]; exact ⟨trivial, fun _ => trivial⟩
  | t :: l, h => by
    simp only [List.all_cons, Bool.and_eq_true] at h
    simp only [RpL, List.map_cons]
    refine ⟨_, _, fun _ => 0, fun _ => 0, rfl, ?_, rp_dfl h.2, fun _ => by simp⟩
    have h1 := h.1
    cases t <;> simp only [cstB, Bool.false_eq_true] at h1 <;> (simp only [Rp]; exact ⟨fun _ => trivial, rfl⟩)
theorem all_drop {α : Type} {p : α → Bool} {l : List α} (j : Nat) (h : l.all p = true) : (l.drop j).all p = true := by
  rw [List.all_eq_true] at h ⊢
  exact fun x hx => h x (List.mem_of_mem_drop hx)
theorem RpL.app0 : ∀ {ts us : List T} {vs ws : List V} {f : Fp}, RpL F H ρ ts vs f → RpL F H ρ us ws (fun _ => 0) → RpL F H ρ (ts ++ us) (vs ++ ws) f
  | [], us, vs, ws, f, h, k => by
    simp only [RpL] at h
    obtain ⟨rfl, h⟩ := h
    have e : f = fun _ => 0 := by funext b; exact h b
    rw [e]; exact k
  | t :: ts, us, vs, ws, f, h, k => by
    simp only [RpL] at h
    obtain ⟨v, vs', f1, f2, rfl, h1, h2, hf⟩ := h
    show RpL F H ρ (t :: (ts ++ us)) (v :: (vs' ++ ws)) _
    simp only [RpL]
    exact ⟨v, _, f1, _, rfl, h1, h2.app0 k, hf⟩
end
section
variable {pd : Pd} {mg : Str → Option Value} {P : Program} {w : World} {K : PySem.W.Frag} {base : Heap} {cf : CF} {k : Nat}
/-- a def is called with what is only read -/
theorem pv_post {f : Nat} {d : FD} {ts : List T} {ws : List V} {H1 : Hp} {ρ : List Addr} {sto : List Ob} {Q : VK} {E : XK} (hd : d.dfl.all cstB = true)
    (pad : (∀ ts sto lk, (padT d ts).length = d.np → cf f ts sto lk = cf f (padT d ts) sto lk) ∧ ∀ ts sto lk, (padT d ts).length ≠ d.np → cf f ts sto lk = .no)
    (sl : SnL Top H1 ρ ts ws) (vs : ViewS pd mg H1 ρ sto) (q : PoV pd mg ρ E H1 (unF (cf f (ts.map view) sto true)) Q) :
    spT pd mg cf f d.np d.mu (ws ++ (d.dfl.drop (padN d ts.length)).map dflV) H1 Q E := by
  have hlen : ws.length = ts.length := sl.length
  have e0 : padT d (ts.map view) = ts.map view ++ d.dfl.drop (padN d ts.length) := by simp [padT, padN]
  by_cases hp : (padT d (ts.map view)).length = d.np
  · rw [pad.1 _ _ _ hp] at q
    have sd : SnL (dom H1) H1 ρ ts ws := SnL.low (fun a _ h => h) ts ws sl
    refine ⟨dom H1, ρ, true, padT d (ts.map view), sto, _, _, ?_, fun b hb => hb, ?_, vs.lock, fun b => Nat.zero_le _, fun b _ => rfl, ?_⟩
    · rw [← hp, e0]; simp [hlen]
    · rw [e0]
      exact sd.views.app0 (rp_dfl (all_drop _ hd))
    · cases e1 : cf f (padT d (ts.map view)) sto true with
      | no => rw [e1] at q; exact q.elim
      | ok t ms sto' =>
        rw [e1] at q
        cases ms with
        | cons _ _ => exact q.elim
        | nil =>
          rintro v H' ρ' ct _ kp pr lr ⟨ft, fm, fs, r1, r2, r3, r4, r5⟩
          obtain rfl := lr rfl
          exact q v H' ⟨kp.ext, ft, Rp.clean t v ft ct r1, fun b => by have := r4 b; omega, fun b hb => by have := r5 b hb; omega⟩
      | ex z ms sto' =>
        rw [e1] at q
        cases ms with
        | cons _ _ => exact q.elim
        | nil =>
          rintro cls dd H' ρ' _ kp pr lr xr _
          obtain rfl := lr rfl
          exact q cls dd H' kp.ext xr
  · rw [pad.2 _ _ _ hp] at q
    exact q.elim
end
end Tr
/-! TrPv: the text's expressions are reckoned as the tree's. -/
namespace Tr
open PySem PySem.Spec PyProof.Rows L2
section
variable {pd : Pd} {Nm : List Str} {sc : Scope} {cf : CF} {k : Nat} {W : WX} {X : Cx}

theorem pr_ext : ∀ {H ρ H' t v}, PR H ρ H' t v → Ext H H' := fun p => p.ext
theorem vis_of {x : Str} (h : visB sc x = true) : Vis sc x := by
  unfold visB at h
  unfold Vis
  cases q : sc.names.lookup x with
  | none => rw [q] at h; simp at h
  | some a => rw [q] at h; cases a <;> simp at h ⊢
theorem gl_of {x : Str} (G : Gd X pd Nm sc cf k W) (h : glB sc x = true) : Gl X x ∧ (x == ("__debug__" : Str)) = false := by
  unfold glB at h
  simp only [Bool.and_eq_true, Bool.not_eq_true'] at h
  refine ⟨?_, h.1.2⟩
  have h1 := h.1.1
  show X.env.scope.names.lookup x = some .globalImplicit
  rw [G.sc_]
  cases q : sc.names.lookup x with
  | none => rw [q] at h1; simp at h1
  | some a => rw [q] at h1; cases a <;> simp at h1 ⊢
theorem u65 {k : Nat} {A : Around} (r : Room k A) : A.units + 65 < cLine := by have := r.un; omega

/-- a value that is there at once -/
theorem po_now {ρ W' H} {t : T} {v : V} {Q : VK} {mg} (p : PR H ρ H t v) (h : PoV pd mg ρ W' H (.ok t) Q) : Q v H := h v H p
theorem po_op {ρ W' H mg} {r : R2} {m : Rs T} {v w : V} {Q : VK} {x y : T} (hm : ∀ t, m = .ok t → (∀ u H', PR H ρ H' t u → Q u H') → r v w H Q) (he : ∀ e, m ≠ .ex e) (h : PoV pd mg ρ W' H m Q) : r v w H Q := by
  cases m with
  | ok t => exact hm t rfl h
  | ex e => exact absurd rfl (he e)
  | no => exact h.elim
theorem binT_noex {op x y e} : binT op x y ≠ .ex e := by
  unfold binT
  split <;> first | (intro z; cases z; done) | (split <;> (intro z; cases z))
theorem getV_ok {env : En} {i : Nat} {t : T} (h : getV env i = .ok t) : env[i]? = some (some t) := by
  unfold getV at h
  split at h
  · rename_i u q; rw [q]; injection h with h; rw [h]
  · cases h
theorem getV_noex {env : En} {i : Nat} {e : Exn} : getV env i ≠ .ex e := by
  unfold getV
  split <;> (intro z; cases z)
theorem ofO_noex {α : Type} {o : Option α} {e} : ofO o ≠ .ex e := by cases o <;> exact fun z => nomatch z
theorem bind_noex {α β : Type} {m : Rs α} {f : α → Rs β} {e} (h : m ≠ .ex e) (g : ∀ a, f a ≠ .ex e) : m.bind f ≠ .ex e := by
  cases m with
  | ok a => exact g a
  | ex z => intro q; apply h; injection q with q; rw [q]
  | no => exact fun z => nomatch z
theorem cmpT_noex {op x y e} : cmpT op x y ≠ .ex e := by
  unfold cmpT
  split <;> first | (intro z; cases z; done) | (refine bind_noex ofO_noex fun a => ?_; first | (intro z; cases z; done) | (split <;> (intro z; cases z)))
theorem truthT_noex {x e} : truthT x ≠ .ex e := by
  unfold truthT
  split <;> first | (intro z; cases z; done) | (split <;> (intro z; cases z))
theorem ixT_noex {x y e} : ixT x y ≠ .ex e := by
  unfold ixT
  split <;> first | (intro z; cases z; done) | (refine bind_noex ofO_noex fun a => ?_; first | (intro z; cases z; done) | (split <;> (intro z; cases z))) | (split <;> first | (intro z; cases z; done) | (refine bind_noex ofO_noex fun a => ?_; intro z; cases z))
theorem slcT_noex {x y z e} : slcT x y z ≠ .ex e := by
  unfold slcT
  split <;> first | (intro z; cases z; done) | (split <;> (intro z; cases z))
theorem srtkT_noex {j x e} : srtkT j x ≠ .ex e := by
  unfold srtkT
  split <;> first | (intro z; cases z; done) | (refine bind_noex ofO_noex fun a => ?_; intro z; cases z; done)
theorem bltT_noex {f x e} : bltT f x ≠ .ex e := by
  unfold bltT
  split <;> first | (intro z; cases z; done) | (refine bind_noex ofO_noex fun a => ?_; intro z; cases z; done) | (split <;> first | (intro z; cases z; done) | (refine bind_noex ofO_noex fun a => ?_; intro z; cases z; done))
theorem few_ok {pos : Pos} {x0 : Expr} {xs : List Expr} {env : Env} (hf : fewB (x0 :: xs) = true) (st : starEach (x0 :: xs) env = (false, eval x0 env) :: starEach xs env) (hs : ((false, eval x0 env) :: starEach xs env).any (·.1) = false) :
    ((backTo pos (starEach (x0 :: xs) env)).all (fun x => !x.1) && (backToKw pos (keywordEach [] env)).all (fun x => x.1.isSome) && decide ((x0 :: xs).length + ([] : List Keyword).length + (if ([] : List Keyword).isEmpty then 0 else 1) < 30)) = true := by
  have h1 : (backTo pos (starEach (x0 :: xs) env)).all (!·.1) = true := by
    unfold backTo
    rw [List.all_map, List.all_eq_true]
    intro q hq
    rw [st] at hq
    have := List.any_eq_false.mp hs q hq
    simpa using this
  have h2 : (x0 :: xs).length < 28 := by simpa [fewB] using hf
  have h3 : (backToKw pos (keywordEach [] env)) = [] := rfl
  rw [h1, h3]
  simp only [List.all_nil, Bool.true_and, List.length_nil, List.isEmpty_nil, if_true, decide_eq_true_eq]
  omega
theorem bmT_noex {m x ts e} : bmT m x ts ≠ .ex e := by
  unfold bmT
  split <;> first | (intro z; cases z; done) | (split <;> first | (intro z; cases z; done) | (refine bind_noex ofO_noex fun a => ?_; intro z; cases z; done) | (split <;> (intro z; cases z)))
theorem bm_base {o : Expr} (h : bmR o = true) (n : Str) (env : Env) (w : Sem Value) : attributeBase o n env w = w := by
  cases o <;> simp only [bmR, Bool.false_eq_true] at h <;> rfl
/-- PoV of something that never raises -/
theorem pov_no {ρ mg W' H} {m : Rs T} {Q : VK} (he : ∀ e, m ≠ .ex e) (h : PoV pd mg ρ W' H m Q) : ∃ t, m = .ok t ∧ ∀ u H', PR H ρ H' t u → Q u H' := by
  cases m with
  | ok t => exact ⟨t, rfl, fun u H' p => h u H' p⟩
  | ex e => exact absurd rfl (he e)
  | no => exact h.elim

/-- x and y behind one another -/
theorem po2 {ρ H mg σ env sto} (ra rb : En → List Ob → Rs T) (g : T → T → Rs T) {Q : VK} (hg : ∀ x y e, g x y ≠ .ex e)
    (ve : ViewE H ρ σ env) (vs : ViewS pd mg H ρ sto) (h : PoV pd mg ρ (fun c d H' => W c d σ H') H ((ra env sto).bind fun x => (rb env sto).bind fun y => g x y) Q) :
    tOp (rT ρ g) (tPv pd mg W ra) (tPv pd mg W rb) σ H Q := by
  refine ⟨ρ, env, sto, ve, vs, Po.mono (Po.bind (P := PR) (P' := PR) h (fun _ _ _ p => p.ext) fun _ _ _ _ e p => p.base e) ?_⟩
  rintro _ v H1 _ _ ⟨x, _, p1, q1⟩
  refine ⟨ρ, env, sto, ve.ext p1.ext, vs.ext p1.ext, Po.mono (Po.bind (P := PR) (P' := PR) q1 (fun _ _ _ p => p.ext) fun _ _ _ _ e p => p.base e) ?_⟩
  rintro _ w H2 _ _ ⟨y, _, p2, q2⟩
  obtain ⟨t, e1, k1⟩ := pov_no (hg x y) q2
  exact ⟨x, y, t, Sn.ext p2.ext Pre.refl _ _ p1.sn, p2.sn, e1, k1⟩

theorem cmpT_bl {op x y t} (h : cmpT op x y = .ok t) : ∃ c, t = .bl c := by
  unfold cmpT at h
  split at h <;> first
    | (injection h with h; exact ⟨_, h.symm⟩)
    | (obtain ⟨c, _, e2⟩ := bind_inv h; injection e2 with e2; exact ⟨_, e2.symm⟩)
    | cases h
theorem pochain {ρ H mg σ env sto} (ra rb rc : En → List Ob → Rs T) (o1 o2 : COp) {Q : VK}
    (ve : ViewE H ρ σ env) (vs : ViewS pd mg H ρ sto) (h : PoV pd mg ρ (fun c d H' => W c d σ H') H ((ra env sto).bind fun x => (rb env sto).bind fun y => (cmpT o1 x y).bind fun r => match r with
      | .bl true => (rc env sto).bind fun z => cmpT o2 y z
      | .bl false => .ok (.bl false)
      | _ => .no) Q) :
    tChain (rT ρ (cmpT o1)) (rT ρ (cmpT o2)) (tPv pd mg W ra) (tPv pd mg W rb) (tPv pd mg W rc) σ H Q := by
  refine ⟨ρ, env, sto, ve, vs, Po.mono (Po.bind (P := PR) (P' := PR) h (fun _ _ _ p => p.ext) fun _ _ _ _ e p => p.base e) ?_⟩
  rintro _ v H1 _ _ ⟨x, _, p1, q1⟩
  refine ⟨ρ, env, sto, ve.ext p1.ext, vs.ext p1.ext, Po.mono (Po.bind (P := PR) (P' := PR) q1 (fun _ _ _ p => p.ext) fun _ _ _ _ e p => p.base e) ?_⟩
  rintro _ w H2 _ _ ⟨y, _, p2, q2⟩
  cases e : cmpT o1 x y with
  | no => rw [e] at q2; exact q2.elim
  | ex z => exact absurd e cmpT_noex
  | ok t =>
    rw [e, Rs.bind_ok] at q2
    obtain ⟨c, rfl⟩ := cmpT_bl e
    refine ⟨x, y, _, Sn.ext p2.ext Pre.refl _ _ p1.sn, p2.sn, e, fun u H3 p3 => ?_⟩
    obtain rfl := sn_bl p3.sn
    refine ⟨c, rfl, ?_⟩
    have e13 := p1.ext.trans (p2.ext.trans p3.ext)
    cases c with
    | false =>
      rw [if_neg Bool.false_ne_true]
      exact q2 _ _ ⟨p3.ext, p3.rp⟩
    | true =>
      rw [if_pos rfl]
      refine ⟨ρ, env, sto, ve.ext e13, vs.ext e13, ?_⟩
      cases e4 : rc env sto with
      | no => rw [e4] at q2; exact q2.elim
      | ex z => rw [e4] at q2; exact fun cls d H' e => q2 cls d H' (p3.ext.trans e)
      | ok z =>
        rw [e4, Rs.bind_ok] at q2
        intro u H4 p4
        cases e5 : cmpT o2 y z with
        | no => rw [e5] at q2; exact q2.elim
        | ex z => exact absurd e5 cmpT_noex
        | ok t2 =>
          rw [e5] at q2
          exact ⟨y, z, t2, Sn.ext (p3.ext.trans p4.ext) Pre.refl _ _ p2.sn, p4.sn, e5, fun u H5 p5 => q2 u H5 (p5.base (p3.ext.trans p4.ext))⟩
/-- a test that asks a value's truth -/
theorem tst_def {r : En → List Ob → Rs T} {e : Expr} (A : PE X e (tPv pd X.mg W r)) (he : ∀ whole, isTrue e X.env whole = (do let v ← whole; standAt e.pos; holding [v] (truthy v))) :
    PT X e (tPb pd X.mg W fun env sto => (r env sto).bind truthT) := by
  refine PT.imp (pt_truthX A he) fun σ H Q ⟨ρ, env, sto, ve, vs, q⟩ => ?_
  refine ⟨ρ, env, sto, ve, vs, Po.mono (Po.bind (P := PR) (P' := PB) q (fun _ _ _ p => p.ext) fun _ _ _ _ e p => ⟨e.trans p.1, p.2⟩) ?_⟩
  rintro _ v H1 _ _ ⟨x, _, p1, q1⟩
  cases e1 : truthT x with
  | ok b => rw [e1] at q1; exact ⟨b, truth_ok p1.sn e1, q1 _ _ ⟨Ext.refl, rfl⟩⟩
  | ex z => exact absurd e1 truthT_noex
  | no => rw [e1] at q1; exact q1.elim
/-- a test that is a truth value -/
theorem tst_bl {r : En → List Ob → Rs T} {e : Expr} {t : TE} (A : PT X e (tTest t)) (k : ∀ σ H Q, tPv pd X.mg W r σ H Q → t σ H Q) (hb : ∀ env sto x, r env sto = .ok x → ∃ c, x = .bl c) :
    PT X e (tPb pd X.mg W fun env sto => (r env sto).bind truthT) := by
  refine PT.imp A fun σ H Q ⟨ρ, env, sto, ve, vs, q⟩ => k σ H _ ?_
  refine ⟨ρ, env, sto, ve, vs, Po.mono (Po.bind (P := PR) (P' := PB) q (fun _ _ _ p => p.ext) fun _ _ _ _ e p => ⟨e.trans p.1, p.2⟩) ?_⟩
  rintro _ v H1 _ _ ⟨x, ex, p1, q1⟩
  obtain ⟨c, rfl⟩ := hb _ _ _ ex
  obtain rfl := sn_bl p1.sn
  exact ⟨c, rfl, q1 _ _ ⟨Ext.refl, rfl⟩⟩

def isAO : E → Bool
  | .and _ _ => true
  | .or _ _ => true
  | _ => false
theorem isAO_of {b : E} {o : BoolOp} {xs : List Expr} {p : Pos} (h : chkE pd Nm sc b (.BoolOp o xs p) = true) (_ : o = .And ∨ o = .Or) : isAO b = true := by
  cases b <;> first | rfl | (simp only [chkE, lcH, lcrH, Bool.false_eq_true] at h)
theorem tstB_cases {tst : E} {ifs : List Expr} (h : tstB pd Nm sc tst ifs = true) : ifs = [] ∨ ∃ c, ifs = [c] ∧ tstX c = true ∧ chkE pd Nm sc tst c = true := by
  unfold tstB at h
  split at h
  · exact .inl rfl
  · simp only [Bool.and_eq_true] at h
    exact .inr ⟨_, rfl, h.1, h.2⟩
  · exact nomatch h
theorem blk_ix {scope : Scope} {t : Str} {v : Nat} (h : blkC Nm sc scope [(t, v)] = true) : Nm[v]? = some t := by
  unfold blkC at h
  simp only [Bool.and_eq_true, List.all_cons, List.all_nil, decide_eq_true_eq, Bool.and_true] at h
  exact h.1.2
theorem blk_loc (G : Gd X pd Nm sc cf k W) {s H scope cl C fp} {t : Str} (h : locB (relS scope sc) t = true) : (X.blk s H scope (compEnvC scope cl C X.env) fp).env.scope.names.lookup t = some .local := by
  show (relS scope X.env.scope).names.lookup t = some .local
  rw [G.sc_]
  unfold locB at h
  split at h
  · assumption
  · cases h
theorem Gd.blk (G : Gd X pd Nm sc cf k W) {s H scope cl C fp} : Gd (X.blk s H scope (compEnvC scope cl C X.env) fp) pd Nm (relS scope sc) cf k W0 :=
  ⟨G.nd, G.nm, by show relS scope X.env.scope = _; rw [G.sc_], G.calm, G.room, tk0, G.blt, G.fs⟩
mutual
theorem sE {sc : Scope} {W : WX} {X : Cx} (G : Gd X pd Nm sc cf k W) : ∀ (d : E) (e : Expr), chkE pd Nm sc d e = true → PE X e (tPv pd X.mg W fun env sto => pv cf env sto d)
  | .var i, e, h => by
    obtain ⟨x, p, rfl, h1, h2, h3, h4⟩ := inv_var h
    refine PE.imp (pe_var (i := i) (by rw [G.nm]; exact h1) (by rw [G.sc_]; exact vis_of h2) h3 h4) fun σ H Q ⟨ρ, env, sto, ve, vs, q⟩ => ?_
    unfold pv at q
    cases q1 : getV env i with
    | ok t =>
      dsimp only at q
      rw [q1] at q
      obtain ⟨v, e1, e2⟩ := ve i t (getV_ok q1)
      exact ⟨v, e1, q v H (PR.view e2)⟩
    | ex e => exact absurd q1 getV_noex
    | no =>
      dsimp only at q
      rw [q1] at q
      exact q.elim
  | .int i, e, h => by
    obtain ⟨j, p, rfl⟩ := inv_int h
    refine PE.imp pe_int fun σ H Q ⟨ρ, env, sto, ve, vs, q⟩ => ?_
    unfold pv at q
    exact q _ _ PR.int
  | .str i, e, h => by
    obtain ⟨j, p, rfl⟩ := inv_str h
    refine PE.imp pe_str fun σ H Q ⟨ρ, env, sto, ve, vs, q⟩ => ?_
    unfold pv at q
    exact q _ _ PR.str
  | .bl i, e, h => by
    obtain ⟨j, p, rfl⟩ := inv_bl h
    refine PE.imp pe_bl fun σ H Q ⟨ρ, env, sto, ve, vs, q⟩ => ?_
    unfold pv at q
    exact q _ _ PR.bl
  | .non, e, h => by
    obtain ⟨j, p, rfl⟩ := inv_non h
    refine PE.imp pe_non fun σ H Q ⟨ρ, env, sto, ve, vs, q⟩ => ?_
    unfold pv at q
    exact q _ _ PR.non
  | .bin op a b, e, h => by
    obtain ⟨x, y, p, rfl, h1, h2⟩ := inv_bin h
    have A := sE G a x h1
    have B := sE G b y h2
    refine ⟨fun pins s σ H Q I ⟨ρ, env, sto, ve, vs, q⟩ => ?_⟩
    unfold pv at q
    refine (pe_op (bin_ok (ρ := ρ) op) A B).run pins s σ H Q I (po2 (fun env sto => pv cf env sto a) (fun env sto => pv cf env sto b) (binT op) (fun _ _ _ => binT_noex) ve vs q)
  | .neg a, e, h => by
    obtain ⟨x, p, rfl, h1⟩ := inv_neg h
    have A := sE G a x h1
    refine PE.imp (pe_un un_neg A) fun σ H Q ⟨ρ, env, sto, ve, vs, q⟩ => ?_
    unfold pv at q
    refine ⟨ρ, env, sto, ve, vs, Po.mono (Po.bind (P := PR) (P' := PR) q (fun _ _ _ p => p.ext) fun _ _ _ _ e p => p.base e) ?_⟩
    rintro _ v H1 _ _ ⟨x, _, p1, q1⟩
    cases x <;> first | exact q1.elim | skip
    obtain rfl := sn_int p1.sn
    exact ⟨_, rfl, q1 _ _ PR.int⟩
  | .not a, e, h => by
    obtain ⟨x, p, rfl, h1, h2⟩ := inv_not h
    have A := sE G a x h2
    refine PE.imp (pe_notTX A) fun σ H Q ⟨ρ, env, sto, ve, vs, q⟩ => ?_
    unfold pv at q
    refine ⟨ρ, env, sto, ve, vs, Po.mono (Po.bind (P := PR) (P' := PR) q (fun _ _ _ p => p.ext) fun _ _ _ _ e p => p.base e) ?_⟩
    rintro _ v H1 _ _ ⟨x, _, p1, q1⟩
    cases e1 : truthT x with
    | ok b =>
      rw [e1] at q1
      exact ⟨b, truth_ok p1.sn e1, q1 _ _ PR.bl⟩
    | ex z => exact absurd e1 truthT_noex
    | no => rw [e1] at q1; exact q1.elim
  | .and a b, e, h => by
    obtain ⟨x, y, r, p, rfl, h0, h1, h2⟩ := inv_and h
    have A := sE G a x h1
    have B : PE X (.BoolOp .And (y :: r) p) (tPv pd X.mg W fun env sto => pv cf env sto b) := by
      rcases h2 with ⟨rfl, _, h2⟩ | ⟨z, r', rfl, h2⟩
      · exact pe_one (sE G b y h2)
      · exact sE G b _ h2
    refine PE.imp (pe_and A B) fun σ H Q ⟨ρ, env, sto, ve, vs, q⟩ => ?_
    unfold pv at q
    refine ⟨ρ, env, sto, ve, vs, Po.mono (Po.bind (P := PR) (P' := PR) q (fun _ _ _ p => p.ext) fun _ _ _ _ e p => p.base e) ?_⟩
    rintro _ v H1 _ _ ⟨x, _, p1, q1⟩
    cases x <;> first | exact q1.elim | skip
    rename_i c _
    obtain rfl := sn_bl p1.sn
    refine ⟨c, rfl, ?_⟩
    cases c with
    | true =>
      rw [if_pos rfl]
      exact ⟨ρ, env, sto, ve.ext p1.ext, vs.ext p1.ext, q1⟩
    | false =>
      rw [if_neg Bool.false_ne_true]
      exact q1 _ _ PR.bl
  | .or a b, e, h => by
    obtain ⟨x, y, r, p, rfl, h0, h1, h2⟩ := inv_or h
    have A := sE G a x h1
    have B : PE X (.BoolOp .Or (y :: r) p) (tPv pd X.mg W fun env sto => pv cf env sto b) := by
      rcases h2 with ⟨rfl, _, h2⟩ | ⟨z, r', rfl, h2⟩
      · exact pe_one (sE G b y h2)
      · exact sE G b _ h2
    refine PE.imp (pe_or A B) fun σ H Q ⟨ρ, env, sto, ve, vs, q⟩ => ?_
    unfold pv at q
    refine ⟨ρ, env, sto, ve, vs, Po.mono (Po.bind (P := PR) (P' := PR) q (fun _ _ _ p => p.ext) fun _ _ _ _ e p => p.base e) ?_⟩
    rintro _ v H1 _ _ ⟨x, _, p1, q1⟩
    cases x <;> first | exact q1.elim | skip
    rename_i c _
    obtain rfl := sn_bl p1.sn
    refine ⟨c, rfl, ?_⟩
    cases c with
    | false =>
      rw [if_neg Bool.false_ne_true]
      exact ⟨ρ, env, sto, ve.ext p1.ext, vs.ext p1.ext, q1⟩
    | true =>
      rw [if_pos rfl]
      exact q1 _ _ PR.bl
  | .cmp op a b, e, h => by
    obtain ⟨x, y, p, rfl, n1, h1, h2⟩ := inv_cmp h
    have A := sE G a x h1
    have B := sE G b y h2
    have hu : X.A.units + 65 < cLine := u65 G.room
    refine ⟨fun pins s σ H Q I ⟨ρ, env, sto, ve, vs, q⟩ => ?_⟩
    unfold pv at q
    refine (pe_cmpR (cmp_ok (ρ := ρ) hu op) A B n1).run pins s σ H Q I (po2 (fun env sto => pv cf env sto a) (fun env sto => pv cf env sto b) (cmpT op) (fun _ _ _ => cmpT_noex) ve vs q)
  | .chain o1 o2 a b c, e, h => by
    obtain ⟨x, y, z, p, rfl, n1, n2, n3, n4, py, pz, h1, h2, h3⟩ := inv_chain h
    have A := sE G a x h1
    have B := sE G b y h2
    have C := sE G c z h3
    have hu : X.A.units + 65 < cLine := u65 G.room
    have hm : lastMarks [pyCmp o1, pyCmp o2] [y, z] = false := plain_behind pz
    refine ⟨fun pins s σ H Q I ⟨ρ, env, sto, ve, vs, q⟩ => (pe_chain (cmp_ok (ρ := ρ) hu o1) (cmp_ok (ρ := ρ) hu o2) A B C hm).run pins s σ H Q I ?_⟩
    unfold pv at q
    exact pochain (fun env sto => pv cf env sto a) (fun env sto => pv cf env sto b) (fun env sto => pv cf env sto c) o1 o2 ve vs q
  | .ite c a b, e, h => by
    obtain ⟨t, x, y, p, rfl, h0, hb, h1, h2, h3⟩ := inv_ite h
    have C := sT G c t h0 h1
    have ce : (fun env sto => tv cf env sto c) = fun env sto => (pv cf env sto c).bind truthT := by
      cases c <;> first | rfl | exact absurd hb Bool.noConfusion
    rw [ce] at C
    have A := sE G a x h2
    have B := sE G b y h3
    refine PE.imp (pe_ifExp C A B) fun σ H Q ⟨ρ, env, sto, ve, vs, q⟩ => ?_
    unfold pv at q
    refine ⟨ρ, env, sto, ve, vs, Po.mono (Po.bind (P := PB) (P' := PR) q (fun _ _ _ p => p.1) fun _ _ _ _ e p => p.base e) ?_⟩
    rintro _ d H1 _ _ ⟨c', _, ⟨e1, rfl⟩, q1⟩
    cases c' with
    | true => rw [if_pos rfl] at q1 ⊢; exact ⟨ρ, env, sto, ve.ext e1, vs.ext e1, q1⟩
    | false => rw [if_neg Bool.false_ne_true] at q1 ⊢; exact ⟨ρ, env, sto, ve.ext e1, vs.ext e1, q1⟩
  | .call f as, e, h => by
    rcases inv_call h with ⟨x, p, args, pos, rfl, h1, h2, h5, h6⟩ | ⟨p, y, z, qp, pos, c, d, cs, rfl, h1, h2, h3, h4, rfl, hd, hk, h5⟩
    · -- a def by its name
      obtain ⟨x0, xs, rfl⟩ := List.exists_cons_of_ne_nil h6
      obtain ⟨hg, hdb⟩ := gl_of G h2
      obtain ⟨ad, hm, fd, ps, d, e0, hk, ⟨hc, hb⟩, hl, pad, F⟩ := G.fs.fn x f h1
      have AS := sEs G as _ h5
      have st := plain_starA (xs := xs) (env := X.env) (show plainA x0 = true by
        cases as with
        | nil => simp only [chkEs, Bool.false_eq_true] at h5
        | cons a as => simp only [chkEs, Bool.and_eq_true] at h5; exact h5.1.1)
      have hs := chkEs_star h5 X.env
      rw [st] at hs
      obtain ⟨ds, dv, db⟩ := hb (padN d as.len)
      refine PE.imp (pe_callSD F G.room hg hm hk db dv (fun σ => passAt G.tk σ) AS hdb st (back_star (by simpa using hs))) fun σ H Q ⟨ρ, env, sto, ve, vs, q⟩ => ?_
      unfold pv at q
      refine ⟨ρ, env, sto, ve, vs, Po.mono (Po.bind (P := PRL) (P' := PR) q (fun _ _ _ p => p.1) fun _ _ _ _ e p => p.base e) ?_⟩
      rintro _ ws H1 _ _ ⟨ts, ets, p1, q1⟩
      rw [← pvs_len ets]
      exact pv_post hc pad p1.snl (vs.ext p1.1) q1
    · -- isinstance with an own class
      cases as with
      | nil => simp only [chkEs, Bool.false_eq_true] at h5
      | cons a as =>
        simp only [chkEs, Bool.and_eq_true] at h5
        have hn := chkEs_len h5.2
        have : as = .nil := by cases as with | nil => rfl | cons _ _ => simp [Es.len] at hn
        subst this
        obtain ⟨hg, hdb⟩ := gl_of G h1
        obtain ⟨hg2, hdb2⟩ := gl_of G h2
        have A := sE G a y h5.1.2
        obtain ⟨D, hmD, _⟩ := G.fs.cls z c h4
        obtain ⟨hcf, hkit⟩ := G.fs.isc z c D d cs h4 hmD hd hk
        have B : PE X (.Name z qp) (tC (.ref D)) := pe_glob hg2 hmD rfl hdb2
        have st := plain_star (xs := [.Name z qp]) (env := X.env) h3
        refine PE.imp (pe_callB call_isi hg (G.blt _ (by decide)) (by decide +kernel) (pa_cons A (pa_cons B pa_nil rfl) st) (by decide) hdb st rfl) fun σ H Q ⟨ρ, env, sto, ve, vs, q⟩ => ?_
        have q' : PoV pd X.mg ρ (fun c d H' => W c d σ H') H ((pv cf env sto a).bind fun x => unF (cf (icB + c) [view x] sto true)) Q := by
          have e0 : pvs cf env sto (.cons a .nil) = (pv cf env sto a).bind fun t => .ok [t] := by
            rw [pvs, pvs]; rfl
          have e1 : pv cf env sto (.call (icB + c) (.cons a .nil)) = (pvs cf env sto (.cons a .nil)).bind fun ts => unF (cf (icB + c) (ts.map view) sto true) := by
            rw [pv]; rfl
          revert q
          show PoV _ _ _ _ _ (pv cf env sto (.call (icB + c) (.cons a .nil))) _ → _
          rw [e1, e0]
          cases pv cf env sto a with
          | ok x => exact fun q => q
          | ex e => exact fun q => q
          | no => exact fun q => q
        refine ⟨ρ, env, sto, ve, vs, Po.mono (Po.bind (P := PR) (P' := PR) q' (fun _ _ _ p => p.ext) fun _ _ _ _ e p => p.base e) ?_⟩
        rintro _ v H1 _ _ ⟨x, _, p1, q1⟩
        rcases hcf [view x] sto true with e1 | ⟨b, e1, e2⟩
        · rw [e1] at q1; exact q1.elim
        · rw [e2] at q1
          have ex : ∃ i, x = .obj i := by
            cases x with
            | obj i => exact ⟨i, rfl⟩
            | tup us => exfalso; revert e1; unfold view; split <;> exact fun z => nomatch z
            | lst _ _ us => exfalso; revert e1; unfold view; split <;> exact fun z => nomatch z
            | dic _ _ _ us => exfalso; revert e1; unfold view; split <;> exact fun z => nomatch z
            | _ => exact nomatch e1
          obtain ⟨i, rfl⟩ := ex
          have ev : view (.obj i) = .obj i := rfl
          rw [ev] at e1
          unfold iscT at e1
          dsimp only at e1
          cases es : sto[i]? with
          | none => rw [es] at e1; exact nomatch e1
          | some oo =>
            rw [es] at e1
            simp only [Option.some.injEq] at e1
            obtain ⟨ad, ea, _, cx, C, dx, fs, c1, c2, c3, c4⟩ := StoS.at_ (vs.ext p1.ext) es
            obtain ⟨C', m1, CF⟩ := G.fs.cls cx oo.cls c1
            rw [c2] at m1
            have : C = C' := by simpa using m1
            subst this
            obtain rfl : v = .ref ad := by
              have := p1.sn
              simp only [Sn] at this
              obtain ⟨a', e1, e2⟩ := this
              rw [ea] at e1
              simp at e1
              rw [e2, e1]
            refine ⟨_, _, _, _, b, rfl, .own _, .base (CF.ty c3), ?_, q1 _ _ PR.bl⟩
            rw [← e1]
            exact hkit cx oo.cls C c1 c2
  | .meth a m as, e, h => by
    obtain ⟨o, ap, args, pos, d, l, rfl, hm34, hd, hk, hr, hl, hf, h5, h6⟩ := inv_meth h
    have A := sE G a o h5
    have AS := sEs G as _ h6
    have hb := rcv_base hr (mthN m) X.env (eval o X.env)
    have key : ∀ t, (∀ σ H Q, tPl pd X.mg W (fun env sto => pvs cf env sto as) σ H Q → t σ H Q) → ∀ σ H Q, tPv pd X.mg W (fun env sto => pv cf env sto (.meth a m as)) σ H Q → tMethS X (L2.CX X.prog X.w) (k + 3) (mthN m) (WE W) (tPv pd X.mg W fun env sto => pv cf env sto a) t σ H Q := by
      rintro t0 ht σ H Q ⟨ρ, env, sto, ve, vs, q⟩
      unfold pv at q
      refine ⟨ρ, env, sto, ve, vs, Po.mono (Po.bind (P := PR) (P' := PR) q (fun _ _ _ p => p.ext) fun _ _ _ _ e p => p.base e) ?_⟩
      rintro _ v H1 _ _ ⟨x, _, p1, q1⟩
      cases x <;> first | exact q1.elim | skip
      rename_i i _
      have vs1 := vs.ext p1.ext
      -- the method is there
      have ob : ∃ o g, sto[i]? = some o ∧ l.lookup o.cls = some g ∧ ∀ ts, cf (vmB + m) (.obj i :: ts) sto true = cf g (.obj i :: ts) sto true := by
        have e1 := G.fs.vm m d l hm34 hd hk
        have hdis : (∃ g, dispT pd.tb l [.obj i] sto = some g) → ∃ o g, sto[i]? = some o ∧ l.lookup o.cls = some g ∧ ∀ ts, cf (vmB + m) (.obj i :: ts) sto true = cf g (.obj i :: ts) sto true := by
          rintro ⟨g, eg⟩
          have eg' : ∀ ts, dispT pd.tb l (.obj i :: ts) sto = some g := fun ts => eg
          have : ∃ o, sto[i]? = some o ∧ l.lookup o.cls = some g := by
            unfold dispT at eg
            dsimp only at eg
            cases es : sto[i]? with
            | none => rw [es] at eg; exact nomatch eg
            | some o =>
              rw [es] at eg
              dsimp only at eg
              cases el : l.lookup o.cls with
              | none => rw [el] at eg; exact nomatch eg
              | some g' =>
                rw [el] at eg
                dsimp only at eg
                refine ⟨o, rfl, ?_⟩
                rw [el]
                split at eg
                · split at eg
                  · exact eg
                  · exact nomatch eg
                · exact nomatch eg
          obtain ⟨o, a1, a2⟩ := this
          exact ⟨o, g, a1, a2, fun ts => by rw [e1, eg' ts]⟩
        cases eg : dispT pd.tb l [.obj i] sto with
        | some g => exact hdis ⟨g, eg⟩
        | none =>
          exfalso
          have eg' : ∀ ts, dispT pd.tb l (.obj i :: ts) sto = none := fun ts => eg
          have hno : ∀ ts, cf (vmB + m) (.obj i :: ts) sto true = .no := fun ts => by rw [e1, eg' ts]
          have hp : prb cf m i sto = false := by
            cases hp : prb cf m i sto with
            | false => rfl
            | true =>
              obtain ⟨g, eg2⟩ := G.fs.pb m d l hm34 hd hk i sto hp
              rw [eg] at eg2; exact nomatch eg2
          revert q1
          dsimp only
          rw [hp]
          cases pvs cf env sto as with
          | ok ts => show PoV _ _ _ _ _ (unF (cf (vmB + m) (.obj i :: ts.map view) sto true)) _ → _; rw [hno]; exact fun z => z
          | ex e => exact fun z => z
          | no => exact fun z => z
      obtain ⟨oo, g, es, el, ecf⟩ := ob
      obtain ⟨ad, ea, _, cx, C, dx, fs, c1, c2, c3, c4⟩ := StoS.at_ vs1 es
      obtain ⟨C', m1, CF⟩ := G.fs.cls cx oo.cls c1
      rw [c2] at m1
      have : C = C' := by simpa using m1
      subst this
      obtain ⟨mc, _, mt⟩ := CF.mt
      obtain ⟨fa, ⟨fd, ps, d', e0, hk', ⟨hc, hb'⟩, hl', pad, F⟩, hme, _⟩ := mt m d l g hm34 hd hk el
      obtain ⟨ds, dv, db⟩ := hb' (padN d' (as.len + 1))
      obtain rfl : v = .ref ad := by
        have := p1.sn
        simp only [Sn] at this
        obtain ⟨a', e1, e2⟩ := this
        rw [ea] at e1
        simp at e1
        rw [e2, e1]
      refine ⟨ad, C, dx, fs, fa, fd, ps, _, _, ds, rfl, c3, CF.cls, hme, F, db, dv, c4.nomth hm34, ht _ _ _ ⟨ρ, env, sto, ve.ext p1.ext, vs1, ?_⟩⟩
      have q2 : PoV pd X.mg ρ (fun c d H' => W c d σ H') H1 ((pvs cf env sto as).bind fun ts => unF (cf g (.obj i :: ts.map view) sto true)) Q := by
        revert q1
        dsimp only
        cases pvs cf env sto as with
        | ok ts => show PoV _ _ _ _ _ (unF (cf (vmB + m) (.obj i :: ts.map view) sto true)) _ → _; rw [ecf]; exact fun z => z
        | ex e =>
          show PoV _ _ _ _ _ ((mArg (prb cf m i sto) (Rs.ex e)).bind _) _ → _
          cases prb cf m i sto with
          | true => exact fun z => z
          | false => exact fun z => z.elim
        | no => exact fun z => z
      refine Po.mono (Po.bind (P := PRL) (P' := PR) q2 (fun _ _ _ p => p.1) fun _ _ _ _ e p => p.base e) ?_
      rintro _ ws H2 _ _ ⟨ts, ets, p2, q3⟩
      have hl2 : as.len + 1 = (T.obj i :: ts).length := by simp [pvs_len ets]
      rw [hl2]
      have sl : SnL Top H2 ρ (T.obj i :: ts) (.ref ad :: ws) := by
        simp only [SnL]
        exact ⟨_, ws, rfl, Sn.ext p2.1 Pre.refl _ _ p1.sn, p2.snl⟩
      exact pv_post hc pad sl (vs1.ext p2.1) q3
    cases args with
    | nil =>
      have e0 := chkEs_len h6
      have : as = .nil := by cases as with | nil => rfl | cons _ _ => simp [Es.len] at e0
      subst this
      refine PE.imp (pe_methS0 A G.room (fun σ => passAt G.tk σ) hb hl) (key tNil fun σ H Q ⟨ρ, env, sto, ve, vs, q⟩ => ?_)
      unfold pvs at q
      exact q [] H PRL.nil
    | cons x0 xs =>
      have st := plain_starA (xs := xs) (env := X.env) (show plainA x0 = true by
        cases as with
        | nil => simp only [chkEs, Bool.false_eq_true] at h6
        | cons a as => simp only [chkEs, Bool.and_eq_true] at h6; exact h6.1.1)
      have hs := chkEs_star h6 X.env
      rw [st] at hs
      exact PE.imp (pe_methS A G.room (fun σ => passAt G.tk σ) AS hb hl hf st (by simpa using hs)) (key _ fun σ H Q z => z)
  | .fld a n, e, h => by
    obtain ⟨o, p, rfl, h1, h2, h3, h4⟩ := inv_fld h
    have A := sE G a o h4
    refine PE.imp (pe_fld A (rcv_base h3 _ _ _)) fun σ H Q ⟨ρ, env, sto, ve, vs, q⟩ => ?_
    unfold pv at q
    refine ⟨ρ, env, sto, ve, vs, Po.mono (Po.bind (P := PR) (P' := PR) q (fun _ _ _ p => p.ext) fun _ _ _ _ e p => p.base e) ?_⟩
    rintro _ v H1 _ _ ⟨x, _, p1, q1⟩
    cases x <;> first | exact q1.elim | skip
    rename_i i _
    cases es : sto[i]? with
    | none =>
      have : fldT sto n (.obj i) = none := by simp [fldT, fgetO, es]
      rw [this] at q1; exact q1.elim
    | some oo =>
      cases eg : fgetL oo.fs n with
      | none =>
        have : fldT sto n (.obj i) = none := by simp [fldT, fgetO, es, eg]
        rw [this] at q1; exact q1.elim
      | some t =>
        have : fldT sto n (.obj i) = some t := by simp [fldT, fgetO, es, eg]
        rw [this] at q1
        obtain ⟨ad, ea, _, cx, C, dx, fs, c1, c2, c3, c4⟩ := StoS.at_ (vs.ext p1.ext) es
        obtain ⟨C', m1, CF⟩ := G.fs.cls cx oo.cls c1
        rw [c2] at m1
        have : C = C' := by simpa using m1
        subst this
        obtain ⟨u, l1, s1⟩ := c4.get h2 eg
        obtain rfl : v = .ref ad := by
          have := p1.sn
          simp only [Sn] at this
          obtain ⟨a', e1, e2⟩ := this
          rw [ea] at e1
          simp at e1
          rw [e2, e1]
        exact ⟨ad, C, dx, fs, u, rfl, c3, CF.cls, CF.na n h1, l1, q1 _ _ (PR.view s1)⟩
  | .blt f as, e, h => by
    obtain ⟨p, args, pos, rfl, h2, h5, h6⟩ := inv_blt h
    obtain ⟨x0, xs, rfl⟩ := List.exists_cons_of_ne_nil h6
    obtain ⟨hg, hdb⟩ := gl_of G h2
    have AS := sEs G as _ h5
    have st := plain_starA (xs := xs) (env := X.env) (show plainA x0 = true by
      cases as with
      | nil => simp only [chkEs, Bool.false_eq_true] at h5
      | cons a as => simp only [chkEs, Bool.and_eq_true] at h5; exact h5.1.1)
    have hs := chkEs_star h5 X.env
    rw [st] at hs
    have hs' := back_star (pos := pos) (show (starEach xs X.env).any (·.1) = false by simpa using hs)
    have main : PE X (.Call (.Name (bfName f) p) (x0 :: xs) [] pos) (tCB (fun vs H Q => ∃ ρ ts t, SnL Top H ρ ts vs ∧ bltT f ts = .ok t ∧ ∀ u H', PR H ρ H' t u → Q u H') (tPl pd X.mg W fun env sto => pvs cf env sto as)) := by
      have C : CallR X (bfVal f) (fun vs H Q => ∃ ρ ts t, SnL Top H ρ ts vs ∧ bltT f ts = .ok t ∧ ∀ u H', PR H ρ H' t u → Q u H') := fun pins s σ H vs us Q I r ⟨ρ, z⟩ => blt_ok (ρ := ρ) G.calm (u65 G.room) f pins s σ H vs us Q I r z
      cases f with
      | len => exact pe_callB C hg (G.blt _ (by decide)) (by decide +kernel) AS (by decide) hdb st hs'
      | int => exact pe_callTy C hg (G.blt _ (by decide)) (by decide +kernel) AS (by decide) hdb st hs'
      | list => exact pe_callTy C hg (G.blt _ (by decide)) (by decide +kernel) AS (by decide) hdb st hs'
      | max2 => exact pe_callB C hg (G.blt _ (by decide)) (by decide +kernel) AS (by decide) hdb st hs'
      | min2 => exact pe_callB C hg (G.blt _ (by decide)) (by decide +kernel) AS (by decide) hdb st hs'
      | abs => exact pe_callB C hg (G.blt _ (by decide)) (by decide +kernel) AS (by decide) hdb st hs'
      | tuple => exact pe_callTy C hg (G.blt _ (by decide)) (by decide +kernel) AS (by decide) hdb st hs'
      | sum => exact pe_callB C hg (G.blt _ (by decide)) (by decide +kernel) AS (by decide) hdb st hs'
      | str => exact pe_callTy C hg (G.blt _ (by decide)) (by decide +kernel) AS (by decide) hdb st hs'
      | max1 => exact pe_callB C hg (G.blt _ (by decide)) (by decide +kernel) AS (by decide) hdb st hs'
      | min1 => exact pe_callB C hg (G.blt _ (by decide)) (by decide +kernel) AS (by decide) hdb st hs'
      | min3 => exact pe_callB C hg (G.blt _ (by decide)) (by decide +kernel) AS (by decide) hdb st hs'
      | sorted => exact pe_callB C hg (G.blt _ (by decide)) (by decide +kernel) AS (by decide) hdb st hs'
    refine PE.imp main fun σ H Q ⟨ρ, env, sto, ve, vs, q⟩ => ?_
    unfold pv at q
    refine ⟨ρ, env, sto, ve, vs, Po.mono (Po.bind (P := PRL) (P' := PR) q (fun _ _ _ p => p.1) fun _ _ _ _ e p => p.base e) ?_⟩
    rintro _ ws H1 _ _ ⟨ts, _, p1, q1⟩
    obtain ⟨t, e1, k1⟩ := pov_no (fun e => bltT_noex) q1
    exact ⟨ρ, ts, t, p1.snl, e1, k1⟩
  | .srtk f j a, e, h => by
    obtain ⟨p, y, z, zp, kp, pos, rfl, h1, h2, h3, h4, h5, h6⟩ := inv_srtk h
    obtain ⟨hg, hdb⟩ := gl_of G h1
    obtain ⟨hg2, hdb2⟩ := gl_of G h3
    have A := sE G a y h6
    obtain ⟨fa, m1, ka, lt⟩ := G.fs.ky z f j h2 h4
    have st := plain_starA (xs := []) (env := X.env) h5
    have main : PE X (.Call (.Name ("sorted" : Str) p) [y] [⟨some (Str.ofString "key"), .Name z zp, kp⟩] pos) _ := pe_callBK (ks := [Str.ofString "key"]) (r := rSortK X.K j fa) (cr_sortK (G.room.mono (by omega)) ka) hg (G.blt _ (by decide)) (by decide +kernel) (pa_cons A pa_nil st) (pk_cons (pe_glob hg2 m1 (v := .ref fa) rfl hdb2) pk_nil) (by decide) hdb (by rw [st]; rfl) (by rw [st]; rfl)
    refine PE.imp main fun σ H Q ⟨ρ, env, sto, ve, vs, q⟩ => ?_
    unfold pv at q
    refine ⟨ρ, env, sto, ve, vs, Po.mono (Po.bind (P := PR) (P' := PR) q (fun _ _ _ p => p.ext) fun _ _ _ _ e p => p.base e) ?_⟩
    rintro _ v H1 _ _ ⟨x, _, p1, q1⟩
    obtain ⟨t, e1, k1⟩ := pov_no (fun e => srtkT_noex) q1
    obtain ⟨a', ws, kf, rfl, ra, hx, hq⟩ := srtk_ok (K := X.K) p1.sn e1
    exact ⟨a', ws, kf, rfl, rfl, rd_sqL ra, hx, lt, fun ys p q1 q2 np => k1 _ _ (hq ys p q1 q2 np)⟩
  | .dnew, e, h => by
    obtain ⟨p, rfl⟩ := inv_dnew h
    refine PE.imp pe_dnewK fun σ H Q ⟨ρ, env, sto, ve, vs, q⟩ => ?_
    unfold pv at q
    intro p np
    have e := Ext.upd (o := .dK []) np
    refine q _ _ ⟨e, fun b => if b = p then 1 else 0, ?_, fun b => by by_cases q : b = p <;> simp [q], fun b ⟨o, hb⟩ => by simp [ne_of_none hb np]⟩
    simp only [Rp, Bool.false_eq_true, if_false]
    exact ⟨p, [], fun _ => 0, rfl, upd_same, by simp [RpL], fun _ => rfl, ⟨rfl, ⟨rfl, List.Pairwise.nil⟩⟩, fun b => by simp⟩
  | .dis1 k v, e, h => by
    obtain ⟨x, y, p, rfl, h1, h2, h3, h4⟩ := inv_dis1 h
    have A := sE G k x h3
    have B := sE G v y h4
    refine PE.imp (pe_disp (pps_cons A B pps_nil) rfl rfl (by simp) (show 1 ≤ 15 by decide)) fun σ H Q ⟨ρ, env, sto, ve, vs, q⟩ => ?_
    unfold pv at q
    intro p np
    have e := Ext.upd (o := .dK []) np
    refine ⟨ρ, env, sto, ve.ext e, vs.ext e, ?_⟩
    have q' := q
    dsimp only at q' ⊢
    cases e1 : pv cf env sto k with
    | no => rw [e1] at q'; exact q'.elim
    | ex z => rw [e1] at q'; exact fun cls dd H' e' xr => q' cls dd H' (e.trans e') xr
    | ok tk =>
      rw [e1, Rs.bind_ok] at q'
      intro vk H1 p1
      refine ⟨ρ, env, sto, ve.ext (e.trans p1.ext), vs.ext (e.trans p1.ext), ?_⟩
      dsimp only
      cases e2 : pv cf env sto v with
      | no => rw [e2] at q'; exact q'.elim
      | ex z => rw [e2] at q'; exact fun cls dd H' e' xr => q' cls dd H' ((e.trans p1.ext).trans e') xr
      | ok tv =>
        rw [e2, Rs.bind_ok] at q'
        intro vv H2 p2
        cases e3 : keyT tk with
        | none => rw [e3] at q'; exact q'.elim
        | some key =>
          rw [e3] at q'
          have q2 : PoV pd X.mg ρ (fun c d H' => W c d σ H') H (if flat tv = true then .ok (.dic false false [key] [tv]) else .no) Q := q'
          split at q2
          · rename_i hf
            have hk := keyT_ok (Sn.ext p2.ext Pre.refl _ _ p1.sn) e3
            have e12 := (e.trans p1.ext).trans p2.ext
            have hp : H2 p = some (.dK []) := (p1.ext.trans p2.ext) p _ upd_same
            refine ⟨hp, [(key, vv)], by rw [hk]; rfl, by simp, ?_⟩
            have em : mergeK [] [(key, vv)] = [(key, vv)] := by simp [mergeK, putK]
            rw [em]
            have e3' : Ext H (upd H2 p (.dK [(key, vv)])) := fun b o hb => by rw [upd_ne (ne_of_none hb np)]; exact e12 b o hb
            have sv : Sn Top (upd H2 p (.dK [(key, vv)])) ρ tv vv := by
              refine Sn.keep ⟨fun b hb => upd_ne fun z => ?_, fun b xs hb => by rw [upd_ne fun z => by rw [z, hp] at hb; cases hb]; exact hb⟩ Pre.refl (fun _ _ => trivial) tv vv (Sn.flat (F' := fun _ => False) tv vv hf p2.sn)
              exact hb.elim
            refine q2 _ _ ⟨e3', fun b => if b = p then 1 else 0, ?_, fun b => by by_cases q : b = p <;> simp [q], fun b ⟨o, hb⟩ => by simp [ne_of_none hb np]⟩
            simp only [Rp, Bool.false_eq_true, if_false]
            refine ⟨p, [vv], fun _ => 0, rfl, upd_same, ?_, fun _ => by simp [flatL, hf], ⟨by simp [cleanL, clean_of_flat tv hf], ⟨rfl, by simp⟩⟩, fun b => by simp⟩
            simp only [RpL]
            exact ⟨vv, [], fun _ => 0, fun _ => 0, rfl, Sn.rp0 tv vv hf sv, ⟨rfl, fun _ => rfl⟩, fun _ => rfl⟩
          · exact q2.elim
  | .dget d k, e, h => by
    obtain ⟨o, ap, y, pos, rfl, hr, hy, hl, h1, h2⟩ := inv_dget h
    have A := sE G d o h1
    have B := sE G k y h2
    have st := plain_star (xs := []) (env := X.env) hy
    have hm : M1 X o ("get" : Str) ap y pos := ⟨rcv_base hr _ _ _, few_ok rfl st rfl, hl, by show backTo pos (starEach [y] X.env) = _; rw [st]; rfl⟩
    refine PE.imp (pe_dget1 (by have := u65 G.room; omega) A B hm) fun σ H Q ⟨ρ, env, sto, ve, vs, q⟩ => ?_
    unfold pv at q
    refine ⟨ρ, env, sto, ve, vs, Po.mono (Po.bind (P := PR) (P' := PR) q (fun _ _ _ p => p.ext) fun _ _ _ _ e p => p.base e) ?_⟩
    rintro _ v H1 _ _ ⟨x, _, p1, q1⟩
    cases x <;> first | exact q1.elim | skip
    rename_i z n ks ts _
    obtain ⟨a, ws, rfl, ra, la, fa, dk⟩ := sn_dic p1.sn
    refine ⟨a, rfl, .inl ⟨_, ra⟩, ρ, env, sto, ve.ext p1.ext, vs.ext p1.ext, Po.mono (Po.bind (P := PR) (P' := PR) q1 (fun _ _ _ p => p.ext) fun _ _ _ _ e p => p.base e) ?_⟩
    rintro _ w H2 _ _ ⟨y, _, p2, q2⟩
    cases e3 : keyT y with
    | none => rw [e3] at q2; exact q2.elim
    | some key =>
      rw [e3] at q2
      obtain rfl := keyT_ok p2.sn e3
      have la2 := SnL.ext p2.ext (Pre.refl (ρ := ρ)) _ _ la
      obtain ⟨g1, g2⟩ := dget_ok (k := key) la2 dk
      refine ⟨_, .inl ⟨_, key, rd_ext p2.ext ra, rfl, rfl⟩, ?_⟩
      have q3 : PoV pd X.mg ρ (fun c d H' => W c d σ H') H2 (.ok (match dgetT ks ts key with
        | some t => if n then view t else t
        | none => .non)) Q := q2
      cases e4 : dgetT ks ts key with
      | none =>
        rw [e4] at q3
        have hn : kix ks key = none := by
          cases e5 : kix ks key with
          | none => rfl
          | some j =>
            unfold dgetT at e4
            rw [e5] at e4
            have := (kix_lt e5).1
            have : ts[j]? = none := e4
            rw [List.getElem?_eq_none_iff] at this
            have := dk.1
            omega
        rw [hn] at g2
        cases e5 : valV (ks.zip ws) key with
        | some _ => rw [e5] at g2; cases g2
        | none => exact q3 _ _ PR.non
      | some t =>
        rw [e4] at q3
        obtain ⟨u, g3, g4, j, g5⟩ := g1 t e4
        rw [g3]
        refine q3 _ _ ?_
        show PR H2 ρ H2 (if n = true then view t else t) u
        split
        · exact PR.view g4
        · rename_i hn
          exact PR.flat (flatL_get (fa (by simpa using hn)) g5) g4
  | .bm a m as, e, h => by
    obtain ⟨o, ap, args, pos, rfl, hr, hl, hf, h5, h6⟩ := inv_bm h
    have A := sE G a o h5
    have AS := sEs G as _ h6
    have hb := bm_base hr (bmName m) X.env (eval o X.env)
    have key : ∀ t : TA, (∀ σ H Q, tPl pd X.mg W (fun env sto => pvs cf env sto as) σ H Q → t σ H Q) → ∀ σ H Q, tPv pd X.mg W (fun env sto => pv cf env sto (.bm a m as)) σ H Q →
        (tPv pd X.mg W fun env sto => pv cf env sto a) σ H fun x H1 => L2.tyV X.K (bmTy m) x H1 ∧ t σ H1 fun xs H2 => ∃ ρ tx ts t, Sn Top H2 ρ tx x ∧ SnL Top H2 ρ ts xs ∧ bmT m tx ts = .ok t ∧ ∀ u H', PR H2 ρ H' t u → Q u H' := by
      rintro t0 ht σ H Q ⟨ρ, env, sto, ve, vs, q⟩
      unfold pv at q
      refine ⟨ρ, env, sto, ve, vs, Po.mono (Po.bind (P := PR) (P' := PR) q (fun _ _ _ p => p.ext) fun _ _ _ _ e p => p.base e) ?_⟩
      rintro _ v H1 _ _ ⟨x, _, p1, q1⟩
      by_cases c : bmB m x = true
      · rw [if_pos c] at q1
        refine ⟨bm_ty c p1.sn, ht _ _ _ ⟨ρ, env, sto, ve.ext p1.ext, vs.ext p1.ext, Po.mono (Po.bind (P := PRL) (P' := PR) q1 (fun _ _ _ p => p.1) fun _ _ _ _ e p => p.base e) ?_⟩⟩
        rintro _ ws H2 _ _ ⟨ts, _, p2, q2⟩
        obtain ⟨t, e1, k1⟩ := pov_no (fun e => bmT_noex) q2
        exact ⟨ρ, x, ts, t, Sn.ext p2.1 Pre.refl _ _ p1.sn, p2.snl, e1, k1⟩
      · rw [if_neg c] at q1; exact q1.elim
    have M : MtR X (bmId m) (fun x xs H Q => ∃ ρ tx ts t, Sn Top H ρ tx x ∧ SnL Top H ρ ts xs ∧ bmT m tx ts = .ok t ∧ ∀ u H', PR H ρ H' t u → Q u H') := fun pins s σ H x xs v us Q I r rv ⟨ρ, z⟩ => mt_bm (ρ := ρ) m pins s σ H x xs v us Q I r rv z
    cases args with
    | nil =>
      have e0 := chkEs_len h6
      have : as = .nil := by cases as with | nil => rfl | cons _ _ => simp [Es.len] at e0
      subst this
      have B : PE X (.Call (.Attribute o (bmName m) ap) [] [] pos) (tBM0 X.K (bmTy m) (fun x xs H Q => ∃ ρ tx ts t, Sn Top H ρ tx x ∧ SnL Top H ρ ts xs ∧ bmT m tx ts = .ok t ∧ ∀ u H', PR H ρ H' t u → Q u H') (tPv pd X.mg W fun env sto => pv cf env sto a)) := by
        cases m with
        | bitl => exact pe_bm0 PySem.F.plainAttrs_int PyProof.Rows.slot_int_bit_length PyProof.Rows.type_int_bit_length M A hb hl
        | index => exact pe_bm0 PySem.F.plainAttrs_list PySem.F.slot_list_index PySem.F.type_list_index M A hb hl
        | upper => exact pe_bm0 PySem.F.plainAttrs_str PySem.F.slot_str_upper PySem.F.type_str_upper M A hb hl
        | join => exact pe_bm0 PySem.F.plainAttrs_str PySem.F.slot_str_join PySem.F.type_str_join M A hb hl
        | split => exact pe_bm0 PySem.F.plainAttrs_str PySem.F.slot_str_split PySem.F.type_str_split M A hb hl
      refine PE.imp B fun σ H Q z => ?_
      refine (key tNil (fun σ H Q ⟨ρ, env, sto, ve, vs, q⟩ => ?_) σ H Q z)
      unfold pvs at q
      exact q [] H PRL.nil
    | cons x0 xs =>
      have st := plain_starA (xs := xs) (env := X.env) (show plainA x0 = true by
        cases as with
        | nil => simp only [chkEs, Bool.false_eq_true] at h6
        | cons a as => simp only [chkEs, Bool.and_eq_true] at h6; exact h6.1.1)
      have hs := chkEs_star h6 X.env
      rw [st] at hs
      have hs' := back_star (pos := pos) (show (starEach xs X.env).any (·.1) = false by simpa using hs)
      have hfw := few_ok (pos := pos) hf st hs
      have B : PE X (.Call (.Attribute o (bmName m) ap) (x0 :: xs) [] pos) (tBM X.K (bmTy m) (fun x xs H Q => ∃ ρ tx ts t, Sn Top H ρ tx x ∧ SnL Top H ρ ts xs ∧ bmT m tx ts = .ok t ∧ ∀ u H', PR H ρ H' t u → Q u H') (tPv pd X.mg W fun env sto => pv cf env sto a) (tPl pd X.mg W fun env sto => pvs cf env sto as)) := by
        cases m with
        | bitl => exact pe_bm PySem.F.plainAttrs_int PyProof.Rows.slot_int_bit_length PyProof.Rows.type_int_bit_length M A AS hb hfw hl st hs'
        | index => exact pe_bm PySem.F.plainAttrs_list PySem.F.slot_list_index PySem.F.type_list_index M A AS hb hfw hl st hs'
        | upper => exact pe_bm PySem.F.plainAttrs_str PySem.F.slot_str_upper PySem.F.type_str_upper M A AS hb hfw hl st hs'
        | join => exact pe_bm PySem.F.plainAttrs_str PySem.F.slot_str_join PySem.F.type_str_join M A AS hb hfw hl st hs'
        | split => exact pe_bm PySem.F.plainAttrs_str PySem.F.slot_str_split PySem.F.type_str_split M A AS hb hfw hl st hs'
      exact PE.imp B (key _ fun σ H Q z => z)
  | .isi a t, e, h => by
    obtain ⟨p, y, q, pos, rfl, h1, h2, h3, h4⟩ := inv_isi h
    obtain ⟨hg, hdb⟩ := gl_of G h1
    obtain ⟨hg2, hdb2⟩ := gl_of G h2
    have A := sE G a y h4
    have B : PE X (.Name (Str.ofString (pyTy t)) q) (tC (.ty (pyTy t))) := by
      cases t <;> exact pe_bltn hg2 (G.blt _ (by decide)) (u := .type _) (by decide +kernel) rfl (by decide) hdb2
    have st := plain_star (xs := [.Name (Str.ofString (pyTy t)) q]) (env := X.env) h3
    refine PE.imp (pe_callB call_isi hg (G.blt _ (by decide)) (by decide +kernel) (pa_cons A (pa_cons B pa_nil rfl) st) (by decide) hdb st rfl) fun σ H Q ⟨ρ, env, sto, ve, vs, q⟩ => ?_
    unfold pv at q
    refine ⟨ρ, env, sto, ve, vs, Po.mono (Po.bind (P := PR) (P' := PR) q (fun _ _ _ p => p.ext) fun _ _ _ _ e p => p.base e) ?_⟩
    rintro _ v H1 _ _ ⟨x, _, p1, q1⟩
    cases e1 : isaB x t with
    | none => rw [e1] at q1; exact q1.elim
    | some b =>
      rw [e1] at q1
      obtain ⟨k1, k2⟩ := isa_ok (K := X.K) p1.sn e1
      exact ⟨v, _, _, _, b, rfl, .ty _, k1, k2, q1 _ _ PR.bl⟩
  | .ix a i, e, h => by
    obtain ⟨x, y, p, rfl, h0, h1, h2⟩ := inv_ix h
    have A := sE G a x h1
    have B := sE G i y h2
    refine ⟨fun pins s σ H Q I ⟨ρ, env, sto, ve, vs, q⟩ => ?_⟩
    unfold pv at q
    refine (pe_ix (ix_ok (ρ := ρ) (by have := u65 G.room; omega)) A B (plain_ix h0)).run pins s σ H Q I (po2 (fun env sto => pv cf env sto a) (fun env sto => pv cf env sto i) ixT (fun _ _ _ => ixT_noex) ve vs q)
  | .slc a lo hi, e, h => by
    obtain ⟨x, l, u, p2, p, rfl, h1, h2, h3⟩ := inv_slc h
    have A := sE G a x h1
    have L := sO G lo l h2
    have U := sO G hi u h3
    have main := pe_slice (X := X) (pos := p) (p2 := p2) (r := fun v lo hi H Q => ∃ ρ x t, Sn Top H ρ x v ∧ slcT x lo hi = .ok t ∧ ∀ u H', PR H ρ H' t u → Q u H')
      (fun pins s σ H v u1 vl vu lo hi sl Q I r1 hs pl pu ⟨ρ, z⟩ => sl_ok (ρ := ρ) pins s σ H v u1 vl vu lo hi sl Q I r1 hs pl pu z) A L U
    refine PE.imp main fun σ H Q ⟨ρ, env, sto, ve, vs, q⟩ => ?_
    unfold pv at q
    refine ⟨ρ, env, sto, ve, vs, Po.mono (Po.bind (P := PR) (P' := PR) q (fun _ _ _ p => p.ext) fun _ _ _ _ e p => p.base e) ?_⟩
    rintro _ v H1 _ _ ⟨x, _, p1, q1⟩
    refine ⟨ρ, env, sto, ve.ext p1.ext, vs.ext p1.ext, Po.mono (Po.bind (P := fun H _ H' o o' => Ext H H' ∧ o = o') (P' := PR) q1 (fun _ _ _ p => p.1) fun _ _ _ _ e p => p.base e) ?_⟩
    rintro _ l' H2 _ _ ⟨l, _, ⟨e2, rfl⟩, q2⟩
    have e12 := p1.ext.trans e2
    refine ⟨ρ, env, sto, ve.ext e12, vs.ext e12, Po.mono (Po.bind (P := fun H _ H' o o' => Ext H H' ∧ o = o') (P' := PR) q2 (fun _ _ _ p => p.1) fun _ _ _ _ e p => p.base e) ?_⟩
    rintro _ u' H3 _ _ ⟨u, _, ⟨e3, rfl⟩, q3⟩
    obtain ⟨t, e4, k4⟩ := pov_no (fun e => slcT_noex) q3
    exact ⟨ρ, x, t, Sn.ext (e2.trans e3) Pre.refl _ _ p1.sn, e4, k4⟩
  | .tup as, e, h => by
    obtain ⟨es, k, p, rfl, h1⟩ := inv_tup h
    have AS := sEs G as es h1
    refine PE.imp (pe_tup AS) fun σ H Q ⟨ρ, env, sto, ve, vs, q⟩ => ?_
    unfold pv at q
    cases e1 : pvs cf env sto as with
    | no => dsimp only at q; rw [e1] at q; exact q.elim
    | ex z => dsimp only at q; rw [e1] at q; exact ⟨ρ, env, sto, ve, vs, by dsimp only; rw [e1]; exact q⟩
    | ok ts =>
      dsimp only at q
      rw [e1, Rs.bind_ok] at q
      refine ⟨ρ, env, sto, ve, vs, ?_⟩
      dsimp only
      rw [e1]
      intro ws H1 p1
      split at q
      · rename_i hz
        have hl := p1.snl.length
        refine ⟨by rw [hl, sizeLine_eq]; omega, fun a na => q _ _ ?_⟩
        obtain ⟨e2, f, r, l1, d1⟩ := p1
        have eu := Ext.upd (o := .tup ws) na
        refine ⟨e2.trans eu, f, ?_, l1, d1⟩
        simp only [Rp]
        exact ⟨a, ws, rfl, upd_same, RpL.ext eu Pre.refl ts ws f r⟩
      · exact q.elim
  | .lst as, e, h => by
    obtain ⟨es, p, rfl, h1⟩ := inv_lst h
    have AS := sEs G as es h1
    refine PE.imp (pe_lst AS) fun σ H Q ⟨ρ, env, sto, ve, vs, q⟩ => ?_
    unfold pv at q
    cases e1 : pvs cf env sto as with
    | no => dsimp only at q; rw [e1] at q; exact q.elim
    | ex z => dsimp only at q; rw [e1] at q; exact ⟨ρ, env, sto, ve, vs, by dsimp only; rw [e1]; exact q⟩
    | ok ts =>
      dsimp only at q
      rw [e1, Rs.bind_ok] at q
      refine ⟨ρ, env, sto, ve, vs, ?_⟩
      dsimp only
      rw [e1]
      intro ws H1 p1
      split at q
      · rename_i hz
        simp only [Bool.and_eq_true, decide_eq_true_eq] at hz
        have hl := p1.snl.length
        refine ⟨by rw [hl, sizeLine_eq]; omega, fun a na => q _ _ ?_⟩
        obtain ⟨e2, f, r, l1, d1⟩ := p1
        have eu := Ext.upd (o := .lst ws) na
        have fa : f a = 0 := by
          by_cases z : f a = 0
          · exact z
          · obtain ⟨vs', z'⟩ := RpL.in_ ts ws f r a z
            rw [na] at z'; cases z'
        refine ⟨e2.trans eu, fun b => f b + (if b = a then 1 else 0), ?_, fun b => ?_, fun b hb => ?_⟩
        · simp only [Rp, Bool.false_eq_true, if_false]
          exact ⟨a, ws, f, rfl, upd_same, RpL.ext eu Pre.refl ts ws f r, fun z => by simpa using z, hz.2, fun _ => rfl⟩
        · by_cases z : b = a
          · subst z; simp [fa]
          · simp [z]; exact l1 b
        · have z : b ≠ a := fun z => by obtain ⟨o, ho⟩ := e2.dom hb; rw [z, na] at ho; cases ho
          simp [z]; exact d1 b hb
      · exact q.elim
  | .lc v it tst elt, e, h => by
    obtain ⟨x, t, tp, iter, ifs, scope, pos, rfl, h0, h1, h2, h3, h4, h5⟩ := inv_lc h
    have I1 := sE G it iter h1
    have Gb := fun s H C cl fp => G.blk (s := s) (H := H) (scope := scope) (cl := cl) (C := C) (fp := fp)
    have te : ∀ (s : Shared) (H : Hp) (C : Addr) (cl : List (Str × Addr)) (fp : List Addr), PE (X.blk s H scope (compEnvC scope cl C X.env) fp) x (tPv pd X.mg W0 fun env sto => pv cf env sto elt) := fun s H C cl fp => sE (Gb s H C cl fp) elt x h5
    have tt : ∀ (s : Shared) (H : Hp) (C : Addr) (cl : List (Str × Addr)) (fp : List Addr), PTs (X.blk s H scope (compEnvC scope cl C X.env) fp) ifs (tTst pd X.mg cf tst ifs) := fun s H C cl fp => by
      rcases tstB_cases h4 with rfl | ⟨c, rfl, c1, c2⟩
      · exact pts_nil
      · exact pts_one (sT (Gb s H C cl fp) tst c c1 c2)
    refine ⟨fun pins s σ H Q I q => ?_⟩
    have hn : X.N[v]? = some t := by rw [G.nm]; exact blk_ix h2
    refine (pe_lc (own := [(t, v)]) G.calm G.nd (pi_seq I1) (blkOk_by (by rw [G.nm, G.sc_]; exact h2)) (fun s H C cl fp => pg_name (i := v) G.nd hn (.inl (blk_loc G h3)) (.inr (blk_loc G h3))) tt te (plain_fold h0 _)).run pins s σ H Q I ?_
    exact lc_read (by rw [I.len]; exact (List.getElem?_eq_some_iff.mp hn).1) h4 q
  | .lcr v lo hi tst elt, e, h => by
    obtain ⟨x, t, tp, rp, args, cpos, ifs, scope, pos, rfl, hg, ha, h2, h3, h4, h5⟩ := inv_lcr h
    obtain ⟨gg, _⟩ := gl_of G hg
    have hm := G.blt ("range" : Str) (by simp [bltNames])
    have Gb := fun s H C cl fp => G.blk (s := s) (H := H) (scope := scope) (cl := cl) (C := C) (fp := fp)
    have te : ∀ (s : Shared) (H : Hp) (C : Addr) (cl : List (Str × Addr)) (fp : List Addr), PE (X.blk s H scope (compEnvC scope cl C X.env) fp) x (tPv pd X.mg W0 fun env sto => pv cf env sto elt) := fun s H C cl fp => sE (Gb s H C cl fp) elt x h5
    have tt : ∀ (s : Shared) (H : Hp) (C : Addr) (cl : List (Str × Addr)) (fp : List Addr), PTs (X.blk s H scope (compEnvC scope cl C X.env) fp) ifs (tTst pd X.mg cf tst ifs) := fun s H C cl fp => by
      rcases tstB_cases h4 with rfl | ⟨c, rfl, c1, c2⟩
      · exact pts_nil
      · exact pts_one (sT (Gb s H C cl fp) tst c c1 c2)
    refine ⟨fun pins s σ H Q I q => ?_⟩
    have hn : X.N[v]? = some t := by rw [G.nm]; exact blk_ix h2
    have hv : v < σ.length := by rw [I.len]; exact (List.getElem?_eq_some_iff.mp hn).1
    rcases ha with ⟨b, rfl, rfl, b1, b2⟩ | ⟨a, b, rfl, a1, b1, a2, b2⟩
    · have st2 := plain_star (xs := []) (env := X.env) b1
      exact (pe_lc (own := [(t, v)]) G.calm G.nd (pi_range1 gg hm (pa_cons (sE G hi b b2) pa_nil st2) st2) (blkOk_by (by rw [G.nm, G.sc_]; exact h2)) (fun s H C cl fp => pg_name (i := v) G.nd hn (.inl (blk_loc G h3)) (.inr (blk_loc G h3))) tt te).run pins s σ H Q I (lc_readr1 hv h4 q)
    · have st1 := plain_star (xs := [b]) (env := X.env) a1
      have st2 := plain_star (xs := []) (env := X.env) b1
      exact (pe_lc (own := [(t, v)]) G.calm G.nd (pi_range2 gg hm (pa_cons (sE G lo a a2) (pa_cons (sE G hi b b2) pa_nil st2) st1) (st1.trans (by rw [st2]; rfl)) st2) (blkOk_by (by rw [G.nm, G.sc_]; exact h2)) (fun s H C cl fp => pg_name (i := v) G.nd hn (.inl (blk_loc G h3)) (.inr (blk_loc G h3))) tt te).run pins s σ H Q I (lc_readr2 hv h4 q)
termination_by d e => (sizeOf d, 0)
theorem sEs {sc : Scope} {W : WX} {X : Cx} (G : Gd X pd Nm sc cf k W) : ∀ (ds : Es) (es : List Expr), chkEs pd Nm sc ds es = true → PA X es (tPl pd X.mg W fun env sto => pvs cf env sto ds)
  | .nil, es, h => by
    obtain rfl := inv_nil h
    refine PA.imp pa_nil fun σ H Q ⟨ρ, env, sto, ve, vs, q⟩ => ?_
    unfold pvs at q
    exact q _ _ PRL.nil
  | .cons a as, es, h => by
    obtain ⟨x, xs, rfl, h0, h1, h2⟩ := inv_cons h
    have A := sE G a x h1
    have B := sEs G as xs h2
    refine PA.imp (pa_cons A B (plain_starA h0)) fun σ H Q ⟨ρ, env, sto, ve, vs, q⟩ => ?_
    unfold pvs at q
    dsimp only at q
    cases e1 : pv cf env sto a with
    | no => rw [e1] at q; exact q.elim
    | ex z => rw [e1] at q; exact ⟨ρ, env, sto, ve, vs, by dsimp only; rw [e1]; exact q⟩
    | ok t =>
      rw [e1, Rs.bind_ok] at q
      refine ⟨ρ, env, sto, ve, vs, ?_⟩
      dsimp only
      rw [e1]
      intro v H1 p1
      refine ⟨ρ, env, sto, ve.ext p1.ext, vs.ext p1.ext, ?_⟩
      dsimp only
      cases e2 : pvs cf env sto as with
      | no => rw [e2] at q; exact q.elim
      | ex z => rw [e2] at q; exact fun cls d H' e => q cls d H' (p1.ext.trans e)
      | ok ts =>
        rw [e2, Rs.bind_ok] at q
        exact fun ws H2 p2 => q _ _ (PRL.cons p1 p2)
termination_by d e => (sizeOf d, 0)
theorem sO {sc : Scope} {W : WX} {X : Cx} (G : Gd X pd Nm sc cf k W) : ∀ (d : OE) (o : Option Expr), chkO pd Nm sc d o = true → PO X o (tPo pd X.mg W fun env sto => pvo cf env sto d)
  | .none, o, h => by
    obtain rfl := inv_onone h
    refine ⟨fun pins s σ H Q I ⟨ρ, env, sto, ve, vs, q⟩ => po_none.run pins s σ H Q I ?_⟩
    unfold pvo at q
    exact q _ _ ⟨Ext.refl, rfl⟩
  | .some a, o, h => by
    obtain ⟨x, rfl, h1⟩ := inv_osome h
    have A := sE G a x h1
    refine ⟨fun pins s σ H Q I ⟨ρ, env, sto, ve, vs, q⟩ => (po_some A).run pins s σ H Q I ?_⟩
    unfold pvo at q
    refine ⟨ρ, env, sto, ve, vs, Po.mono (Po.bind (P := PR) (P' := fun H _ H' o o' => Ext H H' ∧ o = o') q (fun _ _ _ p => p.ext) fun _ _ _ _ e p => ⟨e.trans p.1, p.2⟩) ?_⟩
    rintro _ v H1 _ _ ⟨x, _, p1, q1⟩
    cases x <;> first | exact q1.elim | skip
    obtain rfl := sn_int p1.sn
    exact ⟨_, rfl, q1 _ _ ⟨Ext.refl, rfl⟩⟩
termination_by d e => (sizeOf d, 0)
theorem sT {sc : Scope} {W : WX} {X : Cx} (G : Gd X pd Nm sc cf k W) : ∀ (d : E) (e : Expr), tstX e = true → chkE pd Nm sc d e = true → PT X e (tPb pd X.mg W fun env sto => tv cf env sto d)
  | .var i, e, h0, h => by
    have A := sE G _ e h
    obtain ⟨x, p, rfl, _⟩ := inv_var h
    exact tst_def A fun _ => rfl
  | .int i, e, h0, h => by
    have A := sE G _ e h
    obtain ⟨j, p, rfl⟩ := inv_int h
    exact tst_def A fun _ => rfl
  | .str i, e, h0, h => by
    have A := sE G _ e h
    obtain ⟨j, p, rfl⟩ := inv_str h
    exact tst_def A fun _ => rfl
  | .bl i, e, h0, h => by
    have A := sE G _ e h
    obtain ⟨j, p, rfl⟩ := inv_bl h
    exact tst_def A fun _ => rfl
  | .non, e, h0, h => by
    have A := sE G _ e h
    obtain ⟨j, p, rfl⟩ := inv_non h
    exact tst_def A fun _ => rfl
  | .bin op a b, e, h0, h => by
    have A := sE G _ e h
    obtain ⟨x, y, p, rfl, _⟩ := inv_bin h
    exact tst_def A fun _ => rfl
  | .neg a, e, h0, h => by
    have A := sE G _ e h
    obtain ⟨x, p, rfl, _⟩ := inv_neg h
    exact tst_def A fun _ => rfl
  | .not a, e, h0, h => by
    obtain ⟨x, p, rfl, h1, h2⟩ := inv_not h
    have A := sT G a x h1 h2
    refine PT.imp (pt_not A) fun σ H Q ⟨ρ, env, sto, ve, vs, q⟩ => ?_
    unfold tv at q
    refine ⟨ρ, env, sto, ve, vs, Po.mono (Po.bind (P := PB) (P' := PB) q (fun _ _ _ p => p.1) fun _ _ _ _ e p => ⟨e.trans p.1, p.2⟩) ?_⟩
    rintro _ c H1 _ _ ⟨b, _, ⟨e1, rfl⟩, q1⟩
    exact q1 _ _ ⟨Ext.refl, rfl⟩
  | .and a b, e, h0, h => by
    obtain ⟨x, y, r, p, rfl, h0, h1, h2⟩ := inv_and h
    exact (sW G (.and a b) _ h rfl).pt
  | .or a b, e, h0, h => by
    obtain ⟨x, y, r, p, rfl, h0, h1, h2⟩ := inv_or h
    exact (sW G (.or a b) _ h rfl).pt
  | .cmp op a b, e, h0, h => by
    obtain ⟨x, y, p, rfl, n1, h1, h2⟩ := inv_cmp h
    have A := sE G a x h1
    have B := sE G b y h2
    have hu : X.A.units + 65 < cLine := u65 G.room
    refine ⟨fun pins s σ H Q I ⟨ρ, env, sto, ve, vs, q⟩ => (pt_cmpR (cmp_ok (ρ := ρ) hu op) A B n1).run pins s σ H Q I ?_⟩
    unfold tv pv at q
    refine po2 (fun env sto => pv cf env sto a) (fun env sto => pv cf env sto b) (cmpT op) (fun _ _ _ => cmpT_noex) ve vs ?_
    refine Po.mono (Po.bind (P := PR) (P' := PB) q (fun _ _ _ p => p.ext) fun _ _ _ _ e p => ⟨e.trans p.1, p.2⟩) ?_
    rintro _ v H1 _ _ ⟨x, ex, p1, q1⟩
    obtain ⟨a', _, ex⟩ := bind_inv ex
    obtain ⟨b', _, ex⟩ := bind_inv ex
    obtain ⟨c, rfl⟩ := cmpT_bl ex
    obtain rfl := sn_bl p1.sn
    exact ⟨c, rfl, q1 _ _ ⟨Ext.refl, rfl⟩⟩
  | .chain o1 o2 a b c, e, h0, h => by
    obtain ⟨x, y, z, p, rfl, n1, n2, n3, n4, py, pz, h1, h2, h3⟩ := inv_chain h
    have A := sE G a x h1
    have B := sE G b y h2
    have C := sE G c z h3
    have hu : X.A.units + 65 < cLine := u65 G.room
    have hm : lastMarks [pyCmp o1, pyCmp o2] [y, z] = false := plain_behind pz
    refine ⟨fun pins s σ H Q I ⟨ρ, env, sto, ve, vs, q⟩ => (pt_chain (cmp_ok (ρ := ρ) hu o1) (cmp_ok (ρ := ρ) hu o2) A B C hm).run pins s σ H Q I ?_⟩
    unfold tv pv at q
    refine pochain (fun env sto => pv cf env sto a) (fun env sto => pv cf env sto b) (fun env sto => pv cf env sto c) o1 o2 ve vs ?_
    refine Po.mono (Po.bind (P := PR) (P' := PB) q (fun _ _ _ p => p.ext) fun _ _ _ _ e p => ⟨e.trans p.1, p.2⟩) ?_
    rintro _ v H1 _ _ ⟨x, ex, p1, q1⟩
    obtain ⟨a', _, ex⟩ := bind_inv ex
    obtain ⟨b', _, ex⟩ := bind_inv ex
    obtain ⟨r', er, ex⟩ := bind_inv ex
    obtain ⟨c', rfl⟩ := cmpT_bl er
    have : ∃ c, x = .bl c := by
      cases c' with
      | false => injection ex with ex; exact ⟨_, ex.symm⟩
      | true =>
        obtain ⟨z', _, ex⟩ := bind_inv ex
        exact cmpT_bl ex
    obtain ⟨c2, rfl⟩ := this
    obtain rfl := sn_bl p1.sn
    exact ⟨c2, rfl, q1 _ _ ⟨Ext.refl, rfl⟩⟩
  | .ite c a b, e, h0, h => by
    obtain ⟨t, x, y, p, rfl, _⟩ := inv_ite h
    exact absurd h0 Bool.false_ne_true
  | .call f as, e, h0, h => by
    have A := sE G _ e h
    rcases inv_call h with ⟨x, p, args, pos, rfl, _⟩ | ⟨p, y, z, qp, pos, c, d, cs, rfl, _⟩ <;> exact tst_def A fun _ => rfl
  | .meth a m as, e, h0, h => by
    have A := sE G _ e h
    obtain ⟨o, ap, args, pos, d, l, rfl, _⟩ := inv_meth h
    exact tst_def A fun _ => rfl
  | .fld a n, e, h0, h => by
    have A := sE G _ e h
    obtain ⟨o, p, rfl, _⟩ := inv_fld h
    exact tst_def A fun _ => rfl
  | .blt f as, e, h0, h => by
    have A := sE G _ e h
    obtain ⟨p, args, pos, rfl, _⟩ := inv_blt h
    exact tst_def A fun _ => rfl
  | .isi a t, e, h0, h => by
    have A := sE G _ e h
    obtain ⟨p, y, q, pos, rfl, _⟩ := inv_isi h
    exact tst_def A fun _ => rfl
  | .srtk f j a, e, h0, h => by
    have A := sE G _ e h
    obtain ⟨p, y, z, zp, kp, pos, rfl, _⟩ := inv_srtk h
    exact tst_def A fun _ => rfl
  | .dnew, e, h0, h => by
    obtain ⟨p, rfl⟩ := inv_dnew h
    exact absurd h0 Bool.false_ne_true
  | .dis1 k v, e, h0, h => by
    obtain ⟨x, y, p, rfl, _⟩ := inv_dis1 h
    exact absurd h0 Bool.false_ne_true
  | .dget d k, e, h0, h => by
    have A := sE G _ e h
    obtain ⟨o, ap, y, pos, rfl, _⟩ := inv_dget h
    exact tst_def A fun _ => rfl
  | .bm a m as, e, h0, h => by
    have A := sE G _ e h
    obtain ⟨o, ap, args, pos, rfl, _⟩ := inv_bm h
    exact tst_def A fun _ => rfl
  | .ix a i, e, h0, h => by
    have A := sE G _ e h
    obtain ⟨x, y, p, rfl, _⟩ := inv_ix h
    exact tst_def A fun _ => rfl
  | .slc a lo hi, e, h0, h => by
    have A := sE G _ e h
    obtain ⟨x, l, u, p2, p, rfl, _⟩ := inv_slc h
    exact tst_def A fun _ => rfl
  | .tup as, e, h0, h => by
    have A := sE G _ e h
    obtain ⟨es, k, p, rfl, _⟩ := inv_tup h
    exact tst_def A fun _ => rfl
  | .lst as, e, h0, h => by
    have A := sE G _ e h
    obtain ⟨es, p, rfl, _⟩ := inv_lst h
    exact tst_def A fun _ => rfl
  | .lc v it tst elt, e, h0, h => by
    obtain ⟨x, t, tp, iter, ifs, scope, pos, rfl, _⟩ := inv_lc h
    exact absurd h0 Bool.false_ne_true
  | .lcr v lo hi tst elt, e, h0, h => by
    obtain ⟨x, t, tp, rp, args, cpos, ifs, scope, pos, rfl, _⟩ := inv_lcr h
    exact absurd h0 Bool.false_ne_true
termination_by d e => (sizeOf d, 2)
theorem sW {sc : Scope} {W : WX} {X : Cx} (G : Gd X pd Nm sc cf k W) : ∀ (d : E) (e : Expr), chkE pd Nm sc d e = true → isAO d = true → PW X e (tPb pd X.mg W fun env sto => tv cf env sto d)
  | .and a b, e, h, _ => by
    obtain ⟨x, y, r, p, rfl, h0, h1, h2⟩ := inv_and h
    have A := sT G a x h0 h1
    have B : PW X (.BoolOp .And (y :: r) p) (tPb pd X.mg W fun env sto => tv cf env sto b) := by
      rcases h2 with ⟨rfl, h3, h2⟩ | ⟨z, r', rfl, h2⟩
      · exact pw_and1 (sT G b y h3 h2)
      · exact sW G b _ h2 (isAO_of h2 (by first | exact .inl rfl | exact .inr rfl))
    refine PW.imp (pw_and A B) fun σ H Q ⟨ρ, env, sto, ve, vs, q⟩ => ?_
    unfold tv at q
    refine ⟨ρ, env, sto, ve, vs, Po.mono (Po.bind (P := PB) (P' := PB) q (fun _ _ _ p => p.1) fun _ _ _ _ e p => ⟨e.trans p.1, p.2⟩) ?_⟩
    rintro _ c H1 _ _ ⟨b', _, ⟨e1, rfl⟩, q1⟩
    cases b' with
    | true => rw [if_pos rfl] at q1 ⊢; exact ⟨ρ, env, sto, ve.ext e1, vs.ext e1, q1⟩
    | false => rw [if_neg Bool.false_ne_true] at q1 ⊢; exact q1 _ _ ⟨Ext.refl, rfl⟩
  | .or a b, e, h, _ => by
    obtain ⟨x, y, r, p, rfl, h0, h1, h2⟩ := inv_or h
    have A := sT G a x h0 h1
    have B : PW X (.BoolOp .Or (y :: r) p) (tPb pd X.mg W fun env sto => tv cf env sto b) := by
      rcases h2 with ⟨rfl, h3, h2⟩ | ⟨z, r', rfl, h2⟩
      · exact pw_or1 (sT G b y h3 h2)
      · exact sW G b _ h2 (isAO_of h2 (by first | exact .inl rfl | exact .inr rfl))
    refine PW.imp (pw_or A B) fun σ H Q ⟨ρ, env, sto, ve, vs, q⟩ => ?_
    unfold tv at q
    refine ⟨ρ, env, sto, ve, vs, Po.mono (Po.bind (P := PB) (P' := PB) q (fun _ _ _ p => p.1) fun _ _ _ _ e p => ⟨e.trans p.1, p.2⟩) ?_⟩
    rintro _ c H1 _ _ ⟨b', _, ⟨e1, rfl⟩, q1⟩
    cases b' with
    | true => rw [if_pos rfl] at q1 ⊢; exact q1 _ _ ⟨Ext.refl, rfl⟩
    | false => rw [if_neg Bool.false_ne_true] at q1 ⊢; exact ⟨ρ, env, sto, ve.ext e1, vs.ext e1, q1⟩
termination_by d e => (sizeOf d, 1)
end
/-- a comprehension, by its parts -/
def LcOk (X : Cx) (pd : Pd) (cf : CF) (W : WX) (d : E) (e : Expr) : Prop := ∃ elt t tp iter ifs scope pos v wi tt te, e = .ListComp elt [⟨.Name t tp, iter, ifs, 0⟩] scope pos ∧ PI X (.Name t tp) iter wi ∧ BlkOk X.N X.env.scope scope [(t, v)] ∧
  (∀ (s : Shared) (H : Hp) (C : Addr) (cl : List (Str × Addr)) (fp : List Addr), PG (X.blk s H scope (compEnvC scope cl C X.env) fp) (.Name t tp) (gName v)) ∧
  (∀ (s : Shared) (H : Hp) (C : Addr) (cl : List (Str × Addr)) (fp : List Addr), PTs (X.blk s H scope (compEnvC scope cl C X.env) fp) ifs tt) ∧
  (∀ (s : Shared) (H : Hp) (C : Addr) (cl : List (Str × Addr)) (fp : List Addr), PE (X.blk s H scope (compEnvC scope cl C X.env) fp) elt te) ∧ (∀ x, foldedSetIterable iter X.env x = pure x) ∧
  ∀ σ H Q, σ.length = X.N.length → tPv pd X.mg W (fun env sto => pv cf env sto d) σ H Q → tLc wi (gName v) tt te [v] σ H Q
theorem sLc {sc : Scope} {W : WX} {X : Cx} (G : Gd X pd Nm sc cf k W) {v it tst elt e} (h : chkE pd Nm sc (.lc v it tst elt) e = true) : LcOk X pd cf W (.lc v it tst elt) e := by
  obtain ⟨x, t, tp, iter, ifs, scope, pos, rfl, h0, h1, h2, h3, h4, h5⟩ := inv_lc h
  have Gb := fun s H C cl fp => G.blk (s := s) (H := H) (scope := scope) (cl := cl) (C := C) (fp := fp)
  have hn : X.N[v]? = some t := by rw [G.nm]; exact blk_ix h2
  refine ⟨x, t, tp, iter, ifs, scope, pos, v, _, tTst pd X.mg cf tst ifs, tPv pd X.mg W0 fun env sto => pv cf env sto elt, rfl, pi_seq (sE G it iter h1), blkOk_by (by rw [G.nm, G.sc_]; exact h2), fun s H C cl fp => pg_name (i := v) G.nd hn (.inl (blk_loc G h3)) (.inr (blk_loc G h3)), fun s H C cl fp => ?_, fun s H C cl fp => sE (Gb s H C cl fp) elt x h5, plain_fold h0 _,
    fun σ H Q hl q => lc_read (by rw [hl]; exact (List.getElem?_eq_some_iff.mp hn).1) h4 q⟩
  rcases tstB_cases h4 with rfl | ⟨c, rfl, c1, c2⟩
  · exact pts_nil
  · exact pts_one (sT (Gb s H C cl fp) tst c c1 c2)
theorem sLcr {sc : Scope} {W : WX} {X : Cx} (G : Gd X pd Nm sc cf k W) {v lo hi tst elt e} (h : chkE pd Nm sc (.lcr v lo hi tst elt) e = true) : LcOk X pd cf W (.lcr v lo hi tst elt) e := by
  obtain ⟨x, t, tp, rp, args, cpos, ifs, scope, pos, rfl, hg, ha, h2, h3, h4, h5⟩ := inv_lcr h
  obtain ⟨gg, _⟩ := gl_of G hg
  have hm := G.blt ("range" : Str) (by simp [bltNames])
  have Gb := fun s H C cl fp => G.blk (s := s) (H := H) (scope := scope) (cl := cl) (C := C) (fp := fp)
  have hn : X.N[v]? = some t := by rw [G.nm]; exact blk_ix h2
  have tt : ∀ (s : Shared) (H : Hp) (C : Addr) (cl : List (Str × Addr)) (fp : List Addr), PTs (X.blk s H scope (compEnvC scope cl C X.env) fp) ifs (tTst pd X.mg cf tst ifs) := fun s H C cl fp => by
    rcases tstB_cases h4 with rfl | ⟨c, rfl, c1, c2⟩
    · exact pts_nil
    · exact pts_one (sT (Gb s H C cl fp) tst c c1 c2)
  rcases ha with ⟨b, rfl, rfl, b1, b2⟩ | ⟨a, b, rfl, a1, b1, a2, b2⟩
  · have st2 := plain_star (xs := []) (env := X.env) b1
    exact ⟨x, t, tp, _, ifs, scope, pos, v, _, tTst pd X.mg cf tst ifs, tPv pd X.mg W0 fun env sto => pv cf env sto elt, rfl, pi_range1 gg hm (pa_cons (sE G hi b b2) pa_nil st2) st2, blkOk_by (by rw [G.nm, G.sc_]; exact h2), fun s H C cl fp => pg_name (i := v) G.nd hn (.inl (blk_loc G h3)) (.inr (blk_loc G h3)), tt, fun s H C cl fp => sE (Gb s H C cl fp) elt x h5, fun _ => rfl,
      fun σ H Q hl q => lc_readr1 (by rw [hl]; exact (List.getElem?_eq_some_iff.mp hn).1) h4 q⟩
  · have st1 := plain_star (xs := [b]) (env := X.env) a1
    have st2 := plain_star (xs := []) (env := X.env) b1
    exact ⟨x, t, tp, _, ifs, scope, pos, v, _, tTst pd X.mg cf tst ifs, tPv pd X.mg W0 fun env sto => pv cf env sto elt, rfl, pi_range2 gg hm (pa_cons (sE G lo a a2) (pa_cons (sE G hi b b2) pa_nil st2) st1) (st1.trans (by rw [st2]; rfl)) st2, blkOk_by (by rw [G.nm, G.sc_]; exact h2), fun s H C cl fp => pg_name (i := v) G.nd hn (.inl (blk_loc G h3)) (.inr (blk_loc G h3)), tt, fun s H C cl fp => sE (Gb s H C cl fp) elt x h5, fun _ => rfl,
      fun σ H Q hl q => lc_readr2 (by rw [hl]; exact (List.getElem?_eq_some_iff.mp hn).1) h4 q⟩
end
end Tr
/-! TrState: the names' trees, the kept values, the objects, and what is known of the heap. -/
namespace Tr
open PySem PySem.Spec PyProof.Rows L2
section
variable (F : As) (H : Hp) (ρ : List Addr)
def EnvR : En → L2.St → Fp → Prop
  | [], σ, f => σ = [] ∧ ∀ b, f b = 0
  | none :: env, σ, f => ∃ w σ', σ = w :: σ' ∧ EnvR env σ' f
  | some t :: env, σ, f => ∃ v σ' f1 f2, σ = some v :: σ' ∧ Rp F H ρ t v f1 ∧ EnvR env σ' f2 ∧ ∀ b, f b = f1 b + f2 b
end
section
variable {F F' : As} {H H' : Hp} {ρ ρ' : List Addr}
theorem EnvR.len : ∀ {env : En} {σ : L2.St} {f : Fp}, EnvR F H ρ env σ f → σ.length = env.length
  | [], σ, f, h => by rw [h.1]; rfl
  | none :: env, σ, f, h => by
    obtain ⟨w, σ', rfl, h⟩ := h
    simp [h.len]
  | some t :: env, σ, f, h => by
    obtain ⟨v, σ', f1, f2, rfl, _, h, _⟩ := h
    simp [h.len]
theorem EnvR.keep (k : Kp F H H') (p : Pre ρ ρ') (s : ∀ a, F a → F' a) : ∀ {env : En} {σ : L2.St} {f : Fp}, (∀ a, f a ≠ 0 → H' a = H a) → EnvR F H ρ env σ f → EnvR F' H' ρ' env σ f
  | [], σ, f, _, h => h
  | none :: env, σ, f, g, h => by
    obtain ⟨w, σ', rfl, h⟩ := h
    exact ⟨w, σ', rfl, EnvR.keep k p s g h⟩
  | some t :: env, σ, f, g, h => by
    obtain ⟨v, σ', f1, f2, rfl, h1, h2, hf⟩ := h
    exact ⟨v, σ', f1, f2, rfl, Rp.keep k p s t v f1 (fun a ha => g a (by rw [hf a]; omega)) h1, EnvR.keep k p s (fun a ha => g a (by rw [hf a]; omega)) h2, hf⟩
theorem EnvR.in_ : ∀ {env : En} {σ : L2.St} {f : Fp}, EnvR F H ρ env σ f → ∀ a, f a ≠ 0 → ∃ w : LDo, H a = some w.1
  | [], σ, f, h, a, n => absurd (h.2 a) n
  | none :: env, σ, f, h, a, n => by
    obtain ⟨w, σ', rfl, h⟩ := h
    exact h.in_ a n
  | some t :: env, σ, f, h, a, n => by
    obtain ⟨v, σ', f1, f2, rfl, h1, h2, hf⟩ := h
    by_cases q : f1 a = 0
    · exact h2.in_ a (by have := hf a; omega)
    · exact Rp.in_ t v f1 h1 a q
/-- a name's tree is taken out -/
theorem EnvR.take : ∀ {env : En} {σ : L2.St} {f : Fp} {i : Nat} {t : T}, EnvR F H ρ env σ f → env[i]? = some (some t) →
    ∃ v f1 f2, σ[i]? = some (some v) ∧ Rp F H ρ t v f1 ∧ EnvR F H ρ (env.set i none) σ f2 ∧ ∀ b, f b = f1 b + f2 b
  | [], σ, f, i, t, h, e => by simp at e
  | none :: env, σ, f, 0, t, h, e => by simp at e
  | none :: env, σ, f, i + 1, t, h, e => by
    obtain ⟨w, σ', rfl, h⟩ := h
    obtain ⟨v, f1, f2, e1, r1, h2, hf⟩ := h.take (i := i) (by simpa using e)
    exact ⟨v, f1, f2, by simpa using e1, r1, ⟨w, σ', rfl, h2⟩, hf⟩
  | some u :: env, σ, f, 0, t, h, e => by
    obtain ⟨v, σ', f1, f2, rfl, h1, h2, hf⟩ := h
    simp at e; subst e
    exact ⟨v, f1, f2, rfl, h1, ⟨some v, σ', rfl, h2⟩, hf⟩
  | some u :: env, σ, f, i + 1, t, h, e => by
    obtain ⟨w, σ', g1, g2, rfl, h1, h2, hg⟩ := h
    obtain ⟨v, f1, f2, e1, r1, h3, hf⟩ := h2.take (i := i) (by simpa using e)
    refine ⟨v, f1, fun b => g1 b + f2 b, by simpa using e1, r1, ⟨w, σ', g1, f2, rfl, h1, h3, fun _ => rfl⟩, fun b => ?_⟩
    have := hg b; have := hf b; show f b = f1 b + (g1 b + f2 b); omega
/-- a name's tree is dropped -/
theorem EnvR.drop : ∀ {env : En} {σ : L2.St} {f : Fp} (i : Nat), EnvR F H ρ env σ f → ∃ (f1 f2 : Fp), EnvR F H ρ (env.set i none) σ f2 ∧ ∀ b, f b = f1 b + f2 b
  | [], σ, f, i, h => ⟨fun _ => 0, f, h, fun _ => by simp⟩
  | none :: env, σ, f, 0, h => ⟨fun _ => 0, f, h, fun _ => by simp⟩
  | none :: env, σ, f, i + 1, h => by
    obtain ⟨w, σ', rfl, h⟩ := h
    obtain ⟨f1, f2, h2, hf⟩ := h.drop i
    exact ⟨f1, f2, ⟨w, σ', rfl, h2⟩, hf⟩
  | some u :: env, σ, f, 0, h => by
    obtain ⟨v, σ', f1, f2, rfl, h1, h2, hf⟩ := h
    exact ⟨f1, f2, ⟨some v, σ', rfl, h2⟩, hf⟩
  | some u :: env, σ, f, i + 1, h => by
    obtain ⟨w, σ', g1, g2, rfl, h1, h2, hg⟩ := h
    obtain ⟨f1, f2, h3, hf⟩ := h2.drop i
    refine ⟨f1, fun b => g1 b + f2 b, ⟨w, σ', g1, f2, rfl, h1, h3, fun _ => rfl⟩, fun b => ?_⟩
    have := hg b; have := hf b; show f b = f1 b + (g1 b + f2 b); omega
/-- a tree is put -/
theorem EnvR.put : ∀ {env : En} {σ : L2.St} {f : Fp} {i : Nat} {t : T} {v : V} {f1 : Fp}, EnvR F H ρ (env.set i none) σ f → i < env.length → Rp F H ρ t v f1 →
    EnvR F H ρ (env.set i (some t)) (σ.set i (some v)) (fun b => f1 b + f b)
  | [], σ, f, i, t, v, f1, h, hi, r => by simp at hi
  | o :: env, σ, f, 0, t, v, f1, h, hi, r => by
    obtain ⟨w, σ', rfl, h⟩ := h
    exact ⟨v, σ', f1, f, rfl, r, h, fun _ => rfl⟩
  | none :: env, σ, f, i + 1, t, v, f1, h, hi, r => by
    obtain ⟨w, σ', rfl, h⟩ := h
    exact ⟨w, _, rfl, h.put (by simpa using hi) r⟩
  | some u :: env, σ, f, i + 1, t, v, f1, h, hi, r => by
    obtain ⟨w, σ', g1, g2, rfl, h1, h2, hg⟩ := h
    refine ⟨w, _, g1, _, rfl, h1, h2.put (by simpa using hi) r, fun b => ?_⟩
    have := hg b; show f1 b + f b = g1 b + (f1 b + g2 b); omega
/-- a name without a tree may hold what it will -/
theorem EnvR.any : ∀ {env : En} {σ : L2.St} {f : Fp} {i : Nat} (w : Option V), EnvR F H ρ (env.set i none) σ f → EnvR F H ρ (env.set i none) (σ.set i w) f
  | [], σ, f, i, w, h => by
    have : σ = [] := h.1
    subst this; exact h
  | o :: env, σ, f, 0, w, h => by
    obtain ⟨w', σ', rfl, h⟩ := h
    exact ⟨w, σ', rfl, h⟩
  | none :: env, σ, f, i + 1, w, h => by
    obtain ⟨w', σ', rfl, h⟩ := h
    exact ⟨w', _, rfl, h.any w⟩
  | some u :: env, σ, f, i + 1, w, h => by
    obtain ⟨w', σ', g1, g2, rfl, h1, h2, hg⟩ := h
    exact ⟨w', _, g1, g2, rfl, h1, h2.any w, hg⟩
theorem EnvR.view : ∀ {env : En} {σ : L2.St} {f : Fp}, EnvR F H ρ env σ f → ViewE H ρ σ env := by
  intro env σ f h i t e
  obtain ⟨v, f1, f2, e1, r1, _, _⟩ := h.take e
  exact ⟨v, e1, Rp.sn t v f1 (fun _ _ => trivial) (fun _ _ => trivial) r1⟩
theorem EnvR.start : ∀ {ts : List T} {vs : List V} {f : Fp} (n : Nat), RpL F H ρ ts vs f → EnvR F H ρ (ts.map some ++ List.replicate n none) (vs.map some ++ List.replicate n none) f
  | [], vs, f, n, h => by
    simp only [RpL] at h
    obtain ⟨rfl, h⟩ := h
    show EnvR F H ρ (List.replicate n none) (List.replicate n none) f
    induction n with
    | zero => exact ⟨rfl, h⟩
    | succ n ih => exact ⟨none, _, rfl, ih⟩
  | t :: ts, vs, f, n, h => by
    simp only [RpL] at h
    obtain ⟨v, vs', f1, f2, rfl, h1, h2, hf⟩ := h
    exact ⟨v, _, f1, f2, rfl, h1, EnvR.start n h2, hf⟩

/-- the whole state: names, kept values, objects -/
structure Sr (pd : Pd) (mg : Str → Option Value) (F : As) (H : Hp) (ρ : List Addr) (lk : Bool) (σ : L2.St) (env : En) (ts : List T) (vs : List V) (sto : List Ob) : Prop where
  all : ∃ (fe fk fs : Fp), EnvR F H ρ env σ fe ∧ RpL F H ρ ts vs fk ∧ StoR pd mg F H ρ lk sto fs ∧ (∀ b, fe b + fk b + fs b ≤ 1) ∧ ∀ b, F b → fe b + fk b + fs b = 0
  fd : ∀ b, F b → dom H b
section
variable {pd : Pd} {mg : Str → Option Value} {lk : Bool} {σ : L2.St} {env : En} {ts : List T} {vs : List V} {sto : List Ob} {t : T} {v : V} {i : Nat}
theorem Sr.len (S : Sr pd mg F H ρ lk σ env ts vs sto) : σ.length = env.length := let ⟨_, _, _, h, _⟩ := S.all; h.len
theorem Sr.viewE (S : Sr pd mg F H ρ lk σ env ts vs sto) : ViewE H ρ σ env := let ⟨_, _, _, h, _⟩ := S.all; h.view
theorem Sr.viewS (S : Sr pd mg F H ρ lk σ env ts vs sto) : ViewS pd mg H ρ sto := let ⟨_, _, _, _, _, h, _⟩ := S.all; h.view
/-- the heap has grown -/
theorem Sr.grow (S : Sr pd mg F H ρ lk σ env ts vs sto) (e : Ext H H') : Sr pd mg F H' ρ lk σ env ts vs sto := by
  obtain ⟨⟨fe, fk, fs, h1, h2, h3, h4, h5⟩, fd⟩ := S
  have k : Kp F H H' := ⟨fun a ha => let ⟨o, q⟩ := fd a ha; by rw [q, e a o q], fun a vs q => e a _ q⟩
  have same : ∀ {a} {w : HO}, H a = some w → H' a = H a := fun {a w} q => by rw [q, e a _ q]
  exact ⟨⟨fe, fk, fs, h1.keep k Pre.refl (fun _ h => h) (fun a n => let ⟨vs, q⟩ := h1.in_ a n; same q), RpL.keep k Pre.refl (fun _ h => h) ts vs fk (fun a n => let ⟨vs, q⟩ := RpL.in_ ts vs fk h2 a n; same q) h2,
    h3.keep k Pre.refl (fun _ h => h) (fun a n => let ⟨o, q⟩ := h3.in_ a n; by rw [q, e a o q]) rfl, h4, h5⟩, fun b hb => e.dom (fd b hb)⟩
/-- a clean value has been reckoned -/
theorem Sr.push (S : Sr pd mg F H ρ lk σ env ts vs sto) (p : PR H ρ H' t v) (c : clean t = true) : Sr pd mg F H' ρ lk σ env (t :: ts) (v :: vs) sto := by
  have own : ∀ b, dom H b → ∀ f : Fp, True := fun _ _ _ => trivial
  obtain ⟨e, f, r, l1, d1⟩ := p
  have S0 := S
  obtain ⟨⟨fe, fk, fs, h1, h2, h3, h4, h5⟩, fd⟩ := S0.grow e
  obtain ⟨⟨ge, gk, gs, g1, g2, g3, g4, g5⟩, gd⟩ := id S
  refine ⟨⟨ge, fun b => f b + gk b, gs, ?_, ?_, ?_, fun b => ?_, fun b hb => ?_⟩, fd⟩
  · have k : Kp F H H' := ⟨fun a ha => let ⟨o, q⟩ := gd a ha; by rw [q, e a o q], fun a vs q => e a _ q⟩
    exact g1.keep k Pre.refl (fun _ h => h) (fun a n => let ⟨vs, q⟩ := g1.in_ a n; by rw [q, e a _ q])
  · have k : Kp F H H' := ⟨fun a ha => let ⟨o, q⟩ := gd a ha; by rw [q, e a o q], fun a vs q => e a _ q⟩
    simp only [RpL]
    exact ⟨v, vs, f, gk, rfl, Rp.clean t v f c r, RpL.keep k Pre.refl (fun _ h => h) ts vs gk (fun a n => let ⟨vs, q⟩ := RpL.in_ ts vs gk g2 a n; by rw [q, e a _ q]) g2, fun _ => rfl⟩
  · have k : Kp F H H' := ⟨fun a ha => let ⟨o, q⟩ := gd a ha; by rw [q, e a o q], fun a vs q => e a _ q⟩
    exact g3.keep k Pre.refl (fun _ h => h) (fun a n => let ⟨o, q⟩ := g3.in_ a n; by rw [q, e a o q]) rfl
  · have a1 := g4 b
    have a2 := l1 b
    have a3 := d1 b
    by_cases z : ge b + gk b + gs b = 0
    · show ge b + (f b + gk b) + gs b ≤ 1
      omega
    · have d : dom H b := by
        by_cases z1 : ge b = 0
        · by_cases z2 : gk b = 0
          · obtain ⟨w, q⟩ := g3.in_ b (by omega); exact ⟨_, q⟩
          · obtain ⟨w, q⟩ := RpL.in_ ts vs gk g2 b z2; exact ⟨_, q⟩
        · obtain ⟨w, q⟩ := g1.in_ b z1; exact ⟨_, q⟩
      have := a3 d
      show ge b + (f b + gk b) + gs b ≤ 1
      omega
  · have a1 := g5 b hb
    have a3 := d1 b (gd b hb)
    show ge b + (f b + gk b) + gs b = 0
    omega
/-- the last kept value is let go -/
theorem Sr.pop (S : Sr pd mg F H ρ lk σ env (t :: ts) (v :: vs) sto) : Sr pd mg F H ρ lk σ env ts vs sto := by
  obtain ⟨⟨fe, fk, fs, h1, h2, h3, h4, h5⟩, fd⟩ := S
  simp only [RpL] at h2
  obtain ⟨v', vs', f1, f2, e, r1, r2, hf⟩ := h2
  obtain ⟨rfl, rfl⟩ := List.cons.inj e
  refine ⟨⟨fe, f2, fs, h1, r2, h3, fun b => ?_, fun b hb => ?_⟩, fd⟩
  · have := h4 b; have := hf b; omega
  · have := h5 b hb; have := hf b; omega
/-- the last kept value is stored under a name -/
theorem Sr.store (S : Sr pd mg F H ρ lk σ env (t :: ts) (v :: vs) sto) (hi : i < env.length) : Sr pd mg F H ρ lk (σ.set i (some v)) (env.set i (some t)) ts vs sto := by
  obtain ⟨⟨fe, fk, fs, h1, h2, h3, h4, h5⟩, fd⟩ := S
  simp only [RpL] at h2
  obtain ⟨v', vs', f1, f2, e, r1, r2, hf⟩ := h2
  obtain ⟨rfl, rfl⟩ := List.cons.inj e
  obtain ⟨g1, g2, h6, hg⟩ := h1.drop i
  refine ⟨⟨_, f2, fs, h6.put hi r1, r2, h3, fun b => ?_, fun b hb => ?_⟩, fd⟩
  · have := h4 b; have := hf b; have := hg b; show f1 b + g2 b + f2 b + fs b ≤ 1; omega
  · have := h5 b hb; have := hf b; have := hg b; show f1 b + g2 b + f2 b + fs b = 0; omega
/-- a name is forgotten -/
theorem Sr.forget (S : Sr pd mg F H ρ lk σ env ts vs sto) (i : Nat) (w : Option V) : Sr pd mg F H ρ lk (σ.set i w) (env.set i none) ts vs sto := by
  obtain ⟨⟨fe, fk, fs, h1, h2, h3, h4, h5⟩, fd⟩ := S
  obtain ⟨g1, g2, h6, hg⟩ := h1.drop i
  refine ⟨⟨g2, fk, fs, h6.any w, h2, h3, fun b => ?_, fun b hb => ?_⟩, fd⟩
  · have := h4 b; have := hg b; omega
  · have := h5 b hb; have := hg b; omega
theorem set_self {α : Type} : ∀ {l : List α} {i : Nat} {x : α}, l[i]? = some x → l.set i x = l
  | [], _, _, h => by simp at h
  | a :: l, 0, x, h => by simp at h; subst h; rfl
  | a :: l, i + 1, x, h => by simp only [List.set_cons_succ]; rw [set_self (l := l) (i := i) (by simpa using h)]
/-- a name's tree is handed over -/
theorem Sr.take (S : Sr pd mg F H ρ lk σ env ts vs sto) (e : env[i]? = some (some t)) : ∃ v, σ[i]? = some (some v) ∧ Sr pd mg F H ρ lk σ (env.set i none) (t :: ts) (v :: vs) sto := by
  obtain ⟨⟨fe, fk, fs, h1, h2, h3, h4, h5⟩, fd⟩ := S
  obtain ⟨v, f1, f2, e1, r1, h6, hf⟩ := h1.take e
  refine ⟨v, e1, ⟨f2, fun b => f1 b + fk b, fs, h6, ?_, h3, fun b => ?_, fun b hb => ?_⟩, fd⟩
  · simp only [RpL]
    exact ⟨v, vs, f1, fk, rfl, r1, h2, fun _ => rfl⟩
  · have := h4 b; have := hf b; show f2 b + (f1 b + fk b) + fs b ≤ 1; omega
  · have := h5 b hb; have := hf b; show f2 b + (f1 b + fk b) + fs b = 0; omega
/-- a flat tree is copied -/
theorem Sr.copy (S : Sr pd mg F H ρ lk σ env ts vs sto) (e : env[i]? = some (some t)) (fl : flat t = true) : ∃ v, σ[i]? = some (some v) ∧ Sr pd mg F H ρ lk σ env (t :: ts) (v :: vs) sto := by
  obtain ⟨v, e1, s1⟩ := S.viewE i t e
  exact ⟨v, e1, S.push (PR.flat fl s1) (clean_of_flat t fl)⟩
/-- a name's tree is from now on only read, and kept once more -/
theorem Sr.freeze (S : Sr pd mg F H ρ lk σ env ts vs sto) (e : env[i]? = some (some t)) : ∃ v F', σ[i]? = some (some v) ∧ (∀ b, F b → F' b) ∧ Sr pd mg F' H ρ lk σ (env.set i (some (fz t))) (fz t :: ts) (v :: vs) sto := by
  obtain ⟨⟨fe, fk, fs, h1, h2, h3, h4, h5⟩, fd⟩ := S
  obtain ⟨v, f1, f2, e1, r1, h6, hf⟩ := h1.take e
  have sn : Sn (fun b => F b ∨ f1 b ≠ 0) H ρ t v := Rp.sn t v f1 (fun _ h => .inl h) (fun _ h => .inr h) r1
  have k : Kp F H H := Kp.refl
  have hi : i < env.length := (List.getElem?_eq_some_iff.mp e).1
  have r2 : Rp (fun b => F b ∨ f1 b ≠ 0) H ρ (fz t) v (fun _ => 0) := sn.rpz
  have p1 := (h6.keep (F' := fun b => F b ∨ f1 b ≠ 0) k Pre.refl (fun _ h => .inl h) (fun _ _ => rfl)).put hi r2
  rw [set_self e1] at p1
  refine ⟨v, fun b => F b ∨ f1 b ≠ 0, e1, fun b h => .inl h, ⟨_, fun b => 0 + fk b, fs, p1, ?_, h3.keep k Pre.refl (fun _ h => .inl h) (fun _ _ => rfl) rfl, fun b => ?_, fun b hb => ?_⟩, fun b hb => ?_⟩
  · simp only [RpL]
    exact ⟨v, vs, fun _ => 0, fk, rfl, r2, RpL.keep k Pre.refl (fun _ h => .inl h) ts vs fk (fun _ _ => rfl) h2, fun _ => rfl⟩
  · have := h4 b; have := hf b; show 0 + f2 b + (0 + fk b) + fs b ≤ 1; omega
  · have a1 := h4 b; have := hf b
    show 0 + f2 b + (0 + fk b) + fs b = 0
    rcases hb with hb | hb
    · have := h5 b hb; omega
    · omega
  · rcases hb with hb | hb
    · exact fd b hb
    · obtain ⟨w, q⟩ := Rp.in_ t v f1 r1 b hb; exact ⟨_, q⟩
end
end
end Tr
/-! TrGen: values that are kept, calls to which names are lent. -/
namespace Tr
open PySem PySem.Spec PyProof.Rows L2

/-- what is known later -/
structure Fu (lk : Bool) (F : As) (H : Hp) (ρ : List Addr) (F' : As) (H' : Hp) (ρ' : List Addr) : Prop where
  s : ∀ b, F b → F' b
  k : Kp F H H'
  p : Pre ρ ρ'
  l : lk = true → ρ' = ρ
section
variable {lk : Bool} {F F1 F2 : As} {H H1 H2 : Hp} {ρ ρ1 ρ2 : List Addr}
theorem Fu.refl : Fu lk F H ρ F H ρ := ⟨fun _ h => h, Kp.refl, Pre.refl, fun _ => rfl⟩
theorem Fu.trans (a : Fu lk F H ρ F1 H1 ρ1) (b : Fu lk F1 H1 ρ1 F2 H2 ρ2) : Fu lk F H ρ F2 H2 ρ2 :=
  ⟨fun x h => b.s x (a.s x h), a.k.trans b.k a.s, a.p.trans b.p, fun h => (b.l h).trans (a.l h)⟩
theorem Fu.grow (fd : ∀ b, F b → dom H b) (e : Ext H H1) : Fu lk F H ρ F H1 ρ :=
  ⟨fun _ h => h, ⟨fun a ha => let ⟨o, q⟩ := fd a ha; by rw [q, e a o q], fun a vs q => e a _ q⟩, Pre.refl, fun _ => rfl⟩
end
/-- what is wanted behind: a value on top of the kept ones -/
def PoG (pd : Pd) (mg : Str → Option Value) (W : WX) (lk : Bool) (F : As) (H : Hp) (ρ : List Addr) (σ : L2.St) (us : List T) (ws : List V) (r : GR T) (Q : VK) : Prop := match r with
  | .ok t env sto => ∀ F' H' ρ' v, clean t = true → Fu lk F H ρ F' H' ρ' → Sr pd mg F' H' ρ' lk σ env (t :: us) (v :: ws) sto → Q v H'
  | .ex e env sto => ∀ F' H' ρ' cls d, Fu lk F H ρ F' H' ρ' → Sr pd mg F' H' ρ' lk σ env [] [] sto → ExR pd mg H' ρ' e cls d → W cls d σ H'
  | .no => False
def PoGL (pd : Pd) (mg : Str → Option Value) (W : WX) (lk : Bool) (F : As) (H : Hp) (ρ : List Addr) (σ : L2.St) (us : List T) (ws : List V) (r : GR (List T)) (Q : List V → Hp → Prop) : Prop := match r with
  | .ok ts env sto => ∀ F' H' ρ' vs, cleanL ts = true → Fu lk F H ρ F' H' ρ' → Sr pd mg F' H' ρ' lk σ env (ts ++ us) (vs ++ ws) sto → vs.length = ts.length → Q vs H'
  | .ex e env sto => ∀ F' H' ρ' cls d, Fu lk F H ρ F' H' ρ' → Sr pd mg F' H' ρ' lk σ env [] [] sto → ExR pd mg H' ρ' e cls d → W cls d σ H'
  | .no => False
def PoGB (pd : Pd) (mg : Str → Option Value) (W : WX) (lk : Bool) (F : As) (H : Hp) (ρ : List Addr) (σ : L2.St) (us : List T) (ws : List V) (r : GR Bool) (Q : Bool → Hp → Prop) : Prop := match r with
  | .ok b env sto => ∀ F' H' ρ', Fu lk F H ρ F' H' ρ' → Sr pd mg F' H' ρ' lk σ env us ws sto → Q b H'
  | .ex e env sto => ∀ F' H' ρ' cls d, Fu lk F H ρ F' H' ρ' → Sr pd mg F' H' ρ' lk σ env [] [] sto → ExR pd mg H' ρ' e cls d → W cls d σ H'
  | .no => False
def tGv (pd : Pd) (mg : Str → Option Value) (W : WX) (r : Bool → En → List Ob → GR T) : TE := fun σ H Q => ∃ lk F ρ env us ws sto, Sr pd mg F H ρ lk σ env us ws sto ∧ PoG pd mg W lk F H ρ σ us ws (r lk env sto) Q
def tGl (pd : Pd) (mg : Str → Option Value) (W : WX) (r : Bool → En → List Ob → GR (List T)) : TA := fun σ H Q => ∃ lk F ρ env us ws sto, Sr pd mg F H ρ lk σ env us ws sto ∧ PoGL pd mg W lk F H ρ σ us ws (r lk env sto) Q
def tGb (pd : Pd) (mg : Str → Option Value) (W : WX) (r : Bool → En → List Ob → GR Bool) : TT := fun σ H Q => ∃ lk F ρ env us ws sto, Sr pd mg F H ρ lk σ env us ws sto ∧ PoGB pd mg W lk F H ρ σ us ws (r lk env sto) Q
section
variable {pd : Pd} {mg : Str → Option Value} {F : As} {H : Hp} {ρ : List Addr} {lk : Bool} {σ : L2.St} {env : En} {sto : List Ob}
theorem Sr.popAll : ∀ {us : List T} {ws : List V}, Sr pd mg F H ρ lk σ env us ws sto → Sr pd mg F H ρ lk σ env [] [] sto
  | [], ws, S => by
    have : ws = [] := by
      obtain ⟨⟨_, _, _, _, h, _⟩, _⟩ := S
      simp only [RpL] at h; exact h.1
    subst this; exact S
  | t :: us, ws, S => by
    obtain ⟨v, ws', rfl⟩ : ∃ v ws', ws = v :: ws' := by
      obtain ⟨⟨_, _, _, _, h, _⟩, _⟩ := S
      simp only [RpL] at h
      obtain ⟨v, ws', _, _, e, _⟩ := h
      exact ⟨v, ws', e⟩
    exact S.pop.popAll
theorem RpL.app : ∀ {ts us : List T} {vs ws : List V} {f g : Fp}, RpL F H ρ ts vs f → RpL F H ρ us ws g → RpL F H ρ (ts ++ us) (vs ++ ws) (fun b => f b + g b)
  | [], us, vs, ws, f, g, h, k => by
    simp only [RpL] at h
    obtain ⟨rfl, h⟩ := h
    have e : (fun b => f b + g b) = g := by funext b; simp [h b]
    rw [e]; exact k
  | t :: ts, us, vs, ws, f, g, h, k => by
    simp only [RpL] at h
    obtain ⟨v, vs', f1, f2, rfl, h1, h2, hf⟩ := h
    show RpL F H ρ (t :: (ts ++ us)) (v :: (vs' ++ ws)) _
    simp only [RpL]
    exact ⟨v, _, f1, _, rfl, h1, h2.app k, fun b => by have := hf b; show f b + g b = f1 b + (f2 b + g b); omega⟩
theorem RpL.split : ∀ {ts us : List T} {vs : List V} {f : Fp}, RpL F H ρ (ts ++ us) vs f → ∃ (vs1 vs2 : List V) (f1 f2 : Fp), vs = vs1 ++ vs2 ∧ RpL F H ρ ts vs1 f1 ∧ RpL F H ρ us vs2 f2 ∧ ∀ b, f b = f1 b + f2 b
  | [], us, vs, f, h => ⟨[], vs, fun _ => 0, f, rfl, by simp [RpL], h, fun _ => by simp⟩
  | t :: ts, us, vs, f, h => by
    have h' : RpL F H ρ (t :: (ts ++ us)) vs f := h
    simp only [RpL] at h'
    obtain ⟨v, vs', g1, g2, rfl, h1, h2, hf⟩ := h'
    obtain ⟨vs1, vs2, f1, f2, rfl, k1, k2, hg⟩ := RpL.split h2
    refine ⟨v :: vs1, vs2, fun b => g1 b + f1 b, f2, rfl, ?_, k2, fun b => ?_⟩
    · simp only [RpL]; exact ⟨v, vs1, g1, f1, rfl, h1, k1, fun _ => rfl⟩
    · have := hf b; have := hg b; show f b = g1 b + f1 b + f2 b; omega
theorem RpL.length : ∀ {ts : List T} {vs : List V} {f : Fp}, RpL F H ρ ts vs f → vs.length = ts.length
  | [], vs, f, h => by simp only [RpL] at h; rw [h.1]; rfl
  | t :: ts, vs, f, h => by
    simp only [RpL] at h
    obtain ⟨v, vs', f1, f2, rfl, h1, h2, hf⟩ := h
    simp [h2.length]
/-- the first of the kept goes behind some -/
theorem Sr.roll {ts us : List T} {vs ws : List V} {t : T} {v : V} (S : Sr pd mg F H ρ lk σ env (ts ++ t :: us) (vs ++ v :: ws) sto) (hl : vs.length = ts.length) : Sr pd mg F H ρ lk σ env (t :: ts ++ us) (v :: vs ++ ws) sto := by
  obtain ⟨⟨fe, fk, fs, h1, h2, h3, h4, h5⟩, fd⟩ := S
  obtain ⟨vs1, vs2, f1, f2, e, k1, k2, hg⟩ := h2.split
  obtain ⟨rfl, rfl⟩ := List.append_inj e (by rw [hl, k1.length])
  simp only [RpL] at k2
  obtain ⟨v', vs', g1, g2, e, r1, r2, hg2⟩ := k2
  obtain ⟨rfl, rfl⟩ := List.cons.inj e
  refine ⟨⟨fe, fun b => g1 b + (f1 b + g2 b), fs, h1, ?_, h3, fun b => ?_, fun b hb => ?_⟩, fd⟩
  · show RpL F H ρ (t :: (ts ++ us)) (v :: (vs ++ ws)) _
    simp only [RpL]
    exact ⟨v, _, g1, _, rfl, r1, k1.app r2, fun _ => rfl⟩
  · have := h4 b; have := hg b; have := hg2 b; show fe b + (g1 b + (f1 b + g2 b)) + fs b ≤ 1; omega
  · have := h5 b hb; have := hg b; have := hg2 b; show fe b + (g1 b + (f1 b + g2 b)) + fs b = 0; omega
/-- kept values become a tuple -/
theorem Sr.tup {ts us : List T} {vs ws : List V} {a : Addr} (S : Sr pd mg F H ρ lk σ env (ts ++ us) (vs ++ ws) sto) (hl : vs.length = ts.length) (na : H a = none) : Sr pd mg F (upd H a (.tup vs)) ρ lk σ env (.tup ts :: us) (.ref a :: ws) sto := by
  have e := Ext.upd (o := .tup vs) na
  obtain ⟨⟨fe, fk, fs, h1, h2, h3, h4, h5⟩, fd⟩ := S
  have k : Kp F H (upd H a (.tup vs)) := ⟨fun a ha => let ⟨o, q⟩ := fd a ha; by rw [q, e a o q], fun a vs q => e a _ q⟩
  obtain ⟨vs1, vs2, f1, f2, e2, k1, k2, hg⟩ := h2.split
  obtain ⟨rfl, rfl⟩ := List.append_inj e2 (by rw [hl, k1.length])
  refine ⟨⟨fe, fun b => f1 b + f2 b, fs, ?_, ?_, ?_, fun b => ?_, fun b hb => ?_⟩, fun b hb => e.dom (fd b hb)⟩
  · exact h1.keep k Pre.refl (fun _ h => h) (fun a n => let ⟨vs, q⟩ := h1.in_ a n; by rw [q, e a _ q])
  · simp only [RpL]
    refine ⟨.ref a, _, f1, f2, rfl, ?_, ?_, fun _ => rfl⟩
    · simp only [Rp]
      exact ⟨a, vs, rfl, upd_same, RpL.keep k Pre.refl (fun _ h => h) ts vs f1 (fun a n => let ⟨vs, q⟩ := RpL.in_ ts vs f1 k1 a n; by rw [q, e a _ q]) k1⟩
    · exact RpL.keep k Pre.refl (fun _ h => h) us ws f2 (fun a n => let ⟨vs, q⟩ := RpL.in_ us ws f2 k2 a n; by rw [q, e a _ q]) k2
  · exact h3.keep k Pre.refl (fun _ h => h) (fun a n => let ⟨o, q⟩ := h3.in_ a n; by rw [q, e a o q]) rfl
  · have := h4 b; have := hg b; show fe b + (f1 b + f2 b) + fs b ≤ 1; omega
  · have := h5 b hb; have := hg b; show fe b + (f1 b + f2 b) + fs b = 0; omega
/-- kept values become a list -/
theorem Sr.lst {ts us : List T} {vs ws : List V} {a : Addr} (S : Sr pd mg F H ρ lk σ env (ts ++ us) (vs ++ ws) sto) (hl : vs.length = ts.length) (cl : cleanL ts = true) (na : H a = none) : Sr pd mg F (upd H a (.lst vs)) ρ lk σ env (.lst false (!flatL ts) ts :: us) (.ref a :: ws) sto := by
  have e := Ext.upd (o := .lst vs) na
  obtain ⟨⟨fe, fk, fs, h1, h2, h3, h4, h5⟩, fd⟩ := S
  have k : Kp F H (upd H a (.lst vs)) := ⟨fun a ha => let ⟨o, q⟩ := fd a ha; by rw [q, e a o q], fun a vs q => e a _ q⟩
  obtain ⟨vs1, vs2, f1, f2, e2, k1, k2, hg⟩ := h2.split
  obtain ⟨rfl, rfl⟩ := List.append_inj e2 (by rw [hl, k1.length])
  have z : fe a + fk a + fs a = 0 := by
    by_cases z : fe a = 0
    · by_cases z2 : fk a = 0
      · by_cases z3 : fs a = 0
        · omega
        · obtain ⟨w, q⟩ := h3.in_ a z3; rw [na] at q; cases q
      · obtain ⟨w, q⟩ := RpL.in_ _ _ fk h2 a z2; rw [na] at q; cases q
    · obtain ⟨w, q⟩ := h1.in_ a z; rw [na] at q; cases q
  refine ⟨⟨fe, fun b => (f1 b + if b = a then 1 else 0) + f2 b, fs, ?_, ?_, ?_, fun b => ?_, fun b hb => ?_⟩, fun b hb => e.dom (fd b hb)⟩
  · exact h1.keep k Pre.refl (fun _ h => h) (fun a n => let ⟨vs, q⟩ := h1.in_ a n; by rw [q, e a _ q])
  · simp only [RpL]
    refine ⟨.ref a, _, fun b => f1 b + if b = a then 1 else 0, f2, rfl, ?_, ?_, fun _ => rfl⟩
    · simp only [Rp, Bool.false_eq_true, if_false]
      exact ⟨a, vs, f1, rfl, upd_same, RpL.keep k Pre.refl (fun _ h => h) ts vs f1 (fun a n => let ⟨vs, q⟩ := RpL.in_ ts vs f1 k1 a n; by rw [q, e a _ q]) k1, fun q => by simpa using q, cl, fun _ => rfl⟩
    · exact RpL.keep k Pre.refl (fun _ h => h) us ws f2 (fun a n => let ⟨vs, q⟩ := RpL.in_ us ws f2 k2 a n; by rw [q, e a _ q]) k2
  · exact h3.keep k Pre.refl (fun _ h => h) (fun a n => let ⟨o, q⟩ := h3.in_ a n; by rw [q, e a o q]) rfl
  · have a1 := h4 b; have a2 := hg b
    show fe b + ((f1 b + if b = a then 1 else 0) + f2 b) + fs b ≤ 1
    by_cases q : b = a
    · subst q; simp; omega
    · simp [q]; omega
  · have a1 := h5 b hb; have a2 := hg b
    have q : b ≠ a := fun q => by obtain ⟨o, ho⟩ := fd b hb; rw [q, na] at ho; cases ho
    show fe b + ((f1 b + if b = a then 1 else 0) + f2 b) + fs b = 0
    simp [q]; omega
end
section
variable {pd : Pd} {Nm : List Str} {sc : Scope} {cf : CF} {k : Nat} {W : WX} {X : Cx}
/-- a pure value, kept -/
theorem gp {d : E} {e : Expr} (A : PE X e (tPv pd X.mg W fun env sto => pv cf env sto d)) :
    PE X e (tGv pd X.mg W fun _ env sto => ((pv cf env sto d).g env sto).bind fun t env sto => if clean t then .ok t env sto else .no) := by
  refine PE.imp A fun σ H Q ⟨lk, F, ρ, env, us, ws, sto, S, q⟩ => ?_
  refine ⟨ρ, env, sto, S.viewE, S.viewS, ?_⟩
  dsimp only at q ⊢
  cases e1 : pv cf env sto d with
  | no => rw [e1] at q; exact q.elim
  | ex z =>
    rw [e1] at q
    exact fun cls dd H' e xr => q F H' ρ cls dd (Fu.grow S.fd e) (S.grow e).popAll xr
  | ok t =>
    rw [e1] at q
    intro v H' p
    dsimp only [Rs.g, GR.bind] at q
    split at q
    · rename_i hc
      exact q F H' ρ v hc (Fu.grow S.fd p.ext) (S.push p hc)
    · exact q.elim
/-- a pure test -/
theorem gpb {r : En → List Ob → Rs Bool} {e : Expr} (A : PT X e (tPb pd X.mg W r)) : PT X e (tGb pd X.mg W fun _ env sto => (r env sto).g env sto) := by
  refine PT.imp A fun σ H Q ⟨lk, F, ρ, env, us, ws, sto, S, q⟩ => ?_
  refine ⟨ρ, env, sto, S.viewE, S.viewS, ?_⟩
  dsimp only at q ⊢
  cases e1 : r env sto with
  | no => rw [e1] at q; exact q.elim
  | ex z =>
    rw [e1] at q
    exact fun cls dd H' e xr => q F H' ρ cls dd (Fu.grow S.fd e) (S.grow e).popAll xr
  | ok t =>
    rw [e1] at q
    rintro c H' ⟨e, rfl⟩
    exact q F H' ρ (Fu.grow S.fd e) (S.grow e)
theorem PoG.fut {lk F H ρ F1 H1 ρ1 σ us ws} {r : GR T} {Q : VK} {mg} (f : Fu lk F H ρ F1 H1 ρ1) (h : PoG pd mg W lk F H ρ σ us ws r Q) : PoG pd mg W lk F1 H1 ρ1 σ us ws r Q := by
  cases r with
  | ok t env sto => exact fun F' H' ρ' v c g S => h F' H' ρ' v c (f.trans g) S
  | ex e env sto => exact fun F' H' ρ' cls d g S x => h F' H' ρ' cls d (f.trans g) S x
  | no => exact h
theorem PoGL.fut {lk F H ρ F1 H1 ρ1 σ us ws} {r : GR (List T)} {Q : List V → Hp → Prop} {mg} (f : Fu lk F H ρ F1 H1 ρ1) (h : PoGL pd mg W lk F H ρ σ us ws r Q) : PoGL pd mg W lk F1 H1 ρ1 σ us ws r Q := by
  cases r with
  | ok t env sto => exact fun F' H' ρ' v c g S => h F' H' ρ' v c (f.trans g) S
  | ex e env sto => exact fun F' H' ρ' cls d g S x => h F' H' ρ' cls d (f.trans g) S x
  | no => exact h
theorem PoGB.fut {lk F H ρ F1 H1 ρ1 σ us ws} {r : GR Bool} {Q : Bool → Hp → Prop} {mg} (f : Fu lk F H ρ F1 H1 ρ1) (h : PoGB pd mg W lk F H ρ σ us ws r Q) : PoGB pd mg W lk F1 H1 ρ1 σ us ws r Q := by
  cases r with
  | ok t env sto => exact fun F' H' ρ' g S => h F' H' ρ' (f.trans g) S
  | ex e env sto => exact fun F' H' ρ' cls d g S x => h F' H' ρ' cls d (f.trans g) S x
  | no => exact h

mutual
theorem sK (G : Gd X pd Nm sc cf k W) : ∀ (d : E) (e : Expr), chkE pd Nm sc d e = true → PE X e (tGv pd X.mg W fun _ env sto => kv cf d env sto)
  | .var i, e, h => by
    obtain ⟨x, p, rfl, h1, h2, h3, h4⟩ := inv_var h
    refine PE.imp (pe_var (i := i) (by rw [G.nm]; exact h1) (by rw [G.sc_]; exact vis_of h2) h3 h4) fun σ H Q ⟨lk, F, ρ, env, us, ws, sto, S, q⟩ => ?_
    dsimp only at q
    unfold kv at q
    cases q1 : getV env i with
    | ex e => exact absurd q1 getV_noex
    | no => rw [q1] at q; exact q.elim
    | ok t =>
      rw [q1] at q
      dsimp only at q
      split at q
      · rename_i fl
        obtain ⟨v, e1, S1⟩ := S.copy (getV_ok q1) fl
        exact ⟨v, e1, q F H ρ v (clean_of_flat t fl) Fu.refl S1⟩
      · split at q
        · rename_i cl
          obtain ⟨v, e1, S1⟩ := S.take (getV_ok q1)
          exact ⟨v, e1, q F H ρ v cl Fu.refl S1⟩
        · exact q.elim
  | .tup as, e, h => by
    obtain ⟨es, k, p, rfl, h1⟩ := inv_tup h
    have AS := sKs G as es h1
    refine PE.imp (pe_tup AS) fun σ H Q ⟨lk, F, ρ, env, us, ws, sto, S, q⟩ => ?_
    refine ⟨lk, F, ρ, env, us, ws, sto, S, ?_⟩
    dsimp only at q ⊢
    unfold kv at q
    cases e1 : kvs cf as env sto with
    | no => rw [e1] at q; exact q.elim
    | ex z env' sto' => rw [e1] at q; exact q
    | ok ts env' sto' =>
      rw [e1, GR.bind_ok] at q
      intro F' H' ρ' vs cl f S1 hl
      split at q
      · rename_i hz
        refine ⟨by rw [hl, sizeLine_eq]; omega, fun a na => ?_⟩
        exact q F' _ ρ' (.ref a) (by simpa [clean] using cl) (f.trans (Fu.grow S1.fd (Ext.upd na))) (S1.tup hl na)
      · exact q.elim
  | .lst as, e, h => by
    obtain ⟨es, p, rfl, h1⟩ := inv_lst h
    have AS := sKs G as es h1
    refine PE.imp (pe_lst AS) fun σ H Q ⟨lk, F, ρ, env, us, ws, sto, S, q⟩ => ?_
    refine ⟨lk, F, ρ, env, us, ws, sto, S, ?_⟩
    dsimp only at q ⊢
    unfold kv at q
    cases e1 : kvs cf as env sto with
    | no => rw [e1] at q; exact q.elim
    | ex z env' sto' => rw [e1] at q; exact q
    | ok ts env' sto' =>
      rw [e1, GR.bind_ok] at q
      intro F' H' ρ' vs cl f S1 hl
      split at q
      · rename_i hz
        refine ⟨by rw [hl, sizeLine_eq]; omega, fun a na => ?_⟩
        exact q F' _ ρ' (.ref a) rfl (f.trans (Fu.grow S1.fd (Ext.upd na))) (S1.lst hl cl na)
      · exact q.elim
  | .int i, e, h => gp (sE G _ e h)
  | .str i, e, h => gp (sE G _ e h)
  | .bl i, e, h => gp (sE G _ e h)
  | .non, e, h => gp (sE G _ e h)
  | .bin op a b, e, h => gp (sE G _ e h)
  | .neg a, e, h => gp (sE G _ e h)
  | .not a, e, h => gp (sE G _ e h)
  | .and a b, e, h => gp (sE G _ e h)
  | .or a b, e, h => gp (sE G _ e h)
  | .cmp op a b, e, h => gp (sE G _ e h)
  | .chain o1 o2 a b c, e, h => gp (sE G _ e h)
  | .ite c a b, e, h => gp (sE G _ e h)
  | .call f as, e, h => gp (sE G _ e h)
  | .meth a m as, e, h => gp (sE G _ e h)
  | .fld a n, e, h => gp (sE G _ e h)
  | .blt f as, e, h => gp (sE G _ e h)
  | .isi a t, e, h => gp (sE G _ e h)
  | .bm a m as, e, h => gp (sE G _ e h)
  | .srtk _ _ _, e, h => gp (sE G _ e h)
  | .dnew, e, h => gp (sE G _ e h)
  | .dis1 _ _, e, h => gp (sE G _ e h)
  | .dget _ _, e, h => gp (sE G _ e h)
  | .ix a i, e, h => gp (sE G _ e h)
  | .slc a lo hi, e, h => gp (sE G _ e h)
  | .lc v it tst elt, e, h => gp (sE G _ e h)
  | .lcr v lo hi tst elt, e, h => gp (sE G _ e h)
theorem sKs (G : Gd X pd Nm sc cf k W) : ∀ (ds : Es) (es : List Expr), chkEs pd Nm sc ds es = true → PA X es (tGl pd X.mg W fun _ env sto => kvs cf ds env sto)
  | .nil, es, h => by
    obtain rfl := inv_nil h
    refine PA.imp pa_nil fun σ H Q ⟨lk, F, ρ, env, us, ws, sto, S, q⟩ => ?_
    dsimp only at q
    unfold kvs at q
    exact q F H ρ [] rfl Fu.refl S rfl
  | .cons a as, es, h => by
    obtain ⟨x, xs, rfl, h0, h1, h2⟩ := inv_cons h
    have A := sK G a x h1
    have B := sKs G as xs h2
    refine PA.imp (pa_cons A B (plain_starA h0)) fun σ H Q ⟨lk, F, ρ, env, us, ws, sto, S, q⟩ => ?_
    dsimp only at q
    unfold kvs at q
    refine ⟨lk, F, ρ, env, us, ws, sto, S, ?_⟩
    dsimp only
    cases e1 : kv cf a env sto with
    | no => rw [e1] at q; exact q.elim
    | ex z env' sto' => rw [e1] at q; exact q
    | ok t env1 sto1 =>
      rw [e1, GR.bind_ok] at q
      intro F1 H1 ρ1 v c1 f1 S1
      refine ⟨lk, F1, ρ1, env1, t :: us, v :: ws, sto1, S1, ?_⟩
      dsimp only
      cases e2 : kvs cf as env1 sto1 with
      | no => rw [e2] at q; exact q.elim
      | ex z env' sto' => rw [e2] at q; exact fun F' H' ρ' cls d g S x => q F' H' ρ' cls d (f1.trans g) S x
      | ok ts env2 sto2 =>
        rw [e2, GR.bind_ok] at q
        intro F2 H2 ρ2 vs c2 f2 S2 hl
        refine q F2 H2 ρ2 (v :: vs) ?_ (f1.trans f2) (S2.roll hl) (by simp [hl])
        simp only [cleanL, Bool.and_eq_true]
        exact ⟨c1, c2⟩
end
end
end Tr
/-! TrCall: calls to which names are lent. -/
namespace Tr
open PySem PySem.Spec PyProof.Rows L2

section
variable (pd : Pd) (Nm : List Str) (sc : Scope)
def chkN (i : Nat) (x : Str) : Bool := Nm[i]? == some x && visB sc x && !(x == ("__debug__" : Str)) && !(x == ("__classdict__" : Str))
def chkA : List A → List Expr → Bool
  | [], [] => true
  | .m j :: as, .Name x _ :: xs => chkN Nm sc j x && chkA as xs
  | .v j :: as, .Name x _ :: xs => chkN Nm sc j x && chkA as xs
  | .o j :: as, .Name x _ :: xs => chkN Nm sc j x && chkA as xs
  | .e e :: as, x :: xs => plainX x && chkE pd Nm sc e x && chkA as xs
  | _, _ => false
/-- what is lent is what the def changes -/
def muB (pd : Pd) (f : Nat) (as : List A) : Bool := match pd.tb f with
  | some d => decide (d.mu = lentAt as 0)
  | none => false
/-- a class that is called -/
def nwOk (pd : Pd) (f : Nat) (as : List A) (x : Str) : Bool := match pd.cls.lookup x with
  | some c => f == nwB + c && (takn as).isEmpty && (match pd.tb f with
    | some d => (match d.kd with
      | .nw c' g => c' == c && (match pd.tb g with
        | some d => d.mu.isEmpty
        | none => false)
      | _ => false)
    | none => false)
  | none => false
/-- a class's own def -/
def cfB (pd : Pd) (f : Nat) (x m : Str) : Bool := match pd.cls.lookup x with
  | some c => (List.range 34).any fun n => mthN n == m && (match pd.tb (vmB + n) with
    | some d => (match d.kd with | .vt l => l.lookup c == some f | _ => false)
    | none => false)
  | none => false
def chkC : C → Expr → Bool
  | .p e, x => chkE pd Nm sc e x
  | .call f as, .Call (.Name x _) args [] _ => (pd.fns.lookup x == some f && muB pd f as || nwOk pd f as x) && glB sc x && chkA pd Nm sc as args && !args.isEmpty
  | .call f as, .Call (.Attribute (.Name x _) m ap) args [] p => cfB pd f x m && muB pd f as && glB sc x && (ap.endLine == p.line) && fewB args && chkA pd Nm sc as args && !args.isEmpty
  | .meth a m as, .Call (.Attribute o n ap) args [] p => n == mthN m && vtB pd m && rcvX o && (ap.endLine == p.line) && fewB args && chkE pd Nm sc a o && (takn as).isEmpty && chkA pd Nm sc as args
  | .not c, .UnaryOp .Not x _ => tstX x && chkC c x
  | .and a b, .BoolOp .And (x :: y :: r) p => tstX x && chkC a x && (match r with
    | [] => tstX y && chkC b y
    | z :: r => (match b with | .and _ _ => true | .p (.and _ _) => true | _ => false) && chkC b (.BoolOp .And (y :: z :: r) p))
  | .or a b, .BoolOp .Or (x :: y :: r) p => tstX x && chkC a x && (match r with
    | [] => tstX y && chkC b y
    | z :: r => (match b with | .or _ _ => true | .p (.or _ _) => true | _ => false) && chkC b (.BoolOp .Or (y :: z :: r) p))
  | .cmp op c e, .Compare x [o] [y] _ => decide (o = pyCmp op) && (inOp op || plainX y) && chkC c x && chkE pd Nm sc e y
  | .dpop i k, .Call (.Attribute (.Name x _) m ap) [y] [] p => m == ("pop" : Str) && chkN Nm sc i x && plainX y && (ap.endLine == p.line) && chkE pd Nm sc k y
  | .tup2 c d, .Tuple [x, y] _ _ => plainX x && plainX y && chkC c x && chkC d y
  | .ix c e, .Subscript x y _ => plainX y && chkC c x && chkE pd Nm sc e y
  | _, _ => false
end
section
variable {H H' H0 : Hp} {ρ : List Addr} {env em : En} {σ : L2.St}
/-- arguments as they come: lent ones, names that are read, values -/
def AV (H0 : Hp) (env em : En) (σ : L2.St) (H' : Hp) (ρ : List Addr) : List A → List T → List V → Prop
  | [], ts, vs => ts = [] ∧ vs = []
  | .m j :: as, ts, vs => ∃ t v ts' vs', ts = t :: ts' ∧ vs = v :: vs' ∧ env[j]? = some (some t) ∧ σ[j]? = some (some v) ∧ clean t = true ∧ AV H0 env em σ H' ρ as ts' vs'
  | .o j :: as, ts, vs => ∃ t v ts' vs', ts = t :: ts' ∧ vs = v :: vs' ∧ env[j]? = some (some t) ∧ σ[j]? = some (some v) ∧ clean t = true ∧ AV H0 env em σ H' ρ as ts' vs'
  | .v j :: as, ts, vs => ∃ t v ts' vs', ts = view t :: ts' ∧ vs = v :: vs' ∧ em[j]? = some (some t) ∧ σ[j]? = some (some v) ∧ AV H0 env em σ H' ρ as ts' vs'
  | .e _ :: as, ts, vs => ∃ t v ts' vs' f, ts = view t :: ts' ∧ vs = v :: vs' ∧ Rp Top H' ρ t v f ∧ clean t = true ∧ (∀ b, f b ≠ 0 → ¬ dom H0 b) ∧ AV H0 env em σ H' ρ as ts' vs'
theorem AV.len : ∀ {as : List A} {ts : List T} {vs : List V}, AV H0 env em σ H' ρ as ts vs → vs.length = as.length
  | [], ts, vs, h => by rw [h.2]; rfl
  | .m j :: as, ts, vs, h => by
    obtain ⟨t, v, ts', vs', rfl, rfl, _, _, _, h⟩ := h
    simp [h.len]
  | .o j :: as, ts, vs, h => by
    obtain ⟨t, v, ts', vs', rfl, rfl, _, _, _, h⟩ := h
    simp [h.len]
  | .v j :: as, ts, vs, h => by
    obtain ⟨t, v, ts', vs', rfl, rfl, _, _, h⟩ := h
    simp [h.len]
  | .e _ :: as, ts, vs, h => by
    obtain ⟨t, v, ts', vs', f, rfl, rfl, _, _, _, h⟩ := h
    simp [h.len]
theorem AV.mem : ∀ {as : List A} {ts : List T} {vs : List V} {j : Nat}, AV H0 env em σ H' ρ as ts vs → j ∈ takn as → ∃ t, env[j]? = some (some t)
  | [], ts, vs, j, h, m => by simp [takn] at m
  | .m i :: as, ts, vs, j, h, m => by
    obtain ⟨t, v, ts', vs', rfl, rfl, e, _, _, h⟩ := h
    simp only [takn, List.mem_cons] at m
    rcases m with rfl | m
    · exact ⟨t, e⟩
    · exact h.mem m
  | .o i :: as, ts, vs, j, h, m => by
    obtain ⟨t, v, ts', vs', rfl, rfl, e, _, _, h⟩ := h
    simp only [takn, List.mem_cons] at m
    rcases m with rfl | m
    · exact ⟨t, e⟩
    · exact h.mem m
  | .v i :: as, ts, vs, j, h, m => by
    obtain ⟨t, v, ts', vs', rfl, rfl, _, e1, h⟩ := h
    exact h.mem (by simpa [takn] using m)
  | .e x :: as, ts, vs, j, h, m => by
    obtain ⟨t, v, ts', vs', f, rfl, rfl, _, _, _, h⟩ := h
    exact h.mem (by simpa [takn] using m)
/-- what is lent, at its places among the values -/
theorem AV.lent : ∀ {as : List A} {ts : List T} {vs pre : List V}, AV H0 env em σ H' ρ as ts vs → ∃ ls : List V, ((lentAt as pre.length).filterMap fun j => (pre ++ vs)[j]?) = ls ∧ ls.length = (lentOf as).length ∧ ∀ (n : Nat) j, (lentOf as)[n]? = some j → σ[j]? = some ls[n]?
  | [], ts, vs, pre, h => ⟨[], rfl, rfl, fun n j e => by simp [lentOf] at e⟩
  | .m j :: as, ts, vs, pre, h => by
    obtain ⟨t, v, ts', vs', rfl, rfl, _, e1, _, h⟩ := h
    obtain ⟨ls, h1, h2, h3⟩ := h.lent (pre := pre ++ [v])
    refine ⟨v :: ls, ?_, by simp [lentOf, h2], fun n j' e => ?_⟩
    · simp only [lentAt, List.filterMap_cons]
      have : (pre ++ v :: vs')[pre.length]? = some v := by simp
      rw [this]
      simp only [List.length_append, List.length_cons, List.length_nil, Nat.zero_add, List.append_assoc, List.cons_append, List.nil_append] at h1
      rw [h1]
    · cases n with
      | zero =>
        simp [lentOf] at e
        subst e
        simpa using e1
      | succ n =>
        simp only [lentOf, List.getElem?_cons_succ] at e
        simpa using h3 n j' e
  | .o j :: as, ts, vs, pre, h => by
    obtain ⟨t, v, ts', vs', rfl, rfl, _, e1, _, h⟩ := h
    obtain ⟨ls, h1, h2, h3⟩ := h.lent (pre := pre ++ [v])
    refine ⟨ls, ?_, by simpa [lentOf] using h2, fun n j' e => h3 n j' (by simpa [lentOf] using e)⟩
    simp only [lentAt]
    simp only [List.length_append, List.length_cons, List.length_nil, Nat.zero_add, List.append_assoc, List.cons_append, List.nil_append] at h1
    exact h1
  | .v j :: as, ts, vs, pre, h => by
    obtain ⟨t, v, ts', vs', rfl, rfl, _, e1, h⟩ := h
    obtain ⟨ls, h1, h2, h3⟩ := h.lent (pre := pre ++ [v])
    refine ⟨ls, ?_, by simpa [lentOf] using h2, fun n j' e => h3 n j' (by simpa [lentOf] using e)⟩
    simp only [lentAt]
    simp only [List.length_append, List.length_cons, List.length_nil, Nat.zero_add, List.append_assoc, List.cons_append, List.nil_append] at h1
    exact h1
  | .e x :: as, ts, vs, pre, h => by
    obtain ⟨t, v, ts', vs', f, rfl, rfl, _, _, _, h⟩ := h
    obtain ⟨ls, h1, h2, h3⟩ := h.lent (pre := pre ++ [v])
    refine ⟨ls, ?_, by simpa [lentOf] using h2, fun n j' e => h3 n j' (by simpa [lentOf] using e)⟩
    simp only [lentAt]
    simp only [List.length_append, List.length_cons, List.length_nil, Nat.zero_add, List.append_assoc, List.cons_append, List.nil_append] at h1
    exact h1
theorem AV.base {H1 : Hp} (e : Ext H0 H1) : ∀ {as : List A} {ts : List T} {vs : List V}, AV H1 env em σ H' ρ as ts vs → AV H0 env em σ H' ρ as ts vs
  | [], ts, vs, h => h
  | .m j :: as, ts, vs, h => by
    obtain ⟨t, v, ts', vs', rfl, rfl, a, b, c, h⟩ := h
    exact ⟨t, v, ts', vs', rfl, rfl, a, b, c, h.base e⟩
  | .o j :: as, ts, vs, h => by
    obtain ⟨t, v, ts', vs', rfl, rfl, a, b, c, h⟩ := h
    exact ⟨t, v, ts', vs', rfl, rfl, a, b, c, h.base e⟩
  | .v j :: as, ts, vs, h => by
    obtain ⟨t, v, ts', vs', rfl, rfl, a, b, h⟩ := h
    exact ⟨t, v, ts', vs', rfl, rfl, a, b, h.base e⟩
  | .e _ :: as, ts, vs, h => by
    obtain ⟨t, v, ts', vs', f, rfl, rfl, a, b, c, h⟩ := h
    exact ⟨t, v, ts', vs', f, rfl, rfl, a, b, fun x n d => c x n (e.dom d), h.base e⟩
theorem lend_get : ∀ {js : List Nat} {env : En} {i : Nat} {t : T}, (lend js env)[i]? = some (some t) → env[i]? = some (some t) ∧ i ∉ js
  | [], env, i, t, h => ⟨h, by simp⟩
  | j :: js, env, i, t, h => by
    obtain ⟨h1, h2⟩ := lend_get (js := js) (env := env.set j none) h
    by_cases q : j = i
    · subst q
      rw [List.getElem?_set] at h1
      simp at h1
    · rw [List.getElem?_set_ne q] at h1
      exact ⟨h1, by simp only [List.mem_cons, not_or]; exact ⟨fun z => q z.symm, h2⟩⟩
theorem lend_viewE {js : List Nat} (h : ViewE H ρ σ env) : ViewE H ρ σ (lend js env) := fun i t e => h i t (lend_get e).1
theorem AV.ext {H2 : Hp} {ρ2 : List Addr} (e : Ext H' H2) (p : Pre ρ ρ2) : ∀ {as : List A} {ts : List T} {vs : List V}, AV H0 env em σ H' ρ as ts vs → AV H0 env em σ H2 ρ2 as ts vs
  | [], ts, vs, h => h
  | .m j :: as, ts, vs, h => by
    obtain ⟨t, v, ts', vs', rfl, rfl, a, b, c, h⟩ := h
    exact ⟨t, v, ts', vs', rfl, rfl, a, b, c, h.ext e p⟩
  | .o j :: as, ts, vs, h => by
    obtain ⟨t, v, ts', vs', rfl, rfl, a, b, c, h⟩ := h
    exact ⟨t, v, ts', vs', rfl, rfl, a, b, c, h.ext e p⟩
  | .v j :: as, ts, vs, h => by
    obtain ⟨t, v, ts', vs', rfl, rfl, a, b, h⟩ := h
    exact ⟨t, v, ts', vs', rfl, rfl, a, b, h.ext e p⟩
  | .e _ :: as, ts, vs, h => by
    obtain ⟨t, v, ts', vs', f, rfl, rfl, a, b, c, h⟩ := h
    exact ⟨t, v, ts', vs', f, rfl, rfl, Rp.ext e p t v f a, b, c, h.ext e p⟩
theorem AV.tlen : ∀ {as : List A} {ts : List T} {vs : List V}, AV H0 env em σ H' ρ as ts vs → ts.length = as.length
  | [], ts, vs, h => by rw [h.1]; rfl
  | .m j :: as, ts, vs, h => by
    obtain ⟨t, v, ts', vs', rfl, rfl, _, _, _, h⟩ := h
    simp [h.tlen]
  | .o j :: as, ts, vs, h => by
    obtain ⟨t, v, ts', vs', rfl, rfl, _, _, _, h⟩ := h
    simp [h.tlen]
  | .v j :: as, ts, vs, h => by
    obtain ⟨t, v, ts', vs', rfl, rfl, _, _, h⟩ := h
    simp [h.tlen]
  | .e _ :: as, ts, vs, h => by
    obtain ⟨t, v, ts', vs', f, rfl, rfl, _, _, _, h⟩ := h
    simp [h.tlen]
theorem lentAt_lt : ∀ {as : List A} {k j : Nat}, j ∈ lentAt as k → j < k + as.length
  | [], k, j, h => by simp [lentAt] at h
  | .m i :: as, k, j, h => by
    simp only [lentAt, List.mem_cons] at h
    rcases h with rfl | h
    · simp
    · have := lentAt_lt h; simp; omega
  | .o i :: as, k, j, h => by
    have := lentAt_lt (as := as) (k := k + 1) (by simpa [lentAt] using h); simp; omega
  | .v i :: as, k, j, h => by
    have := lentAt_lt (as := as) (k := k + 1) (by simpa [lentAt] using h); simp; omega
  | .e i :: as, k, j, h => by
    have := lentAt_lt (as := as) (k := k + 1) (by simpa [lentAt] using h); simp; omega
theorem lentAt_nil : ∀ {as : List A} {k : Nat}, lentOf as = [] → lentAt as k = []
  | [], k, h => rfl
  | .m i :: as, k, h => by simp [lentOf] at h
  | .o i :: as, k, h => by simp only [lentAt]; exact lentAt_nil (by simpa [lentOf] using h)
  | .v i :: as, k, h => by simp only [lentAt]; exact lentAt_nil (by simpa [lentOf] using h)
  | .e i :: as, k, h => by simp only [lentAt]; exact lentAt_nil (by simpa [lentOf] using h)
theorem lentOf_sub : ∀ {as : List A} {j : Nat}, j ∈ lentOf as → j ∈ takn as
  | [], j, h => h
  | .m i :: as, j, h => by
    simp only [lentOf, takn, List.mem_cons] at h ⊢
    exact h.imp id lentOf_sub
  | .o i :: as, j, h => by
    simp only [lentOf] at h
    simp only [takn, List.mem_cons]
    exact .inr (lentOf_sub h)
  | .v i :: as, j, h => lentOf_sub (as := as) h
  | .e i :: as, j, h => lentOf_sub (as := as) h
theorem lentOf_nd : ∀ {as : List A}, (takn as).Nodup → (lentOf as).Nodup
  | [], h => h
  | .m i :: as, h => by
    have h2 := List.nodup_cons.mp h
    exact List.nodup_cons.mpr ⟨fun z => h2.1 (lentOf_sub z), lentOf_nd h2.2⟩
  | .o i :: as, h => lentOf_nd (as := as) (List.nodup_cons.mp h).2
  | .v i :: as, h => lentOf_nd (as := as) h
  | .e i :: as, h => lentOf_nd (as := as) h
theorem lentOf_nil {as : List A} (h : takn as = []) : lentOf as = [] := by
  cases e : lentOf as with
  | nil => rfl
  | cons x r =>
    have := lentOf_sub (as := as) (j := x) (by rw [e]; simp)
    rw [h] at this
    nomatch this
theorem asm {F : As} : ∀ {as : List A} {ts : List T} {vs : List V} {env0 : En} {f0 : Fp}, AV H0 env em σ H' ρ as ts vs → EnvR F H' ρ env0 σ f0 → (takn as).Nodup → (∀ j ∈ takn as, env0[j]? = env[j]?) → em = lend (takn as) env0 →
    ∃ fa fr : Fp, EnvR F H' ρ em σ fr ∧ (∀ b, f0 b = fa b + fr b) ∧ ∀ Fc : As, (∀ b, F b → Fc b) → (∀ b, fr b ≠ 0 → Fc b) → (∀ b, (∃ w : LDo, H' b = some w.1) → ¬ dom H0 b → Fc b) → RpL Fc H' ρ ts vs fa
  | [], ts, vs, env0, f0, h, hE, nd, hs, he => by
    obtain ⟨rfl, rfl⟩ := h
    refine ⟨fun _ => 0, f0, by rw [he]; exact hE, fun _ => by simp, fun Fc _ _ _ => by simp [RpL]⟩
  | .m j :: as, ts, vs, env0, f0, h, hE, nd, hs, he => by
    obtain ⟨t, v, ts', vs', rfl, rfl, a, b, c, h⟩ := h
    have e0 : env0[j]? = some (some t) := (hs j (by simp [takn])).trans a
    obtain ⟨v', f1, f2, e1, r1, hE2, hf⟩ := hE.take e0
    have ev : v' = v := by rw [b] at e1; simpa using e1.symm
    subst ev
    have nd2 := List.nodup_cons.mp nd
    obtain ⟨fa, fr, h1, h2, h3⟩ := asm (env0 := env0.set j none) h hE2 nd2.2 (fun i hi => by
      have q : j ≠ i := fun z => nd2.1 (z ▸ hi)
      rw [List.getElem?_set_ne q]
      exact hs i (by simp [takn]; exact .inr hi)) he
    refine ⟨fun x => f1 x + fa x, fr, h1, fun x => by have := hf x; have := h2 x; show f0 x = f1 x + fa x + fr x; omega, fun Fc g1 g2 g3 => ?_⟩
    simp only [RpL]
    exact ⟨v', vs', f1, fa, rfl, Rp.clean t v' f1 c r1, h3 Fc g1 g2 g3, fun _ => rfl⟩
  | .o j :: as, ts, vs, env0, f0, h, hE, nd, hs, he => by
    obtain ⟨t, v, ts', vs', rfl, rfl, a, b, c, h⟩ := h
    have e0 : env0[j]? = some (some t) := (hs j (by simp [takn])).trans a
    obtain ⟨v', f1, f2, e1, r1, hE2, hf⟩ := hE.take e0
    have ev : v' = v := by rw [b] at e1; simpa using e1.symm
    subst ev
    have nd2 := List.nodup_cons.mp nd
    obtain ⟨fa, fr, h1, h2, h3⟩ := asm (env0 := env0.set j none) h hE2 nd2.2 (fun i hi => by
      have q : j ≠ i := fun z => nd2.1 (z ▸ hi)
      rw [List.getElem?_set_ne q]
      exact hs i (by simp [takn]; exact .inr hi)) he
    refine ⟨fun x => f1 x + fa x, fr, h1, fun x => by have := hf x; have := h2 x; show f0 x = f1 x + fa x + fr x; omega, fun Fc g1 g2 g3 => ?_⟩
    simp only [RpL]
    exact ⟨v', vs', f1, fa, rfl, Rp.clean t v' f1 c r1, h3 Fc g1 g2 g3, fun _ => rfl⟩
  | .v j :: as, ts, vs, env0, f0, h, hE, nd, hs, he => by
    obtain ⟨t, v, ts', vs', rfl, rfl, a, b, h⟩ := h
    obtain ⟨fa, fr, h1, h2, h3⟩ := asm h hE nd hs he
    refine ⟨fa, fr, h1, h2, fun Fc g1 g2 g3 => ?_⟩
    obtain ⟨v', f1, f2, e1, r1, _, hf⟩ := h1.take a
    have ev : v' = v := by rw [b] at e1; simpa using e1.symm
    subst ev
    simp only [RpL]
    refine ⟨v', vs', fun _ => 0, fa, rfl, ?_, h3 Fc g1 g2 g3, fun _ => by simp⟩
    exact (Rp.sn t v' f1 g1 (fun x n => g2 x (by have := hf x; omega)) r1).view
  | .e x :: as, ts, vs, env0, f0, h, hE, nd, hs, he => by
    obtain ⟨t, v, ts', vs', f, rfl, rfl, a, b, c, h⟩ := h
    obtain ⟨fa, fr, h1, h2, h3⟩ := asm h hE nd hs he
    refine ⟨fa, fr, h1, h2, fun Fc g1 g2 g3 => ?_⟩
    simp only [RpL]
    refine ⟨v, vs', fun _ => 0, fa, rfl, ?_, h3 Fc g1 g2 g3, fun _ => by simp⟩
    have r0 : Rp (fun _ => False) H' ρ t v f := Rp.clean t v f b a
    exact (Rp.sn t v f (fun _ z => z.elim) (fun y n => g3 y (Rp.in_ t v f a y n) (c y n)) r0).view
/-- what was lent is given back -/
theorem EnvR.back {F : As} : ∀ {js : List Nat} {ms : List T} {ls : List V} {env env' : En} {f fm : Fp}, EnvR F H ρ env σ f → RpL F H ρ ms ls fm → js.Nodup → (∀ j ∈ js, env[j]? = some none) → (∀ (n : Nat) j, js[n]? = some j → σ[j]? = some ls[n]?) →
    giveBack js ms env = some env' → EnvR F H ρ env' σ (fun b => fm b + f b)
  | [], [], ls, env, env', f, fm, h, r, nd, hn, hs, e => by
    simp only [giveBack, Option.some.injEq] at e
    subst e
    simp only [RpL] at r
    have : (fun b => fm b + f b) = f := by funext b; simp [r.2 b]
    rw [this]; exact h
  | j :: js, [], ls, env, env', f, fm, h, r, nd, hn, hs, e => by simp [giveBack] at e
  | [], m :: ms, ls, env, env', f, fm, h, r, nd, hn, hs, e => by simp [giveBack] at e
  | j :: js, m :: ms, ls, env, env', f, fm, h, r, nd, hn, hs, e => by
    simp only [giveBack] at e
    simp only [RpL] at r
    obtain ⟨v, ls', f1, f2, rfl, r1, r2, hf⟩ := r
    have nd2 := List.nodup_cons.mp nd
    have hj := hn j (by simp)
    have sj : σ[j]? = some (some v) := by simpa using hs 0 j rfl
    have hi : j < env.length := (List.getElem?_eq_some_iff.mp hj).1
    have h0 : EnvR F H ρ (env.set j none) σ f := by rw [set_self hj]; exact h
    have p := h0.put hi r1
    rw [set_self sj] at p
    have q := EnvR.back p r2 nd2.2 (fun i hi => by
      have z : j ≠ i := fun z => nd2.1 (z ▸ hi)
      rw [List.getElem?_set_ne z]
      exact hn i (by simp [hi])) (fun n i e => by simpa using hs (n + 1) i (by simpa using e)) e
    have : (fun b => fm b + f b) = fun b => f2 b + (f1 b + f b) := by funext b; have := hf b; omega
    rw [this]; exact q
theorem lend_none : ∀ {js : List Nat} {env : En} {j : Nat}, j ∈ js → j < env.length → (lend js env)[j]? = some none
  | [], env, j, h, _ => by simp at h
  | i :: js, env, j, h, hl => by
    unfold lend
    by_cases q : j ∈ js
    · exact lend_none q (by simpa using hl)
    · have e : j = i := by simpa [q] using h
      subst e
      have keep : ∀ {js : List Nat} {env : En}, j ∉ js → (lend js env)[j]? = env[j]? := by
        intro js
        induction js with
        | nil => intro env _; rfl
        | cons i js ih =>
          intro env h
          simp only [List.mem_cons, not_or] at h
          unfold lend
          rw [ih h.2, List.getElem?_set_ne (fun z => h.1 z.symm)]
      rw [keep q, List.getElem?_set_self hl]
end
end Tr
/-! TrDic: a name's own dict gets other content. -/
namespace Tr
open PySem PySem.Spec PyProof.Rows L2
theorem kix_none : ∀ {ks : List Key} {k : Key}, kix ks k = none → k ∉ ks
  | [], k, h => by simp
  | a :: ks, k, h => by
    unfold kix at h
    split at h
    · cases h
    · rename_i q
      have := kix_none (ks := ks) (k := k) (by cases e : kix ks k with | none => rfl | some j => rw [e] at h; cases h)
      simp only [List.mem_cons, not_or]
      exact ⟨fun z => q z.symm, this⟩
theorem kix_cons_ne {a k : Key} {ks : List Key} {j : Nat} (q : a ≠ k) (h : kix (a :: ks) k = some j) : ∃ i, j = i + 1 ∧ kix ks k = some i := by
  unfold kix at h
  rw [if_neg q] at h
  cases e : kix ks k with
  | none => rw [e] at h; cases h
  | some i => rw [e] at h; cases h; exact ⟨i, rfl, rfl⟩
theorem zip_no {k : Key} {v : V} : ∀ {ks : List Key} {vs : List V}, k ∉ ks → (ks.zip vs).map (fun kv => if kv.1 = k then (kv.1, v) else kv) = ks.zip vs ∧ (ks.zip vs).filter (fun kv => decide (kv.1 ≠ k)) = ks.zip vs ∧ ((ks.zip vs).any fun kv => decide (kv.1 = k)) = false
  | [], vs, h => by simp
  | a :: ks, [], h => by simp
  | a :: ks, w :: vs, h => by
    simp only [List.mem_cons, not_or] at h
    have q : a ≠ k := fun z => h.1 z.symm
    obtain ⟨h1, h2, h3⟩ := zip_no (v := v) (ks := ks) (vs := vs) h.2
    rw [List.zip_cons_cons]
    refine ⟨by rw [List.map_cons, h1, if_neg q], ?_, by rw [List.any_cons, h3, decide_eq_false q]; rfl⟩
    rw [List.filter_cons_of_pos (by simpa using q), h2]
theorem zip_at {k : Key} {v : V} : ∀ {ks : List Key} {vs : List V} {j : Nat}, ks.Nodup → vs.length = ks.length → kix ks k = some j →
    (ks.zip vs).map (fun kv => if kv.1 = k then (kv.1, v) else kv) = ks.zip (vs.set j v) ∧ (ks.zip vs).filter (fun kv => decide (kv.1 ≠ k)) = (ks.eraseIdx j).zip (vs.eraseIdx j) ∧ ((ks.zip vs).any fun kv => decide (kv.1 = k)) = true
  | [], vs, j, nd, hl, h => by simp [kix] at h
  | a :: ks, [], j, nd, hl, h => by simp at hl
  | a :: ks, w :: vs, j, nd, hl, h => by
    have nd2 := List.nodup_cons.mp nd
    by_cases q : a = k
    · unfold kix at h
      rw [if_pos q] at h
      cases h
      subst q
      obtain ⟨h1, h2, h3⟩ := zip_no (v := v) (ks := ks) (vs := vs) nd2.1
      rw [List.zip_cons_cons]
      refine ⟨by rw [List.map_cons, h1, if_pos rfl]; rfl, ?_, by rw [List.any_cons]; simp⟩
      rw [List.filter_cons_of_neg (by simp), h2]; rfl
    · obtain ⟨i, rfl, e⟩ := kix_cons_ne q h
      obtain ⟨h1, h2, h3⟩ := zip_at (v := v) (ks := ks) (vs := vs) nd2.2 (by simpa using hl) e
      rw [List.zip_cons_cons]
      refine ⟨by rw [List.map_cons, h1, if_neg q]; rfl, ?_, by rw [List.any_cons, h3, Bool.or_true]⟩
      rw [List.filter_cons_of_pos (by simpa using q), h2]; rfl
def dputV (ks : List Key) (vs : List V) (k : Key) (v : V) : List V := match kix ks k with
  | some j => vs.set j v
  | none => vs ++ [v]
theorem putK_zip {ks : List Key} {vs : List V} (nd : ks.Nodup) (hl : vs.length = ks.length) (k : Key) (v : V) : putK (ks.zip vs) k v = (dputK ks k).zip (dputV ks vs k v) := by
  unfold putK dputK dputV
  cases e : kix ks k with
  | none =>
    obtain ⟨_, _, h3⟩ := zip_no (v := v) (ks := ks) (vs := vs) (kix_none e)
    rw [h3]
    simp only [Bool.false_eq_true, if_false, Option.isSome_none]
    rw [List.zip_append hl.symm]; rfl
  | some j =>
    obtain ⟨h1, _, h3⟩ := zip_at (v := v) nd hl e
    rw [h3]
    simp only [if_true, Option.isSome_some]
    exact h1
theorem dropK_zip {ks : List Key} {vs : List V} {k : Key} {j : Nat} (nd : ks.Nodup) (hl : vs.length = ks.length) (e : kix ks k = some j) : dropK (ks.zip vs) k = (ks.eraseIdx j).zip (vs.eraseIdx j) :=
  (zip_at (v := .non) nd hl e).2.1
theorem dky_put {ks : List Key} {ts : List T} (dk : DKy ks ts) (k : Key) (t : T) : DKy (dputK ks k) (dputT ks ts k t) := by
  unfold dputK dputT
  cases e : kix ks k with
  | none =>
    simp only [Option.isSome_none, Bool.false_eq_true, if_false]
    refine ⟨by simp [dk.1], ?_⟩
    rw [List.nodup_append]
    refine ⟨dk.2, by simp, fun a ha b hb => ?_⟩
    simp at hb
    subst hb
    exact fun z => kix_none e (z ▸ ha)
  | some j =>
    simp only [Option.isSome_some, if_true]
    exact ⟨by simp [dk.1], dk.2⟩
theorem dky_drop {ks : List Key} {ts : List T} (dk : DKy ks ts) (k : Key) : DKy (ddropK ks k) (ddropT ks ts k) := by
  unfold ddropK ddropT
  cases e : kix ks k with
  | none => exact dk
  | some j => exact ⟨by have := (kix_lt e).1; have := dk.1; simp only [List.length_eraseIdx]; rw [← this], dk.2.sublist (List.eraseIdx_sublist _ _)⟩
theorem cleanL_erase : ∀ {ts : List T} {j : Nat}, cleanL ts = true → cleanL (ts.eraseIdx j) = true
  | [], j, h => h
  | u :: ts, 0, h => by simp only [cleanL, Bool.and_eq_true] at h; exact h.2
  | u :: ts, j + 1, h => by simp only [cleanL, Bool.and_eq_true] at h; simp only [List.eraseIdx_cons_succ, cleanL, Bool.and_eq_true]; exact ⟨h.1, cleanL_erase h.2⟩
theorem flatL_erase : ∀ {ts : List T} {j : Nat}, flatL ts = true → flatL (ts.eraseIdx j) = true
  | [], j, h => h
  | u :: ts, 0, h => by simp only [flatL, Bool.and_eq_true] at h; exact h.2
  | u :: ts, j + 1, h => by simp only [flatL, Bool.and_eq_true] at h; simp only [List.eraseIdx_cons_succ, flatL, Bool.and_eq_true]; exact ⟨h.1, flatL_erase h.2⟩
section
variable {pd : Pd} {mg : Str → Option Value} {F F' : As} {H H' : Hp} {ρ ρ' : List Addr} {lk : Bool} {σ : L2.St} {env : En} {sto : List Ob} {ks : List Key} {ts us : List T} {vs ws : List V} {t : T} {v : V} {i : Nat} {n : Bool}
/-- an item is taken out -/
theorem RpL.erase : ∀ {ts : List T} {vs : List V} {f : Fp} {j : Nat} {t : T}, RpL F H ρ ts vs f → ts[j]? = some t → ∃ v f1 f2, vs[j]? = some v ∧ Rp F H ρ t v f1 ∧ RpL F H ρ (ts.eraseIdx j) (vs.eraseIdx j) f2 ∧ ∀ b, f b = f1 b + f2 b
  | [], vs, f, j, t, h, e => by simp at e
  | u :: ts, vs, f, 0, t, h, e => by
    simp only [RpL] at h
    obtain ⟨w, vs', f1, f2, rfl, h1, h2, hf⟩ := h
    simp at e; subst e
    exact ⟨w, f1, f2, rfl, h1, h2, hf⟩
  | u :: ts, vs, f, j + 1, t, h, e => by
    simp only [RpL] at h
    obtain ⟨w, vs', f1, f2, rfl, h1, h2, hf⟩ := h
    obtain ⟨v, g1, g2, k1, k2, k3, k4⟩ := RpL.erase (j := j) h2 (by simpa using e)
    refine ⟨v, g1, fun b => f1 b + g2 b, by simpa using k1, k2, ?_, fun b => by have := hf b; have := k4 b; show f b = g1 b + (f1 b + g2 b); omega⟩
    show RpL F H ρ (u :: ts.eraseIdx j) (w :: vs'.eraseIdx j) _
    simp only [RpL]
    exact ⟨w, _, f1, g2, rfl, h1, k3, fun _ => rfl⟩
/-- a name's own dict gets other content -/
theorem Sr.putD (S : Sr pd mg F H ρ lk σ env us ws sto) (e : env[i]? = some (some (.dic false n ks ts))) : ∃ a vs, σ[i]? = some (some (.ref a)) ∧ H a = some (.dK (ks.zip vs)) ∧ vs.length = ts.length ∧ cleanL ts = true ∧ (n = false → flatL ts = true) ∧ DKy ks ts ∧
    ∀ ks1 ts1 vs1 n1 us2 ws2, cleanL ts1 = true → (n1 = false → flatL ts1 = true) → DKy ks1 ts1 → (∀ f fk, RpL F H ρ ts vs f → RpL F H ρ us ws fk → ∃ f2 fk2, RpL F H ρ ts1 vs1 f2 ∧ RpL F H ρ us2 ws2 fk2 ∧ ∀ b, f2 b + fk2 b ≤ f b + fk b) →
      Fu lk F H ρ F (upd H a (.dK (ks1.zip vs1))) ρ ∧ Sr pd mg F (upd H a (.dK (ks1.zip vs1))) ρ lk σ (env.set i (some (.dic false n1 ks1 ts1))) us2 ws2 sto := by
  obtain ⟨⟨fe, fk, fs, h1, h2, h3, h4, h5⟩, fd⟩ := S
  obtain ⟨v, f1, f2, e1, r1, h6, hf⟩ := h1.take e
  simp only [Rp, Bool.false_eq_true, if_false] at r1
  obtain ⟨a, vs, f', rfl, ha, l, fl, ⟨cl, dk⟩, hf'⟩ := r1
  have hi : i < env.length := (List.getElem?_eq_some_iff.mp e).1
  refine ⟨a, vs, e1, ha, l.length, cl, fl, dk, fun ks1 ts1 vs1 n1 us2 ws2 c1 fl1 dk1 k => ?_⟩
  obtain ⟨g, gk, k1, k2, k3⟩ := k f' fk l h2
  have za : f' a = 0 ∧ fk a = 0 ∧ f2 a = 0 ∧ fs a = 0 := by have := h4 a; have := hf a; have := hf' a; simp at this; omega
  have nF : ¬ F a := fun q => by have := h5 a q; have := hf a; have := hf' a; simp at this; omega
  have kp : Kp F H (upd H a (.dK (ks1.zip vs1))) := ⟨fun b hb => upd_ne fun z => nF (z ▸ hb), fun b xs q => by
    rw [upd_ne fun z => by rw [z, ha] at q; cases q]; exact q⟩
  have keep : ∀ {f : Fp}, f a = 0 → ∀ b, f b ≠ 0 → upd H a (.dK (ks1.zip vs1)) b = H b := fun {f} z b hb => upd_ne fun q => hb (q ▸ z)
  have zg : g a = 0 ∧ gk a = 0 := by have := k3 a; omega
  refine ⟨⟨fun _ h => h, kp, Pre.refl, fun _ => rfl⟩, ⟨fun b => (g b + if b = a then 1 else 0) + f2 b, gk, fs, ?_, RpL.keep kp Pre.refl (fun _ h => h) _ _ gk (keep zg.2) k2, h3.keep kp Pre.refl (fun _ h => h) (keep za.2.2.2) rfl, fun b => ?_, fun b hb => ?_⟩, fun b hb => ?_⟩
  · have r2 : Rp F (upd H a (.dK (ks1.zip vs1))) ρ (.dic false n1 ks1 ts1) (.ref a) (fun b => g b + if b = a then 1 else 0) := by
      simp only [Rp, Bool.false_eq_true, if_false]
      exact ⟨a, vs1, g, rfl, upd_same, RpL.keep kp Pre.refl (fun _ h => h) _ _ g (keep zg.1) k1, fl1, ⟨c1, dk1⟩, fun _ => rfl⟩
    have p := (h6.keep kp Pre.refl (fun _ h => h) (keep za.2.2.1)).put hi r2
    rw [set_self e1] at p
    exact p
  · have a1 := h4 b; have a2 := hf b; have a3 := hf' b; have a4 := k3 b
    show g b + (if b = a then 1 else 0) + f2 b + gk b + fs b ≤ 1
    omega
  · have a1 := h5 b hb; have a2 := hf b; have a3 := hf' b; have a4 := k3 b
    show g b + (if b = a then 1 else 0) + f2 b + gk b + fs b = 0
    omega
  · obtain ⟨o, q⟩ := fd b hb
    have nb : b ≠ a := fun z => nF (z ▸ hb)
    exact ⟨o, by rw [upd_ne nb]; exact q⟩
end
end Tr
/-! TrGv: what is reckoned at a statement. -/
namespace Tr
open PySem PySem.Spec PyProof.Rows L2
section
variable {pd : Pd} {Nm : List Str} {sc : Scope} {cf : CF} {k : Nat} {W : WX} {X : Cx}
def PoA (pd : Pd) (mg : Str → Option Value) (W : WX) (env em : En) (σ : L2.St) (ρ : List Addr) (H : Hp) (as : List A) (r : Rs (List T)) (Q : List V → Hp → Prop) : Prop := match r with
  | .ok ts => ∀ H' vs, Ext H H' → AV H env em σ H' ρ as ts vs → Q vs H'
  | .ex e => ∀ cls d H', Ext H H' → ExR pd mg H' ρ e cls d → W cls d σ H'
  | .no => False
def tAr (pd : Pd) (mg : Str → Option Value) (W : WX) (cf : CF) (as : List A) : TA := fun σ H Q => ∃ ρ env em sto, ViewE H ρ σ env ∧ ViewE H ρ σ em ∧ ViewS pd mg H ρ sto ∧ PoA pd mg W env em σ ρ H as (argv cf env em sto as) Q
theorem chkN_inv {i : Nat} {x : Str} (h : chkN Nm sc i x = true) : Nm[i]? = some x ∧ visB sc x = true ∧ (x == ("__debug__" : Str)) = false ∧ (x == ("__classdict__" : Str)) = false := by
  simp only [chkN, Bool.and_eq_true, Bool.not_eq_true', beq_iff_eq] at h
  exact ⟨h.1.1.1, h.1.1.2, by simpa using h.1.2, by simpa using h.2⟩
theorem pe_n (G : Gd X pd Nm sc cf k W) {i : Nat} {x : Str} {p : Pos} (h : chkN Nm sc i x = true) : PE X (.Name x p) (tVar i) := by
  obtain ⟨h1, h2, h3, h4⟩ := chkN_inv h
  exact pe_var (i := i) (by rw [G.nm]; exact h1) (by rw [G.sc_]; exact vis_of h2) h3 h4
theorem sA (G : Gd X pd Nm sc cf k W) : ∀ (as : List A) (es : List Expr), chkA pd Nm sc as es = true → PA X es (tAr pd X.mg W cf as)
  | [], es, h => by
    cases es with
    | cons _ _ => simp only [chkA, Bool.false_eq_true] at h
    | nil =>
      refine PA.imp pa_nil fun σ H Q ⟨ρ, env, em, sto, ve, vm, vs, q⟩ => ?_
      unfold argv at q
      exact q H [] Ext.refl ⟨rfl, rfl⟩
  | .m j :: as, es, h => by
    cases es with
    | nil => simp only [chkA, Bool.false_eq_true] at h
    | cons e es =>
      cases e <;> simp only [chkA, Bool.false_eq_true, Bool.and_eq_true] at h
      rename_i x p
      have B := sA G as es h.2
      refine PA.imp (pa_cons (pe_n G h.1) B rfl) fun σ H Q ⟨ρ, env, em, sto, ve, vm, vs, q⟩ => ?_
      unfold argv at q
      cases q1 : getV env j with
      | ex e => exact absurd q1 getV_noex
      | no => rw [q1] at q; exact q.elim
      | ok t =>
        rw [q1, Rs.bind_ok] at q
        obtain ⟨v, e1, s1⟩ := ve j t (getV_ok q1)
        refine ⟨v, e1, ρ, env, em, sto, ve, vm, vs, ?_⟩
        split at q
        · rename_i hc
          simp only [Bool.and_eq_true] at hc
          cases q2 : argv cf env em sto as with
          | no => rw [q2] at q; exact q.elim
          | ex z => rw [q2] at q; exact q
          | ok ts =>
            rw [q2, Rs.bind_ok] at q
            exact fun H' vs e av => q H' (v :: vs) e ⟨t, v, ts, vs, rfl, rfl, getV_ok q1, e1, hc.1, av⟩
        · exact q.elim
  | .o j :: as, es, h => by
    cases es with
    | nil => simp only [chkA, Bool.false_eq_true] at h
    | cons e es =>
      cases e <;> simp only [chkA, Bool.false_eq_true, Bool.and_eq_true] at h
      rename_i x p
      have B := sA G as es h.2
      refine PA.imp (pa_cons (pe_n G h.1) B rfl) fun σ H Q ⟨ρ, env, em, sto, ve, vm, vs, q⟩ => ?_
      unfold argv at q
      cases q1 : getV env j with
      | ex e => exact absurd q1 getV_noex
      | no => rw [q1] at q; exact q.elim
      | ok t =>
        rw [q1, Rs.bind_ok] at q
        obtain ⟨v, e1, s1⟩ := ve j t (getV_ok q1)
        refine ⟨v, e1, ρ, env, em, sto, ve, vm, vs, ?_⟩
        split at q
        · rename_i hc
          cases q2 : argv cf env em sto as with
          | no => rw [q2] at q; exact q.elim
          | ex z => rw [q2] at q; exact q
          | ok ts =>
            rw [q2, Rs.bind_ok] at q
            exact fun H' vs e av => q H' (v :: vs) e ⟨t, v, ts, vs, rfl, rfl, getV_ok q1, e1, hc, av⟩
        · exact q.elim
  | .v j :: as, es, h => by
    cases es with
    | nil => simp only [chkA, Bool.false_eq_true] at h
    | cons e es =>
      cases e <;> simp only [chkA, Bool.false_eq_true, Bool.and_eq_true] at h
      rename_i x p
      have B := sA G as es h.2
      refine PA.imp (pa_cons (pe_n G h.1) B rfl) fun σ H Q ⟨ρ, env, em, sto, ve, vm, vs, q⟩ => ?_
      unfold argv at q
      cases q1 : getV em j with
      | ex e => exact absurd q1 getV_noex
      | no => rw [q1] at q; exact q.elim
      | ok t =>
        rw [q1, Rs.bind_ok] at q
        obtain ⟨v, e1, s1⟩ := vm j t (getV_ok q1)
        refine ⟨v, e1, ρ, env, em, sto, ve, vm, vs, ?_⟩
        cases q2 : argv cf env em sto as with
        | no => rw [q2] at q; exact q.elim
        | ex z => rw [q2] at q; exact q
        | ok ts =>
          rw [q2, Rs.bind_ok] at q
          exact fun H' vs e av => q H' (v :: vs) e ⟨t, v, ts, vs, rfl, rfl, getV_ok q1, e1, av⟩
  | .e a :: as, es, h => by
    cases es with
    | nil => simp only [chkA, Bool.false_eq_true] at h
    | cons e es =>
      have h' : (plainX e && chkE pd Nm sc a e && chkA pd Nm sc as es) = true := by
        cases e <;> simpa only [chkA] using h
      simp only [Bool.and_eq_true] at h'
      have A := sE G a e h'.1.2
      have B := sA G as es h'.2
      refine PA.imp (pa_cons A B (plain_star h'.1.1)) fun σ H Q ⟨ρ, env, em, sto, ve, vm, vs, q⟩ => ?_
      unfold argv at q
      refine ⟨ρ, em, sto, vm, vs, ?_⟩
      dsimp only
      cases q1 : pv cf em sto a with
      | no => rw [q1] at q; exact q.elim
      | ex z => rw [q1] at q; exact q
      | ok t =>
        rw [q1, Rs.bind_ok] at q
        intro v H1 p1
        refine ⟨ρ, env, em, sto, ve.ext p1.ext, vm.ext p1.ext, vs.ext p1.ext, ?_⟩
        split at q
        · rename_i hc
          cases q2 : argv cf env em sto as with
          | no => rw [q2] at q; exact q.elim
          | ex z => rw [q2] at q; exact fun cls d H' e => q cls d H' (p1.ext.trans e)
          | ok ts =>
            rw [q2, Rs.bind_ok] at q
            intro H' ws e av
            obtain ⟨e1, f, r, l1, d1⟩ := p1
            exact q H' (v :: ws) (e1.trans e) ⟨t, v, ts, ws, f, rfl, rfl, Rp.ext e Pre.refl t v f r, hc, fun b n d => n (d1 b d), av.base e1⟩
        · exact q.elim
theorem Sr.topSn {pd : Pd} {mg : Str → Option Value} {F H ρ lk σ env t us v ws sto} (S : Sr pd mg F H ρ lk σ env (t :: us) (v :: ws) sto) : Sn Top H ρ t v := by
  obtain ⟨⟨fe, fk, fs, h1, h2, h3, h4, h5⟩, fd⟩ := S
  simp only [RpL] at h2
  obtain ⟨v', vs', f1, f2, e, r1, r2, hf⟩ := h2
  obtain ⟨rfl, rfl⟩ := List.cons.inj e
  exact Rp.sn _ _ f1 (fun _ _ => trivial) (fun _ _ => trivial) r1
theorem chkA_pl : ∀ {as : List A} {es : List Expr}, chkA pd Nm sc as es = true → (∀ z zs, es = z :: zs → plainX z = true) ∧ as.length = es.length ∧ ∀ env, (starEach es env).any (·.1) = false := by
  intro as
  induction as with
  | nil =>
    intro es h
    cases es with
    | nil => exact ⟨(fun _ _ e => nomatch e), rfl, fun _ => rfl⟩
    | cons _ _ => simp only [chkA, Bool.false_eq_true] at h
  | cons a as ih =>
    intro es h
    cases es with
    | nil => cases a <;> simp only [chkA, Bool.false_eq_true] at h
    | cons e es =>
      have h' : plainX e = true ∧ chkA pd Nm sc as es = true := by
        cases a with
        | m j => cases e <;> simp only [chkA, Bool.false_eq_true, Bool.and_eq_true] at h; exact ⟨rfl, h.2⟩
        | v j => cases e <;> simp only [chkA, Bool.false_eq_true, Bool.and_eq_true] at h; exact ⟨rfl, h.2⟩
        | o j => cases e <;> simp only [chkA, Bool.false_eq_true, Bool.and_eq_true] at h; exact ⟨rfl, h.2⟩
        | e a =>
          have h'' : (plainX e && chkE pd Nm sc a e && chkA pd Nm sc as es) = true := by cases e <;> simpa only [chkA] using h
          simp only [Bool.and_eq_true] at h''
          exact ⟨h''.1.1, h''.2⟩
      obtain ⟨i1, i2, i3⟩ := ih h'.2
      refine ⟨fun z zs q => by obtain ⟨rfl, rfl⟩ := List.cons.inj q; exact h'.1, by simp [i2], fun env => ?_⟩
      rw [plain_star h'.1]
      simpa using i3 env
theorem fm_congr {α β : Type} {f g : α → Option β} : ∀ {l : List α}, (∀ a ∈ l, f a = g a) → l.filterMap f = l.filterMap g
  | [], _ => rfl
  | a :: l, h => by rw [List.filterMap_cons, List.filterMap_cons, h a (by simp), fm_congr fun b hb => h b (by simp [hb])]
/-- what is wanted behind a call -/
def PoC (pd : Pd) (mg : Str → Option Value) (lk : Bool) (F : As) (H : Hp) (ρ : List Addr) (σ : L2.St) (js : List Nat) (em : En) (us : List T) (ws : List V) (sto : List Ob) (r : FR) (Q : VK) (E : XK) : Prop := match r with
  | .ok t ms sto' => ∃ env', giveBack js ms em = some env' ∧ ∀ H' ρ' v, clean t = true → Fu lk F H ρ F H' ρ' → Sr pd mg F H' ρ' lk σ env' (t :: us) (v :: ws) (if lk then sto else sto') → Q v H'
  | .ex e ms sto' => ∃ env', giveBack js ms em = some env' ∧ ∀ H' ρ' cls d, Fu lk F H ρ F H' ρ' → Sr pd mg F H' ρ' lk σ env' [] [] (if lk then sto else sto') → ExR pd mg H' ρ' e cls d → E cls d H'
  | .no => False
theorem call_core {mg : Str → Option Value} {F : As} {H H1 : Hp} {ρ : List Addr} {lk : Bool} {σ : L2.St} {env : En} {us : List T} {ws : List V} {sto : List Ob} {fe fk fs : Fp} {as : List A} {ts us0 dv : List T} {vs xs0 dvs : List V} {np : Nat} {mu : List Nat} {f : Nat} {Q : VK} {E : XK}
    (g1 : EnvR F H1 ρ env σ fe) (g2 : RpL F H1 ρ us ws fk) (g3 : StoR pd mg F H1 ρ lk sto fs) (g4 : ∀ b, fe b + fk b + fs b ≤ 1) (g5 : ∀ b, F b → fe b + fk b + fs b = 0) (fdd : ∀ b, F b → dom H1 b)
    (old : ∀ b, fe b + fs b ≠ 0 → (∃ w : LDo, H1 b = some w.1) → dom H b) (av : AV H env (lend (takn as) env) σ H1 ρ as ts vs) (nd0 : (takn as).Nodup)
    (pre : ∀ F', RpL F' H1 ρ us0 xs0 (fun _ => 0)) (suf : ∀ F', RpL F' H1 ρ dv dvs (fun _ => 0)) (hnp : (us0 ++ ts ++ dv).length = np) (hmu : mu = lentAt as us0.length)
    (q : PoC pd mg lk F H1 ρ σ (lentOf as) (lend (takn as) env) us ws sto (cf f (us0 ++ ts ++ dv) sto lk) Q E) : spT pd mg cf f np mu (xs0 ++ vs ++ dvs) H1 Q E := by
  have nd := lentOf_nd nd0
  obtain ⟨fa, fr, a1, a2, a3⟩ := asm av g1 nd0 (fun _ _ => rfl) rfl
  have lx : xs0.length = us0.length := (pre F).length
  have ld : dvs.length = dv.length := (suf F).length
  obtain ⟨ls, l1, l2, l3⟩ := av.lent (pre := xs0)
  have mus : (mu.filterMap fun j => (xs0 ++ vs ++ dvs)[j]?) = ls := by
    rw [hmu, ← l1, lx]
    refine fm_congr fun j hj => ?_
    have := lentAt_lt hj
    rw [List.getElem?_append_left (by rw [List.length_append, av.len, lx]; exact this)]
  refine ⟨fun b => dom H1 b ∧ fa b = 0 ∧ fs b = 0, ρ, lk, us0 ++ ts ++ dv, sto, fa, fs, ?_, fun b hb => hb.1, ?_, ?_, fun b => ?_, fun b hb => ?_, ?_⟩
  · rw [← hnp, List.length_append, List.length_append, List.length_append, List.length_append, av.len, av.tlen, lx, ld]
  · have R := a3 (fun b => dom H1 b ∧ fa b = 0 ∧ fs b = 0) (fun b hb => by have := g5 b hb; have := a2 b; exact ⟨fdd b hb, by omega, by omega⟩) (fun b n => by
      have := g4 b; have := a2 b
      obtain ⟨w, qq⟩ := a1.in_ b n
      exact ⟨⟨_, qq⟩, by omega, by omega⟩) (fun b hl hn => by
        have z : fe b + fs b = 0 := by
          by_cases z : fe b + fs b = 0
          · exact z
          · exact absurd (old b z hl) hn
        have := a2 b
        exact ⟨let ⟨w, qq⟩ := hl; ⟨_, qq⟩, by omega, by omega⟩)
    have R2 := RpL.app (pre (fun b => dom H1 b ∧ fa b = 0 ∧ fs b = 0)) R
    have e0 : (fun b => (fun _ => 0 : Fp) b + fa b) = fa := by funext b; simp
    rw [e0] at R2
    exact R2.app0 (suf _)
  · refine g3.keep (F := F) ⟨fun _ _ => rfl, fun _ _ h => h⟩ Pre.refl (fun b hb => ?_) (fun _ _ => rfl) rfl
    have := g5 b hb; have := a2 b
    exact ⟨fdd b hb, by omega, by omega⟩
  · have := g4 b; have := a2 b; omega
  · obtain ⟨_, b1, b2⟩ := hb; omega
  · -- behind the call
    have keepFr : ∀ {H2 : Hp}, Kp (fun b => dom H1 b ∧ fa b = 0 ∧ fs b = 0) H1 H2 → (∀ b, F b → H2 b = H1 b) ∧ (∀ b, fr b ≠ 0 → H2 b = H1 b) ∧ (∀ b, fk b ≠ 0 → H2 b = H1 b) := fun {H2} kp => by
      refine ⟨fun b hb => kp.at_ b ?_, fun b n => kp.at_ b ?_, fun b n => kp.at_ b ?_⟩
      · have := g5 b hb; have := a2 b; exact ⟨fdd b hb, by omega, by omega⟩
      · have := g4 b; have := a2 b
        obtain ⟨w, qq⟩ := a1.in_ b n
        exact ⟨⟨_, qq⟩, by omega, by omega⟩
      · have := g4 b; have := a2 b
        obtain ⟨w, qq⟩ := RpL.in_ _ _ fk g2 b n
        exact ⟨⟨_, qq⟩, by omega, by omega⟩
    have fut : ∀ {H2 : Hp} {ρ2 : List Addr}, Kp (fun b => dom H1 b ∧ fa b = 0 ∧ fs b = 0) H1 H2 → Pre ρ ρ2 → (lk = true → ρ2 = ρ) → Fu lk F H1 ρ F H2 ρ2 := fun {H2 ρ2} kp pr lr =>
      ⟨fun _ h => h, ⟨(keepFr kp).1, kp.tup⟩, pr, lr⟩
    have hn : ∀ j ∈ lentOf as, (lend (takn as) env)[j]? = some none := fun j hj => by
      obtain ⟨t, e⟩ := av.mem (lentOf_sub hj)
      exact lend_none (lentOf_sub hj) (List.getElem?_eq_some_iff.mp e).1
    have sto2 : ∀ {H2 : Hp} {ρ2 : List Addr} {sto' : List Ob} {fs2 : Fp}, (∀ b, F b → H2 b = H1 b) → Kp F H1 H2 → (lk = true → ρ2 = ρ) → StoQ pd mg (fun b => dom H1 b ∧ fa b = 0 ∧ fs b = 0) H2 ρ2 lk sto' fs2 → StoR pd mg F H2 ρ2 lk (if lk then sto else sto') fs2 := fun {H2 ρ2 sto' fs2} kF kF' lr r3 => by
      cases lk with
      | false =>
        have r3' : StoL pd mg _ H2 ρ2 sto' ρ2 fs2 := r3
        exact r3'.any
      | true =>
        obtain rfl := lr rfl
        have z : ∀ b, fs2 b = 0 := r3
        have s0 : (∀ b, fs b = 0) ∧ StoS pd mg F H1 _ sto _ := g3
        exact ⟨z, s0.2.keep kF' Pre.refl fun _ h => h⟩
    revert q
    cases cf f (us0 ++ ts ++ dv) sto lk with
    | no => exact fun q => q.elim
    | ok t ms sto' =>
      rintro ⟨env', q3, q⟩ v H2 ρ2 ct cm kp pr lr ⟨ft, fm, fs2, r1, r2, r3, r4, r5⟩
      obtain ⟨kF, kr, kk⟩ := keepFr kp
      have kF' : Kp F H1 H2 := ⟨kF, kp.tup⟩
      rw [mus] at r2
      refine q H2 ρ2 v ct (fut kp pr lr) ⟨⟨_, fun b => ft b + fk b, fs2, EnvR.back (a1.keep kF' pr (fun _ h => h) kr) (RpL.clean ms _ fm cm r2) nd hn l3 q3, ?_, sto2 kF kF' lr r3, fun b => ?_, fun b hb => ?_⟩, fun b hb => ?_⟩
      · simp only [RpL]
        exact ⟨v, ws, ft, fk, rfl, Rp.clean t v ft ct r1, RpL.keep kF' pr (fun _ h => h) us ws fk kk g2, fun _ => rfl⟩
      · have a4 := r4 b; have a6 := g4 b; have a7 := a2 b
        show fm b + fr b + (ft b + fk b) + fs2 b ≤ 1
        by_cases z : fr b + fk b = 0
        · omega
        · have d : dom H1 b := by
            by_cases z1 : fr b = 0
            · obtain ⟨w, qq⟩ := RpL.in_ _ _ fk g2 b (by omega); exact ⟨_, qq⟩
            · obtain ⟨w, qq⟩ := a1.in_ b z1; exact ⟨_, qq⟩
          have := r5 b ⟨d, by omega, by omega⟩
          omega
      · have a6 := g5 b hb; have a7 := a2 b
        have := r5 b ⟨fdd b hb, by omega, by omega⟩
        show fm b + fr b + (ft b + fk b) + fs2 b = 0
        omega
      · obtain ⟨o, qq⟩ := fdd b hb
        exact ⟨o, by rw [kF b hb]; exact qq⟩
    | ex z ms sto' =>
      rintro ⟨env', q3, q⟩ cls dd H2 ρ2 cm kp pr lr xr ⟨fm, fs2, r2, r3, r4, r5⟩
      obtain ⟨kF, kr, kk⟩ := keepFr kp
      have kF' : Kp F H1 H2 := ⟨kF, kp.tup⟩
      rw [mus] at r2
      refine q H2 ρ2 cls dd (fut kp pr lr) ⟨⟨_, fun _ => 0, fs2, EnvR.back (a1.keep kF' pr (fun _ h => h) kr) (RpL.clean ms _ fm cm r2) nd hn l3 q3, by simp [RpL], sto2 kF kF' lr r3, fun b => ?_, fun b hb => ?_⟩, fun b hb => ?_⟩ xr
      · have a4 := r4 b; have a6 := g4 b; have a7 := a2 b
        show fm b + fr b + 0 + fs2 b ≤ 1
        by_cases z : fr b = 0
        · omega
        · obtain ⟨w, qq⟩ := a1.in_ b z
          have := r5 b ⟨⟨_, qq⟩, by omega, by omega⟩
          omega
      · have a6 := g5 b hb; have a7 := a2 b
        have := r5 b ⟨fdd b hb, by omega, by omega⟩
        show fm b + fr b + 0 + fs2 b = 0
        omega
      · obtain ⟨o, qq⟩ := fdd b hb
        exact ⟨o, by rw [kF b hb]; exact qq⟩
end
end Tr
/-! TrCm: calls that may change things: of defs, of classes, of methods. -/
namespace Tr
open PySem PySem.Spec PyProof.Rows L2
/-- behind a call: what was lent comes back -/
def bkG (js : List Nat) (em : En) (sto : List Ob) (lk : Bool) (r : FR) : GR T := match r with
  | .ok t ms sto' => match giveBack js ms em with
    | some env' => .ok t env' (if lk then sto else sto')
    | none => .no
  | .ex e ms sto' => match giveBack js ms em with
    | some env' => .ex e env' (if lk then sto else sto')
    | none => .no
  | .no => .no
section
variable {pd : Pd} {Nm : List Str} {sc : Scope} {cf : CF} {k : Nat} {W : WX} {X : Cx}
theorem gv_callE {lk : Bool} {f : Nat} {as : List A} {env : En} {sto : List Ob} : gv cf lk (.call f as) env sto = if (takn as).Nodup then (match argv cf env (lend (takn as) env) sto as with
    | .ok ts => bkG (lentOf as) (lend (takn as) env) sto lk (cf f ts sto lk)
    | .ex e => .ex e env sto
    | .no => .no) else .no := by rw [gv]; rfl
theorem gv_methE {lk : Bool} {a : E} {m : Nat} {as : List A} {env : En} {sto : List Ob} : gv cf lk (.meth a m as) env sto = match pv cf env sto a with
    | .ok (.obj i) => (match mArg (prb cf m i sto) (argv cf env env sto as) with
      | .ok ts => bkG [] env sto lk (cf (vmB + m) (.obj i :: ts) sto lk)
      | .ex e => .ex e env sto
      | .no => .no)
    | .ex e => .ex e env sto
    | _ => .no := by
  rw [gv]
  cases pv cf env sto a with
  | ok t =>
    cases t <;> try rfl
    rename_i i
    dsimp only
    cases mArg (prb cf m i sto) (argv cf env env sto as) with
    | ok ts =>
      dsimp only
      cases cf (vmB + m) (.obj i :: ts) sto lk with
      | ok t ms sto' => cases ms <;> rfl
      | ex t ms sto' => cases ms <;> rfl
      | no => rfl
    | ex e => rfl
    | no => rfl
  | ex e => rfl
  | no => rfl
theorem gv_poc {mg : Str → Option Value} {lk : Bool} {F : As} {H H1 : Hp} {ρ : List Addr} {σ : L2.St} {us : List T} {ws : List V} {sto : List Ob} {js : List Nat} {em : En} {r : FR} {Q : VK} (fd : ∀ b, F b → dom H b) (e1 : Ext H H1)
    (q : PoG pd mg W lk F H ρ σ us ws (bkG js em sto lk r) Q) : PoC pd mg lk F H1 ρ σ js em us ws sto r Q (WE W σ) := by
  have g : Fu lk F H ρ F H1 ρ := Fu.grow fd e1
  unfold bkG at q
  cases r with
  | no => exact q
  | ok t ms sto' =>
    dsimp only at q
    cases q3 : giveBack js ms em with
    | none => rw [q3] at q; exact q.elim
    | some env' =>
      rw [q3] at q
      exact ⟨env', q3, fun H' ρ' v ct f S => q F H' ρ' v ct (g.trans f) S⟩
  | ex z ms sto' =>
    dsimp only at q
    cases q3 : giveBack js ms em with
    | none => rw [q3] at q; exact q.elim
    | some env' =>
      rw [q3] at q
      exact ⟨env', q3, fun H' ρ' cls d f S xr => q F H' ρ' cls d (g.trans f) S xr⟩
theorem pad_cases {d : FD} {f : Nat} {cf : CF} (pad : (∀ ts sto lk, (padT d ts).length = d.np → cf f ts sto lk = cf f (padT d ts) sto lk) ∧ ∀ ts sto lk, (padT d ts).length ≠ d.np → cf f ts sto lk = .no) (ts : List T) (sto : List Ob) (lk : Bool) :
    (cf f ts sto lk = cf f (ts ++ d.dfl.drop (padN d ts.length)) sto lk ∧ (ts ++ d.dfl.drop (padN d ts.length)).length = d.np) ∨ cf f ts sto lk = .no := by
  by_cases h : (padT d ts).length = d.np
  · exact .inl ⟨pad.1 ts sto lk h, h⟩
  · exact .inr (pad.2 ts sto lk h)
/-- the state in a heap that has grown -/
theorem Sr.parts {mg : Str → Option Value} {F : As} {H H1 : Hp} {ρ : List Addr} {lk : Bool} {σ : L2.St} {env : En} {us : List T} {ws : List V} {sto : List Ob} (S : Sr pd mg F H ρ lk σ env us ws sto) (e1 : Ext H H1) :
    ∃ fe fk fs : Fp, EnvR F H1 ρ env σ fe ∧ RpL F H1 ρ us ws fk ∧ StoR pd mg F H1 ρ lk sto fs ∧ (∀ b, fe b + fk b + fs b ≤ 1) ∧ (∀ b, F b → fe b + fk b + fs b = 0) ∧ (∀ b, F b → dom H1 b) ∧ ∀ b, fe b + fs b ≠ 0 → dom H b := by
  obtain ⟨fe, fk, fs, i1, i2, i3, g4, g5⟩ := S.all
  have kH : Kp F H H1 := ⟨fun a ha => let ⟨o, q⟩ := S.fd a ha; by rw [q, e1 a o q], fun a vs q => e1 a _ q⟩
  refine ⟨fe, fk, fs, i1.keep kH Pre.refl (fun _ h => h) (fun a n => let ⟨vs, q⟩ := i1.in_ a n; by rw [q, e1 a _ q]), RpL.keep kH (Pre.refl (ρ := ρ)) (fun _ h => h) us ws fk (fun a n => let ⟨vs, q⟩ := RpL.in_ us ws fk i2 a n; by rw [q, e1 a _ q]) i2,
    i3.keep kH (Pre.refl (ρ := ρ)) (fun _ h => h) (fun a n => let ⟨o, q⟩ := i3.in_ a n; by rw [q, e1 a o q]) rfl, g4, g5, fun b hb => e1.dom (S.fd b hb), fun b n => ?_⟩
  by_cases z : fe b = 0
  · obtain ⟨o, q⟩ := i3.in_ b (by omega); exact ⟨o, q⟩
  · obtain ⟨vs, q⟩ := i1.in_ b z; exact ⟨_, q⟩
/-- the arguments, then the def -/
theorem call_args {F : As} {H : Hp} {ρ : List Addr} {lk : Bool} {σ : L2.St} {env : En} {us : List T} {ws : List V} {sto : List Ob} {as : List A} {us0 : List T} {xs0 : List V} {f : Nat} {d : FD} {Q : VK} (S : Sr pd X.mg F H ρ lk σ env us ws sto) (hd : d.dfl.all cstB = true)
    (pad : (∀ ts sto lk, (padT d ts).length = d.np → cf f ts sto lk = cf f (padT d ts) sto lk) ∧ ∀ ts sto lk, (padT d ts).length ≠ d.np → cf f ts sto lk = .no)
    (pre : ∀ H1, Ext H H1 → ∀ F', RpL F' H1 ρ us0 xs0 (fun _ => 0)) (nd : (takn as).Nodup) (hmu : d.mu = lentAt as us0.length)
    (q : PoG pd X.mg W lk F H ρ σ us ws (match argv cf env (lend (takn as) env) sto as with
      | .ok ts => bkG (lentOf as) (lend (takn as) env) sto lk (cf f (us0 ++ ts) sto lk)
      | .ex e => .ex e env sto
      | .no => .no) Q) : tAr pd X.mg W cf as σ H fun vs H1 => spT pd X.mg cf f d.np d.mu (xs0 ++ vs ++ (d.dfl.drop (padN d (us0.length + as.length))).map dflV) H1 Q (WE W σ) := by
  refine ⟨ρ, env, lend (takn as) env, sto, S.viewE, lend_viewE S.viewE, S.viewS, ?_⟩
  cases q1 : argv cf env (lend (takn as) env) sto as with
  | no => rw [q1] at q; exact q.elim
  | ex z =>
    rw [q1] at q
    exact fun cls dd H' e xr => q F H' ρ cls dd (Fu.grow S.fd e) (S.grow e).popAll xr
  | ok ts =>
    rw [q1] at q
    dsimp only at q
    intro H1 vs e1 av
    obtain ⟨fe, fk, fs, g1, g2, g3, g4, g5, fdd, old⟩ := S.parts e1
    have q2 := gv_poc S.fd e1 q
    have hl : (us0 ++ ts).length = us0.length + as.length := by rw [List.length_append, av.tlen]
    rcases pad_cases pad (us0 ++ ts) sto lk with ⟨p1, p2⟩ | p1
    · rw [hl] at p1 p2
      rw [p1] at q2
      exact call_core g1 g2 g3 g4 g5 fdd (fun b n _ => old b n) av nd (pre H1 e1) (fun F' => rp_dfl (all_drop _ hd)) p2 hmu q2
    · rw [p1] at q2; exact q2.elim
theorem muB_inv {f : Nat} {as : List A} {d : FD} (h : muB pd f as = true) (e : pd.tb f = some d) : d.mu = lentAt as 0 := by
  unfold muB at h
  rw [e] at h
  simpa using h
theorem ifnd {p : Prop} [Decidable p] {mg : Str → Option Value} {lk : Bool} {F : As} {H : Hp} {ρ : List Addr} {σ : L2.St} {us : List T} {ws : List V} {r : GR T} {Q : VK} (q : PoG pd mg W lk F H ρ σ us ws (if p then r else .no) Q) : p ∧ PoG pd mg W lk F H ρ σ us ws r Q := by
  by_cases h : p
  · rw [if_pos h] at q; exact ⟨h, q⟩
  · rw [if_neg h] at q; exact q.elim
/-- a class is called where the run can't come to its __init__ -/
theorem pe_callNo {C : Addr} {x : Str} {p pos : Pos} {e : Expr} {es : List Expr} {t : TA} (kp : PySem.W.keepIn X.K (.ref C) = true) (hg : Gl X x) (hm : X.mg x = some (.ref C)) (ha : PA X (e :: es) t) (hdb : (x == ("__debug__" : Str)) = false)
    (he : starEach (e :: es) X.env = (false, eval e X.env) :: starEach es X.env) (hpl : (backTo pos (starEach es X.env)).any (·.1) = false) : PE X (.Call (.Name x p) (e :: es) [] pos) (fun σ H Q => t σ H fun _ _ => False) := by
  refine ⟨fun pins s σ H Q I h => ?_⟩
  refine wpAny_Call_Name_kw (ld_glob I hg hm ?_ hdb)
  exact PySem.W.callWith_K (h₀ := X.base) I.ok.mod.kin kp (thn (ha.run pos pins s σ H _ I h) fun us s1 ⟨vs, H1, I1, r, q⟩ => q.elim) he hpl
theorem StoL.snoc {mg : Str → Option Value} {F : As} {H : Hp} {ρ : List Addr} {o : Ob} {a : Addr} {f1 : Fp} (h1 : ObR pd mg F H ρ o a f1) : ∀ {os : List Ob} {as : List Addr} {f : Fp}, StoL pd mg F H ρ os as f → StoL pd mg F H ρ (os ++ [o]) (as ++ [a]) (fun b => f b + f1 b)
  | [], as, f, h => by
    obtain ⟨rfl, h0⟩ := h
    exact ⟨a, [], f1, fun _ => 0, rfl, h1, ⟨rfl, fun _ => rfl⟩, fun b => by have := h0 b; show f b + f1 b = f1 b + 0; omega⟩
  | o' :: os, as, f, h => by
    obtain ⟨a', as', f2, f3, rfl, h2, h3, hf⟩ := h
    exact ⟨a', _, f2, _, rfl, h2, StoL.snoc h1 h3, fun b => by have := hf b; show f b + f1 b = f2 b + (f3 b + f1 b); omega⟩
/-- the heap of a new instance -/
theorem ext_new {H : Hp} {x dx : Addr} {C : Addr} (h1 : H x = none) (h2 : H dx = none) (n : dx ≠ x) : Ext H (upd (upd H dx (.own x)) x (.ins C dx [])) := by
  refine (Ext.upd h2).trans (Ext.upd ?_)
  rw [upd_ne fun z => n z.symm]; exact h1
/-- a class's __init__ on a new instance -/
theorem new_core {F : As} {H H1 : Hp} {ρ : List Addr} {σ : L2.St} {env : En} {us : List T} {ws : List V} {sto : List Ob} {as : List A} {ts : List T} {vs : List V} {c g : Nat} {z : Str} {C x dx : Addr} {cf' : CF} {d : FD} {Q : VK} (S : Sr pd X.mg F H ρ false σ env us ws sto) (e1 : Ext H H1) (av : AV H env (lend (takn as) env) σ H1 ρ as ts vs) (h0 : takn as = []) (hd : d.dfl.all cstB = true) (hmu : d.mu = [])
    (pad : (∀ ts sto lk, (padT d ts).length = d.np → cf' g ts sto lk = cf' g (padT d ts) sto lk) ∧ ∀ ts sto lk, (padT d ts).length ≠ d.np → cf' g ts sto lk = .no)
    (hz : pd.cls.lookup z = some c) (hm : X.mg z = some (.ref C)) (hx : H1 x = none) (hdx : H1 dx = none) (hn : dx ≠ x)
    (q : PoG pd X.mg W false F H ρ σ us ws (bkG [] env sto false (newT (cf' g (.obj sto.length :: ts) (sto ++ [⟨c, []⟩]) false) sto.length)) Q) :
    spT pd X.mg cf' g d.np d.mu (.ref x :: (vs ++ (d.dfl.drop (padN d (as.length + 1))).map dflV)) (upd (upd H1 dx (.own x)) x (.ins C dx [])) (fun v H2 => v = .non ∧ Q (.ref x) H2) (WE W σ) := by
  have e2 := ext_new (C := C) hx hdx hn
  have ea : lend (takn as) env = env := by rw [h0]; rfl
  have h1 : lentOf as = [] := lentOf_nil h0
  obtain ⟨fe, fk, fs, g1, g2, g3, g4, g5, fdd, old⟩ := S.parts e1
  generalize hH2 : upd (upd H1 dx (.own x)) x (.ins C dx []) = H2 at *
  have hxx : H2 x = some (.ins C dx []) := by rw [← hH2]; exact upd_same
  have pr : Pre ρ (ρ ++ [x]) := fun i a h => by
    rw [List.getElem?_append_left (List.getElem?_eq_some_iff.mp h).1]; exact h
  have kp : Kp F H1 H2 := ⟨fun a ha => let ⟨o, q⟩ := fdd a ha; by rw [q, e2 a o q], fun a vs q => e2 a _ q⟩
  have k1 := g1.keep kp pr (fun _ h => h) (fun a n => let ⟨vs, q⟩ := g1.in_ a n; by rw [q, e2 a _ q])
  have k2 := RpL.keep kp pr (fun _ h => h) us ws fk (fun a n => let ⟨vs, q⟩ := RpL.in_ us ws fk g2 a n; by rw [q, e2 a _ q]) g2
  have g3' : StoL pd X.mg F H1 ρ sto ρ fs := g3
  have k3 : StoL pd X.mg F H2 (ρ ++ [x]) sto ρ fs := g3'.keep kp pr (fun _ h => h) (fun a n => let ⟨o, q⟩ := g3'.in_ a n; by rw [q, e2 a o q])
  have hlen : ρ.length = sto.length := (g3'.sn (fun _ _ => trivial) (F' := Top) (fun _ _ => trivial)).len
  have ob : ObR pd X.mg F H2 (ρ ++ [x]) ⟨c, []⟩ x (fun b => 0 + if b = x then 1 else 0) := ⟨z, C, dx, [], fun _ => 0, hz, hm, hxx, ⟨rfl, fun _ => rfl⟩, fun _ => rfl⟩
  have k4 : StoR pd X.mg F H2 (ρ ++ [x]) false (sto ++ [⟨c, []⟩]) (fun b => fs b + (0 + if b = x then 1 else 0)) := StoL.snoc ob k3
  have nx : fe x = 0 ∧ fk x = 0 ∧ fs x = 0 := by
    refine ⟨?_, ?_, ?_⟩
    · by_cases w : fe x = 0
      · exact w
      · obtain ⟨vs, q⟩ := g1.in_ x w; rw [hx] at q; exact nomatch q
    · by_cases w : fk x = 0
      · exact w
      · obtain ⟨vs, q⟩ := RpL.in_ us ws fk g2 x w; rw [hx] at q; exact nomatch q
    · by_cases w : fs x = 0
      · exact w
      · obtain ⟨vs, q⟩ := g3'.in_ x w; rw [hx] at q; exact nomatch q
  have ri : (ρ ++ [x])[sto.length]? = some x := by rw [← hlen]; simp
  have pre : ∀ F', RpL F' H2 (ρ ++ [x]) [.obj sto.length] [.ref x] (fun _ => 0) := fun F' => by
    simp only [RpL]
    exact ⟨_, [], fun _ => 0, fun _ => 0, rfl, by simp only [Rp]; exact ⟨fun _ => trivial, x, ri, rfl⟩, ⟨rfl, fun _ => rfl⟩, fun _ => rfl⟩
  have hl : ((.obj sto.length :: ts : List T)).length = as.length + 1 := by rw [List.length_cons, av.tlen]
  have fu0 : Fu false F H ρ F H2 (ρ ++ [x]) := (Fu.grow S.fd e1).trans ⟨fun _ h => h, kp, pr, fun h => nomatch h⟩
  have q2 : PoC pd X.mg false F H2 (ρ ++ [x]) σ (lentOf as) (lend (takn as) env) us ws (sto ++ [⟨c, []⟩]) (cf' g (.obj sto.length :: ts) (sto ++ [⟨c, []⟩]) false) (fun v H2 => v = .non ∧ Q (.ref x) H2) (WE W σ) := by
    rw [h1, h0]
    show PoC pd X.mg false F H2 (ρ ++ [x]) σ [] env us ws (sto ++ [⟨c, []⟩]) _ _ _
    revert q
    cases cf' g (.obj sto.length :: ts) (sto ++ [⟨c, []⟩]) false with
    | no => exact fun q => q
    | ok t ms sto' =>
      cases t <;> try exact fun q => q.elim
      cases ms with
      | cons _ _ => exact fun q => q.elim
      | nil =>
        intro q
        refine ⟨env, rfl, fun H' ρ' v _ f S' => ?_⟩
        have hv : v = .non := by have := S'.topSn; simpa [Sn] using this
        refine ⟨hv, q F H' ρ' (.ref x) rfl (fu0.trans f) ?_⟩
        exact S'.pop.push (PR.flat (t := .obj sto.length) rfl (by simp only [Sn]; exact ⟨x, f.p _ _ ri, rfl⟩)) rfl
    | ex e ms sto' =>
      cases ms with
      | cons _ _ => exact fun q => q.elim
      | nil =>
        intro q
        exact ⟨env, rfl, fun H' ρ' cls dd f S' xr => q F H' ρ' cls dd (fu0.trans f) S' xr⟩
  rcases pad_cases pad (.obj sto.length :: ts) (sto ++ [⟨c, []⟩]) false with ⟨p1, p2⟩ | p1
  · rw [hl] at p1 p2
    rw [p1] at q2
    have hmu' : d.mu = lentAt as [T.obj sto.length].length := by rw [hmu, lentAt_nil h1]
    refine call_core (us0 := [.obj sto.length]) (xs0 := [.ref x]) (dv := d.dfl.drop (padN d (as.length + 1))) (H := H) k1 k2 k4 (fun b => ?_) (fun b hb => ?_) (fun b hb => e2.dom (fdd b hb)) (fun b n hl => ?_) (av.ext e2 pr) (by rw [h0]; exact List.nodup_nil) pre (fun F' => rp_dfl (all_drop _ hd)) p2 hmu' q2
    · have := g4 b
      by_cases w : b = x
      · subst w; rw [if_pos rfl]; omega
      · rw [if_neg w]; omega
    · have a := g5 b hb
      have w : b ≠ x := fun w => by obtain ⟨o, q⟩ := fdd b hb; rw [w, hx] at q; exact nomatch q
      rw [if_neg w]; omega
    · by_cases w : b = x
      · obtain ⟨u, q⟩ := hl; rw [w, hxx] at q; have z := u.2; rw [← Option.some.inj q] at z; exact (show False from z).elim
      · rw [if_neg w] at n; exact old b (by omega)
  · rw [p1] at q2; exact q2.elim
end
end Tr
/-! TrCn: calls that may change things, by the text. -/
namespace Tr
open PySem PySem.Spec PyProof.Rows L2
section
variable {pd : Pd} {Nm : List Str} {sc : Scope} {cf : CF} {k : Nat} {W : WX} {X : Cx}
theorem rp_nil0 {F : As} {H : Hp} {ρ : List Addr} : RpL F H ρ [] [] (fun _ => 0) := by simp only [RpL]; exact ⟨trivial, fun _ => trivial⟩
/-- a def by its name -/
theorem sCallF (G : Gd X pd Nm sc cf k W) {f : Nat} {as : List A} {x : Str} {p pos : Pos} {args : List Expr} (h1 : pd.fns.lookup x = some f) (hmu : muB pd f as = true) (h2 : glB sc x = true) (h5 : chkA pd Nm sc as args = true) (h6 : args ≠ []) :
    PE X (.Call (.Name x p) args [] pos) (tGv pd X.mg W fun lk env sto => gv cf lk (.call f as) env sto) := by
  obtain ⟨hg, hdb⟩ := gl_of G h2
  obtain ⟨ad, hm, fd, ps, d, e0, hk, ⟨hc, hb⟩, hl, pad, Fn⟩ := G.fs.fn x f h1
  obtain ⟨x0, xs, rfl⟩ := List.exists_cons_of_ne_nil h6
  have AS := sA G as _ h5
  obtain ⟨pl1, pl2, pl3⟩ := chkA_pl h5
  have st := plain_star (xs := xs) (env := X.env) (pl1 x0 xs rfl)
  have hs := pl3 X.env
  rw [st] at hs
  obtain ⟨ds, dv, db⟩ := hb (padN d (0 + as.length))
  refine PE.imp (pe_callSD Fn G.room hg hm hk db dv (fun σ => passAt G.tk σ) AS hdb st (back_star (by simpa using hs))) fun σ H Q ⟨lk, F, ρ, env, us, ws, sto, S, q⟩ => ?_
  dsimp only at q
  rw [gv_callE] at q
  obtain ⟨nd, q⟩ := ifnd q
  exact call_args (us0 := []) (xs0 := []) S hc pad (fun _ _ _ => rp_nil0) nd (muB_inv hmu e0) q
/-- a class's own def -/
theorem cfB_inv {f : Nat} {x m : Str} (h : cfB pd f x m = true) : ∃ c n d l, pd.cls.lookup x = some c ∧ n < 34 ∧ mthN n = m ∧ pd.tb (vmB + n) = some d ∧ d.kd = .vt l ∧ l.lookup c = some f := by
  unfold cfB at h
  split at h
  · rename_i c hc
    obtain ⟨n, hn, h⟩ := List.any_eq_true.mp h
    simp only [Bool.and_eq_true, beq_iff_eq] at h
    obtain ⟨h1, h2⟩ := h
    split at h2
    · rename_i d hd
      split at h2
      · rename_i l hk
        exact ⟨c, n, d, l, hc, by simpa using hn, h1, hd, hk, by simpa using h2⟩
      · exact nomatch h2
    · exact nomatch h2
  · exact nomatch h
theorem sCallC (G : Gd X pd Nm sc cf k W) {f : Nat} {as : List A} {x m : Str} {p ap pos : Pos} {args : List Expr} (h1 : cfB pd f x m = true) (hmu : muB pd f as = true) (h2 : glB sc x = true) (hl : (ap.endLine == pos.line) = true) (hf : fewB args = true) (h5 : chkA pd Nm sc as args = true) (h6 : args ≠ []) :
    PE X (.Call (.Attribute (.Name x p) m ap) args [] pos) (tGv pd X.mg W fun lk env sto => gv cf lk (.call f as) env sto) := by
  obtain ⟨c, n, d0, l, hc0, hn, rfl, hd0, hk0, hlk⟩ := cfB_inv h1
  obtain ⟨hg, hdb⟩ := gl_of G h2
  obtain ⟨C, hm, CF⟩ := G.fs.cls x c hc0
  obtain ⟨mc, cr, mt⟩ := CF.mt
  obtain ⟨ad, ⟨fd, ps, d, e0, hk, ⟨hc, hb⟩, hl', pad, Fn⟩, hme, cv⟩ := mt n d0 l f hn hd0 hk0 hlk
  obtain ⟨x0, xs, rfl⟩ := List.exists_cons_of_ne_nil h6
  have AS := sA G as _ h5
  obtain ⟨pl1, pl2, pl3⟩ := chkA_pl h5
  have st := plain_star (xs := xs) (env := X.env) (pl1 x0 xs rfl)
  have hs := pl3 X.env
  rw [st] at hs
  obtain ⟨ds, dv, db⟩ := hb (padN d (0 + as.length))
  refine PE.imp (pe_cfnS hg hm hdb cr cv hk Fn db dv G.room (fun σ => passAt G.tk σ) AS hl hf st (by simpa using hs)) fun σ H Q ⟨lk, F, ρ, env, us, ws, sto, S, q⟩ => ?_
  dsimp only at q
  rw [gv_callE] at q
  obtain ⟨nd, q⟩ := ifnd q
  exact call_args (us0 := []) (xs0 := []) S hc pad (fun _ _ _ => rp_nil0) nd (muB_inv hmu e0) q
/-- a class -/
theorem nwOk_inv {f : Nat} {as : List A} {x : Str} (h : nwOk pd f as x = true) : ∃ c d g, pd.cls.lookup x = some c ∧ f = nwB + c ∧ takn as = [] ∧ pd.tb f = some d ∧ d.kd = .nw c g ∧ ∀ d', pd.tb g = some d' → d'.mu = [] := by
  unfold nwOk at h
  split at h
  · rename_i c hc
    simp only [Bool.and_eq_true, beq_iff_eq] at h
    obtain ⟨⟨rfl, h1⟩, h2⟩ := h
    split at h2
    · rename_i d hd
      split at h2
      · rename_i c' g hk
        simp only [Bool.and_eq_true, beq_iff_eq] at h2
        obtain ⟨rfl, h3⟩ := h2
        refine ⟨c', d, g, hc, rfl, by simpa using h1, hd, hk, fun d' e => ?_⟩
        rw [e] at h3
        simpa using h3
      · exact nomatch h2
    · exact nomatch h2
  · exact nomatch h
theorem sCallN (G : Gd X pd Nm sc cf k W) {f : Nat} {as : List A} {x : Str} {p pos : Pos} {args : List Expr} (h1 : nwOk pd f as x = true) (h2 : glB sc x = true) (h5 : chkA pd Nm sc as args = true) (h6 : args ≠ []) :
    PE X (.Call (.Name x p) args [] pos) (tGv pd X.mg W fun lk env sto => gv cf lk (.call f as) env sto) := by
  obtain ⟨c, d0, g, hc0, rfl, h0, hd0, hk0, hmu⟩ := nwOk_inv h1
  obtain ⟨hg, hdb⟩ := gl_of G h2
  obtain ⟨C, hm, CF⟩ := G.fs.cls x c hc0
  obtain ⟨x0, xs, rfl⟩ := List.exists_cons_of_ne_nil h6
  have AS := sA G as _ h5
  obtain ⟨pl1, pl2, pl3⟩ := chkA_pl h5
  have st := plain_star (xs := xs) (env := X.env) (pl1 x0 xs rfl)
  have hs := pl3 X.env
  rw [st] at hs
  have hs' : (backTo pos (starEach xs X.env)).any (·.1) = false := back_star (by simpa using hs)
  have ea : ∀ env, lend (takn as) env = env := fun env => by rw [h0]; rfl
  have nd : (takn as).Nodup := by rw [h0]; exact List.nodup_nil
  rcases CF.mkn d0 g hd0 hk0 with hno | ⟨k', cf', a, rfl, M, ⟨fd, ps, d, e0, hk, ⟨hc, hb⟩, hl', pad, Fn⟩, hcf⟩
  · refine PE.imp (pe_callNo CF.kp hg hm AS hdb st hs') fun σ H Q ⟨lk, F, ρ, env, us, ws, sto, S, q⟩ => ?_
    dsimp only at q
    rw [gv_callE, if_pos nd, ea] at q
    refine ⟨ρ, env, env, sto, S.viewE, S.viewE, S.viewS, ?_⟩
    cases q1 : argv cf env env sto as with
    | no => rw [q1] at q; exact q.elim
    | ex z =>
      rw [q1] at q
      exact fun cls dd H' e xr => q F H' ρ cls dd (Fu.grow S.fd e) (S.grow e).popAll xr
    | ok ts =>
      rw [q1] at q
      dsimp only at q
      rw [hno] at q
      exact q.elim
  · obtain ⟨ds, dv, db⟩ := hb (padN d (as.length + 1))
    refine PE.imp (pe_makeS M Fn G.room hg hm db dv (fun σ => passAt G.tk σ) AS hdb st hs') fun σ H Q ⟨lk, F, ρ, env, us, ws, sto, S, q⟩ => ?_
    dsimp only at q
    rw [gv_callE, if_pos nd, ea] at q
    refine ⟨ρ, env, env, sto, S.viewE, S.viewE, S.viewS, ?_⟩
    cases q1 : argv cf env env sto as with
    | no => rw [q1] at q; exact q.elim
    | ex z =>
      rw [q1] at q
      exact fun cls dd H' e xr => q F H' ρ cls dd (Fu.grow S.fd e) (S.grow e).popAll xr
    | ok ts =>
      rw [q1] at q
      dsimp only at q
      intro H1 vs e1 av xa dx hx hdx hn
      rw [hcf] at q
      cases lk with
      | true => exact q.elim
      | false =>
        rw [if_neg Bool.false_ne_true, lentOf_nil h0] at q
        exact new_core S e1 (by rw [ea]; exact av) h0 hc (hmu d e0) pad hc0 hm hx hdx hn q
theorem sCall (G : Gd X pd Nm sc cf k W) {f : Nat} {as : List A} {e : Expr} (h : chkC pd Nm sc (.call f as) e = true) : (∃ fn args pos, e = .Call fn args [] pos) ∧ PE X e (tGv pd X.mg W fun lk env sto => gv cf lk (.call f as) env sto) := by
  cases e <;> try (simp only [chkC, Bool.false_eq_true] at h; done)
  rename_i fn args kws pos
  cases kws with
  | cons _ _ => cases fn <;> (simp only [chkC, Bool.false_eq_true] at h; done)
  | nil =>
    refine ⟨⟨_, _, _, rfl⟩, ?_⟩
    cases fn <;> try (simp only [chkC, Bool.false_eq_true] at h; done)
    · rename_i o m ap
      cases o <;> try (simp only [chkC, Bool.false_eq_true] at h; done)
      rename_i x p
      simp only [chkC, Bool.and_eq_true, Bool.not_eq_true'] at h
      obtain ⟨⟨⟨⟨⟨⟨h1, h3⟩, h2⟩, h4⟩, hf⟩, h5⟩, h6⟩ := h
      exact sCallC G h1 h3 h2 h4 hf h5 (by intro z; rw [z] at h6; simp at h6)
    · rename_i x p
      simp only [chkC, Bool.and_eq_true, Bool.or_eq_true, beq_iff_eq, Bool.not_eq_true'] at h
      obtain ⟨⟨⟨h1, h2⟩, h5⟩, h6⟩ := h
      have ne : args ≠ [] := by intro z; rw [z] at h6; simp at h6
      rcases h1 with ⟨h1, h3⟩ | h1
      · exact sCallF G h1 h3 h2 h5 ne
      · exact sCallN G h1 h2 h5 ne
/-- the method that is meant -/
theorem disp_inv {l : List (Nat × Nat)} {i : Nat} {sto : List Ob} {g : Nat} (eg : dispT pd.tb l [.obj i] sto = some g) : ∃ o d, sto[i]? = some o ∧ l.lookup o.cls = some g ∧ pd.tb g = some d ∧ d.mu = [] := by
  unfold dispT at eg
  dsimp only at eg
  cases es : sto[i]? with
  | none => rw [es] at eg; exact nomatch eg
  | some o =>
    rw [es] at eg
    dsimp only at eg
    cases el : l.lookup o.cls with
    | none => rw [el] at eg; exact nomatch eg
    | some g' =>
      rw [el] at eg
      dsimp only at eg
      cases et : pd.tb g' with
      | none => rw [et] at eg; exact nomatch eg
      | some d =>
        rw [et] at eg
        dsimp only at eg
        split at eg
        · rename_i hk hmu
          obtain rfl : g' = g := by simpa using eg
          exact ⟨o, d, rfl, el, et, hmu⟩
        · exact nomatch eg
theorem sMeth (G : Gd X pd Nm sc cf k W) {a : E} {m : Nat} {as : List A} {e : Expr} (h : chkC pd Nm sc (.meth a m as) e = true) : (∃ fn args pos, e = .Call fn args [] pos) ∧ PE X e (tGv pd X.mg W fun lk env sto => gv cf lk (.meth a m as) env sto) := by
  cases e <;> try (simp only [chkC, Bool.false_eq_true] at h; done)
  rename_i fn args kws pos
  cases kws with
  | cons _ _ => cases fn <;> simp only [chkC, Bool.false_eq_true] at h
  | nil =>
  refine ⟨⟨_, _, _, rfl⟩, ?_⟩
  cases fn <;> try (simp only [chkC, Bool.false_eq_true] at h; done)
  rename_i o n ap
  simp only [chkC, Bool.and_eq_true, beq_iff_eq, List.isEmpty_iff] at h
  obtain ⟨⟨⟨⟨⟨⟨⟨rfl, h1⟩, hr⟩, hl⟩, hf⟩, h5⟩, h0⟩, h6⟩ := h
  have hl' : (ap.endLine == pos.line) = true := by simpa using hl
  obtain ⟨hm34, d, l, hd, hk⟩ := vt_inv h1
  have A := sE G a o h5
  have AS := sA G as _ h6
  have hb := rcv_base hr (mthN m) X.env (eval o X.env)
  obtain ⟨pl1, pl2, pl3⟩ := chkA_pl h6
  have ea : ∀ env, lend (takn as) env = env := fun env => by rw [h0]; rfl
  have nd : (takn as).Nodup := by rw [h0]; exact List.nodup_nil
  have key : ∀ t, (∀ σ H Q, tAr pd X.mg W cf as σ H Q → t σ H Q) → ∀ σ H Q, tGv pd X.mg W (fun lk env sto => gv cf lk (.meth a m as) env sto) σ H Q → tMethS X (L2.CX X.prog X.w) (k + 3) (mthN m) (WE W) (tPv pd X.mg W fun env sto => pv cf env sto a) t σ H Q := by
    rintro t0 ht σ H Q ⟨lk, F, ρ, env, us, ws, sto, S, q⟩
    dsimp only at q
    rw [gv_methE] at q
    refine ⟨ρ, env, sto, S.viewE, S.viewS, ?_⟩
    dsimp only
    cases q0 : pv cf env sto a with
    | no => rw [q0] at q; exact q.elim
    | ex z =>
      rw [q0] at q
      exact fun cls dd H' e xr => q F H' ρ cls dd (Fu.grow S.fd e) (S.grow e).popAll xr
    | ok x =>
      rw [q0] at q
      cases x <;> try exact q.elim
      rename_i i
      dsimp only at q
      intro v H1 p1
      have S1 := S.grow p1.ext
      have e1 := G.fs.vm m d l hm34 hd hk
      -- the method is there
      have ob : ∃ g, dispT pd.tb l [.obj i] sto = some g := by
        cases eg : dispT pd.tb l [.obj i] sto with
        | some g => exact ⟨g, rfl⟩
        | none =>
          exfalso
          have eg' : ∀ ts, dispT pd.tb l (.obj i :: ts) sto = none := fun ts => eg
          have hno : ∀ ts lk, cf (vmB + m) (.obj i :: ts) sto lk = .no := fun ts lk => by rw [e1, eg' ts]
          have hp : prb cf m i sto = false := by
            cases hp : prb cf m i sto with
            | false => rfl
            | true =>
              obtain ⟨g, eg2⟩ := G.fs.pb m d l hm34 hd hk i sto hp
              rw [eg] at eg2; exact nomatch eg2
          rw [hp] at q
          revert q
          cases argv cf env env sto as with
          | ok ts => rw [mArg_ok]; dsimp only; rw [hno]; exact fun z => z
          | ex e => exact fun z => z
          | no => exact fun z => z
      obtain ⟨g, eg⟩ := ob
      have ecf : ∀ ts, cf (vmB + m) (.obj i :: ts) sto lk = cf g (.obj i :: ts) sto lk := fun ts => by
        have : dispT pd.tb l (.obj i :: ts) sto = some g := eg
        rw [e1, this]
      obtain ⟨oo, dg, es, el, etg, hmu⟩ := disp_inv eg
      obtain ⟨ad, ead, _, cx, C, dx, fs, c1, c2, c3, c4⟩ := StoS.at_ S1.viewS es
      obtain ⟨C', m1, CF⟩ := G.fs.cls cx oo.cls c1
      rw [c2] at m1
      have : C = C' := by simpa using m1
      subst this
      obtain ⟨mc, _, mt⟩ := CF.mt
      obtain ⟨fa, ⟨fd, ps, d', e0, hk', ⟨hc, hb'⟩, hl2, pad, Fn⟩, hme, _⟩ := mt m d l g hm34 hd hk el
      obtain ⟨ds, dv, db⟩ := hb' (padN d' (1 + as.length))
      have hmu' : d'.mu = lentAt as 1 := by
        rw [etg] at e0
        have : dg = d' := by simpa using e0
        rw [← this, hmu, lentAt_nil (lentOf_nil h0)]
      obtain rfl : v = .ref ad := by
        have := p1.sn
        simp only [Sn] at this
        obtain ⟨a', e1, e2⟩ := this
        rw [ead] at e1
        simp at e1
        rw [e2, e1]
      refine ⟨ad, C, dx, fs, fa, fd, ps, _, _, ds, rfl, c3, CF.cls, hme, Fn, db, dv, c4.nomth hm34, ht _ _ _ ?_⟩
      refine call_args (us0 := [.obj i]) (xs0 := [.ref ad]) (lk := lk) (F := F) (us := us) (ws := ws) S1 hc pad (fun H2 e2 F' => ?_) nd hmu' ?_
      · simp only [RpL]
        exact ⟨_, [], fun _ => 0, fun _ => 0, rfl, by simp only [Rp]; exact ⟨fun _ => trivial, ad, ead, rfl⟩, ⟨rfl, fun _ => rfl⟩, fun _ => rfl⟩
      · rw [ea]
        have fu : Fu lk F H ρ F H1 ρ := Fu.grow S.fd p1.ext
        have shift : ∀ r, PoG pd X.mg W lk F H ρ σ us ws r Q → PoG pd X.mg W lk F H1 ρ σ us ws r Q := fun r q => by
          cases r with
          | ok t env sto => exact fun F' H' ρ' v c f S => q F' H' ρ' v c (fu.trans f) S
          | ex e env sto => exact fun F' H' ρ' cls d f S xr => q F' H' ρ' cls d (fu.trans f) S xr
          | no => exact q
        refine shift _ ?_
        revert q
        cases argv cf env env sto as with
        | ok ts => rw [mArg_ok]; dsimp only; rw [ecf, lentOf_nil h0]; exact fun z => z
        | ex e =>
          cases prb cf m i sto with
          | true => exact fun z => z
          | false => exact fun z => z.elim
        | no => exact fun z => z
  cases args with
  | nil =>
    have : as = [] := by simpa using pl2
    subst this
    refine PE.imp (pe_methS0 A G.room (fun σ => passAt G.tk σ) hb hl') (key tNil fun σ H Q ⟨ρ, env, em, sto, ve, vm, vs, q⟩ => ?_)
    unfold argv at q
    exact q H [] Ext.refl ⟨rfl, rfl⟩
  | cons x0 xs =>
    have st := plain_star (xs := xs) (env := X.env) (pl1 x0 xs rfl)
    have hs := pl3 X.env
    rw [st] at hs
    exact PE.imp (pe_methS A G.room (fun σ => passAt G.tk σ) AS hb hl' hf st (by simpa using hs)) (key _ fun σ H Q z => z)
end
end Tr
/-! TrGt: what is reckoned at a statement, further. -/
namespace Tr
open PySem PySem.Spec PyProof.Rows L2
section
variable {pd : Pd} {Nm : List Str} {sc : Scope} {cf : CF} {k : Nat} {W : WX} {X : Cx}
theorem cinv_not {c : C} {e : Expr} (h : chkC pd Nm sc (.not c) e = true) : ∃ x p, e = .UnaryOp .Not x p ∧ tstX x = true ∧ chkC pd Nm sc c x = true := by
  cases e <;> try (simp only [chkC, Bool.false_eq_true] at h; done)
  rename_i o x p
  cases o <;> simp only [chkC, Bool.false_eq_true, Bool.and_eq_true] at h
  exact ⟨_, _, rfl, h.1, h.2⟩
def isA : C → Bool
  | .and _ _ => true
  | .p (.and _ _) => true
  | _ => false
def isO : C → Bool
  | .or _ _ => true
  | .p (.or _ _) => true
  | _ => false
theorem cinv_and {a b : C} {e : Expr} (h : chkC pd Nm sc (.and a b) e = true) : ∃ x y r p, e = .BoolOp .And (x :: y :: r) p ∧ tstX x = true ∧ chkC pd Nm sc a x = true ∧
    ((r = [] ∧ tstX y = true ∧ chkC pd Nm sc b y = true) ∨ ∃ z r', r = z :: r' ∧ isA b = true ∧ chkC pd Nm sc b (.BoolOp .And (y :: z :: r') p) = true) := by
  cases e <;> try (simp only [chkC, Bool.false_eq_true] at h; done)
  rename_i o xs p
  cases o with
  | Or => simp only [chkC, Bool.false_eq_true] at h
  | And =>
    match xs, h with
    | [], h => simp only [chkC, Bool.false_eq_true] at h
    | [x], h => simp only [chkC, Bool.false_eq_true] at h
    | [x, y], h =>
      simp only [chkC, Bool.and_eq_true] at h
      exact ⟨_, _, _, _, rfl, h.1.1, h.1.2, .inl ⟨rfl, h.2.1, h.2.2⟩⟩
    | x :: y :: z :: r, h =>
      simp only [chkC, Bool.and_eq_true] at h
      refine ⟨_, _, _, _, rfl, h.1.1, h.1.2, .inr ⟨z, r, rfl, ?_, h.2.2⟩⟩
      have := h.2.1
      revert this
      cases b with
      | p d => cases d <;> exact fun z => z
      | _ => exact fun z => z
theorem cinv_or {a b : C} {e : Expr} (h : chkC pd Nm sc (.or a b) e = true) : ∃ x y r p, e = .BoolOp .Or (x :: y :: r) p ∧ tstX x = true ∧ chkC pd Nm sc a x = true ∧
    ((r = [] ∧ tstX y = true ∧ chkC pd Nm sc b y = true) ∨ ∃ z r', r = z :: r' ∧ isO b = true ∧ chkC pd Nm sc b (.BoolOp .Or (y :: z :: r') p) = true) := by
  cases e <;> try (simp only [chkC, Bool.false_eq_true] at h; done)
  rename_i o xs p
  cases o with
  | And => simp only [chkC, Bool.false_eq_true] at h
  | Or =>
    match xs, h with
    | [], h => simp only [chkC, Bool.false_eq_true] at h
    | [x], h => simp only [chkC, Bool.false_eq_true] at h
    | [x, y], h =>
      simp only [chkC, Bool.and_eq_true] at h
      exact ⟨_, _, _, _, rfl, h.1.1, h.1.2, .inl ⟨rfl, h.2.1, h.2.2⟩⟩
    | x :: y :: z :: r, h =>
      simp only [chkC, Bool.and_eq_true] at h
      refine ⟨_, _, _, _, rfl, h.1.1, h.1.2, .inr ⟨z, r, rfl, ?_, h.2.2⟩⟩
      have := h.2.1
      revert this
      cases b with
      | p d => cases d <;> exact fun z => z
      | _ => exact fun z => z
theorem cinv_cmp {op : COp} {c : C} {d : E} {e : Expr} (h : chkC pd Nm sc (.cmp op c d) e = true) : ∃ x y p, e = .Compare x [pyCmp op] [y] p ∧ behindInMarks (pyCmp op) y = false ∧ chkC pd Nm sc c x = true ∧ chkE pd Nm sc d y = true := by
  cases e <;> try (simp only [chkC, Bool.false_eq_true] at h; done)
  rename_i x os ys p
  match os, ys, h with
  | [o], [y], h =>
    simp only [chkC, Bool.and_eq_true, Bool.or_eq_true, decide_eq_true_eq] at h
    obtain ⟨⟨⟨rfl, h1⟩, h2⟩, h3⟩ := h
    exact ⟨_, _, _, rfl, inOp_mark (h1.imp id plainA_of), h2, h3⟩
  | [], _, h => simp only [chkC, Bool.false_eq_true] at h
  | [o], [], h => simp only [chkC, Bool.false_eq_true] at h
  | [o], _ :: _ :: _, h => simp only [chkC, Bool.false_eq_true] at h
  | o :: _ :: _, _, h => simp only [chkC, Bool.false_eq_true] at h
theorem cinv_tup2 {c d : C} {e : Expr} (h : chkC pd Nm sc (.tup2 c d) e = true) : ∃ x y k p, e = .Tuple [x, y] k p ∧ plainX x = true ∧ plainX y = true ∧ chkC pd Nm sc c x = true ∧ chkC pd Nm sc d y = true := by
  cases e <;> try (simp only [chkC, Bool.false_eq_true] at h; done)
  rename_i es k p
  match es, h with
  | [x, y], h =>
    simp only [chkC, Bool.and_eq_true] at h
    exact ⟨_, _, _, _, rfl, h.1.1.1, h.1.1.2, h.1.2, h.2⟩
  | [], h => simp only [chkC, Bool.false_eq_true] at h
  | [_], h => simp only [chkC, Bool.false_eq_true] at h
  | _ :: _ :: _ :: _, h => simp only [chkC, Bool.false_eq_true] at h
theorem cinv_dpop {i : Nat} {d : E} {e : Expr} (h : chkC pd Nm sc (.dpop i d) e = true) : ∃ x p ap y pos, e = .Call (.Attribute (.Name x p) ("pop" : Str) ap) [y] [] pos ∧ chkN Nm sc i x = true ∧ plainX y = true ∧ (ap.endLine == pos.line) = true ∧ chkE pd Nm sc d y = true := by
  cases e <;> try (simp only [chkC, Bool.false_eq_true] at h; done)
  rename_i fn args kws pos
  cases kws with
  | cons _ _ => cases fn <;> simp only [chkC, Bool.false_eq_true] at h
  | nil =>
    cases fn <;> try (simp only [chkC, Bool.false_eq_true] at h; done)
    rename_i o n ap
    cases o <;> try (simp only [chkC, Bool.false_eq_true] at h; done)
    match args, h with
    | [y], h =>
      simp only [chkC, Bool.and_eq_true, beq_iff_eq] at h
      obtain ⟨⟨⟨⟨rfl, h2⟩, h3⟩, h4⟩, h5⟩ := h
      exact ⟨_, _, _, _, _, rfl, h2, h3, by simpa using h4, h5⟩
    | [], h => simp only [chkC, Bool.false_eq_true] at h
    | _ :: _ :: _, h => simp only [chkC, Bool.false_eq_true] at h
theorem cinv_ix {c : C} {d : E} {e : Expr} (h : chkC pd Nm sc (.ix c d) e = true) : ∃ x y p, e = .Subscript x y p ∧ plainX y = true ∧ chkC pd Nm sc c x = true ∧ chkE pd Nm sc d y = true := by
  cases e <;> try (simp only [chkC, Bool.false_eq_true] at h; done)
  simp only [chkC, Bool.and_eq_true] at h
  exact ⟨_, _, _, rfl, h.1.1, h.1.2, h.2⟩
theorem gpw {r : En → List Ob → Rs Bool} {e : Expr} (A : PW X e (tPb pd X.mg W r)) : PW X e (tGb pd X.mg W fun _ env sto => (r env sto).g env sto) := by
  refine PW.imp A fun σ H Q ⟨lk, F, ρ, env, us, ws, sto, S, q⟩ => ?_
  refine ⟨ρ, env, sto, S.viewE, S.viewS, ?_⟩
  dsimp only at q ⊢
  cases e1 : r env sto with
  | no => rw [e1] at q; exact q.elim
  | ex z =>
    rw [e1] at q
    exact fun cls dd H' e xr => q F H' ρ cls dd (Fu.grow S.fd e) (S.grow e).popAll xr
  | ok t =>
    rw [e1] at q
    rintro c H' ⟨e, rfl⟩
    exact q F H' ρ (Fu.grow S.fd e) (S.grow e)
/-- a flat value in the place of the last kept one -/
theorem Sr.swap {F H ρ lk σ env t us v ws sto} {u : T} {w : V} (S : Sr pd mg F H ρ lk σ env (t :: us) (v :: ws) sto) (fl : flat u = true) (s : Sn Top H ρ u w) : Sr pd mg F H ρ lk σ env (u :: us) (w :: ws) sto :=
  S.pop.push (PR.flat fl s) (clean_of_flat u fl)
/-- a kept value compared with another one -/
theorem gne {H : Hp} {σ : L2.St} {Q : VK} {lk env us ws sto mg} {op : COp} {c : C} {d : E} (F : As) (ρ : List Addr) (S : Sr pd mg F H ρ lk σ env us ws sto)
    (q : PoG pd mg W lk F H ρ σ us ws ((gv cf lk c env sto).bind fun x env sto => ((pv cf env sto d).g env sto).bind fun y env sto => (cmpT op x y).g env sto) Q) :
    PoG pd mg W lk F H ρ σ us ws (gv cf lk c env sto) fun v H1 => tPv pd mg W (fun env sto => pv cf env sto d) σ H1 fun w H2 => ∃ ρ, rT ρ (cmpT op) v w H2 Q := by
  cases e1 : gv cf lk c env sto with
  | no => rw [e1] at q; exact q.elim
  | ex z env' sto' => rw [e1] at q; exact q
  | ok t env1 sto1 =>
    rw [e1, GR.bind_ok] at q
    intro F1 H1 ρ1 v c1 f1 S1
    refine ⟨ρ1, env1, sto1, S1.viewE, S1.viewS, ?_⟩
    dsimp only
    cases e2 : pv cf env1 sto1 d with
    | no => rw [e2] at q; exact q.elim
    | ex z =>
      rw [e2] at q
      exact fun cls dd H' e xr => q F1 H' ρ1 cls dd (f1.trans (Fu.grow S1.fd e)) (S1.grow e).popAll xr
    | ok y =>
      rw [e2] at q
      intro w H2 p2
      have q' : PoG pd mg W lk F H ρ σ us ws ((cmpT op t y).g env1 sto1) Q := q
      cases e3 : cmpT op t y with
      | no => rw [e3] at q'; exact q'.elim
      | ex z => exact absurd e3 cmpT_noex
      | ok u =>
        rw [e3] at q'
        obtain ⟨b, rfl⟩ := cmpT_bl e3
        have S2 := S1.grow p2.ext
        refine ⟨ρ1, t, y, _, S2.topSn, p2.sn, e3, fun z H3 p3 => ?_⟩
        obtain rfl := sn_bl p3.sn
        exact q' F1 H3 ρ1 _ rfl (f1.trans ((Fu.grow S1.fd p2.ext).trans (Fu.grow S2.fd p3.ext))) ((S2.grow p3.ext).swap rfl (by simp [Sn]))
theorem sV (G : Gd X pd Nm sc cf k W) : ∀ (c : C) (e : Expr), chkC pd Nm sc c e = true → PE X e (tGv pd X.mg W fun lk env sto => gv cf lk c env sto)
  | .p d, e, h => sK G d e h
  | .call f as, e, h => (sCall G h).2
  | .meth a m as, e, h => (sMeth G h).2
  | .not c, e, h => by
    obtain ⟨x, p, rfl, h1, h2⟩ := cinv_not h
    have A := sV G c x h2
    refine PE.imp (pe_notTX A) fun σ H Q ⟨lk, F, ρ, env, us, ws, sto, S, q⟩ => ?_
    refine ⟨lk, F, ρ, env, us, ws, sto, S, ?_⟩
    dsimp only at q ⊢
    unfold gv at q
    cases e1 : gv cf lk c env sto with
    | no => rw [e1] at q; exact q.elim
    | ex z env' sto' => rw [e1] at q; exact q
    | ok t env1 sto1 =>
      rw [e1, GR.bind_ok] at q
      intro F1 H1 ρ1 v c1 f1 S1
      cases e2 : truthT t with
      | no => rw [e2] at q; exact q.elim
      | ex z => exact absurd e2 truthT_noex
      | ok b =>
        rw [e2] at q
        exact ⟨b, truth_ok S1.topSn e2, q F1 H1 ρ1 _ rfl f1 (S1.swap rfl (by simp [Sn]))⟩
  | .and a b, e, h => by
    obtain ⟨x, y, r, p, rfl, h0, h1, h2⟩ := cinv_and h
    have A := sV G a x h1
    have B : PE X (.BoolOp .And (y :: r) p) (tGv pd X.mg W fun lk env sto => gv cf lk b env sto) := by
      rcases h2 with ⟨rfl, _, h2⟩ | ⟨z, r', rfl, _, h2⟩
      · exact pe_one (sV G b y h2)
      · exact sV G b _ h2
    refine PE.imp (pe_and A B) fun σ H Q ⟨lk, F, ρ, env, us, ws, sto, S, q⟩ => ?_
    refine ⟨lk, F, ρ, env, us, ws, sto, S, ?_⟩
    dsimp only at q ⊢
    unfold gv at q
    cases e1 : gv cf lk a env sto with
    | no => rw [e1] at q; exact q.elim
    | ex z env' sto' => rw [e1] at q; exact q
    | ok t env1 sto1 =>
      rw [e1, GR.bind_ok] at q
      intro F1 H1 ρ1 v c1 f1 S1
      cases t <;> first | exact q.elim | skip
      rename_i c
      obtain rfl := sn_bl S1.topSn
      refine ⟨c, rfl, ?_⟩
      cases c with
      | true => dsimp only at q; rw [if_pos rfl] at q ⊢; exact ⟨lk, F1, ρ1, env1, us, ws, sto1, S1.pop, q.fut f1⟩
      | false => dsimp only at q; rw [if_neg Bool.false_ne_true] at q ⊢; exact q F1 H1 ρ1 _ rfl f1 S1
  | .or a b, e, h => by
    obtain ⟨x, y, r, p, rfl, h0, h1, h2⟩ := cinv_or h
    have A := sV G a x h1
    have B : PE X (.BoolOp .Or (y :: r) p) (tGv pd X.mg W fun lk env sto => gv cf lk b env sto) := by
      rcases h2 with ⟨rfl, _, h2⟩ | ⟨z, r', rfl, _, h2⟩
      · exact pe_one (sV G b y h2)
      · exact sV G b _ h2
    refine PE.imp (pe_or A B) fun σ H Q ⟨lk, F, ρ, env, us, ws, sto, S, q⟩ => ?_
    refine ⟨lk, F, ρ, env, us, ws, sto, S, ?_⟩
    dsimp only at q ⊢
    unfold gv at q
    cases e1 : gv cf lk a env sto with
    | no => rw [e1] at q; exact q.elim
    | ex z env' sto' => rw [e1] at q; exact q
    | ok t env1 sto1 =>
      rw [e1, GR.bind_ok] at q
      intro F1 H1 ρ1 v c1 f1 S1
      cases t <;> first | exact q.elim | skip
      rename_i c
      obtain rfl := sn_bl S1.topSn
      refine ⟨c, rfl, ?_⟩
      cases c with
      | false => dsimp only at q; rw [if_neg Bool.false_ne_true] at q ⊢; exact ⟨lk, F1, ρ1, env1, us, ws, sto1, S1.pop, q.fut f1⟩
      | true => dsimp only at q; rw [if_pos rfl] at q ⊢; exact q F1 H1 ρ1 _ rfl f1 S1
  | .cmp op c d, e, h => by
    obtain ⟨x, y, p, rfl, n1, h1, h2⟩ := cinv_cmp h
    have A := sV G c x h1
    have B := sE G d y h2
    have hu : X.A.units + 65 < cLine := u65 G.room
    refine ⟨fun pins s σ H Q I ⟨lk, F, ρ, env, us, ws, sto, S, q⟩ => ?_⟩
    have C : OpR X (compareOp (pyCmp op)) (fun v w H Q => ∃ ρ, rT ρ (cmpT op) v w H Q) := fun pins s σ H v w u1 u2 Q I r1 r2 ⟨ρ, z⟩ => cmp_ok (ρ := ρ) hu op pins s σ H v w u1 u2 Q I r1 r2 z
    refine (pe_cmpR C A B n1).run pins s σ H Q I ?_
    refine ⟨lk, F, ρ, env, us, ws, sto, S, ?_⟩
    exact gne F ρ S q
  | .dpop i d, e, h => by
    obtain ⟨x, p, ap, y, pos, rfl, h1, h2, h3, h4⟩ := cinv_dpop h
    have B := sE G d y h4
    have st := plain_star (xs := []) (env := X.env) h2
    have hm : M1 X (.Name x p) ("pop" : Str) ap y pos := ⟨rfl, few_ok rfl st rfl, h3, by show backTo pos (starEach [y] X.env) = _; rw [st]; rfl⟩
    refine PE.imp (pe_dpop1 (pe_n G h1) B hm) fun σ H Q ⟨lk, F, ρ, env, us, ws, sto, S, q⟩ => ?_
    dsimp only at q
    unfold gv at q
    split at q
    · rename_i n ks ts e1
      obtain ⟨v, e2, s2⟩ := S.viewE i _ (getV_ok e1)
      obtain ⟨a, vs0, rfl, ra0, _⟩ := sn_dic s2
      refine ⟨.ref a, e2, a, rfl, .inl ⟨_, ra0⟩, ρ, env, sto, S.viewE, S.viewS, ?_⟩
      dsimp only
      cases e3 : pv cf env sto d with
      | no => rw [e3] at q; exact q.elim
      | ex z => rw [e3] at q; exact fun cls dd H' e xr => q F H' ρ cls dd (Fu.grow S.fd e) (S.grow e).popAll xr
      | ok ty =>
        rw [e3] at q
        intro w H2 p2
        have S2 := S.grow p2.ext
        have q' : PoG pd X.mg W lk F H ρ σ us ws (match (keyT ty).bind fun k => (dgetT ks ts k).map fun t => (k, t) with
          | some (k, t) => .ok t (env.set i (some (.dic false n (ddropK ks k) (ddropT ks ts k)))) sto
          | none => .no) Q := q
        split at q'
        · rename_i key t e4
          obtain ⟨key', g1, g2⟩ := Option.bind_eq_some_iff.mp e4
          obtain ⟨t', g3, g4⟩ := Option.map_eq_some_iff.mp g2
          cases g4
          obtain rfl := keyT_ok p2.sn g1
          obtain ⟨a', vs, f1, f2, hlen, cl, fl, dk, put⟩ := S2.putD (getV_ok e1)
          rw [e2] at f1
          have ea : a = a' := by simpa using f1
          subst ea
          cases ek : kix ks key with
          | none => unfold dgetT at g3; rw [ek] at g3; cases g3
          | some j =>
            have gj : ts[j]? = some t := by unfold dgetT at g3; rw [ek] at g3; exact g3
            have hv : ∃ u, vs[j]? = some u := ⟨_, List.getElem?_eq_getElem (by rw [hlen, ← dk.1]; exact (kix_lt ek).1)⟩
            obtain ⟨u, hu⟩ := hv
            have ed : ddropT ks ts key = ts.eraseIdx j := by unfold ddropT; rw [ek]
            have ekd : ddropK ks key = ks.eraseIdx j := by unfold ddropK; rw [ek]
            obtain ⟨ff, SS⟩ := put (ddropK ks key) (ddropT ks ts key) (vs.eraseIdx j) n (t :: us) (u :: ws) (by rw [ed]; exact cleanL_erase cl) (fun z => by rw [ed]; exact flatL_erase (fl z)) (dky_drop dk key) (fun f fk r1 r2 => by
              obtain ⟨u', x1, x2, k1, k2, k3, k4⟩ := RpL.erase (j := j) r1 gj
              rw [hu] at k1
              obtain rfl := Option.some.inj k1
              refine ⟨x2, fun b => x1 b + fk b, by rw [ed]; exact k3, ?_, fun b => by have := k4 b; show x2 b + (x1 b + fk b) ≤ _; omega⟩
              simp only [RpL]
              exact ⟨u, ws, x1, fk, rfl, k2, r2, fun _ => rfl⟩)
            refine ⟨_, key, u, f2, rfl, ?_, ?_⟩
            · rw [valV_zip key (by rw [hlen, dk.1]), ek]; exact hu
            · rw [dropK_zip dk.2 (by rw [hlen, dk.1]) ek, ← ekd]
              have ct : clean t = true := by
                have : ∀ {l : List T} {j : Nat}, cleanL l = true → l[j]? = some t → clean t = true := by
                  intro l
                  induction l with
                  | nil => intro j _ e; simp at e
                  | cons x l ih =>
                    intro j h e
                    simp only [cleanL, Bool.and_eq_true] at h
                    cases j with
                    | zero => simp at e; subst e; exact h.1
                    | succ j => exact ih h.2 (by simpa using e)
                exact this cl gj
              exact q' F _ ρ u ct ((Fu.grow S.fd p2.ext).trans ff) SS
        · exact q'.elim
    · exact q.elim
  | .tup2 c d, e, h => by
    obtain ⟨x, y, kk, p, rfl, n1, n2, h1, h2⟩ := cinv_tup2 h
    have A := sV G c x h1
    have B := sV G d y h2
    refine PE.imp (pe_tup (pa_cons A (pa_cons B pa_nil (plain_star n2)) (plain_star n1))) fun σ H Q ⟨lk, F, ρ, env, us, ws, sto, S, q⟩ => ?_
    refine ⟨lk, F, ρ, env, us, ws, sto, S, ?_⟩
    dsimp only at q ⊢
    unfold gv at q
    cases e1 : gv cf lk c env sto with
    | no => rw [e1] at q; exact q.elim
    | ex z env' sto' => rw [e1] at q; exact q
    | ok t env1 sto1 =>
      rw [e1, GR.bind_ok] at q
      intro F1 H1 ρ1 v c1 f1 S1
      refine ⟨lk, F1, ρ1, env1, t :: us, v :: ws, sto1, S1, ?_⟩
      dsimp only
      cases e2 : gv cf lk d env1 sto1 with
      | no => rw [e2] at q; exact q.elim
      | ex z env' sto' => rw [e2] at q; exact fun F' H' ρ' cls dd g S x => q F' H' ρ' cls dd (f1.trans g) S x
      | ok u env2 sto2 =>
        rw [e2, GR.bind_ok] at q
        intro F2 H2 ρ2 w c2 f2 S2
        refine ⟨by show 2 ≤ sizeLine; rw [sizeLine_eq]; decide, fun a na => ?_⟩
        have S3 : Sr pd X.mg F2 H2 ρ2 lk σ env2 ([t, u] ++ us) ([v, w] ++ ws) sto2 := by
          have := S2.roll (ts := [u]) (vs := [w]) (t := t) (v := v) (us := us) (ws := ws) rfl
          exact this
        exact q F2 _ ρ2 (.ref a) (by simp [clean, cleanL, c1, c2]) ((f1.trans f2).trans (Fu.grow S3.fd (Ext.upd na))) (S3.tup rfl na)
  | .ix c d, e, h => by
    obtain ⟨x, y, p, rfl, n1, h1, h2⟩ := cinv_ix h
    have A := sV G c x h1
    have B := sE G d y h2
    refine ⟨fun pins s σ H Q I ⟨lk, F, ρ, env, us, ws, sto, S, q⟩ => ?_⟩
    have C : IxR X (fun v w H Q => ∃ ρ, rT ρ ixT v w H Q) := fun value slice pins s σ H v w u1 u2 Q I r1 r2 ⟨ρ, z⟩ hs => ix_ok (ρ := ρ) (by have := u65 G.room; omega) value slice pins s σ H v w u1 u2 Q I r1 r2 z hs
    refine (pe_ix C A B (plain_ix n1)).run pins s σ H Q I ?_
    refine ⟨lk, F, ρ, env, us, ws, sto, S, ?_⟩
    dsimp only at q ⊢
    unfold gv at q
    cases e1 : gv cf lk c env sto with
    | no => rw [e1] at q; exact q.elim
    | ex z env' sto' => rw [e1] at q; exact q
    | ok t env1 sto1 =>
      rw [e1, GR.bind_ok] at q
      intro F1 H1 ρ1 v c1 f1 S1
      refine ⟨ρ1, env1, sto1, S1.viewE, S1.viewS, ?_⟩
      dsimp only
      cases e2 : pv cf env1 sto1 d with
      | no => rw [e2] at q; exact q.elim
      | ex z =>
        rw [e2] at q
        exact fun cls dd H' e xr => q F1 H' ρ1 cls dd (f1.trans (Fu.grow S1.fd e)) (S1.grow e).popAll xr
      | ok y =>
        rw [e2] at q
        intro w H2 p2
        have q' : PoG pd X.mg W lk F H ρ σ us ws (((ixT t y).g env1 sto1).bind fun t env sto => if flat t then .ok t env sto else .no) Q := q
        cases e3 : ixT t y with
        | no => rw [e3] at q'; exact q'.elim
        | ex z => exact absurd e3 ixT_noex
        | ok u =>
          rw [e3] at q'
          have q2 : PoG pd X.mg W lk F H ρ σ us ws (if flat u then .ok u env1 sto1 else .no) Q := q'
          split at q2
          · rename_i hf
            have S2 := S1.grow p2.ext
            refine ⟨ρ1, t, y, u, S2.topSn, p2.sn, e3, fun z H3 p3 => ?_⟩
            exact q2 F1 H3 ρ1 z (clean_of_flat u hf) (f1.trans ((Fu.grow S1.fd p2.ext).trans (Fu.grow S2.fd p3.ext))) ((S2.grow p3.ext).swap hf p3.sn)
          · exact q2.elim
/-- a test that asks a reckoned value's truth -/
theorem gst_def {c : C} {e : Expr} (A : PE X e (tGv pd X.mg W fun lk env sto => gv cf lk c env sto)) (he : ∀ whole, isTrue e X.env whole = (do let v ← whole; standAt e.pos; holding [v] (truthy v))) :
    PT X e (tGb pd X.mg W fun lk env sto => (gv cf lk c env sto).bind fun t env sto => (truthT t).g env sto) := by
  refine PT.imp (pt_truthX A he) fun σ H Q ⟨lk, F, ρ, env, us, ws, sto, S, q⟩ => ?_
  refine ⟨lk, F, ρ, env, us, ws, sto, S, ?_⟩
  dsimp only at q ⊢
  cases e1 : gv cf lk c env sto with
  | no => rw [e1] at q; exact q.elim
  | ex z env' sto' => rw [e1] at q; exact q
  | ok t env1 sto1 =>
    rw [e1, GR.bind_ok] at q
    intro F1 H1 ρ1 v c1 f1 S1
    cases e2 : truthT t with
    | no => rw [e2] at q; exact q.elim
    | ex z => exact absurd e2 truthT_noex
    | ok b =>
      rw [e2] at q
      exact ⟨b, truth_ok S1.topSn e2, q F1 H1 ρ1 f1 S1.pop⟩
/-- .. that is a comparison -/
theorem gst_cmp (G : Gd X pd Nm sc cf k W) (op : COp) {c : C} {d : E} {x y : Expr} {p : Pos} (n : behindInMarks (pyCmp op) y = false) (A : PE X x (tGv pd X.mg W fun lk env sto => gv cf lk c env sto)) (B : PE X y (tPv pd X.mg W fun env sto => pv cf env sto d)) :
    PT X (.Compare x [pyCmp op] [y] p) (tGb pd X.mg W fun lk env sto => ((gv cf lk c env sto).bind fun x env sto => ((pv cf env sto d).g env sto).bind fun y env sto => (cmpT op x y).g env sto).bind fun t env sto => (truthT t).g env sto) := by
  have hu : X.A.units + 65 < cLine := u65 G.room
  refine ⟨fun pins s σ H Q I ⟨lk, F, ρ, env, us, ws, sto, S, q⟩ => ?_⟩
  have C : OpR X (compareOp (pyCmp op)) (fun v w H Q => ∃ ρ, rT ρ (cmpT op) v w H Q) := fun pins s σ H v w u1 u2 Q I r1 r2 ⟨ρ, z⟩ => cmp_ok (ρ := ρ) hu op pins s σ H v w u1 u2 Q I r1 r2 z
  refine (pt_cmpR C A B n).run pins s σ H Q I ?_
  refine ⟨lk, F, ρ, env, us, ws, sto, S, ?_⟩
  refine gne F ρ S ?_
  dsimp only at q
  cases e1 : gv cf lk c env sto with
  | no => rw [e1] at q; exact q.elim
  | ex z env' sto' => rw [e1] at q; exact q
  | ok t env1 sto1 =>
    rw [e1, GR.bind_ok] at q
    rw [GR.bind_ok]
    cases e2 : pv cf env1 sto1 d with
    | no => rw [e2] at q; exact q.elim
    | ex z => rw [e2] at q; exact q
    | ok y =>
      rw [e2] at q
      have q' : PoGB pd X.mg W lk F H ρ σ us ws (((cmpT op t y).g env1 sto1).bind fun t env sto => (truthT t).g env sto) Q := q
      show PoG pd X.mg W lk F H ρ σ us ws ((cmpT op t y).g env1 sto1) _
      cases e3 : cmpT op t y with
      | no => rw [e3] at q'; exact q'.elim
      | ex z => exact absurd e3 cmpT_noex
      | ok u =>
        rw [e3] at q'
        obtain ⟨b, rfl⟩ := cmpT_bl e3
        intro F' H' ρ' v _ f' S'
        obtain rfl := sn_bl S'.topSn
        exact ⟨b, rfl, q' F' H' ρ' f' S'.pop⟩
mutual
theorem sB (G : Gd X pd Nm sc cf k W) : ∀ (c : C) (e : Expr), tstX e = true → chkC pd Nm sc c e = true → PT X e (tGb pd X.mg W fun lk env sto => gt cf lk c env sto)
  | .p d, e, h0, h => gpb (sT G d e h0 h)
  | .call f as, e, h0, h => by
    obtain ⟨⟨fn, args, pos, rfl⟩, A⟩ := sCall G h
    exact gst_def A fun _ => rfl
  | .meth a m as, e, h0, h => by
    obtain ⟨⟨fn, args, pos, rfl⟩, A⟩ := sMeth G h
    exact gst_def A fun _ => rfl
  | .not c, e, h0, h => by
    obtain ⟨x, p, rfl, h1, h2⟩ := cinv_not h
    have A := sB G c x h1 h2
    refine PT.imp (pt_not A) fun σ H Q ⟨lk, F, ρ, env, us, ws, sto, S, q⟩ => ?_
    refine ⟨lk, F, ρ, env, us, ws, sto, S, ?_⟩
    dsimp only at q ⊢
    unfold gt at q
    cases e1 : gt cf lk c env sto with
    | no => rw [e1] at q; exact q.elim
    | ex z env' sto' => rw [e1] at q; exact q
    | ok b env1 sto1 => rw [e1, GR.bind_ok] at q; exact q
  | .and a b, e, h0, h => by
    obtain ⟨x, y, r, p, rfl, _⟩ := cinv_and h
    exact (sBw G (.and a b) _ h rfl).pt
  | .or a b, e, h0, h => by
    obtain ⟨x, y, r, p, rfl, _⟩ := cinv_or h
    exact (sBw G (.or a b) _ h rfl).pt
  | .cmp op c d, e, h0, h => by
    obtain ⟨x, y, p, rfl, n1, h1, h2⟩ := cinv_cmp h
    exact gst_cmp G op n1 (sV G c x h1) (sE G d y h2)
  | .tup2 c d, e, h0, h => by
    have A := sV G (.tup2 c d) e h
    obtain ⟨x, y, kk, p, rfl, _⟩ := cinv_tup2 h
    exact gst_def A fun _ => rfl
  | .dpop c d, e, h0, h => by
    have A := sV G (.dpop c d) e h
    obtain ⟨x, p, ap, y, pos, rfl, _⟩ := cinv_dpop h
    exact gst_def A fun _ => rfl
  | .ix c d, e, h0, h => by
    have A := sV G (.ix c d) e h
    obtain ⟨x, y, p, rfl, _⟩ := cinv_ix h
    exact gst_def A fun _ => rfl
termination_by c e => (sizeOf c, 2)
theorem sBw (G : Gd X pd Nm sc cf k W) : ∀ (c : C) (e : Expr), chkC pd Nm sc c e = true → (isA c || isO c) = true → PW X e (tGb pd X.mg W fun lk env sto => gt cf lk c env sto)
  | .p d, e, h, ha => by
    refine gpw (sW G d e h ?_)
    cases d <;> first | rfl | (simp [isA, isO] at ha)
  | .and a b, e, h, _ => by
    obtain ⟨x, y, r, p, rfl, h0, h1, h2⟩ := cinv_and h
    have A := sB G a x h0 h1
    have B : PW X (.BoolOp .And (y :: r) p) (tGb pd X.mg W fun lk env sto => gt cf lk b env sto) := by
      rcases h2 with ⟨rfl, h3, h2⟩ | ⟨z, r', rfl, ha, h2⟩
      · exact pw_and1 (sB G b y h3 h2)
      · exact sBw G b _ h2 (by rw [ha]; rfl)
    refine PW.imp (pw_and A B) fun σ H Q ⟨lk, F, ρ, env, us, ws, sto, S, q⟩ => ?_
    refine ⟨lk, F, ρ, env, us, ws, sto, S, ?_⟩
    dsimp only at q ⊢
    unfold gt at q
    cases e1 : gt cf lk a env sto with
    | no => rw [e1] at q; exact q.elim
    | ex z env' sto' => rw [e1] at q; exact q
    | ok c env1 sto1 =>
      rw [e1, GR.bind_ok] at q
      intro F1 H1 ρ1 f1 S1
      cases c with
      | true => rw [if_pos rfl] at q ⊢; exact ⟨lk, F1, ρ1, env1, us, ws, sto1, S1, q.fut f1⟩
      | false => rw [if_neg Bool.false_ne_true] at q ⊢; exact q F1 H1 ρ1 f1 S1
  | .or a b, e, h, _ => by
    obtain ⟨x, y, r, p, rfl, h0, h1, h2⟩ := cinv_or h
    have A := sB G a x h0 h1
    have B : PW X (.BoolOp .Or (y :: r) p) (tGb pd X.mg W fun lk env sto => gt cf lk b env sto) := by
      rcases h2 with ⟨rfl, h3, h2⟩ | ⟨z, r', rfl, ha, h2⟩
      · exact pw_or1 (sB G b y h3 h2)
      · exact sBw G b _ h2 (by rw [ha, Bool.or_true])
    refine PW.imp (pw_or A B) fun σ H Q ⟨lk, F, ρ, env, us, ws, sto, S, q⟩ => ?_
    refine ⟨lk, F, ρ, env, us, ws, sto, S, ?_⟩
    dsimp only at q ⊢
    unfold gt at q
    cases e1 : gt cf lk a env sto with
    | no => rw [e1] at q; exact q.elim
    | ex z env' sto' => rw [e1] at q; exact q
    | ok c env1 sto1 =>
      rw [e1, GR.bind_ok] at q
      intro F1 H1 ρ1 f1 S1
      cases c with
      | false => rw [if_neg Bool.false_ne_true] at q ⊢; exact ⟨lk, F1, ρ1, env1, us, ws, sto1, S1, q.fut f1⟩
      | true => rw [if_pos rfl] at q ⊢; exact q F1 H1 ρ1 f1 S1
  | .call f as, e, h, ha => by simp [isA, isO] at ha
  | .meth a m as, e, h, ha => by simp [isA, isO] at ha
  | .not c, e, h, ha => by simp [isA, isO] at ha
  | .cmp op c d, e, h, ha => by simp [isA, isO] at ha
  | .tup2 c d, e, h, ha => by simp [isA, isO] at ha
  | .ix c d, e, h, ha => by simp [isA, isO] at ha
  | .dpop c d, e, h, ha => by simp [isA, isO] at ha
termination_by c e => (sizeOf c, 1)
end
end
end Tr
/-! TrKeep: names that a block does not touch stay. -/
namespace Tr
open PySem
variable {N : Nat} {cf : CF} {xs : Nat → Nat → Bool} {lk : Bool} {j : Nat}
def GR.kp {α : Type} (j : Nat) (env : En) : GR α → Prop
  | .ok _ e _ => e[j]? = env[j]?
  | .ex _ e _ => e[j]? = env[j]?
  | .no => True
def SR.kp (j : Nat) (env : En) : SR → Prop
  | .nx e _ => e[j]? = env[j]?
  | .rt _ e _ => e[j]? = env[j]?
  | .ex _ e _ => e[j]? = env[j]?
  | .bk e _ => e[j]? = env[j]?
  | .ct e _ => e[j]? = env[j]?
  | .no => True
theorem SR.kp_noex {j : Nat} {env : En} {r : SR} (h : r.kp j env) : r.noex.kp j env := by
  cases r <;> first | exact h | trivial
theorem GR.kp_bind {α β : Type} {env : En} {r : GR α} {f : α → En → List Ob → GR β} (h : r.kp j env) (k : ∀ a e s, e[j]? = env[j]? → (f a e s).kp j env) : (r.bind f).kp j env := by
  cases r with
  | ok a e s => exact k a e s h
  | ex x e s => exact h
  | no => trivial
theorem GR.kp_thn {α : Type} {env : En} {r : GR α} {f : α → En → List Ob → SR} (h : r.kp j env) (k : ∀ a e s, e[j]? = env[j]? → (f a e s).kp j env) : (r.thn f).kp j env := by
  cases r with
  | ok a e s => exact k a e s h
  | ex x e s => exact h
  | no => trivial
theorem SR.kp_thn {env : En} {r : SR} {f : En → List Ob → SR} (h : r.kp j env) (k : ∀ e s, e[j]? = env[j]? → (f e s).kp j env) : (r.thn f).kp j env := by
  cases r with
  | nx e s => exact k e s h
  | rt t e s => exact h
  | ex x e s => exact h
  | bk e s => exact h
  | ct e s => exact h
  | no => trivial
theorem SR.kp_turn {env : En} {r : SR} {f : En → List Ob → SR} (h : r.kp j env) (k : ∀ e s, e[j]? = env[j]? → (f e s).kp j env) : (r.turn f).kp j env := by
  cases r with
  | nx e s => exact k e s h
  | rt t e s => exact h
  | ex x e s => exact h
  | bk e s => exact h
  | ct e s => exact k e s h
  | no => trivial
theorem SR.kp_of {env env' : En} {r : SR} (e : env'[j]? = env[j]?) (h : r.kp j env') : r.kp j env := by
  cases r with
  | nx _ s => exact h.trans e
  | rt t _ s => exact h.trans e
  | ex x _ s => exact h.trans e
  | bk _ s => exact h.trans e
  | ct _ s => exact h.trans e
  | no => trivial
theorem GR.kp_of {α : Type} {env env' : En} {r : GR α} (e : env'[j]? = env[j]?) (h : r.kp j env') : r.kp j env := by
  cases r with
  | ok _ _ s => exact h.trans e
  | ex x _ s => exact h.trans e
  | no => trivial
theorem Rs.kp_g {α : Type} {env : En} {sto} {r : Rs α} : (r.g env sto).kp j env := by
  cases r with
  | ok a => exact rfl
  | ex x => exact rfl
  | no => trivial
theorem set_kp {env : En} {i : Nat} {o : Option T} (h : i ≠ j) : (env.set i o)[j]? = env[j]? := List.getElem?_set_ne h
theorem lend_kp : ∀ {js : List Nat} {env : En}, j ∉ js → (lend js env)[j]? = env[j]?
  | [], _, _ => rfl
  | i :: js, env, h => by
    simp only [List.mem_cons, not_or] at h
    unfold lend
    rw [lend_kp h.2, set_kp (fun z => h.1 z.symm)]
theorem back_kp : ∀ {js : List Nat} {ts : List T} {env env' : En}, j ∉ js → giveBack js ts env = some env' → env'[j]? = env[j]?
  | [], [], env, env', _, e => by simp only [giveBack, Option.some.injEq] at e; rw [e]
  | [], _ :: _, _, _, _, e => by simp [giveBack] at e
  | _ :: _, [], _, _, _, e => by simp [giveBack] at e
  | i :: js, t :: ts, env, env', h, e => by
    simp only [List.mem_cons, not_or] at h
    simp only [giveBack] at e
    rw [back_kp h.2 e, set_kp (fun z => h.1 z.symm)]
theorem unpack_kp : ∀ {is : List Nat} {ts : List T} {env env' : En}, j ∉ is → unpack is ts env = some env' → env'[j]? = env[j]?
  | [], [], env, env', _, e => by simp only [unpack, Option.some.injEq] at e; rw [e]
  | [], _ :: _, _, _, _, e => by simp [unpack] at e
  | _ :: _, [], _, _, _, e => by simp [unpack] at e
  | i :: js, t :: ts, env, env', h, e => by
    simp only [List.mem_cons, not_or] at h
    simp only [unpack] at e
    rw [unpack_kp h.2 e, set_kp (fun z => h.1 z.symm)]
theorem gp_kp {d : E} {env : En} {sto} : (((pv cf env sto d).g env sto).bind fun t env sto => if clean t then GR.ok t env sto else .no).kp j env :=
  GR.kp_bind Rs.kp_g fun t e s h => by split <;> first | exact h | trivial
mutual
theorem kv_kp : ∀ (d : E) (env : En) (sto : List Ob), j ∉ tchE d → (kv cf d env sto).kp j env
  | .var i, env, sto, h => by
    unfold kv
    simp only [tchE, List.mem_singleton] at h
    split
    · split
      · exact rfl
      · split
        · exact set_kp (fun z => h z.symm)
        · trivial
    · trivial
  | .tup as, env, sto, h => by
    unfold kv
    exact GR.kp_bind (kvs_kp as env sto (by simpa [tchE] using h)) fun t e s h => by split <;> first | exact h | trivial
  | .lst as, env, sto, h => by
    unfold kv
    exact GR.kp_bind (kvs_kp as env sto (by simpa [tchE] using h)) fun t e s h => by split <;> first | exact h | trivial
  | .int i, env, sto, h => by unfold kv; exact gp_kp
  | .str i, env, sto, h => by unfold kv; exact gp_kp
  | .bl i, env, sto, h => by unfold kv; exact gp_kp
  | .non, env, sto, h => by unfold kv; exact gp_kp
  | .bin op a b, env, sto, h => by unfold kv; exact gp_kp
  | .neg a, env, sto, h => by unfold kv; exact gp_kp
  | .not a, env, sto, h => by unfold kv; exact gp_kp
  | .and a b, env, sto, h => by unfold kv; exact gp_kp
  | .or a b, env, sto, h => by unfold kv; exact gp_kp
  | .cmp op a b, env, sto, h => by unfold kv; exact gp_kp
  | .chain o1 o2 a b c, env, sto, h => by unfold kv; exact gp_kp
  | .ite c a b, env, sto, h => by unfold kv; exact gp_kp
  | .call f as, env, sto, h => by unfold kv; exact gp_kp
  | .meth a m as, env, sto, h => by unfold kv; exact gp_kp
  | .fld a n, env, sto, h => by unfold kv; exact gp_kp
  | .blt f as, env, sto, h => by unfold kv; exact gp_kp
  | .isi a t, env, sto, h => by unfold kv; exact gp_kp
  | .bm a m as, env, sto, h => by unfold kv; exact gp_kp
  | .srtk _ _ _, env, sto, h => by unfold kv; exact gp_kp
  | .dnew, env, sto, h => by unfold kv; exact gp_kp
  | .dis1 _ _, env, sto, h => by unfold kv; exact gp_kp
  | .dget _ _, env, sto, h => by unfold kv; exact gp_kp
  | .ix a i, env, sto, h => by unfold kv; exact gp_kp
  | .slc a lo hi, env, sto, h => by unfold kv; exact gp_kp
  | .lc v it tst elt, env, sto, h => by unfold kv; exact gp_kp
  | .lcr v lo hi tst elt, env, sto, h => by unfold kv; exact gp_kp
theorem kvs_kp : ∀ (ds : Es) (env : En) (sto : List Ob), j ∉ tchEs ds → (kvs cf ds env sto).kp j env
  | .nil, env, sto, h => by unfold kvs; exact rfl
  | .cons a as, env, sto, h => by
    unfold kvs
    simp only [tchEs, List.mem_append, not_or] at h
    refine GR.kp_bind (kv_kp a env sto h.1) fun t e s h1 => ?_
    exact GR.kp_bind (GR.kp_of h1 (kvs_kp as e s h.2)) fun ts e2 s2 h2 => h2
end
theorem gv_kp : ∀ (c : C) (env : En) (sto : List Ob), j ∉ tchC c → (gv cf lk c env sto).kp j env
  | .p d, env, sto, h => by unfold gv; exact kv_kp d env sto (by simpa [tchC] using h)
  | .call f as, env, sto, h => by
    unfold gv
    have h0 : j ∉ takn as := by simpa [tchC] using h
    have h' : j ∉ lentOf as := fun z => h0 (lentOf_sub z)
    split
    · split
      · split
        · split
          · rename_i e; exact (back_kp h' e).trans (lend_kp h0)
          · trivial
        · split
          · rename_i e; exact (back_kp h' e).trans (lend_kp h0)
          · trivial
        · trivial
      · exact rfl
      · trivial
    · trivial
  | .meth a m as, env, sto, h => by
    unfold gv
    split
    · split
      · split
        · exact rfl
        · exact rfl
        · trivial
      · exact rfl
      · trivial
    · exact rfl
    · trivial
  | .not c, env, sto, h => by
    unfold gv
    refine GR.kp_bind (gv_kp c env sto (by simpa [tchC] using h)) fun t e s h1 => ?_
    exact GR.kp_bind (GR.kp_of h1 Rs.kp_g) fun b e s h2 => h2
  | .and c d, env, sto, h => by
    unfold gv
    simp only [tchC, List.mem_append, not_or] at h
    refine GR.kp_bind (gv_kp c env sto h.1) fun t e s h1 => ?_
    split
    · split
      · exact GR.kp_of h1 (gv_kp d e s h.2)
      · exact h1
    · trivial
  | .or c d, env, sto, h => by
    unfold gv
    simp only [tchC, List.mem_append, not_or] at h
    refine GR.kp_bind (gv_kp c env sto h.1) fun t e s h1 => ?_
    split
    · split
      · exact h1
      · exact GR.kp_of h1 (gv_kp d e s h.2)
    · trivial
  | .cmp op c e, env, sto, h => by
    unfold gv
    refine GR.kp_bind (gv_kp c env sto (by simpa [tchC] using h)) fun t e s h1 => ?_
    refine GR.kp_bind (GR.kp_of h1 Rs.kp_g) fun b e s h2 => GR.kp_of h2 Rs.kp_g
  | .dpop i k, env, sto, h => by
    unfold gv
    simp only [tchC, List.mem_singleton] at h
    split
    · refine GR.kp_bind Rs.kp_g fun y e s h1 => ?_
      split
      · exact (set_kp fun z => h z.symm).trans h1
      · trivial
    · trivial
  | .tup2 c d, env, sto, h => by
    unfold gv
    simp only [tchC, List.mem_append, not_or] at h
    refine GR.kp_bind (gv_kp c env sto h.1) fun t e s h1 => ?_
    refine GR.kp_bind (GR.kp_of h1 (gv_kp d e s h.2)) fun b e s h2 => h2
  | .ix c e, env, sto, h => by
    unfold gv
    refine GR.kp_bind (gv_kp c env sto (by simpa [tchC] using h)) fun t e s h1 => ?_
    refine GR.kp_bind (GR.kp_of h1 Rs.kp_g) fun b e s h2 => ?_
    refine GR.kp_bind (GR.kp_of h2 Rs.kp_g) fun b e s h3 => ?_
    split
    · exact h3
    · trivial
theorem gtd_kp {c : C} {env : En} {sto : List Ob} (h : j ∉ tchC c) : ((gv cf lk c env sto).bind fun t env sto => (truthT t).g env sto).kp j env :=
  GR.kp_bind (gv_kp c env sto h) fun t e s h1 => GR.kp_of h1 Rs.kp_g
theorem gt_kp : ∀ (c : C) (env : En) (sto : List Ob), j ∉ tchC c → (gt cf lk c env sto).kp j env
  | .p d, env, sto, h => by unfold gt; exact Rs.kp_g
  | .call f as, env, sto, h => by unfold gt; exact gtd_kp h
  | .meth a m as, env, sto, h => by unfold gt; exact gtd_kp h
  | .not c, env, sto, h => by
    unfold gt
    exact GR.kp_bind (gt_kp c env sto (by simpa [tchC] using h)) fun t e s h1 => h1
  | .and c d, env, sto, h => by
    unfold gt
    simp only [tchC, List.mem_append, not_or] at h
    refine GR.kp_bind (gt_kp c env sto h.1) fun t e s h1 => ?_
    split
    · exact GR.kp_of h1 (gt_kp d e s h.2)
    · exact h1
  | .or c d, env, sto, h => by
    unfold gt
    simp only [tchC, List.mem_append, not_or] at h
    refine GR.kp_bind (gt_kp c env sto h.1) fun t e s h1 => ?_
    split
    · exact h1
    · exact GR.kp_of h1 (gt_kp d e s h.2)
  | .cmp op c e, env, sto, h => by unfold gt; exact gtd_kp h
  | .tup2 c d, env, sto, h => by unfold gt; exact gtd_kp h
  | .dpop i k, env, sto, h => by unfold gt; exact gtd_kp h
  | .ix c e, env, sto, h => by unfold gt; exact gtd_kp h
theorem loopW_kp {go : En → List Ob → SR} {test : En → List Ob → Rs Bool} (hg : ∀ e s, (go e s).kp j e) : ∀ (n : Nat) (env : En) (sto : List Ob), (loopW go test n env sto).kp j env
  | 0, _, _ => trivial
  | n + 1, env, sto => by
    unfold loopW
    split
    · exact SR.kp_turn (hg env sto) fun e s h => SR.kp_of h (loopW_kp hg n e s)
    · exact rfl
    · exact rfl
    · trivial
theorem loopL_kp {go : En → List Ob → SR} {i : Nat} (hi : i ≠ j) (hg : ∀ e s, (go e s).kp j e) : ∀ (ts : List T) (env : En) (sto : List Ob), (loopL go i ts env sto).kp j env
  | [], _, _ => rfl
  | t :: ts, env, sto => by
    unfold loopL
    exact SR.kp_turn (SR.kp_of (set_kp hi) (hg _ sto)) fun e s h => SR.kp_of h (loopL_kp hi hg ts e s)
theorem loopR_kp {go : En → List Ob → SR} {i : Nat} (hi : i ≠ j) (hg : ∀ e s, (go e s).kp j e) : ∀ (n : Nat) (k : Int) (env : En) (sto : List Ob), (loopR go i n k env sto).kp j env
  | 0, _, _, _ => rfl
  | n + 1, k, env, sto => by
    unfold loopR
    exact SR.kp_turn (SR.kp_of (set_kp hi) (hg _ sto)) fun e s h => SR.kp_of h (loopR_kp hi hg n (k + 1) e s)
theorem untup_kp {is : List Nat} {t : T} {env env' : En} (h : j ∉ is) (e : untup is t env = some env') : env'[j]? = env[j]? := by
  unfold untup at e
  split at e
  · exact unpack_kp h e
  · cases e
theorem loopT_kp {go : En → List Ob → SR} {is : List Nat} (hi : j ∉ is) (hg : ∀ e s, (go e s).kp j e) : ∀ (ts : List T) (env : En) (sto : List Ob), (loopT go is ts env sto).kp j env
  | [], _, _ => rfl
  | t :: ts, env, sto => by
    unfold loopT
    split
    · rename_i env' q
      exact SR.kp_turn (SR.kp_of (untup_kp hi q) (hg _ sto)) fun e s h => SR.kp_of h (loopT_kp hi hg ts e s)
    · trivial
theorem loopP_kp {go : En → List Ob → SR} {i : Nat} {st : Int} (hi : i ≠ j) (hg : ∀ e s, (go e s).kp j e) : ∀ (n : Nat) (k : Int) (env : En) (sto : List Ob), (loopP go i st n k env sto).kp j env
  | 0, _, _, _ => rfl
  | n + 1, k, env, sto => by
    unfold loopP
    exact SR.kp_turn (SR.kp_of (set_kp hi) (hg _ sto)) fun e s h => SR.kp_of h (loopP_kp hi hg n (k + st) e s)
theorem suite_kp {e : Exn} {ret : Option U} {sto : List Ob} : ∀ {l : List (Nat × U)} {env : En}, j ∉ l.map (·.1) → (suiteT xs e l ret env sto).kp j env
  | [], env, _ => by
    cases ret with
    | none => exact rfl
    | some u => unfold suiteT; split <;> first | exact rfl | trivial
  | (i, u) :: r, env, hn => by
    simp only [List.map_cons, List.mem_cons, not_or] at hn
    unfold suiteT
    split
    · exact SR.kp_of (set_kp (fun z => hn.1 z.symm)) (suite_kp hn.2)
    · trivial
theorem un_kp {nm : Option Nat} {env : En} (h : j ∉ (match nm with | some i => [i] | none => ([] : List Nat))) : (unNm nm env)[j]? = env[j]? := by
  cases nm with
  | none => rfl
  | some i => exact set_kp (fun z => h (by simp [z]))
theorem SR.un_kp {nm : Option Nat} {env : En} {r : SR} (h : j ∉ (match nm with | some i => [i] | none => ([] : List Nat))) (k : r.kp j env) : (r.un nm).kp j env := by
  cases r with
  | nx e s => exact (Tr.un_kp h).trans k
  | rt t e s => exact k
  | ex x e s => exact k
  | bk e s => exact k
  | ct e s => exact k
  | no => trivial
mutual
theorem ex_kp : ∀ (s : S) (env : En) (sto : List Ob), j ∉ tchS s → (ex N cf xs lk s env sto).kp j env
  | .pass, env, sto, h => rfl
  | .nev, env, sto, h => trivial
  | .brk, env, sto, h => rfl
  | .cnt, env, sto, h => rfl
  | .retn, env, sto, h => rfl
  | .set i c, env, sto, h => by
    simp only [tchS, List.mem_cons, not_or] at h
    have hi : i ≠ j := fun z => h.1 z.symm
    unfold ex
    split
    · rename_i k
      have hk : k ≠ j := fun z => h.2 (by simp [tchC, tchE, z])
      split
      · split
        · exact set_kp hi
        · exact (set_kp hi).trans (set_kp hk)
      · trivial
    · exact GR.kp_thn (gv_kp c env sto h.2) fun t e s h1 => (set_kp hi).trans h1
  | .mov i k, env, sto, h => by
    simp only [tchS, List.mem_cons, List.not_mem_nil, or_false, not_or] at h
    have hi : i ≠ j := fun z => h.1 z.symm
    unfold ex
    exact GR.kp_thn (gv_kp (.p (.var k)) env sto (by simpa [tchC, tchE] using h.2)) fun t e s h1 => (set_kp hi).trans h1
  | .setix i k d, env, sto, h => by
    simp only [tchS, List.mem_cons, not_or] at h
    have hi : i ≠ j := fun z => h.1 z.symm
    unfold ex
    refine GR.kp_thn (kv_kp d env sto h.2) fun t e s h1 => ?_
    split
    · refine GR.kp_thn (GR.kp_of h1 Rs.kp_g) fun y e s h1 => ?_
      split
      · split
        · exact (set_kp hi).trans h1
        · trivial
      · trivial
    · trivial
  | .setsl i lo hi d, env, sto, h => by
    simp only [tchS, List.mem_cons, not_or] at h
    have hi : i ≠ j := fun z => h.1 z.symm
    unfold ex
    refine GR.kp_thn (kv_kp d env sto h.2) fun t e s h1 => ?_
    split
    · refine GR.kp_thn (GR.kp_of h1 Rs.kp_g) fun y e s h1 => ?_
      refine GR.kp_thn (GR.kp_of h1 Rs.kp_g) fun y e s h1 => ?_
      split
      · split
        · exact (set_kp hi).trans h1
        · trivial
      · trivial
    · trivial
  | .app i d, env, sto, h => by
    simp only [tchS, List.mem_cons, not_or] at h
    have hi : i ≠ j := fun z => h.1 z.symm
    unfold ex
    split
    · refine GR.kp_thn (kv_kp d env sto h.2) fun t e s h1 => ?_
      split
      · split
        · exact (set_kp hi).trans h1
        · trivial
      · trivial
    · trivial
  | .setf a n c, env, sto, h => by
    unfold ex
    refine GR.kp_thn (gv_kp c env sto (by simpa [tchS] using h)) fun t e s h1 => ?_
    refine GR.kp_thn (GR.kp_of h1 Rs.kp_g) fun y e s h1 => ?_
    split
    · split
      · exact h1
      · trivial
    · trivial
  | .setfix a n k d, env, sto, h => by
    unfold ex
    refine GR.kp_thn (kv_kp d env sto (by simpa [tchS] using h)) fun t e s h1 => ?_
    refine GR.kp_thn (GR.kp_of h1 Rs.kp_g) fun y e s h1 => ?_
    split
    · split
      · refine GR.kp_thn (GR.kp_of h1 Rs.kp_g) fun y e s h1 => ?_
        split
        · split
          · split
            · exact h1
            · trivial
          · trivial
        · trivial
      · trivial
    · trivial
  | .appf a n d, env, sto, h => by
    unfold ex
    refine GR.kp_thn Rs.kp_g fun y e s h1 => ?_
    split
    · split
      · refine GR.kp_thn (GR.kp_of h1 Rs.kp_g) fun t e s h1 => ?_
        split
        · exact h1
        · trivial
      · trivial
    · trivial
  | .unp is c, env, sto, h => by
    simp only [tchS, List.mem_append, not_or] at h
    unfold ex
    refine GR.kp_thn (gv_kp c env sto h.2) fun t e s h1 => ?_
    split
    · split
      · rename_i q; exact (unpack_kp h.1 q).trans h1
      · trivial
    · trivial
  | .expr c, env, sto, h => by
    unfold ex
    exact GR.kp_thn (gv_kp c env sto (by simpa [tchS] using h)) fun t e s h1 => h1
  | .ret c, env, sto, h => by
    unfold ex
    exact GR.kp_thn (gv_kp c env sto (by simpa [tchS] using h)) fun t e s h1 => h1
  | .ife t a b, env, sto, h => by
    simp only [tchS, List.mem_append, not_or] at h
    unfold ex
    refine GR.kp_thn (gt_kp t env sto h.1.1) fun c e s h1 => ?_
    split
    · exact SR.kp_of h1 (exs_kp a e s h.1.2)
    · exact SR.kp_of h1 (exs_kp b e s h.2)
  | .whl t b, env, sto, h => by
    unfold ex
    exact loopW_kp (fun e s => exs_kp b e s (by simpa [tchS] using h)) _ _ _
  | .forv i k b, env, sto, h => by
    simp only [tchS, List.mem_cons, not_or] at h
    unfold ex
    split
    · exact loopL_kp (fun z => h.1 z.symm) (fun e s => exs_kp b e s h.2) _ _ _
    · trivial
  | .forr i lo hi b, env, sto, h => by
    simp only [tchS, List.mem_cons, not_or] at h
    unfold ex
    refine GR.kp_thn Rs.kp_g fun t e s h1 => ?_
    refine GR.kp_thn (GR.kp_of h1 Rs.kp_g) fun y e s h1 => ?_
    split
    · split
      · exact SR.kp_of h1 (loopR_kp (fun z => h.1 z.symm) (fun e s => exs_kp b e s h.2) _ _ _ _)
      · trivial
    · trivial
  | .fore i d b, env, sto, h => by
    simp only [tchS, List.mem_cons, not_or] at h
    unfold ex
    refine GR.kp_thn Rs.kp_g fun t e s h1 => ?_
    split
    · split
      · exact SR.kp_of h1 (loopL_kp (fun z => h.1 z.symm) (fun e s => exs_kp b e s h.2) _ _ _)
      · trivial
    · trivial
  | .fort is d b, env, sto, h => by
    simp only [tchS, List.mem_append, not_or] at h
    unfold ex
    refine GR.kp_thn Rs.kp_g fun t e s h1 => ?_
    split
    · split
      · exact SR.kp_of h1 (loopT_kp h.1 (fun e s => exs_kp b e s h.2) _ _ _)
      · trivial
    · trivial
  | .fortv is k b, env, sto, h => by
    simp only [tchS, List.mem_append, not_or] at h
    unfold ex
    split
    · exact loopT_kp h.1 (fun e s => exs_kp b e s h.2) _ _ _
    · trivial
  | .fors i lo hi st b, env, sto, h => by
    simp only [tchS, List.mem_cons, not_or] at h
    unfold ex
    refine GR.kp_thn Rs.kp_g fun t e s h1 => ?_
    refine GR.kp_thn (GR.kp_of h1 Rs.kp_g) fun y e s h1 => ?_
    refine GR.kp_thn (GR.kp_of h1 Rs.kp_g) fun y e s h1 => ?_
    split
    · split
      · exact SR.kp_of h1 (loopP_kp (fun z => h.1 z.symm) (fun e s => exs_kp b e s h.2) _ _ _ _)
      · trivial
    · trivial
  | .dset i k d, env, sto, h => by
    simp only [tchS, List.mem_cons, not_or] at h
    have hi : i ≠ j := fun z => h.1 z.symm
    unfold ex
    refine GR.kp_thn (kv_kp d env sto h.2) fun t e s h1 => ?_
    split
    · refine GR.kp_thn (GR.kp_of h1 Rs.kp_g) fun y e s h1 => ?_
      split
      · split
        · exact (set_kp hi).trans h1
        · trivial
      · trivial
    · trivial
  | .dsd i k d, env, sto, h => by
    simp only [tchS, List.mem_singleton] at h
    have hi : i ≠ j := fun z => h z.symm
    unfold ex
    split
    · refine GR.kp_thn Rs.kp_g fun y e s h1 => ?_
      refine GR.kp_thn (GR.kp_of h1 Rs.kp_g) fun y e s h1 => ?_
      split
      · split
        · exact (set_kp hi).trans h1
        · trivial
      · trivial
    · trivial
  | .clr i, env, sto, h => by
    simp only [tchS, List.mem_singleton] at h
    unfold ex
    split
    · exact set_kp fun z => h z.symm
    · trivial
  | .clrd i, env, sto, h => by
    simp only [tchS, List.mem_singleton] at h
    unfold ex
    split
    · exact set_kp fun z => h z.symm
    · trivial
  | .fork i k b, env, sto, h => by
    simp only [tchS, List.mem_cons, not_or] at h
    unfold ex
    split
    · exact SR.kp_noex (loopL_kp (fun z => h.1 z.symm) (fun e s => exs_kp b e s h.2) _ _ _)
    · trivial
  | .clr1 i, env, sto, h => by
    simp only [tchS, List.mem_singleton] at h
    unfold ex
    split
    · exact set_kp fun z => h z.symm
    · trivial
  | .raise c .none, env, sto, h => rfl
  | .raise c (.some d), env, sto, h => by
    unfold ex
    refine GR.kp_thn Rs.kp_g fun t e s h1 => ?_
    split
    · exact h1
    · trivial
  | .tryx b hs, env, sto, h => by
    simp only [tchS, List.mem_append, not_or] at h
    unfold ex
    have q := exs_kp b env sto h.1
    revert q
    cases exs N cf xs lk b env sto with
    | ex e env' sto' => exact fun q => SR.kp_of q (hdl_kp e hs env' sto' h.2)
    | nx _ _ => exact id
    | rt _ _ _ => exact id
    | bk _ _ => exact id
    | ct _ _ => exact id
    | no => exact id
theorem exs_kp : ∀ (ss : Ss) (env : En) (sto : List Ob), j ∉ tchSs ss → (exs N cf xs lk ss env sto).kp j env
  | .nil, env, sto, h => rfl
  | .cons s ss, env, sto, h => by
    simp only [tchSs, List.mem_append, not_or] at h
    unfold exs
    exact SR.kp_thn (ex_kp s env sto h.1) fun e t h1 => SR.kp_of h1 (exs_kp ss e t h.2)
theorem hdl_kp (e : Exn) : ∀ (hs : Hs) (env : En) (sto : List Ob), j ∉ tchH hs → (hdl N cf xs lk e hs env sto).kp j env
  | .nil, env, sto, h => rfl
  | .cons c nm sets ret hs, env, sto, h => by
    simp only [tchH, List.mem_append, not_or] at h
    unfold hdl
    split
    · exact SR.un_kp h.1.1 (SR.kp_of (un_kp h.1.1) (suite_kp h.1.2))
    · exact hdl_kp e hs env sto h.2
end
end Tr
/-! TrExi: own exceptions with a field: made, asked for their class. -/
namespace Tr
open PySem PySem.Spec PyProof.Rows L2
abbrev bmVE : List Value := [.type "ValueError", .type "Exception", .type "BaseException", .type "object"]
theorem tail_refs : ∀ l : List Value, PySem.W.excTail bmVE l = true → PySem.HandSPX.refsVE l = true := by
  intro l
  induction l with
  | nil => intro e; exact absurd e (by decide)
  | cons a r ih =>
    intro e
    rcases PySem.W.excTail_cases (a :: r) e with ⟨c, r', q, h⟩ | q
    · obtain ⟨rfl, rfl⟩ := List.cons.inj q
      exact ih h
    · rw [q]; rfl
/-- a class that may be made with an __init__ of its own -/
theorem oex_of {K : PySem.W.Frag} {C : Addr} (q : PySem.W.excInitIn K C bmVE "ValueError.__new__" = true) (hd : PySem.W.hasDictIn K C = true) (sa : PySem.W.findIn K (.ref C) "__setattr__" = some (some (.builtin "object.__setattr__")))
    (ex : PySem.W.subIn K (.ref C) (.type "BaseException") = some true) (ty : PySem.W.typeIn K (.ref C) = some (.type "type")) (kc : PySem.W.keepIn K (.ref C) = true) : OexC K C := by
  refine ⟨?_, sa, ex, ty, kc⟩
  unfold PySem.W.excInitIn at q
  split at q
  · rename_i dd cd sl hl
    split at q
    · rename_i D tl k0 k1 k2 k3 nw k5 hmro hslot
      simp only [Bool.and_eq_true, beq_iff_eq, Bool.not_eq_true'] at q
      obtain ⟨⟨⟨rfl, rfl⟩, nodel⟩, tail⟩ := q
      have hh : cd.hasDict = true := by
        unfold PySem.W.hasDictIn PySem.W.clsIn at hd
        rw [hl] at hd
        simpa using hd
      obtain ⟨nm, bs, mro, nsp, qn, hdi, sn, sub, ab, col, del⟩ := cd
      simp only at hmro nodel hh
      subst hmro nodel hh
      have e : sl = #[k0, k1, k2, k3, some (.builtin "ValueError.__new__"), k5] := by
        obtain ⟨l⟩ := sl
        simp only at hslot
        rw [hslot]
      subst e
      exact ⟨nm, qn, nsp, bs, tl, sn, sub, ab, col, dd, k0, k1, k2, k3, k5, hl, tail_refs tl tail⟩
    · cases q
  · cases q
/-- the text of such an __init__ -/
def chkIni (nm b : Str) (N : List Str) (sc : Scope) (body : List Stmt) : Bool := match N, body with
  | [s, v], [.Expr (.Call (.Attribute (.Name b' _) f p2) [.Name s1 _, .Constant (.str _) _ _] [] p5) _, .Assign [.Attribute (.Name s2 _) nm' _] (.Name v1 _) _] =>
    b' == b && f == ("__init__" : Str) && (p2.endLine == p5.line) && nm' == nm && s1 == s && s2 == s && v1 == v && glB sc b && visB sc s && visB sc v &&
      !(s == ("__debug__" : Str)) && !(s == ("__classdict__" : Str)) && !(v == ("__debug__" : Str)) && !(v == ("__classdict__" : Str))
  | _, _ => false
/-- what stands behind the top of a class of exceptions with a field -/
structure IniK (K : PySem.W.Frag) (mg : Str → Option Value) (C : Addr) (nm : Str) : Prop where
  ox : OexC K C
  no : PySem.W.findIn K (.ref C) nm = some none
  fn : ∃ (fI : Addr) (fd : FuncData) (x q : Str) (args : Arguments) (body : List Stmt) (sc : Scope) (N : List Str) (b : Str) (B : Addr) (mc : Value),
    PySem.W.findIn K (.ref C) "__init__" = some (some (.ref fI)) ∧ PySem.W.typeIn K (.ref fI) = some (.type "function") ∧ FunD K x q args body sc [] [] fI fd ∧ Binds K fd N [] ∧ FnScope N N sc ∧ chkIni nm b N sc body = true ∧
    mg b = some (.ref B) ∧ ClX.CRead K B mc ∧ PySem.W.findCls K (.ref B) mc "__init__" = some (.val (.builtin "ValueError.__init__"))
/-- B.__init__(self, ..), B an own class -/
theorem pe_clinit {X : Cx} {x : Str} {B : Addr} {mc : Value} {e : Expr} {es : List Expr} {ta : TA} {cp apos pos : Pos} (hg : Gl X x) (hm : X.mg x = some (.ref B)) (hdb : (x == ("__debug__" : Str)) = false) (r : ClX.CRead X.K B mc) (c : PySem.W.findCls X.K (.ref B) mc "__init__" = some (.val (.builtin "ValueError.__init__")))
    (ha : PA X (e :: es) ta) (hl : (apos.endLine == pos.line) = true) (hf : fewB (e :: es) = true) (hst : starEach (e :: es) X.env = (false, eval e X.env) :: starEach es X.env) (hpl : (starEach es X.env).any (·.1) = false) :
    PE X (.Call (.Attribute (.Name x cp) "__init__" apos) (e :: es) [] pos) (tVeI X.K ta) := by
  refine ⟨fun pins s σ H Q I h => ?_⟩
  have hp2 : (backTo pos (starEach es X.env)).any (·.1) = false := by unfold backTo; rw [List.any_map]; exact hpl
  refine PySem.W.methodCall_KW (pl := plO (.Name x cp) X.env) (ld_glob I hg hm ?_ hdb) (meth_tree rfl hl hf (by rw [hst]; simpa using hpl))
  refine PySem.W.method_cls I.kIn r.ga (PySem.W.cls_value I.kIn r.rd c (by rfl) ?_)
  refine PyProof.Rows.callWith_method1 (thn (ha.run pos pins _ σ H _ (I.tok _) h) fun us s1 ⟨vs, H1, I1, r1, a, C, ws, ev, hlen, T, ea, q⟩ => ?_) hst hp2
  subst ev
  cases r1 with
  | cons ra rw' =>
    have e1 := ra
    cases e1
    refine oinit_ok T I1 ea ?_ fun s' J => ⟨.non, H1, J, rfl, q⟩
    rw [← Paired.length rw', sizeLine_eq]
    omega
def spXi (C : Addr) (nm : Str) : Sp := fun vs H Q _ => ∃ a v, vs = [.ref a, v] ∧ H a = some (exo a C none) ∧ ∀ dx, H dx = none → dx ≠ a → Q .non (upd (upd H dx (exd dx [(nm, v)])) a (exo a C (some dx)))
theorem gl_at {X : Cx} {sc : Scope} {x : Str} (e : X.env.scope = sc) (h : glB sc x = true) : Gl X x ∧ (x == ("__debug__" : Str)) = false := by
  unfold glB at h
  simp only [Bool.and_eq_true, Bool.not_eq_true'] at h
  refine ⟨?_, h.1.2⟩
  have h1 := h.1.1
  show X.env.scope.names.lookup x = some .globalImplicit
  rw [e]
  cases q : sc.names.lookup x with
  | none => rw [q] at h1; simp at h1
  | some a => rw [q] at h1; cases a <;> simp at h1 ⊢
theorem ini_ok {P : Program} {w : World} {K : PySem.W.Frag} {mg : Str → Option Value} {base : Heap} {C : Addr} {nm : Str} (T : IniK K mg C nm) :
    ∃ (fI : Addr) (fd : FuncData) (N : List Str), PySem.W.findIn K (.ref C) "__init__" = some (some (.ref fI)) ∧ PySem.W.typeIn K (.ref fI) = some (.type "function") ∧ Binds K fd N [] ∧ FnOk P w K mg base (L2.CX P w) 1 fI fd N (spXi C nm) := by
  obtain ⟨fI, fd, x, q, args, body, sc, N, b, B, mc, k1, k2, F, k4, S, ch, mb, cr, fc⟩ := T.fn
  refine ⟨fI, fd, N, k1, k2, k4, ?_⟩
  unfold chkIni at ch
  split at ch
  · rename_i s v b' p1 f p2 s1 p3 m j p4 p5 p6 s2 p7 nm' p8 v1 p9 p10
    simp only [Bool.and_eq_true, beq_iff_eq, Bool.not_eq_true'] at ch
    obtain ⟨⟨⟨⟨⟨⟨⟨⟨⟨⟨⟨⟨⟨rfl, rfl⟩, hl⟩, rfl⟩, rfl⟩, rfl⟩, rfl⟩, g1⟩, g2⟩, g3⟩, g4⟩, g5⟩, g6⟩, g7⟩ := ch
    refine F.ok S (fun vs H Q E ⟨a, v, h, _⟩ => by rw [h]; rfl) fun cdv A outer st H vs Q E hr ⟨a, y, ev, ea, post⟩ => ?_
    subst ev
    let X := cxOf (L2.CX P w) P w K mg base [s2, v1] q sc fI cdv A outer st H E
    obtain ⟨hg, hdb⟩ := gl_at (X := X) (sc := sc) rfl g1
    have ps : PE X (.Name s2 p3) (tVar 0) := pe_var (X := X) rfl (vis_of g2) g4 g5
    have ps2 : PE X (.Name s2 p7) (tVar 0) := pe_var (X := X) rfl (vis_of g2) g4 g5
    have pv : PE X (.Name v1 p9) (tVar 1) := pe_var (X := X) rfl (vis_of g3) g6 g7
    have A1 : PS X (.Expr (.Call (.Attribute (.Name b' p1) "__init__" p2) [.Name s2 p3, .Constant (.str m) j p4] [] p5) p6) _ := ps_expr (pe_clinit (X := X) hg mb hdb cr fc (pa_cons ps (pa_cons pe_str pa_nil rfl) rfl) (beq_iff_eq.mpr hl) rfl rfl rfl)
    have A2 : PS X (.Assign [.Attribute (.Name s2 p7) nm' p8] (.Name v1 p9) p10) _ := ps_ost ps2 pv
    refine ⟨_, pss_cons A1 (pss_one A2), ?_⟩
    refine ⟨.ref a, rfl, a, C, [.str m], rfl, by simp, T.ox, ea, ?_⟩
    refine ⟨y, rfl, .ref a, rfl, a, C, rfl, T.ox, T.no, .inl ⟨ea, fun dx n d => ?_⟩⟩
    exact post dx n d
  · exact absurd ch Bool.false_ne_true
/-- the dict of an exception with a field stands -/
def DictOk (d : Option Addr) (H : Hp) : Prop := match d with
  | none => True
  | some dd => ∃ fs, H dd = some (.xd fs)
theorem DictOk.up {d : Option Addr} {H : Hp} {p : Addr} {o : HO} (h : DictOk d H) (n : H p = none) : DictOk d (upd H p o) := by
  cases d with
  | none => trivial
  | some dd =>
    obtain ⟨fs, e⟩ := h
    exact ⟨fs, by rw [upd_ne (fun z => by rw [z, n] at e; cases e)]; exact e⟩
theorem inst_e {X : Cx} {pins : List (Addr × Obj)} {σ : L2.St} {H : Hp} {s : Shared} {a D : Addr} {oe : Obj} {d : Option Addr} (I : Inv X pins σ H s) (hget : s.heap.get? a = some oe) (hz : Zc (.ref D) d oe) (hf : ∃ vs, oe.data = .fields vs) (hd : DictOk d H) : ∃ od, PySem.W.InstAt s.heap a oe D od := by
  obtain ⟨vs, hv⟩ := hf
  have no : PySem.W.notCls oe = true := by
    unfold PySem.W.notCls
    rw [hv] <;> rfl
  cases d with
  | none => exact ⟨none, hget, hz.1, no, by rw [hz.2]; trivial⟩
  | some dd =>
    obtain ⟨fs, ed⟩ := hd
    obtain ⟨mA, hns, _⟩ : ObjOk X.prog X.w H s.heap dd (.xd fs) := I.hok dd _ ed
    obtain ⟨od, ho, _⟩ := lookIn_ns hns
    exact ⟨some od, hget, hz.1, no, by rw [hz.2]; exact ho⟩
theorem cls_some {K : PySem.W.Frag} {C : Addr} (h : PySem.W.hasDictIn K C = true) : (PySem.W.clsIn K C).isSome = true := by
  obtain ⟨cd, hc, _⟩ := PySem.W.any_some h
  rw [hc]; rfl
theorem call_isF {X : Cx} {a D : Addr} {oe : Obj} {d : Option Addr} {pn : List (Addr × Obj)} (C : ExcC X.K D) (hz : Zc (.ref D) d oe) (hf : ∃ vs, oe.data = .fields vs) : CallR (X.suite a ((a, oe) :: pn)) (.builtin "isinstance") (fun xs H Q => rIsE X.K D a xs H Q ∧ DictOk d H) := by
  intro pins s σ H xs us Q I r ⟨⟨c, cv, b, ex, hcv, e, q⟩, hd⟩
  subst ex
  obtain ⟨u1, u2, rfl, r1, r2⟩ := vals2 r
  cases (show u1 = Value.ref a from r1)
  have ec := hcv _ r2
  subst ec
  obtain ⟨od, J⟩ := inst_e I (I.pin (a, oe) (List.mem_append.mpr (.inl List.mem_cons_self))).1 hz hf hd
  exact PySem.W.kia_one (PySem.W.kitx_exc (cls_some C.hd) C.hg C.hk C.hs C.ha C.hn C.ht C.hm) I.kIn J e (fun z => nomatch z) fun tk => ⟨.bl b, H, I.kept (t' := tk) fun _ _ z => z, rfl, q⟩
end Tr
/-! TrStmt: statements. -/
namespace Tr
open PySem PySem.Spec PyProof.Rows L2
/-- slots outside of A are as they were -/
structure Sg (A : List Nat) (σ σ' : L2.St) : Prop where
  len : σ'.length = σ.length
  at_ : ∀ j, j ∉ A → σ'[j]? = σ[j]?
theorem Sg.refl {A σ} : Sg A σ σ := ⟨rfl, fun _ _ => rfl⟩
theorem Sg.trans {A B C : List Nat} {σ σ1 σ2} (a : Sg A σ σ1) (b : Sg B σ1 σ2) (ha : ∀ j ∈ A, j ∈ C) (hb : ∀ j ∈ B, j ∈ C) : Sg C σ σ2 :=
  ⟨b.len.trans a.len, fun j h => (b.at_ j fun z => h (hb j z)).trans (a.at_ j fun z => h (ha j z))⟩
theorem Sg.mono {A B : List Nat} {σ σ1} (a : Sg A σ σ1) (h : ∀ j ∈ A, j ∈ B) : Sg B σ σ1 := ⟨a.len, fun j hj => a.at_ j fun z => hj (h j z)⟩
theorem Sg.set {σ : L2.St} {i : Nat} {w : Option V} : Sg [i] σ (σ.set i w) := ⟨by simp, fun j h => List.getElem?_set_ne fun z => h (by simp [z])⟩
/-- what the written part says of the own classes of exceptions -/
structure ExK (K : PySem.W.Frag) (mg : Str → Option Value) (pd : Pd) : Prop where
  cls : ∀ x c, pd.exs.lookup x = some c → ∃ C, mg x = some (.ref C) ∧ PySem.W.keepIn K (.ref C) = true ∧ PySem.W.subIn K (.ref C) (.type "BaseException") = some true ∧ PySem.W.typeIn K (.ref C) = some (.type "type") ∧ PySem.W.hasDictIn K C = true ∧
    (pd.efd c = none → PySem.W.excIn K C bmVE "ValueError.__new__" = true) ∧ ExcC K C
  ini : ∀ x c nm C, pd.exs.lookup x = some c → pd.efd c = some nm → mg x = some (.ref C) → IniK K mg C nm
  sub : ∀ x c y d C D, pd.exs.lookup x = some c → pd.exs.lookup y = some d → mg x = some (.ref C) → mg y = some (.ref D) → PySem.W.subIn K (.ref C) (.ref D) = some (pd.xs c d) ∧ PySem.W.kitOne K (.ref C) (.ref D) = some (pd.xs c d)
  ve : ∀ x c C, pd.exs.lookup x = some c → mg x = some (.ref C) → PySem.W.kitOne K (.ref C) (.type "ValueError") = some (pd.xs c 999)
/-- a place in the text from which statements are walked -/
structure Gs (X : Cx) (pd : Pd) (Nm : List Str) (sc : Scope) (cf : CF) (k : Nat) (W : WX) : Prop where
  gd : Gd X pd Nm sc cf k W
  po : PassesOwn (model X.prog X.w) X.A X.env X.xe
  nd : X.N.Nodup
  stk : X.stack = X.env :: X.outer
  frm : X.env.frame = some X.env.locals
  xk : ExK X.K X.mg pd
  fn : ∀ x, X.fn x = true
section
variable {pd : Pd} {mg : Str → Option Value} {W : WX} {lk : Bool} {F F1 : As} {H H1 : Hp} {ρ ρ1 : List Addr} {A B C : List Nat} {σ σ1 : L2.St} {r : SR} {D : Ends}
/-- what is wanted behind a block -/
def PoS (pd : Pd) (mg : Str → Option Value) (W : WX) (lk : Bool) (F : As) (H : Hp) (ρ : List Addr) (A : List Nat) (σ : L2.St) (r : SR) (D : Ends) : Prop := match r with
  | .nx env sto => ∀ F' H' ρ' σ', Fu lk F H ρ F' H' ρ' → Sr pd mg F' H' ρ' lk σ' env [] [] sto → Sg A σ σ' → D.nx σ' H'
  | .bk env sto => ∀ F' H' ρ' σ', Fu lk F H ρ F' H' ρ' → Sr pd mg F' H' ρ' lk σ' env [] [] sto → Sg A σ σ' → D.bk σ' H'
  | .ct env sto => ∀ F' H' ρ' σ', Fu lk F H ρ F' H' ρ' → Sr pd mg F' H' ρ' lk σ' env [] [] sto → Sg A σ σ' → D.ct σ' H'
  | .rt t env sto => ∀ F' H' ρ' σ' v, clean t = true → Fu lk F H ρ F' H' ρ' → Sr pd mg F' H' ρ' lk σ' env [t] [v] sto → Sg A σ σ' → D.rt v H'
  | .ex e env sto => ∀ F' H' ρ' σ' cls d, Fu lk F H ρ F' H' ρ' → Sr pd mg F' H' ρ' lk σ' env [] [] sto → Sg A σ σ' → ExR pd mg H' ρ' e cls d → W cls d σ' H'
  | .no => False
def tSt (pd : Pd) (mg : Str → Option Value) (W : WX) (A : List Nat) (r : Bool → En → List Ob → SR) : TS := fun D σ H => ∃ lk F ρ env sto, Sr pd mg F H ρ lk σ env [] [] sto ∧ PoS pd mg W lk F H ρ A σ (r lk env sto) D
theorem PoS.fut (f : Fu lk F H ρ F1 H1 ρ1) (g : Sg B σ σ1) (hB : ∀ j ∈ B, j ∈ C) (hA : ∀ j ∈ A, j ∈ C) (h : PoS pd mg W lk F H ρ C σ r D) : PoS pd mg W lk F1 H1 ρ1 A σ1 r D := by
  cases r with
  | nx env sto => exact fun F' H' ρ' σ' f' S sg => h F' H' ρ' σ' (f.trans f') S (g.trans sg hB hA)
  | bk env sto => exact fun F' H' ρ' σ' f' S sg => h F' H' ρ' σ' (f.trans f') S (g.trans sg hB hA)
  | ct env sto => exact fun F' H' ρ' σ' f' S sg => h F' H' ρ' σ' (f.trans f') S (g.trans sg hB hA)
  | rt t env sto => exact fun F' H' ρ' σ' v c f' S sg => h F' H' ρ' σ' v c (f.trans f') S (g.trans sg hB hA)
  | ex e env sto => exact fun F' H' ρ' σ' cls d f' S sg x => h F' H' ρ' σ' cls d (f.trans f') S (g.trans sg hB hA) x
  | no => exact h
theorem PoS.fu (f : Fu lk F H ρ F1 H1 ρ1) (h : PoS pd mg W lk F H ρ A σ r D) : PoS pd mg W lk F1 H1 ρ1 A σ r D := h.fut (B := A) f Sg.refl (fun _ h => h) fun _ h => h
theorem PoS.sub (hA : ∀ j ∈ A, j ∈ C) (h : PoS pd mg W lk F H ρ C σ r D) : PoS pd mg W lk F H ρ A σ r D := h.fut (B := A) Fu.refl Sg.refl hA hA
/-- one block behind another -/
theorem PoS.seq {g : En → List Ob → SR} (hA : ∀ j ∈ A, j ∈ C) (hB : ∀ j ∈ B, j ∈ C) (h : PoS pd mg W lk F H ρ C σ (r.thn g) D) :
    PoS pd mg W lk F H ρ A σ r { D with nx := fun σ' H' => ∃ F' ρ' env sto, Sr pd mg F' H' ρ' lk σ' env [] [] sto ∧ PoS pd mg W lk F' H' ρ' B σ' (g env sto) D } := by
  cases r with
  | nx env sto => exact fun F' H' ρ' σ' f' S sg => ⟨F', ρ', env, sto, S, h.fut f' sg hA hB⟩
  | bk env sto => exact h.sub hA
  | ct env sto => exact h.sub hA
  | rt t env sto => exact PoS.sub (r := .rt t env sto) hA h
  | ex e env sto => exact PoS.sub (r := .ex e env sto) (D := D) hA h
  | no => exact h
/-- one turn of a loop -/
theorem PoS.turn {g : En → List Ob → SR} (hB : ∀ j ∈ B, j ∈ A) (h : PoS pd mg W lk F H ρ A σ (r.turn g) D) : ∀ N : L2.St → Hp → Prop,
    (∀ F' H' ρ' σ' env sto, (r = .nx env sto ∨ r = .ct env sto) → Fu lk F H ρ F' H' ρ' → Sr pd mg F' H' ρ' lk σ' env [] [] sto → Sg B σ σ' → PoS pd mg W lk F' H' ρ' A σ' (g env sto) D → N σ' H') →
    PoS pd mg W lk F H ρ B σ r { D with nx := N, ct := N, bk := D.nx } := by
  intro N k
  cases r with
  | nx env sto => exact fun F' H' ρ' σ' f' S sg => k F' H' ρ' σ' env sto (.inl rfl) f' S sg (h.fut f' sg hB fun _ h => h)
  | ct env sto => exact fun F' H' ρ' σ' f' S sg => k F' H' ρ' σ' env sto (.inr rfl) f' S sg (h.fut f' sg hB fun _ h => h)
  | bk env sto => exact fun F' H' ρ' σ' f' S sg => h F' H' ρ' σ' f' S (sg.mono hB)
  | rt t env sto => exact fun F' H' ρ' σ' v c f' S sg => h F' H' ρ' σ' v c f' S (sg.mono hB)
  | ex e env sto => exact fun F' H' ρ' σ' cls d f' S sg x => h F' H' ρ' σ' cls d f' S (sg.mono hB) x
  | no => exact h
/-- a reckoning ahead -/
theorem PoG.of {gr : GR T} {g : T → En → List Ob → SR} {Q : VK} (h : PoS pd mg W lk F H ρ A σ (gr.thn g) D)
    (k : ∀ t env sto F' H' ρ' v, clean t = true → Fu lk F H ρ F' H' ρ' → Sr pd mg F' H' ρ' lk σ env [t] [v] sto → PoS pd mg W lk F' H' ρ' A σ (g t env sto) D → Q v H') : PoG pd mg W lk F H ρ σ [] [] gr Q := by
  cases gr with
  | ok t env sto => exact fun F' H' ρ' v c f S => k t env sto F' H' ρ' v c f S (h.fu f)
  | ex e env sto => exact fun F' H' ρ' cls d f S x => h F' H' ρ' σ cls d f S Sg.refl x
  | no => exact h
theorem PoGB.of {gr : GR Bool} {g : Bool → En → List Ob → SR} {Q : Bool → Hp → Prop} (h : PoS pd mg W lk F H ρ A σ (gr.thn g) D)
    (k : ∀ t env sto F' H' ρ', Fu lk F H ρ F' H' ρ' → Sr pd mg F' H' ρ' lk σ env [] [] sto → PoS pd mg W lk F' H' ρ' A σ (g t env sto) D → Q t H') : PoGB pd mg W lk F H ρ σ [] [] gr Q := by
  cases gr with
  | ok t env sto => exact fun F' H' ρ' f S => k t env sto F' H' ρ' f S (h.fu f)
  | ex e env sto => exact fun F' H' ρ' cls d f S x => h F' H' ρ' σ cls d f S Sg.refl x
  | no => exact h
/-- a pure value ahead, other values being kept -/
theorem PoV.of {env sto us ws} {m : Rs T} {g : T → En → List Ob → SR} {Q : VK} (S : Sr pd mg F H ρ lk σ env us ws sto) (h : PoS pd mg W lk F H ρ A σ ((m.g env sto).thn g) D)
    (k : ∀ t H' v, PR H ρ H' t v → PoS pd mg W lk F H' ρ A σ (g t env sto) D → Q v H') : PoV pd mg ρ (fun c d H' => W c d σ H') H m Q := by
  cases m with
  | ok t => exact fun v H' p => k t H' v p (h.fu (Fu.grow S.fd p.ext))
  | ex e => exact fun cls d H' e' x => h F H' ρ σ cls d (Fu.grow S.fd e') (S.grow e').popAll Sg.refl x
  | no => exact h
theorem PoO.of {env sto us ws} {m : Rs (Option Int)} {g : Option Int → En → List Ob → SR} {Q : Option Int → Hp → Prop} (S : Sr pd mg F H ρ lk σ env us ws sto) (h : PoS pd mg W lk F H ρ A σ ((m.g env sto).thn g) D)
    (k : ∀ t H', Ext H H' → PoS pd mg W lk F H' ρ A σ (g t env sto) D → Q t H') : PoO pd mg ρ (fun c d H' => W c d σ H') H m Q := by
  cases m with
  | ok t => exact fun v H' ⟨e, q⟩ => q ▸ k t H' e (h.fu (Fu.grow S.fd e))
  | ex e => exact fun cls d H' e' x => h F H' ρ σ cls d (Fu.grow S.fd e') (S.grow e').popAll Sg.refl x
  | no => exact h
end
theorem PS.imp {X : Cx} {st : Stmt} {t t' : TS} (h : PS X st t) (k : ∀ D σ H, σ.length = X.N.length → t' D σ H → t D σ H) : PS X st t' := ⟨fun pins s σ H D I w => h.run pins s σ H D I (k D σ H I.len w)⟩
theorem PSs.imp {X : Cx} {st : List Stmt} {t t' : TS} (h : PSs X st t) (k : ∀ D σ H, σ.length = X.N.length → t' D σ H → t D σ H) : PSs X st t' := ⟨fun pins s σ H D I w => h.run pins s σ H D I (k D σ H I.len w)⟩

section
variable {F F' : As} {H H' : Hp} {ρ ρ' : List Addr} {lk : Bool} {σ : L2.St} {env : En} {sto : List Ob} {ts us : List T} {vs ws : List V} {t : T} {v : V} {i : Nat} {n : Bool}
theorem RpL.set : ∀ {ts : List T} {vs : List V} {f ft : Fp} {j : Nat}, RpL F H ρ ts vs f → Rp F H ρ t v ft → ∃ f', RpL F H ρ (ts.set j t) (vs.set j v) f' ∧ ∀ b, f' b ≤ f b + ft b
  | [], vs, f, ft, j, h, r => by
    have e : vs = [] := by simp only [RpL] at h; exact h.1
    subst e
    exact ⟨f, h, fun b => by omega⟩
  | u :: ts, vs, f, ft, 0, h, r => by
    simp only [RpL] at h
    obtain ⟨w, vs', f1, f2, rfl, h1, h2, hf⟩ := h
    refine ⟨fun b => ft b + f2 b, ?_, fun b => by have := hf b; show ft b + f2 b ≤ _; omega⟩
    show RpL F H ρ (t :: ts) (v :: vs') _
    simp only [RpL]
    exact ⟨v, vs', ft, f2, rfl, r, h2, fun _ => rfl⟩
  | u :: ts, vs, f, ft, j + 1, h, r => by
    simp only [RpL] at h
    obtain ⟨w, vs', f1, f2, rfl, h1, h2, hf⟩ := h
    obtain ⟨f', k1, k2⟩ := RpL.set (j := j) h2 r
    refine ⟨fun b => f1 b + f' b, ?_, fun b => by have := hf b; have := k2 b; show f1 b + f' b ≤ _; omega⟩
    show RpL F H ρ (u :: ts.set j t) (w :: vs'.set j v) _
    simp only [RpL]
    exact ⟨w, _, f1, f', rfl, h1, k1, fun _ => rfl⟩
theorem cleanL_set : ∀ {ts : List T} {j : Nat}, cleanL ts = true → clean t = true → cleanL (ts.set j t) = true
  | [], j, h, c => h
  | u :: ts, 0, h, c => by simp only [cleanL, Bool.and_eq_true] at h; simp only [List.set_cons_zero, cleanL, Bool.and_eq_true]; exact ⟨c, h.2⟩
  | u :: ts, j + 1, h, c => by simp only [cleanL, Bool.and_eq_true] at h; simp only [List.set_cons_succ, cleanL, Bool.and_eq_true]; exact ⟨h.1, cleanL_set h.2 c⟩
theorem flatL_set : ∀ {ts : List T} {j : Nat}, flatL ts = true → flat t = true → flatL (ts.set j t) = true
  | [], j, h, c => h
  | u :: ts, 0, h, c => by simp only [flatL, Bool.and_eq_true] at h; simp only [List.set_cons_zero, flatL, Bool.and_eq_true]; exact ⟨c, h.2⟩
  | u :: ts, j + 1, h, c => by simp only [flatL, Bool.and_eq_true] at h; simp only [List.set_cons_succ, flatL, Bool.and_eq_true]; exact ⟨h.1, flatL_set h.2 c⟩
theorem cleanL_app : ∀ {ts us : List T}, cleanL ts = true → cleanL us = true → cleanL (ts ++ us) = true
  | [], us, h, c => c
  | u :: ts, us, h, c => by simp only [cleanL, Bool.and_eq_true] at h; simp only [List.cons_append, cleanL, Bool.and_eq_true]; exact ⟨h.1, cleanL_app h.2 c⟩
/-- a name's own list gets other content -/
theorem Sr.putL (S : Sr pd mg F H ρ lk σ env us ws sto) (e : env[i]? = some (some (.lst false n ts))) : ∃ a vs, σ[i]? = some (some (.ref a)) ∧ H a = some (.lst vs) ∧ vs.length = ts.length ∧ cleanL ts = true ∧ (n = false → flatL ts = true) ∧
    ∀ ts1 vs1 n1 us2 ws2, cleanL ts1 = true → (n1 = false → flatL ts1 = true) → (∀ f fk, RpL F H ρ ts vs f → RpL F H ρ us ws fk → ∃ f2 fk2, RpL F H ρ ts1 vs1 f2 ∧ RpL F H ρ us2 ws2 fk2 ∧ ∀ b, f2 b + fk2 b ≤ f b + fk b) →
      Fu lk F H ρ F (upd H a (.lst vs1)) ρ ∧ Sr pd mg F (upd H a (.lst vs1)) ρ lk σ (env.set i (some (.lst false n1 ts1))) us2 ws2 sto := by
  obtain ⟨⟨fe, fk, fs, h1, h2, h3, h4, h5⟩, fd⟩ := S
  obtain ⟨v, f1, f2, e1, r1, h6, hf⟩ := h1.take e
  simp only [Rp, Bool.false_eq_true, if_false] at r1
  obtain ⟨a, vs, f', rfl, ha, l, fl, cl, hf'⟩ := r1
  have hi : i < env.length := (List.getElem?_eq_some_iff.mp e).1
  refine ⟨a, vs, e1, ha, l.length, cl, fl, fun ts1 vs1 n1 us2 ws2 c1 fl1 k => ?_⟩
  obtain ⟨g, gk, k1, k2, k3⟩ := k f' fk l h2
  have za : f' a = 0 ∧ fk a = 0 ∧ f2 a = 0 ∧ fs a = 0 := by have := h4 a; have := hf a; have := hf' a; simp at this; omega
  have nF : ¬ F a := fun q => by have := h5 a q; have := hf a; have := hf' a; simp at this; omega
  have kp : Kp F H (upd H a (.lst vs1)) := ⟨fun b hb => upd_ne fun z => nF (z ▸ hb), fun b xs q => by
    rw [upd_ne fun z => by rw [z, ha] at q; cases q]; exact q⟩
  have keep : ∀ {f : Fp}, f a = 0 → ∀ b, f b ≠ 0 → upd H a (.lst vs1) b = H b := fun {f} z b hb => upd_ne fun q => hb (q ▸ z)
  have zg : g a = 0 ∧ gk a = 0 := by have := k3 a; omega
  refine ⟨⟨fun _ h => h, kp, Pre.refl, fun _ => rfl⟩, ⟨fun b => (g b + if b = a then 1 else 0) + f2 b, gk, fs, ?_, RpL.keep kp Pre.refl (fun _ h => h) _ _ gk (keep zg.2) k2, h3.keep kp Pre.refl (fun _ h => h) (keep za.2.2.2) rfl, fun b => ?_, fun b hb => ?_⟩, fun b hb => ?_⟩
  · have r2 : Rp F (upd H a (.lst vs1)) ρ (.lst false n1 ts1) (.ref a) (fun b => g b + if b = a then 1 else 0) := by
      simp only [Rp, Bool.false_eq_true, if_false]
      exact ⟨a, vs1, g, rfl, upd_same, RpL.keep kp Pre.refl (fun _ h => h) _ _ g (keep zg.1) k1, fl1, c1, fun _ => rfl⟩
    have p := (h6.keep kp Pre.refl (fun _ h => h) (keep za.2.2.1)).put hi r2
    rw [set_self e1] at p
    exact p
  · have a1 := h4 b; have a2 := hf b; have a3 := hf' b; have a4 := k3 b
    show g b + (if b = a then 1 else 0) + f2 b + gk b + fs b ≤ 1
    omega
  · have a1 := h5 b hb; have a2 := hf b; have a3 := hf' b; have a4 := k3 b
    show g b + (if b = a then 1 else 0) + f2 b + gk b + fs b = 0
    omega
  · obtain ⟨o, q⟩ := fd b hb
    have nb : b ≠ a := fun z => nF (z ▸ hb)
    exact ⟨o, by rw [upd_ne nb]; exact q⟩
/-- the list of a name's pair is cleared, the name is known no more -/
theorem Sr.clr1 {j : Int} {xs : List T} (S : Sr pd mg F H ρ lk σ env us ws sto) (e : env[i]? = some (some (.tup [.int j, .lst false n xs]))) : ∃ a al vs, σ[i]? = some (some (.ref a)) ∧ H a = some (.tup [.int j, .ref al]) ∧ H al = some (.lst vs) ∧
    Fu lk F H ρ F (upd H al (.lst [])) ρ ∧ Sr pd mg F (upd H al (.lst [])) ρ lk σ (env.set i none) us ws sto := by
  obtain ⟨⟨fe, fk, fs, h1, h2, h3, h4, h5⟩, fd⟩ := S
  obtain ⟨v, f1, f2, e1, r1, h6, hf⟩ := h1.take e
  simp only [Rp, RpL, Bool.false_eq_true, if_false] at r1
  obtain ⟨a, vs, rfl, ha, v1, vs1, g1, g2, rfl, ⟨z1, rfl⟩, ⟨v2, vs2, g3, g4, rfl, ⟨al, xs', f', rfl, hal, _, _, _, hf'⟩, ⟨rfl, z4⟩, hg2⟩, hg1⟩ := r1
  have za : f' al = 0 ∧ fk al = 0 ∧ f2 al = 0 ∧ fs al = 0 := by have := h4 al; have := hf al; have := hg1 al; have := hg2 al; have := hf' al; simp at this; omega
  have nF : ¬ F al := fun q => by have := h5 al q; have := hf al; have := hg1 al; have := hg2 al; have := hf' al; simp at this; omega
  have kp : Kp F H (upd H al (.lst [])) := ⟨fun b hb => upd_ne fun z => nF (z ▸ hb), fun b xs q => by
    rw [upd_ne fun z => by rw [z, hal] at q; cases q]; exact q⟩
  have keep : ∀ {f : Fp}, f al = 0 → ∀ b, f b ≠ 0 → upd H al (.lst []) b = H b := fun {f} z b hb => upd_ne fun q => hb (q ▸ z)
  refine ⟨a, al, xs', e1, ha, hal, ⟨fun _ h => h, kp, Pre.refl, fun _ => rfl⟩, ⟨f2, fk, fs, h6.keep kp Pre.refl (fun _ h => h) (keep za.2.2.1), RpL.keep kp Pre.refl (fun _ h => h) _ _ fk (keep za.2.1) h2, h3.keep kp Pre.refl (fun _ h => h) (keep za.2.2.2) rfl, fun b => ?_, fun b hb => ?_⟩, fun b hb => ?_⟩
  · have a1 := h4 b; have a2 := hf b
    omega
  · have a1 := h5 b hb; have a2 := hf b
    omega
  · obtain ⟨o, q⟩ := fd b hb
    have nb : b ≠ al := fun z => nF (z ▸ hb)
    exact ⟨o, by rw [upd_ne nb]; exact q⟩
/-- the last kept value is from now on only read -/
theorem Sr.hold (S : Sr pd mg F H ρ lk σ env (t :: us) (v :: ws) sto) : ∃ F', Fu lk F H ρ F' H ρ ∧ Sr pd mg F' H ρ lk σ env us ws sto ∧ Sn F' H ρ t v := by
  obtain ⟨⟨fe, fk, fs, h1, h2, h3, h4, h5⟩, fd⟩ := S
  simp only [RpL] at h2
  obtain ⟨v', vs', f1, f2, e, r1, r2, hf⟩ := h2
  obtain ⟨rfl, rfl⟩ := List.cons.inj e
  refine ⟨fun b => F b ∨ f1 b ≠ 0, ⟨fun _ h => .inl h, ⟨fun _ _ => rfl, fun _ _ h => h⟩, Pre.refl, fun _ => rfl⟩,
    ⟨⟨fe, f2, fs, h1.keep Kp.refl Pre.refl (fun _ h => .inl h) (fun _ _ => rfl), RpL.keep Kp.refl Pre.refl (fun _ h => .inl h) us ws f2 (fun _ _ => rfl) r2, h3.keep Kp.refl Pre.refl (fun _ h => .inl h) (fun _ _ => rfl) rfl, fun b => ?_, fun b hb => ?_⟩, fun b hb => ?_⟩,
    Rp.sn t v f1 (fun _ h => .inl h) (fun _ h => .inr h) r1⟩
  · have := h4 b; have := hf b; omega
  · have a1 := h4 b; have := hf b
    rcases hb with hb | hb
    · have := h5 b hb; omega
    · omega
  · rcases hb with hb | hb
    · exact fd b hb
    · obtain ⟨w, q⟩ := Rp.in_ t v f1 r1 b hb; exact ⟨_, q⟩
end
end Tr
/-! TrSto: a field is put, a field's list is changed. -/
namespace Tr
open PySem PySem.Spec PyProof.Rows L2
section
variable {pd : Pd} {mg : Str → Option Value} {F : As} {H H' : Hp} {ρ : List Addr} {t : T} {v : V} {n : Nat} {ft : Fp}
theorem FsR.len : ∀ {o : List (Nat × Option T)} {fs : List (Str × V)} {f : Fp}, FsR F H ρ o fs f → fs.length = o.length
  | [], fs, f, h => by rw [h.1]; rfl
  | (m, u) :: r, fs, f, h => by
    obtain ⟨w, fs', f1, f2, rfl, _, _, h3, _⟩ := h
    simp [h3.len]
theorem FsR.put (hn : n < 18) (ct : clean t = true) (rt : Rp F H ρ t v ft) : ∀ {o : List (Nat × Option T)} {fs : List (Str × V)} {f : Fp}, FsR F H ρ o fs f → ∃ f', FsR F H ρ (fputL o n (some t)) (L2.putF (fldN n) v fs) f' ∧ ∀ b, f' b ≤ f b + ft b
  | [], fs, f, h => by
    obtain ⟨rfl, h0⟩ := h
    refine ⟨ft, ⟨v, [], ft, fun _ => 0, rfl, hn, fun t' e => ?_, ⟨rfl, fun _ => rfl⟩, fun b => ⟨rfl, fun _ => by simp⟩⟩, fun b => by omega⟩
    have : t = t' := by simpa using e
    subst this
    exact ⟨ct, rt⟩
  | (m, u) :: r, fs, f, h => by
    obtain ⟨w, fs', f1, f2, rfl, h1, h2, h3, h4⟩ := h
    by_cases q : m = n
    · subst q
      have e1 : fputL ((m, u) :: r) m (some t) = (m, some t) :: r := if_pos rfl
      have e2 : L2.putF (fldN m) v ((fldN m, w) :: fs') = (fldN m, v) :: fs' := if_pos rfl
      rw [e1, e2]
      refine ⟨fun b => ft b + f2 b, ⟨v, fs', ft, f2, rfl, h1, fun t' e => ?_, h3, fun b => ⟨rfl, fun _ => by simp⟩⟩, fun b => by have := (h4 b).1; show ft b + f2 b ≤ _; omega⟩
      have : t = t' := by simpa using e
      subst this
      exact ⟨ct, rt⟩
    · have e1 : fputL ((m, u) :: r) n (some t) = (m, u) :: fputL r n (some t) := if_neg q
      have e2 : L2.putF (fldN n) v ((fldN m, w) :: fs') = (fldN m, w) :: L2.putF (fldN n) v fs' := if_neg fun z => q (fldN_inj h1 hn z)
      rw [e1, e2]
      obtain ⟨f', k1, k2⟩ := FsR.put hn ct rt h3
      exact ⟨fun b => f1 b + f' b, ⟨w, _, f1, f', rfl, h1, h2, k1, fun b => ⟨rfl, (h4 b).2⟩⟩, fun b => by have := (h4 b).1; have := k2 b; show f1 b + f' b ≤ _; omega⟩
/-- a field's own list -/
theorem FsR.lfield {m : Bool} {ts : List T} (hn : n < 18) : ∀ {o : List (Nat × Option T)} {fs : List (Str × V)} {f : Fp}, FsR F H ρ o fs f → fgetL o n = some (.lst false m ts) → ∃ (al : Addr) (vs : List V) (g : Fp), fs.lookup (fldN n) = some (.ref al) ∧ H al = some (.lst vs) ∧ RpL F H ρ ts vs g ∧ cleanL ts = true ∧ (m = false → flatL ts = true) ∧ (∀ b, g b + (if b = al then 1 else 0) ≤ f b) ∧
    ∀ (H' : Hp) (ts1 : List T) (vs1 : List V) (m1 : Bool) (fi : Fp), Kp F H H' → (∀ b, b ≠ al → f b ≠ 0 → H' b = H b) → H' al = some (.lst vs1) → f al ≤ 1 → cleanL ts1 = true → (m1 = false → flatL ts1 = true) → RpL F H' ρ ts1 vs1 fi → ∃ f', FsR F H' ρ (fputL o n (some (.lst false m1 ts1))) fs f' ∧ ∀ b, f' b + g b = f b + fi b
  | [], fs, f, h, e => by simp [fgetL] at e
  | (j, u) :: r, fs, f, h, e => by
    obtain ⟨w, fs', f1, f2, rfl, h1, h2, h3, h4⟩ := h
    unfold fgetL at e
    by_cases q : j = n
    · subst q
      rw [if_pos rfl] at e
      subst e
      obtain ⟨cl0, rp⟩ := h2 _ rfl
      simp only [Rp, Bool.false_eq_true, if_false] at rp
      obtain ⟨al, vs, g, rfl, ha, l, fl, cl, hf⟩ := rp
      refine ⟨al, vs, g, by rw [lk_cons, if_pos rfl], ha, l, cl, fl, fun b => by have := (h4 b).1; have := hf b; omega, fun H' ts1 vs1 m1 fi kp kh h1' h1l c1 fl1 k1 => ?_⟩
      have e1 : fputL ((j, some (.lst false m ts)) :: r) j (some (.lst false m1 ts1)) = (j, some (.lst false m1 ts1)) :: r := if_pos rfl
      rw [e1]
      have z2 : f2 al = 0 := by have := (h4 al).1; have := hf al; simp at this; omega
      refine ⟨fun b => (fi b + if b = al then 1 else 0) + f2 b, ⟨.ref al, fs', fun b => fi b + if b = al then 1 else 0, f2, rfl, h1, fun t' e => ?_, h3.keep kp Pre.refl (fun _ h => h) (fun b hb => kh b (fun z => hb (z ▸ z2)) (by have := (h4 b).1; omega)), fun b => ⟨rfl, fun _ => by simp⟩⟩, fun b => by have := (h4 b).1; have := hf b; show (fi b + (if b = al then 1 else 0)) + f2 b + g b = _; omega⟩
      have : T.lst false m1 ts1 = t' := by simpa using e
      subst this
      refine ⟨rfl, ?_⟩
      simp only [Rp, Bool.false_eq_true, if_false]
      exact ⟨al, vs1, fi, rfl, h1', k1, fl1, c1, fun _ => rfl⟩
    · rw [if_neg q] at e
      obtain ⟨al, vs, g, k0, ha, l, cl, fl, hg, k⟩ := FsR.lfield hn h3 e
      refine ⟨al, vs, g, by rw [lk_cons, if_neg fun z => q (fldN_inj h1 hn z)]; exact k0, ha, l, cl, fl, fun b => by have := (h4 b).1; have := hg b; omega, fun H' ts1 vs1 m1 fi kp kh h1' h1l c1 fl1 k1 => ?_⟩
      have e1 : fputL ((j, u) :: r) n (some (.lst false m1 ts1)) = (j, u) :: fputL r n (some (.lst false m1 ts1)) := if_neg q
      rw [e1]
      have z1 : f1 al = 0 := by have := (h4 al).1; have := hg al; simp at this; omega
      obtain ⟨f', k2, k3⟩ := k H' ts1 vs1 m1 fi kp (fun b nb hb => kh b nb (by have := (h4 b).1; omega)) h1' (by have := (h4 al).1; omega) c1 fl1 k1
      exact ⟨fun b => f1 b + f' b, ⟨w, fs', f1, f', rfl, h1, fun t' e' => ⟨(h2 t' e').1, Rp.keep kp Pre.refl (fun _ h => h) t' w f1 (fun b hb => kh b (fun z => hb (z ▸ z1)) (by have := (h4 b).1; omega)) (h2 t' e').2⟩, k2, fun b => ⟨rfl, (h4 b).2⟩⟩, fun b => by have := (h4 b).1; have := k3 b; show f1 b + f' b + g b = _; omega⟩
theorem StoL.at_ : ∀ {os : List Ob} {as : List Addr} {f : Fp} {i : Nat} {o : Ob}, StoL pd mg F H ρ os as f → os[i]? = some o → ∃ (a : Addr) (f1 f2 : Fp), as[i]? = some a ∧ ObR pd mg F H ρ o a f1 ∧ (∀ b, f b = f1 b + f2 b) ∧
    ∀ (H' : Hp) (o' : Ob) (f1' : Fp), Kp F H H' → (∀ b, f2 b ≠ 0 → H' b = H b) → ObR pd mg F H' ρ o' a f1' → StoL pd mg F H' ρ (os.set i o') as (fun b => f1' b + f2 b)
  | [], as, f, i, o, h, e => by simp at e
  | o1 :: os, as, f, 0, o, h, e => by
    obtain ⟨a, as', f1, f2, rfl, h1, h2, hf⟩ := h
    simp at e; subst e
    exact ⟨a, f1, f2, rfl, h1, hf, fun H' o' f1' kp kh k => ⟨a, as', f1', f2, rfl, k, h2.keep kp Pre.refl (fun _ h => h) kh, fun _ => rfl⟩⟩
  | o1 :: os, as, f, i + 1, o, h, e => by
    obtain ⟨a, as', f1, f2, rfl, h1, h2, hf⟩ := h
    obtain ⟨a', g1, g2, e1, k1, k2, k3⟩ := StoL.at_ (i := i) h2 (by simpa using e)
    refine ⟨a', g1, fun b => f1 b + g2 b, by simpa using e1, k1, fun b => by have := hf b; have := k2 b; show f b = g1 b + (f1 b + g2 b); omega, fun H' o' f1' kp kh k => ?_⟩
    obtain ⟨x, C, dx, fs, f', q1, q2, q3, q4, q5⟩ := h1
    have kh1 : ∀ b, f1 b ≠ 0 → H' b = H b := fun b hb => kh b (by show f1 b + g2 b ≠ 0; omega)
    refine ⟨a, as', f1, _, rfl, ⟨x, C, dx, fs, f', q1, q2, ?_, q4.keep kp Pre.refl (fun _ h => h) (fun b hb => kh1 b (by rw [q5 b]; omega)), q5⟩, k3 H' o' f1' kp (fun b hb => kh b (by show f1 b + g2 b ≠ 0; omega)) k, fun b => by show f1' b + (f1 b + g2 b) = f1 b + (f1' b + g2 b); omega⟩
    rw [kh1 a (by rw [q5 a]; simp)]; exact q3
end
section
variable {pd : Pd} {mg : Str → Option Value} {F : As} {H : Hp} {ρ : List Addr} {σ : L2.St} {env : En} {sto : List Ob} {us : List T} {ws : List V} {t : T} {v : V} {i n : Nat} {o : Ob}
theorem Sr.putFld (S : Sr pd mg F H ρ false σ env (t :: us) (v :: ws) sto) (ct : clean t = true) (hi : sto[i]? = some o) (hn : n < 18) : ∃ a x C dx fs, ρ[i]? = some a ∧ pd.cls.lookup x = some o.cls ∧ mg x = some (.ref C) ∧ H a = some (.ins C dx fs) ∧ fs.length = o.fs.length ∧
    Fu false F H ρ F (upd H a (.ins C dx (L2.putF (fldN n) v fs))) ρ ∧ Sr pd mg F (upd H a (.ins C dx (L2.putF (fldN n) v fs))) ρ false σ env us ws (sto.set i ⟨o.cls, fputL o.fs n (some t)⟩) := by
  obtain ⟨⟨fe, fk, fs0, h1, h2, h3, h4, h5⟩, fd⟩ := S
  simp only [RpL] at h2
  obtain ⟨v', vs', f1, f2, e, r1, r2, hf⟩ := h2
  obtain ⟨rfl, rfl⟩ := List.cons.inj e
  have h3' : StoL pd mg F H ρ sto ρ fs0 := h3
  obtain ⟨a, g1, g2, ea, ⟨x, C, dx, fs, f', q1, q2, q3, q4, q5⟩, hg, k⟩ := h3'.at_ hi
  have za : fe a = 0 ∧ f1 a = 0 ∧ f2 a = 0 ∧ f' a = 0 ∧ g2 a = 0 := by have := h4 a; have := hf a; have := hg a; have := q5 a; simp at this; omega
  have nF : ¬ F a := fun q => by have := h5 a q; have := hg a; have := q5 a; simp at this; omega
  have kp : Kp F H (upd H a (.ins C dx (L2.putF (fldN n) v fs))) := ⟨fun b hb => upd_ne fun z => nF (z ▸ hb), fun b xs q => by
    rw [upd_ne fun z => by rw [z, q3] at q; cases q]; exact q⟩
  have keep : ∀ {f : Fp}, f a = 0 → ∀ b, f b ≠ 0 → upd H a (.ins C dx (L2.putF (fldN n) v fs)) b = H b := fun {f} z b hb => upd_ne fun q => hb (q ▸ z)
  obtain ⟨f'', k1, k2⟩ := FsR.put hn ct (Rp.keep kp Pre.refl (fun _ h => h) t v f1 (keep za.2.1) r1) (q4.keep kp Pre.refl (fun _ h => h) (keep za.2.2.2.1))
  refine ⟨a, x, C, dx, fs, ea, q1, q2, q3, q4.len, ⟨fun _ h => h, kp, Pre.refl, fun _ => rfl⟩, ⟨⟨fe, f2, _, h1.keep kp Pre.refl (fun _ h => h) (keep za.1), RpL.keep kp Pre.refl (fun _ h => h) us ws f2 (keep za.2.2.1) r2,
    (show StoR pd mg F _ ρ false _ _ from k _ ⟨o.cls, fputL o.fs n (some t)⟩ (fun b => f'' b + if b = a then 1 else 0) kp (keep za.2.2.2.2) ⟨x, C, dx, _, f'', q1, q2, upd_same, k1, fun _ => rfl⟩), fun b => ?_, fun b hb => ?_⟩, fun b hb => ?_⟩⟩
  · have := h4 b; have := hf b; have := hg b; have := q5 b; have := k2 b
    show fe b + f2 b + (f'' b + (if b = a then 1 else 0) + g2 b) ≤ 1
    omega
  · have := h5 b hb; have := hf b; have := hg b; have := q5 b; have := k2 b
    show fe b + f2 b + (f'' b + (if b = a then 1 else 0) + g2 b) = 0
    omega
  · obtain ⟨w, q⟩ := fd b hb
    exact ⟨w, (kp.at_ b hb).trans q⟩
/-- a field's own list gets other content -/
theorem Sr.putFL {m : Bool} {ts : List T} (S : Sr pd mg F H ρ false σ env us ws sto) (hi : sto[i]? = some o) (hn : n < 18) (e : fgetL o.fs n = some (.lst false m ts)) : ∃ a x C dx fs al vs, ρ[i]? = some a ∧ pd.cls.lookup x = some o.cls ∧ mg x = some (.ref C) ∧ H a = some (.ins C dx fs) ∧ fs.lookup (fldN n) = some (.ref al) ∧ H al = some (.lst vs) ∧ vs.length = ts.length ∧ cleanL ts = true ∧ (m = false → flatL ts = true) ∧
    ∀ ts1 vs1 m1 us2 ws2, cleanL ts1 = true → (m1 = false → flatL ts1 = true) → (∀ f fk, RpL F H ρ ts vs f → RpL F H ρ us ws fk → ∃ f2 fk2, RpL F H ρ ts1 vs1 f2 ∧ RpL F H ρ us2 ws2 fk2 ∧ ∀ b, f2 b + fk2 b ≤ f b + fk b) →
      Fu false F H ρ F (upd H al (.lst vs1)) ρ ∧ Sr pd mg F (upd H al (.lst vs1)) ρ false σ env us2 ws2 (sto.set i ⟨o.cls, fputL o.fs n (some (.lst false m1 ts1))⟩) := by
  obtain ⟨⟨fe, fk, fs0, h1, h2, h3, h4, h5⟩, fd⟩ := S
  have h3' : StoL pd mg F H ρ sto ρ fs0 := h3
  obtain ⟨a, g1, g2, ea, ⟨x, C, dx, fs, f', q1, q2, q3, q4, q5⟩, hg, k⟩ := h3'.at_ hi
  obtain ⟨al, vs, g, l0, ha, l, cl, fl, hgl, kk⟩ := q4.lfield hn e
  have nal : al ≠ a := fun z => by rw [z, q3] at ha; exact nomatch ha
  refine ⟨a, x, C, dx, fs, al, vs, ea, q1, q2, q3, l0, ha, l.length, cl, fl, fun ts1 vs1 m1 us2 ws2 c1 fl1 kt => ?_⟩
  obtain ⟨gi, gk, k1, k2, k3⟩ := kt g fk l h2
  have za : g al = 0 ∧ fe al = 0 ∧ fk al = 0 ∧ g2 al = 0 ∧ f' al = 1 := by have := h4 al; have := hg al; have := q5 al; have := hgl al; simp at this; omega
  have nF : ¬ F al := fun q => by have := h5 al q; have := hg al; have := q5 al; have := hgl al; simp at this; omega
  have zg : gi al = 0 ∧ gk al = 0 := by have := k3 al; omega
  have kp : Kp F H (upd H al (.lst vs1)) := ⟨fun b hb => upd_ne fun z => nF (z ▸ hb), fun b xs q => by
    rw [upd_ne fun z => by rw [z, ha] at q; cases q]; exact q⟩
  have keep : ∀ {f : Fp}, f al = 0 → ∀ b, f b ≠ 0 → upd H al (.lst vs1) b = H b := fun {f} z b hb => upd_ne fun q => hb (q ▸ z)
  obtain ⟨f'', k4, k5⟩ := kk (upd H al (.lst vs1)) ts1 vs1 m1 gi kp (fun b nb _ => upd_ne nb) upd_same (by omega) c1 fl1 (RpL.keep kp Pre.refl (fun _ h => h) ts1 vs1 gi (keep zg.1) k1)
  refine ⟨⟨fun _ h => h, kp, Pre.refl, fun _ => rfl⟩, ⟨⟨fe, gk, _, h1.keep kp Pre.refl (fun _ h => h) (keep za.2.1), RpL.keep kp Pre.refl (fun _ h => h) us2 ws2 gk (keep zg.2) k2,
    (show StoR pd mg F _ ρ false _ _ from k _ ⟨o.cls, fputL o.fs n (some (.lst false m1 ts1))⟩ (fun b => f'' b + if b = a then 1 else 0) kp (keep za.2.2.2.1) ⟨x, C, dx, fs, f'', q1, q2, by rw [upd_ne fun z => nal z.symm]; exact q3, k4, fun _ => rfl⟩), fun b => ?_, fun b hb => ?_⟩, fun b hb => ?_⟩⟩
  · have := h4 b; have := hg b; have := q5 b; have := k5 b; have := k3 b; have := hgl b
    show fe b + gk b + (f'' b + (if b = a then 1 else 0) + g2 b) ≤ 1
    omega
  · have := h5 b hb; have := hg b; have := q5 b; have := k5 b; have := k3 b; have := hgl b
    show fe b + gk b + (f'' b + (if b = a then 1 else 0) + g2 b) = 0
    omega
  · obtain ⟨w, q⟩ := fd b hb
    exact ⟨w, (kp.at_ b hb).trans q⟩
end
end Tr
/-! TrRun: the rules of the statements. -/
namespace Tr
open PySem PySem.Spec PyProof.Rows L2
def celB (sc : Scope) (x : Str) : Bool := match sc.names.lookup x with
  | some .cell => true
  | _ => false
def chkL (Nm : List Str) (sc : Scope) (i : Nat) (x : Str) : Bool := Nm[i]? == some x && (locB sc x || celB sc x)
/-- .. a name that is no cell -/
def chkLs (Nm : List Str) (sc : Scope) (i : Nat) (x : Str) : Bool := Nm[i]? == some x && locB sc x
theorem cel_of {sc x} (h : celB sc x = true) : sc.names.lookup x = some .cell := by
  unfold celB at h
  split at h
  · assumption
  · exact absurd h Bool.false_ne_true
theorem loc_of {sc x} (h : locB sc x = true) : sc.names.lookup x = some .local := by
  unfold locB at h
  split at h
  · assumption
  · exact absurd h Bool.false_ne_true
theorem plain_sw {e : Expr} (h : plainX e = true) (t : Option Expr) (n : Nat) (env : Env) : swapsWith e t n env = pure false := by
  cases e <;> simp only [plainX, Bool.false_eq_true] at h <;> rfl
theorem plain_swA {e o : Expr} {f : Str} {p : Pos} (h : plainA e = true) (n : Nat) (env : Env) : swapsWith e (some (.Attribute o f p)) n env = pure false := by
  cases e <;> simp only [plainA, plainX, Bool.false_eq_true] at h <;> rfl
theorem plain_sw1 {e t : Expr} (h : plainX e = true) (n : Nat) (env : Env) : swapsWithSole [t] e n env = pure false := plain_sw h _ _ _
section
variable {pd : Pd} {Nm : List Str} {sc : Scope} {cf : CF} {k : Nat} {W : WX} {X : Cx}
theorem L_of (G : Gs X pd Nm sc cf k W) {i : Nat} {x : Str} (h : chkL Nm sc i x = true) : X.N[i]? = some x ∧ Loc X.env.scope x ∧ (X.fn x = true ∨ X.env.scope.names.lookup x = some .local) ∧ ∀ {σ : L2.St}, σ.length = X.N.length → i < σ.length := by
  simp only [chkL, Bool.and_eq_true, Bool.or_eq_true, beq_iff_eq] at h
  have e : X.N[i]? = some x := by rw [G.gd.nm]; exact h.1
  refine ⟨e, ?_, .inl (G.fn x), fun {σ} hl => by rw [hl]; exact (List.getElem?_eq_some_iff.mp e).1⟩
  rcases h.2 with l | l
  · exact .inl (by rw [G.gd.sc_]; exact loc_of l)
  · exact .inr (by rw [G.gd.sc_]; exact cel_of l)
theorem L_ofS (G : Gs X pd Nm sc cf k W) {i : Nat} {x : Str} (h : chkLs Nm sc i x = true) : X.N[i]? = some x ∧ Loc X.env.scope x ∧ X.env.scope.names.lookup x = some .local ∧ ∀ {σ : L2.St}, σ.length = X.N.length → i < σ.length := by
  simp only [chkLs, Bool.and_eq_true, beq_iff_eq] at h
  have e : X.N[i]? = some x := by rw [G.gd.nm]; exact h.1
  have l : X.env.scope.names.lookup x = some .local := by rw [G.gd.sc_]; exact loc_of h.2
  exact ⟨e, .inl l, l, fun {σ} hl => by rw [hl]; exact (List.getElem?_eq_some_iff.mp e).1⟩
theorem r_set (G : Gs X pd Nm sc cf k W) {i : Nat} {x : Str} {p pos : Pos} {e : Expr} {g : Bool → En → List Ob → GR T} (hL : chkL Nm sc i x = true) (hp : plainX e = true) (A : PE X e (tGv pd X.mg W g)) :
    PS X (.Assign [.Name x p] e pos) (tSt pd X.mg W [i] fun lk env sto => (g lk env sto).thn fun t env sto => .nx (env.set i (some t)) sto) := by
  obtain ⟨h1, h2, h3, h4⟩ := L_of G hL
  refine PS.imp (ps_set G.nd h1 h2 A (plain_sw hp _ _ _) h3) fun D σ H hl ⟨lk, F, ρ, env, sto, S, q⟩ => ?_
  refine ⟨lk, F, ρ, env, [], [], sto, S, PoG.of q fun t env1 sto1 F1 H1 ρ1 v c f S1 q1 => ?_⟩
  exact q1 F1 H1 ρ1 _ Fu.refl (S1.store (by rw [← S1.len]; exact h4 hl)) Sg.set
def chkLcA (sc : Scope) (x : Str) (px : Pos) : Expr → Bool
  | .ListComp _ _ scope pos => (match sc.kind with | .function => true | _ => false) && (px.line == pos.line) && !(scope.names.any fun (n, k) => n == x && (k == .local || k == .cell))
  | _ => false
theorem r_setLc (G : Gs X pd Nm sc cf k W) {i : Nat} {x : Str} {p pos : Pos} {d : E} {e : Expr} (hL : chkLs Nm sc i x = true) (hA : chkLcA sc x p e = true) (A : LcOk X pd cf W d e)
    (hk : ∀ env sto, kv cf d env sto = ((pv cf env sto d).g env sto).bind fun t env sto => if clean t then .ok t env sto else .no) :
    PS X (.Assign [.Name x p] e pos) (tSt pd X.mg W [i] fun lk env sto => (kv cf d env sto).thn fun t env sto => .nx (env.set i (some t)) sto) := by
  obtain ⟨h1, h2, h3, h4⟩ := L_ofS G hL
  obtain ⟨elt, t, tp, iter, ifs, scope, cpos, v, wi, tt, te, rfl, a1, a2, a3, a4, a5, a6, rd⟩ := A
  simp only [chkLcA, Bool.and_eq_true, Bool.not_eq_true'] at hA
  have hkind : X.env.scope.kind = .function := by
    rw [G.gd.sc_]
    have := hA.1.1
    split at this
    · assumption
    · cases this
  refine PS.imp (ps_setLc (own := [(t, v)]) G.gd.calm G.nd h1 h3 (sw_true hkind h3 hA.1.2 hA.2) a1 a2 a3 a4 a5 a6) fun D σ H hl ⟨lk, F, ρ, env, sto, S, q⟩ => ?_
  dsimp only at q
  rw [hk] at q
  refine rd σ H _ hl ⟨ρ, env, sto, S.viewE, S.viewS, ?_⟩
  show PoV pd X.mg ρ _ H (pv cf env sto d) _
  cases e1 : pv cf env sto d with
  | no => rw [e1] at q; exact q.elim
  | ex z => rw [e1] at q; exact fun cls dd H' e' xr => q F H' ρ σ cls dd (Fu.grow S.fd e') (S.grow e') Sg.refl xr
  | ok t =>
    rw [e1] at q
    intro w H1 p1
    by_cases hc : clean t = true
    · have q' : PoS pd X.mg W lk F H ρ [i] σ (SR.nx (env.set i (some t)) sto) D := by
        have e2 : ((((Rs.ok t : Rs T).g env sto).bind fun t env sto => if clean t then GR.ok t env sto else .no).thn fun t env sto => SR.nx (env.set i (some t)) sto) = SR.nx (env.set i (some t)) sto := by
          show (if clean t then GR.ok t env sto else GR.no).thn _ = _
          rw [if_pos hc]; rfl
        rw [e2] at q; exact q
      exact q' F H1 ρ _ (Fu.grow S.fd p1.ext) ((S.push p1 hc).store (by rw [← S.len]; exact h4 hl)) Sg.set
    · have e2 : ((((Rs.ok t : Rs T).g env sto).bind fun t env sto => if clean t then GR.ok t env sto else .no).thn fun t env sto => SR.nx (env.set i (some t)) sto) = SR.no := by
        show (if clean t then GR.ok t env sto else GR.no).thn _ = _
        rw [if_neg hc]; rfl
      rw [e2] at q
      exact q.elim
theorem r_alias (G : Gs X pd Nm sc cf k W) {i j : Nat} {x y : Str} {p p' pos : Pos} (hL : chkL Nm sc i x = true) (hN : chkN Nm sc j y = true) :
    PS X (.Assign [.Name x p] (.Name y p') pos) (tSt pd X.mg W [i] fun lk env sto => match getV env j with
      | .ok t => if flat t then .nx (env.set i (some t)) sto else .nx ((env.set j (some (fz t))).set i (some (fz t))) sto
      | _ => .no) := by
  obtain ⟨h1, h2, h3, h4⟩ := L_of G hL
  refine PS.imp (ps_set G.nd h1 h2 (pe_n G.gd hN) rfl h3) fun D σ H hl ⟨lk, F, ρ, env, sto, S, q⟩ => ?_
  dsimp only at q
  cases e1 : getV env j with
  | ex e => rw [e1] at q; exact q.elim
  | no => rw [e1] at q; exact q.elim
  | ok t =>
    rw [e1] at q
    dsimp only at q
    split at q
    · rename_i fl
      obtain ⟨v, e2, S1⟩ := S.copy (getV_ok e1) fl
      exact ⟨v, e2, q F H ρ _ Fu.refl (S1.store (by rw [← S1.len]; exact h4 hl)) Sg.set⟩
    · obtain ⟨v, F', e2, sub, S1⟩ := S.freeze (getV_ok e1)
      exact ⟨v, e2, q F' H ρ _ ⟨sub, ⟨fun _ _ => rfl, fun _ _ h => h⟩, Pre.refl, fun _ => rfl⟩ (S1.store (by rw [← S1.len]; exact h4 hl)) Sg.set⟩
theorem r_expr (G : Gs X pd Nm sc cf k W) {pos : Pos} {e : Expr} {g : Bool → En → List Ob → GR T} (hp : plainX e = true) (A : PE X e (tGv pd X.mg W g)) :
    PS X (.Expr e pos) (tSt pd X.mg W [] fun lk env sto => (g lk env sto).thn fun _ env sto => .nx env sto) := by
  refine PS.imp (ps_expr A (plain_sw hp _ _ _)) fun D σ H hl ⟨lk, F, ρ, env, sto, S, q⟩ => ?_
  refine ⟨lk, F, ρ, env, [], [], sto, S, PoG.of q fun t env1 sto1 F1 H1 ρ1 v c f S1 q1 => ?_⟩
  exact q1 F1 H1 ρ1 _ Fu.refl S1.pop Sg.refl
theorem r_ret (G : Gs X pd Nm sc cf k W) {pos : Pos} {e : Expr} {g : Bool → En → List Ob → GR T} (A : PE X e (tGv pd X.mg W g)) :
    PS X (.Return (some e) pos) (tSt pd X.mg W [] fun lk env sto => (g lk env sto).thn fun t env sto => .rt t env sto) := by
  refine PS.imp (ps_ret A) fun D σ H hl ⟨lk, F, ρ, env, sto, S, q⟩ => ?_
  refine ⟨lk, F, ρ, env, [], [], sto, S, PoG.of q fun t env1 sto1 F1 H1 ρ1 v c f S1 q1 => ?_⟩
  exact q1 F1 H1 ρ1 _ v c Fu.refl S1 Sg.refl
theorem r_retn {pos : Pos} : PS X (.Return none pos) (tSt pd X.mg W [] fun lk env sto => .rt .non env sto) := by
  refine PS.imp ps_retN fun D σ H hl ⟨lk, F, ρ, env, sto, S, q⟩ => ?_
  exact q F H ρ σ .non rfl Fu.refl (S.push PR.non rfl) Sg.refl
theorem r_pass {pos : Pos} : PS X (.Pass pos) (tSt pd X.mg W [] fun lk env sto => .nx env sto) :=
  PS.imp ps_pass fun D σ H hl ⟨lk, F, ρ, env, sto, S, q⟩ => q F H ρ σ Fu.refl S Sg.refl
theorem r_doc {x j pos pos'} : PS X (.Expr (.Constant (.str x) j pos) pos') (tSt pd X.mg W [] fun lk env sto => .nx env sto) :=
  PS.imp ps_doc fun D σ H hl ⟨lk, F, ρ, env, sto, S, q⟩ => q F H ρ σ Fu.refl S Sg.refl
theorem r_brk {pos : Pos} : PS X (.Break pos) (tSt pd X.mg W [] fun lk env sto => .bk env sto) :=
  PS.imp ps_break fun D σ H hl ⟨lk, F, ρ, env, sto, S, q⟩ => q F H ρ σ Fu.refl S Sg.refl
theorem r_cnt {pos : Pos} : PS X (.Continue pos) (tSt pd X.mg W [] fun lk env sto => .ct env sto) :=
  PS.imp ps_continue fun D σ H hl ⟨lk, F, ρ, env, sto, S, q⟩ => q F H ρ σ Fu.refl S Sg.refl
theorem r_nev {st : Stmt} {A} : PS X st (tSt pd X.mg W A fun lk env sto => .no) :=
  PS.imp ps_never fun D σ H hl ⟨lk, F, ρ, env, sto, S, q⟩ => q.elim
theorem Sr.topRp {pd : Pd} {mg : Str → Option Value} {F H ρ lk σ env t us v ws sto} (S : Sr pd mg F H ρ lk σ env (t :: us) (v :: ws) sto) : ∃ f, Rp F H ρ t v f := by
  obtain ⟨⟨fe, fk, fs, h1, h2, h3, h4, h5⟩, fd⟩ := S
  simp only [RpL] at h2
  obtain ⟨v', vs', f1, f2, e, r1, r2, hf⟩ := h2
  obtain ⟨rfl, rfl⟩ := List.cons.inj e
  exact ⟨f1, r1⟩
theorem sizeT_le : sizeT ≤ sizeLine := Nat.le_of_eq sizeT_eq
theorem cleanL_take : ∀ {ts : List T}, cleanL ts = true → ∀ n, cleanL (ts.take n) = true
  | [], _, n => by simp [cleanL]
  | t :: ts, h, 0 => by simp [cleanL]
  | t :: ts, h, n + 1 => by simp only [cleanL, Bool.and_eq_true, List.take_succ_cons] at h ⊢; exact ⟨h.1, cleanL_take h.2 n⟩
theorem cleanL_drop : ∀ {ts : List T}, cleanL ts = true → ∀ n, cleanL (ts.drop n) = true
  | [], _, n => by simp [cleanL]
  | t :: ts, h, 0 => h
  | t :: ts, h, n + 1 => by simp only [cleanL, Bool.and_eq_true, List.drop_succ_cons] at h ⊢; exact cleanL_drop h.2 n
theorem RpL.take0 {F : As} {H : Hp} {ρ : List Addr} : ∀ {ts : List T} {vs : List V}, RpL F H ρ ts vs (fun _ => 0) → ∀ n, RpL F H ρ (ts.take n) (vs.take n) (fun _ => 0)
  | [], vs, h, n => by
    simp only [RpL] at h
    rw [h.1]
    simp [RpL]
  | t :: ts, vs, h, 0 => by simp [RpL]
  | t :: ts, vs, h, n + 1 => by
    simp only [RpL] at h
    obtain ⟨v, vs', f1, f2, rfl, r1, r2, hf⟩ := h
    have z1 : f1 = fun _ => 0 := funext fun b => by have := hf b; omega
    have z2 : f2 = fun _ => 0 := funext fun b => by have := hf b; omega
    subst z1; subst z2
    simp only [List.take_succ_cons, RpL]
    exact ⟨v, vs'.take n, _, _, rfl, r1, RpL.take0 r2 n, fun _ => rfl⟩
theorem RpL.drop0 {F : As} {H : Hp} {ρ : List Addr} : ∀ {ts : List T} {vs : List V}, RpL F H ρ ts vs (fun _ => 0) → ∀ n, RpL F H ρ (ts.drop n) (vs.drop n) (fun _ => 0)
  | [], vs, h, n => by
    simp only [RpL] at h
    rw [h.1]
    simp [RpL]
  | t :: ts, vs, h, 0 => h
  | t :: ts, vs, h, n + 1 => by
    simp only [RpL] at h
    obtain ⟨v, vs', f1, f2, rfl, r1, r2, hf⟩ := h
    have z2 : f2 = fun _ => 0 := funext fun b => by have := hf b; omega
    subst z2
    simp only [List.drop_succ_cons]
    exact RpL.drop0 r2 n
theorem r_setix (G : Gs X pd Nm sc cf k W) {i : Nat} {x : Str} {p pos tpos : Pos} {d ik : E} {e y : Expr} (hN : chkN Nm sc i x = true) (hy : plainX y = true) (hp : plainX e = true) (A : chkE pd Nm sc d e = true) (B : chkE pd Nm sc ik y = true) :
    PS X (.Assign [.Subscript (.Name x p) y tpos] e pos) (tSt pd X.mg W [] fun lk env sto => (kv cf d env sto).thn fun t env sto => match env[i]? with
    | some (some (.lst false n ts)) => ((pv cf env sto ik).g env sto).thn fun y env sto => match y with
      | .int j => match L2.ixN ts.length j with
        | some j => .nx (env.set i (some (.lst false (n || !flat t) (ts.set j t)))) sto
        | none => .no
      | _ => .no
    | _ => .no) := by
  have PA_ := sK G.gd d e A
  have PB_ := sE G.gd ik y B
  have hset : PG X (.Subscript (.Name x p) y tpos) (gSub (tVar i) (tPv pd X.mg W fun env sto => pv cf env sto ik) rSetL) := by
    refine pg_sub (pe_n G.gd hN) PB_ set_list fun v => ?_
    cases y <;> simp only [plainX, Bool.false_eq_true] at hy <;> rfl
  refine PS.imp (ps_asg PA_ hset (plain_sw1 hp _ _) (by cases e <;> simp only [plainX, Bool.false_eq_true] at hp <;> rfl)) fun D σ H hl ⟨lk, F, ρ, env, sto, S, q⟩ => ?_
  refine ⟨lk, F, ρ, env, [], [], sto, S, PoG.of q fun t env1 sto1 F1 H1 ρ1 v c f S1 q1 => ?_⟩
  split at q1
  · rename_i n ts e1
    obtain ⟨w, e2, s2⟩ := S1.viewE i _ e1
    refine ⟨w, e2, ρ1, env1, sto1, S1.viewE, S1.viewS, PoV.of S1 q1 fun y1 H2 yv p2 q2 => ?_⟩
    have S2 := S1.grow p2.ext
    split at q2
    · rename_i j
      split at q2
      · rename_i j' ej
        obtain ⟨a, vs, e3, ha, hlen, cl, fl, put⟩ := S2.putL e1
        rw [e2] at e3
        have ew : w = .ref a := by simpa using e3
        have ey : yv = .int j := sn_int p2.sn
        subst ew; subst ey
        obtain ⟨ff, SS⟩ := put (ts.set j' t) (vs.set j' v) (n || !flat t) [] [] (cleanL_set cl c) (fun z => by
          simp only [Bool.or_eq_false_iff, Bool.not_eq_false'] at z
          exact flatL_set (fl z.1) z.2) (fun f fk r1 r2 => by
          simp only [RpL] at r2
          obtain ⟨v', vs', f1, f2, e, k1, k2, hf⟩ := r2
          obtain ⟨rfl, rfl⟩ := List.cons.inj e
          obtain ⟨f3, m1, m2⟩ := RpL.set (j := j') r1 k1
          exact ⟨f3, fun _ => 0, m1, by simp [RpL], fun b => by have := m2 b; have := hf b; show f3 b + 0 ≤ _; omega⟩)
        exact ⟨a, vs, j, j', rfl, rfl, ha, by rw [hlen]; exact ej, q2 F1 _ ρ1 σ ff SS Sg.refl⟩
      · exact q2.elim
    · exact q2.elim
  · exact q1.elim
def rSetSl (o : V) (l u : Option Int) (v : V) (H : Hp) (Q : Hp → Prop) : Prop := ∃ a b xs ys lo hi, o = .ref a ∧ v = .ref b ∧ l = some lo ∧ u = some hi ∧ H a = some (.lst xs) ∧ H b = some (.lst ys) ∧ a ≠ b ∧ 0 ≤ lo ∧ lo ≤ hi ∧ hi ≤ xs.length ∧ xs.length + ys.length ≤ sizeLine ∧ Q (upd H a (.lst (xs.take lo.toNat ++ ys ++ xs.drop hi.toNat)))
def gSubSl (to : TE) (tl th : TO) : TG := fun v σ H Q => to σ H fun o H1 => tl σ H1 fun l H2 => th σ H2 fun u H3 => rSetSl o l u v H3 fun H4 => Q σ H4
theorem pg_subsl {X : Cx} {o : Expr} {lo hi : Option Expr} {to : TE} {tl th : TO} {p2 pos : Pos} (ho : PE X o to) (hl : PO X lo tl) (hh : PO X hi th)
    (ha : ∀ v, assign (.Subscript o (.Slice lo hi none p2) pos) X.env v = (do
      let ov ← holding [v] (eval o X.env)
      let iv ← holding [v, ov] (eval (.Slice lo hi none p2) X.env)
      standAt pos
      holding [v, ov, iv] (setItem ov iv v)
      release [iv, v, ov] []) := by intro _; rfl) : PG X (.Subscript o (.Slice lo hi none p2) pos) (gSubSl to tl th) := by
  refine ⟨fun pins s σ H v u Q I r h => ?_⟩
  rw [ha]
  refine wpAny_bind (wpAny_holding (thn (ho.run pins s σ H _ I h) fun ov s1 ⟨x, H1, I1, r1, q1⟩ => ?_))
  refine wpAny_bind (wpAny_holding (wpAny_Slice (thn (hl.run pins s1 σ H1 _ I1 q1) fun vl s2 ⟨l, H2, I2, pl, q2⟩ => thn (hh.run pins s2 σ H2 _ I2 q2) fun vu s3 ⟨c, H3, I3, pu, q3⟩ => ?_)))
  rw [evalPart_none]
  refine wpAny_pure ?_
  obtain ⟨a, b, xs, ys, lo', hi', e1, e2, e3, e4, hA, hB, hne, h0, h01, h1, hz, q⟩ := q3
  subst e1; subst e2; subst e3; subst e4
  have I4 : Inv X pins σ H3 { s3 with heap := s3.heap.push { cls := .type "slice", data := .fields #[vl, vu, .none] } } := I3.kept (t' := s3.toks) fun b ob q => Heap.get?_push_of_some _ q
  cases r1
  cases r
  have ra : RelV (.int lo') vl := by cases pl; exact ⟨_, rfl⟩
  have rc : RelV (.int hi') vu := by cases pu; exact ⟨_, rfl⟩
  refine wpAny_bind (wpAny_standAt (wpAny_bind (wpAny_holding (set_slice (Q := fun _ s' => _) I4 hA hB hne (Heap.IsSliceOf.new ..) ra rc h0 h01 h1 hz fun s5 I5 => ?_))))
  exact wpAny_release ⟨σ, _, I5, q⟩
theorem r_setsl (G : Gs X pd Nm sc cf k W) {i : Nat} {x : Str} {p pos tpos p2 : Pos} {d : E} {dl dh : OE} {e : Expr} {lo hi : Option Expr} (hN : chkN Nm sc i x = true) (hp : plainX e = true) (A : chkE pd Nm sc d e = true) (B : chkO pd Nm sc dl lo = true) (C : chkO pd Nm sc dh hi = true) :
    PS X (.Assign [.Subscript (.Name x p) (.Slice lo hi none p2) tpos] e pos) (tSt pd X.mg W [] fun lk env sto => (kv cf d env sto).thn fun r env sto => match env[i]? with
    | some (some (.lst false false ts)) => ((pvo cf env sto dl).g env sto).thn fun l env sto => ((pvo cf env sto dh).g env sto).thn fun h env sto =>
      match r, l, h with
      | .lst _ false ys, some a, some c => if 0 ≤ a ∧ a ≤ c ∧ c ≤ ts.length ∧ ts.length + ys.length ≤ sizeT then .nx (env.set i (some (.lst false false (ts.take a.toNat ++ ys ++ ts.drop c.toNat)))) sto else .no
      | _, _, _ => .no
    | _ => .no) := by
  have PA_ := sK G.gd d e A
  have PB_ := sO G.gd dl lo B
  have PC_ := sO G.gd dh hi C
  have hset := pg_subsl (o := .Name x p) (p2 := p2) (pos := tpos) (pe_n G.gd hN) PB_ PC_
  refine PS.imp (ps_asg PA_ hset (plain_sw1 hp _ _) (by cases e <;> simp only [plainX, Bool.false_eq_true] at hp <;> rfl)) fun D σ H hl ⟨lk, F, ρ, env, sto, S, q⟩ => ?_
  refine ⟨lk, F, ρ, env, [], [], sto, S, PoG.of q fun t env1 sto1 F1 H1 ρ1 v c f S1 q1 => ?_⟩
  split at q1
  · rename_i ts e1
    obtain ⟨w, e2, s2⟩ := S1.viewE i _ e1
    refine ⟨w, e2, ρ1, env1, sto1, S1.viewE, S1.viewS, PoO.of S1 q1 fun l H2 x2 q2 => ?_⟩
    have S2 := S1.grow x2
    refine ⟨ρ1, env1, sto1, S2.viewE, S2.viewS, PoO.of S2 q2 fun u H3 x3 q3 => ?_⟩
    have S3 := S2.grow x3
    split at q3
    · rename_i zz ys a' c'
      split at q3
      · rename_i hb
        have hz : zz = false := by simpa [clean] using c
        subst hz
        obtain ⟨a, vs, e3, ha, hlen, cl, fl, put⟩ := S3.putL e1
        rw [e2] at e3
        have ew : w = .ref a := by simpa using e3
        subst ew
        have hb2 : ∃ b ws, v = .ref b ∧ H3 b = some (.lst ws) ∧ ws.length = ys.length ∧ a ≠ b ∧ ∀ F', RpL F' H3 ρ1 ys ws (fun _ => 0) ∧ cleanL ys = true ∧ flatL ys = true := by
          obtain ⟨⟨fe, fk, fs, h1, h2, h3, h4, h5⟩, fd⟩ := S3
          simp only [RpL] at h2
          obtain ⟨v', vs', f1, f2, ee, r1, r2, hf⟩ := h2
          obtain ⟨rfl, rfl⟩ := List.cons.inj ee
          simp only [Rp, Bool.false_eq_true, if_false] at r1
          obtain ⟨b, ws, f', rfl, hb0, l1, fl1, cl1, hf'⟩ := r1
          obtain ⟨v2, g1, g2, e5, r5, h6, hg⟩ := h1.take e1
          simp only [Rp, Bool.false_eq_true, if_false] at r5
          obtain ⟨a2, vs2, g', rfl, ha2, l2, fl2, cl2, hg'⟩ := r5
          have e6 : a2 = a := by
            have := e5
            rw [e2] at this
            simpa using this.symm
          have z0 := RpL.flat0 ys ws f' (fl1 trivial) l1
          have zf : f' = fun _ => 0 := funext z0
          rw [zf] at l1
          refine ⟨b, ws, rfl, hb0, l1.length, fun z => ?_, fun F' => ⟨RpL.clean ys ws _ cl1 l1, cl1, fl1 trivial⟩⟩
          have k4 := h4 a
          have k1 := hf a
          have k2 := hf' a
          have k3 := hg a
          have k5 := hg' a
          rw [e6] at k5
          rw [← z] at k2
          simp only [if_true] at k2 k5
          omega
        obtain ⟨b, ws, rfl, hb0, hwl, hne, hy⟩ := hb2
        have hy1 := hy F1
        obtain ⟨ff, SS⟩ := put (ts.take a'.toNat ++ ys ++ ts.drop c'.toNat) (vs.take a'.toNat ++ ws ++ vs.drop c'.toNat) false [] []
          (cleanL_app (cleanL_app (cleanL_take cl _) hy1.2.1) (cleanL_drop cl _)) (fun _ => flatL_app (flatL_app (flatL_take _ (fl rfl)) hy1.2.2) (flatL_drop _ (fl rfl))) (fun f fk r1 r2 => by
            have z0 := RpL.flat0 ts vs f (fl rfl) r1
            have zf : f = fun _ => 0 := funext z0
            subst zf
            refine ⟨fun _ => 0, fun _ => 0, ?_, by simp [RpL], fun b => by show 0 + 0 ≤ _; omega⟩
            exact ((RpL.take0 r1 _).app hy1.1).app (RpL.drop0 r1 _))
        refine ⟨a, b, vs, ws, a', c', rfl, rfl, rfl, rfl, ha, hb0, hne, hb.1, hb.2.1, by rw [hlen]; exact hb.2.2.1, by rw [hlen, hwl]; exact Nat.le_trans hb.2.2.2 sizeT_le, ?_⟩
        exact q3 F1 _ ρ1 σ ff SS Sg.refl
      · exact q3.elim
    · exact q3.elim
  · exact q1.elim
theorem r_app (G : Gs X pd Nm sc cf k W) {i : Nat} {x : Str} {p pos apos cpos : Pos} {d : E} {e : Expr} (hN : chkN Nm sc i x = true) (hp : plainX e = true) (A : chkE pd Nm sc d e = true) (hline : (apos.endLine == cpos.line) = true) :
    PS X (.Expr (.Call (.Attribute (.Name x p) "append" apos) [e] [] cpos) pos) (tSt pd X.mg W [] fun lk env sto => match env[i]? with
    | some (some (.lst false _ _)) => (kv cf d env sto).thn fun t env sto => match env[i]? with
      | some (some (.lst false n ts)) => if ts.length < sizeT then .nx (env.set i (some (.lst false (n || !flat t) (ts ++ [t])))) sto else .no
      | _ => .no
    | _ => .no) := by
  have PA_ := sK G.gd d e A
  have st := plain_star (xs := []) (env := X.env) hp
  have B : PE X (.Call (.Attribute (.Name x p) "append" apos) [e] [] cpos) (tBM X.K "list" rAppend (tVar i) (tCons (tGv pd X.mg W fun _ env sto => kv cf d env sto) tNil)) :=
    pe_bm F.plainAttrs_list F.slot_list_append F.type_list_append mt_append (pe_n G.gd hN) (pa_cons PA_ pa_nil st) rfl (by rw [st]; rfl) hline st rfl
  refine PS.imp (ps_expr B rfl) fun D σ H hl ⟨lk, F, ρ, env, sto, S, q⟩ => ?_
  dsimp only at q
  split at q
  · rename_i e0
    obtain ⟨w, e2, s2⟩ := S.viewE i _ e0
    obtain ⟨a, vs0, rfl, rd0, _, _⟩ := sn_lst s2
    refine ⟨.ref a, e2, .inl ⟨rfl, vs0, .inl rd0⟩, lk, F, ρ, env, [], [], sto, S, PoG.of q fun t env1 sto1 F1 H1 ρ1 v c f S1 q1 => ?_⟩
    split at q1
    · rename_i n ts e1
      split at q1
      · rename_i hz
        obtain ⟨a', vs, e3, ha, hlen, cl, fl, put⟩ := S1.putL e1
        rw [e2] at e3
        have ea : a = a' := by simpa using e3
        subst ea
        obtain ⟨ff, SS⟩ := put (ts ++ [t]) (vs ++ [v]) (n || !flat t) [] [] (cleanL_app cl (by simp [cleanL, c])) (fun z => by
          simp only [Bool.or_eq_false_iff, Bool.not_eq_false'] at z
          exact flatL_app (fl z.1) (by simp [flatL, z.2])) (fun f fk r1 r2 => ⟨_, fun _ => 0, r1.app r2, by simp [RpL], fun b => by show f b + fk b + 0 ≤ _; omega⟩)
        exact ⟨a, vs, v, rfl, rfl, ha, by rw [hlen]; exact Nat.lt_of_lt_of_le hz sizeT_le, q1 F1 _ ρ1 σ ff SS Sg.refl⟩
      · exact q1.elim
    · exact q1.elim
  · exact q.elim
theorem r_if (G : Gs X pd Nm sc cf k W) {pos : Pos} {e : Expr} {as bs : List Stmt} {A B : List Nat} {g : Bool → En → List Ob → GR Bool} {ra rb : Bool → En → List Ob → SR} (C : PT X e (tGb pd X.mg W g))
    (PA_ : PSs X as (tSt pd X.mg W A ra)) (PB_ : PSs X bs (tSt pd X.mg W B rb)) :
    PS X (.If e as bs pos) (tSt pd X.mg W (A ++ B) fun lk env sto => (g lk env sto).thn fun c env sto => if c then ra lk env sto else rb lk env sto) := by
  refine PS.imp (ps_if C PA_ PB_) fun D σ H hl ⟨lk, F, ρ, env, sto, S, q⟩ => ?_
  refine ⟨lk, F, ρ, env, [], [], sto, S, PoGB.of q fun c env1 sto1 F1 H1 ρ1 f S1 q1 => ?_⟩
  cases c with
  | true => exact ⟨lk, F1, ρ1, env1, sto1, S1, PoS.sub (fun j h => List.mem_append_left _ h) q1⟩
  | false => exact ⟨lk, F1, ρ1, env1, sto1, S1, PoS.sub (fun j h => List.mem_append_right _ h) q1⟩
theorem r_nil : PSs X [] (tSt pd X.mg W [] fun lk env sto => .nx env sto) :=
  PSs.imp pss_nil fun D σ H hl ⟨lk, F, ρ, env, sto, S, q⟩ => q F H ρ σ Fu.refl S Sg.refl
theorem r_cons {st : Stmt} {ss : List Stmt} {A B : List Nat} {ra rb : Bool → En → List Ob → SR} (PA_ : PS X st (tSt pd X.mg W A ra)) (PB_ : PSs X ss (tSt pd X.mg W B rb)) :
    PSs X (st :: ss) (tSt pd X.mg W (A ++ B) fun lk env sto => (ra lk env sto).thn fun env sto => rb lk env sto) := by
  refine PSs.imp (pss_cons PA_ PB_) fun D σ H hl ⟨lk, F, ρ, env, sto, S, q⟩ => ?_
  refine ⟨lk, F, ρ, env, sto, S, ?_⟩
  have z := PoS.seq (A := A) (B := B) (fun j h => List.mem_append_left _ h) (fun j h => List.mem_append_right _ h) q
  revert z
  cases ra lk env sto with
  | nx env1 sto1 => exact fun z F' H' ρ' σ' f S sg => let ⟨F2, ρ2, env2, sto2, S2, q2⟩ := z F' H' ρ' σ' f S sg; ⟨lk, F2, ρ2, env2, sto2, S2, q2⟩
  | bk _ _ => exact id
  | ct _ _ => exact id
  | rt _ _ _ => exact id
  | ex _ _ _ => exact id
  | no => exact id
theorem r_while (G : Gs X pd Nm sc cf k W) {N : Nat} {pos : Pos} {e : Expr} {bs : List Stmt} {B : List Nat} {g : En → List Ob → Rs Bool} {rb : Bool → En → List Ob → SR} (C : PT X e (tPb pd X.mg W g)) (PB_ : PSs X bs (tSt pd X.mg W B rb)) :
    PS X (.While e bs [] pos) (tSt pd X.mg W B fun lk env sto => loopW (rb lk) g N env sto) := by
  refine PS.imp (ps_while G.po C PB_) fun D σ H hl ⟨lk, F, ρ, env, sto, S, q⟩ => ?_
  refine ⟨fun m σ H => ∃ lk F ρ env sto, Sr pd X.mg F H ρ lk σ env [] [] sto ∧ PoS pd X.mg W lk F H ρ B σ (loopW (rb lk) g m env sto) D, ⟨N, lk, F, ρ, env, sto, S, q⟩, ?_⟩
  rintro m σ H ⟨lk, F, ρ, env, sto, S, q⟩
  refine ⟨ρ, env, sto, S.viewE, S.viewS, ?_⟩
  cases m with
  | zero => exact q.elim
  | succ m =>
    unfold loopW at q
    dsimp only
    cases e1 : g env sto with
    | no => rw [e1] at q; exact q.elim
    | ex z =>
      rw [e1] at q
      exact fun cls d H' e' x => q F H' ρ σ cls d (Fu.grow S.fd e') (S.grow e') Sg.refl x
    | ok c =>
      rw [e1] at q
      rintro c' H' ⟨e', rfl⟩
      cases c with
      | false =>
        rw [if_neg Bool.false_ne_true]
        exact q F H' ρ σ (Fu.grow S.fd e') (S.grow e') Sg.refl
      | true =>
        rw [if_pos rfl]
        have q' : PoS pd X.mg W lk F H' ρ B σ ((rb lk env sto).turn (loopW (rb lk) g m)) D := PoS.fu (Fu.grow S.fd e') q
        exact ⟨_, fun σ' H' w => ⟨m, Nat.lt_succ_self m, w⟩, lk, F, ρ, env, sto, S.grow e', PoS.turn (fun _ h => h) q' _ fun F2 H2 ρ2 σ2 env2 sto2 _ f2 S2 sg2 q2 => ⟨lk, F2, ρ2, env2, sto2, S2, q2⟩⟩
/-- for over a range -/
theorem r_rng (G : Gs X pd Nm sc cf k W) {i : Nat} {B : List Nat} {rb : Bool → En → List Ob → SR} {n : Nat} {lo : Int} {D : Ends} {σ : L2.St} {H : Hp} {lk F ρ env sto} (hi : i < σ.length)
    (S : Sr pd X.mg F H ρ lk σ env [] [] sto) (q : PoS pd X.mg W lk F H ρ (i :: B) σ (loopR (rb lk) i n lo env sto) D) :
    ∃ Wv : Nat → Nat → L2.St → Hp → Prop, (∃ m, Wv 0 m σ H) ∧ ∀ c m σ H, Wv c m σ H → ((Itr lo n).stop c H ∧ D.nx σ H) ∨ ((Itr lo n).go c H ∧ ∃ N : L2.St → Hp → Prop, (∀ σ' H', N σ' H' → ∃ m', m' < m ∧ Wv (c + 1) m' σ' H') ∧
      ∀ x H', (Itr lo n).yld c H x H' → gName i x σ H' fun σ2 H2 => tSt pd X.mg W B rb { D with nx := N, ct := N, bk := D.nx } σ2 H2) := by
  refine ⟨fun c m σ H => c ≤ n ∧ m = n - c ∧ i < σ.length ∧ ∃ lk F ρ env sto, Sr pd X.mg F H ρ lk σ env [] [] sto ∧ PoS pd X.mg W lk F H ρ (i :: B) σ (loopR (rb lk) i (n - c) (lo + c) env sto) D, ⟨n, Nat.zero_le _, rfl, hi, lk, F, ρ, env, sto, S, by simpa using q⟩, ?_⟩
  rintro c m σ H ⟨hc, rfl, hi, lk, F, ρ, env, sto, S, q⟩
  by_cases hn : n ≤ c
  · have e : n - c = 0 := by omega
    rw [e] at q
    exact .inl ⟨hn, q F H ρ σ Fu.refl S Sg.refl⟩
  · refine .inr ⟨by show c < n; omega, ?_⟩
    have e : n - c = (n - (c + 1)) + 1 := by omega
    rw [e] at q
    unfold loopR at q
    refine ⟨fun σ' H' => i < σ'.length ∧ ∃ lk F ρ env sto, Sr pd X.mg F H' ρ lk σ' env [] [] sto ∧ PoS pd X.mg W lk F H' ρ (i :: B) σ' (loopR (rb lk) i (n - (c + 1)) (lo + (c + 1 : Nat)) env sto) D, fun σ' H' w => ⟨n - (c + 1), by omega, by omega, rfl, w⟩, ?_⟩
    rintro x H' ⟨rfl, rfl⟩
    have S1 : Sr pd X.mg F H' ρ lk (σ.set i (some (.int (lo + c)))) (env.set i (some (.int (lo + c)))) [] [] sto := (S.push PR.int rfl).store (by rw [← S.len]; exact hi)
    refine ⟨lk, F, ρ, _, sto, S1, PoS.turn (A := i :: B) (fun j h => List.mem_cons_of_mem _ h) (q.fut (B := [i]) Fu.refl Sg.set (by simp) fun _ h => h) _ ?_⟩
    intro F2 H2 ρ2 σ2 env2 sto2 _ f2 S2 sg2 q2
    refine ⟨by rw [sg2.len]; simpa using hi, lk, F2, ρ2, env2, sto2, S2, ?_⟩
    have e2 : lo + ((c + 1 : Nat) : Int) = lo + (c : Int) + 1 := by omega
    rw [e2]
    exact q2
end
end Tr
/-! TrFds: statements that put fields. -/
namespace Tr
open PySem PySem.Spec PyProof.Rows L2
section
variable {pd : Pd} {Nm : List Str} {sc : Scope} {cf : CF} {k : Nat} {W : WX} {X : Cx}
theorem fok_inv {sto : List Ob} {i n : Nat} (h : fokO sto i n = true) : ∃ o, sto[i]? = some o ∧ n < 18 ∧ o.fs.length < 900 ∧ ∀ t, fputO sto i n t = sto.set i ⟨o.cls, fputL o.fs n t⟩ := by
  unfold fokO at h
  cases es : sto[i]? with
  | none => rw [es] at h; exact nomatch h
  | some o =>
    rw [es] at h
    simp only [Bool.and_eq_true, decide_eq_true_eq] at h
    exact ⟨o, rfl, h.1, h.2, fun t => by unfold fputO; rw [es]⟩
theorem sn_obj {H : Hp} {ρ : List Addr} {i : Nat} {v : V} {a : Addr} (h : Sn Top H ρ (.obj i) v) (e : ρ[i]? = some a) : v = .ref a := by
  simp only [Sn] at h
  obtain ⟨a', e1, e2⟩ := h
  rw [e] at e1
  simp at e1
  rw [e2, e1]
/-- an object's field, to be read -/
theorem obj_fld (G : Gd X pd Nm sc cf k W) {F H ρ lk σ env us ws sto} {i n : Nat} {o : Ob} {t : T} (S : Sr pd X.mg F H ρ lk σ env us ws sto) (es : sto[i]? = some o) (hn : n < 18) (hfl : n ∈ pd.fl) (eg : fgetL o.fs n = some t) :
    ∃ a C dx fs u, ρ[i]? = some a ∧ H a = some (.ins C dx fs) ∧ Cls X.K C ∧ NoAttr X.K C (fldN n) ∧ fs.lookup (fldN n) = some u ∧ Sn Top H ρ t u := by
  obtain ⟨ad, ea, _, cx, C, dx, fs, c1, c2, c3, c4⟩ := StoS.at_ S.viewS es
  obtain ⟨C', m1, CF⟩ := G.fs.cls cx o.cls c1
  rw [c2] at m1
  have : C = C' := by simpa using m1
  subst this
  obtain ⟨u, l1, s1⟩ := c4.get hn eg
  exact ⟨ad, C, dx, fs, u, ea, c3, CF.cls, CF.na n hfl, l1, s1⟩
theorem r_setf (G : Gs X pd Nm sc cf k W) {a : E} {n : Nat} {c : C} {o e : Expr} {p pos : Pos} (hfl : n ∈ pd.fl) (hr : rcvX o = true) (hp : plainA e = true) (A : chkE pd Nm sc a o = true) (B : chkC pd Nm sc c e = true) :
    PS X (.Assign [.Attribute o (fldN n) p] e pos) (tSt pd X.mg W [] fun lk env sto => (gv cf lk c env sto).thn fun t env sto => ((pv cf env sto a).g env sto).thn fun x env sto => match x with
    | .obj i => if !lk && fokO sto i n then .nx env (fputO sto i n (some t)) else .no
    | _ => .no) := by
  have PA_ := sE G.gd a o A
  have PB_ := sV G.gd c e B
  refine PS.imp (ps_fld PA_ PB_ (plain_swA hp _ _)) fun D σ H hl ⟨lk, F, ρ, env, sto, S, q⟩ => ?_
  refine ⟨lk, F, ρ, env, [], [], sto, S, PoG.of q fun t env1 sto1 F1 H1 ρ1 v c f S1 q1 => ?_⟩
  refine ⟨ρ1, env1, sto1, S1.viewE, S1.viewS, PoV.of S1 q1 fun x H2 w p2 q2 => ?_⟩
  have S2 := S1.grow p2.ext
  cases x <;> first | exact q2.elim | skip
  rename_i i
  dsimp only at q2
  by_cases hk : (!lk && fokO sto1 i n) = true
  · rw [if_pos hk] at q2
    simp only [Bool.and_eq_true, Bool.not_eq_true'] at hk
    obtain ⟨rfl, hk⟩ := hk
    obtain ⟨o, es, hn, hlo, ep⟩ := fok_inv hk
    rw [ep] at q2
    obtain ⟨ad, x, C, dx, fs, ea, c1, c2, ha, hlen, fu, S3⟩ := S2.putFld c es hn
    obtain ⟨C', m1, CF⟩ := G.gd.fs.cls x o.cls c1
    rw [c2] at m1
    have : C = C' := by simpa using m1
    subst this
    exact ⟨ad, C, dx, fs, sn_obj p2.sn ea, ha, CF.cls, CF.na n hfl, by omega, q2 F1 _ ρ1 σ fu S3 Sg.refl⟩
  · rw [if_neg hk] at q2; exact q2.elim
theorem r_setfix (G : Gs X pd Nm sc cf k W) {a : E} {n : Nat} {ik d : E} {o y e : Expr} {p tpos pos : Pos} (hfl : n ∈ pd.fl) (hn : n < 18) (hr : rcvX o = true) (hy : plainX y = true) (hp : plainX e = true) (A : chkE pd Nm sc a o = true) (B : chkE pd Nm sc ik y = true) (C : chkE pd Nm sc d e = true) :
    PS X (.Assign [.Subscript (.Attribute o (fldN n) p) y tpos] e pos) (tSt pd X.mg W [] fun lk env sto => (kv cf d env sto).thn fun t env sto => ((pv cf env sto a).g env sto).thn fun x env sto => match x with
    | .obj i => match fgetO sto i n with
      | some (.lst false m ts) => ((pv cf env sto ik).g env sto).thn fun y env sto => match y with
        | .int j => match L2.ixN ts.length j with
          | some j => if !lk && fokO sto i n then .nx env (fputO sto i n (some (.lst false (m || !flat t) (ts.set j t)))) else .no
          | none => .no
        | _ => .no
      | _ => .no
    | _ => .no) := by
  have PA_ := sE G.gd a o A
  have PB_ := sE G.gd ik y B
  have PC_ := sK G.gd d e C
  have hset : PG X (.Subscript (.Attribute o (fldN n) p) y tpos) (gSub (tFld X.K (tPv pd X.mg W fun env sto => pv cf env sto a) (fldN n)) (tPv pd X.mg W fun env sto => pv cf env sto ik) rSetL) := by
    refine pg_sub (pe_fld PA_ (rcv_base hr _ _ _)) PB_ set_list fun v => ?_
    cases y <;> simp only [plainX, Bool.false_eq_true] at hy <;> rfl
  refine PS.imp (ps_asg PC_ hset (plain_sw1 hp _ _) (by cases e <;> simp only [plainX, Bool.false_eq_true] at hp <;> rfl)) fun D σ H hl ⟨lk, F, ρ, env, sto, S, q⟩ => ?_
  refine ⟨lk, F, ρ, env, [], [], sto, S, PoG.of q fun t env1 sto1 F1 H1 ρ1 v c f S1 q1 => ?_⟩
  refine ⟨ρ1, env1, sto1, S1.viewE, S1.viewS, PoV.of S1 q1 fun x H2 w p2 q2 => ?_⟩
  have S2 := S1.grow p2.ext
  cases x <;> first | exact q2.elim | skip
  rename_i i
  dsimp only at q2
  cases es : sto1[i]? with
  | none =>
    have : fgetO sto1 i n = none := by simp [fgetO, es]
    rw [this] at q2; exact q2.elim
  | some ob =>
    have eo : fgetO sto1 i n = fgetL ob.fs n := by simp [fgetO, es]
    rw [eo] at q2
    split at q2
    · rename_i m ts eg
      obtain ⟨ad, C, dx, fs, u, ea, c3, cl, na, l1, s1⟩ := obj_fld G.gd S2 es hn hfl eg
      refine ⟨ad, C, dx, fs, u, sn_obj p2.sn ea, c3, cl, na, l1, ρ1, env1, sto1, S2.viewE, S2.viewS, PoV.of S2 q2 fun y1 H3 yv p3 q3 => ?_⟩
      have S3 := S2.grow p3.ext
      split at q3
      · rename_i j
        split at q3
        · rename_i j' ej
          by_cases hk : (!lk && fokO sto1 i n) = true
          · rw [if_pos hk] at q3
            simp only [Bool.and_eq_true, Bool.not_eq_true'] at hk
            obtain ⟨rfl, hk⟩ := hk
            obtain ⟨o2, es2, hn2, hlo, ep⟩ := fok_inv hk
            rw [es] at es2
            have : ob = o2 := by simpa using es2
            subst this
            rw [ep] at q3
            obtain ⟨ad', x', C', dx', fs', al, vs, ea', c1', c2', c3', l1', ha, hlen, cl', fl', put⟩ := S3.putFL es hn eg
            rw [ea] at ea'
            have : ad = ad' := by simpa using ea'
            subst this
            have e3 := p3.ext _ _ c3
            rw [c3'] at e3
            have : fs' = fs := by injection e3 with e3; injection e3
            subst this
            rw [l1'] at l1
            have eu : u = .ref al := by simpa using l1.symm
            subst eu
            obtain ⟨ff, SS⟩ := put (ts.set j' t) (vs.set j' v) (m || !flat t) [] [] (cleanL_set cl' c) (fun z => by
              simp only [Bool.or_eq_false_iff, Bool.not_eq_false'] at z
              exact flatL_set (fl' z.1) z.2) (fun f fk r1 r2 => by
              simp only [RpL] at r2
              obtain ⟨v', vs', f1, f2, e, k1, k2, hf⟩ := r2
              obtain ⟨rfl, rfl⟩ := List.cons.inj e
              obtain ⟨f3, m1, m2⟩ := RpL.set (j := j') r1 k1
              exact ⟨f3, fun _ => 0, m1, by simp [RpL], fun b => by have := m2 b; have := hf b; show f3 b + 0 ≤ _; omega⟩)
            exact ⟨al, vs, j, j', rfl, sn_int p3.sn, ha, by rw [hlen]; exact ej, q3 F1 _ ρ1 σ ff SS Sg.refl⟩
          · rw [if_neg hk] at q3; exact q3.elim
        · exact q3.elim
      · exact q3.elim
    · exact q2.elim
theorem r_appf (G : Gs X pd Nm sc cf k W) {a : E} {n : Nat} {d : E} {o e : Expr} {p pos apos cpos : Pos} (hfl : n ∈ pd.fl) (hn : n < 18) (hr : rcvX o = true) (hp : plainX e = true) (A : chkE pd Nm sc a o = true) (B : chkE pd Nm sc d e = true) (hline : (apos.endLine == cpos.line) = true) :
    PS X (.Expr (.Call (.Attribute (.Attribute o (fldN n) p) "append" apos) [e] [] cpos) pos) (tSt pd X.mg W [] fun lk env sto => ((pv cf env sto a).g env sto).thn fun x env sto => match x with
    | .obj i => match fgetO sto i n with
      | some (.lst false m ts) => ((pv cf env sto d).g env sto).thn fun t env sto => if !lk && fokO sto i n && decide (ts.length < sizeT) && clean t then .nx env (fputO sto i n (some (.lst false (m || !flat t) (ts ++ [t])))) else .no
      | _ => .no
    | _ => .no) := by
  have PA_ := sE G.gd a o A
  have PB_ := sE G.gd d e B
  have st := plain_star (xs := []) (env := X.env) hp
  have C : PE X (.Call (.Attribute (.Attribute o (fldN n) p) "append" apos) [e] [] cpos) (tBM X.K "list" rAppend (tFld X.K (tPv pd X.mg W fun env sto => pv cf env sto a) (fldN n)) (tCons (tPv pd X.mg W fun env sto => pv cf env sto d) tNil)) :=
    pe_bm F.plainAttrs_list F.slot_list_append F.type_list_append mt_append (pe_fld PA_ (rcv_base hr _ _ _)) (pa_cons PB_ pa_nil st) rfl (by rw [st]; rfl) hline st rfl
  refine PS.imp (ps_expr C rfl) fun D σ H hl ⟨lk, F, ρ, env, sto, S, q⟩ => ?_
  refine ⟨ρ, env, sto, S.viewE, S.viewS, PoV.of S q fun x H2 w p2 q2 => ?_⟩
  have S2 := S.grow p2.ext
  cases x <;> first | exact q2.elim | skip
  rename_i i
  dsimp only at q2
  cases es : sto[i]? with
  | none =>
    have : fgetO sto i n = none := by simp [fgetO, es]
    rw [this] at q2; exact q2.elim
  | some ob =>
    have eo : fgetO sto i n = fgetL ob.fs n := by simp [fgetO, es]
    rw [eo] at q2
    split at q2
    · rename_i m ts eg
      obtain ⟨ad, C, dx, fs, u, ea, c3, cl, na, l1, s1⟩ := obj_fld G.gd S2 es hn hfl eg
      obtain ⟨al, vs0, rfl, rd0, _, _⟩ := sn_lst s1
      refine ⟨ad, C, dx, fs, .ref al, sn_obj p2.sn ea, c3, cl, na, l1, .inl ⟨rfl, vs0, .inl rd0⟩, ρ, env, sto, S2.viewE, S2.viewS, PoV.of S2 q2 fun t H3 v p3 q3 => ?_⟩
      by_cases hk : (!lk && fokO sto i n && decide (ts.length < sizeT) && clean t) = true
      · rw [if_pos hk] at q3
        simp only [Bool.and_eq_true, Bool.not_eq_true', decide_eq_true_eq] at hk
        obtain ⟨⟨⟨rfl, hk⟩, hz⟩, hc⟩ := hk
        obtain ⟨o2, es2, hn2, hlo, ep⟩ := fok_inv hk
        rw [es] at es2
        have : ob = o2 := by simpa using es2
        subst this
        rw [ep] at q3
        have S3 := S2.push p3 hc
        obtain ⟨ad', x', C', dx', fs', al', vs, ea', c1', c2', c3', l1', ha, hlen, cl', fl', put⟩ := S3.putFL es hn eg
        rw [ea] at ea'
        have : ad = ad' := by simpa using ea'
        subst this
        have e3 := p3.ext _ _ c3
        rw [c3'] at e3
        have : fs' = fs := by injection e3 with e3; injection e3
        subst this
        rw [l1'] at l1
        have eu : al' = al := by simpa using l1
        subst eu
        obtain ⟨ff, SS⟩ := put (ts ++ [t]) (vs ++ [v]) (m || !flat t) [] [] (cleanL_app cl' (by simp [cleanL, hc])) (fun z => by
          simp only [Bool.or_eq_false_iff, Bool.not_eq_false'] at z
          exact flatL_app (fl' z.1) (by simp [flatL, z.2])) (fun f fk r1 r2 => ⟨_, fun _ => 0, r1.app r2, by simp [RpL], fun b => by show f b + fk b + 0 ≤ _; omega⟩)
        exact ⟨al', vs, v, rfl, rfl, ha, by rw [hlen]; exact Nat.lt_of_lt_of_le hz sizeT_le, q3 F _ ρ σ ff SS Sg.refl⟩
      · rw [if_neg hk] at q3; exact q3.elim
    · exact q2.elim
end
end Tr
/-! TrLoop: for over lists and tuples; the statements are sound. -/
namespace Tr
open PySem PySem.Spec PyProof.Rows L2
section
variable {pd : Pd} {Nm : List Str} {sc : Scope} {cf : CF} {k : Nat} {W : WX} {X : Cx}
/-- what an iterator tells of a tree list -/
def Reads (J : It) (H : Hp) (ρ : List Addr) (ts : List T) : Prop := (∀ c, ts.length ≤ c → J.stop c H) ∧ ∀ (c : Nat) t, ts[c]? = some t → J.go c H ∧ ∀ x H', J.yld c H x H' → H' = H ∧ Sn Top H ρ t x
theorem reads_l {K H ρ a vs ts} (r : Rd H a (.lst vs)) (l : SnL Top H ρ ts vs) : Reads (Itl K a) H ρ ts := by
  refine ⟨fun c hc => ⟨vs, .inl r, by rw [l.length]; exact hc⟩, fun c t e => ?_⟩
  obtain ⟨v, e1, s⟩ := l.get e
  exact ⟨⟨vs, v, .inl r, e1⟩, fun x H' ⟨e2, y⟩ => ⟨e2, by have := y vs (.inl r); rw [e1] at this; cases this; exact s⟩⟩
theorem reads_t {K H ρ a vs ts} (r : H a = some (.tup vs)) (l : SnL Top H ρ ts vs) : Reads (Itt K a) H ρ ts := by
  refine ⟨fun c hc => ⟨vs, .inl (.inl r), by rw [l.length]; exact hc⟩, fun c t e => ?_⟩
  obtain ⟨v, e1, s⟩ := l.get e
  exact ⟨⟨vs, v, .inl (.inl r), e1⟩, fun x H' ⟨e2, y⟩ => ⟨e2, by have := y vs (.inl (.inl r)); rw [e1] at this; cases this; exact s⟩⟩
theorem r_its (J : It) {ts : List T} (Pk : As → Hp → List Addr → L2.St → En → Prop) {i : Nat} {B : List Nat} {rb : Bool → En → List Ob → SR} {D : Ends} {σ : L2.St} {H : Hp} {lk F ρ env sto} (fl : flatL ts = true)
    (hr : ∀ F H ρ lk σ env sto, Sr pd X.mg F H ρ lk σ env [] [] sto → Pk F H ρ σ env → Reads J H ρ ts)
    (hk : ∀ lk F H ρ σ env F' H' ρ' σ' env' t sto sto', Pk F H ρ σ env → Fu lk F H ρ F' H' ρ' → Sg (i :: B) σ σ' → (rb lk (env.set i (some t)) sto = .nx env' sto' ∨ rb lk (env.set i (some t)) sto = .ct env' sto') → Pk F' H' ρ' σ' env')
    (hi : i < σ.length) (p : Pk F H ρ σ env) (S : Sr pd X.mg F H ρ lk σ env [] [] sto) (q : PoS pd X.mg W lk F H ρ (i :: B) σ (loopL (rb lk) i ts env sto) D) :
    ∃ Wv : Nat → Nat → L2.St → Hp → Prop, (∃ m, Wv 0 m σ H) ∧ ∀ c m σ H, Wv c m σ H → (J.stop c H ∧ D.nx σ H) ∨ (J.go c H ∧ ∃ N : L2.St → Hp → Prop, (∀ σ' H', N σ' H' → ∃ m', m' < m ∧ Wv (c + 1) m' σ' H') ∧
      ∀ x H', J.yld c H x H' → gName i x σ H' fun σ2 H2 => tSt pd X.mg W B rb { D with nx := N, ct := N, bk := D.nx } σ2 H2) := by
  refine ⟨fun c m σ H => c ≤ ts.length ∧ m = ts.length - c ∧ i < σ.length ∧ ∃ lk F ρ env sto, Pk F H ρ σ env ∧ Sr pd X.mg F H ρ lk σ env [] [] sto ∧ PoS pd X.mg W lk F H ρ (i :: B) σ (loopL (rb lk) i (ts.drop c) env sto) D, ⟨ts.length, Nat.zero_le _, rfl, hi, lk, F, ρ, env, sto, p, S, by simpa using q⟩, ?_⟩
  rintro c m σ H ⟨hc, rfl, hi, lk, F, ρ, env, sto, p, S, q⟩
  have rd := hr F H ρ lk σ env sto S p
  by_cases hn : ts.length ≤ c
  · rw [List.drop_eq_nil_of_le hn] at q
    exact .inl ⟨rd.1 c hn, q F H ρ σ Fu.refl S Sg.refl⟩
  · have hlt : c < ts.length := by omega
    rw [List.drop_eq_getElem_cons hlt] at q
    unfold loopL at q
    have et : ts[c]? = some ts[c] := List.getElem?_eq_getElem hlt
    obtain ⟨go, yl⟩ := rd.2 c _ et
    refine .inr ⟨go, fun σ' H' => i < σ'.length ∧ ∃ lk F ρ env sto, Pk F H' ρ σ' env ∧ Sr pd X.mg F H' ρ lk σ' env [] [] sto ∧ PoS pd X.mg W lk F H' ρ (i :: B) σ' (loopL (rb lk) i (ts.drop (c + 1)) env sto) D, fun σ' H' w => ⟨ts.length - (c + 1), by omega, by omega, rfl, w⟩, ?_⟩
    intro x H' y
    obtain ⟨rfl, sn⟩ := yl x H' y
    have ft := flatL_get fl et
    have S1 : Sr pd X.mg F H' ρ lk (σ.set i (some x)) (env.set i (some ts[c])) [] [] sto := (S.push (PR.flat ft sn) (clean_of_flat _ ft)).store (by rw [← S.len]; exact hi)
    refine ⟨lk, F, ρ, _, sto, S1, PoS.turn (A := i :: B) (fun j h => List.mem_cons_of_mem _ h) (q.fut (B := [i]) Fu.refl Sg.set (by simp) fun _ h => h) _ ?_⟩
    intro F2 H2 ρ2 σ2 env2 sto2 hr2 f2 S2 sg2 q2
    refine ⟨by rw [sg2.len]; simpa using hi, lk, F2, ρ2, env2, sto2, hk lk F H' ρ σ env F2 H2 ρ2 σ2 env2 _ _ _ p f2 (Sg.trans (Sg.set (i := i)) sg2 (by simp) fun j h => List.mem_cons_of_mem _ h) hr2, S2, q2⟩
theorem r_forv (G : Gs X pd Nm sc cf k W) {i j : Nat} {x y : Str} {p py pos : Pos} {bs : List Stmt} {B : List Nat} {rb : Bool → En → List Ob → SR} (hL : chkL Nm sc i x = true) (hN : chkN Nm sc j y = true) (hj : j ∉ B) (hij : i ≠ j)
    (kp : ∀ lk env sto, (rb lk env sto).kp j env) (PB_ : PSs X bs (tSt pd X.mg W B rb)) :
    PS X (.For (.Name x p) (.Name y py) bs [] pos) (tSt pd X.mg W (i :: B) fun lk env sto => match (getV env j).bind fun t => ofO (items t) with
      | .ok ts => loopL (rb lk) i ts env sto
      | _ => .no) := by
  obtain ⟨h1, h2, h3, h4⟩ := L_of G hL
  refine PS.imp (ps_for G.po G.gd.calm (pi_seq (pe_n G.gd hN)) (pg_name G.nd h1 h2 h3) PB_ fun _ => rfl) fun D σ H hl ⟨lk, F, ρ, env, sto, S, q⟩ => ?_
  dsimp only at q
  cases e1 : getV env j with
  | ex e => rw [e1] at q; exact q.elim
  | no => rw [e1] at q; exact q.elim
  | ok t =>
    rw [e1, Rs.bind_ok] at q
    cases e2 : items t with
    | none => rw [e2] at q; exact q.elim
    | some ts =>
      rw [e2] at q
      have q' : PoS pd X.mg W lk F H ρ (i :: B) σ (loopL (rb lk) i ts env sto) D := q
      obtain ⟨v, ev, s⟩ := S.viewE j t (getV_ok e1)
      have keep : ∀ (a : Addr) lk (F : As) (H : Hp) (ρ : List Addr) (σ : L2.St) (env : En) (F' : As) (H' : Hp) (ρ' : List Addr) (σ' : L2.St) (env' : En) (u : T) (sto sto' : List Ob), (env[j]? = some (some t) ∧ σ[j]? = some (some (.ref a))) → Fu lk F H ρ F' H' ρ' → Sg (i :: B) σ σ' →
          (rb lk (env.set i (some u)) sto = .nx env' sto' ∨ rb lk (env.set i (some u)) sto = .ct env' sto') → (env'[j]? = some (some t) ∧ σ'[j]? = some (some (.ref a))) := by
        intro a lk F H ρ σ env F' H' ρ' σ' env' u sto sto' ⟨p1, p2⟩ _ sg hr
        refine ⟨?_, ?_⟩
        · have z := kp lk (env.set i (some u)) sto
          have z2 : env'[j]? = (env.set i (some u))[j]? := by rcases hr with hr | hr <;> rw [hr] at z <;> exact z
          rw [z2, List.getElem?_set_ne hij]; exact p1
        · rw [sg.at_ j (by simp only [List.mem_cons, not_or]; exact ⟨fun z => hij z.symm, hj⟩)]; exact p2
      have it : ts.length ≥ 0 := Nat.zero_le _
      cases t <;> simp only [items] at e2 <;> first | (cases e2; done) | skip
      · -- a tuple
        rename_i us
        split at e2
        · rename_i fl
          cases e2
          obtain ⟨a, vs, rfl, ha, l⟩ := sn_tup s
          refine .inr ⟨.ref a, ev, a, rfl, ⟨vs, .inl (.inl ha)⟩, ?_⟩
          refine r_its (Itt X.K a) (fun F H ρ σ env => env[j]? = some (some (.tup ts)) ∧ σ[j]? = some (some (.ref a))) fl (fun F H ρ lk σ env sto S ⟨p1, p2⟩ => ?_) (keep a) (h4 hl) ⟨getV_ok e1, ev⟩ S q'
          obtain ⟨w, ew, sw⟩ := S.viewE j _ p1
          rw [p2] at ew
          have : w = .ref a := by simpa using ew.symm
          subst this
          obtain ⟨a', vs', e, ha', l'⟩ := sn_tup sw
          cases e
          exact reads_t ha' l'
        · cases e2
      · rename_i z n us
        cases n <;> simp only [items] at e2 <;> first | (cases e2; done) | skip
        cases e2
        obtain ⟨a, vs, rfl, ha, l, fl⟩ := sn_lst s
        refine .inl ⟨.ref a, ev, a, rfl, ⟨vs, .inl ha⟩, ?_⟩
        refine r_its (Itl X.K a) (fun F H ρ σ env => env[j]? = some (some (.lst z false ts)) ∧ σ[j]? = some (some (.ref a))) (fl rfl) (fun F H ρ lk σ env sto S ⟨p1, p2⟩ => ?_) (keep a) (h4 hl) ⟨getV_ok e1, ev⟩ S q'
        obtain ⟨w, ew, sw⟩ := S.viewE j _ p1
        rw [p2] at ew
        have : w = .ref a := by simpa using ew.symm
        subst this
        obtain ⟨a', vs', e, ha', l', _⟩ := sn_lst sw
        cases e
        exact reads_l ha' l'
theorem r_fore (G : Gs X pd Nm sc cf k W) {i : Nat} {x : Str} {p pos : Pos} {d : E} {e : Expr} {bs : List Stmt} {B : List Nat} {rb : Bool → En → List Ob → SR} (hL : chkL Nm sc i x = true) (hp : plainX e = true) (A : chkE pd Nm sc d e = true)
    (PB_ : PSs X bs (tSt pd X.mg W B rb)) :
    PS X (.For (.Name x p) e bs [] pos) (tSt pd X.mg W (i :: B) fun lk env sto => ((pv cf env sto d).g env sto).thn fun t env sto => if clean t then match items t with
      | some ts => loopL (rb lk) i ts env sto
      | none => .no
    else .no) := by
  obtain ⟨h1, h2, h3, h4⟩ := L_of G hL
  refine PS.imp (ps_for G.po G.gd.calm (pi_seq (sE G.gd d e A)) (pg_name G.nd h1 h2 h3) PB_ (plain_fold hp X.env)) fun D σ H hl ⟨lk, F, ρ, env, sto, S, q⟩ => ?_
  dsimp only at q
  cases e1 : pv cf env sto d with
  | no => rw [e1] at q; exact q.elim
  | ex z =>
    rw [e1] at q
    exact .inl ⟨ρ, env, sto, S.viewE, S.viewS, by
      show PoV pd X.mg ρ _ H (pv cf env sto d) _
      rw [e1]
      exact fun cls dd H' e xr => q F H' ρ σ cls dd (Fu.grow S.fd e) (S.grow e) Sg.refl xr⟩
  | ok t =>
    rw [e1] at q
    have q0 : PoS pd X.mg W lk F H ρ (i :: B) σ (if clean t then match items t with
      | some ts => loopL (rb lk) i ts env sto
      | none => .no
      else .no) D := q
    by_cases hc : clean t = true
    · rw [if_pos hc] at q0
      cases e2 : items t with
      | none => rw [e2] at q0; exact q0.elim
      | some ts =>
        rw [e2] at q0
        dsimp only at q0
        have keep : ∀ (w : V) lk (F : As) (H : Hp) (ρ : List Addr) (σ : L2.St) (env : En) (F' : As) (H' : Hp) (ρ' : List Addr) (σ' : L2.St) (env' : En) (u : T) (sto sto' : List Ob), Sn F H ρ t w → Fu lk F H ρ F' H' ρ' → Sg (i :: B) σ σ' →
          (rb lk (env.set i (some u)) sto = .nx env' sto' ∨ rb lk (env.set i (some u)) sto = .ct env' sto') → Sn F' H' ρ' t w := fun w lk F H ρ σ env F' H' ρ' σ' env' u sto sto' p f _ _ => Sn.keep f.k f.p f.s t w p
        cases t <;> simp only [items] at e2 <;> first | (cases e2; done) | skip
        · rename_i us
          split at e2
          · rename_i fl
            cases e2
            refine .inr ⟨ρ, env, sto, S.viewE, S.viewS, ?_⟩
            show PoV pd X.mg ρ _ H (pv cf env sto d) _
            rw [e1]
            intro v H1 p1
            obtain ⟨a, vs, rfl, ha, l⟩ := sn_tup p1.sn
            obtain ⟨F1, f1, S1, s1⟩ := (S.push p1 hc).hold
            refine ⟨a, rfl, ⟨vs, .inl (.inl ha)⟩, ?_⟩
            refine r_its (Itt X.K a) (fun F H ρ σ env => Sn F H ρ (.tup ts) (.ref a)) fl (fun F H ρ lk σ env sto S p => ?_) (keep (.ref a)) (h4 hl) s1 S1 (q0.fu ((Fu.grow S.fd p1.ext).trans f1))
            obtain ⟨a', vs', e, ha', l'⟩ := sn_tup p
            cases e
            exact reads_t ha' (SnL.keep Kp.refl Pre.refl (fun _ _ => trivial) _ _ l')
          · cases e2
        · rename_i z n us
          cases n <;> simp only [items] at e2 <;> first | (cases e2; done) | skip
          cases e2
          refine .inl ⟨ρ, env, sto, S.viewE, S.viewS, ?_⟩
          show PoV pd X.mg ρ _ H (pv cf env sto d) _
          rw [e1]
          intro v H1 p1
          obtain ⟨a, vs, rfl, ha, l, fl⟩ := sn_lst p1.sn
          obtain ⟨F1, f1, S1, s1⟩ := (S.push p1 hc).hold
          refine ⟨a, rfl, ⟨vs, .inl ha⟩, ?_⟩
          refine r_its (Itl X.K a) (fun F H ρ σ env => Sn F H ρ (.lst z false ts) (.ref a)) (fl rfl) (fun F H ρ lk σ env sto S p => ?_) (keep (.ref a)) (h4 hl) s1 S1 (q0.fu ((Fu.grow S.fd p1.ext).trans f1))
          obtain ⟨a', vs', e, ha', l', _⟩ := sn_lst p
          cases e
          exact reads_l ha' (SnL.keep Kp.refl Pre.refl (fun _ _ => trivial) _ _ l')
    · rw [if_neg hc] at q0; exact q0.elim
end
end Tr
/-! TrLoopT: for with a tuple of names, for over a range with a step, l.clear(). -/
namespace Tr
open PySem PySem.Spec PyProof.Rows L2
section
variable {pd : Pd} {Nm : List Str} {sc : Scope} {cf : CF} {k : Nat} {W : WX} {X : Cx}
def chkU (Nm : List Str) (sc : Scope) : List Nat → List Expr → Bool
  | [], [] => true
  | i :: is, .Name x _ :: es => chkL Nm sc i x && chkU Nm sc is es
  | _, _ => false
/-! tuple targets -/
def gNames : List Nat → TGs
  | [] => gNil
  | i :: is => gCons (gName i) (gNames is)
theorem pgs_names (G : Gs X pd Nm sc cf k W) : ∀ {is : List Nat} {es : List Expr}, chkU Nm sc is es = true → PGs X es (gNames is) ∧ (assignEach es X.env).length = is.length ∧ (assignEach es X.env).findIdx? (·.1) = none ∧ ∀ i ∈ is, i < X.N.length
  | [], [], _ => ⟨pgs_nil, rfl, rfl, by simp⟩
  | [], _ :: _, h => by simp [chkU] at h
  | _ :: _, [], h => by simp [chkU] at h
  | i :: is, e :: es, h => by
    cases e <;> simp only [chkU, Bool.false_eq_true, Bool.and_eq_true] at h
    rename_i x p
    obtain ⟨l1, l2, l3, l4⟩ := L_of G h.1
    obtain ⟨a, b, c, d⟩ := pgs_names G h.2
    refine ⟨pgs_cons (pg_name G.nd l1 l2 l3) a rfl, by show (assignEach es X.env).length + 1 = _; rw [b]; rfl, ?_, fun j hj => ?_⟩
    · show List.findIdx? (·.1) ((false, assign (.Name x p) X.env) :: assignEach es X.env) = none
      rw [List.findIdx?_cons]
      simp [c]
    · rcases List.mem_cons.mp hj with rfl | hj
      · exact (List.getElem?_eq_some_iff.mp l1).1
      · exact d j hj
/-- a kept tuple is taken apart -/
theorem Sr.untup {pd : Pd} {mg : Str → Option Value} {F H ρ lk σ env ts us v ws sto} (S : Sr pd mg F H ρ lk σ env (.tup ts :: us) (v :: ws) sto) : ∃ a vs, v = .ref a ∧ H a = some (.tup vs) ∧ vs.length = ts.length ∧ Sr pd mg F H ρ lk σ env (ts ++ us) (vs ++ ws) sto := by
  obtain ⟨⟨fe, fk, fs, h1, h2, h3, h4, h5⟩, fd⟩ := S
  simp only [RpL] at h2
  obtain ⟨v', vs', f1, f2, e, r1, r2, hf⟩ := h2
  obtain ⟨rfl, rfl⟩ := List.cons.inj e
  simp only [Rp] at r1
  obtain ⟨a, vs, rfl, ha, l⟩ := r1
  refine ⟨a, vs, rfl, ha, l.length, ⟨fe, _, fs, h1, l.app r2, h3, fun b => ?_, fun b hb => ?_⟩, fd⟩
  · have := h4 b; have := hf b; show fe b + (f1 b + f2 b) + fs b ≤ 1; omega
  · have := h5 b hb; have := hf b; show fe b + (f1 b + f2 b) + fs b = 0; omega
theorem unp_go {pd : Pd} {mg : Str → Option Value} {F H ρ lk sto} {Q : L2.St → Hp → Prop} : ∀ {is : List Nat} {ts : List T} {vs : List V} {σ : L2.St} {env env' : En}, Sr pd mg F H ρ lk σ env ts vs sto → vs.length = ts.length → (∀ i ∈ is, i < σ.length) → unpack is ts env = some env' →
    (∀ σ', Sr pd mg F H ρ lk σ' env' [] [] sto → Sg is σ σ' → Q σ' H) → gNames is vs σ H Q
  | [], [], vs, σ, env, env', S, hl, hi, e, h => by
    simp only [unpack, Option.some.injEq] at e
    subst e
    have : vs = [] := List.length_eq_zero_iff.mp hl
    subst this
    exact ⟨rfl, h σ S Sg.refl⟩
  | [], _ :: _, vs, σ, env, env', S, hl, hi, e, h => by simp [unpack] at e
  | _ :: _, [], vs, σ, env, env', S, hl, hi, e, h => by simp [unpack] at e
  | i :: is, t :: ts, vs, σ, env, env', S, hl, hi, e, h => by
    simp only [unpack] at e
    cases vs with
    | nil => simp at hl
    | cons v vs =>
      refine ⟨v, vs, rfl, unp_go (S.store (by rw [← S.len]; exact hi i (by simp))) (by simpa using hl) (fun j hj => by simpa using hi j (by simp [hj])) e fun σ' S' sg => h σ' S' ?_⟩
      exact Sg.trans (Sg.set (i := i)) sg (by simp) fun j hj => List.mem_cons_of_mem _ hj
theorem unpack_len : ∀ {is : List Nat} {ts : List T} {env env' : En}, unpack is ts env = some env' → ts.length = is.length := by
  intro is
  induction is with
  | nil => intro ts env env' h; cases ts <;> simp [unpack] at h; rfl
  | cons i is ih => intro ts env env' h; cases ts <;> simp [unpack] at h; simp [ih h]
/-- a flat tuple is stored under names -/
theorem tgt_go {F H ρ lk sto} {is : List Nat} {t : T} {x : V} {σ : L2.St} {env env' : En} {Q : L2.St → Hp → Prop} (ft : flat t = true) (S : Sr pd X.mg F H ρ lk σ env [] [] sto) (sn : Sn Top H ρ t x) (hi : ∀ i ∈ is, i < σ.length) (e : untup is t env = some env')
    (h : ∀ σ', Sr pd X.mg F H ρ lk σ' env' [] [] sto → Sg is σ σ' → Q σ' H) : gTup X.K is.length (gNames is) x σ H Q := by
  unfold Tr.untup at e
  split at e
  · rename_i us
    have S1 := S.push (PR.flat ft sn) (clean_of_flat _ ft)
    obtain ⟨a, vs, rfl, ha, hv, S2⟩ := S1.untup
    refine ⟨a, vs, rfl, .inl (.inl ha), by rw [hv, unpack_len e], ?_⟩
    exact unp_go (ts := us) (by simpa using S2) hv hi e h
  · cases e
theorem r_itsT (J : It) {ts : List T} (Pk : As → Hp → List Addr → L2.St → En → Prop) {is : List Nat} {B : List Nat} {rb : Bool → En → List Ob → SR} {D : Ends} {σ : L2.St} {H : Hp} {lk F ρ env sto} (fl : flatL ts = true)
    (hr : ∀ F H ρ lk σ env sto, Sr pd X.mg F H ρ lk σ env [] [] sto → Pk F H ρ σ env → Reads J H ρ ts)
    (hk : ∀ lk F H ρ σ env F' H' ρ' σ' env1 env' t sto sto', Pk F H ρ σ env → Fu lk F H ρ F' H' ρ' → Sg (is ++ B) σ σ' → untup is t env = some env1 → (rb lk env1 sto = .nx env' sto' ∨ rb lk env1 sto = .ct env' sto') → Pk F' H' ρ' σ' env')
    (hi : ∀ i ∈ is, i < σ.length) (p : Pk F H ρ σ env) (S : Sr pd X.mg F H ρ lk σ env [] [] sto) (q : PoS pd X.mg W lk F H ρ (is ++ B) σ (loopT (rb lk) is ts env sto) D) :
    ∃ Wv : Nat → Nat → L2.St → Hp → Prop, (∃ m, Wv 0 m σ H) ∧ ∀ c m σ H, Wv c m σ H → (J.stop c H ∧ D.nx σ H) ∨ (J.go c H ∧ ∃ N : L2.St → Hp → Prop, (∀ σ' H', N σ' H' → ∃ m', m' < m ∧ Wv (c + 1) m' σ' H') ∧
      ∀ x H', J.yld c H x H' → gTup X.K is.length (gNames is) x σ H' fun σ2 H2 => tSt pd X.mg W B rb { D with nx := N, ct := N, bk := D.nx } σ2 H2) := by
  refine ⟨fun c m σ H => c ≤ ts.length ∧ m = ts.length - c ∧ (∀ i ∈ is, i < σ.length) ∧ ∃ lk F ρ env sto, Pk F H ρ σ env ∧ Sr pd X.mg F H ρ lk σ env [] [] sto ∧ PoS pd X.mg W lk F H ρ (is ++ B) σ (loopT (rb lk) is (ts.drop c) env sto) D, ⟨ts.length, Nat.zero_le _, rfl, hi, lk, F, ρ, env, sto, p, S, by simpa using q⟩, ?_⟩
  rintro c m σ H ⟨hc, rfl, hi, lk, F, ρ, env, sto, p, S, q⟩
  have rd := hr F H ρ lk σ env sto S p
  by_cases hn : ts.length ≤ c
  · rw [List.drop_eq_nil_of_le hn] at q
    exact .inl ⟨rd.1 c hn, q F H ρ σ Fu.refl S Sg.refl⟩
  · have hlt : c < ts.length := by omega
    rw [List.drop_eq_getElem_cons hlt] at q
    unfold loopT at q
    have et : ts[c]? = some ts[c] := List.getElem?_eq_getElem hlt
    obtain ⟨go, yl⟩ := rd.2 c _ et
    refine .inr ⟨go, fun σ' H' => (∀ i ∈ is, i < σ'.length) ∧ ∃ lk F ρ env sto, Pk F H' ρ σ' env ∧ Sr pd X.mg F H' ρ lk σ' env [] [] sto ∧ PoS pd X.mg W lk F H' ρ (is ++ B) σ' (loopT (rb lk) is (ts.drop (c + 1)) env sto) D, fun σ' H' w => ⟨ts.length - (c + 1), by omega, by omega, rfl, w⟩, ?_⟩
    intro x H' y
    obtain ⟨rfl, sn⟩ := yl x H' y
    have ft := flatL_get fl et
    split at q
    · rename_i env1 q1
      refine tgt_go ft S sn hi q1 fun σ1 S1 sg1 => ?_
      refine ⟨lk, F, ρ, _, sto, S1, PoS.turn (A := is ++ B) (fun j h => List.mem_append_right _ h) (q.fut (B := is) Fu.refl sg1 (fun j h => List.mem_append_left _ h) fun _ h => h) _ ?_⟩
      intro F2 H2 ρ2 σ2 env2 sto2 hr2 f2 S2 sg2 q2
      refine ⟨fun i h => by rw [sg2.len, sg1.len]; exact hi i h, lk, F2, ρ2, env2, sto2, hk lk F H' ρ σ env F2 H2 ρ2 σ2 env1 env2 _ _ _ p f2 (Sg.trans sg1 sg2 (fun j h => List.mem_append_left _ h) fun j h => List.mem_append_right _ h) q1 hr2, S2, q2⟩
    · exact q.elim
theorem r_fortv (G : Gs X pd Nm sc cf k W) {is : List Nat} {es : List Expr} {kk : Nat} {j : Nat} {y : Str} {p py pos : Pos} {bs : List Stmt} {B : List Nat} {rb : Bool → En → List Ob → SR} (hU : chkU Nm sc is es = true) (hN : chkN Nm sc j y = true) (hj : j ∉ B) (hij : j ∉ is)
    (kp : ∀ lk env sto, (rb lk env sto).kp j env) (PB_ : PSs X bs (tSt pd X.mg W B rb)) :
    PS X (.For (.Tuple es kk p) (.Name y py) bs [] pos) (tSt pd X.mg W (is ++ B) fun lk env sto => match (getV env j).bind fun t => ofO (items t) with
      | .ok ts => loopT (rb lk) is ts env sto
      | _ => .no) := by
  obtain ⟨a0, b0, c0, d0⟩ := pgs_names G hU
  refine PS.imp (ps_for G.po G.gd.calm (pi_seq (pe_n G.gd hN)) (pg_tup G.gd.calm a0 b0 c0) PB_ fun _ => rfl) fun D σ H hl ⟨lk, F, ρ, env, sto, S, q⟩ => ?_
  have h4 : ∀ i ∈ is, i < σ.length := fun i hi => by rw [hl]; exact d0 i hi
  dsimp only at q
  cases e1 : getV env j with
  | ex e => rw [e1] at q; exact q.elim
  | no => rw [e1] at q; exact q.elim
  | ok t =>
    rw [e1, Rs.bind_ok] at q
    cases e2 : items t with
    | none => rw [e2] at q; exact q.elim
    | some ts =>
      rw [e2] at q
      have q' : PoS pd X.mg W lk F H ρ (is ++ B) σ (loopT (rb lk) is ts env sto) D := q
      obtain ⟨v, ev, s⟩ := S.viewE j t (getV_ok e1)
      have keep : ∀ (a : Addr) lk (F : As) (H : Hp) (ρ : List Addr) (σ : L2.St) (env : En) (F' : As) (H' : Hp) (ρ' : List Addr) (σ' : L2.St) (env1 env' : En) (u : T) (sto sto' : List Ob), (env[j]? = some (some t) ∧ σ[j]? = some (some (.ref a))) → Fu lk F H ρ F' H' ρ' → Sg (is ++ B) σ σ' →
          Tr.untup is u env = some env1 → (rb lk env1 sto = .nx env' sto' ∨ rb lk env1 sto = .ct env' sto') → (env'[j]? = some (some t) ∧ σ'[j]? = some (some (.ref a))) := by
        intro a lk F H ρ σ env F' H' ρ' σ' env1 env' u sto sto' ⟨p1, p2⟩ _ sg hu hr
        refine ⟨?_, ?_⟩
        · have z := kp lk env1 sto
          have z2 : env'[j]? = env1[j]? := by rcases hr with hr | hr <;> rw [hr] at z <;> exact z
          rw [z2, untup_kp hij hu]; exact p1
        · rw [sg.at_ j (by simp only [List.mem_append, not_or]; exact ⟨hij, hj⟩)]; exact p2
      cases t <;> simp only [items] at e2 <;> first | (cases e2; done) | skip
      · -- a tuple
        rename_i us
        split at e2
        · rename_i fl
          cases e2
          obtain ⟨a, vs, rfl, ha, l⟩ := sn_tup s
          refine .inr ⟨.ref a, ev, a, rfl, ⟨vs, .inl (.inl ha)⟩, ?_⟩
          refine r_itsT (Itt X.K a) (fun F H ρ σ env => env[j]? = some (some (.tup ts)) ∧ σ[j]? = some (some (.ref a))) fl (fun F H ρ lk σ env sto S ⟨p1, p2⟩ => ?_) (keep a) h4 ⟨getV_ok e1, ev⟩ S q'
          obtain ⟨w, ew, sw⟩ := S.viewE j _ p1
          rw [p2] at ew
          have : w = .ref a := by simpa using ew.symm
          subst this
          obtain ⟨a', vs', e, ha', l'⟩ := sn_tup sw
          cases e
          exact reads_t ha' l'
        · cases e2
      · rename_i z n us
        cases n <;> simp only [items] at e2 <;> first | (cases e2; done) | skip
        cases e2
        obtain ⟨a, vs, rfl, ha, l, fl⟩ := sn_lst s
        refine .inl ⟨.ref a, ev, a, rfl, ⟨vs, .inl ha⟩, ?_⟩
        refine r_itsT (Itl X.K a) (fun F H ρ σ env => env[j]? = some (some (.lst z false ts)) ∧ σ[j]? = some (some (.ref a))) (fl rfl) (fun F H ρ lk σ env sto S ⟨p1, p2⟩ => ?_) (keep a) h4 ⟨getV_ok e1, ev⟩ S q'
        obtain ⟨w, ew, sw⟩ := S.viewE j _ p1
        rw [p2] at ew
        have : w = .ref a := by simpa using ew.symm
        subst this
        obtain ⟨a', vs', e, ha', l', _⟩ := sn_lst sw
        cases e
        exact reads_l ha' l'
theorem r_fort (G : Gs X pd Nm sc cf k W) {is : List Nat} {es : List Expr} {kk : Nat} {p pos : Pos} {d : E} {e : Expr} {bs : List Stmt} {B : List Nat} {rb : Bool → En → List Ob → SR} (hU : chkU Nm sc is es = true) (hp : plainX e = true) (A : chkE pd Nm sc d e = true)
    (PB_ : PSs X bs (tSt pd X.mg W B rb)) :
    PS X (.For (.Tuple es kk p) e bs [] pos) (tSt pd X.mg W (is ++ B) fun lk env sto => ((pv cf env sto d).g env sto).thn fun t env sto => if clean t then match items t with
      | some ts => loopT (rb lk) is ts env sto
      | none => .no
    else .no) := by
  obtain ⟨a0, b0, c0, d0⟩ := pgs_names G hU
  refine PS.imp (ps_for G.po G.gd.calm (pi_seq (sE G.gd d e A)) (pg_tup G.gd.calm a0 b0 c0) PB_ (plain_fold hp X.env)) fun D σ H hl ⟨lk, F, ρ, env, sto, S, q⟩ => ?_
  have h4 : ∀ i ∈ is, i < σ.length := fun i hi => by rw [hl]; exact d0 i hi
  dsimp only at q
  cases e1 : pv cf env sto d with
  | no => rw [e1] at q; exact q.elim
  | ex z =>
    rw [e1] at q
    exact .inl ⟨ρ, env, sto, S.viewE, S.viewS, by
      show PoV pd X.mg ρ _ H (pv cf env sto d) _
      rw [e1]
      exact fun cls dd H' e xr => q F H' ρ σ cls dd (Fu.grow S.fd e) (S.grow e) Sg.refl xr⟩
  | ok t =>
    rw [e1] at q
    have q0 : PoS pd X.mg W lk F H ρ (is ++ B) σ (if clean t then match items t with
      | some ts => loopT (rb lk) is ts env sto
      | none => .no
      else .no) D := q
    by_cases hc : clean t = true
    · rw [if_pos hc] at q0
      cases e2 : items t with
      | none => rw [e2] at q0; exact q0.elim
      | some ts =>
        rw [e2] at q0
        dsimp only at q0
        have keep : ∀ (w : V) lk (F : As) (H : Hp) (ρ : List Addr) (σ : L2.St) (env : En) (F' : As) (H' : Hp) (ρ' : List Addr) (σ' : L2.St) (env1 env' : En) (u : T) (sto sto' : List Ob), Sn F H ρ t w → Fu lk F H ρ F' H' ρ' → Sg (is ++ B) σ σ' →
          Tr.untup is u env = some env1 → (rb lk env1 sto = .nx env' sto' ∨ rb lk env1 sto = .ct env' sto') → Sn F' H' ρ' t w := fun w lk F H ρ σ env F' H' ρ' σ' env1 env' u sto sto' p f _ _ _ => Sn.keep f.k f.p f.s t w p
        cases t <;> simp only [items] at e2 <;> first | (cases e2; done) | skip
        · rename_i us
          split at e2
          · rename_i fl
            cases e2
            refine .inr ⟨ρ, env, sto, S.viewE, S.viewS, ?_⟩
            show PoV pd X.mg ρ _ H (pv cf env sto d) _
            rw [e1]
            intro v H1 p1
            obtain ⟨a, vs, rfl, ha, l⟩ := sn_tup p1.sn
            obtain ⟨F1, f1, S1, s1⟩ := (S.push p1 hc).hold
            refine ⟨a, rfl, ⟨vs, .inl (.inl ha)⟩, ?_⟩
            refine r_itsT (Itt X.K a) (fun F H ρ σ env => Sn F H ρ (.tup ts) (.ref a)) fl (fun F H ρ lk σ env sto S p => ?_) (keep (.ref a)) h4 s1 S1 (q0.fu ((Fu.grow S.fd p1.ext).trans f1))
            obtain ⟨a', vs', e, ha', l'⟩ := sn_tup p
            cases e
            exact reads_t ha' (SnL.keep Kp.refl Pre.refl (fun _ _ => trivial) _ _ l')
          · cases e2
        · rename_i z n us
          cases n <;> simp only [items] at e2 <;> first | (cases e2; done) | skip
          cases e2
          refine .inl ⟨ρ, env, sto, S.viewE, S.viewS, ?_⟩
          show PoV pd X.mg ρ _ H (pv cf env sto d) _
          rw [e1]
          intro v H1 p1
          obtain ⟨a, vs, rfl, ha, l, fl⟩ := sn_lst p1.sn
          obtain ⟨F1, f1, S1, s1⟩ := (S.push p1 hc).hold
          refine ⟨a, rfl, ⟨vs, .inl ha⟩, ?_⟩
          refine r_itsT (Itl X.K a) (fun F H ρ σ env => Sn F H ρ (.lst z false ts) (.ref a)) (fl rfl) (fun F H ρ lk σ env sto S p => ?_) (keep (.ref a)) h4 s1 S1 (q0.fu ((Fu.grow S.fd p1.ext).trans f1))
          obtain ⟨a', vs', e, ha', l', _⟩ := sn_lst p
          cases e
          exact reads_l ha' (SnL.keep Kp.refl Pre.refl (fun _ _ => trivial) _ _ l')
    · rw [if_neg hc] at q0; exact q0.elim
/-! ranges with a step -/
theorem r_rngS (G : Gs X pd Nm sc cf k W) {i : Nat} {B : List Nat} {rb : Bool → En → List Ob → SR} {n : Nat} {lo st : Int} {D : Ends} {σ : L2.St} {H : Hp} {lk F ρ env sto} (hi : i < σ.length)
    (S : Sr pd X.mg F H ρ lk σ env [] [] sto) (q : PoS pd X.mg W lk F H ρ (i :: B) σ (loopP (rb lk) i st n lo env sto) D) :
    ∃ Wv : Nat → Nat → L2.St → Hp → Prop, (∃ m, Wv 0 m σ H) ∧ ∀ c m σ H, Wv c m σ H → ((Itc lo st n).stop c H ∧ D.nx σ H) ∨ ((Itc lo st n).go c H ∧ ∃ N : L2.St → Hp → Prop, (∀ σ' H', N σ' H' → ∃ m', m' < m ∧ Wv (c + 1) m' σ' H') ∧
      ∀ x H', (Itc lo st n).yld c H x H' → gName i x σ H' fun σ2 H2 => tSt pd X.mg W B rb { D with nx := N, ct := N, bk := D.nx } σ2 H2) := by
  refine ⟨fun c m σ H => c ≤ n ∧ m = n - c ∧ i < σ.length ∧ ∃ lk F ρ env sto, Sr pd X.mg F H ρ lk σ env [] [] sto ∧ PoS pd X.mg W lk F H ρ (i :: B) σ (loopP (rb lk) i st (n - c) (lo + c * st) env sto) D, ⟨n, Nat.zero_le _, rfl, hi, lk, F, ρ, env, sto, S, by simpa using q⟩, ?_⟩
  rintro c m σ H ⟨hc, rfl, hi, lk, F, ρ, env, sto, S, q⟩
  by_cases hn : n ≤ c
  · have e : n - c = 0 := by omega
    rw [e] at q
    exact .inl ⟨hn, q F H ρ σ Fu.refl S Sg.refl⟩
  · refine .inr ⟨by show c < n; omega, ?_⟩
    have e : n - c = (n - (c + 1)) + 1 := by omega
    rw [e] at q
    unfold loopP at q
    refine ⟨fun σ' H' => i < σ'.length ∧ ∃ lk F ρ env sto, Sr pd X.mg F H' ρ lk σ' env [] [] sto ∧ PoS pd X.mg W lk F H' ρ (i :: B) σ' (loopP (rb lk) i st (n - (c + 1)) (lo + (c + 1 : Nat) * st) env sto) D, fun σ' H' w => ⟨n - (c + 1), by omega, by omega, rfl, w⟩, ?_⟩
    rintro x H' ⟨rfl, rfl⟩
    have S1 : Sr pd X.mg F H' ρ lk (σ.set i (some (.int (lo + c * st)))) (env.set i (some (.int (lo + c * st)))) [] [] sto := (S.push PR.int rfl).store (by rw [← S.len]; exact hi)
    refine ⟨lk, F, ρ, _, sto, S1, PoS.turn (A := i :: B) (fun j h => List.mem_cons_of_mem _ h) (q.fut (B := [i]) Fu.refl Sg.set (by simp) fun _ h => h) _ ?_⟩
    intro F2 H2 ρ2 σ2 env2 sto2 _ f2 S2 sg2 q2
    refine ⟨by rw [sg2.len]; simpa using hi, lk, F2, ρ2, env2, sto2, S2, ?_⟩
    have e2 : lo + ((c + 1 : Nat) : Int) * st = lo + (c : Int) * st + st := by
      rw [Int.natCast_add, Int.add_mul]; simp; omega
    rw [e2]
    exact q2
theorem rgsize_nn (a b c : Int) (h : 0 < c) : Builtin.Range.rangeSize a b c = ((Builtin.Range.rangeSize a b c).toNat : Int) := by
  have : 0 ≤ Builtin.Range.rangeSize a b c := by
    unfold Builtin.Range.rangeSize
    rw [if_pos h]
    split
    · have := Int.ediv_nonneg (a := b - a - 1) (b := c) (by omega) (by omega); omega
    · exact Int.le_refl _
  omega
theorem r_fors (G : Gs X pd Nm sc cf k W) {i : Nat} {x : Str} {p pr cpos pos : Pos} {dl dh ds : E} {e0 e e2 : Expr} {bs : List Stmt} {B : List Nat} {rb : Bool → En → List Ob → SR} (hL : chkL Nm sc i x = true) (hg : glB sc ("range" : Str) = true) (h0 : plainX e0 = true) (h1 : plainX e = true) (h2 : plainX e2 = true)
    (A0 : chkE pd Nm sc dl e0 = true) (A1 : chkE pd Nm sc dh e = true) (A2 : chkE pd Nm sc ds e2 = true) (PB_ : PSs X bs (tSt pd X.mg W B rb)) :
    PS X (.For (.Name x p) (.Call (.Name ("range" : Str) pr) [e0, e, e2] [] cpos) bs [] pos) (tSt pd X.mg W (i :: B) fun lk env sto => ((pv cf env sto dl).g env sto).thn fun x env sto => ((pv cf env sto dh).g env sto).thn fun y env sto => ((pv cf env sto ds).g env sto).thn fun z env sto => match x, y, z with
    | .int l, .int h, .int c => if Builtin.Range.small l h c = true ∧ 0 < c ∧ c < 1073741824 then loopP (rb lk) i c (Builtin.Range.rangeSize l h c).toNat l env sto else .no
    | _, _, _ => .no) := by
  obtain ⟨l1, l2, l3, l4⟩ := L_of G hL
  obtain ⟨gg, _⟩ := gl_of G.gd hg
  have hm := G.gd.blt ("range" : Str) (by simp [bltNames])
  have st1 := plain_star (xs := [e, e2]) (env := X.env) h0
  have st2 := plain_star (xs := [e2]) (env := X.env) h1
  have st3 := plain_star (xs := []) (env := X.env) h2
  refine PS.imp (ps_for G.po G.gd.calm (pi_range3 gg hm (pa_cons (sE G.gd dl e0 A0) (pa_cons (sE G.gd dh e A1) (pa_cons (sE G.gd ds e2 A2) pa_nil st3) st2) st1) st1 (by rw [st2, st3]; rfl)) (pg_name G.nd l1 l2 l3) PB_ fun _ => rfl) fun D σ H hl ⟨lk, F, ρ, env, sto, S, q⟩ => ?_
  refine ⟨ρ, env, sto, S.viewE, S.viewS, PoV.of S q fun t H1 v p1 q1 => ?_⟩
  have S1 := S.grow p1.ext
  refine ⟨ρ, env, sto, S1.viewE, S1.viewS, PoV.of S1 q1 fun u H2 w p2 q2 => ?_⟩
  have S2 := S1.grow p2.ext
  refine ⟨ρ, env, sto, S2.viewE, S2.viewS, PoV.of S2 q2 fun u3 H3 w3 p3 q3 => ?_⟩
  have S3 := S2.grow p3.ext
  split at q3
  · split at q3
    · rename_i l h c hb
      have e1 := sn_int p1.sn
      have e2 := sn_int p2.sn
      have e3 := sn_int p3.sn
      subst e1; subst e2; subst e3
      exact ⟨l, h, c, _, rfl, ⟨by omega, by omega, hb.1, rgsize_nn _ _ _ hb.2.1⟩, r_rngS G (l4 hl) S3 q3⟩
    · exact q3.elim
  · exact q3.elim
/-! l.clear() -/
theorem r_clr (G : Gs X pd Nm sc cf k W) {i : Nat} {x : Str} {p pos apos cpos : Pos} (hN : chkN Nm sc i x = true) (hline : (apos.endLine == cpos.line) = true) :
    PS X (.Expr (.Call (.Attribute (.Name x p) "clear" apos) [] [] cpos) pos) (tSt pd X.mg W [] fun lk env sto => match env[i]? with
    | some (some (.lst false _ _)) => .nx (env.set i (some (.lst false false []))) sto
    | _ => .no) := by
  have B : PE X (.Call (.Attribute (.Name x p) "clear" apos) [] [] cpos) (tBM0 X.K "list" rClear (tVar i)) :=
    pe_bm0 F.plainAttrs_list F.slot_list_clear F.type_list_clear mt_clear (pe_n G.gd hN) rfl hline
  refine PS.imp (ps_expr B rfl) fun D σ H hl ⟨lk, F, ρ, env, sto, S, q⟩ => ?_
  dsimp only at q
  split at q
  · rename_i e0
    obtain ⟨w, e2, s2⟩ := S.viewE i _ e0
    obtain ⟨a, vs0, rfl, rd0, _, _⟩ := sn_lst s2
    obtain ⟨a', vs, e3, ha, hlen, cl, fl, put⟩ := S.putL e0
    rw [e2] at e3
    have ea : a = a' := by simpa using e3
    subst ea
    obtain ⟨ff, SS⟩ := put [] [] false [] [] rfl (fun _ => rfl) (fun f fk r1 r2 => ⟨fun _ => 0, fk, by simp [RpL], r2, fun b => by show 0 + fk b ≤ _; omega⟩)
    exact ⟨.ref a, e2, .inl ⟨rfl, vs0, .inl rd0⟩, a, vs, rfl, rfl, ha, q F _ ρ σ ff SS Sg.refl⟩
  · exact q.elim
/-! x[1].clear() -/
theorem r_clr1 (G : Gs X pd Nm sc cf k W) {i j : Nat} {x : Str} {p pos apos cpos spos ipos : Pos} (hN : chkN Nm sc i x = true) (hline : (apos.endLine == cpos.line) = true) :
    PS X (.Expr (.Call (.Attribute (.Subscript (.Name x p) (.Constant (.int 1) j ipos) spos) "clear" apos) [] [] cpos) pos) (tSt pd X.mg W [] fun lk env sto => match env[i]? with
    | some (some (.tup [.int _, .lst false _ _])) => .nx (env.set i none) sto
    | _ => .no) := by
  have A : PE X (.Subscript (.Name x p) (.Constant (.int 1) j ipos) spos) (tOp (rIxT X.K) (tVar i) (tC (.int 1))) := pe_ix ix_tup (pe_n G.gd hN) pe_int (plain_ix (x := .Constant (.int 1) j ipos) rfl)
  have B : PE X (.Call (.Attribute (.Subscript (.Name x p) (.Constant (.int 1) j ipos) spos) "clear" apos) [] [] cpos) (tBM0 X.K "list" rClear (tOp (rIxT X.K) (tVar i) (tC (.int 1)))) :=
    pe_bm0 F.plainAttrs_list F.slot_list_clear F.type_list_clear mt_clear A rfl hline
  refine PS.imp (ps_expr B rfl) fun D σ H hl ⟨lk, F, ρ, env, sto, S, q⟩ => ?_
  dsimp only at q
  split at q
  · rename_i e0
    obtain ⟨a, al, vs, e2, ha, hal, ff, SS⟩ := S.clr1 e0
    exact ⟨.ref a, e2, a, _, 1, .ref al, rfl, rfl, SqT.of ha, rfl, .inl ⟨rfl, vs, .inl (.inl hal)⟩, al, vs, rfl, rfl, hal, q F _ ρ σ ff SS Sg.refl⟩
  · exact q.elim
end
end Tr
/-! TrLock: for over the keys of a dict that is only read; d.clear(). -/
namespace Tr
open PySem PySem.Spec PyProof.Rows L2
/-- the thing at d is locked or let go: what is read stays -/
structure Lk (d : Addr) (H H' : Hp) : Prop where
  rd : ∀ a u, Lo u → Rd H a u → Rd H' a u
  ne : ∀ a, a ≠ d → H' a = H a
  tup : ∀ a vs, H a = some (.tup vs) → H' a = some (.tup vs)
  ins : ∀ a C dx fs, H a = some (.ins C dx fs) → H' a = some (.ins C dx fs)
theorem Lk.frz {d : Addr} {H : Hp} {kvs : List (Key × V)} (od : Obj) (h : H d = some (.dK kvs)) : Lk d H (upd H d (.frz od (.dK kvs))) := by
  refine ⟨fun a u lo r => ?_, fun a n => upd_ne n, fun a vs e => ?_, fun a C dx fs e => ?_⟩
  · by_cases q : a = d
    · subst q
      rcases r with r | ⟨o, r⟩
      · rw [h] at r; cases r; exact .inr ⟨od, upd_same⟩
      · rw [h] at r; cases r
    · rcases r with r | ⟨o, r⟩
      · exact .inl (by rw [upd_ne q]; exact r)
      · exact .inr ⟨o, by rw [upd_ne q]; exact r⟩
  · rw [upd_ne fun z => by rw [z, h] at e; cases e]; exact e
  · rw [upd_ne fun z => by rw [z, h] at e; cases e]; exact e
theorem Lk.thaw {d : Addr} {H : Hp} {kvs : List (Key × V)} {od : Obj} (h : H d = some (.frz od (.dK kvs))) : Lk d H (upd H d (.dK kvs)) := by
  refine ⟨fun a u lo r => ?_, fun a n => upd_ne n, fun a vs e => ?_, fun a C dx fs e => ?_⟩
  · by_cases q : a = d
    · subst q
      rcases r with r | ⟨o, r⟩
      · rw [h] at r; cases r; exact False.elim lo
      · rw [h] at r; cases r; exact .inl upd_same
    · rcases r with r | ⟨o, r⟩
      · exact .inl (by rw [upd_ne q]; exact r)
      · exact .inr ⟨o, by rw [upd_ne q]; exact r⟩
  · rw [upd_ne fun z => by rw [z, h] at e; cases e]; exact e
  · rw [upd_ne fun z => by rw [z, h] at e; cases e]; exact e
section
variable {F : As} {H H' : Hp} {ρ : List Addr} {d : Addr}
mutual
theorem Sn.lk (k : Lk d H H') : ∀ (t : T) (v : V), Sn F H ρ t v → Sn F H' ρ t v
  | .non, v, h => by simpa [Sn] using h
  | .bl b, v, h => by simpa [Sn] using h
  | .int b, v, h => by simpa [Sn] using h
  | .str b, v, h => by simpa [Sn] using h
  | .tup ts, v, h => by
    obtain ⟨a, vs, rfl, e, l⟩ := (by simpa only [Sn] using h : ∃ a vs, v = .ref a ∧ H a = some (.tup vs) ∧ SnL F H ρ ts vs)
    simp only [Sn]
    exact ⟨a, vs, rfl, k.tup a vs e, SnL.lk k ts vs l⟩
  | .lst z n ts, v, h => by
    simp only [Sn] at h ⊢
    obtain ⟨a, vs, rfl, fa, e, l, fl⟩ := h
    exact ⟨a, vs, rfl, fa, k.rd a _ trivial e, SnL.lk k ts vs l, fl⟩
  | .dic z n ks ts, v, h => by
    simp only [Sn] at h ⊢
    obtain ⟨a, vs, rfl, fa, e, l, fl⟩ := h
    exact ⟨a, vs, rfl, fa, k.rd a _ trivial e, SnL.lk k ts vs l, fl⟩
  | .obj i, v, h => by simpa only [Sn] using h
theorem SnL.lk (k : Lk d H H') : ∀ (ts : List T) (vs : List V), SnL F H ρ ts vs → SnL F H' ρ ts vs
  | [], vs, h => by simpa [SnL] using h
  | t :: ts, vs, h => by
    simp only [SnL] at h ⊢
    obtain ⟨v, vs', rfl, h1, h2⟩ := h
    exact ⟨v, vs', rfl, Sn.lk k t v h1, SnL.lk k ts vs' h2⟩
end
mutual
theorem Rp.lk (k : Lk d H H') : ∀ (t : T) (v : V) (f : Fp), f d = 0 → Rp F H ρ t v f → Rp F H' ρ t v f
  | .non, v, f, _, h => by simpa [Rp] using h
  | .bl b, v, f, _, h => by simpa [Rp] using h
  | .int b, v, f, _, h => by simpa [Rp] using h
  | .str b, v, f, _, h => by simpa [Rp] using h
  | .tup ts, v, f, g, h => by
    simp only [Rp] at h ⊢
    obtain ⟨a, vs, rfl, e, l⟩ := h
    exact ⟨a, vs, rfl, k.tup a vs e, RpL.lk k ts vs f g l⟩
  | .lst true n ts, v, f, g, h => by
    simp only [Rp, if_true] at h ⊢
    exact ⟨h.1, Sn.lk k _ v h.2⟩
  | .lst false n ts, v, f, g, h => by
    simp only [Rp, Bool.false_eq_true, if_false] at h ⊢
    obtain ⟨a, vs, f', rfl, e, l, fl, cl, hf⟩ := h
    refine ⟨a, vs, f', rfl, ?_, RpL.lk k ts vs f' (by have := hf d; omega) l, fl, cl, hf⟩
    rw [k.ne a fun z => by have := hf a; rw [if_pos rfl, z, g] at this; omega]; exact e
  | .dic true n ks ts, v, f, g, h => by
    simp only [Rp, if_true] at h ⊢
    exact ⟨h.1, Sn.lk k _ v h.2⟩
  | .dic false n ks ts, v, f, g, h => by
    simp only [Rp, Bool.false_eq_true, if_false] at h ⊢
    obtain ⟨a, vs, f', rfl, e, l, fl, cl, hf⟩ := h
    refine ⟨a, vs, f', rfl, ?_, RpL.lk k ts vs f' (by have := hf d; omega) l, fl, cl, hf⟩
    rw [k.ne a fun z => by have := hf a; rw [if_pos rfl, z, g] at this; omega]; exact e
  | .obj i, v, f, _, h => by simpa only [Rp] using h
theorem RpL.lk (k : Lk d H H') : ∀ (ts : List T) (vs : List V) (f : Fp), f d = 0 → RpL F H ρ ts vs f → RpL F H' ρ ts vs f
  | [], vs, f, _, h => by simpa [RpL] using h
  | t :: ts, vs, f, g, h => by
    simp only [RpL] at h ⊢
    obtain ⟨v, vs', f1, f2, rfl, h1, h2, hf⟩ := h
    exact ⟨v, vs', f1, f2, rfl, Rp.lk k t v f1 (by have := hf d; omega) h1, RpL.lk k ts vs' f2 (by have := hf d; omega) h2, hf⟩
end
theorem EnvR.lk (k : Lk d H H') : ∀ {env : En} {σ : L2.St} {f : Fp}, f d = 0 → EnvR F H ρ env σ f → EnvR F H' ρ env σ f
  | [], σ, f, _, h => h
  | none :: env, σ, f, g, h => by
    obtain ⟨w, σ', rfl, h⟩ := h
    exact ⟨w, σ', rfl, EnvR.lk k g h⟩
  | some t :: env, σ, f, g, h => by
    obtain ⟨v, σ', f1, f2, rfl, h1, h2, hf⟩ := h
    exact ⟨v, σ', f1, f2, rfl, Rp.lk k t v f1 (by have := hf d; omega) h1, EnvR.lk k (by have := hf d; omega) h2, hf⟩
theorem FsS.lk (k : Lk d H H') : ∀ {o : List (Nat × Option T)} {fs : List (Str × V)}, FsS F H ρ o fs → FsS F H' ρ o fs
  | [], fs, h => h
  | (n, o) :: r, fs, h => by
    obtain ⟨v, fs', e, h1, h2, h3⟩ := h
    exact ⟨v, fs', e, h1, fun t q => Sn.lk k t v (h2 t q), h3.lk k⟩
theorem FsR.lk (k : Lk d H H') : ∀ {o : List (Nat × Option T)} {fs : List (Str × V)} {f : Fp}, f d = 0 → FsR F H ρ o fs f → FsR F H' ρ o fs f
  | [], fs, f, g, h => h
  | (n, o) :: r, fs, f, g, h => by
    obtain ⟨v, fs', f1, f2, e, h1, h2, h3, h4⟩ := h
    exact ⟨v, fs', f1, f2, e, h1, fun t q => ⟨(h2 t q).1, Rp.lk k t v f1 (by have := (h4 d).1; omega) (h2 t q).2⟩, h3.lk k (by have := (h4 d).1; omega), h4⟩
variable {pd : Pd} {mg : Str → Option Value}
theorem StoS.lk (k : Lk d H H') : ∀ {os : List Ob} {as : List Addr}, StoS pd mg F H ρ os as → StoS pd mg F H' ρ os as
  | [], as, h => h
  | o :: os, as, h => by
    obtain ⟨a, as', e, fa, ⟨x, C, dx, fs, q1, q2, q3, q4⟩, h2⟩ := h
    exact ⟨a, as', e, fa, ⟨x, C, dx, fs, q1, q2, k.ins _ _ _ _ q3, q4.lk k⟩, h2.lk k⟩
theorem StoL.lk (k : Lk d H H') : ∀ {os : List Ob} {as : List Addr} {f : Fp}, f d = 0 → StoL pd mg F H ρ os as f → StoL pd mg F H' ρ os as f
  | [], as, f, g, h => h
  | o :: os, as, f, g, h => by
    obtain ⟨a, as', f1, f2, e, ⟨x, C, dx, fs, f', q1, q2, q3, q4, q5⟩, h2, hf⟩ := h
    exact ⟨a, as', f1, f2, e, ⟨x, C, dx, fs, f', q1, q2, k.ins _ _ _ _ q3, q4.lk k (by have := hf d; have := q5 d; omega), q5⟩, h2.lk k (by have := hf d; omega), hf⟩
theorem StoR.lk {lk sto f} (k : Lk d H H') (g : f d = 0) (h : StoR pd mg F H ρ lk sto f) : StoR pd mg F H' ρ lk sto f := by
  unfold StoR at h ⊢
  split at h
  · rename_i q; rw [if_pos q]; exact ⟨h.1, h.2.lk k⟩
  · rename_i q; rw [if_neg q]; exact h.lk k g
theorem Sr.lk {lk σ env us ws sto} (S : Sr pd mg F H ρ lk σ env us ws sto) (hF : F d) (k : Lk d H H') (dd : dom H' d) : Sr pd mg F H' ρ lk σ env us ws sto := by
  obtain ⟨⟨fe, fk, fs, h1, h2, h3, h4, h5⟩, fd⟩ := S
  have z := h5 d hF
  refine ⟨⟨fe, fk, fs, h1.lk k (by omega), RpL.lk k _ _ fk (by omega) h2, h3.lk k (by omega), h4, h5⟩, fun b hb => ?_⟩
  by_cases q : b = d
  · rw [q]; exact dd
  · obtain ⟨o, e⟩ := fd b hb
    exact ⟨o, by rw [k.ne b q]; exact e⟩
/-- what is wanted behind the loop, the dict being locked -/
def lkEnds (d : Addr) (u : HO) (od : Obj) (D : Ends) : Ends := ⟨fun σ' H' => H' d = some (.frz od u) ∧ D.nx σ' (upd H' d u), fun v H' => H' d = some (.frz od u) ∧ D.rt v (upd H' d u), fun σ' H' => H' d = some (.frz od u) ∧ D.bk σ' (upd H' d u), fun σ' H' => H' d = some (.frz od u) ∧ D.ct σ' (upd H' d u)⟩
theorem PoS.lock {W : WX} {lk : Bool} {A : List Nat} {σ : L2.St} {r : SR} {D : Ends} {kvs : List (Key × V)} (hF : F d) (hd : H d = some (.dK kvs)) (od : Obj) (h : PoS pd mg W lk F H ρ A σ r.noex D) :
    PoS pd mg W lk F (upd H d (.frz od (.dK kvs))) ρ A σ r (lkEnds d (.dK kvs) od D) := by
  have key : ∀ {F' H' ρ'}, Fu lk F (upd H d (.frz od (.dK kvs))) ρ F' H' ρ' → H' d = some (.frz od (.dK kvs)) ∧ F' d ∧ Fu lk F H ρ F' (upd H' d (.dK kvs)) ρ' := fun {F' H' ρ'} f => by
    have e : H' d = some (.frz od (.dK kvs)) := (f.k.at_ d hF).trans upd_same
    refine ⟨e, f.s d hF, ⟨f.s, ⟨fun a fa => ?_, fun a vs q => ?_⟩, f.p, f.l⟩⟩
    · by_cases q : a = d
      · rw [q, upd_same, hd]
      · rw [upd_ne q, f.k.at_ a fa, upd_ne q]
    · have na : a ≠ d := fun z => by rw [z, hd] at q; cases q
      rw [upd_ne na]
      exact f.k.tup a vs (by rw [upd_ne na]; exact q)
  cases r with
  | nx env sto => exact fun F' H' ρ' σ' f' S sg => let ⟨e, fd, fu⟩ := key f'; ⟨e, h F' _ ρ' σ' fu (S.lk fd (.thaw e) ⟨_, upd_same⟩) sg⟩
  | bk env sto => exact fun F' H' ρ' σ' f' S sg => let ⟨e, fd, fu⟩ := key f'; ⟨e, h F' _ ρ' σ' fu (S.lk fd (.thaw e) ⟨_, upd_same⟩) sg⟩
  | ct env sto => exact fun F' H' ρ' σ' f' S sg => let ⟨e, fd, fu⟩ := key f'; ⟨e, h F' _ ρ' σ' fu (S.lk fd (.thaw e) ⟨_, upd_same⟩) sg⟩
  | rt t env sto => exact fun F' H' ρ' σ' v c f' S sg => let ⟨e, fd, fu⟩ := key f'; ⟨e, h F' _ ρ' σ' v c fu (S.lk fd (.thaw e) ⟨_, upd_same⟩) sg⟩
  | ex e env sto => exact h.elim
  | no => exact h.elim
theorem PoS.noex {W : WX} {lk : Bool} {A : List Nat} {σ : L2.St} {r : SR} {D : Ends} (h : PoS pd mg W lk F H ρ A σ r.noex D) : PoS pd mg W lk F H ρ A σ r D := by
  cases r with
  | ex e env sto => exact h.elim
  | _ => exact h
end
theorem flatL_keys : ∀ ks : List L2.Key, flatL (ks.map unkey) = true
  | [] => rfl
  | .inl i :: ks => by simp only [List.map_cons, unkey, flatL, flat, flatL_keys ks, Bool.and_self]
  | .inr i :: ks => by simp only [List.map_cons, unkey, flatL, flat, flatL_keys ks, Bool.and_self]
theorem reads_k {H : Hp} {ρ : List Addr} {a : Addr} {o : Obj} {ks : List L2.Key} {vs : List V} (h : H a = some (.frz o (.dK (ks.zip vs)))) (hl : vs.length = ks.length) : Reads (Itk a o (ks.zip vs)) H ρ (ks.map unkey) := by
  have zl : (ks.zip vs).length = ks.length := by rw [List.length_zip, hl, Nat.min_self]
  refine ⟨fun c hc => ⟨h, by rw [zl]; simpa using hc⟩, fun c t e => ?_⟩
  rw [List.getElem?_map] at e
  obtain ⟨key, e1, rfl⟩ := Option.map_eq_some_iff.mp e
  have lt : c < ks.length := (List.getElem?_eq_some_iff.mp e1).1
  refine ⟨⟨h, by rw [zl]; exact lt⟩, fun x H' ⟨e2, k, v, e3, e4⟩ => ⟨e2, ?_⟩⟩
  have e5 : k = key := by
    rw [List.getElem?_zip_eq_some] at e3
    have := e3.1
    rw [e1] at this
    simpa using this.symm
  subst e5
  subst e4
  cases k <;> simp [Sn, unkey, kV]
section
variable {pd : Pd} {Nm : List Str} {sc : Scope} {cf : CF} {k : Nat} {W : WX} {X : Cx}
theorem r_fork (G : Gs X pd Nm sc cf k W) {i j : Nat} {x y : Str} {p py pos : Pos} {bs : List Stmt} {B : List Nat} {rb : Bool → En → List Ob → SR} (hL : chkL Nm sc i x = true) (hN : chkN Nm sc j y = true)
    (PB_ : PSs X bs (tSt pd X.mg W B rb)) :
    PS X (.For (.Name x p) (.Name y py) bs [] pos) (tSt pd X.mg W (i :: B) fun lk env sto => match env[j]? with
      | some (some (.dic true _ ks _)) => (loopL (rb lk) i (ks.map unkey) env sto).noex
      | _ => .no) := by
  obtain ⟨h1, h2, h3, h4⟩ := L_of G hL
  have P1 := ps_for (pos := pos) G.po G.gd.calm (pi_keys (tg := .Name x p) (pe_n (p := py) G.gd hN)) (pg_name (pos := p) G.nd h1 h2 h3) PB_ fun _ => rfl
  have P2 := ps_lock P1
  refine PS.imp (t := fun D σ H => _ ∨ _) ⟨fun pins s σ H D I h => Or.elim h (P2.run pins s σ H D I) (P1.run pins s σ H D I)⟩ fun D σ H hl ⟨lk, F, ρ, env, sto, S, q⟩ => ?_
  dsimp only at q
  split at q
  · rename_i n ks ts e0
    obtain ⟨⟨fe, fk, fs, g1, g2, g3, g4, g5⟩, fd⟩ := id S
    obtain ⟨v, f1, f2, e1, r1, _, _⟩ := g1.take e0
    simp only [Rp, if_true] at r1
    obtain ⟨_, s⟩ := r1
    simp only [Sn] at s
    obtain ⟨a, vs, rfl, fa, rd, l, fl, dk⟩ := s
    have hvl : vs.length = ks.length := by rw [l.length, dk.1]
    have its : ∀ (o : Obj) (H : Hp) (D : Ends), H a = some (.frz o (.dK (ks.zip vs))) → Sr pd X.mg F H ρ lk σ env [] [] sto → PoS pd X.mg W lk F H ρ (i :: B) σ (loopL (rb lk) i (ks.map unkey) env sto) D → _ := fun o H D h S q =>
      r_its (Itk a o (ks.zip vs)) (fun F H ρ σ env => F a ∧ H a = some (.frz o (.dK (ks.zip vs)))) (flatL_keys ks) (fun F H ρ lk σ env sto S ⟨_, h⟩ => reads_k h hvl)
        (fun lk F H ρ σ env F' H' ρ' σ' env' t sto sto' ⟨p1, p2⟩ f _ _ => ⟨f.s _ p1, (f.k.at_ _ p1).trans p2⟩) (h4 hl) ⟨fa, h⟩ S q
    rcases rd with rd | ⟨o, rd⟩
    · exact .inl ⟨a, _, rd, trivial, fun od => ⟨.ref a, e1, a, od, rfl, .inl ⟨_, upd_same, its od _ _ upd_same (S.lk fa (.frz od rd) ⟨_, upd_same⟩) (PoS.lock fa rd od q)⟩⟩⟩
    · exact .inr ⟨.ref a, e1, a, o, rfl, .inl ⟨_, rd, its o _ _ rd S q.noex⟩⟩
  · exact q.elim
/-! d.clear() -/
theorem r_clrd (G : Gs X pd Nm sc cf k W) {i : Nat} {x : Str} {p pos apos cpos : Pos} (hN : chkN Nm sc i x = true) (hline : (apos.endLine == cpos.line) = true) :
    PS X (.Expr (.Call (.Attribute (.Name x p) "clear" apos) [] [] cpos) pos) (tSt pd X.mg W [] fun lk env sto => match env[i]? with
    | some (some (.dic false _ _ _)) => .nx (env.set i (some (.dic false false [] []))) sto
    | _ => .no) := by
  have B : PE X (.Call (.Attribute (.Name x p) "clear" apos) [] [] cpos) (tBM0 X.K "dict" rDClear (tVar i)) := pe_dclear (pe_n G.gd hN) rfl hline
  refine PS.imp (ps_expr B rfl) fun D σ H hl ⟨lk, F, ρ, env, sto, S, q⟩ => ?_
  dsimp only at q
  split at q
  · rename_i e0
    obtain ⟨a, vs, e3, ha, hlen, cl, fl, dk, put⟩ := S.putD e0
    obtain ⟨ff, SS⟩ := put [] [] [] false [] [] rfl (fun _ => rfl) ⟨rfl, List.nodup_nil⟩ (fun f fk r1 r2 => ⟨fun _ => 0, fk, by simp [RpL], r2, fun b => by show 0 + fk b ≤ _; omega⟩)
    exact ⟨.ref a, e3, .inr (.inr (.inl ⟨rfl, .inl ⟨_, ha⟩⟩)), a, _, rfl, rfl, ha, q F _ ρ σ ff SS Sg.refl⟩
  · exact q.elim
end
end Tr
/-! TrDset: d[k] = e, d.setdefault(k, e). -/
namespace Tr
open PySem PySem.Spec PyProof.Rows L2
section
variable {pd : Pd} {Nm : List Str} {sc : Scope} {cf : CF} {k : Nat} {W : WX} {X : Cx}
theorem r_dset (G : Gs X pd Nm sc cf k W) {i : Nat} {x : Str} {p pos tpos : Pos} {d ik : E} {e y : Expr} (hN : chkN Nm sc i x = true) (hy : plainX y = true) (hp : plainX e = true) (A : chkE pd Nm sc d e = true) (B : chkE pd Nm sc ik y = true) :
    PS X (.Assign [.Subscript (.Name x p) y tpos] e pos) (tSt pd X.mg W [] fun lk env sto => (kv cf d env sto).thn fun t env sto => match getV env i with
    | .ok (.dic false n ks ts) => ((pv cf env sto ik).g env sto).thn fun y env sto => match keyT y with
      | some k => if ks.length < sizeT then .nx (env.set i (some (.dic false (n || !flat t) (dputK ks k) (dputT ks ts k t)))) sto else .no
      | none => .no
    | _ => .no) := by
  have PA_ := sK G.gd d e A
  have PB_ := sE G.gd ik y B
  refine PS.imp (ps_dput (by have := u65 G.gd.room; omega) (pe_n G.gd hN) PB_ PA_ (plain_sw hp _ _ _)) fun D σ H hl ⟨lk, F, ρ, env, sto, S, q⟩ => ?_
  refine ⟨lk, F, ρ, env, [], [], sto, S, PoG.of q fun t env1 sto1 F1 H1 ρ1 v c f S1 q1 => ?_⟩
  split at q1
  · rename_i n ks ts e0
    have e1 := getV_ok e0
    obtain ⟨w, e2, s2⟩ := S1.viewE i _ e1
    refine ⟨w, e2, ρ1, env1, sto1, S1.viewE, S1.viewS, PoV.of S1 q1 fun y1 H2 yv p2 q2 => ?_⟩
    have S2 := S1.grow p2.ext
    split at q2
    · rename_i key ek
      split at q2
      · rename_i hz
        obtain rfl := keyT_ok p2.sn ek
        obtain ⟨a, vs, e3, ha, hlen, cl, fl, dk, put⟩ := S2.putD e1
        rw [e2] at e3
        have ew : w = .ref a := by simpa using e3
        subst ew
        have hvl : vs.length = ks.length := by rw [hlen, dk.1]
        obtain ⟨ff, SS⟩ := put (dputK ks key) (dputT ks ts key t) (dputV ks vs key v) (n || !flat t) [] [] (by
            unfold dputT
            split
            · exact cleanL_set cl c
            · exact cleanL_app cl (by simp [cleanL, c])) (fun z => by
            simp only [Bool.or_eq_false_iff, Bool.not_eq_false'] at z
            unfold dputT
            split
            · exact flatL_set (fl z.1) z.2
            · exact flatL_app (fl z.1) (by simp [flatL, z.2])) (dky_put dk key t) (fun f fk r1 r2 => by
          simp only [RpL] at r2
          obtain ⟨v', vs', f1, f2, e, k1, k2, hf⟩ := r2
          obtain ⟨rfl, rfl⟩ := List.cons.inj e
          unfold dputT dputV
          cases kix ks key with
          | some j =>
            obtain ⟨f3, m1, m2⟩ := RpL.set (j := j) r1 k1
            exact ⟨f3, fun _ => 0, m1, by simp [RpL], fun b => by have := m2 b; have := hf b; show f3 b + 0 ≤ _; omega⟩
          | none =>
            refine ⟨_, fun _ => 0, r1.app (us := [t]) (ws := [v]) (g := f1) ?_, by simp [RpL], fun b => by have := hf b; show f b + f1 b + 0 ≤ _; omega⟩
            simp only [RpL]
            exact ⟨v, [], f1, fun _ => 0, rfl, k1, ⟨rfl, fun _ => rfl⟩, fun _ => by simp⟩)
        refine ⟨a, _, rfl, .inl ⟨_, key, ha, rfl, ?_, rfl⟩, ?_⟩
        · rw [List.length_zip, hvl, Nat.min_self]; exact Nat.lt_of_lt_of_le hz sizeT_le
        · rw [putK_zip dk.2 hvl]
          exact q2 F1 _ ρ1 σ ff SS Sg.refl
      · exact q2.elim
    · exact q2.elim
  · exact q1.elim
theorem r_dsd (G : Gs X pd Nm sc cf k W) {i : Nat} {x : Str} {p pos apos cpos : Pos} {d ik : E} {e y : Expr} (hN : chkN Nm sc i x = true) (hy : plainX y = true) (hp : plainX e = true) (A : chkE pd Nm sc d e = true) (B : chkE pd Nm sc ik y = true) (hline : (apos.endLine == cpos.line) = true) :
    PS X (.Expr (.Call (.Attribute (.Name x p) "setdefault" apos) [y, e] [] cpos) pos) (tSt pd X.mg W [] fun lk env sto => match getV env i with
    | .ok (.dic false n ks ts) => ((pv cf env sto ik).g env sto).thn fun y env sto => ((pv cf env sto d).g env sto).thn fun t env sto => match keyT y with
      | some k => if ks.length < sizeT ∧ flat t = true then .nx (env.set i (some (.dic false n (dputK ks k) (if (kix ks k).isSome then ts else ts ++ [t])))) sto else .no
      | none => .no
    | _ => .no) := by
  have PA_ := sE G.gd d e A
  have PB_ := sE G.gd ik y B
  have st1 := plain_star (xs := [e]) (env := X.env) hy
  have st2 := plain_star (xs := []) (env := X.env) hp
  have hm : M2 X (.Name x p) ("setdefault" : Str) apos y e cpos := ⟨rfl, few_ok rfl st1 (by rw [st2]; rfl), hline, by show backTo cpos (starEach [y, e] X.env) = _; rw [st1, st2]; rfl⟩
  refine PS.imp (ps_expr (pe_dsetd (pe_n G.gd hN) PB_ PA_ hm) rfl) fun D σ H hl ⟨lk, F, ρ, env, sto, S, q⟩ => ?_
  dsimp only at q
  split at q
  · rename_i n ks ts e0
    have e1 := getV_ok e0
    obtain ⟨w, e2, s2⟩ := S.viewE i _ e1
    obtain ⟨a0, vs0, rfl, ra0, _⟩ := sn_dic s2
    refine ⟨.ref a0, e2, a0, rfl, .inl ⟨_, ra0⟩, ρ, env, sto, S.viewE, S.viewS, PoV.of S q fun y1 H1 yv p1 q1 => ?_⟩
    have S1 := S.grow p1.ext
    refine ⟨ρ, env, sto, S1.viewE, S1.viewS, PoV.of S1 q1 fun t H2 v p2 q2 => ?_⟩
    have S2 := S1.grow p2.ext
    split at q2
    · rename_i key ek
      split at q2
      · rename_i hz
        obtain rfl := keyT_ok p1.sn ek
        obtain ⟨a, vs, e3, ha, hlen, cl, fl, dk, put⟩ := S2.putD e1
        rw [e2] at e3
        have ew : a0 = a := by simpa using e3
        subst ew
        have hvl : vs.length = ks.length := by rw [hlen, dk.1]
        have hzl : (ks.zip vs).length < sizeLine := by rw [List.length_zip, hvl, Nat.min_self]; exact Nat.lt_of_lt_of_le hz.1 sizeT_le
        have ev := valV_zip (ks := ks) (vs := vs) key hvl
        refine ⟨_, key, ha, rfl, hzl, fun u hu => ?_, fun hn => ?_⟩
        · cases e5 : kix ks key with
          | none => rw [ev, e5] at hu; cases hu
          | some j =>
            obtain ⟨ff, SS⟩ := put ks ts vs n [] [] cl fl dk (fun f fk r1 r2 => ⟨f, fun _ => 0, r1, by simp [RpL], fun b => by show f b + 0 ≤ _; omega⟩)
            have eh : upd H2 a0 (.dK (ks.zip vs)) = H2 := by
              funext b
              by_cases z : b = a0
              · subst z; rw [upd_same, ha]
              · rw [upd_ne z]
            rw [eh] at ff SS
            have ek2 : dputK ks key = ks := by unfold dputK; rw [e5]; rfl
            rw [ek2, e5] at q2
            exact q2 F H2 ρ σ ff SS Sg.refl
        · cases e5 : kix ks key with
          | some j =>
            exfalso
            rw [ev, e5] at hn
            have : vs[j]? = none := hn
            rw [List.getElem?_eq_none_iff] at this
            have := (kix_lt e5).1
            omega
          | none =>
            have s := PR.flat hz.2 p2.sn
            obtain ⟨ff, SS⟩ := put (dputK ks key) (ts ++ [t]) (vs ++ [v]) n [] [] (cleanL_app cl (by simp [cleanL, clean_of_flat t hz.2])) (fun z => flatL_app (fl z) (by simp [flatL, hz.2])) (by
                have := dky_put dk key t
                unfold dputT at this
                rw [e5] at this
                exact this) (fun f fk r1 r2 => by
              refine ⟨_, fun _ => 0, r1.app (us := [t]) (ws := [v]) (g := fun _ => 0) ?_, by simp [RpL], fun b => by show f b + 0 + 0 ≤ _; omega⟩
              simp only [RpL]
              exact ⟨v, [], fun _ => 0, fun _ => 0, rfl, Sn.rp0 t v hz.2 p2.sn, ⟨rfl, fun _ => rfl⟩, fun _ => by simp⟩)
            rw [e5] at q2
            have epk : putK (ks.zip vs) key v = (dputK ks key).zip (vs ++ [v]) := by
              rw [putK_zip dk.2 hvl]
              unfold dputV
              rw [e5]
            rw [epk]
            exact q2 F _ ρ σ ff SS Sg.refl
      · exact q2.elim
    · exact q2.elim
  · exact q.elim
end
end Tr
/-! TrTry: raise; try and its clauses. -/
namespace Tr
open PySem PySem.Spec PyProof.Rows L2
/-! ### several clauses, some with a name -/
structure Cl where
  c : Value
  nm : Option Nat
  ts : Addr → Value → Option Addr → TS
/-- what is wanted behind a suite whose name is let go -/
def endNm (nm : Option Nat) (D : Ends) : Ends := match nm with
  | none => D
  | some i => { nx := fun σ' H' => D.nx (σ'.set i none) H', rt := D.rt, bk := fun σ' H' => D.bk (σ'.set i none) H', ct := fun σ' H' => D.ct (σ'.set i none) H' }
def bindNm (nm : Option Nat) (a : Addr) (σ : L2.St) : L2.St := match nm with
  | none => σ
  | some i => σ.set i (some (.ref a))
def wMix (K : PySem.W.Frag) (Wout : WX) (D : Ends) : List Cl → WX
  | [] => Wout
  | c :: r => fun cls d σ H => ∃ b, PySem.W.exmOne K cls c.c = some b ∧ (b = true → ∀ a, H a = none → c.ts a cls d (endNm c.nm D) (bindNm c.nm a σ) H) ∧ (b = false → wMix K Wout D r cls d σ H)
inductive HdsMix (X : Cx) : List ExceptHandler → List Cl → Prop
  | nil : HdsMix X [] []
  | cons {x : Str} {c : Value} {ts : Addr → Value → Option Addr → TS} {b₀ : Stmt} {suite : List Stmt} {np pos' : Pos} {hds : List ExceptHandler} {l : List Cl} (hc : Names X x c)
      (hsu : ∀ (a : Addr) (oe : Obj) (cls : Value) (d : Option Addr) (pn : List (Addr × Obj)), Zc cls d oe → (∃ vs, oe.data = .fields vs) → PSs (X.suite a ((a, oe) :: pn)) (b₀ :: suite) (ts a cls d)) (r : HdsMix X hds l) :
      HdsMix X (.ExceptHandler (some (.Name x np)) none (b₀ :: suite) pos' :: hds) (⟨c, none, ts⟩ :: l)
  | named {x n : Str} {i : Nat} {c : Value} {ts : Addr → Value → Option Addr → TS} {b₀ : Stmt} {suite : List Stmt} {np pos' : Pos} {hds : List ExceptHandler} {l : List Cl} (hc : Names X x c) (hi : X.N[i]? = some n) (hln : X.env.kindOf n = some .local)
      (hsu : ∀ (a : Addr) (oe : Obj) (cls : Value) (d : Option Addr) (pn : List (Addr × Obj)), Zc cls d oe → (∃ vs, oe.data = .fields vs) → PSs (X.suite a ((a, oe) :: pn)) (b₀ :: suite) (ts a cls d)) (r : HdsMix X hds l) :
      HdsMix X (.ExceptHandler (some (.Name x np)) (some n) (b₀ :: suite) pos' :: hds) (⟨c, some i, ts⟩ :: l)
section
variable {X : Cx} {body : List Stmt} {h₀ : ExceptHandler} {hds : List ExceptHandler} {l : List Cl} {pos : Pos} {tb : WX → TS} {Wout : WX}
theorem ps_try_mix (hs : X.stack = X.env :: X.outer) (hf : X.env.frame = some X.env.locals) (hN : X.N.Nodup) (tk : L2.Takes X Wout)
    (hb : ∀ (W : WX) (pn : List (Addr × Obj)) (xe : Value → Shared → Prop), L2.Takes (X.tr pn xe) W → PassesOwn (model X.prog X.w) X.A X.env xe → PSs (X.tr pn xe) body (tb W))
    (hh : HdsMix X (h₀ :: hds) l) : PS X (.Try body (h₀ :: hds) [] [] pos) (fun D σ H => tb (wMix X.K Wout D l) D σ H) := by
  refine ⟨fun pins s σ H D I h => ?_⟩
  have ok := I.ok
  have hfr : X.A.frames = some (X.env :: X.outer) := by rw [ok.frames, hs]
  refine wpAny_Try_except ?_
  refine wpAny_mono ((hb (wMix X.K Wout D l) (X.pn ++ pins) (fun e s₁ => wpAny (model X.prog X.w) X.A (noteFrame e X.env) (fun _ s₂ => wpAny (model X.prog X.w) X.A (setFlight e none) (fun _ s₃ =>
    wpAny (model X.prog X.w) X.A (handleBy e X.env (h₀ :: hds)) (SP X pins D) X.xe s₃) X.xe s₂) X.xe s₁) (fun u s' xx => ?_) PassesOwn.looking).run [] s σ H D (I.toTry _) h) (fun f s1 hsp => ?_) (fun e s1 he => he)
  · obtain ⟨a, B, sI, pins', σ', H', cls, d, rfl, J', nb, up, sky, na, os, ag, w⟩ := xx
    have J : Inv X pins σ' H' sI := J'.ofTry ok
    have sky' : Sky B (X.env :: X.outer) a (Zc cls d) X.env.locals s'.heap := by rw [← hs]; exact sky
    show wpAny (model X.prog X.w) X.A (noteFrame (.ref a) X.env) _ _ _
    refine Sky.land Zc.steady hfr hf sky' fun h3 fl3 up3 => ?_
    have J3 : Inv X pins σ' H' { s' with heap := h3 } := J.landed nb fl3.1 (up.trans up3) os ag
    obtain ⟨oe3, vs3, he3, hz3, hd3⟩ := fl3.there
    have notFr : ∀ {h : Heap} {o : Obj} {vs : Array Value}, h.FunFrames B (X.env :: X.outer) → h.get? a = some o → o.data = .fields vs → a ∉ frs (X.env :: X.outer) := fun {h o vs} ff e dd hm => by
      obtain ⟨_, o', e', hnf⟩ := ff.mem hm
      rw [e] at e'; cases e'
      exact hnf _ dd
    have nfr := notFr fl3.2.2.1 he3 hd3
    have nL : a ≠ X.env.locals := fun z => nfr (List.mem_filterMap.mpr ⟨X.env, List.mem_cons_self, by rw [hf, z]⟩)
    have nF : a ∉ X.fs := fun hm => by
      obtain ⟨e, he, q⟩ := List.mem_filterMap.mp hm
      exact nfr (List.mem_filterMap.mpr ⟨e, List.mem_cons_of_mem _ he, q⟩)
    have S3 := J3.suite he3 hd3 na nL nF
    have LT : PySem.W.Looks (model X.prog X.w) h3 (typeOf (.ref a)) cls := fun A Q E s k q => wpAny_typeOf_ref (k _ _ he3) (by rw [hz3.1]; exact q)
    have test : ∀ {x : Str} {c : Value} {np : Pos} {Q : Value → Shared → Prop} {E : Value → Shared → Prop}, Names X x c → Q c { s' with heap := h3 } → wpAny (model X.prog X.w) (X.A.mark (some (.ref a))) (eval (.Name x np) X.env) Q E { s' with heap := h3 } := fun {x c np Q E} hc q => by
      obtain ⟨hg, hdbg, hm | ⟨hm, hv, hnn⟩⟩ := hc
      · exact ld_glob (X := X.suite a ((a, oe3) :: (X.pn ++ pins))) S3 hg hm q hdbg
      · exact ld_blt (X := X.suite a ((a, oe3) :: (X.pn ++ pins))) S3 hg hm hv q hnn hdbg
    have go : ∀ {hds' : List ExceptHandler} {l' : List Cl}, HdsMix X hds' l' → wMix X.K Wout D l' cls d σ' H' →
        wpAny (model X.prog X.w) X.A (handleBy (.ref a) X.env hds') (SP X pins D) X.xe { s' with heap := h3 } := by
      intro hds' l' hk
      induction hk with
      | nil =>
        intro w
        refine wpAny_handleBy_nil ?_
        obtain ⟨k1, k2, k3, oe, vs, T, oT, ts', he, hz, hd, h1, hr⟩ := id fl3
        unfold PySem.passOn
        refine wpAny_bind (wpAny_field he hd h1 ?_)
        rw [if_neg (show ¬ ((Value.ref T == Value.none) = true) from by simp)]
        have fin : wpAny (model X.prog X.w) X.A (setFlight (.ref a) X.env.frame) (fun _ s4 => wpAny (model X.prog X.w) X.A (throw (.ref a) : Sem Flow) (SP X pins D) X.xe s4) X.xe { s' with heap := h3 } := by
          rw [hf]
          refine HandSPX.setFlight_upZ fl3 fun h4 hh4 up4 => wpAny_throw (tk _ _ ?_)
          exact ⟨a, B, sI, pins, σ', H', cls, d, rfl, J, nb, (up.trans up3).trans up4, .inr (.inr (by rw [hs]; exact hh4)), na, os, ag, w⟩
        first
          | exact wpAny_bind (wpAny_pure (wpAny_bind fin))
          | exact wpAny_bind fin
      | @cons x c ts b₀ suite np pos' hds2 l2 hc hsu r ih =>
        intro w
        obtain ⟨b, hb1, hyes, hno⟩ := w
        refine wpAny_handleBy_cons (codeAny_handlers_test ?_) (by intro q; cases q)
        have LM := PySem.W.exm_one (M := model X.prog X.w) (J3.kIn) LT hb1
        refine test hc (LM.here ?_)
        cases b with
        | true =>
          refine codeAny_handlers_suite ?_
          refine HandSPX.lands_againZ fl3 fun h4 fl4 up4 => ?_
          have J4 : Inv X pins σ' H' { s' with heap := h4 } := J.landed nb fl4.1 ((up.trans up3).trans up4) os ag
          obtain ⟨oe4, vs4, he4, hz4, hd4⟩ := fl4.there
          have S4 := J4.suite he4 hd4 na nL nF
          refine wpAny_mono ((hsu a oe4 cls d (X.pn ++ pins) hz4 ⟨_, hd4⟩).run [] _ _ H' _ S4 (hyes rfl a na)) (fun f s6 hsp => ?_) (fun _ _ z => False.elim z)
          cases f with
          | next =>
            obtain ⟨σ6, H6, S6, q6⟩ := hsp
            exact ⟨_, _, S6.unsuite ok, q6⟩
          | brk =>
            obtain ⟨σ6, H6, S6, q6⟩ := hsp
            exact ⟨_, _, S6.unsuite ok, q6⟩
          | cont =>
            obtain ⟨σ6, H6, S6, q6⟩ := hsp
            exact ⟨_, _, S6.unsuite ok, q6⟩
          | ret u =>
            obtain ⟨v6, σ6, H6, S6, r6, q6⟩ := hsp
            exact ⟨_, _, _, S6.unsuite ok, r6, q6⟩
        | false =>
          show wpAny _ X.A (handleBy (.ref a) X.env hds2) _ _ _
          exact ih (hno rfl)
      | @named x n i c ts b₀ suite np pos' hds2 l2 hc hi hln hsu r ih =>
        intro w
        have hloc : Loc X.env.scope n := .inl hln
        obtain ⟨b, hb1, hyes, hno⟩ := w
        refine wpAny_handleBy_cons (codeAny_handlers_test ?_) (by intro q; cases q)
        have LM := PySem.W.exm_one (M := model X.prog X.w) (J3.kIn) LT hb1
        refine test hc (LM.here ?_)
        cases b with
        | true =>
          refine codeAny_handlers_suite_as ?_
          refine HandSPX.lands_againZ fl3 fun h4 fl4 up4 => ?_
          have J4 : Inv X pins σ' H' { s' with heap := h4 } := J.landed nb fl4.1 ((up.trans up3).trans up4) os ag
          obtain ⟨oe4, vs4, he4, hz4, hd4⟩ := fl4.there
          have S4 := J4.suite he4 hd4 na nL nF
          refine store_ok (X := X.suite a ((a, oe4) :: (X.pn ++ pins))) (v := .ref a) S4 hN hi hloc rfl (fun s5 S5 => ?_) (.inr hln)
          refine wpAny_mono ((hsu a oe4 cls d (X.pn ++ pins) hz4 ⟨_, hd4⟩).run [] s5 _ H' _ S5 (hyes rfl a na)) (fun f s6 hsp => ?_) (fun _ _ z => False.elim z)
          have end_ : ∀ {σ6 : L2.St} {H6 : Hp} {Q : Shared → Prop}, Inv (X.suite a ((a, oe4) :: (X.pn ++ pins))) [] σ6 H6 s6 → (∀ s7, Inv X pins (σ6.set i none) H6 s7 → Q s7) →
              wpAny (model X.prog X.w) X.A (do bindName X.env n .none; unbindBehindTheSuite X.env n pos') (fun _ s7 => Q s7) X.xe s6 := fun {σ6 H6 Q} S6 hq => gone_ok (S6.unsuite ok) hN hi hln hq
          cases f with
          | next =>
            obtain ⟨σ6, H6, S6, q6⟩ := hsp
            exact end_ S6 fun s7 J7 => ⟨_, _, J7, q6⟩
          | brk =>
            obtain ⟨σ6, H6, S6, q6⟩ := hsp
            exact end_ S6 fun s7 J7 => ⟨_, _, J7, q6⟩
          | cont =>
            obtain ⟨σ6, H6, S6, q6⟩ := hsp
            exact end_ S6 fun s7 J7 => ⟨_, _, J7, q6⟩
          | ret u =>
            obtain ⟨v6, σ6, H6, S6, r6, q6⟩ := hsp
            exact end_ S6 fun s7 J7 => ⟨_, _, _, J7, r6, q6⟩
        | false =>
          show wpAny _ X.A (handleBy (.ref a) X.env hds2) _ _ _
          exact ih (hno rfl)
    exact go hh w
  · cases f with
    | next =>
      obtain ⟨σ', H', J', q⟩ := hsp
      exact wpAny_execs_nil ⟨σ', H', J'.ofTry ok, q⟩
    | brk =>
      obtain ⟨σ', H', J', q⟩ := hsp
      exact ⟨σ', H', J'.ofTry ok, q⟩
    | cont =>
      obtain ⟨σ', H', J', q⟩ := hsp
      exact ⟨σ', H', J'.ofTry ok, q⟩
    | ret u =>
      obtain ⟨v, σ', H', J', r, q⟩ := hsp
      exact ⟨v, σ', H', J'.ofTry ok, r, q⟩
end
end Tr
/-! TrSuite: except suites. -/
namespace Tr
open PySem PySem.Spec PyProof.Rows L2
section
variable (pd : Pd) (Nm : List Str) (sc : Scope) (en : Option Nat)
def chkUx (cs : List Nat) (e : Expr) : Bool := match cs, en, e with
  | [c], some i, .Call (.Name f _) [.Name n _, .Name y _] [] _ => f == ("isinstance" : Str) && glB sc f && chkN Nm sc i n && glB sc y && ((pd.exs.lookup y == some c) || (y == ("ValueError" : Str) && c == 999))
  | _, _, _ => false
def chkFl : List Nat → List Expr → Bool
  | [], [] => true
  | c :: cs, e :: es => plainX e && chkUx pd Nm sc en [c] e && chkFl cs es
  | _, _ => false
def chkIsl (o : Option Nat) (cs : List Nat) (e : Expr) : Bool := match o, e with
  | none, .List es _ => chkFl pd Nm sc en cs es
  | some i, .BinOp (.Name x _) .Add (.List es _) _ => chkN Nm sc i x && chkFl pd Nm sc en cs es
  | _, _ => false
def chkNin (b : Bool) (i : Nat) (e : Expr) : Bool := match e with
  | .Compare (.Constant (.bool c) _ _) [.NotIn] [.Name x _] _ => b == c && chkN Nm sc i x
  | _ => false
def chkCl : List Nat → List Expr → Bool
  | [], [] => true
  | c :: cs, .Name y _ :: es => glB sc y && (pd.exs.lookup y == some c) && chkCl cs es
  | _, _ => false
def chkUxs (cs : List Nat) (e : Expr) : Bool := match en, e with
  | some i, .Call (.Name f _) [.Name n _, .Tuple es _ _] [] _ => f == ("isinstance" : Str) && glB sc f && chkN Nm sc i n && chkCl pd sc cs es
  | _, _ => false
def chkUe : U → Expr → Bool
  | .int i, .Constant (.int j) _ _ => i == j
  | .str i, .Constant (.str j) _ _ => i == j
  | .bl i, .Constant (.bool j) _ _ => i == j
  | .non, .Constant .none _ _ => true
  | .var i, .Name x _ => chkN Nm sc i x
  | .isx cs, e => chkUx pd Nm sc en cs e
  | .not a, .UnaryOp .Not x _ => chkUe a x
  | .and a b, .BoolOp .And (x :: y :: r) p => chkUe a x && (match r with
    | [] => chkUe b y
    | z :: r => chkUe b (.BoolOp .And (y :: z :: r) p))
  | .ne a b, .Compare x [.NotEq] [y] _ => plainX y && chkUe a x && chkUe b y
  | .isl o cs, e => chkIsl pd Nm sc en o cs e
  | .nin b i, e => chkNin Nm sc b i e
  | .isxs cs, e => chkUxs pd Nm sc en cs e && decide (cs.length ≤ 1000)
  | .fld c, .Attribute (.Name n _) f _ => (match en with
    | some i => chkN Nm sc i n && pd.efd c == some f
    | none => false)
  | _, _ => false
end
section
variable {pd : Pd} {Nm : List Str} {sc : Scope} {cf : CF} {k : Nat} {W : WX} {X : Cx}
/-- a suite's value -/
def tU (pd : Pd) (mg : Str → Option Value) (a : Addr) (cls : Value) (d : Option Addr) (en : Option Nat) (u : U) : TE := fun σ H Q => ∃ ρ env e t, ViewE H ρ σ env ∧ (∀ i, en = some i → σ[i]? = some (some (.ref a))) ∧ ExR pd mg H ρ e cls d ∧ uv pd.xs e env u = .ok t ∧
  ∀ v H', clean t = true → PR H ρ H' t v → Q v H'
theorem ExR.ext {mg : Str → Option Value} {H H' : Hp} {ρ e cls d} (x : Ext H H') (h : ExR pd mg H ρ e cls d) : ExR pd mg H' ρ e cls d := by
  obtain ⟨n, C, e1, e2, e3, e4⟩ := h
  refine ⟨n, C, e1, e2, e3, ?_⟩
  cases ef : e.fld with
  | none => rw [ef] at e4; exact e4
  | some t =>
    rw [ef] at e4
    obtain ⟨fl, dd, nm, v, k1, k2, k3, k4⟩ := e4
    exact ⟨fl, dd, nm, v, k1, k2, x _ _ k3, Sn.ext x Pre.refl t v k4⟩
theorem pe_gname {X : Cx} {x : Str} {v : V} {u : Value} {pos : Pos} (hg : Gl X x) (hm : X.mg x = some u) (r : RelV v u) (hd : (x == ("__debug__" : Str)) = false) : PE X (.Name x pos) (tC v) :=
  ⟨fun _ _ _ H _ I h => ld_glob I hg hm ⟨v, H, I, r, h⟩ hd⟩
theorem uv_bind {α β : Type} {m : Rs α} {f : α → Rs β} {b : β} (h : m.bind f = .ok b) : ∃ a, m = .ok a ∧ f a = .ok b := bind_inv h
theorem gl_suite (G : Gs X pd Nm sc cf k W) {x : Str} (h : glB sc x = true) (a : Addr) (pn) : Gl (X.suite a pn) x ∧ (x == ("__debug__" : Str)) = false := by
  have z : Gl X x ∧ (x == ("__debug__" : Str)) = false := gl_of G.gd h
  exact z
theorem pe_nS (G : Gs X pd Nm sc cf k W) {i : Nat} {x : Str} {p : Pos} (h : chkN Nm sc i x = true) (a : Addr) (pn) : PE (X.suite a pn) (.Name x p) (tVar i) := by
  obtain ⟨h1, h2, h3, h4⟩ := chkN_inv h
  exact pe_var (i := i) (by show X.N[i]? = some x; rw [G.gd.nm]; exact h1) (by show Vis X.env.scope x; rw [G.gd.sc_]; exact vis_of h2) h3 h4
theorem dict_of {H : Hp} {ρ : List Addr} {d : Option Addr} {efd : Option Str} {o : Option T} (h : match o with
    | none => d = none ∧ efd = none
    | some t => flat t = true ∧ ∃ dd nm v, d = some dd ∧ efd = some nm ∧ H dd = some (.xd [(nm, v)]) ∧ Sn Top H ρ t v) : DictOk d H := by
  cases o with
  | none => obtain ⟨rfl, _⟩ := h; trivial
  | some t =>
    obtain ⟨_, dd, nm, v, rfl, _, e, _⟩ := h
    exact ⟨_, e⟩
theorem sUx (G : Gs X pd Nm sc cf k W) {a : Addr} {oe : Obj} {cls : Value} {d : Option Addr} {pn : List (Addr × Obj)} (hz : Zc cls d oe) (hf : ∃ vs, oe.data = .fields vs) {en : Option Nat} {cs : List Nat} {e : Expr} (h : chkUx pd Nm sc en cs e = true) :
    PE (X.suite a ((a, oe) :: pn)) e (tU pd X.mg a cls d en (.isx cs)) := by
  unfold chkUx at h
  split at h
  · rename_i c i f p1 n p2 y p3 pos
    simp only [Bool.and_eq_true, beq_iff_eq, Bool.or_eq_true] at h
    obtain ⟨⟨⟨⟨rfl, h1⟩, h2⟩, h3⟩, h4⟩ := h
    refine ⟨fun pins s σ H Q I ⟨ρ, env, e, t, ve, hn, xr, q1, q2⟩ => ?_⟩
    obtain ⟨x, C, e1, e2, rfl, e3⟩ := xr
    unfold uv at q1
    have dk := dict_of e3
    have et : T.bl (pd.xs e.cls c) = t := by injection q1
    subst et
    · skip
      obtain ⟨hg, hdb⟩ := gl_suite G h1 a ((a, oe) :: pn)
      obtain ⟨hg2, hdb2⟩ := gl_suite G h3 a ((a, oe) :: pn)
      obtain ⟨C', k1, k2, k3, k4, k5, k6⟩ := G.xk.cls x e.cls e1
      have eC : C' = C := by rw [e2] at k1; simpa using k1.symm
      subst eC
      have hi : σ[i]? = some (some (.ref a)) := hn i rfl
      have fin : Q (.bl (pd.xs e.cls c)) H := q2 _ _ rfl PR.bl
      have xc := k6.2
      have CR := call_isF (X := X) (a := a) (D := C') (oe := oe) (pn := pn) xc hz hf
      rcases h4 with h4 | ⟨rfl, rfl⟩
      · obtain ⟨D, g1, _⟩ := G.xk.cls y c h4
        have kt := (G.xk.sub x e.cls y c C' D e1 h4 e2 g1).2
        have B : PE (X.suite a ((a, oe) :: pn)) (.Name y p3) (tC (.ref D)) := pe_gname hg2 g1 rfl hdb2
        exact (pe_callB CR hg (G.gd.blt _ (by decide)) (by decide +kernel) (pa_cons (pe_nS G h2 a _) (pa_cons B pa_nil rfl) rfl) (by decide) hdb rfl rfl).run pins s σ H Q I
          ⟨.ref a, hi, ⟨.ref D, .ref D, _, rfl, fun u r => r, kt, fin⟩, dk⟩
      · have kt := G.xk.ve x e.cls C' e1 e2
        have B : PE (X.suite a ((a, oe) :: pn)) (.Name ("ValueError" : Str) p3) (tC (.ty "ValueError")) := pe_bltn hg2 (G.gd.blt _ (by decide)) (u := .type "ValueError") (by decide +kernel) rfl (by decide) hdb2
        exact (pe_callB CR hg (G.gd.blt _ (by decide)) (by decide +kernel) (pa_cons (pe_nS G h2 a _) (pa_cons B pa_nil rfl) rfl) (by decide) hdb rfl rfl).run pins s σ H Q I
          ⟨.ref a, hi, ⟨.ty "ValueError", .type "ValueError", _, rfl, fun u r => r, kt, fin⟩, dk⟩
  · exact absurd h Bool.false_ne_true
theorem flatL_bls (f : Nat → Bool) : ∀ cs : List Nat, flatL (cs.map fun c => T.bl (f c)) = true
  | [] => rfl
  | c :: cs => by simp only [List.map_cons, flatL, flat, flatL_bls f cs, Bool.and_self]
theorem snL_bls {F H} {ρ : List Addr} (f : Nat → Bool) : ∀ cs : List Nat, SnL F H ρ (cs.map fun c => T.bl (f c)) (cs.map fun c => V.bl (f c))
  | [] => by simp [SnL]
  | c :: cs => by
    have := snL_bls (F := F) (H := H) (ρ := ρ) f cs
    simp only [List.map_cons, SnL]
    exact ⟨_, _, rfl, by simp [Sn], this⟩
def tFl (pd : Pd) (mg : Str → Option Value) (a : Addr) (cls : Value) (d : Option Addr) (en : Option Nat) (cs : List Nat) : TA := fun σ H Q => ∃ ρ env e, ViewE H ρ σ env ∧ (∀ i, en = some i → σ[i]? = some (some (.ref a))) ∧ ExR pd mg H ρ e cls d ∧
  ∀ H', Ext H H' → Q (cs.map fun c => V.bl (pd.xs e.cls c)) H'
theorem sFl (G : Gs X pd Nm sc cf k W) {a : Addr} {oe : Obj} {cls : Value} {d : Option Addr} {pn : List (Addr × Obj)} (hz : Zc cls d oe) (hf : ∃ vs, oe.data = .fields vs) {en : Option Nat} :
    ∀ (cs : List Nat) (es : List Expr), chkFl pd Nm sc en cs es = true → PA (X.suite a ((a, oe) :: pn)) es (tFl pd X.mg a cls d en cs)
  | [], [], _ => ⟨fun pos pins s σ H Q I ⟨ρ, env, e, ve, hn, xr, q⟩ => pa_nil.run pos pins s σ H Q I (q H Ext.refl)⟩
  | c :: cs, x :: xs, h => by
    simp only [chkFl, Bool.and_eq_true] at h
    obtain ⟨⟨h1, h2⟩, h3⟩ := h
    refine ⟨fun pos pins s σ H Q I ⟨ρ, env, e, ve, hn, xr, q⟩ => (pa_cons (sUx G (a := a) (pn := pn) hz hf h2) (sFl G hz hf cs xs h3) (plain_star h1)).run pos pins s σ H Q I ?_⟩
    refine ⟨ρ, env, e, .bl (pd.xs e.cls c), ve, hn, xr, by unfold uv; rfl, fun v H1 _ p => ?_⟩
    obtain rfl := sn_bl p.sn
    exact ⟨ρ, env, e, ve.ext p.ext, hn, xr.ext p.ext, fun H' x1 => q H' (p.ext.trans x1)⟩
  | [], _ :: _, h => by simp only [chkFl, Bool.false_eq_true] at h
  | _ :: _, [], h => by simp only [chkFl, Bool.false_eq_true] at h
theorem sIsl (G : Gs X pd Nm sc cf k W) {a : Addr} {oe : Obj} {cls : Value} {d : Option Addr} {pn : List (Addr × Obj)} (hz : Zc cls d oe) (hf : ∃ vs, oe.data = .fields vs) {en : Option Nat} {cs : List Nat} {es : List Expr} {p : Pos} (h : chkFl pd Nm sc en cs es = true) :
    PE (X.suite a ((a, oe) :: pn)) (.List es p) (tU pd X.mg a cls d en (.isl none cs)) := by
  refine PE.imp (pe_lst (sFl G (a := a) (pn := pn) hz hf cs es h)) fun σ H Q ⟨ρ, env, e, t, ve, hn, xr, q1, q2⟩ => ?_
  unfold uv at q1
  · rw [show islV env none = .ok [] from rfl, Rs.bind_ok] at q1
    split at q1
    · rename_i hl
      have et := (Rs.ok.inj q1).symm
      subst et
      refine ⟨ρ, env, e, ve, hn, xr, fun H' x1 => ⟨?_, fun p np => ?_⟩⟩
      · rw [List.length_map, sizeLine_eq]
        simp only [List.length_nil] at hl
        omega
      · have := PR.newl (ρ := ρ) np (flatL_bls (fun c => pd.xs e.cls c) cs) (snL_bls (F := Top) (H := H') (ρ := ρ) (fun c => pd.xs e.cls c) cs)
        exact q2 _ _ rfl (this.base x1)
    · cases q1
theorem sIslE (G : Gs X pd Nm sc cf k W) {a : Addr} {oe : Obj} {cls : Value} {d : Option Addr} {pn : List (Addr × Obj)} (hz : Zc cls d oe) (hf : ∃ vs, oe.data = .fields vs) {en : Option Nat} {o : Option Nat} {cs : List Nat} {e : Expr} (h : chkIsl pd Nm sc en o cs e = true) :
    PE (X.suite a ((a, oe) :: pn)) e (tU pd X.mg a cls d en (.isl o cs)) := by
  unfold chkIsl at h
  split at h
  · exact sIsl G hz hf h
  · rename_i i x p1 es p2 pos
    simp only [Bool.and_eq_true] at h
    refine ⟨fun pins s σ H Q I ⟨ρ, env, e, t, ve, hn, xr, q1, q2⟩ => ?_⟩
    refine (pe_op (bin_ok (X := X.suite a ((a, oe) :: pn)) (ρ := ρ) .add) (pe_nS G h.1 a _) (sIsl G (a := a) (pn := pn) hz hf (en := en) h.2)).run pins s σ H Q I ?_
    unfold uv at q1
    · obtain ⟨ts, g1, g2⟩ := uv_bind q1
      unfold islV at g1
      obtain ⟨t', g3, g4⟩ := uv_bind g1
      split at g4
      · rename_i z ts'
        split at g4
        · rename_i fl
          have et := Rs.ok.inj g4
          subst et
          split at g2
          · rename_i hl
            have et := (Rs.ok.inj g2).symm
            subst et
            obtain ⟨v, e1, s1⟩ := ve i _ (getV_ok g3)
            refine ⟨v, e1, ρ, env, e, _, ve, hn, xr, (by unfold uv; rw [show islV env none = .ok [] from rfl, Rs.bind_ok]; exact if_pos (by simp only [List.length_nil]; omega)), fun v2 H2 cl2 p2 => ?_⟩
            have sz : sizeT = 16777216 := rfl
            refine ⟨_, _, _, Sn.ext p2.ext Pre.refl _ _ s1, p2.sn, if_pos (by simp only [List.nil_append, List.length_map]; omega), fun w H3 p3 => ?_⟩
            exact q2 w H3 rfl (p3.base p2.ext)
          · cases g2
        · cases g4
      · cases g4
  · exact absurd h Bool.false_ne_true
theorem sNin (G : Gs X pd Nm sc cf k W) {a : Addr} {oe : Obj} {cls : Value} {d : Option Addr} {pn : List (Addr × Obj)} {en : Option Nat} {b : Bool} {i : Nat} {e : Expr} (h : chkNin Nm sc b i e = true) :
    PE (X.suite a ((a, oe) :: pn)) e (tU pd X.mg a cls d en (.nin b i)) := by
  unfold chkNin at h
  split at h
  · rename_i c kk p1 x p2 pos
    simp only [Bool.and_eq_true, beq_iff_eq] at h
    obtain ⟨rfl, h⟩ := h
    have hu : (X.suite a ((a, oe) :: pn)).A.units + 65 < cLine := (show X.A.units + 65 < cLine from u65 G.gd.room)
    refine ⟨fun pins s σ H Q I ⟨ρ, env, e, t, ve, hn, xr, q1, q2⟩ => ?_⟩
    have C : OpR (X.suite a ((a, oe) :: pn)) (compareOp (pyCmp .nin)) (rT ρ (cmpT .nin)) := cmp_ok (ρ := ρ) hu .nin
    refine (pe_cmpR C pe_bl (pe_nS G h a _) (plain_behind rfl)).run pins s σ H Q I ?_
    unfold uv at q1
    obtain ⟨t1, g1, g2⟩ := uv_bind q1
    obtain ⟨t2, g3, g4⟩ := uv_bind g2
    split at g4
    · rename_i fl
      have et := Rs.ok.inj g4
      subst et
      obtain ⟨v, e1, s1⟩ := ve i _ (getV_ok g1)
      exact ⟨v, e1, .bl b, t1, _, by simp [Sn], s1, g3, fun z H3 p3 => q2 z H3 (clean_of_flat _ fl) p3⟩
    · cases g4
  · exact absurd h Bool.false_ne_true
/-- isinstance(e, (c1, c2, ..)), e the exception that the suite holds -/
def rIsET (K : PySem.W.Frag) (D a : Addr) : List V → Hp → VK → Prop := fun xs H Q => ∃ (tp : Addr) (cs : List V) (us : List Value) (b : Bool), xs = [.ref a, .ref tp] ∧ H tp = some (.tup cs) ∧ Paired ClsV cs us ∧ PySem.W.kitAny K (.ref D) us = some b ∧ Q (.bl b) H
theorem call_isET {X : Cx} {a D : Addr} {oe : Obj} {pn : List (Addr × Obj)} {d : Option Addr} (C : ExcC X.K D) (hz : Zc (.ref D) d oe) (hf : ∃ vs, oe.data = .fields vs) : CallR (X.suite a ((a, oe) :: pn)) (.builtin "isinstance") (fun xs H Q => rIsET X.K D a xs H Q ∧ DictOk d H) := by
  intro pins s σ H xs us Q I r ⟨h, hd⟩
  obtain ⟨tp, cs, ws, b, rfl, hT, k, e, q⟩ := h
  obtain ⟨u1, u2, rfl, r1, r2⟩ := vals2 r
  cases (show u2 = Value.ref tp from r2)
  cases (show u1 = Value.ref a from r1)
  obtain ⟨od', J⟩ := inst_e I (I.pin (a, oe) (List.mem_append.mpr (.inl List.mem_cons_self))).1 hz hf hd
  obtain ⟨_, its, rv, o, h1, h2, n, h3⟩ := (show ObjOk X.prog X.w H s.heap tp (.tup cs) from I.hok tp _ hT)
  have e3 := ClsV.all k rv
  subst e3
  obtain ⟨oc, od, dt, sl⟩ := o
  simp only at h2 h3
  subst h2 h3
  exact PySem.W.kia_tup (PySem.W.kitx_exc (cls_some C.hd) C.hg C.hk C.hs C.ha C.hn C.ht C.hm) I.kIn J h1 e (fun z => nomatch z) fun tk => ⟨.bl b, H, I.kept (t' := tk) fun _ _ z => z, rfl, q⟩
theorem pa_cls (G : Gs X pd Nm sc cf k W) (a : Addr) (pn) {x : Str} {c0 : Nat} {C : Addr} (h1 : pd.exs.lookup x = some c0) (h2 : X.mg x = some (.ref C)) : ∀ (cs : List Nat) (es : List Expr), chkCl pd sc cs es = true →
    ∃ Ds : List Addr, PA (X.suite a pn) es (fun _ H Q => Q (Ds.map V.ref) H) ∧ PySem.W.kitAny X.K (.ref C) (Ds.map Value.ref) = some (cs.any (pd.xs c0)) ∧ Ds.length = cs.length
  | [], es, h => by
    cases es with
    | cons _ _ => simp [chkCl] at h
    | nil => exact ⟨[], pa_nil, kitAny_nil, rfl⟩
  | c :: cs, es, h => by
    cases es with
    | nil => simp [chkCl] at h
    | cons e es =>
      cases e <;> try (simp only [chkCl, Bool.false_eq_true] at h; done)
      rename_i y p
      simp only [chkCl, Bool.and_eq_true, beq_iff_eq] at h
      obtain ⟨⟨k1, k2⟩, k3⟩ := h
      obtain ⟨Ds, A, B, L⟩ := pa_cls G a pn h1 h2 cs es k3
      obtain ⟨D, g1, _⟩ := G.xk.cls y c k2
      obtain ⟨hg, hdb⟩ := gl_suite G k1 a pn
      have kt := (G.xk.sub x c0 y c C D h1 k2 h2 g1).2
      have P : PE (X.suite a pn) (.Name y p) (tC (.ref D)) := pe_gname hg g1 rfl hdb
      refine ⟨D :: Ds, ⟨fun pos pins s σ H Q I q => (pa_cons P A rfl).run pos pins s σ H Q I q⟩, ?_, by simp [L]⟩
      rw [List.map_cons, List.any_cons]
      refine kitAny_cons kt (fun hb => ?_) fun hb => by rw [hb]; rfl
      rw [B, hb]; rfl
theorem sUxs (G : Gs X pd Nm sc cf k W) {a : Addr} {oe : Obj} {cls : Value} {d : Option Addr} {pn : List (Addr × Obj)} (hz : Zc cls d oe) (hf : ∃ vs, oe.data = .fields vs) {en : Option Nat} {cs : List Nat} {e : Expr} (h : chkUxs pd Nm sc en cs e = true) (hc : cs.length ≤ 1000) :
    PE (X.suite a ((a, oe) :: pn)) e (tU pd X.mg a cls d en (.isxs cs)) := by
  unfold chkUxs at h
  split at h
  · rename_i i f p1 n p2 es kk p3 pos
    simp only [Bool.and_eq_true, beq_iff_eq] at h
    obtain ⟨⟨⟨rfl, h1⟩, h2⟩, h3⟩ := h
    refine ⟨fun pins s σ H Q I ⟨ρ, env, e, t, ve, hn, xr, q1, q2⟩ => ?_⟩
    obtain ⟨x, C, e1, e2, rfl, e3⟩ := xr
    unfold uv at q1
    have dk := dict_of e3
    have et : T.bl (cs.any (pd.xs e.cls)) = t := by injection q1
    subst et
    · skip
      obtain ⟨hg, hdb⟩ := gl_suite G h1 a ((a, oe) :: pn)
      obtain ⟨C', k1, k2, k3, k4, k5, k6⟩ := G.xk.cls x e.cls e1
      have eC : C' = C := by rw [e2] at k1; simpa using k1.symm
      subst eC
      have hi : σ[i]? = some (some (.ref a)) := hn i rfl
      have xc := k6.2
      have CR := call_isET (X := X) (a := a) (D := C') (oe := oe) (pn := pn) xc hz hf
      obtain ⟨Ds, A, B, L⟩ := pa_cls G a ((a, oe) :: pn) e1 e2 cs es h3
      have sz : sizeLine = 16777216 := sizeLine_eq
      have PC : ∀ Ds : List Addr, Paired ClsV (Ds.map V.ref) (Ds.map Value.ref) := fun Ds => by
        induction Ds with
        | nil => exact .nil
        | cons D Ds ih => exact .cons (.own D) ih
      refine (pe_callB CR hg (G.gd.blt _ (by decide)) (by decide +kernel) (pa_cons (pe_nS G h2 a _) (pa_cons (pe_tup A) pa_nil rfl) rfl) (by decide) hdb rfl rfl).run pins s σ H Q I
          ⟨.ref a, hi, by rw [List.length_map, sz]; omega, fun p np => ⟨⟨p, _, _, _, rfl, upd_same, PC Ds, B, ?_⟩, dk.up np⟩⟩
      exact q2 _ _ rfl (PR.bl.base (Ext.upd np))
  · exact absurd h Bool.false_ne_true
theorem sU (G : Gs X pd Nm sc cf k W) {a : Addr} {oe : Obj} {cls : Value} {d : Option Addr} {pn : List (Addr × Obj)} (hz : Zc cls d oe) (hf : ∃ vs, oe.data = .fields vs) {en : Option Nat} :
    ∀ (u : U) (e : Expr), chkUe pd Nm sc en u e = true → PE (X.suite a ((a, oe) :: pn)) e (tU pd X.mg a cls d en u)
  | .int i, e, h => by
    cases e <;> try (simp only [chkUe, Bool.false_eq_true] at h; done)
    rename_i c j p
    cases c <;> simp only [chkUe, Bool.false_eq_true, beq_iff_eq] at h
    subst h
    refine PE.imp pe_int fun σ H Q ⟨ρ, env, e, t, ve, hn, xr, q1, q2⟩ => ?_
    have et : T.int i = t := by injection q1
    subst et
    exact q2 _ _ rfl PR.int
  | .str i, e, h => by
    cases e <;> try (simp only [chkUe, Bool.false_eq_true] at h; done)
    rename_i c j p
    cases c <;> simp only [chkUe, Bool.false_eq_true, beq_iff_eq] at h
    subst h
    refine PE.imp pe_str fun σ H Q ⟨ρ, env, e, t, ve, hn, xr, q1, q2⟩ => ?_
    have et : T.str i = t := by injection q1
    subst et
    exact q2 _ _ rfl PR.str
  | .bl i, e, h => by
    cases e <;> try (simp only [chkUe, Bool.false_eq_true] at h; done)
    rename_i c j p
    cases c <;> simp only [chkUe, Bool.false_eq_true, beq_iff_eq] at h
    subst h
    refine PE.imp pe_bl fun σ H Q ⟨ρ, env, e, t, ve, hn, xr, q1, q2⟩ => ?_
    have et : T.bl i = t := by injection q1
    subst et
    exact q2 _ _ rfl PR.bl
  | .non, e, h => by
    cases e <;> try (simp only [chkUe, Bool.false_eq_true] at h; done)
    rename_i c j p
    cases c <;> simp only [chkUe, Bool.false_eq_true] at h
    refine PE.imp pe_non fun σ H Q ⟨ρ, env, e, t, ve, hn, xr, q1, q2⟩ => ?_
    have et : T.non = t := by injection q1
    subst et
    exact q2 _ _ rfl PR.non
  | .var i, e, h => by
    cases e <;> try (simp only [chkUe, Bool.false_eq_true] at h; done)
    simp only [chkUe] at h
    refine PE.imp (pe_nS G h a _) fun σ H Q ⟨ρ, env, e, t, ve, hn, xr, q1, q2⟩ => ?_
    unfold uv at q1
    obtain ⟨t', g1, g2⟩ := uv_bind q1
    split at g2
    · rename_i fl
      have et : t' = t := by injection g2
      subst et
      obtain ⟨v, e1, s1⟩ := ve i t' (getV_ok g1)
      exact ⟨v, e1, q2 v _ (clean_of_flat _ fl) (PR.flat fl s1)⟩
    · cases g2
  | .isx cs, e, h => sUx G hz hf (by simpa only [chkUe] using h)
  | .not u, e, h => by
    cases e <;> try (simp only [chkUe, Bool.false_eq_true] at h; done)
    rename_i o x p
    cases o <;> try (simp only [chkUe, Bool.false_eq_true] at h; done)
    simp only [chkUe] at h
    have A := sU G (a := a) (pn := pn) hz hf (en := en) u x h
    refine PE.imp (pe_notT A) fun σ H Q ⟨ρ, env, e, t, ve, hn, xr, q1, q2⟩ => ?_
    unfold uv at q1
    obtain ⟨t', g1, g2⟩ := uv_bind q1
    refine ⟨ρ, env, e, t', ve, hn, xr, g1, fun v H1 fl p1 => ?_⟩
    cases t' <;> first | (cases g2; done) | skip
    rename_i b
    have et : T.bl (!b) = t := by injection g2
    subst et
    obtain rfl := sn_bl p1.sn
    exact ⟨b, (show TruV _ (V.bl b) _ b from rfl), q2 _ _ rfl (PR.bl.base p1.ext)⟩
  | .and u w, e, h => by
    cases e <;> try (simp only [chkUe, Bool.false_eq_true] at h; done)
    rename_i o es p
    cases o <;> try (simp only [chkUe, Bool.false_eq_true] at h; done)
    match es, h with
    | [], h => simp only [chkUe, Bool.false_eq_true] at h
    | [_], h => simp only [chkUe, Bool.false_eq_true] at h
    | x :: y :: r, h =>
      simp only [chkUe, Bool.and_eq_true] at h
      have A := sU G (a := a) (pn := pn) hz hf (en := en) u x h.1
      have B : PE (X.suite a ((a, oe) :: pn)) (.BoolOp .And (y :: r) p) (tU pd X.mg a cls d en w) := by
        match r, h.2 with
        | [], h2 => exact pe_one (sU G (a := a) (pn := pn) hz hf (en := en) w y h2)
        | z :: r', h2 => exact sU G (a := a) (pn := pn) hz hf (en := en) w _ h2
      refine PE.imp (pe_and A B) fun σ H Q ⟨ρ, env, e, t, ve, hn, xr, q1, q2⟩ => ?_
      unfold uv at q1
      obtain ⟨t', g1, g2⟩ := uv_bind q1
      refine ⟨ρ, env, e, t', ve, hn, xr, g1, fun v H1 fl p1 => ?_⟩
      cases t' <;> first | (cases g2; done) | skip
      rename_i b
      obtain rfl := sn_bl p1.sn
      refine ⟨b, rfl, ?_⟩
      cases b with
      | true => exact ⟨ρ, env, e, t, ve.ext p1.ext, hn, xr.ext p1.ext, g2, fun v H2 fl2 p2 => q2 v H2 fl2 (p2.base p1.ext)⟩
      | false =>
        have et : T.bl false = t := by injection g2
        subst et
        exact q2 _ _ rfl (PR.bl.base p1.ext)
  | .ne u w, e, h => by
    cases e <;> try (simp only [chkUe, Bool.false_eq_true] at h; done)
    rename_i x os ys p
    match os, ys, h with
    | [], _, h => simp only [chkUe, Bool.false_eq_true] at h
    | [o], [], h => cases o <;> simp only [chkUe, Bool.false_eq_true] at h
    | [o], _ :: _ :: _, h => cases o <;> simp only [chkUe, Bool.false_eq_true] at h
    | o :: _ :: _, _, h => cases o <;> simp only [chkUe, Bool.false_eq_true] at h
    | [o], [y], h =>
      cases o <;> simp only [chkUe, Bool.false_eq_true, Bool.and_eq_true] at h
      have A := sU G (a := a) (pn := pn) hz hf (en := en) u x h.1.2
      have B := sU G (a := a) (pn := pn) hz hf (en := en) w y h.2
      have hu : (X.suite a ((a, oe) :: pn)).A.units + 65 < cLine := (show X.A.units + 65 < cLine from u65 G.gd.room)
      refine ⟨fun pins s σ H Q I ⟨ρ, env, e, t, ve, hn, xr, q1, q2⟩ => ?_⟩
      have C : OpR (X.suite a ((a, oe) :: pn)) (compareOp (pyCmp .ne)) (rT ρ (cmpT .ne)) := cmp_ok (ρ := ρ) hu .ne
      refine (pe_cmpR C A B (plain_behind h.1.1)).run pins s σ H Q I ?_
      unfold uv at q1
      obtain ⟨t1, g1, g2⟩ := uv_bind q1
      obtain ⟨t2, g3, g4⟩ := uv_bind g2
      refine ⟨ρ, env, e, t1, ve, hn, xr, g1, fun v1 H1 fl1 p1 => ⟨ρ, env, e, t2, ve.ext p1.ext, hn, xr.ext p1.ext, g3, fun v2 H2 fl2 p2 => ?_⟩⟩
      cases t1 <;> first | (cases g4; done) | skip
      cases t2 <;> first | (cases g4; done) | skip
      rename_i b1 b2
      have et : T.bl (!decide (b1 = b2)) = t := by injection g4
      subst et
      refine ⟨.bl b1, .bl b2, _, Sn.ext p2.ext Pre.refl _ _ p1.sn, p2.sn, rfl, fun z H3 p3 => ?_⟩
      exact q2 z H3 rfl ((p3.base p2.ext).base p1.ext)
  | .fld c, e, h => by
    cases e <;> try (simp only [chkUe, Bool.false_eq_true] at h; done)
    rename_i o f p
    cases o <;> try (simp only [chkUe, Bool.false_eq_true] at h; done)
    rename_i n p2
    cases en with
    | none => simp only [chkUe, Bool.false_eq_true] at h
    | some i =>
      simp only [chkUe, Bool.and_eq_true, beq_iff_eq] at h
      obtain ⟨h1, h2⟩ := h
      refine ⟨fun pins s σ H Q I ⟨ρ, env, e, t, ve, hn, xr, q1, q2⟩ => ?_⟩
      obtain ⟨x, C, e1, e2, rfl, e3⟩ := xr
      unfold uv at q1
      split at q1
      · rename_i ec
        cases ef : e.fld with
        | none => rw [ef] at q1; cases q1
        | some t' =>
          rw [ef] at q1 e3
          have et : t' = t := by injection q1
          subst et
          obtain ⟨fl, dd, nm, v, rfl, k2, k3, k4⟩ := e3
          rw [ec, h2] at k2
          have en' : f = nm := by injection k2
          subst en'
          obtain ⟨C', m1, m2, m3, m4, m5, m6⟩ := G.xk.cls x e.cls e1
          have eC : C' = C := by rw [e2] at m1; simpa using m1.symm
          subst eC
          have T := G.xk.ini x e.cls f C' e1 (by rw [ec]; exact h2) e2
          have xc := m6.2
          refine (pe_xf (X := X) (C := C') (n := f) ⟨xc.hg, xc.hk, xc.hs, xc.hd⟩ T.no hz hf (pe_nS G h1 a _)).run pins s σ H Q I ?_
          exact ⟨.ref a, hn i rfl, rfl, rfl, dd, _, v, rfl, k3, by simp [List.lookup], q2 v H (clean_of_flat _ fl) (PR.flat fl k4)⟩
      · cases q1
  | .isl o cs, e, h => sIslE G hz hf (by simpa only [chkUe] using h)
  | .nin b i, e, h => sNin G (by simpa only [chkUe] using h)
  | .isxs cs, e, h => sUxs G hz hf (by have := h; simp only [chkUe, Bool.and_eq_true, decide_eq_true_eq] at this; exact this.1) (by have := h; simp only [chkUe, Bool.and_eq_true, decide_eq_true_eq] at this; exact this.2)
end
/-! ### suites and clauses -/
section
variable (pd : Pd) (Nm : List Str) (sc : Scope) (en : Option Nat)
def retE (ss : List Stmt) : Option Expr := match ss with
  | [.Return (some e) _] => some e
  | _ => none
def asgE (ss : List Stmt) : Option (Str × Expr × List Stmt) := match ss with
  | .Assign [.Name x _] e _ :: r => some (x, e, r)
  | _ => none
def chkSuite : List (Nat × U) → Option U → List Stmt → Bool
  | [], none, ss => ss.isEmpty
  | [], some u, ss => match retE ss with
    | some e => chkUe pd Nm sc en u e
    | none => false
  | (i, u) :: r, ret, ss => match asgE ss with
    | some (x, e, rest) => chkL Nm sc i x && plainX e && !(en == some i) && chkUe pd Nm sc en u e && chkSuite r ret rest
    | none => false
def nonE : List Stmt → Bool
  | [] => false
  | _ => true
def chkNm (nm : Option Nat) (n : Option Str) : Bool := match nm, n with
  | none, none => true
  | some i, some x => chkLs Nm sc i x
  | _, _ => false
def chkHs : Hs → List ExceptHandler → Bool
  | .nil, [] => true
  | .cons c nm sets ret hs, .ExceptHandler (some (.Name x _)) n ss _ :: hds => (pd.exs.lookup x == some c) && glB sc x && chkNm Nm sc nm n && nonE ss && chkSuite pd Nm sc nm sets ret ss && chkHs hs hds
  | _, _ => false
end
section
variable {pd : Pd} {Nm : List Str} {sc : Scope} {cf : CF} {k : Nat} {W : WX} {X : Cx} {N : Nat}
def tSu (pd : Pd) (mg : Str → Option Value) (a : Addr) (cls : Value) (d : Option Addr) (en : Option Nat) (A : List Nat) (sets : List (Nat × U)) (ret : Option U) : TS := fun D σ H => ∃ lk F ρ env sto e, Sr pd mg F H ρ lk σ env [] [] sto ∧ (∀ i, en = some i → σ[i]? = some (some (.ref a))) ∧ ExR pd mg H ρ e cls d ∧
  PoS pd mg (fun _ _ _ _ => True) lk F H ρ A σ (suiteT pd.xs e sets ret env sto) D
theorem sSuite (G : Gs X pd Nm sc cf k W) {a : Addr} {oe : Obj} {cls : Value} {d : Option Addr} {pn : List (Addr × Obj)} (hz : Zc cls d oe) (hf : ∃ vs, oe.data = .fields vs) {en : Option Nat} {A : List Nat} :
    ∀ (sets : List (Nat × U)) (ret : Option U) (ss : List Stmt), chkSuite pd Nm sc en sets ret ss = true → (∀ p ∈ sets, p.1 ∈ A) → PSs (X.suite a ((a, oe) :: pn)) ss (tSu pd X.mg a cls d en A sets ret)
  | [], none, ss, h, hA => by
    have e : ss = [] := by simpa [chkSuite] using h
    subst e
    exact PSs.imp pss_nil fun D σ H hl ⟨lk, F, ρ, env, sto, e, S, hn, xr, q⟩ => q F H ρ σ Fu.refl S Sg.refl
  | [], some u, ss, h, hA => by
    simp only [chkSuite] at h
    split at h
    · rename_i e' h1
      obtain ⟨p, rfl⟩ : ∃ p, ss = [.Return (some e') p] := by
        unfold retE at h1
        split at h1
        · cases h1; exact ⟨_, rfl⟩
        · cases h1
      refine PSs.imp (pss_one (ps_ret (sU G (a := a) (pn := pn) hz hf u e' h))) fun D σ H hl ⟨lk, F, ρ, env, sto, e, S, hn, xr, q⟩ => ?_
      unfold suiteT at q
      cases e1 : uv pd.xs e env u with
      | no => rw [e1] at q; exact q.elim
      | ex z => rw [e1] at q; exact q.elim
      | ok t =>
        rw [e1] at q
        refine ⟨ρ, env, e, t, S.viewE, hn, xr, e1, fun v H1 cl p1 => ?_⟩
        exact q F H1 ρ σ v cl (Fu.grow S.fd p1.ext) (S.push p1 cl) Sg.refl
    · exact absurd h Bool.false_ne_true
  | (i, u) :: r, ret, ss, h, hA => by
    simp only [chkSuite] at h
    split at h
    · rename_i x e' rest h1
      obtain ⟨p, p2, rfl⟩ : ∃ p p2, ss = .Assign [.Name x p] e' p2 :: rest := by
        unfold asgE at h1
        split at h1
        · simp only [Option.some.injEq, Prod.mk.injEq] at h1
          obtain ⟨rfl, rfl, rfl⟩ := h1
          exact ⟨_, _, rfl⟩
        · cases h1
      simp only [Bool.and_eq_true, Bool.not_eq_true', beq_eq_false_iff_ne] at h
      obtain ⟨⟨⟨⟨h2, h3⟩, h4⟩, h5⟩, h6⟩ := h
      obtain ⟨l1, l2, l3, l4⟩ := L_of G h2
      have B := sSuite G (a := a) (pn := pn) hz hf (en := en) (A := A) r ret rest h6 fun p hp => hA p (by simp [hp])
      have A1 : PS (X.suite a ((a, oe) :: pn)) (.Assign [.Name x p] e' p2) (tAsg (tU pd X.mg a cls d en u) (gName i)) := ps_set (X := X.suite a ((a, oe) :: pn)) G.nd l1 l2 (sU G (a := a) (pn := pn) hz hf u e' h5) (plain_sw h3 _ _ _) l3
      refine PSs.imp (pss_cons A1 B) fun D σ H hl ⟨lk, F, ρ, env, sto, e, S, hn, xr, q⟩ => ?_
      unfold suiteT at q
      cases e1 : uv pd.xs e env u with
      | no => rw [e1] at q; exact q.elim
      | ex z => rw [e1] at q; exact q.elim
      | ok t =>
        rw [e1] at q
        refine ⟨ρ, env, e, t, S.viewE, hn, xr, e1, fun v H1 cl p1 => ?_⟩
        have S1 := S.push p1 cl
        have x1 := p1.ext
        have hi : i < env.length := by rw [← S.len]; exact l4 hl
        refine ⟨lk, F, ρ, _, sto, e, S1.store hi, fun j hj => ?_, xr.ext x1, ?_⟩
        · have : i ≠ j := fun z => h4 (by rw [z]; exact hj)
          rw [List.getElem?_set_ne this]
          exact hn j hj
        · exact PoS.fut (B := [i]) (A := A) (C := A) (Fu.grow S.fd x1) Sg.set (fun j hj => by
            have : j = i := by simpa using hj
            rw [this]; exact hA (i, u) (by simp)) (fun _ h => h) q
    · exact absurd h Bool.false_ne_true
theorem suite_form {xs : Nat → Nat → Bool} {e : Exn} {ret : Option U} {sto : List Ob} : ∀ {l : List (Nat × U)} {env : En}, (∃ env', suiteT xs e l ret env sto = .nx env' sto) ∨ (∃ t env', suiteT xs e l ret env sto = .rt t env' sto) ∨ suiteT xs e l ret env sto = .no
  | [], env => by
    cases ret with
    | none => exact .inl ⟨_, rfl⟩
    | some u =>
      unfold suiteT
      cases uv xs e env u with
      | ok t => exact .inr (.inl ⟨_, _, rfl⟩)
      | ex _ => exact .inr (.inr rfl)
      | no => exact .inr (.inr rfl)
  | (i, u) :: r, env => by
    unfold suiteT
    cases uv xs e env u with
    | ok t => exact suite_form (l := r)
    | ex _ => exact .inr (.inr rfl)
    | no => exact .inr (.inr rfl)
/-! ### raise -/
theorem r_raise (G : Gs X pd Nm sc cf k W) {c : Nat} {x m : Str} {j : Nat} {p p2 cpos pos : Pos} (h1 : pd.exs.lookup x = some c) (h2 : glB sc x = true) (h3 : pd.efd c = none) :
    PS X (.Raise (some (.Call (.Name x p) [.Constant (.str m) j p2] [] cpos)) none pos) (tSt pd X.mg W [] fun lk env sto => .ex ⟨c, none⟩ env sto) := by
  obtain ⟨C, k1, k2, k3, k4, k5, k6⟩ := G.xk.cls x c h1
  obtain ⟨hg, hdb⟩ := gl_of G.gd h2
  refine PS.imp (L2.ps_raise G.gd.calm G.gd.tk (pmk_own PySem.F.excBase_ValueError (k6.1 h3) k1 k2 (raises_own k3 k4) hg hdb)) fun D σ H hl ⟨lk, F, ρ, env, sto, S, q⟩ => ?_
  exact q F H ρ σ (.ref C) none Fu.refl S Sg.refl ⟨x, C, h1, k1, rfl, rfl, h3⟩
theorem r_raisef (G : Gs X pd Nm sc cf k W) {c : Nat} {d : E} {x nm : Str} {e : Expr} {p cpos pos : Pos} (h1 : pd.exs.lookup x = some c) (h2 : glB sc x = true) (h3 : pd.efd c = some nm) (h4 : plainX e = true) (h5 : chkE pd Nm sc d e = true) :
    PS X (.Raise (some (.Call (.Name x p) [e] [] cpos)) none pos) (tSt pd X.mg W [] fun lk env sto => ((pv cf env sto d).g env sto).thn fun t env sto => if flat t then .ex ⟨c, some t⟩ env sto else .no) := by
  obtain ⟨C, k1, k2, k3, k4, k5, k6⟩ := G.xk.cls x c h1
  obtain ⟨hg, hdb⟩ := gl_of G.gd h2
  have T := G.xk.ini x c nm C h1 h3 k1
  obtain ⟨fI, fd, N', i1, i2, i3, F⟩ := ini_ok (P := X.prog) (w := X.w) (base := X.base) T
  have A : PA X [e] _ := pa_cons (sE (W := W) G.gd d e h5) pa_nil (plain_star h4)
  refine PS.imp (L2.ps_raise G.gd.calm G.gd.tk (pmk_oex (dvs := []) (ds := []) T.ox i1 i2 F (G.gd.room.mono (by omega)) i3 .nil (fun pins σ H s er s' I h => by obtain ⟨_, _, _, _, _, _, _, _, _, _, _, _, z⟩ := h; exact z.elim) hg k1 A hdb (plain_star h4) rfl)) fun D σ H hl ⟨lk, F', ρ, env, sto, S, q⟩ => ?_
  refine ⟨ρ, env, sto, S.viewE, S.viewS, PoV.of S q fun t H1 v p q1 => ?_⟩
  split at q1
  · rename_i fl
    refine ⟨by simp, fun a na => ⟨a, v, rfl, upd_same, fun dx nd ne => ⟨rfl, dx, [(nm, v)], upd_same, ?_, ?_, ?_⟩⟩⟩
    · rw [upd_ne ne, upd_same]
    · rw [upd_ne ne] at nd; exact nd
    · rw [upd_ne ne] at nd
      have e1 : upd (del (upd (upd (upd H1 a (exo a C none)) dx (exd dx [(nm, v)])) a (exo a C (some dx))) a) dx (.xd [(nm, v)]) = upd H1 dx (.xd [(nm, v)]) := by
        funext b
        by_cases q1 : b = dx
        · rw [q1, upd_same, upd_same]
        · rw [upd_ne q1, upd_ne q1]
          by_cases q2 : b = a
          · rw [q2, del_same, na]
          · rw [del_ne q2, upd_ne q2, upd_ne q1, upd_ne q2]
      rw [e1]
      have x1 : Ext H1 (upd H1 dx (.xd [(nm, v)])) := Ext.upd nd
      have S1 := S.grow p.ext
      exact q1 F' _ ρ σ (.ref C) (some dx) (Fu.grow S1.fd x1) (S1.grow x1) Sg.refl ⟨x, C, h1, k1, rfl, fl, dx, nm, v, rfl, h3, upd_same, Sn.ext x1 Pre.refl t v p.sn⟩
  · exact q1.elim
/-! ### try -/
theorem s_hds (G : Gs X pd Nm sc cf k W) {A : List Nat} : ∀ (hs : Hs) (hds : List ExceptHandler), chkHs pd Nm sc hs hds = true → (∀ j ∈ asgH hs, j ∈ A) → ∃ l, HdsMix X hds l ∧ ∀ e env sto lk F H ρ σ D cls d, σ.length = X.N.length → Sr pd X.mg F H ρ lk σ env [] [] sto → ExR pd X.mg H ρ e cls d →
    PoS pd X.mg W lk F H ρ A σ (hdl N cf pd.xs lk e hs env sto) D → wMix X.K W D l cls d σ H
  | .nil, hds, h, hA => by
    cases hds with
    | cons _ _ => simp only [chkHs, Bool.false_eq_true] at h
    | nil => exact ⟨[], .nil, fun e env sto lk F H ρ σ D cls d hl S xr q => q F H ρ σ cls d Fu.refl S Sg.refl xr⟩
  | .cons c nm sets ret hs, hds, h, hA => by
    unfold chkHs at h
    split at h
    · rename_i z; cases z
    · rename_i c' nm' sets' ret' hs' x np n ss pos' hds' h1
      cases h1
      simp only [Bool.and_eq_true, beq_iff_eq] at h
      obtain ⟨⟨⟨⟨⟨h1, h2⟩, h3⟩, h4⟩, h5⟩, h6⟩ := h
      obtain ⟨C, k1, k2, k3, k4, k5, k6⟩ := G.xk.cls x c h1
      obtain ⟨hg, hdb⟩ := gl_of G.gd h2
      obtain ⟨l, M, w⟩ := s_hds G (A := A) hs hds' h6 fun j hj => hA j (by simp [asgH, hj])
      have hc : Names X x (.ref C) := ⟨hg, hdb, .inl k1⟩
      have hset : ∀ p ∈ sets, p.1 ∈ A := fun p hp => hA p.1 (by
        simp only [asgH, List.mem_append, List.mem_map]
        exact .inl (.inr ⟨p, hp, rfl⟩))
      obtain ⟨b₀, suite, rfl⟩ : ∃ b r, ss = b :: r := by
        cases ss with
        | nil => simp [nonE] at h4
        | cons b r => exact ⟨b, r, rfl⟩
      have su := fun (a : Addr) (oe : Obj) (cls : Value) (d : Option Addr) (pn : List (Addr × Obj)) (hz : Zc cls d oe) (hf : ∃ vs, oe.data = .fields vs) => sSuite G (a := a) (pn := pn) hz hf (en := nm) (A := A) sets ret (b₀ :: suite) h5 hset
      have exm : ∀ {e H ρ cls d}, ExR pd X.mg H ρ e cls d → PySem.W.exmOne X.K cls (.ref C) = some (pd.xs e.cls c) := fun {e H ρ cls d} ⟨y, D, e1, e2, e3, _⟩ => by
        subst e3
        exact PySem.W.exm_ref k3 k5 k4 (G.xk.sub y e.cls x c D C e1 h1 e2 k1).1
      cases nm with
      | none =>
        cases n with
        | some _ => simp [chkNm] at h3
        | none =>
          refine ⟨⟨.ref C, none, fun a cls d => tSu pd X.mg a cls d none A sets ret⟩ :: l, .cons hc su M, fun e env sto lk F H ρ σ D cls d hl S xr q => ⟨_, exm xr, fun hb a na => ?_, fun hb => ?_⟩⟩
          · unfold hdl at q
            rw [if_pos hb] at q
            refine ⟨lk, F, ρ, env, sto, e, S, (fun i z => by cases z), xr, ?_⟩
            have q' : PoS pd X.mg W lk F H ρ A σ ((suiteT pd.xs e sets ret env sto).un none) D := q
            show PoS pd X.mg _ lk F H ρ A σ (suiteT pd.xs e sets ret env sto) D
            rcases suite_form (xs := pd.xs) (e := e) (ret := ret) (sto := sto) (l := sets) (env := env) with ⟨env', z⟩ | ⟨t, env', z⟩ | z
            · rw [z] at q' ⊢; exact q'
            · rw [z] at q' ⊢; exact q'
            · rw [z] at q' ⊢; exact q'
          · unfold hdl at q
            have hb' : ¬ pd.xs e.cls c = true := by rw [hb]; exact Bool.false_ne_true
            rw [if_neg hb'] at q
            exact w e env sto lk F H ρ σ D cls d hl S xr q
      | some i =>
        cases n with
        | none => simp [chkNm] at h3
        | some n =>
          have hL : chkLs Nm sc i n = true := by simpa [chkNm] using h3
          obtain ⟨l1, l2, l3, l4⟩ := L_ofS G hL
          have iA : i ∈ A := hA i (by simp [asgH])
          refine ⟨⟨.ref C, some i, fun a cls d => tSu pd X.mg a cls d (some i) A sets ret⟩ :: l, .named hc l1 l3 su M, fun e env sto lk F H ρ σ D cls d hl S xr q => ⟨_, exm xr, fun hb a na => ?_, fun hb => ?_⟩⟩
          · unfold hdl at q
            rw [if_pos hb] at q
            have hiσ : i < σ.length := l4 hl
            have sub1 : ∀ j ∈ [i], j ∈ A := fun j hj => by
              have : j = i := by simpa using hj
              rw [this]; exact iA
            · refine ⟨lk, F, ρ, env.set i none, sto, e, S.forget i (some (.ref a)), fun j hj => ?_, xr, ?_⟩
              · obtain rfl : i = j := Option.some.inj hj
                show (σ.set i (some (.ref a)))[i]? = _
                rw [List.getElem?_set_self hiσ]
              · have q' : PoS pd X.mg W lk F H ρ A σ ((suiteT pd.xs e sets ret (env.set i none) sto).un (some i)) D := q
                show PoS pd X.mg _ lk F H ρ A (σ.set i (some (.ref a))) (suiteT pd.xs e sets ret (env.set i none) sto) _
                have sg1 : Sg [i] σ (σ.set i (some (.ref a))) := Sg.set
                rcases suite_form (xs := pd.xs) (e := e) (ret := ret) (sto := sto) (l := sets) (env := env.set i none) with ⟨env', z⟩ | ⟨t, env', z⟩ | z
                · rw [z] at q' ⊢
                  exact fun F' H' ρ' σ' fu S' sg => q' F' H' ρ' (σ'.set i none) fu (S'.forget i none) ((sg1.trans sg sub1 (fun _ h => h) : Sg A σ σ').trans Sg.set (fun _ h => h) sub1)
                · rw [z] at q' ⊢
                  exact fun F' H' ρ' σ' v ct fu S' sg => q' F' H' ρ' σ' v ct fu S' (sg1.trans sg sub1 fun _ h => h)
                · rw [z] at q' ⊢; exact q'
          · unfold hdl at q
            have hb' : ¬ pd.xs e.cls c = true := by rw [hb]; exact Bool.false_ne_true
            rw [if_neg hb'] at q
            exact w e env sto lk F H ρ σ D cls d hl S xr q
    · exact absurd h Bool.false_ne_true
end
end Tr
/-! TrSs: the statements are sound. -/
namespace Tr
open PySem PySem.Spec PyProof.Rows L2
section
variable (pd : Pd) (Nm : List Str) (sc : Scope)
def notTup : Expr → Bool
  | .Tuple _ _ _ => false
  | e => plainX e
def chkSet (i : Nat) (c : C) (st : Stmt) : Bool := match c, st with
  | .p (.var j), .Assign [.Name x _] (.Name y _) _ => chkL Nm sc i x && chkN Nm sc j y
  | .p (.var _), _ => false
  | .p (.lc v it tst elt), .Assign [.Name x px] e _ => chkLs Nm sc i x && chkLcA sc x px e && chkE pd Nm sc (.lc v it tst elt) e
  | .p (.lcr v lo hi tst elt), .Assign [.Name x px] e _ => chkLs Nm sc i x && chkLcA sc x px e && chkE pd Nm sc (.lcr v lo hi tst elt) e
  | c, .Assign [.Name x _] e _ => chkL Nm sc i x && plainX e && chkC pd Nm sc c e
  | _, _ => false
def chkIx (i : Nat) (k d : E) (st : Stmt) : Bool := match st with
  | .Assign [.Subscript (.Name x _) y _] e _ => chkN Nm sc i x && plainX y && plainX e && chkE pd Nm sc d e && chkE pd Nm sc k y
  | _ => false
def chkSl (i : Nat) (lo hi : OE) (d : E) (st : Stmt) : Bool := match st with
  | .Assign [.Subscript (.Name x _) (.Slice l h none _) _] e _ => chkN Nm sc i x && plainX e && chkE pd Nm sc d e && chkO pd Nm sc lo l && chkO pd Nm sc hi h
  | _ => false
def chkApp (i : Nat) (d : E) (st : Stmt) : Bool := match st with
  | .Expr (.Call (.Attribute (.Name x _) m apos) [e] [] cpos) _ => m == ("append" : Str) && chkN Nm sc i x && plainX e && chkE pd Nm sc d e && (apos.endLine == cpos.line)
  | _ => false
def chkSetf (a : E) (n : Nat) (c : C) (st : Stmt) : Bool := match st with
  | .Assign [.Attribute o m _] e _ => m == fldN n && pd.fl.contains n && rcvX o && plainA e && chkE pd Nm sc a o && chkC pd Nm sc c e
  | _ => false
def chkSfix (a : E) (n : Nat) (k d : E) (st : Stmt) : Bool := match st with
  | .Assign [.Subscript (.Attribute o m _) y _] e _ => m == fldN n && pd.fl.contains n && decide (n < 18) && rcvX o && plainX y && plainX e && chkE pd Nm sc a o && chkE pd Nm sc k y && chkE pd Nm sc d e
  | _ => false
def chkAppf (a : E) (n : Nat) (d : E) (st : Stmt) : Bool := match st with
  | .Expr (.Call (.Attribute (.Attribute o m _) ap apos) [e] [] cpos) _ => ap == ("append" : Str) && m == fldN n && pd.fl.contains n && decide (n < 18) && rcvX o && plainX e && chkE pd Nm sc a o && chkE pd Nm sc d e && (apos.endLine == cpos.line)
  | _ => false
def chkUnp (is : List Nat) (c : C) (st : Stmt) : Bool := match st with
  | .Assign [.Tuple es _ _] e _ => chkU Nm sc is es && notTup e && chkC pd Nm sc c e
  | _ => false
def forH (st : Stmt) : Option (Str × Expr × List Stmt) := match st with
  | .For (.Name x _) it ss [] _ => some (x, it, ss)
  | _ => none
def fotH (st : Stmt) : Option (List Expr × Expr × List Stmt) := match st with
  | .For (.Tuple es _ _) it ss [] _ => some (es, it, ss)
  | _ => none
theorem fotH_inv {st : Stmt} {es it ss} (h : fotH st = some (es, it, ss)) : ∃ kk p pos, st = .For (.Tuple es kk p) it ss [] pos := by
  unfold fotH at h
  split at h
  · simp only [Option.some.injEq, Prod.mk.injEq] at h
    obtain ⟨rfl, rfl, rfl⟩ := h
    exact ⟨_, _, _, rfl⟩
  · cases h
def chkFtv (is : List Nat) (j : Nat) (b : Ss) (es : List Expr) (it : Expr) : Bool := match it with
  | .Name y _ => chkU Nm sc is es && chkN Nm sc j y && !(tchSs b).contains j && !(asgSs b).contains j && !is.contains j
  | _ => false
def chkFs (i : Nat) (lo hi st : E) (x : Str) (it : Expr) : Bool := match it with
  | .Call (.Name r _) [e0, e1, e2] [] _ => chkL Nm sc i x && r == ("range" : Str) && glB sc r && plainX e0 && plainX e1 && plainX e2 && chkE pd Nm sc lo e0 && chkE pd Nm sc hi e1 && chkE pd Nm sc st e2
  | _ => false
def chkDset (i : Nat) (k d : E) (st : Stmt) : Bool := match st with
  | .Assign [.Subscript (.Name x _) y _] e _ => chkN Nm sc i x && plainX y && plainX e && chkE pd Nm sc d e && chkE pd Nm sc k y
  | _ => false
def chkDsd (i : Nat) (k d : E) (st : Stmt) : Bool := match st with
  | .Expr (.Call (.Attribute (.Name x _) m apos) [y, e] [] cpos) _ => m == ("setdefault" : Str) && chkN Nm sc i x && plainX y && plainX e && chkE pd Nm sc d e && chkE pd Nm sc k y && (apos.endLine == cpos.line)
  | _ => false
def chkClr (i : Nat) (st : Stmt) : Bool := match st with
  | .Expr (.Call (.Attribute (.Name x _) m apos) [] [] cpos) _ => m == ("clear" : Str) && chkN Nm sc i x && (apos.endLine == cpos.line)
  | _ => false
def chkClrd (i : Nat) (st : Stmt) : Bool := match st with
  | .Expr (.Call (.Attribute (.Name x _) m apos) [] [] cpos) _ => m == ("clear" : Str) && chkN Nm sc i x && (apos.endLine == cpos.line)
  | _ => false
def chkFk (i j : Nat) (x : Str) (it : Expr) : Bool := match it with
  | .Name y _ => chkL Nm sc i x && chkN Nm sc j y
  | _ => false
def chkClr1 (i : Nat) (st : Stmt) : Bool := match st with
  | .Expr (.Call (.Attribute (.Subscript (.Name x _) (.Constant (.int j) _ _) _) m apos) [] [] cpos) _ => m == ("clear" : Str) && decide (j = 1) && chkN Nm sc i x && (apos.endLine == cpos.line)
  | _ => false
def chkFv (i j : Nat) (b : Ss) (x : Str) (it : Expr) : Bool := match it with
  | .Name y _ => chkL Nm sc i x && chkN Nm sc j y && !(tchSs b).contains j && !(asgSs b).contains j && !(i == j)
  | _ => false
def chkFr (i : Nat) (lo hi : E) (x : Str) (it : Expr) : Bool := match it with
  | .Call (.Name r _) args [] _ => chkL Nm sc i x && r == ("range" : Str) && glB sc r && (match args with
    | [e] => plainX e && chkE pd Nm sc hi e && (match lo with | .int j => j == 0 | _ => false)
    | [e0, e] => plainX e0 && plainX e && chkE pd Nm sc lo e0 && chkE pd Nm sc hi e
    | _ => false)
  | _ => false
def chkRaise (c : Nat) (a : OE) (st : Stmt) : Bool := match a, st with
  | .none, .Raise (some (.Call (.Name x _) [.Constant (.str _) _ _] [] _)) none _ => pd.exs.lookup x == some c && glB sc x && (pd.efd c).isNone
  | .some d, .Raise (some (.Call (.Name x _) [e] [] _)) none _ => pd.exs.lookup x == some c && glB sc x && (pd.efd c).isSome && plainX e && chkE pd Nm sc d e
  | _, _ => false
def tryH (st : Stmt) : Option (List Stmt × List ExceptHandler) := match st with
  | .Try body (h :: hds) [] [] _ => some (body, h :: hds)
  | _ => none
mutual
def chkS : S → Stmt → Bool
  | .pass, .Pass _ => true
  | .pass, .Expr (.Constant (.str _) _ _) _ => true
  | .nev, _ => true
  | .set i c, st => chkSet pd Nm sc i c st
  | .mov i j, .Assign [.Name x _] e _ => chkL Nm sc i x && plainX e && chkE pd Nm sc (.var j) e
  | .setix i k d, st => chkIx pd Nm sc i k d st
  | .setsl i lo hi d, st => chkSl pd Nm sc i lo hi d st
  | .app i d, st => chkApp pd Nm sc i d st
  | .setf a n c, st => chkSetf pd Nm sc a n c st
  | .setfix a n k d, st => chkSfix pd Nm sc a n k d st
  | .appf a n d, st => chkAppf pd Nm sc a n d st
  | .unp is c, st => chkUnp pd Nm sc is c st
  | .expr c, .Expr e _ => plainX e && chkC pd Nm sc c e
  | .ret c, .Return (some e) _ => chkC pd Nm sc c e
  | .retn, .Return none _ => true
  | .ife t a b, .If e x y _ => tstX e && chkC pd Nm sc t e && chkSs a x && chkSs b y
  | .whl t b, .While e x [] _ => tstX e && chkE pd Nm sc t e && chkSs b x
  | .forv i j b, st => match forH st with
    | some (x, it, ss) => chkFv Nm sc i j b x it && chkSs b ss
    | none => false
  | .forr i lo hi b, st => match forH st with
    | some (x, it, ss) => chkFr pd Nm sc i lo hi x it && chkSs b ss
    | none => false
  | .fore i d b, st => match forH st with
    | some (x, it, ss) => chkL Nm sc i x && plainX it && chkE pd Nm sc d it && chkSs b ss
    | none => false
  | .fort is d b, st => match fotH st with
    | some (es, it, ss) => chkU Nm sc is es && plainX it && chkE pd Nm sc d it && chkSs b ss
    | none => false
  | .fortv is j b, st => match fotH st with
    | some (es, it, ss) => chkFtv Nm sc is j b es it && chkSs b ss
    | none => false
  | .fors i lo hi c b, st => match forH st with
    | some (x, it, ss) => chkFs pd Nm sc i lo hi c x it && chkSs b ss
    | none => false
  | .clr i, st => chkClr Nm sc i st
  | .clr1 i, st => chkClr1 Nm sc i st
  | .clrd i, st => chkClrd Nm sc i st
  | .fork i j b, st => match forH st with
    | some (x, it, ss) => chkFk Nm sc i j x it && chkSs b ss
    | none => false
  | .dset i k d, st => chkDset pd Nm sc i k d st
  | .dsd i k d, st => chkDsd pd Nm sc i k d st
  | .raise c a, st => chkRaise pd Nm sc c a st
  | .tryx b hs, st => match tryH st with
    | some (ss, hds) => chkSs b ss && chkHs pd Nm sc hs hds
    | none => false
  | .brk, .Break _ => true
  | .cnt, .Continue _ => true
  | _, _ => false
def chkSs : Ss → List Stmt → Bool
  | .nil, [] => true
  | .cons s ss, st :: sts => chkS s st && chkSs ss sts
  | _, _ => false
end
end
section
variable {pd : Pd} {Nm : List Str} {sc : Scope} {cf : CF} {k : Nat} {W : WX} {X : Cx} {N : Nat}
theorem r_forr2 (G : Gs X pd Nm sc cf k W) {i : Nat} {x : Str} {p pr cpos pos : Pos} {dl dh : E} {e0 e : Expr} {bs : List Stmt} {B : List Nat} {rb : Bool → En → List Ob → SR} (hL : chkL Nm sc i x = true) (hg : glB sc ("range" : Str) = true) (h0 : plainX e0 = true) (h1 : plainX e = true)
    (A0 : chkE pd Nm sc dl e0 = true) (A1 : chkE pd Nm sc dh e = true) (PB_ : PSs X bs (tSt pd X.mg W B rb)) :
    PS X (.For (.Name x p) (.Call (.Name ("range" : Str) pr) [e0, e] [] cpos) bs [] pos) (tSt pd X.mg W (i :: B) fun lk env sto => ((pv cf env sto dl).g env sto).thn fun x env sto => ((pv cf env sto dh).g env sto).thn fun y env sto => match x, y with
    | .int l, .int h => if -(2 ^ 62) ≤ l ∧ l < 2 ^ 62 ∧ -(2 ^ 62) ≤ h ∧ h < 2 ^ 62 then loopR (rb lk) i (h - l).toNat l env sto else .no
    | _, _ => .no) := by
  obtain ⟨l1, l2, l3, l4⟩ := L_of G hL
  obtain ⟨gg, _⟩ := gl_of G.gd hg
  have hm := G.gd.blt ("range" : Str) (by simp [bltNames])
  have st1 := plain_star (xs := [e]) (env := X.env) h0
  have st2 := plain_star (xs := []) (env := X.env) h1
  refine PS.imp (ps_for G.po G.gd.calm (pi_range2 gg hm (pa_cons (sE G.gd dl e0 A0) (pa_cons (sE G.gd dh e A1) pa_nil st2) st1) (st1.trans (by rw [st2]; rfl)) st2) (pg_name G.nd l1 l2 l3) PB_ fun _ => rfl) fun D σ H hl ⟨lk, F, ρ, env, sto, S, q⟩ => ?_
  refine ⟨ρ, env, sto, S.viewE, S.viewS, PoV.of S q fun t H1 v p1 q1 => ?_⟩
  have S1 := S.grow p1.ext
  refine ⟨ρ, env, sto, S1.viewE, S1.viewS, PoV.of S1 q1 fun u H2 w p2 q2 => ?_⟩
  have S2 := S1.grow p2.ext
  split at q2
  · split at q2
    · rename_i l h hb
      have e1 := sn_int p1.sn
      have e2 := sn_int p2.sn
      subst e1; subst e2
      exact ⟨l, h, rfl, hb, r_rng G (l4 hl) S2 q2⟩
    · exact q2.elim
  · exact q2.elim
theorem r_forr1 (G : Gs X pd Nm sc cf k W) {i : Nat} {x : Str} {p pr cpos pos : Pos} {dh : E} {e : Expr} {bs : List Stmt} {B : List Nat} {rb : Bool → En → List Ob → SR} (hL : chkL Nm sc i x = true) (hg : glB sc ("range" : Str) = true) (h1 : plainX e = true)
    (A1 : chkE pd Nm sc dh e = true) (PB_ : PSs X bs (tSt pd X.mg W B rb)) :
    PS X (.For (.Name x p) (.Call (.Name ("range" : Str) pr) [e] [] cpos) bs [] pos) (tSt pd X.mg W (i :: B) fun lk env sto => ((pv cf env sto (.int 0)).g env sto).thn fun x env sto => ((pv cf env sto dh).g env sto).thn fun y env sto => match x, y with
    | .int l, .int h => if -(2 ^ 62) ≤ l ∧ l < 2 ^ 62 ∧ -(2 ^ 62) ≤ h ∧ h < 2 ^ 62 then loopR (rb lk) i (h - l).toNat l env sto else .no
    | _, _ => .no) := by
  obtain ⟨l1, l2, l3, l4⟩ := L_of G hL
  obtain ⟨gg, _⟩ := gl_of G.gd hg
  have hm := G.gd.blt ("range" : Str) (by simp [bltNames])
  have st2 := plain_star (xs := []) (env := X.env) h1
  refine PS.imp (ps_for G.po G.gd.calm (pi_range1 gg hm (pa_cons (sE G.gd dh e A1) pa_nil st2) st2) (pg_name G.nd l1 l2 l3) PB_ fun _ => rfl) fun D σ H hl ⟨lk, F, ρ, env, sto, S, q⟩ => ?_
  have q' : PoS pd X.mg W lk F H ρ (i :: B) σ (((pv cf env sto dh).g env sto).thn fun y env sto => match T.int 0, y with
    | .int l, .int h => if -(2 ^ 62) ≤ l ∧ l < 2 ^ 62 ∧ -(2 ^ 62) ≤ h ∧ h < 2 ^ 62 then loopR (rb lk) i (h - l).toNat l env sto else .no
    | _, _ => .no) D := q
  refine ⟨ρ, env, sto, S.viewE, S.viewS, PoV.of S q' fun u H2 w p2 q2 => ?_⟩
  have S2 := S.grow p2.ext
  cases u <;> first | exact q2.elim | skip
  rename_i h
  dsimp only at q2
  split at q2
  · rename_i hb
    have e2 := sn_int p2.sn
    subst e2
    exact ⟨h, rfl, hb.2.2.1, hb.2.2.2, r_rng (lo := 0) (n := h.toNat) G (l4 hl) S2 (by simpa using q2)⟩
  · exact q2.elim
theorem r_unp (G : Gs X pd Nm sc cf k W) {is : List Nat} {es : List Expr} {kk : Nat} {tp pos : Pos} {e : Expr} {g : Bool → En → List Ob → GR T} (hU : chkU Nm sc is es = true) (hp : notTup e = true) (A : PE X e (tGv pd X.mg W g)) :
    PS X (.Assign [.Tuple es kk tp] e pos) (tSt pd X.mg W is fun lk env sto => (g lk env sto).thn fun t env sto => match t with
    | .tup ts => match unpack is ts env with
      | some env => .nx env sto
      | none => .no
    | _ => .no) := by
  obtain ⟨a, b, c, d⟩ := pgs_names G hU
  refine PS.imp (ps_asg A (pg_tup G.gd.calm a b c) (by cases e <;> simp only [notTup, plainX, Bool.false_eq_true] at hp <;> rfl) (by cases e <;> simp only [notTup, plainX, Bool.false_eq_true] at hp <;> rfl)) fun D σ H hl ⟨lk, F, ρ, env, sto, S, q⟩ => ?_
  refine ⟨lk, F, ρ, env, [], [], sto, S, PoG.of q fun t env1 sto1 F1 H1 ρ1 v c f S1 q1 => ?_⟩
  split at q1
  · rename_i ts
    split at q1
    · rename_i env2 e2
      obtain ⟨a, vs, rfl, ha, hv, S2⟩ := S1.untup
      refine ⟨a, vs, rfl, .inl (.inl ha), by rw [hv, unpack_len e2], ?_⟩
      refine unp_go (ts := ts) (by simpa using S2) hv (fun i hi => by rw [hl]; exact d i hi) e2 fun σ' S' sg => q1 F1 H1 ρ1 σ' Fu.refl S' sg
    · exact q1.elim
  · exact q1.elim
theorem forH_inv {st : Stmt} {x it ss} (h : forH st = some (x, it, ss)) : ∃ p pos, st = .For (.Name x p) it ss [] pos := by
  unfold forH at h
  split at h
  · simp only [Option.some.injEq, Prod.mk.injEq] at h
    obtain ⟨rfl, rfl, rfl⟩ := h
    exact ⟨_, _, rfl⟩
  · cases h
theorem s_set (G : Gs X pd Nm sc cf k W) {i : Nat} {c : C} {st : Stmt} (h : chkSet pd Nm sc i c st = true) : PS X st (tSt pd X.mg W [i] fun lk env sto => ex N cf pd.xs lk (.set i c) env sto) := by
  unfold chkSet at h
  split at h
  · simp only [Bool.and_eq_true] at h
    exact r_alias G h.1 h.2
  · exact absurd h Bool.false_ne_true
  · simp only [Bool.and_eq_true] at h
    exact r_setLc G h.1.1 h.1.2 (sLc G.gd h.2) fun _ _ => rfl
  · simp only [Bool.and_eq_true] at h
    exact r_setLc G h.1.1 h.1.2 (sLcr G.gd h.2) fun _ _ => rfl
  · rename_i x p e pos hn0 hn hl1 hl2
    simp only [Bool.and_eq_true] at h
    have hx : ∀ lk env sto, ex N cf pd.xs lk (.set i c) env sto = (gv cf lk c env sto).thn fun t env sto => .nx (env.set i (some t)) sto := by
      intro lk env sto
      cases c with
      | p d =>
        cases d with
        | var j => exact (hn j rfl).elim
        | _ => rfl
      | _ => rfl
    have := r_set G (pos := pos) (p := p) h.1.1 h.1.2 (sV G.gd c e h.2)
    simp only [hx]
    exact this
  · exact absurd h Bool.false_ne_true
theorem s_ix (G : Gs X pd Nm sc cf k W) {i : Nat} {ik d : E} {st : Stmt} (h : chkIx pd Nm sc i ik d st = true) : PS X st (tSt pd X.mg W [] fun lk env sto => ex N cf pd.xs lk (.setix i ik d) env sto) := by
  unfold chkIx at h
  split at h
  · simp only [Bool.and_eq_true] at h
    exact r_setix G h.1.1.1.1 h.1.1.1.2 h.1.1.2 h.1.2 h.2
  · exact absurd h Bool.false_ne_true
theorem s_sl (G : Gs X pd Nm sc cf k W) {i : Nat} {lo hi : OE} {d : E} {st : Stmt} (h : chkSl pd Nm sc i lo hi d st = true) : PS X st (tSt pd X.mg W [] fun lk env sto => ex N cf pd.xs lk (.setsl i lo hi d) env sto) := by
  unfold chkSl at h
  split at h
  · simp only [Bool.and_eq_true] at h
    exact r_setsl G h.1.1.1.1 h.1.1.1.2 h.1.1.2 h.1.2 h.2
  · exact absurd h Bool.false_ne_true
theorem s_app (G : Gs X pd Nm sc cf k W) {i : Nat} {d : E} {st : Stmt} (h : chkApp pd Nm sc i d st = true) : PS X st (tSt pd X.mg W [] fun lk env sto => ex N cf pd.xs lk (.app i d) env sto) := by
  unfold chkApp at h
  split at h
  · simp only [Bool.and_eq_true, beq_iff_eq] at h
    obtain ⟨⟨⟨⟨rfl, h1⟩, h2⟩, h3⟩, h4⟩ := h
    exact r_app G h1 h2 h3 (by simpa using h4)
  · exact absurd h Bool.false_ne_true
theorem s_setf (G : Gs X pd Nm sc cf k W) {a : E} {n : Nat} {c : C} {st : Stmt} (h : chkSetf pd Nm sc a n c st = true) : PS X st (tSt pd X.mg W [] fun lk env sto => ex N cf pd.xs lk (.setf a n c) env sto) := by
  unfold chkSetf at h
  split at h
  · simp only [Bool.and_eq_true, beq_iff_eq, List.contains_eq_mem, decide_eq_true_eq] at h
    obtain ⟨⟨⟨⟨⟨rfl, h1⟩, h2⟩, h3⟩, h4⟩, h5⟩ := h
    exact r_setf G h1 h2 h3 h4 h5
  · exact absurd h Bool.false_ne_true
theorem s_sfix (G : Gs X pd Nm sc cf k W) {a : E} {n : Nat} {ik d : E} {st : Stmt} (h : chkSfix pd Nm sc a n ik d st = true) : PS X st (tSt pd X.mg W [] fun lk env sto => ex N cf pd.xs lk (.setfix a n ik d) env sto) := by
  unfold chkSfix at h
  split at h
  · simp only [Bool.and_eq_true, beq_iff_eq, List.contains_eq_mem, decide_eq_true_eq] at h
    obtain ⟨⟨⟨⟨⟨⟨⟨⟨rfl, h1⟩, h2⟩, h3⟩, h4⟩, h5⟩, h6⟩, h7⟩, h8⟩ := h
    exact r_setfix G h1 h2 h3 h4 h5 h6 h7 h8
  · exact absurd h Bool.false_ne_true
theorem s_appf (G : Gs X pd Nm sc cf k W) {a : E} {n : Nat} {d : E} {st : Stmt} (h : chkAppf pd Nm sc a n d st = true) : PS X st (tSt pd X.mg W [] fun lk env sto => ex N cf pd.xs lk (.appf a n d) env sto) := by
  unfold chkAppf at h
  split at h
  · simp only [Bool.and_eq_true, beq_iff_eq, List.contains_eq_mem, decide_eq_true_eq] at h
    obtain ⟨⟨⟨⟨⟨⟨⟨⟨rfl, rfl⟩, h1⟩, h2⟩, h3⟩, h4⟩, h5⟩, h6⟩, h7⟩ := h
    exact r_appf G h1 h2 h3 h4 h5 h6 (by simpa using h7)
  · exact absurd h Bool.false_ne_true
theorem s_unp (G : Gs X pd Nm sc cf k W) {is : List Nat} {c : C} {st : Stmt} (h : chkUnp pd Nm sc is c st = true) : PS X st (tSt pd X.mg W is fun lk env sto => ex N cf pd.xs lk (.unp is c) env sto) := by
  unfold chkUnp at h
  split at h
  · simp only [Bool.and_eq_true] at h
    exact r_unp G h.1.1 h.1.2 (sV G.gd c _ h.2)
  · exact absurd h Bool.false_ne_true
theorem s_fr (G : Gs X pd Nm sc cf k W) {i : Nat} {lo hi : E} {x : Str} {it : Expr} {p pos : Pos} {ss : List Stmt} {b : Ss} (h : chkFr pd Nm sc i lo hi x it = true) (B : PSs X ss (tSt pd X.mg W (asgSs b) fun lk env sto => exs N cf pd.xs lk b env sto)) :
    PS X (.For (.Name x p) it ss [] pos) (tSt pd X.mg W (i :: asgSs b) fun lk env sto => ex N cf pd.xs lk (.forr i lo hi b) env sto) := by
  unfold chkFr at h
  split at h
  · simp only [Bool.and_eq_true, beq_iff_eq] at h
    obtain ⟨⟨⟨h1, rfl⟩, h2⟩, h3⟩ := h
    split at h3
    · simp only [Bool.and_eq_true] at h3
      obtain ⟨⟨h4, h5⟩, h6⟩ := h3
      split at h6
      · rename_i j
        have : j = 0 := by simpa using h6
        subst this
        exact r_forr1 G (rb := fun lk env sto => exs N cf pd.xs lk b env sto) h1 h2 h4 h5 B
      · exact absurd h6 Bool.false_ne_true
    · simp only [Bool.and_eq_true] at h3
      exact r_forr2 G (rb := fun lk env sto => exs N cf pd.xs lk b env sto) h1 h2 h3.1.1.1 h3.1.1.2 h3.1.2 h3.2 B
    · exact absurd h3 Bool.false_ne_true
  · exact absurd h Bool.false_ne_true
theorem s_fv (G : Gs X pd Nm sc cf k W) {i j : Nat} {x : Str} {it : Expr} {p pos : Pos} {ss : List Stmt} {b : Ss} (h : chkFv Nm sc i j b x it = true) (B : PSs X ss (tSt pd X.mg W (asgSs b) fun lk env sto => exs N cf pd.xs lk b env sto)) :
    PS X (.For (.Name x p) it ss [] pos) (tSt pd X.mg W (i :: asgSs b) fun lk env sto => ex N cf pd.xs lk (.forv i j b) env sto) := by
  unfold chkFv at h
  split at h
  · simp only [Bool.and_eq_true, Bool.not_eq_true', List.contains_eq_mem, decide_eq_false_iff_not, beq_eq_false_iff_ne] at h
    obtain ⟨⟨⟨⟨h1, h2⟩, h3⟩, h4⟩, h5⟩ := h
    exact r_forv G (rb := fun lk env sto => exs N cf pd.xs lk b env sto) h1 h2 h4 h5 (fun lk env sto => exs_kp b env sto h3) B
  · exact absurd h Bool.false_ne_true
theorem s_ftv (G : Gs X pd Nm sc cf k W) {is : List Nat} {j : Nat} {es : List Expr} {kk : Nat} {it : Expr} {p pos : Pos} {ss : List Stmt} {b : Ss} (h : chkFtv Nm sc is j b es it = true) (B : PSs X ss (tSt pd X.mg W (asgSs b) fun lk env sto => exs N cf pd.xs lk b env sto)) :
    PS X (.For (.Tuple es kk p) it ss [] pos) (tSt pd X.mg W (is ++ asgSs b) fun lk env sto => ex N cf pd.xs lk (.fortv is j b) env sto) := by
  unfold chkFtv at h
  split at h
  · simp only [Bool.and_eq_true, Bool.not_eq_true', List.contains_eq_mem, decide_eq_false_iff_not] at h
    obtain ⟨⟨⟨⟨h1, h2⟩, h3⟩, h4⟩, h5⟩ := h
    exact r_fortv G (rb := fun lk env sto => exs N cf pd.xs lk b env sto) h1 h2 h4 h5 (fun lk env sto => exs_kp b env sto h3) B
  · exact absurd h Bool.false_ne_true
theorem s_fs (G : Gs X pd Nm sc cf k W) {i : Nat} {lo hi c : E} {x : Str} {it : Expr} {p pos : Pos} {ss : List Stmt} {b : Ss} (h : chkFs pd Nm sc i lo hi c x it = true) (B : PSs X ss (tSt pd X.mg W (asgSs b) fun lk env sto => exs N cf pd.xs lk b env sto)) :
    PS X (.For (.Name x p) it ss [] pos) (tSt pd X.mg W (i :: asgSs b) fun lk env sto => ex N cf pd.xs lk (.fors i lo hi c b) env sto) := by
  unfold chkFs at h
  split at h
  · simp only [Bool.and_eq_true, beq_iff_eq] at h
    obtain ⟨⟨⟨⟨⟨⟨⟨⟨h1, rfl⟩, h2⟩, h3⟩, h4⟩, h5⟩, h6⟩, h7⟩, h8⟩ := h
    exact r_fors G (rb := fun lk env sto => exs N cf pd.xs lk b env sto) h1 h2 h3 h4 h5 h6 h7 h8 B
  · exact absurd h Bool.false_ne_true
theorem s_clr (G : Gs X pd Nm sc cf k W) {i : Nat} {st : Stmt} (h : chkClr Nm sc i st = true) : PS X st (tSt pd X.mg W [] fun lk env sto => ex N cf pd.xs lk (.clr i) env sto) := by
  unfold chkClr at h
  split at h
  · simp only [Bool.and_eq_true, beq_iff_eq] at h
    obtain ⟨⟨rfl, h1⟩, h2⟩ := h
    exact r_clr G h1 (by simpa using h2)
  · exact absurd h Bool.false_ne_true
theorem s_clrd (G : Gs X pd Nm sc cf k W) {i : Nat} {st : Stmt} (h : chkClrd Nm sc i st = true) : PS X st (tSt pd X.mg W [] fun lk env sto => ex N cf pd.xs lk (.clrd i) env sto) := by
  unfold chkClrd at h
  split at h
  · simp only [Bool.and_eq_true, beq_iff_eq] at h
    obtain ⟨⟨rfl, h1⟩, h2⟩ := h
    exact r_clrd G h1 (by simpa using h2)
  · exact absurd h Bool.false_ne_true
theorem s_fk (G : Gs X pd Nm sc cf k W) {i j : Nat} {x : Str} {it : Expr} {p pos : Pos} {ss : List Stmt} {b : Ss} (h : chkFk Nm sc i j x it = true) (B : PSs X ss (tSt pd X.mg W (asgSs b) fun lk env sto => exs N cf pd.xs lk b env sto)) :
    PS X (.For (.Name x p) it ss [] pos) (tSt pd X.mg W (i :: asgSs b) fun lk env sto => ex N cf pd.xs lk (.fork i j b) env sto) := by
  unfold chkFk at h
  split at h
  · simp only [Bool.and_eq_true] at h
    exact r_fork G (rb := fun lk env sto => exs N cf pd.xs lk b env sto) h.1 h.2 B
  · exact absurd h Bool.false_ne_true
theorem s_clr1 (G : Gs X pd Nm sc cf k W) {i : Nat} {st : Stmt} (h : chkClr1 Nm sc i st = true) : PS X st (tSt pd X.mg W [] fun lk env sto => ex N cf pd.xs lk (.clr1 i) env sto) := by
  unfold chkClr1 at h
  split at h
  · simp only [Bool.and_eq_true, beq_iff_eq, decide_eq_true_eq] at h
    obtain ⟨⟨⟨rfl, rfl⟩, h1⟩, h2⟩ := h
    exact r_clr1 G h1 (by simpa using h2)
  · exact absurd h Bool.false_ne_true
theorem s_dset (G : Gs X pd Nm sc cf k W) {i : Nat} {ik d : E} {st : Stmt} (h : chkDset pd Nm sc i ik d st = true) : PS X st (tSt pd X.mg W [] fun lk env sto => ex N cf pd.xs lk (.dset i ik d) env sto) := by
  unfold chkDset at h
  split at h
  · simp only [Bool.and_eq_true] at h
    exact r_dset G h.1.1.1.1 h.1.1.1.2 h.1.1.2 h.1.2 h.2
  · exact absurd h Bool.false_ne_true
theorem s_dsd (G : Gs X pd Nm sc cf k W) {i : Nat} {ik d : E} {st : Stmt} (h : chkDsd pd Nm sc i ik d st = true) : PS X st (tSt pd X.mg W [] fun lk env sto => ex N cf pd.xs lk (.dsd i ik d) env sto) := by
  unfold chkDsd at h
  split at h
  · simp only [Bool.and_eq_true, beq_iff_eq] at h
    obtain ⟨⟨⟨⟨⟨⟨rfl, h1⟩, h2⟩, h3⟩, h4⟩, h5⟩, h6⟩ := h
    exact r_dsd G h1 h2 h3 h4 h5 (by simpa using h6)
  · exact absurd h Bool.false_ne_true
theorem tryH_inv {st : Stmt} {body hds} (h : tryH st = some (body, hds)) : ∃ h0 r pos, hds = h0 :: r ∧ st = .Try body (h0 :: r) [] [] pos := by
  unfold tryH at h
  split at h
  · simp only [Option.some.injEq, Prod.mk.injEq] at h
    obtain ⟨rfl, rfl⟩ := h
    exact ⟨_, _, _, rfl, rfl⟩
  · cases h
theorem s_raise (G : Gs X pd Nm sc cf k W) {c : Nat} {a : OE} {st : Stmt} (h : chkRaise pd Nm sc c a st = true) : PS X st (tSt pd X.mg W [] fun lk env sto => ex N cf pd.xs lk (.raise c a) env sto) := by
  unfold chkRaise at h
  split at h
  · simp only [Bool.and_eq_true, beq_iff_eq, Option.isNone_iff_eq_none] at h
    exact r_raise G h.1.1 h.1.2 h.2
  · simp only [Bool.and_eq_true, beq_iff_eq, Option.isSome_iff_exists] at h
    obtain ⟨⟨⟨⟨h1, h2⟩, ⟨nm, h3⟩⟩, h4⟩, h5⟩ := h
    exact r_raisef G h1 h2 h3 h4 h5
  · exact absurd h Bool.false_ne_true
theorem r_try {b : Ss} {hs : Hs} {body : List Stmt} {h0 : ExceptHandler} {hds : List ExceptHandler} {pos : Pos} (G : Gs X pd Nm sc cf k W)
    (hb : ∀ {X' : Cx} {W' : WX}, Gs X' pd Nm sc cf k W' → PSs X' body (tSt pd X'.mg W' (asgSs b) fun lk env sto => exs N cf pd.xs lk b env sto)) (hh : chkHs pd Nm sc hs (h0 :: hds) = true) :
    PS X (.Try body (h0 :: hds) [] [] pos) (tSt pd X.mg W (asgSs b ++ asgH hs) fun lk env sto => ex N cf pd.xs lk (.tryx b hs) env sto) := by
  obtain ⟨l, M, w⟩ := s_hds (N := N) (A := asgSs b ++ asgH hs) G hs (h0 :: hds) hh fun j hj => List.mem_append_right _ hj
  have gd := G.gd
  refine PS.imp (ps_try_mix (tb := fun W' => tSt pd X.mg W' (asgSs b) fun lk env sto => exs N cf pd.xs lk b env sto) G.stk G.frm G.nd gd.tk (fun W' pn xe tk po => hb (X' := X.tr pn xe) ⟨⟨gd.nd, gd.nm, gd.sc_, gd.calm, gd.room, tk, gd.blt, gd.fs⟩, po, G.nd, G.stk, G.frm, G.xk, G.fn⟩) M) fun D σ H hl ⟨lk, F, ρ, env, sto, S, q⟩ => ?_
  refine ⟨lk, F, ρ, env, sto, S, ?_⟩
  have q' : PoS pd X.mg W lk F H ρ (asgSs b ++ asgH hs) σ (match exs N cf pd.xs lk b env sto with
    | .ex e env sto => hdl N cf pd.xs lk e hs env sto
    | r => r) D := q
  have sub : ∀ j ∈ asgSs b, j ∈ asgSs b ++ asgH hs := fun j hj => List.mem_append_left _ hj
  revert q'
  show _ → PoS pd X.mg _ lk F H ρ (asgSs b) σ (exs N cf pd.xs lk b env sto) D
  cases exs N cf pd.xs lk b env sto with
  | ex e env1 sto1 =>
    exact fun q F' H' ρ' σ' cls d fu S' sg xr => w e env1 sto1 lk F' H' ρ' σ' D cls d (sg.len.trans hl) S' xr (PoS.fut fu sg sub (fun _ h => h) q)
  | nx _ _ => exact fun q => PoS.sub (r := .nx _ _) sub q
  | rt _ _ _ => exact fun q F' H' ρ' σ' v c f' S sg => q F' H' ρ' σ' v c f' S (sg.mono sub)
  | bk _ _ => exact fun q F' H' ρ' σ' f' S sg => q F' H' ρ' σ' f' S (sg.mono sub)
  | ct _ _ => exact fun q F' H' ρ' σ' f' S sg => q F' H' ρ' σ' f' S (sg.mono sub)
  | no => exact id
mutual
theorem sS : ∀ (s : S) {X : Cx} {W : WX} (G : Gs X pd Nm sc cf k W) (st : Stmt), chkS pd Nm sc s st = true → PS X st (tSt pd X.mg W (asgS s) fun lk env sto => ex N cf pd.xs lk s env sto)
  | .pass, X, W, G, st, h => by
    cases st <;> try (simp only [chkS, Bool.false_eq_true] at h; done)
    · rename_i e p
      cases e <;> try (simp only [chkS, Bool.false_eq_true] at h; done)
      rename_i c j p
      cases c <;> try (simp only [chkS, Bool.false_eq_true] at h; done)
      exact r_doc
    · exact r_pass
  | .nev, X, W, G, st, h => r_nev
  | .brk, X, W, G, st, h => by
    cases st <;> try (simp only [chkS, Bool.false_eq_true] at h; done)
    exact r_brk
  | .cnt, X, W, G, st, h => by
    cases st <;> try (simp only [chkS, Bool.false_eq_true] at h; done)
    exact r_cnt
  | .retn, X, W, G, st, h => by
    cases st <;> try (simp only [chkS, Bool.false_eq_true] at h; done)
    rename_i o p
    cases o <;> try (simp only [chkS, Bool.false_eq_true] at h; done)
    exact r_retn
  | .ret c, X, W, G, st, h => by
    cases st <;> try (simp only [chkS, Bool.false_eq_true] at h; done)
    rename_i o p
    cases o <;> try (simp only [chkS, Bool.false_eq_true] at h; done)
    simp only [chkS] at h
    exact r_ret G (sV G.gd c _ h)
  | .expr c, X, W, G, st, h => by
    cases st <;> try (simp only [chkS, Bool.false_eq_true] at h; done)
    simp only [chkS, Bool.and_eq_true] at h
    exact r_expr G h.1 (sV G.gd c _ h.2)
  | .ife t a b, X, W, G, st, h => by
    cases st <;> try (simp only [chkS, Bool.false_eq_true] at h; done)
    simp only [chkS, Bool.and_eq_true] at h
    exact r_if G (sB G.gd t _ h.1.1.1 h.1.1.2) (sSs a G _ h.1.2) (sSs b G _ h.2)
  | .whl t b, X, W, G, st, h => by
    cases st <;> try (simp only [chkS, Bool.false_eq_true] at h; done)
    rename_i e bs o p
    cases o <;> try (simp only [chkS, Bool.false_eq_true] at h; done)
    simp only [chkS, Bool.and_eq_true] at h
    exact r_while G (sT G.gd t _ h.1.1 h.1.2) (sSs b G _ h.2)
  | .set i c, X, W, G, st, h => s_set G (by simpa only [chkS] using h)
  | .mov i j, X, W, G, st, h => by
    cases st <;> try (simp only [chkS, Bool.false_eq_true] at h; done)
    rename_i ts e p
    match ts, h with
    | [.Name x q], h =>
      simp only [chkS, Bool.and_eq_true] at h
      have hx : ∀ lk env sto, ex N cf pd.xs lk (.mov i j) env sto = (gv cf lk (.p (.var j)) env sto).thn fun t env sto => .nx (env.set i (some t)) sto := fun lk env sto => by rw [ex]
      have := r_set G (pos := p) (p := q) h.1.1 h.1.2 (sV G.gd (.p (.var j)) e (by simpa only [chkC] using h.2))
      simp only [hx]
      exact this
  | .setix i ik d, X, W, G, st, h => s_ix G (by simpa only [chkS] using h)
  | .app i d, X, W, G, st, h => s_app G (by simpa only [chkS] using h)
  | .setf a n c, X, W, G, st, h => s_setf G (by simpa only [chkS] using h)
  | .setfix a n ik d, X, W, G, st, h => s_sfix G (by simpa only [chkS] using h)
  | .appf a n d, X, W, G, st, h => s_appf G (by simpa only [chkS] using h)
  | .unp is c, X, W, G, st, h => s_unp (is := is) G (by simpa only [chkS] using h)
  | .forv i j b, X, W, G, st, h => by
    simp only [chkS] at h
    split at h
    · rename_i x it ss e
      obtain ⟨p, pos, rfl⟩ := forH_inv e
      simp only [Bool.and_eq_true] at h
      exact s_fv G h.1 (sSs b G _ h.2)
    · exact absurd h Bool.false_ne_true
  | .forr i lo hi b, X, W, G, st, h => by
    simp only [chkS] at h
    split at h
    · rename_i x it ss e
      obtain ⟨p, pos, rfl⟩ := forH_inv e
      simp only [Bool.and_eq_true] at h
      exact s_fr G h.1 (sSs b G _ h.2)
    · exact absurd h Bool.false_ne_true
  | .fore i d b, X, W, G, st, h => by
    simp only [chkS] at h
    split at h
    · rename_i x it ss e
      obtain ⟨p, pos, rfl⟩ := forH_inv e
      simp only [Bool.and_eq_true] at h
      exact r_fore G (rb := fun lk env sto => exs N cf pd.xs lk b env sto) h.1.1.1 h.1.1.2 h.1.2 (sSs b G _ h.2)
    · exact absurd h Bool.false_ne_true
  | .fort is d b, X, W, G, st, h => by
    simp only [chkS] at h
    split at h
    · rename_i es it ss e
      obtain ⟨kk, p, pos, rfl⟩ := fotH_inv e
      simp only [Bool.and_eq_true] at h
      exact r_fort G (rb := fun lk env sto => exs N cf pd.xs lk b env sto) h.1.1.1 h.1.1.2 h.1.2 (sSs b G _ h.2)
    · exact absurd h Bool.false_ne_true
  | .fortv is j b, X, W, G, st, h => by
    simp only [chkS] at h
    split at h
    · rename_i es it ss e
      obtain ⟨kk, p, pos, rfl⟩ := fotH_inv e
      simp only [Bool.and_eq_true] at h
      exact s_ftv G h.1 (sSs b G _ h.2)
    · exact absurd h Bool.false_ne_true
  | .fors i lo hi c b, X, W, G, st, h => by
    simp only [chkS] at h
    split at h
    · rename_i x it ss e
      obtain ⟨p, pos, rfl⟩ := forH_inv e
      simp only [Bool.and_eq_true] at h
      exact s_fs G h.1 (sSs b G _ h.2)
    · exact absurd h Bool.false_ne_true
  | .clr i, X, W, G, st, h => s_clr G (by simpa only [chkS] using h)
  | .clr1 i, X, W, G, st, h => s_clr1 G (by simpa only [chkS] using h)
  | .clrd i, X, W, G, st, h => s_clrd G (by simpa only [chkS] using h)
  | .fork i j b, X, W, G, st, h => by
    simp only [chkS] at h
    split at h
    · rename_i x it ss e
      obtain ⟨p, pos, rfl⟩ := forH_inv e
      simp only [Bool.and_eq_true] at h
      exact s_fk G h.1 (sSs b G _ h.2)
    · exact absurd h Bool.false_ne_true
  | .dset i ik d, X, W, G, st, h => s_dset G (by simpa only [chkS] using h)
  | .dsd i ik d, X, W, G, st, h => s_dsd G (by simpa only [chkS] using h)
  | .setsl i lo hi d, X, W, G, st, h => s_sl G (by simpa only [chkS] using h)
  | .raise c a, X, W, G, st, h => s_raise G (by simpa only [chkS] using h)
  | .tryx b hs, X, W, G, st, h => by
    simp only [chkS] at h
    split at h
    · rename_i ss hds e
      obtain ⟨h0, r, pos, rfl, rfl⟩ := tryH_inv e
      simp only [Bool.and_eq_true] at h
      exact r_try G (fun {X' W'} G' => sSs b G' ss h.1) h.2
    · exact absurd h Bool.false_ne_true
theorem sSs : ∀ (ss : Ss) {X : Cx} {W : WX} (G : Gs X pd Nm sc cf k W) (st : List Stmt), chkSs pd Nm sc ss st = true → PSs X st (tSt pd X.mg W (asgSs ss) fun lk env sto => exs N cf pd.xs lk ss env sto)
  | .nil, X, W, G, st, h => by
    cases st <;> try (simp only [chkSs, Bool.false_eq_true] at h; done)
    exact r_nil
  | .cons s ss, X, W, G, st, h => by
    cases st <;> try (simp only [chkSs, Bool.false_eq_true] at h; done)
    simp only [chkSs, Bool.and_eq_true] at h
    exact r_cons (sS s G _ h.1) (sSs ss G _ h.2)
end
end
end Tr
/-! TrFn: defs keep what their trees promise. -/
namespace Tr
open PySem PySem.Spec PyProof.Rows L2
section
variable {F F' : As} {H H' : Hp} {ρ ρ' : List Addr}
theorem musOf_set {i : Nat} {o : Option T} : ∀ {js : List Nat} {env : En}, i ∉ js → musOf js (env.set i o) = musOf js env
  | [], env, _ => rfl
  | j :: js, env, h => by
    simp only [List.mem_cons, not_or] at h
    unfold musOf
    rw [List.getElem?_set_ne h.1, musOf_set h.2]
theorem musOf_clean : ∀ {js : List Nat} {env : En} {ms : List T}, musOf js env = some ms → cleanL ms = true
  | [], env, ms, h => by
    have e : [] = ms := by simpa [musOf] using h
    subst e; rfl
  | j :: js, env, ms, h => by
    unfold musOf at h
    split at h
    · rename_i t e
      split at h
      · rename_i c
        cases e2 : musOf js env with
        | none => rw [e2] at h; simp at h
        | some r =>
          rw [e2] at h
          have e3 : t :: r = ms := by simpa using h
          subst e3
          simp only [Bool.and_eq_true] at c
          simp only [cleanL, Bool.and_eq_true]
          exact ⟨c.1, musOf_clean e2⟩
      · simp at h
    · simp at h
/-- what is given back at the end -/
theorem EnvR.mus {vs : List V} {σ : L2.St} : ∀ {js : List Nat} {env : En} {ms : List T} {f : Fp}, EnvR F H ρ env σ f → musOf js env = some ms → js.Nodup → (∀ j ∈ js, σ[j]? = some vs[j]? ∧ j < vs.length) →
    ∃ fm fr : Fp, RpL F' H ρ ms (js.filterMap fun j => vs[j]?) fm ∧ ∀ b, f b = fm b + fr b
  | [], env, ms, f, h, e, nd, hs => by
    have e2 : [] = ms := by simpa [musOf] using e
    subst e2
    exact ⟨fun _ => 0, f, by simp [RpL], fun _ => by simp⟩
  | j :: js, env, ms, f, h, e, nd, hs => by
    unfold musOf at e
    split at e
    · rename_i t e1
      split at e
      · rename_i c
        simp only [Bool.and_eq_true] at c
        have nd2 := List.nodup_cons.mp nd
        cases e2 : musOf js env with
        | none => rw [e2] at e; simp at e
        | some r =>
          rw [e2] at e
          have e3 : t :: r = ms := by simpa using e
          subst e3
          obtain ⟨v, f1, f2, ev, r1, h2, hf⟩ := h.take e1
          obtain ⟨s1, s2⟩ := hs j (by simp)
          have vj : vs[j]? = some v := by rw [ev] at s1; simpa using s1.symm
          obtain ⟨fm, fr, k1, k2⟩ := EnvR.mus (js := js) h2 ((musOf_set nd2.1).trans e2) nd2.2 fun i hi => hs i (by simp [hi])
          refine ⟨fun b => f1 b + fm b, fr, ?_, fun b => by have := hf b; have := k2 b; show f b = f1 b + fm b + fr b; omega⟩
          rw [List.filterMap_cons, vj]
          simp only [RpL]
          exact ⟨v, _, f1, fm, rfl, Rp.clean t v f1 c.1 r1, k1, fun _ => rfl⟩
      · simp at e
    · simp at e
end
theorem mem_lk {α β : Type} [BEq α] [LawfulBEq α] : ∀ {l : List (α × β)} {a : α} {b : β}, l.lookup a = some b → (a, b) ∈ l
  | [], a, b, h => by simp at h
  | (x, y) :: l, a, b, h => by
    rw [List.lookup_cons] at h
    split at h
    · rename_i e
      have : a = x := by simpa using e
      subst this
      have : y = b := by simpa using h
      subst this
      simp
    · exact List.mem_cons_of_mem _ (mem_lk h)
/-- a def's text and tree -/
structure DefT where
  id : Nat
  x : Str
  q : Str
  st : Stmt
  N : List Str
  ps : List Str
  d : FD
def kdF : Kd → Bool
  | .fn => true
  | _ => false
theorem kdF_of {k : Kd} (h : kdF k = true) : k = .fn := by cases k <;> first | rfl | exact nomatch h
def scB (D : DefT) : Bool := decide ((defScope D.st).kind = .function) && !(defScope D.st).isCoroutine && !(defScope D.st).isGenerator && decide D.N.Nodup && decide (D.N.take D.ps.length = D.ps) && D.ps.all (fun x => (defScope D.st).names.lookup x == some .local || (defScope D.st).names.lookup x == some .cell) && (defScope D.st).names.all (fun y => !(y.2 == .free))
theorem sc_of {D : DefT} (h : scB D = true) : FnScope D.N D.ps (defScope D.st) := by
  simp only [scB, Bool.and_eq_true, Bool.not_eq_true', decide_eq_true_eq, List.all_eq_true, Bool.or_eq_true, beq_iff_eq, beq_eq_false_iff_ne] at h
  obtain ⟨⟨⟨⟨⟨⟨h1, h2⟩, h3⟩, h4⟩, h5⟩, h6⟩, h7⟩ := h
  exact ⟨h1, h2, h3, h4, h5, h6, h7⟩
def chkD (pd : Pd) (D : DefT) : Bool := scB D && D.d.n == D.N.length && D.d.np == D.ps.length && decide D.d.mu.Nodup && D.d.mu.all (fun j => decide (j < D.d.np) && !(asgSs D.d.body).contains j) && chkSs pd D.N (defScope D.st) D.d.body (defBody D.st) && kdF D.d.kd && D.d.dfl.all cstB
/-- a def as it stands behind the top -/
structure DefA (K : PySem.W.Frag) (D : DefT) (a : Addr) (fd : FuncData) : Prop where
  fu : FunD K D.x D.q (defArgs D.st) (defBody D.st) (defScope D.st) (D.d.dfl.map dflV) [] a fd
  bd : ∀ j, ∃ ds, Vals ((D.d.dfl.drop j).map dflV) ds ∧ Binds K fd D.ps ds
theorem padT_full {d : FD} {ts : List T} (h : ts.length = d.np) : padT d ts = ts := by
  unfold padT
  rw [h, show d.np + d.dfl.length - d.np = d.dfl.length by omega, List.drop_length, List.append_nil]
theorem padT_pad {d : FD} {ts : List T} (h : (padT d ts).length = d.np) : padT d (padT d ts) = padT d ts := padT_full h
section
variable {P : Program} {w : World} {K : PySem.W.Frag} {mg : Str → Option Value} {base : Heap} {pd : Pd} {NN k : Nat}
theorem callF_fn {f : Nat} {d : FD} {ts : List T} {sto : List Ob} {lk : Bool} (htb : pd.tb f = some d) (hk : d.kd = .fn) : callF NN pd.xs pd.tb (k + 1) f ts sto lk = fnT NN (callF NN pd.xs pd.tb k) pd.xs d ts sto lk := by
  rw [callF]
  simp only [htb, hk]
theorem callF_pad {f : Nat} {d : FD} (htb : pd.tb f = some d) (hk : d.kd = .fn) : (∀ ts sto lk, (padT d ts).length = d.np → callF NN pd.xs pd.tb k f ts sto lk = callF NN pd.xs pd.tb k f (padT d ts) sto lk) ∧ ∀ ts sto lk, (padT d ts).length ≠ d.np → callF NN pd.xs pd.tb k f ts sto lk = .no := by
  cases k with
  | zero => exact ⟨fun _ _ _ _ => rfl, fun _ _ _ _ => rfl⟩
  | succ k =>
    refine ⟨fun ts sto lk h => ?_, fun ts sto lk h => ?_⟩
    · rw [callF_fn htb hk, callF_fn htb hk]
      unfold fnT
      rw [padT_pad h]
    · rw [callF_fn htb hk]
      unfold fnT
      rw [if_neg h]
theorem ok_fn {D : DefT} {a : Addr} {fd : FuncData} {f : Nat} (hF : DefA K D a fd) (hc : chkD pd D = true) (htb : pd.tb f = some D.d) (hblt : ∀ x ∈ bltNames, mg x = none) (hx : ExK K mg pd)
    (hs : FnS P w K mg base pd (callF NN pd.xs pd.tb k) k) :
    FnOk P w K mg base (L2.CX P w) (k + 1 + 3) a fd D.ps (spT pd mg (callF NN pd.xs pd.tb (k + 1)) f D.d.np D.d.mu) := by
  simp only [chkD, Bool.and_eq_true, beq_iff_eq, decide_eq_true_eq, List.all_eq_true, Bool.not_eq_true', List.contains_eq_mem, decide_eq_false_iff_not] at hc
  obtain ⟨⟨⟨⟨⟨⟨⟨h1, h2⟩, h3⟩, h4⟩, h5⟩, h6⟩, h7⟩, h8⟩ := hc
  have S := sc_of h1
  refine hF.fu.ok S (fun vs H Q E h => ?_) (fun cdv A outer s H vs Q E hr h => ?_)
  · obtain ⟨F, ρ, lk, ts, sto, fa, fs, h, _⟩ := h
    rw [h, h3]
  · refine ⟨_, sSs (N := NN) (cf := callF NN pd.xs pd.tb k) (k := k) (W := fun cls d _ H => E cls d H) D.d.body ⟨⟨S.nd, rfl, rfl, rfl, hr, takes_of rfl rfl rfl rfl, hblt, hs⟩, passes_of rfl, S.nd, rfl, rfl, hx, fun _ => rfl⟩ _ h6, ?_⟩
    obtain ⟨F, ρ, lk, ts, sto, fa, fs, hl, hd, r, st, l1, l2, post⟩ := h
    have hlen : ts.length = vs.length := r.length.symm
    have hst := EnvR.start (D.N.length - vs.length) r
    refine ⟨lk, F, ρ, startT D.d.n ts, sto, ⟨⟨fa, fun _ => 0, fs, ?_, by simp [RpL], st, fun b => by have := l1 b; omega, fun b hb => by have := l2 b hb; omega⟩, hd⟩, ?_⟩
    · unfold startT
      rw [h2, hlen]
      exact hst
    · have post' : FPost pd mg F H ρ lk D.d.mu vs (fnT NN (callF NN pd.xs pd.tb k) pd.xs D.d ts sto lk) Q E := by
        rw [callF_fn htb (kdF_of h7)] at post
        exact post
      unfold fnT at post'
      rw [padT_full (by rw [hlen, hl]), if_pos (by rw [hlen, hl])] at post'
      have muOk : ∀ (σ' : L2.St), Sg (asgSs D.d.body) (L2.start D.N vs) σ' → ∀ j ∈ D.d.mu, σ'[j]? = some vs[j]? ∧ j < vs.length := fun σ' sg j hj => by
        obtain ⟨q1, q2⟩ := h5 j hj
        have lt : j < vs.length := by rw [hl]; exact q1
        refine ⟨?_, lt⟩
        rw [sg.at_ j q2]
        unfold L2.start
        rw [List.getElem?_append_left (by simpa using lt), List.getElem?_map]
        rw [List.getElem?_eq_getElem lt]
        rfl
      show PoS pd mg _ lk F H ρ (asgSs D.d.body) (L2.start D.N vs) (exs NN (callF NN pd.xs pd.tb k) pd.xs lk D.d.body (startT D.d.n ts) sto) _
      revert post'
      cases exs NN (callF NN pd.xs pd.tb k) pd.xs lk D.d.body (startT D.d.n ts) sto with
      | no => exact fun z => z
      | bk _ _ => exact fun z => z.elim
      | ct _ _ => exact fun z => z.elim
      | nx env sto' =>
        intro post F' H' ρ' σ' fu S' sg
        dsimp only [fin] at post
        rw [if_pos (show clean T.non = true from rfl)] at post
        cases e : musOf D.d.mu env with
        | none => rw [e] at post; exact post.elim
        | some ms =>
          rw [e] at post
          obtain ⟨⟨fe, fk, fs', g1, g2, g3, g4, g5⟩, gd⟩ := S'
          obtain ⟨fm, fr, k1, k2⟩ := EnvR.mus (F' := F) g1 e h4 (muOk σ' sg)
          refine post .non H' ρ' rfl (musOf_clean e) fu.k fu.p fu.l ⟨fun _ => 0, fm, fs', by simp [Rp], k1, g3.q, fun b => ?_, fun b hb => ?_⟩
          · have := g4 b; have := k2 b; show 0 + fm b + fs' b ≤ 1; omega
          · have := g5 b (fu.s b hb); have := k2 b; show 0 + fm b + fs' b = 0; omega
      | rt t env sto' =>
        intro post F' H' ρ' σ' v ct fu S' sg
        dsimp only [fin] at post
        rw [if_pos ct] at post
        cases e : musOf D.d.mu env with
        | none => rw [e] at post; exact post.elim
        | some ms =>
          rw [e] at post
          obtain ⟨⟨fe, fk, fs', g1, g2, g3, g4, g5⟩, gd⟩ := S'
          simp only [RpL] at g2
          obtain ⟨v', vs', f1, f2, ev, r1, ⟨_, r2⟩, hf⟩ := g2
          obtain ⟨rfl, _⟩ := List.cons.inj ev
          obtain ⟨fm, fr, k1, k2⟩ := EnvR.mus (F' := F) g1 e h4 (muOk σ' sg)
          refine post v H' ρ' ct (musOf_clean e) fu.k fu.p fu.l ⟨f1, fm, fs', Rp.clean t v f1 ct r1, k1, g3.q, fun b => ?_, fun b hb => ?_⟩
          · have := g4 b; have := k2 b; have := hf b; omega
          · have := g5 b (fu.s b hb); have := k2 b; have := hf b; omega
      | ex z env sto' =>
        intro post F' H' ρ' σ' cls d fu S' sg xr
        dsimp only at post
        cases e : musOf D.d.mu env with
        | none => rw [e] at post; exact post.elim
        | some ms =>
          rw [e] at post
          obtain ⟨⟨fe, fk, fs', g1, g2, g3, g4, g5⟩, gd⟩ := S'
          obtain ⟨fm, fr, k1, k2⟩ := EnvR.mus (F' := F) g1 e h4 (muOk σ' sg)
          refine post cls d H' ρ' (musOf_clean e) fu.k fu.p fu.l xr ⟨fm, fs', k1, g3.q, fun b => ?_, fun b hb => ?_⟩
          · have := g4 b; have := k2 b; omega
          · have := g5 b (fu.s b hb); have := k2 b; omega
theorem fn_zero {a fd f np mu} {ps : List Str} (hl : ps.length = np) : FnOk P w K mg base (L2.CX P w) (0 + 3) a fd ps (spT pd mg (callF NN pd.xs pd.tb 0) f np mu) := by
  refine ⟨fun vs H Q E ⟨F, ρ, lk, ts, sto, fa, fs, h, _⟩ => by rw [h, hl], fun A outer s H args us vs Q E hr he hb hv hs => ?_⟩
  obtain ⟨F, ρ, lk, ts, sto, fa, fs, h, _, _, _, _, _, z⟩ := hs
  exact z.elim
/-- the table of defs -/
def tbOf : List DefT → Nat → Option FD
  | [], _ => none
  | D :: ds, f => if D.id = f then some D.d else tbOf ds f
/-- .. and of methods' names, classes, looks -/
def tbX (ds : List DefT) (sp : List (Nat × FD)) (f : Nat) : Option FD := match tbOf ds f with
  | some d => some d
  | none => sp.lookup f
def kdOf (pd : Pd) (f : Nat) : Option Kd := (pd.tb f).map (·.kd)
theorem tbOf_at : ∀ {ds : List DefT} {D : DefT}, D ∈ ds → (ds.map (·.id)).Nodup → tbOf ds D.id = some D.d
  | [], D, h, _ => nomatch h
  | E :: ds, D, h, nd => by
    have nd2 := List.nodup_cons.mp nd
    unfold tbOf
    rcases List.mem_cons.mp h with rfl | h
    · simp
    · have : E.id ≠ D.id := fun z => nd2.1 (List.mem_map.mpr ⟨D, h, z.symm⟩)
      rw [if_neg this]
      exact tbOf_at h nd2.2
def vtsOf (pd : Pd) (m : Nat) : List (Nat × Nat) := match pd.tb (vmB + m) with
  | some d => (match d.kd with | .vt l => l | _ => [])
  | none => []
/-- a class behind the top: its number, what its methods are -/
structure ClsH (K : PySem.W.Frag) (mg : Str → Option Value) (pd : Pd) (at_ : Nat → Addr) (ms : List (Nat × Nat)) (c : Nat) (C : Addr) : Prop where
  cls : Cls K C
  kp : PySem.W.keepIn K (.ref C) = true
  na : ∀ n ∈ pd.fl, NoAttr K C (fldN n)
  mt : ∃ mc, ClX.CRead K C mc ∧ ∀ p ∈ ms, Meth K C (mthN p.1) (at_ p.2) ∧ ClX.CVal K C mc (mthN p.1) (.ref (at_ p.2)) (.ref (at_ p.2))
  mki : PySem.W.makesIn K C = true
  ha : PySem.W.findIn K (.ref C) "__class__" = some (some (.builtin "object.__class__"))
  hn : PySem.W.specialIn K (.builtin "object.__class__") "__get__" = some (some (.builtin "getset_descriptor.__get__"))
  htk : PySem.W.takesIn K (.builtin "object.__class__") = some true
  hm : PySem.W.mroIn K C (.type "object") = some true
/-- the table is well made -/
def chkT (pd : Pd) (ds : List DefT) (cms : List (Nat × List (Nat × Nat))) : Bool :=
  (List.range 34).all (fun m => (vtsOf pd m).all fun p => ((cms.lookup p.1).getD []).contains (m, p.2) && (ds.map (·.id)).contains p.2) &&
  (List.range 34).all (fun m => match pd.tb (pbB + m) with
    | none => true
    | some d => (match d.kd with | .pb l => l == vtsOf pd m | _ => false)) &&
  cms.all (fun q => match pd.tb (nwB + q.1) with
    | none => true
    | some d => (match d.kd with | .nw c g => !(c == q.1) || (q.2.contains (0, g) && (ds.map (·.id)).contains g) | _ => true)) &&
  pd.fns.all (fun q => (ds.map (·.id)).contains q.2)
/-- all that stands behind the top -/
structure Wld (K : PySem.W.Frag) (mg : Str → Option Value) (pd : Pd) (ds : List DefT) (cms : List (Nat × List (Nat × Nat))) (at_ : Nat → Addr) : Prop where
  tb : ∀ D ∈ ds, pd.tb D.id = some D.d
  chk : ∀ D ∈ ds, chkD pd D = true
  chkT : chkT pd ds cms = true
  blt : ∀ x ∈ bltNames, mg x = none
  exk : ExK K mg pd
  df : ∀ D ∈ ds, ∃ fd, DefA K D (at_ D.id) fd
  fns : ∀ p ∈ pd.fns, mg p.1 = some (.ref (at_ p.2))
  cls : ∀ x c, pd.cls.lookup x = some c → ∃ C ms, mg x = some (.ref C) ∧ cms.lookup c = some ms ∧ ClsH K mg pd at_ ms c C
  isc : ∀ z c D d cs x c' C, pd.cls.lookup z = some c → mg z = some (.ref D) → pd.tb (icB + c) = some d → d.kd = .isc cs → pd.cls.lookup x = some c' → mg x = some (.ref C) → PySem.W.kitOne K (.ref C) (.ref D) = some (cs.contains c')
section
variable {ds : List DefT} {cms : List (Nat × List (Nat × Nat))} {at_ : Nat → Addr}
theorem ids_mem {f : Nat} (h : (ds.map (·.id)).contains f = true) : ∃ D ∈ ds, D.id = f := by
  simp only [List.contains_eq_mem, decide_eq_true_eq] at h
  obtain ⟨D, h1, h2⟩ := List.mem_map.mp h
  exact ⟨D, h1, h2⟩
theorem Wld.vts (X : Wld K mg pd ds cms at_) {m : Nat} {d : FD} {l : List (Nat × Nat)} {c g : Nat} (hm : m < 34) (hd : pd.tb (vmB + m) = some d) (hk : d.kd = .vt l) (hl : l.lookup c = some g) : (∃ D ∈ ds, D.id = g) ∧ ∀ ms, cms.lookup c = some ms → (m, g) ∈ ms := by
  have h := X.chkT
  simp only [Tr.chkT, Bool.and_eq_true] at h
  have h1 := List.all_eq_true.mp h.1.1.1 m (List.mem_range.mpr hm)
  have e : vtsOf pd m = l := by unfold vtsOf; rw [hd]; simp only [hk]
  rw [e] at h1
  have h2 := List.all_eq_true.mp h1 (c, g) (mem_lk hl)
  simp only [Bool.and_eq_true] at h2
  refine ⟨ids_mem h2.2, fun ms e => ?_⟩
  have h3 := h2.1
  rw [e] at h3
  simpa using h3
theorem keyB_of {d : FD} {j : Nat} (h : keyB d = some j) : d.np = 1 ∧ d.dfl = [] ∧ d.body = .cons (.ret (.p (.ix (.var 0) (.int (j : Int))))) .nil ∧ j < 1000 := by
  unfold keyB at h
  split at h
  · rename_i c
    simp only [Bool.and_eq_true, decide_eq_true_eq, List.isEmpty_iff] at c
    split at h
    · rename_i j' eb
      split at h
      · rename_i lt
        have e : j' = j := by simpa using h
        subst e
        exact ⟨c.1, c.2, eb, lt⟩
      · exact nomatch h
    · exact nomatch h
  · exact nomatch h
theorem Wld.ky (X : Wld K mg pd ds cms at_) {z : Str} {f j : Nat} (e1 : pd.fns.lookup z = some f) (e2 : keyOf pd f j = true) : ∃ a, mg z = some (.ref a) ∧ KeyA P w K mg base a j ∧ j < 1000 := by
  have hm := PySem.mem_of_lookup e1
  have hc := X.chkT
  simp only [Tr.chkT, Bool.and_eq_true] at hc
  obtain ⟨D, h1, h2⟩ := ids_mem (List.all_eq_true.mp hc.2 _ hm)
  refine ⟨at_ f, X.fns _ hm, ?_⟩
  unfold keyOf at e2
  have tb := X.tb D h1
  rw [h2] at tb
  rw [tb] at e2
  obtain ⟨k1, k2, k3, k4⟩ := keyB_of (by simpa using e2)
  obtain ⟨fd, A⟩ := X.df D h1
  have c := X.chk D h1
  simp only [chkD, Bool.and_eq_true, beq_iff_eq] at c
  have S := sc_of c.1.1.1.1.1.1.1
  have c6 := c.1.1.2
  have c3 := c.1.1.1.1.1.2
  obtain ⟨ds', v1, b1⟩ := A.bd 0
  have hf := A.fu
  rw [k2] at hf v1
  have : ds' = [] := by
    simp only [List.drop_nil, List.map_nil] at v1
    cases v1; rfl
  subst this
  have hp : D.ps.length = 1 := by omega
  rw [k3] at c6
  revert c6
  generalize hbd : defBody D.st = bd
  intro c6
  match bd, c6 with
  | [], c6 => simp only [chkSs, Bool.false_eq_true] at c6
  | st1 :: sts, c6 =>
    simp only [chkSs, Bool.and_eq_true] at c6
    obtain ⟨c7, c8⟩ := c6
    cases sts with
    | cons _ _ => simp only [chkSs, Bool.false_eq_true] at c8
    | nil =>
      cases st1 with
      | Return e pos =>
        cases e with
        | none => simp only [chkS, Bool.false_eq_true] at c7
        | some e =>
          simp only [chkS, chkC] at c7
          obtain ⟨xe, ye, p3, rfl, _, q1, q2⟩ := inv_ix c7
          obtain ⟨y, p1, rfl, n0, _, hd, hcc⟩ := inv_var q1
          obtain ⟨kk, p2, rfl⟩ := inv_int q2
          rw [hbd] at hf
          have hps : D.ps = [y] := by
            have := S.pre
            rw [hp] at this
            cases hN : D.N with
            | nil => rw [hN] at n0; simp at n0
            | cons a as =>
              rw [hN] at n0 this
              have : a = y := by simpa using n0
              subst this
              simpa using this.symm
          rw [hps] at S b1
          rw [h2, List.map_nil] at hf
          exact ⟨key_body hf S b1 hd hcc, k4⟩
      | _ => simp only [chkS, Bool.false_eq_true] at c7
theorem fnS_of (X : Wld K mg pd ds cms at_) (h : ∀ D ∈ ds, FnA P w K mg base pd (callF NN pd.xs pd.tb k) k D.id (at_ D.id)) (hp : ∀ k', k = k' + 1 → ∀ D ∈ ds, FnA P w K mg base pd (callF NN pd.xs pd.tb k') k' D.id (at_ D.id)) : FnS P w K mg base pd (callF NN pd.xs pd.tb k) k := by
  refine ⟨fun x f e => ?_, fun x c e => ?_, fun m d l hm hd hk ts sto lk => ?_, fun m d l hm hd hk i sto e => ?_, fun z c D d cs e1 e2 hd hk => ⟨fun ts sto lk => ?_, fun x c' C e3 e4 => X.isc z c D d cs x c' C e1 e2 hd hk e3 e4⟩, fun z f j e1 e2 => X.ky e1 e2⟩
  · have hm := PySem.mem_of_lookup e
    have hc := X.chkT
    simp only [Tr.chkT, Bool.and_eq_true] at hc
    obtain ⟨D, h1, h2⟩ := ids_mem (List.all_eq_true.mp hc.2 _ hm)
    refine ⟨at_ f, X.fns _ hm, ?_⟩
    have := h D h1
    rw [h2] at this
    exact this
  · obtain ⟨C, ms, hmg, hms, H⟩ := X.cls x c e
    obtain ⟨mc, cr, mt⟩ := H.mt
    refine ⟨C, hmg, H.cls, H.kp, H.na, ⟨mc, cr, fun m d l g hm hd hk hl => ?_⟩, fun d g hd hk => ?_, fun {H' a dx fs} e => .ins e H.cls H.ha H.hn H.htk H.hm⟩
    · obtain ⟨⟨D, h1, h2⟩, h3⟩ := X.vts hm hd hk hl
      obtain ⟨m1, m2⟩ := mt _ (h3 ms hms)
      refine ⟨at_ g, ?_, m1, m2⟩
      have := h D h1
      rw [h2] at this
      exact this
    · cases k with
      | zero => exact .inl fun _ _ _ => rfl
      | succ k =>
        have hc := X.chkT
        simp only [Tr.chkT, Bool.and_eq_true] at hc
        have h1 := List.all_eq_true.mp hc.1.2 (c, ms) (mem_lk hms)
        simp only [hd, hk, beq_self_eq_true, Bool.not_true, Bool.false_or, Bool.and_eq_true] at h1
        obtain ⟨D, h3, h4⟩ := ids_mem h1.2
        have hin : (0, g) ∈ ms := by simpa using h1.1
        obtain ⟨m1, m2⟩ := mt _ hin
        refine .inr ⟨k, callF NN pd.xs pd.tb k, at_ g, rfl, ⟨H.mki, m1.at_, m1.fn, H.kp⟩, ?_, fun ts sto lk => ?_⟩
        · have := hp k rfl D h3
          rw [h4] at this
          exact this
        · rw [callF]
          simp only [hd, hk]
  · cases k with
    | zero =>
      show FR.no = _
      split <;> rfl
    | succ k =>
      have e1 : callF NN pd.xs pd.tb (k + 1) (vmB + m) ts sto lk = match dispT pd.tb l ts sto with
          | some g => (match pd.tb g with
            | some d => fnT NN (callF NN pd.xs pd.tb k) pd.xs d ts sto lk
            | none => .no)
          | none => .no := by
        rw [callF]
        first
          | (simp only [hd, hk]; done)
          | (simp only [hd, hk]; rfl)
      rw [e1]
      cases eg : dispT pd.tb l ts sto with
      | none => rfl
      | some g =>
        dsimp only
        cases et : pd.tb g with
        | none => rw [callF]; simp only [et]
        | some dg =>
          have hkg : dg.kd = .fn := by
            unfold dispT at eg
            split at eg
            · split at eg
              · split at eg
                · rename_i g' _
                  split at eg
                  · rename_i d2 e2
                    split at eg
                    · rename_i k1 _
                      have : g' = g := by simpa using eg
                      subst this
                      rw [et] at e2
                      have : dg = d2 := by simpa using e2
                      rw [this]; exact k1
                    · exact nomatch eg
                  · exact nomatch eg
                · exact nomatch eg
              · exact nomatch eg
            · exact nomatch eg
          rw [callF_fn et hkg]
  · cases k with
    | zero => exact nomatch e
    | succ k =>
      have hc := X.chkT
      simp only [Tr.chkT, Bool.and_eq_true] at hc
      have h1 := List.all_eq_true.mp hc.1.1.2 m (List.mem_range.mpr hm)
      have ev : vtsOf pd m = l := by unfold vtsOf; rw [hd]; simp only [hk]
      unfold prb at e
      cases et : pd.tb (pbB + m) with
      | none =>
        have e2 : callF NN pd.xs pd.tb (k + 1) (pbB + m) [.obj i] sto true = .no := by rw [callF]; simp only [et]
        rw [e2] at e; exact nomatch e
      | some d2 =>
        rw [et] at h1
        dsimp only at h1
        cases ek : d2.kd with
        | pb l2 =>
          rw [ek] at h1
          have : l2 = l := by rw [← ev]; simpa using h1
          subst this
          cases eg : dispT pd.tb l2 [.obj i] sto with
          | none =>
            have e2 : callF NN pd.xs pd.tb (k + 1) (pbB + m) [.obj i] sto true = .no := by rw [callF]; simp only [et, ek, eg]
            rw [e2] at e; exact nomatch e
          | some g => exact ⟨g, rfl⟩
        | fn => rw [ek] at h1; exact nomatch h1
        | vt _ => rw [ek] at h1; exact nomatch h1
        | nw _ _ => rw [ek] at h1; exact nomatch h1
        | isc _ => rw [ek] at h1; exact nomatch h1
  · cases k with
    | zero => exact .inl rfl
    | succ k =>
      cases ei : iscT cs ts sto with
      | none => refine .inl ?_; rw [callF]; simp only [hd, hk, ei]
      | some b => refine .inr ⟨b, rfl, ?_⟩; rw [callF]; simp only [hd, hk, ei]
theorem fnA_all (X : Wld K mg pd ds cms at_) : ∀ k, ∀ D ∈ ds, FnA P w K mg base pd (callF NN pd.xs pd.tb k) k D.id (at_ D.id) := by
  have base_ : ∀ (k : Nat) (D : DefT) (hD : D ∈ ds) (fd : FuncData), DefA K D (at_ D.id) fd → FnOk P w K mg base (L2.CX P w) (k + 3) (at_ D.id) fd D.ps (spT pd mg (callF NN pd.xs pd.tb k) D.id D.d.np D.d.mu) → FnA P w K mg base pd (callF NN pd.xs pd.tb k) k D.id (at_ D.id) := fun k D hD fd A ok => by
    have c := X.chk D hD
    simp only [chkD, Bool.and_eq_true, beq_iff_eq] at c
    exact ⟨fd, D.ps, D.d, X.tb D hD, A.fu.kp, ⟨c.2, A.bd⟩, c.1.1.1.1.1.2.symm, callF_pad (X.tb D hD) (kdF_of c.1.2), ok⟩
  have key : ∀ k, (∀ D ∈ ds, FnA P w K mg base pd (callF NN pd.xs pd.tb k) k D.id (at_ D.id)) ∧ ∀ k', k = k' + 1 → ∀ D ∈ ds, FnA P w K mg base pd (callF NN pd.xs pd.tb k') k' D.id (at_ D.id) := by
    intro k
    induction k with
    | zero =>
      refine ⟨fun D hD => ?_, fun k' e => nomatch e⟩
      obtain ⟨fd, A⟩ := X.df D hD
      have c := X.chk D hD
      simp only [chkD, Bool.and_eq_true, beq_iff_eq] at c
      exact base_ 0 D hD fd A (fn_zero c.1.1.1.1.1.2.symm)
    | succ k ih =>
      refine ⟨fun D hD => ?_, fun k' e => by have : k' = k := by omega
                                             subst this
                                             exact ih.1⟩
      obtain ⟨fd, A⟩ := X.df D hD
      exact base_ (k + 1) D hD fd A (ok_fn A (X.chk D hD) (X.tb D hD) X.blt X.exk (fnS_of X ih.1 ih.2))
  exact fun k => (key k).1
end
end
end Tr
/-! TrEnd: the law of a row. -/
namespace Tr
open PySem PySem.Spec PyProof.Rows L2
/-- no list among the module's own objects -/
def NoLst (K : PySem.W.Frag) : Prop := ∀ a o, K.lookup a = some o → o.cls ≠ .type "list"
theorem noLst_of {K : PySem.W.Frag} (h : ∀ p ∈ K, p.2.cls ≠ .type "list") : NoLst K := fun a o e => h (a, o) (mem_lk e)
def spLaw (n : Nat) (K : PySem.W.Frag) : Sp := fun vs H Q _ => ∃ (a : Addr) (ns : List Int), vs = [.ref a] ∧ ns.length ≤ n ∧ (∀ z ∈ ns, Builtin.Int.intBits z ≤ 1048576) ∧ SqL K H a (ns.map V.int) ∧ ∀ H', Q (.bl true) H'
theorem snL_ints {F H ρ} : ∀ ns : List Int, SnL F H ρ (ns.map T.int) (ns.map V.int)
  | [] => by simp [SnL]
  | n :: ns => by simp only [List.map_cons, SnL]; exact ⟨_, _, rfl, by simp [Sn], snL_ints ns⟩
theorem flatL_ints : ∀ ns : List Int, flatL (ns.map T.int) = true
  | [] => rfl
  | n :: ns => by simp only [List.map_cons, flatL, Bool.and_eq_true]; exact ⟨rfl, flatL_ints ns⟩
theorem law_imp {n : Nat} {K : PySem.W.Frag} {pd : Pd} {mg : Str → Option Value} {cf : CF} {fl : Nat} (lk : Bool) (nl : NoLst K)
    (pure : ∀ ns : List Int, ns.length ≤ n → (∀ z ∈ ns, Builtin.Int.intBits z ≤ 1048576) → ∃ sto, cf fl [.lst true false (ns.map T.int)] [] lk = .ok (.bl true) [] sto) :
    ∀ vs H Q E, spLaw n K vs H Q E → spT pd mg cf fl 1 [] vs H Q E := by
  rintro vs H Q E ⟨a, ns, rfl, h1, h2, h3, k⟩
  have rd : Rd H a (.lst (ns.map V.int)) := by
    rcases h3 with h3 | ⟨o, its, m, e, c, _⟩
    · exact h3
    · exact absurd c (nl a o e)
  obtain ⟨sto, ep⟩ := pure ns h1 h2
  refine ⟨fun b => b = a, [], lk, [.lst true false (ns.map T.int)], [], fun _ => 0, fun _ => 0, rfl, fun b hb => by rw [hb]; exact rd_dom rd, ?_, ?_, fun _ => by simp, fun _ _ => rfl, ?_⟩
  · simp only [RpL, Rp, if_true]
    refine ⟨.ref a, [], fun _ => 0, fun _ => 0, rfl, ⟨fun _ => rfl, ?_⟩, ⟨rfl, fun _ => rfl⟩, fun _ => rfl⟩
    simp only [Sn]
    exact ⟨a, _, rfl, rfl, rd, snL_ints ns, fun _ => flatL_ints ns⟩
  · cases lk with
    | true => exact ⟨fun _ => rfl, rfl⟩
    | false => exact ⟨rfl, fun _ => rfl⟩
  · rw [ep]
    rintro v H' ρ' _ _ _ _ _ ⟨ft, fm, fs, r, _⟩
    simp only [Rp] at r
    rw [r.2]
    exact k H'
/-- a def without defaults -/
theorem defA0 {K : PySem.W.Frag} {D : DefT} {f : Addr} {oc : Value} {od an : Option Addr} {osl : Array (Option Value)} {kV doc pm cdv ct : Value} (hd : D.d.dfl = [])
    (l : K.lookup f = some ⟨oc, od, .func (PySem.W.fnOf D.x D.q (defArgs D.st) (defBody D.st) (defScope D.st) .none kV doc pm an cdv ct), osl⟩) (c : PySem.W.codeIn K cdv D.q = true) (k : PySem.W.keepIn K (.ref f) = true)
    (b : ∀ us : List Value, us.length = D.ps.length → bindArgs (PySem.W.fnOf D.x D.q (defArgs D.st) (defBody D.st) (defScope D.st) .none kV doc pm an cdv ct) ⟨us, []⟩ = Pure.pure (D.ps.zip us)) : ∃ fd, DefA K D f fd :=
  ⟨_, ⟨⟨oc, od, .none, kV, doc, pm, an, cdv, ct, osl, rfl, l, c, .inl ⟨by rw [hd]; rfl, rfl⟩, .inl rfl⟩, k⟩, fun j => ⟨[], by rw [hd, List.drop_nil]; exact .nil, .all b⟩⟩
/-- a def with one default -/
theorem defA1 {K : PySem.W.Frag} {D : DefT} {f Tu : Addr} {oc oc2 u : Value} {od an od2 : Option Addr} {osl osl2 : Array (Option Value)} {kV doc pm cdv ct : Value} {t : T} {n2 m : Nat} (hd : D.d.dfl = [t])
    (l : K.lookup f = some ⟨oc, od, .func (PySem.W.fnOf D.x D.q (defArgs D.st) (defBody D.st) (defScope D.st) (.ref Tu) kV doc pm an cdv ct), osl⟩) (lT : K.lookup Tu = some ⟨oc2, od2, .seq [u].toArray n2, osl2⟩) (r : RelV (dflV t) u) (c : PySem.W.codeIn K cdv D.q = true) (k : PySem.W.keepIn K (.ref f) = true) (hm : m + 1 = D.ps.length)
    (b0 : ∀ (Tu : Addr) (kV doc pm : Value) (an : Option Addr) (cdv ct : Value) (us its : List Value), us.length = m → its.length = 1 →
      ∃ k, bindArgs (PySem.W.fnOf D.x D.q (defArgs D.st) (defBody D.st) (defScope D.st) (.ref Tu) kV doc pm an cdv ct) ⟨us, []⟩ = seqItems? (.ref Tu) >>= k ∧ k (some its.toArray) = Pure.pure (D.ps.zip (us ++ its.drop 0)))
    (b1 : ∀ (Tu : Addr) (kV doc pm : Value) (an : Option Addr) (cdv ct : Value) (us its : List Value), us.length = m + 1 → its.length = 1 →
      ∃ k, bindArgs (PySem.W.fnOf D.x D.q (defArgs D.st) (defBody D.st) (defScope D.st) (.ref Tu) kV doc pm an cdv ct) ⟨us, []⟩ = seqItems? (.ref Tu) >>= k ∧ k (some its.toArray) = Pure.pure (D.ps.zip (us ++ its.drop 1))) : ∃ fd, DefA K D f fd := by
  have F : FunD K D.x D.q (defArgs D.st) (defBody D.st) (defScope D.st) (D.d.dfl.map dflV) [] f (PySem.W.fnOf D.x D.q (defArgs D.st) (defBody D.st) (defScope D.st) (.ref Tu) kV doc pm an cdv ct) :=
    ⟨⟨oc, od, .ref Tu, kV, doc, pm, an, cdv, ct, osl, rfl, l, c, .inr ⟨by rw [hd]; simp, Tu, _, [u], n2, rfl, lT, rfl, by rw [hd]; exact .cons r .nil⟩, .inl rfl⟩, k⟩
  have hl : (D.d.dfl.map dflV).length = 1 := by rw [hd]; rfl
  refine ⟨_, F, fun j => ?_⟩
  cases j with
  | zero =>
    obtain ⟨ds, h1, h2⟩ := F.binds1 m 0 (by rw [hd]; simp) (by rw [hl]; omega) (fun Tu kV doc pm an cdv ct us its e1 e2 => b0 Tu kV doc pm an cdv ct us its e1 (by rw [e2, hl]))
    exact ⟨ds, by rw [hd] at h1 ⊢; exact h1, h2⟩
  | succ j =>
    obtain ⟨ds, h1, h2⟩ := F.binds1 (m + 1) 1 (by rw [hd]; simp) (by rw [hl]; omega) (fun Tu kV doc pm an cdv ct us its e1 e2 => b1 Tu kV doc pm an cdv ct us its e1 (by rw [e2, hl]))
    refine ⟨ds, ?_, h2⟩
    rw [hd] at h1 ⊢
    simpa using h1
theorem blts_nil {mg : Str → Option Value} : ∀ x ∈ ([] : List Str), mg x = none := fun _ h => nomatch h
theorem blts_cons {K : PySem.W.Frag} {h : Heap} {mg : Str → Option Value} (X : K.In h) (G : h.Ns mainGlobals mg) {x : Str} {xs : List Str} (z : PySem.W.nsIn K mainGlobals x = some none) (t : ∀ y ∈ xs, mg y = none) : ∀ y ∈ x :: xs, mg y = none := fun y hy => by
  rcases List.mem_cons.mp hy with rfl | hy
  · exact PySem.W.mg_none_of X G z
  · exact t y hy
def noLstB (K : PySem.W.Frag) : Bool := K.all fun p => match p.2.cls with
  | .type n => n != "list"
  | _ => true
theorem noLst_b {K : PySem.W.Frag} (h : noLstB K = true) : NoLst K := noLst_of fun p hp z => by
  have := List.all_eq_true.mp h p hp
  rw [z] at this
  simp at this
theorem exk_nil {K : PySem.W.Frag} {mg : Str → Option Value} {pd : Pd} (h : pd.exs = []) : ExK K mg pd := by
  have z : ∀ x, pd.exs.lookup x = none := fun x => by rw [h]; rfl
  exact ⟨fun x c e => by (rw [z] at e; cases e), fun x c nm C e => by (rw [z] at e; cases e), fun x c y d C D e => by (rw [z] at e; cases e), fun x c C e => by (rw [z] at e; cases e)⟩
theorem lk_map {L : List (Str × Nat × Addr)} {x : Str} {c : Nat} (h : (L.map fun p => (p.1, p.2.1)).lookup x = some c) : ∃ C, (x, c, C) ∈ L := by
  have m := PySem.mem_of_lookup h
  obtain ⟨⟨y, d, C⟩, hm, e⟩ := List.mem_map.mp m
  have e1 : y = x := congrArg Prod.fst e
  have e2 : d = c := congrArg Prod.snd e
  subst e1; subst e2
  exact ⟨C, hm⟩
theorem all_nil {α : Type} {p : α → Prop} : ∀ x ∈ ([] : List α), p x := fun _ h => nomatch h
theorem all_cons {α : Type} {p : α → Prop} {a : α} {l : List α} (h : p a) (t : ∀ x ∈ l, p x) : ∀ x ∈ a :: l, p x := fun x hx => by
  rcases List.mem_cons.mp hx with rfl | hx
  · exact h
  · exact t x hx
def Ex1 (K : PySem.W.Frag) (C : Addr) : Prop := PySem.W.keepIn K (.ref C) = true ∧ PySem.W.subIn K (.ref C) (.type "BaseException") = some true ∧ PySem.W.typeIn K (.ref C) = some (.type "type") ∧ PySem.W.hasDictIn K C = true
def Ex2 (K : PySem.W.Frag) (o : Option Str) (C : Addr) : Prop := (o = none → PySem.W.excIn K C bmVE "ValueError.__new__" = true) ∧ ExcC K C
/-- a class of exceptions with a field, put together -/
theorem ini_mk {K : PySem.W.Frag} {mg : Str → Option Value} {C : Addr} {nm b : Str} {D : DefT} {fI B : Addr} (A : ∃ fd, DefA K D fI fd) (h0 : D.d.dfl = []) (hs : scB D = true) (hn : D.ps = D.N) (hc : chkIni nm b D.N (defScope D.st) (defBody D.st) = true)
    (q : PySem.W.excInitIn K C bmVE "ValueError.__new__" = true) (hd : PySem.W.hasDictIn K C = true) (sa : PySem.W.findIn K (.ref C) "__setattr__" = some (some (.builtin "object.__setattr__")))
    (ex : PySem.W.subIn K (.ref C) (.type "BaseException") = some true) (ty : PySem.W.typeIn K (.ref C) = some (.type "type")) (kc : PySem.W.keepIn K (.ref C) = true) (no : PySem.W.findIn K (.ref C) nm = some none)
    (i1 : PySem.W.findIn K (.ref C) "__init__" = some (some (.ref fI))) (i2 : PySem.W.typeIn K (.ref fI) = some (.type "function")) (mb : mg b = some (.ref B)) (rd : PySem.W.readsIn K B (.type "type") = true)
    (ga : PySem.W.specialIn K (.ref B) "__getattribute__" = some (some (.builtin "type.__getattribute__"))) (fc : PySem.W.findCls K (.ref B) (.type "type") "__init__" = some (.val (.builtin "ValueError.__init__"))) : IniK K mg C nm := by
  obtain ⟨fd, A⟩ := A
  have F := A.fu
  rw [h0] at F
  obtain ⟨ds, v, bn⟩ := A.bd 0
  rw [h0] at v
  have ed : ds = [] := by cases v; rfl
  subst ed
  have S := sc_of hs
  rw [hn] at S bn
  exact ⟨oex_of q hd sa ex ty kc, no, fI, fd, _, _, _, _, _, D.N, b, B, .type "type", i1, i2, F, bn, S, hc, mb, ⟨rd, ga⟩, fc⟩
theorem exk_mk {K : PySem.W.Frag} {h : Heap} {mg : Str → Option Value} {pd : Pd} (X : K.In h) (G : h.Ns mainGlobals mg) (L : List (Str × Nat × Addr)) (he : pd.exs = L.map fun p => (p.1, p.2.1))
    (h0 : ∀ p ∈ L, PySem.W.nsIn K mainGlobals p.1 = some (some (.ref p.2.2))) (h1 : ∀ p ∈ L, Ex1 K p.2.2) (h2 : ∀ p ∈ L, Ex2 K (pd.efd p.2.1) p.2.2) (hI : ∀ p ∈ L, ∀ nm, pd.efd p.2.1 = some nm → IniK K mg p.2.2 nm)
    (h3 : ∀ p ∈ L, ∀ q ∈ L, PySem.W.subIn K (.ref p.2.2) (.ref q.2.2) = some (pd.xs p.2.1 q.2.1)) (h4 : ∀ p ∈ L, ∀ q ∈ L, PySem.W.kitOne K (.ref p.2.2) (.ref q.2.2) = some (pd.xs p.2.1 q.2.1))
    (h5 : ∀ p ∈ L, PySem.W.kitOne K (.ref p.2.2) (.type "ValueError") = some (pd.xs p.2.1 999)) : ExK K mg pd := by
  have key : ∀ {x c C}, pd.exs.lookup x = some c → mg x = some (.ref C) → (x, c, C) ∈ L := fun {x c C} e m => by
    rw [he] at e
    obtain ⟨C0, hm⟩ := lk_map e
    have := PySem.W.mg_of X G (h0 _ hm)
    rw [m] at this
    have e2 : C = C0 := by simpa using this
    rw [e2]; exact hm
  refine ⟨fun x c e => ?_, fun x c nm C e1 e2 m => hI _ (key e1 m) nm e2, fun x c y d C D e1 e2 m1 m2 => ⟨h3 _ (key e1 m1) _ (key e2 m2), h4 _ (key e1 m1) _ (key e2 m2)⟩, fun x c C e m => h5 _ (key e m)⟩
  rw [he] at e
  obtain ⟨C, hm⟩ := lk_map e
  obtain ⟨a1, a2, a3, a4⟩ := h1 _ hm
  exact ⟨C, PySem.W.mg_of X G (h0 _ hm), a1, a2, a3, a4, h2 _ hm⟩
theorem cls_at {CL : List (Str × Nat × Addr)} {K : PySem.W.Frag} {mg : Str → Option Value} {pd : Pd} {cms : List (Nat × List (Nat × Nat))} {at_ : Nat → Addr} (hc : pd.cls = CL.map fun p => (p.1, p.2.1)) (h0 : ∀ p ∈ CL, mg p.1 = some (.ref p.2.2)) (h1 : ∀ p ∈ CL, ∃ ms, cms.lookup p.2.1 = some ms ∧ ClsH K mg pd at_ ms p.2.1 p.2.2) :
    ∀ x c, pd.cls.lookup x = some c → ∃ C ms, mg x = some (.ref C) ∧ cms.lookup c = some ms ∧ ClsH K mg pd at_ ms c C := fun x c e => by
  rw [hc] at e
  obtain ⟨C, hm⟩ := lk_map e
  obtain ⟨ms, e1, e2⟩ := h1 _ hm
  exact ⟨C, ms, h0 _ hm, e1, e2⟩
/-- a look's answer -/
def iscB2 (pd : Pd) (c c' : Nat) (r : Option Bool) : Bool := match pd.tb (icB + c) with
  | some d => (match d.kd with | .isc cs => r == some (cs.contains c') | _ => true)
  | none => true
theorem isc_at {CL : List (Str × Nat × Addr)} {K : PySem.W.Frag} {mg : Str → Option Value} {pd : Pd} (hc : pd.cls = CL.map fun p => (p.1, p.2.1)) (h0 : ∀ p ∈ CL, mg p.1 = some (.ref p.2.2)) (h1 : ∀ q ∈ CL, ∀ p ∈ CL, iscB2 pd q.2.1 p.2.1 (PySem.W.kitOne K (.ref p.2.2) (.ref q.2.2)) = true) :
    ∀ z c D d cs x c' C, pd.cls.lookup z = some c → mg z = some (.ref D) → pd.tb (icB + c) = some d → d.kd = .isc cs → pd.cls.lookup x = some c' → mg x = some (.ref C) → PySem.W.kitOne K (.ref C) (.ref D) = some (cs.contains c') := fun z c D d cs x c' C e1 m1 hd hk e2 m2 => by
  rw [hc] at e1 e2
  obtain ⟨D', hm1⟩ := lk_map e1
  obtain ⟨C', hm2⟩ := lk_map e2
  have a1 := h0 _ hm1
  have a2 := h0 _ hm2
  rw [m1] at a1
  rw [m2] at a2
  have : D = D' := by simpa using a1
  subst this
  have : C = C' := by simpa using a2
  subst this
  have h := h1 _ hm1 _ hm2
  unfold iscB2 at h
  simp only [hd, hk] at h
  simpa using h
/-- the answer where no look asks -/
theorem iscB2_no {pd : Pd} {c c' : Nat} {r : Option Bool} (h : (match pd.tb (icB + c) with | some d => (match d.kd with | .isc _ => false | _ => true) | none => true) = true) : iscB2 pd c c' r = true := by
  unfold iscB2
  split
  · rename_i d e
    rw [e] at h
    dsimp only at h
    split
    · rename_i cs ek
      rw [ek] at h; exact nomatch h
    · rfl
  · rfl
theorem iscB2_of {pd : Pd} {c c' : Nat} {r : Option Bool} {b : Bool} (h : r = some b) (e : iscB2 pd c c' (some b) = true) : iscB2 pd c c' r = true := by rw [h]; exact e
theorem isc_no {CL : List (Str × Nat × Addr)} {K : PySem.W.Frag} {pd : Pd} {C : Addr} {c : Nat} (h : (match pd.tb (icB + c) with | some d => (match d.kd with | .isc _ => false | _ => true) | none => true) = true) : ∀ p ∈ CL, iscB2 pd c p.2.1 (PySem.W.kitOne K (.ref p.2.2) (.ref C)) = true := fun _ _ => iscB2_no h
theorem walk {l : PySem.W.OpenLaw} {n k NN : Nat} {q : Program} {loose : List Str} {XP : (Str → Option Value) → Heap → Prop} {YP : World → Heap → Prop} {d : DefRec} {K : Params → PySem.W.Frag} {x : Str} {pd : Pd} {ds : List DefT} {sp : List (Nat × FD)} {cms : List (Nat × List (Nat × Nat))} {fl : Nat} (lk : Bool)
    (hn : l.most = some n) (hn2 : n ≤ sizeLine) (hdf : d.params.defaults = []) (hr : Room (k + 4) callerA)
    (hY : ∀ (w : World) (h : Heap), YP w h → (K w.params).In h)
    (ht : pd.tb = tbX ds sp) (nd : (ds.map (·.id)).Nodup) (hc : ∀ D ∈ ds, chkD pd D = true) (hct : chkT pd ds cms = true)
    (F : ∀ (w : World) (mg : Str → Option Value) (h : Heap), (K w.params).In h → h.Ns mainGlobals mg → (∀ x ∈ bltNames, mg x = none) ∧ NoLst (K w.params) ∧ ExK (K w.params) mg pd ∧
      ∃ at_ : Nat → Addr, (∀ D ∈ ds, ∃ fd, DefA (K w.params) D (at_ D.id) fd) ∧ (∀ p ∈ pd.fns, mg p.1 = some (.ref (at_ p.2))) ∧ (∀ x c, pd.cls.lookup x = some c → ∃ C ms, mg x = some (.ref C) ∧ cms.lookup c = some ms ∧ ClsH (K w.params) mg pd at_ ms c C) ∧
        ∀ z c D d cs x c' C, pd.cls.lookup z = some c → mg z = some (.ref D) → pd.tb (icB + c) = some d → d.kd = .isc cs → pd.cls.lookup x = some c' → mg x = some (.ref C) → PySem.W.kitOne (K w.params) (.ref C) (.ref D) = some (cs.contains c'))
    (L : DefT) (hm : L ∈ ds) (hl : L.id = fl ∧ (d.name, fl) ∈ pd.fns ∧ L.ps = [x] ∧ L.d.mu = [])
    (hb : ∀ (dV kV doc pm : Value) (an : Option Addr) (cdv ct : Value) (u : Value), dV = .none → bindArgs (PySem.W.fnOf L.x L.q (defArgs L.st) (defBody L.st) (defScope L.st) dV kV doc pm an cdv ct) ⟨[u], []⟩ = Pure.pure [(x, u)]) (hdl : L.d.dfl = [])
    (pure : ∀ ns : List Int, ns.length ≤ n → (∀ z ∈ ns, Builtin.Int.intBits z ≤ 1048576) → ∃ sto, callF NN pd.xs pd.tb (k + 1) fl [.lst true false (ns.map T.int)] [] lk = .ok (.bl true) [] sto) :
    PySem.W.WalkO q loose XP YP l.row.toRowW d [] (fun f vs => PySem.call f vs) := by
  refine L2.walk_ofB (n := n) (k := k + 4) (x := x) (K := K) (CX := fun w => L2.CX l.prog w) (sp := fun w => spLaw n (K w.params)) hn hn2 hdf hr hY (fun w mg fa h KX G hmg => ?_) (fun w H a ns h1 h2 _ hS => ⟨a, ns, rfl, h1, h2, hS, fun _ => rfl⟩) fun w H s e s' ⟨a, B, H', cls, dd, _, _, _, _, _, _, _, z⟩ => z
  obtain ⟨e1, e2, e3, e4⟩ := hl
  obtain ⟨f1, f3, f4, at_, g1, g2, g3, g4⟩ := F w mg h KX G
  have W : Wld (K w.params) mg pd ds cms at_ := ⟨fun D hD => by rw [ht]; unfold tbX; rw [tbOf_at hD nd], hc, hct, f1, f4, g1, g2, g3, g4⟩
  obtain ⟨fd, A⟩ := g1 L hm
  have ea : at_ fl = fa := by
    have := g2 _ e2
    dsimp only at this
    rw [hmg] at this
    simpa using this.symm
  rw [e1, ea] at A
  refine ⟨fd, fun s u => ?_, fun base kb gb => ?_⟩
  · obtain ⟨oc, od, dV, kV, doc, pm, an, cdv, ct, osl, rfl, _, _, hD, _⟩ := A.fu.ex
    have hV : dV = .none := by
      rcases hD with ⟨_, h⟩ | ⟨h, _⟩
      · exact h
      · rw [hdl] at h; exact absurd rfl h
    exact .of_eq (hb dV kV doc pm an cdv ct u hV)
  obtain ⟨fd2, ps, dd, t1, kp, _, np, _, ok⟩ := fnA_all (P := l.prog) (w := w) (base := base) (NN := NN) W (k + 1) L hm
  have tb : pd.tb fl = some L.d := by rw [← e1]; exact W.tb L hm
  have c := hc L hm
  have G1 : FnOk l.prog w (K w.params) mg base (L2.CX l.prog w) (k + 4) fa fd L.ps (spT pd mg (callF NN pd.xs pd.tb (k + 1)) fl L.d.np L.d.mu) :=
    ok_fn A c tb f1 f4 (fnS_of W (fnA_all W k) fun k' e => by subst e; exact fnA_all W k')
  rw [e3] at G1
  have np : L.d.np = 1 := by
    simp only [chkD, Bool.and_eq_true, beq_iff_eq] at c
    have := c.1.1.1.1.1.2
    rw [e3] at this
    exact this
  rw [np, e4] at G1
  exact G1.imp (law_imp lk f3 pure)
end Tr
/-! TrHd: the law's end over a head that is run by the kernel and read by one Bool. -/
namespace Tr
open PySem PySem.Spec PyProof.Rows L2
def toDv : T → He.Dv
  | .int i => .int i
  | .bl b => .bl b
  | .str x => .str x
  | _ => .non
theorem toDv_v (K : PySem.W.Frag) : ∀ t : T, (toDv t).v K = dflV t
  | .int _ => rfl
  | .bl _ => rfl
  | .str _ => rfl
  | .non => rfl
  | .tup _ => rfl
  | .lst _ _ _ => rfl
  | .dic _ _ _ _ => rfl
  | .obj _ => rfl
theorem toDv_map (K : PySem.W.Frag) (l : List T) : (l.map toDv).map (He.Dv.v K) = l.map dflV := by
  rw [List.map_map]
  exact List.map_congr_left fun t _ => toDv_v K t
abbrev PosD := Str × Option Str
def mkD (D : DefT) (p : PosD) : He.DefD := ⟨p, D.x, D.q, defArgs D.st, defBody D.st, defScope D.st, D.d.dfl.map toDv, []⟩
def posOf (ps : List (Nat × PosD)) (g : Nat) : PosD := (ps.lookup g).getD ("", none)
/-- where the def g stands -/
def atP (K : PySem.W.Frag) (ps : List (Nat × PosD)) (g : Nat) : Addr := He.fAd K (posOf ps g)
/-- a class of exceptions with a field: its name, the field, its __init__, its base -/
structure Ini where
  x : Str
  nm : Str
  D : DefT
  b : Str
def fnsD (ps : List (Nat × PosD)) (ds : List DefT) (is : List Ini) : List He.DefD := ds.map (fun D => mkD D (posOf ps D.id)) ++ is.map fun e => mkD e.D (e.x, some ("__init__" : Str))
/-- a def's arguments are bound -/
def BindD (D : DefT) : Prop := ∀ (K : PySem.W.Frag) (f : Addr) (fd : FuncData), FunD K D.x D.q (defArgs D.st) (defBody D.st) (defScope D.st) (D.d.dfl.map dflV) [] f fd → DefA K D f fd
theorem bindD0 {D : DefT} (hd : D.d.dfl = [])
    (b : ∀ (kV doc pm : Value) (an : Option Addr) (cdv ct : Value) (us : List Value), us.length = D.ps.length → bindArgs (PySem.W.fnOf D.x D.q (defArgs D.st) (defBody D.st) (defScope D.st) .none kV doc pm an cdv ct) ⟨us, []⟩ = Pure.pure (D.ps.zip us)) : BindD D := by
  intro K f fd F
  refine ⟨F, fun j => ⟨[], by rw [hd, List.drop_nil]; exact .nil, ?_⟩⟩
  obtain ⟨oc, od, dV, kV, doc, pm, an, cdv, ct, osl, rfl, lk, hcd, hD, _⟩ := F.ex
  have hV : dV = .none := by
    rcases hD with ⟨_, h⟩ | ⟨h, _⟩
    · exact h
    · rw [hd] at h; exact absurd rfl h
  subst hV
  exact .all fun us hl => b kV doc pm an cdv ct us hl
theorem bindD1 {D : DefT} {t : T} {m : Nat} (hd : D.d.dfl = [t]) (hm : m + 1 = D.ps.length)
    (b0 : ∀ (Tu : Addr) (kV doc pm : Value) (an : Option Addr) (cdv ct : Value) (us its : List Value), us.length = m → its.length = 1 →
      ∃ k, bindArgs (PySem.W.fnOf D.x D.q (defArgs D.st) (defBody D.st) (defScope D.st) (.ref Tu) kV doc pm an cdv ct) ⟨us, []⟩ = seqItems? (.ref Tu) >>= k ∧ k (some its.toArray) = Pure.pure (D.ps.zip (us ++ its.drop 0)))
    (b1 : ∀ (Tu : Addr) (kV doc pm : Value) (an : Option Addr) (cdv ct : Value) (us its : List Value), us.length = m + 1 → its.length = 1 →
      ∃ k, bindArgs (PySem.W.fnOf D.x D.q (defArgs D.st) (defBody D.st) (defScope D.st) (.ref Tu) kV doc pm an cdv ct) ⟨us, []⟩ = seqItems? (.ref Tu) >>= k ∧ k (some its.toArray) = Pure.pure (D.ps.zip (us ++ its.drop 1))) : BindD D := by
  intro K f fd F
  have hl : (D.d.dfl.map dflV).length = 1 := by rw [hd]; rfl
  refine ⟨F, fun j => ?_⟩
  cases j with
  | zero =>
    obtain ⟨ds, h1, h2⟩ := F.binds1 m 0 (by rw [hd]; simp) (by rw [hl]; omega) (fun Tu kV doc pm an cdv ct us its e1 e2 => b0 Tu kV doc pm an cdv ct us its e1 (by rw [e2, hl]))
    exact ⟨ds, by rw [hd] at h1 ⊢; exact h1, h2⟩
  | succ j =>
    obtain ⟨ds, h1, h2⟩ := F.binds1 (m + 1) 1 (by rw [hd]; simp) (by rw [hl]; omega) (fun Tu kV doc pm an cdv ct us its e1 e2 => b1 Tu kV doc pm an cdv ct us its e1 (by rw [e2, hl]))
    refine ⟨ds, ?_, h2⟩
    rw [hd] at h1 ⊢
    simpa using h1
theorem defs_of {K : PySem.W.Frag} {ps : List (Nat × PosD)} {ds : List DefT} {is : List Ini} (c : He.SaysD [] (fnsD ps ds is) K) (hb : ∀ D ∈ ds, BindD D) : ∀ D ∈ ds, ∃ fd, DefA K D (atP K ps D.id) fd := fun D hD => by
  obtain ⟨fd, F⟩ := c.defs (d := mkD D (posOf ps D.id)) (List.mem_append_left _ (List.mem_map.mpr ⟨D, hD, rfl⟩))
  refine ⟨fd, hb D hD K _ fd ?_⟩
  have e : (mkD D (posOf ps D.id)).dvs K = D.d.dfl.map dflV := toDv_map K _
  rw [e] at F
  exact F
theorem inis_of {K : PySem.W.Frag} {ps : List (Nat × PosD)} {ds : List DefT} {is : List Ini} (c : He.SaysD [] (fnsD ps ds is) K) (hb : ∀ e ∈ is, BindD e.D) : ∀ e ∈ is, ∃ fd, DefA K e.D (He.ma K (He.ga K e.x) ("__init__" : Str)) fd := fun e hE => by
  obtain ⟨fd, F⟩ := c.defs (d := mkD e.D (e.x, some ("__init__" : Str))) (List.mem_append_right _ (List.mem_map.mpr ⟨e, hE, rfl⟩))
  refine ⟨fd, hb e hE K _ fd ?_⟩
  have e2 : (mkD e.D (e.x, some ("__init__" : Str))).dvs K = e.D.d.dfl.map dflV := toDv_map K _
  rw [e2] at F
  exact F
/-! ### the Bools -/
def valB (K : PySem.W.Frag) (C : Addr) (m : Str) (v : Value) : Bool := match PySem.W.findCls K (.ref C) (.type "type") m with
  | some (.val u) => decide (u = v)
  | _ => false
theorem valB_ok {K : PySem.W.Frag} {C : Addr} {m : Str} {v : Value} (h : valB K C m v = true) : PySem.W.findCls K (.ref C) (.type "type") m = some (.val v) := by
  unfold valB at h
  split at h
  · rename_i u e
    rw [e, of_decide_eq_true h]
  · exact nomatch h
def eqV (a b : Option Value) : Bool := decide (a = b)
def eqBo (a b : Option Bool) : Bool := decide (a = b)
def cdB (K : PySem.W.Frag) : Bool := He.eqO (PySem.W.specialIn K (.builtin "object.__class__") "__get__") (some (some (.builtin "getset_descriptor.__get__"))) && eqBo (PySem.W.takesIn K (.builtin "object.__class__")) (some true)
def clB (K : PySem.W.Frag) (fl : List Nat) (ps : List (Nat × PosD)) (ms : List (Nat × Nat)) (C : Addr) : Bool :=
  (PySem.W.plainGet K C Str.empty && (PySem.W.hasDictIn K C && (PySem.W.plainOver K C && (He.eqO (PySem.W.findIn K (.ref C) "__setattr__") (some (some (.builtin "object.__setattr__"))) && PySem.W.keepIn K (.ref C))))) &&
  (fl.all (fun n => He.eqO (PySem.W.findIn K (.ref C) (fldN n)) (some none)) &&
  ((PySem.W.readsIn K C (.type "type") && He.eqO (PySem.W.specialIn K (.ref C) "__getattribute__") (some (some (.builtin "type.__getattribute__")))) &&
  (ms.all (fun p => He.eqO (PySem.W.findIn K (.ref C) (mthN p.1)) (some (some (.ref (atP K ps p.2)))) && (PySem.W.isFn K (.ref (atP K ps p.2)) && (PySem.W.keepIn K (.ref (atP K ps p.2)) && valB K C (mthN p.1) (.ref (atP K ps p.2))))) &&
  (PySem.W.makesIn K C && (He.eqO (PySem.W.findIn K (.ref C) "__class__") (some (some (.builtin "object.__class__"))) && eqBo (PySem.W.mroIn K C (.type "object")) (some true))))))
theorem clB_ok {K : PySem.W.Frag} {mg : Str → Option Value} {pd : Pd} {ps : List (Nat × PosD)} {ms : List (Nat × Nat)} {c : Nat} {C : Addr} (w : cdB K = true) (h : clB K pd.fl ps ms C = true) : ClsH K mg pd (atP K ps) ms c C := by
  simp only [cdB, Bool.and_eq_true] at w
  simp only [clB, Bool.and_eq_true, List.all_eq_true] at h
  obtain ⟨⟨h1, h2, h3, h4, h5⟩, h6, ⟨h7, h8⟩, h9, h10, h11, h12⟩ := h
  exact ⟨⟨h1, h2, h3, He.eqO_ok h4⟩, h5, fun n hn => He.eqO_ok (h6 n hn), ⟨.type "type", ⟨h7, He.eqO_ok h8⟩, fun p hp => by
    obtain ⟨a1, a2, a3, a4⟩ := h9 p hp
    exact ⟨⟨He.eqO_ok a1, a2, a3⟩, ⟨valB_ok a4, rfl⟩⟩⟩, h10, He.eqO_ok h11, He.eqO_ok w.1, of_decide_eq_true w.2, of_decide_eq_true h12⟩
def gloB (K : PySem.W.Frag) (x : Str) (a : Addr) : Bool := He.eqO (PySem.W.nsIn K mainGlobals x) (some (some (.ref a)))
def freeB (K : PySem.W.Frag) (x : Str) : Bool := He.eqO (PySem.W.nsIn K mainGlobals x) (some none)
def clsB (K : PySem.W.Frag) (pd : Pd) (ps : List (Nat × PosD)) (cms : List (Nat × List (Nat × Nat))) : Bool :=
  (pd.cls.isEmpty || cdB K) && (pd.cls.all (fun p => gloB K p.1 (He.ga K p.1) && (match cms.lookup p.2 with
    | some ms => clB K pd.fl ps ms (He.ga K p.1)
    | none => false)) && pd.cls.all fun q => pd.cls.all fun p => iscB2 pd q.2 p.2 (PySem.W.kitOne K (.ref (He.ga K p.1)) (.ref (He.ga K q.1))))
section
variable {K : PySem.W.Frag} {h : Heap} {mg : Str → Option Value} {pd : Pd} {ps : List (Nat × PosD)} {cms : List (Nat × List (Nat × Nat))}
theorem gloB_ok (X : K.In h) (G : h.Ns mainGlobals mg) {x : Str} {a : Addr} (c : gloB K x a = true) : mg x = some (.ref a) := PySem.W.mg_of X G (He.eqO_ok c)
theorem clsB_ok (X : K.In h) (G : h.Ns mainGlobals mg) (hc : clsB K pd ps cms = true) : (∀ x c, pd.cls.lookup x = some c → ∃ C ms, mg x = some (.ref C) ∧ cms.lookup c = some ms ∧ ClsH K mg pd (atP K ps) ms c C) ∧
    ∀ z c D d cs x c' C, pd.cls.lookup z = some c → mg z = some (.ref D) → pd.tb (icB + c) = some d → d.kd = .isc cs → pd.cls.lookup x = some c' → mg x = some (.ref C) → PySem.W.kitOne K (.ref C) (.ref D) = some (cs.contains c') := by
  simp only [clsB, Bool.and_eq_true, Bool.or_eq_true, List.all_eq_true] at hc
  obtain ⟨w, h1, h2⟩ := hc
  have h0 : ∀ p ∈ pd.cls, mg p.1 = some (.ref (He.ga K p.1)) := fun p hp => gloB_ok X G (h1 p hp).1
  have e1 : pd.cls = (pd.cls.map fun p => ((p.1, p.2, He.ga K p.1) : Str × Nat × Addr)).map fun p => (p.1, p.2.1) := by
    rw [List.map_map]
    exact (List.map_id' pd.cls).symm
  refine ⟨cls_at e1 (fun p hp => ?_) (fun p hp => ?_), isc_at e1 (fun p hp => ?_) fun q hq p hp => ?_⟩
  · obtain ⟨p', hp', rfl⟩ := List.mem_map.mp hp
    exact h0 p' hp'
  · obtain ⟨p', hp', rfl⟩ := List.mem_map.mp hp
    have h3 := (h1 p' hp').2
    have w' : cdB K = true := by
      rcases w with w | w
      · rw [List.isEmpty_iff.mp w] at hp'; exact nomatch hp'
      · exact w
    dsimp only
    cases e : cms.lookup p'.2 with
    | none => rw [e] at h3; exact nomatch h3
    | some ms => rw [e] at h3; exact ⟨ms, rfl, clB_ok w' h3⟩
  · obtain ⟨p', hp', rfl⟩ := List.mem_map.mp hp
    exact h0 p' hp'
  · obtain ⟨p', hp', rfl⟩ := List.mem_map.mp hp
    obtain ⟨q', hq', rfl⟩ := List.mem_map.mp hq
    exact h2 q' hq' p' hp'
def ex1B (K : PySem.W.Frag) (C : Addr) : Bool := PySem.W.keepIn K (.ref C) && (eqBo (PySem.W.subIn K (.ref C) (.type "BaseException")) (some true) && (eqV (PySem.W.typeIn K (.ref C)) (some (.type "type")) && PySem.W.hasDictIn K C))
def ex2B (K : PySem.W.Frag) (o : Option Str) (C : Addr) : Bool := (o.isSome || PySem.W.excIn K C bmVE "ValueError.__new__") && (He.eqO (PySem.W.findIn K (.ref C) "__getattribute__") (some (some (.builtin "BaseException.__getattribute__"))) && (He.eqO (PySem.W.findIn K (.ref C) "__getattr__") (some none) &&
  (He.eqO (PySem.W.findIn K (.ref C) "__class__") (some (some (.builtin "object.__class__"))) && eqBo (PySem.W.mroIn K C (.type "object")) (some true))))
def iniB (K : PySem.W.Frag) (e : Ini) : Bool := PySem.W.excInitIn K (He.ga K e.x) bmVE "ValueError.__new__" && (He.eqO (PySem.W.findIn K (.ref (He.ga K e.x)) "__setattr__") (some (some (.builtin "object.__setattr__"))) && (He.eqO (PySem.W.findIn K (.ref (He.ga K e.x)) e.nm) (some none) &&
  (He.eqO (PySem.W.findIn K (.ref (He.ga K e.x)) "__init__") (some (some (.ref (He.ma K (He.ga K e.x) ("__init__" : Str))))) && (eqV (PySem.W.typeIn K (.ref (He.ma K (He.ga K e.x) ("__init__" : Str)))) (some (.type "function")) &&
  (gloB K e.b (He.ga K e.b) && (PySem.W.readsIn K (He.ga K e.b) (.type "type") && (He.eqO (PySem.W.specialIn K (.ref (He.ga K e.b)) "__getattribute__") (some (some (.builtin "type.__getattribute__"))) && valB K (He.ga K e.b) "__init__" (.builtin "ValueError.__init__"))))))))
def exsB (K : PySem.W.Frag) (pd : Pd) (is : List Ini) : Bool := (pd.exs.isEmpty || cdB K) && (pd.exs.all (fun p => gloB K p.1 (He.ga K p.1) && (ex1B K (He.ga K p.1) && (ex2B K (pd.efd p.2) (He.ga K p.1) && eqBo (PySem.W.kitOne K (.ref (He.ga K p.1)) (.type "ValueError")) (some (pd.xs p.2 999))))) &&
  (is.all (iniB K) && (pd.exs.all fun p => pd.exs.all fun q => eqBo (PySem.W.subIn K (.ref (He.ga K p.1)) (.ref (He.ga K q.1))) (some (pd.xs p.2 q.2)) && eqBo (PySem.W.kitOne K (.ref (He.ga K p.1)) (.ref (He.ga K q.1))) (some (pd.xs p.2 q.2)))))
/-- what the text itself says of such a class -/
def iniT (e : Ini) : Bool := e.D.d.dfl.isEmpty && (scB e.D && (decide (e.D.ps = e.D.N) && chkIni e.nm e.b e.D.N (defScope e.D.st) (defBody e.D.st)))
def inisT (pd : Pd) (is : List Ini) : Bool := is.all iniT && pd.exs.all fun p => match pd.efd p.2 with
  | some nm => is.any fun e => e.x == p.1 && e.nm == nm
  | none => true
theorem exsB_ok (X : K.In h) (G : h.Ns mainGlobals mg) {is : List Ini} (hA : ∀ e ∈ is, ∃ fd, DefA K e.D (He.ma K (He.ga K e.x) ("__init__" : Str)) fd) (ht : inisT pd is = true) (hc : exsB K pd is = true) : ExK K mg pd := by
  simp only [exsB, Bool.and_eq_true, Bool.or_eq_true, List.all_eq_true] at hc
  simp only [inisT, Bool.and_eq_true, List.all_eq_true] at ht
  obtain ⟨w, h1, hi, h3⟩ := hc
  have e1 : pd.exs = (pd.exs.map fun p => ((p.1, p.2, He.ga K p.1) : Str × Nat × Addr)).map fun p => (p.1, p.2.1) := by
    rw [List.map_map]
    exact (List.map_id' pd.exs).symm
  have wd : ∀ p ∈ pd.exs, cdB K = true := fun p hp => by
    rcases w with w | w
    · rw [List.isEmpty_iff.mp w] at hp; exact nomatch hp
    · exact w
  have k1 : ∀ p ∈ pd.exs, Ex1 K (He.ga K p.1) := fun p hp => by
    have := (h1 p hp).2.1
    simp only [ex1B, Bool.and_eq_true] at this
    exact ⟨this.1, of_decide_eq_true this.2.1, of_decide_eq_true this.2.2.1, this.2.2.2⟩
  refine exk_mk X G _ e1 (fun p hp => ?_) (fun p hp => ?_) (fun p hp => ?_) (fun p hp nm en => ?_) (fun p hp q hq => ?_) (fun p hp q hq => ?_) (fun p hp => ?_)
  · obtain ⟨p', hp', rfl⟩ := List.mem_map.mp hp
    exact He.eqO_ok (h1 p' hp').1
  · obtain ⟨p', hp', rfl⟩ := List.mem_map.mp hp
    exact k1 p' hp'
  · obtain ⟨p', hp', rfl⟩ := List.mem_map.mp hp
    have w' := wd p' hp'
    simp only [cdB, Bool.and_eq_true] at w'
    obtain ⟨s1, s2, s3, s4⟩ := k1 p' hp'
    have := (h1 p' hp').2.2.1
    simp only [ex2B, Bool.and_eq_true, Bool.or_eq_true] at this
    obtain ⟨a1, a2, a3, a4, a5⟩ := this
    refine ⟨fun en => ?_, ⟨He.eqO_ok a2, He.eqO_ok a3, s2, s4, He.eqO_ok a4, He.eqO_ok w'.1, of_decide_eq_true w'.2, of_decide_eq_true a5⟩⟩
    rcases a1 with a1 | a1
    · dsimp only at en; rw [en] at a1; exact nomatch a1
    · exact a1
  · obtain ⟨p', hp', rfl⟩ := List.mem_map.mp hp
    obtain ⟨s1, s2, s3, s4⟩ := k1 p' hp'
    have t1 := ht.2 p' hp'
    dsimp only at en ⊢
    rw [en] at t1
    obtain ⟨e, he, e2⟩ := List.any_eq_true.mp t1
    simp only [Bool.and_eq_true, beq_iff_eq] at e2
    obtain ⟨e3, rfl⟩ := e2
    have b := hi e he
    simp only [iniB, Bool.and_eq_true] at b
    obtain ⟨b1, b2, b3, b4, b5, b6, b7, b8, b9⟩ := b
    rw [e3] at b1 b2 b3 b4 b5
    have A := hA e he
    rw [e3] at A
    have t := ht.1 e he
    simp only [iniT, Bool.and_eq_true, List.isEmpty_iff, decide_eq_true_eq] at t
    obtain ⟨t2, t3, t4, t5⟩ := t
    exact ini_mk (b := e.b) A t2 t3 t4 t5 b1 s4 (He.eqO_ok b2) s2 s3 s1 (He.eqO_ok b3) (He.eqO_ok b4) (of_decide_eq_true b5) (gloB_ok X G b6) b7 (He.eqO_ok b8) (valB_ok b9)
  · obtain ⟨p', hp', rfl⟩ := List.mem_map.mp hp
    obtain ⟨q', hq', rfl⟩ := List.mem_map.mp hq
    exact of_decide_eq_true (h3 p' hp' q' hq').1
  · obtain ⟨p', hp', rfl⟩ := List.mem_map.mp hp
    obtain ⟨q', hq', rfl⟩ := List.mem_map.mp hq
    exact of_decide_eq_true (h3 p' hp' q' hq').2
  · obtain ⟨p', hp', rfl⟩ := List.mem_map.mp hp
    exact of_decide_eq_true (h1 p' hp').2.2.2
/-- all that is asked of what the top leaves -/
def hdB (pd : Pd) (ps : List (Nat × PosD)) (cms : List (Nat × List (Nat × Nat))) (is : List Ini) (K : PySem.W.Frag) : Bool :=
  bltNames.all (freeB K) && (noLstB K && (pd.fns.all (fun p => gloB K p.1 (atP K ps p.2)) && (clsB K pd ps cms && exsB K pd is)))
end
/-- the addresses that are looked at -/
def asN (n : Nat) : List Addr := mainGlobals :: cStatics :: List.range' 15 n
def fragT (n : Nat) (g : Addr → Option Obj) : PySem.W.Frag := He.frG g (asN n)
def obsK (n : Nat) (fn : List He.DefD) (ex : PySem.W.Frag → Bool) (g : Addr → Option Obj) : He.AlD := (ex (fragT n g) && fn.all (fun d => d.ok (fragT n g)), fn.map fun d => He.fnW (fragT n g) d.at_)
def hookK (n : Nat) (fn : List He.DefD) (ex : PySem.W.Frag → Bool) : PySem.W.Hook where
  α := He.AlD
  obs := fun s => obsK n fn ex s.heap.get?
  val := fun _ => He.valD fn
  says := fun _ h => ∃ K : PySem.W.Frag, K.In h ∧ He.SaysD [] fn K ∧ ex K = true
  of := fun _ s e => ⟨fragT n s.heap.get?, He.frG_in, by
    have e1 : (ex (fragT n s.heap.get?) && fn.all (fun d => d.ok (fragT n s.heap.get?))) = true := congrArg (fun z : He.AlD => z.1) e
    have e2 : fn.map (fun d => He.fnW (fragT n s.heap.get?) d.at_) = fn.map He.DefD.val := congrArg (fun z : He.AlD => z.2) e
    obtain ⟨h1, h2⟩ := He.ba e1
    refine ⟨?_, h1⟩
    show (_, _) = (_, _)
    rw [e2, h2]
    rfl⟩
  keeps := fun _ _ _ ⟨K, hK, c⟩ k => ⟨K, PySem.W.Frag.In.keeps hK k, c⟩
theorem obsK_eq {n : Nat} {fn : List He.DefD} {ex : PySem.W.Frag → Bool} {g : Addr → Option Obj} {s : Shared} (h : ∀ a, g a = s.heap.get? a) : obsK n fn ex g = (hookK n fn ex).obs s := by
  have e : g = s.heap.get? := funext h
  rw [e] <;> rfl
abbrev hookH (nn : Nat) (pd : Pd) (ps : List (Nat × PosD)) (ds : List DefT) (cms : List (Nat × List (Nat × Nat))) (is : List Ini) : PySem.W.Hook := hookK nn (fnsD ps ds is) (hdB pd ps cms is)
def obH (nn : Nat) (pd : Pd) (ps : List (Nat × PosD)) (ds : List DefT) (cms : List (Nat × List (Nat × Nat))) (is : List Ini) (s : PySem.W.SharedT) : He.AlD := obsK nn (fnsD ps ds is) (hdB pd ps cms is) (HandSHeadRun.getT s)
theorem obH_eq {nn : Nat} {pd : Pd} {ps : List (Nat × PosD)} {ds : List DefT} {cms : List (Nat × List (Nat × Nat))} {is : List Ini} (s : PySem.W.SharedT) : obH nn pd ps ds cms is s = (hookH nn pd ps ds cms is).obs s.abs := obsK_eq (HandSHeadRun.getT_eq s)
/-! ### the run, part by part -/
noncomputable abbrev endT (r : PySem.W.OpenRow) (M : Nat) (w : World) (os : OsState) : Option PySem.W.SharedT := HandSHeadRun.endF (HandSHeadRun.stepQ (HandSHeadRun.denQ HandSHeadRun.tabQ) r.prog w) M r.prog w os
/-- a part: one Bool of the state behind the top -/
def Part (r : PySem.W.OpenRow) (M : Nat) (f : World → PySem.W.SharedT → Bool) : Prop := ∀ (w : World) (os : OsState), (endT r M w os).map (f w) = some true
noncomputable def lookP (r : PySem.W.OpenRow) (w : World) (s : PySem.W.SharedT) : Bool := HandSHeadRun.looksF r.prog (PySem.W.boot_heap w.params) s.abs
def baseP (nn : Nat) (pd : Pd) (ps : List (Nat × PosD)) (w : World) (s : PySem.W.SharedT) : Bool := bltNames.all (freeB (fragT nn (HandSHeadRun.getT s))) && (noLstB (fragT nn (HandSHeadRun.getT s)) && pd.fns.all (fun p => gloB (fragT nn (HandSHeadRun.getT s)) p.1 (atP (fragT nn (HandSHeadRun.getT s)) ps p.2)))
def clsP (nn : Nat) (pd : Pd) (ps : List (Nat × PosD)) (cms : List (Nat × List (Nat × Nat))) (w : World) (s : PySem.W.SharedT) : Bool := clsB (fragT nn (HandSHeadRun.getT s)) pd ps cms
def exsP (nn : Nat) (pd : Pd) (is : List Ini) (w : World) (s : PySem.W.SharedT) : Bool := exsB (fragT nn (HandSHeadRun.getT s)) pd is
def okP (nn : Nat) (fn : List He.DefD) (w : World) (s : PySem.W.SharedT) : Bool := fn.all fun d => d.ok (fragT nn (HandSHeadRun.getT s))
theorem run_join {r : PySem.W.OpenRow} {q : Program} {M nn : Nat} {loose : List Str} {pd : Pd} {ps : List (Nat × PosD)} {ds : List DefT} {cms : List (Nat × List (Nat × Nat))} {is : List Ini} (w : World)
    (h1 : Part r M (lookP r))
    (h2 : ∀ (w : World) (os : OsState), (endT r M w os).map (fun s => HandSHeadRun.seenQ q loose (PySem.importedModules r.prog.main.body) (fun s => PySem.W.xlAt q [] s && PySem.W.recOk r.toRowW.records s) s.abs) = some (PySem.W.openGood q loose))
    (h3 : Part r M (baseP nn pd ps)) (h4 : Part r M (clsP nn pd ps cms)) (h5 : Part r M (exsP nn pd is)) (h6 : Part r M (okP nn (fnsD ps ds is)))
    (h7 : ∀ (w : World) (os : OsState), (endT r M w os).map (fun s => (fnsD ps ds is).map fun d => He.fnW (fragT nn (HandSHeadRun.getT s)) d.at_) = some ((fnsD ps ds is).map He.DefD.val)) :
    HandSHeadRun.RunEq r q (hookH nn pd ps ds cms is) (obH nn pd ps ds cms is) M loose w := by
  intro os
  have a1 := h1 w os
  have a2 := h2 w os
  have a3 := h3 w os
  have a4 := h4 w os
  have a5 := h5 w os
  have a6 := h6 w os
  have a7 := h7 w os
  show (endT r M w os).map _ = _
  cases e : endT r M w os with
  | none => rw [e] at a1; exact nomatch a1
  | some s =>
    rw [e] at a1 a2 a3 a4 a5 a6 a7
    simp only [Option.map_some, Option.some.injEq] at a1 a2 a3 a4 a5 a6 a7
    simp only [baseP, Bool.and_eq_true] at a3
    have o1 : hdB pd ps cms is (fragT nn (HandSHeadRun.getT s)) = true := by
      simp only [hdB, Bool.and_eq_true]
      exact ⟨a3.1, a3.2.1, a3.2.2, a4, a5⟩
    have a8 : obH nn pd ps ds cms is s = He.valD (fnsD ps ds is) := by
      show (_ && _, _) = (_, _)
      rw [o1, a7]
      show (true && okP nn (fnsD ps ds is) w s, _) = _
      rw [a6]
      rfl
    have b1 : HandSHeadRun.looksF r.prog (PySem.W.boot_heap w.params) s.abs = true := a1
    rw [Option.map_some, b1, a2, a8]
    rfl
theorem walk2 {l : PySem.W.OpenLaw} {n k NN nn : Nat} {q : Program} {loose : List Str} {XP : (Str → Option Value) → Heap → Prop} {d : DefRec} {x : Str} {pd : Pd} {ds : List DefT} {sp : List (Nat × FD)} {cms : List (Nat × List (Nat × Nat))} {fl : Nat} {ps : List (Nat × PosD)} {is : List Ini} (lk : Bool)
    (hn : l.most = some n) (hn2 : n ≤ sizeLine) (hdf : d.params.defaults = []) (hr : Room (k + 4) callerA)
    (ht : pd.tb = tbX ds sp) (nd : (ds.map (·.id)).Nodup) (hc : ∀ D ∈ ds, chkD pd D = true) (hct : chkT pd ds cms = true) (hI : inisT pd is = true) (hB : ∀ D ∈ ds, BindD D) (hBI : ∀ e ∈ is, BindD e.D)
    (L : DefT) (hm : L ∈ ds) (hl : L.id = fl ∧ (d.name, fl) ∈ pd.fns ∧ L.ps = [x] ∧ L.d.mu = [])
    (hb : ∀ (dV kV doc pm : Value) (an : Option Addr) (cdv ct : Value) (u : Value), dV = .none → bindArgs (PySem.W.fnOf L.x L.q (defArgs L.st) (defBody L.st) (defScope L.st) dV kV doc pm an cdv ct) ⟨[u], []⟩ = Pure.pure [(x, u)]) (hdl : L.d.dfl = [])
    (pure : ∀ ns : List Int, ns.length ≤ n → (∀ z ∈ ns, Builtin.Int.intBits z ≤ 1048576) → ∃ sto, callF NN pd.xs pd.tb (k + 1) fl [.lst true false (ns.map T.int)] [] lk = .ok (.bl true) [] sto) :
    PySem.W.WalkO q loose XP (hookH nn pd ps ds cms is).says l.row.toRowW d [] (fun f vs => PySem.call f vs) := by
  refine Att.attach_callB hn hdf fun w s₀ s₁ mg mb fa o pm cd doc a vs ns G Y ho hd hcd hmg hobj hints hlen hbits hg => ?_
  obtain ⟨K, KX, c, b⟩ := Y
  have hG := G.T.g
  simp only [hdB, Bool.and_eq_true, List.all_eq_true] at b
  obtain ⟨b1, b2, b3, b4, b5⟩ := b
  have f1 : ∀ x ∈ bltNames, mg x = none := fun x hx => PySem.W.mg_none_of KX hG (He.eqO_ok (b1 x hx))
  have g1 := defs_of c hB
  have f4 : ExK K mg pd := exsB_ok KX hG (inis_of c hBI) hI b5
  have g2 : ∀ p ∈ pd.fns, mg p.1 = some (.ref (atP K ps p.2)) := fun p hp => gloB_ok KX hG (b3 p hp)
  obtain ⟨g3, g4⟩ := clsB_ok KX hG b4
  obtain ⟨e1, e2, e3, e4⟩ := hl
  have W : Wld K mg pd ds cms (atP K ps) := ⟨fun D hD => by rw [ht]; unfold tbX; rw [tbOf_at hD nd], hc, hct, f1, f4, g1, g2, g3, g4⟩
  obtain ⟨fd, A⟩ := g1 L hm
  have ea : atP K ps fl = fa := by
    have := g2 _ e2
    dsimp only at this
    rw [hmg] at this
    simpa using this.symm
  rw [e1, ea] at A
  have hbt : ∀ (s : Shared) (u : Value), BindsTo s fd ⟨[u], []⟩ [(x, u)] := fun s u => by
    obtain ⟨oc, od, dV, kV, doc, pm, an, cdv, ct, osl, rfl, _, _, hD, _⟩ := A.fu.ex
    have hV : dV = .none := by
      rcases hD with ⟨_, h⟩ | ⟨h, _⟩
      · exact h
      · rw [hdl] at h; exact absurd rfl h
    exact .of_eq (hb dV kV doc pm an cdv ct u hV)
  have hF : ∀ base : Heap, K.In base → base.Ns mainGlobals mg → FnOk l.prog w K mg base (L2.CX l.prog w) (k + 4) fa fd [x] (spLaw n K) := fun base kb gb => by
    have tb : pd.tb fl = some L.d := by rw [← e1]; exact W.tb L hm
    have cL := hc L hm
    have G1 : FnOk l.prog w K mg base (L2.CX l.prog w) (k + 4) fa fd L.ps (spT pd mg (callF NN pd.xs pd.tb (k + 1)) fl L.d.np L.d.mu) :=
      ok_fn A cL tb f1 f4 (fnS_of W (fnA_all W k) fun k' e => by subst e; exact fnA_all W k')
    rw [e3] at G1
    have np : L.d.np = 1 := by
      simp only [chkD, Bool.and_eq_true, beq_iff_eq] at cL
      have := cL.1.1.1.1.1.2
      rw [e3] at this
      exact this
    rw [np, e4] at G1
    exact G1.imp (law_imp lk (noLst_b b2) pure)
  exact law_call KX hG G.T.b G.T.builtins G.T.nolimit hg hobj hints (Nat.le_trans hlen hn2) hr hF hbt (fun H hO hS => ⟨a, ns, rfl, hlen, hbits, hS, fun _ => rfl⟩) fun H e s' ⟨a, B, H', cls, dd, _, _, _, _, _, _, _, z⟩ => z
end Tr
/-! TrEv: rules by which simp runs a tree. -/
namespace Tr
open PySem
@[simp] theorem Rs.g_ok {α : Type} (a : α) (env sto) : (Rs.ok a).g env sto = GR.ok a env sto := Eq.trans rfl rfl
@[simp] theorem Rs.g_ex {α : Type} (e) (env sto) : (Rs.ex e : Rs α).g env sto = GR.ex e env sto := Eq.trans rfl rfl
@[simp] theorem ofO_some {α : Type} (a : α) : ofO (some a) = .ok a := Eq.trans rfl rfl
def rview (r : Rs T) : Rs T := r.bind fun t => .ok (view t)
@[simp] theorem rview_ok (t) : rview (.ok t) = .ok (view t) := Eq.trans rfl rfl
@[simp] theorem view_int (i) : view (.int i) = .int i := Eq.trans rfl rfl
@[simp] theorem view_bl (i) : view (.bl i) = .bl i := Eq.trans rfl rfl
@[simp] theorem view_str (i) : view (.str i) = .str i := Eq.trans rfl rfl
@[simp] theorem view_non : view .non = .non := Eq.trans rfl rfl
@[simp] theorem view_lst (z n ts) : view (.lst z n ts) = .lst true n ts := Eq.trans rfl rfl
theorem view_flat {t : T} (h : flat t = true) : view t = t := if_pos h
theorem view_tup {ts : List T} (h : flatL ts = true) : view (.tup ts) = .tup ts := if_pos h
def rbin (op : BOp) (r s : Rs T) : Rs T := r.bind fun x => s.bind fun y => binT op x y
@[simp] theorem rbin_ok (op x y) : rbin op (.ok x) (.ok y) = binT op x y := Eq.trans rfl rfl
def rcmp (op : COp) (r s : Rs T) : Rs T := r.bind fun x => s.bind fun y => cmpT op x y
@[simp] theorem rcmp_ok (op x y) : rcmp op (.ok x) (.ok y) = cmpT op x y := Eq.trans rfl rfl
def rneg (r : Rs T) : Rs T := r.bind fun x => match x with | .int i => .ok (.int (-i)) | _ => .no
@[simp] theorem rneg_ok (i) : rneg (.ok (.int i)) = .ok (.int (-i)) := Eq.trans rfl rfl
def rnot (r : Rs T) : Rs T := r.bind fun x => (truthT x).bind fun b => .ok (.bl (!b))
@[simp] theorem rnot_ok (b) : rnot (.ok (.bl b)) = .ok (.bl (!b)) := Eq.trans rfl rfl
def rnotb (r : Rs T) : Rs T := r.bind fun x => match x with | .bl b => .ok (.bl (!b)) | _ => .no
theorem rnotb_ok (b) : rnotb (.ok (.bl b)) = .ok (.bl (!b)) := Eq.trans rfl rfl
def rneb (r s : Rs T) : Rs T := r.bind fun x => s.bind fun y => match x, y with | .bl c, .bl d => .ok (.bl (!decide (c = d))) | _, _ => .no
theorem rneb_ok (b c) : rneb (.ok (.bl b)) (.ok (.bl c)) = .ok (.bl (!decide (b = c))) := Eq.trans rfl rfl
def rand (r s : Rs T) : Rs T := r.bind fun x => match x with | .bl c => if c then s else .ok (.bl false) | _ => .no
@[simp] theorem rand_t (s) : rand (.ok (.bl true)) s = s := Eq.trans rfl rfl
@[simp] theorem rand_f (s) : rand (.ok (.bl false)) s = .ok (.bl false) := Eq.trans rfl rfl
@[simp] theorem rand_ok (c d) : rand (.ok (.bl c)) (.ok (.bl d)) = .ok (.bl (c && d)) := by cases c <;> rfl
def ror (r s : Rs T) : Rs T := r.bind fun x => match x with | .bl c => if c then .ok (.bl true) else s | _ => .no
@[simp] theorem ror_t (s) : ror (.ok (.bl true)) s = .ok (.bl true) := Eq.trans rfl rfl
@[simp] theorem ror_f (s) : ror (.ok (.bl false)) s = s := Eq.trans rfl rfl
@[simp] theorem ror_ok (c d) : ror (.ok (.bl c)) (.ok (.bl d)) = .ok (.bl (c || d)) := by cases c <;> rfl
def rchain (o1 o2 : COp) (r s u : Rs T) : Rs T := r.bind fun x => s.bind fun y => (cmpT o1 x y).bind fun r => match r with
      | .bl true => u.bind fun z => cmpT o2 y z
      | .bl false => .ok (.bl false)
      | _ => .no
@[simp] theorem rchain_ok (o1 o2 x y z) : rchain o1 o2 (.ok x) (.ok y) (.ok z) = rand (cmpT o1 x y) (cmpT o2 y z) := by
  show (cmpT o1 x y).bind _ = (cmpT o1 x y).bind _
  congr 1
  funext r
  cases r <;> first | rfl | (rename_i b; cases b <;> rfl)
def rite (c : Rs T) (a b : Rs T) : Rs T := (c.bind truthT).bind fun t => if t then a else b
@[simp] theorem rite_t (a b) : rite (.ok (.bl true)) a b = a := Eq.trans rfl rfl
@[simp] theorem rite_f (a b) : rite (.ok (.bl false)) a b = b := Eq.trans rfl rfl
def rcall (cf : CF) (f : Nat) (sto : List Ob) (r : Rs (List T)) : Rs T := r.bind fun ts => match cf f (ts.map view) sto true with
      | .ok t [] _ => .ok t
      | .ex e [] _ => .ex e
      | _ => .no
def unfr (r : FR) : Rs T := match r with
      | .ok t [] _ => .ok t
      | .ex e [] _ => .ex e
      | _ => .no
@[simp] theorem unfr_ok (t sto) : unfr (.ok t [] sto) = .ok t := Eq.trans rfl rfl
@[simp] theorem unfr_ex (t sto) : unfr (.ex t [] sto) = .ex t := Eq.trans rfl rfl
@[simp] theorem rcall_ok (cf f sto ts) : rcall cf f sto (.ok ts) = unfr (cf f (ts.map view) sto true) := Eq.trans rfl rfl
def rblt (f : BF) (r : Rs (List T)) : Rs T := r.bind fun ts => bltT f ts
@[simp] theorem rblt_ok (f ts) : rblt f (.ok ts) = bltT f ts := Eq.trans rfl rfl
/-! methods of plain values -/
def rbm (m : BM) (r : Rs T) (s : Rs (List T)) : Rs T := r.bind fun x => if bmB m x then s.bind fun ts => bmT m x ts else .no
theorem rbm_bitl (i) : rbm .bitl (.ok (.int i)) (.ok []) = .ok (.int (Builtin.Int.intBits i : Nat)) := Eq.trans rfl rfl
theorem rbm_join (x z n ts) : rbm .join (.ok (.str x)) (.ok [.lst z n ts]) = bmT .join (.str x) [.lst z n ts] := Eq.trans rfl rfl
theorem rbm_split (x y) : rbm .split (.ok (.str x)) (.ok [.str y]) = bmT .split (.str x) [.str y] := Eq.trans rfl rfl
theorem rbm_upper (x) : rbm .upper (.ok (.str x)) (.ok []) = bmT .upper (.str x) [] := Eq.trans rfl rfl
theorem rbm_index (z n ts x) : rbm .index (.ok (.lst z n ts)) (.ok [x]) = bmT .index (.lst z n ts) [x] := Eq.trans rfl rfl
/-! dicts -/
def rdis1 (r s : Rs T) : Rs T := r.bind fun x => s.bind fun y => (ofO (keyT x)).bind fun k => if flat y then .ok (.dic false false [k] [y]) else .no
def rdg2 (n : Bool) (ks : List L2.Key) (ts : List T) (y : T) : Rs T := (ofO (keyT y)).bind fun key => .ok (match dgetT ks ts key with
      | some t => if n then view t else t
      | none => .non)
def rdget (r s : Rs T) : Rs T := r.bind fun x => match x with
    | .dic z n ks ts => s.bind (rdg2 n ks ts)
    | _ => .no
theorem rdget_ok (z n ks ts s) : rdget (.ok (.dic z n ks ts)) (.ok s) = rdg2 n ks ts s := Eq.trans rfl rfl
theorem rdg2_int (n ks ts i) : rdg2 n ks ts (.int i) = .ok (match dgetT ks ts (.inl i) with
      | some t => if n then view t else t
      | none => .non) := Eq.trans rfl rfl
theorem rdg2_str (n ks ts i) : rdg2 n ks ts (.str i) = .ok (match dgetT ks ts (.inr i) with
      | some t => if n then view t else t
      | none => .non) := Eq.trans rfl rfl
theorem ix_dici (z n ks ts i) : ixT (.dic z n ks ts) (.int i) = (ofO (dgetT ks ts (.inl i))).bind fun t => .ok (if n then view t else t) := Eq.trans rfl rfl
theorem ix_dics (z n ks ts i) : ixT (.dic z n ks ts) (.str i) = (ofO (dgetT ks ts (.inr i))).bind fun t => .ok (if n then view t else t) := Eq.trans rfl rfl
theorem cmp_indi (z n ks ts i) : cmpT .in_ (.int i) (.dic z n ks ts) = .ok (.bl (kix ks (.inl i)).isSome) := Eq.trans rfl rfl
theorem cmp_nindi (z n ks ts i) : cmpT .nin (.int i) (.dic z n ks ts) = .ok (.bl (!(kix ks (.inl i)).isSome)) := Eq.trans rfl rfl
theorem cmp_inds (z n ks ts i) : cmpT .in_ (.str i) (.dic z n ks ts) = .ok (.bl (kix ks (.inr i)).isSome) := Eq.trans rfl rfl
theorem cmp_ninds (z n ks ts i) : cmpT .nin (.str i) (.dic z n ks ts) = .ok (.bl (!(kix ks (.inr i)).isSome)) := Eq.trans rfl rfl
theorem truth_dic (z n ks ts) : truthT (.dic z n ks ts) = .ok (!ks.isEmpty) := Eq.trans rfl rfl
theorem blt_lend (z n ks ts) : bltT .len [.dic z n ks ts] = .ok (.int ks.length) := Eq.trans rfl rfl
theorem view_dic (z n ks ts) : view (.dic z n ks ts) = .dic true n ks ts := Eq.trans rfl rfl
theorem blt_sortd (z n ks ts) (h : ks.length < 64) : bltT .sorted [.dic z n ks ts] = (ofO (intsK ks)).bind fun ns => .ok (.lst false false ((srtI ns).map T.int)) := if_pos h
theorem intsK_map' : ∀ ns : List Int, intsK (ns.map Sum.inl) = some ns
  | [] => rfl
  | n :: ns => by rw [List.map_cons]; unfold intsK; rw [intsK_map' ns]; rfl
def risi (t : BT) (r : Rs T) : Rs T := r.bind fun x => (ofO (isaB x t)).bind fun b => .ok (.bl b)
theorem risi_ok (t x) : risi t (.ok x) = (ofO (isaB x t)).bind fun b => .ok (.bl b) := Eq.trans rfl rfl
@[simp] theorem risi_int (t i) : risi t (.ok (.int i)) = .ok (.bl (decide (t = .int))) := by cases t <;> rfl
@[simp] theorem risi_bl (t i) : risi t (.ok (.bl i)) = .ok (.bl (decide (t = .int ∨ t = .bool))) := by cases t <;> rfl
@[simp] theorem risi_str (t i) : risi t (.ok (.str i)) = .ok (.bl (decide (t = .str))) := by cases t <;> rfl
@[simp] theorem risi_non (t) : risi t (.ok .non) = .ok (.bl false) := by cases t <;> rfl
@[simp] theorem risi_lst (t z n ts) : risi t (.ok (.lst z n ts)) = .ok (.bl (decide (t = .list))) := by cases t <;> rfl
theorem risi_dic (t z n ks ts) : risi t (.ok (.dic z n ks ts)) = .ok (.bl (decide (t = .dict))) := by cases t <;> rfl
@[simp] theorem risi_tup (t ts) : risi t (.ok (.tup ts)) = .ok (.bl (decide (t = .tuple))) := by cases t <;> rfl
def rix (r s : Rs T) : Rs T := r.bind fun x => s.bind fun y => ixT x y
@[simp] theorem rix_ok (x y) : rix (.ok x) (.ok y) = ixT x y := Eq.trans rfl rfl
def rsrtk (j : Nat) (r : Rs T) : Rs T := r.bind fun x => srtkT j x
@[simp] theorem rsrtk_ok (j x) : rsrtk j (.ok x) = srtkT j x := Eq.trans rfl rfl
def rslc (r : Rs T) (l h : Rs (Option Int)) : Rs T := r.bind fun x => l.bind fun l => h.bind fun h => slcT x l h
@[simp] theorem rslc_ok (x l h) : rslc (.ok x) (.ok l) (.ok h) = slcT x l h := Eq.trans rfl rfl
def rtup (r : Rs (List T)) : Rs T := r.bind fun ts => if ts.length ≤ 1000 then .ok (.tup ts) else .no
@[simp] theorem rtup_ok (ts) : rtup (.ok ts) = if ts.length ≤ 1000 then .ok (.tup ts) else .no := Eq.trans rfl rfl
def rlst (r : Rs (List T)) : Rs T := r.bind fun ts => if ts.length ≤ 1000 && cleanL ts then .ok (.lst false (!flatL ts) ts) else .no
@[simp] theorem rlst_ok (ts) : rlst (.ok ts) = if ts.length ≤ 1000 && cleanL ts then .ok (.lst false (!flatL ts) ts) else .no := Eq.trans rfl rfl
def rcons (r : Rs T) (s : Rs (List T)) : Rs (List T) := r.bind fun t => s.bind fun ts => .ok (t :: ts)
@[simp] theorem rcons_ok (t ts) : rcons (.ok t) (.ok ts) = .ok (t :: ts) := Eq.trans rfl rfl
def rint (r : Rs T) : Rs (Option Int) := r.bind fun t => match t with | .int i => .ok (some i) | _ => .no
@[simp] theorem rint_ok (i) : rint (.ok (.int i)) = .ok (some i) := Eq.trans rfl rfl
section
variable {cf : CF} {env : En} {sto : List Ob}
theorem pv_var (i) : pv cf env sto (.var i) = rview (getV env i) := Eq.trans rfl rfl
theorem pv_int (i) : pv cf env sto (.int i) = .ok (.int i) := Eq.trans rfl rfl
theorem pv_str (i) : pv cf env sto (.str i) = .ok (.str i) := Eq.trans rfl rfl
theorem pv_bl (i) : pv cf env sto (.bl i) = .ok (.bl i) := Eq.trans rfl rfl
theorem pv_non : pv cf env sto .non = .ok .non := Eq.trans rfl rfl
theorem pv_bin (op a b) : pv cf env sto (.bin op a b) = rbin op (pv cf env sto a) (pv cf env sto b) := Eq.trans rfl rfl
theorem pv_neg (a) : pv cf env sto (.neg a) = rneg (pv cf env sto a) := Eq.trans rfl rfl
theorem pv_not (a) : pv cf env sto (.not a) = rnot (pv cf env sto a) := Eq.trans rfl rfl
theorem pv_and (a b) : pv cf env sto (.and a b) = rand (pv cf env sto a) (pv cf env sto b) := Eq.trans rfl rfl
theorem pv_or (a b) : pv cf env sto (.or a b) = ror (pv cf env sto a) (pv cf env sto b) := Eq.trans rfl rfl
theorem pv_cmp (op a b) : pv cf env sto (.cmp op a b) = rcmp op (pv cf env sto a) (pv cf env sto b) := Eq.trans rfl rfl
theorem pv_chain (o1 o2 a b c) : pv cf env sto (.chain o1 o2 a b c) = rchain o1 o2 (pv cf env sto a) (pv cf env sto b) (pv cf env sto c) := Eq.trans rfl rfl
theorem pv_ite (c a b) : pv cf env sto (.ite c a b) = rite (pv cf env sto c) (pv cf env sto a) (pv cf env sto b) := Eq.trans rfl rfl
theorem pv_call (f as) : pv cf env sto (.call f as) = rcall cf f sto (pvs cf env sto as) := Eq.trans rfl rfl
theorem pv_blt (f as) : pv cf env sto (.blt f as) = rblt f (pvs cf env sto as) := Eq.trans rfl rfl
theorem pv_srtk (f j a) : pv cf env sto (.srtk f j a) = rsrtk j (pv cf env sto a) := Eq.trans rfl rfl
theorem pv_dnew : pv cf env sto .dnew = .ok (.dic false false [] []) := Eq.trans rfl rfl
theorem pv_dis1 (k v) : pv cf env sto (.dis1 k v) = rdis1 (pv cf env sto k) (pv cf env sto v) := Eq.trans rfl rfl
theorem pv_dget (d k) : pv cf env sto (.dget d k) = rdget (pv cf env sto d) (pv cf env sto k) := by
  rw [pv]
  unfold rdget rdg2
  cases pv cf env sto d with
  | ok x => cases x <;> rfl
  | ex e => rfl
  | no => rfl
theorem pv_bm (a m as) : pv cf env sto (.bm a m as) = rbm m (pv cf env sto a) (pvs cf env sto as) := Eq.trans rfl rfl
theorem pv_isi (a t) : pv cf env sto (.isi a t) = risi t (pv cf env sto a) := Eq.trans rfl rfl
theorem pv_ix (a i) : pv cf env sto (.ix a i) = rix (pv cf env sto a) (pv cf env sto i) := Eq.trans rfl rfl
theorem pv_slc (a l h) : pv cf env sto (.slc a l h) = rslc (pv cf env sto a) (pvo cf env sto l) (pvo cf env sto h) := Eq.trans rfl rfl
theorem pv_tup (as) : pv cf env sto (.tup as) = rtup (pvs cf env sto as) := Eq.trans rfl rfl
theorem pv_lst (as) : pv cf env sto (.lst as) = rlst (pvs cf env sto as) := Eq.trans rfl rfl
/-- a comprehension; its items by lc_fact -/
def lcG (cf : CF) (env : En) (sto : List Ob) (v : Nat) (tst elt : E) (r : Rs T) : Rs T := r.bind fun t => match items t with
      | some ts => lcV (fun x => pv cf (env.set v (some x)) sto tst) (fun x => pv cf (env.set v (some x)) sto elt) ts
      | none => .no
theorem pv_lc (v it tst elt) : pv cf env sto (.lc v it tst elt) = lcG cf env sto v tst elt (pv cf env sto it) := Eq.trans rfl rfl
def lcGr (cf : CF) (env : En) (sto : List Ob) (v : Nat) (tst elt : E) (r s : Rs T) : Rs T := r.bind fun x => s.bind fun y => match x, y with
      | .int l, .int h => if -(2 ^ 62) ≤ l ∧ l < 2 ^ 62 ∧ -(2 ^ 62) ≤ h ∧ h < 2 ^ 62 then
          lcV (fun x => pv cf (env.set v (some x)) sto tst) (fun x => pv cf (env.set v (some x)) sto elt) (intsT l (h - l).toNat) else .no
      | _, _ => .no
theorem pv_lcr (v lo hi tst elt) : pv cf env sto (.lcr v lo hi tst elt) = lcGr cf env sto v tst elt (pv cf env sto lo) (pv cf env sto hi) := Eq.trans rfl rfl
theorem lcR_map {α : Type} {f g : T → Rs T} (enc G : α → T) (P : α → Bool) : ∀ (qs : List α), (∀ q ∈ qs, (f (enc q)).bind truthT = .ok (P q)) → (∀ q ∈ qs, P q = true → g (enc q) = .ok (G q)) → (∀ q ∈ qs, flat (G q) = true) → lcR f g (qs.map enc) = some ((qs.filter P).map G)
  | [], _, _, _ => rfl
  | q :: qs, h1, h2, h3 => by
    have ih := lcR_map (f := f) (g := g) enc G P qs (fun q h => h1 q (by simp [h])) (fun q h => h2 q (by simp [h])) (fun q h => h3 q (by simp [h]))
    have a1 := h1 q (by simp)
    have a2 := h2 q (by simp)
    have a3 := h3 q (by simp)
    rw [List.map_cons]
    unfold lcR
    rw [a1]
    cases hP : P q with
    | false => rw [List.filter_cons_of_neg (by simp [hP])]; exact ih
    | true => rw [List.filter_cons_of_pos hP, a2 hP, List.map_cons]; dsimp only; rw [if_pos a3, ih]; rfl
theorem flatL_map {α : Type} {enc : α → T} : ∀ (qs : List α), (∀ q ∈ qs, flat (enc q) = true) → flatL (qs.map enc) = true
  | [], _ => rfl
  | q :: qs, h => by simp only [List.map_cons, flatL, h q (by simp), flatL_map qs fun q hq => h q (by simp [hq]), Bool.and_self]
theorem lc_fact {α : Type} {v : Nat} {tst elt : E} {z : Bool} (enc G : α → T) (P : α → Bool) (qs : List α) (hz : qs.length ≤ sizeT) (hf : ∀ q ∈ qs, flat (enc q) = true) (ht : ∀ q ∈ qs, (pv cf (env.set v (some (enc q))) sto tst).bind truthT = .ok (P q))
    (hg : ∀ q ∈ qs, P q = true → pv cf (env.set v (some (enc q))) sto elt = .ok (G q)) (hG : ∀ q ∈ qs, flat (G q) = true) : lcG cf env sto v tst elt (.ok (.lst z false (qs.map enc))) = .ok (.lst false false ((qs.filter P).map G)) := by
  show lcV _ _ (qs.map enc) = _
  unfold lcV
  rw [lcR_map enc G P qs ht hg hG, flatL_map qs hf, List.length_map]
  rw [if_pos (by simpa using hz)]
theorem pvs_nil : pvs cf env sto .nil = .ok [] := Eq.trans rfl rfl
theorem pvs_cons (a as) : pvs cf env sto (.cons a as) = rcons (pv cf env sto a) (pvs cf env sto as) := Eq.trans rfl rfl
theorem pvo_none : pvo cf env sto .none = .ok none := Eq.trans rfl rfl
theorem pvo_some (a) : pvo cf env sto (.some a) = rint (pv cf env sto a) := Eq.trans rfl rfl
/-! tests -/
def tnot (r : Rs Bool) : Rs Bool := r.bind fun b => .ok (!b)
@[simp] theorem tnot_ok (b) : tnot (.ok b) = .ok (!b) := Eq.trans rfl rfl
def tand (r s : Rs Bool) : Rs Bool := r.bind fun c => if c then s else .ok false
@[simp] theorem tand_t (s) : tand (.ok true) s = s := Eq.trans rfl rfl
@[simp] theorem tand_f (s) : tand (.ok false) s = .ok false := Eq.trans rfl rfl
@[simp] theorem tand_ok (c d) : tand (.ok c) (.ok d) = .ok (c && d) := by cases c <;> rfl
def tor (r s : Rs Bool) : Rs Bool := r.bind fun c => if c then .ok true else s
@[simp] theorem tor_t (s) : tor (.ok true) s = .ok true := Eq.trans rfl rfl
@[simp] theorem tor_f (s) : tor (.ok false) s = s := Eq.trans rfl rfl
@[simp] theorem tor_ok (c d) : tor (.ok c) (.ok d) = .ok (c || d) := by cases c <;> rfl
def tru (r : Rs T) : Rs Bool := r.bind truthT
@[simp] theorem tru_ok (x) : tru (.ok x) = truthT x := Eq.trans rfl rfl
@[simp] theorem truth_bl (b) : truthT (.bl b) = .ok b := Eq.trans rfl rfl
@[simp] theorem truth_non : truthT .non = .ok false := Eq.trans rfl rfl
@[simp] theorem truth_int (i) : truthT (.int i) = .ok (decide (i ≠ 0)) := Eq.trans rfl rfl
@[simp] theorem truth_lst (z n ts) : truthT (.lst z n ts) = .ok (!ts.isEmpty) := Eq.trans rfl rfl
theorem tv_not (a) : tv cf env sto (.not a) = tnot (tv cf env sto a) := Eq.trans rfl rfl
theorem tv_and (a b) : tv cf env sto (.and a b) = tand (tv cf env sto a) (tv cf env sto b) := Eq.trans rfl rfl
theorem tv_or (a b) : tv cf env sto (.or a b) = tor (tv cf env sto a) (tv cf env sto b) := Eq.trans rfl rfl
theorem tv_var (i) : tv cf env sto (.var i) = tru (pv cf env sto (.var i)) := Eq.trans rfl rfl
theorem tv_bl (i) : tv cf env sto (.bl i) = tru (pv cf env sto (.bl i)) := Eq.trans rfl rfl
theorem tv_cmp (op a b) : tv cf env sto (.cmp op a b) = tru (pv cf env sto (.cmp op a b)) := Eq.trans rfl rfl
theorem tv_chain (o1 o2 a b c) : tv cf env sto (.chain o1 o2 a b c) = tru (pv cf env sto (.chain o1 o2 a b c)) := Eq.trans rfl rfl
theorem tv_call (f as) : tv cf env sto (.call f as) = tru (pv cf env sto (.call f as)) := Eq.trans rfl rfl
theorem tv_blt (f as) : tv cf env sto (.blt f as) = tru (pv cf env sto (.blt f as)) := Eq.trans rfl rfl
theorem tv_dget (a m) : tv cf env sto (.dget a m) = tru (pv cf env sto (.dget a m)) := Eq.trans rfl rfl
theorem tv_bm (a m as) : tv cf env sto (.bm a m as) = tru (pv cf env sto (.bm a m as)) := Eq.trans rfl rfl
theorem tv_isi (a t) : tv cf env sto (.isi a t) = tru (pv cf env sto (.isi a t)) := Eq.trans rfl rfl
theorem tv_ix (a i) : tv cf env sto (.ix a i) = tru (pv cf env sto (.ix a i)) := Eq.trans rfl rfl
theorem tv_bin (op a b) : tv cf env sto (.bin op a b) = tru (pv cf env sto (.bin op a b)) := Eq.trans rfl rfl
/-! names -/
@[simp] theorem getV_0 (t : T) (env : En) : getV (some t :: env) 0 = .ok t := Eq.trans rfl rfl
@[simp] theorem getV_s (o : Option T) (env : En) (i : Nat) : getV (o :: env) (i + 1) = getV env i := Eq.trans rfl rfl
/-! operators -/
@[simp] theorem bin_add (i j) : binT .add (.int i) (.int j) = .ok (.int (i + j)) := Eq.trans rfl rfl
@[simp] theorem bin_sub (i j) : binT .sub (.int i) (.int j) = .ok (.int (i - j)) := Eq.trans rfl rfl
theorem bin_mul (i j) (h : mulOk i j = true) : binT .mul (.int i) (.int j) = .ok (.int (i * j)) := if_pos h
theorem natAbs_lt {j : Int} (h1 : -18446744073709551616 < j) (h2 : j < 18446744073709551616) : j.natAbs < 18446744073709551616 := by omega
theorem bin_mulr (i j : Int) (h1 : -18446744073709551616 < j) (h2 : j < 18446744073709551616) : binT .mul (.int i) (.int j) = .ok (.int (i * j)) := bin_mul i j (by simp [mulOk, natAbs_lt h1 h2])
theorem bin_mull (i j : Int) (h1 : -18446744073709551616 < i) (h2 : i < 18446744073709551616) : binT .mul (.int i) (.int j) = .ok (.int (i * j)) := bin_mul i j (by simp [mulOk, natAbs_lt h1 h2])
theorem bin_rep (z ts) (k : Int) (h1 : -9223372036854775808 ≤ k) (h2 : k < 9223372036854775808) (h3 : ts.length * k.toNat ≤ sizeT) : binT .mul (.lst z false ts) (.int k) = .ok (.lst false false (List.replicate k.toNat ts).flatten) :=
  if_pos (by simp only [Bool.and_eq_true, decide_eq_true_eq]; exact ⟨⟨by omega, by omega⟩, h3⟩)
theorem bin_cat (z1 z2) (xs ys : List T) (h : xs.length + ys.length ≤ sizeT) : binT .add (.lst z1 false xs) (.lst z2 false ys) = .ok (.lst false false (xs ++ ys)) := if_pos h
theorem bin_mod (i j) (h : 0 < j) : binT .mod (.int i) (.int j) = .ok (.int (i % j)) := if_pos h
theorem bin_div (i j) (h : divOk j = true) : binT .fdiv (.int i) (.int j) = .ok (.int (i / j)) := if_pos h
theorem bin_divs (i j : Int) (h1 : 0 < j) (h2 : j < 18446744073709551616) : binT .fdiv (.int i) (.int j) = .ok (.int (i / j)) := bin_div i j (by
  have h3 : j.natAbs.log2 < 64 := (Nat.log2_lt (by omega)).mpr (by omega)
  simp only [divOk, Bool.and_eq_true, decide_eq_true_eq]
  exact ⟨h1, by omega⟩)
theorem bin_pow (i j) (h : powOk i j = true) : binT .pow (.int i) (.int j) = .ok (.int (i ^ j.toNat)) := if_pos h
theorem bin_pows (i j : Int) (h1 : -18446744073709551616 < i) (h2 : i < 18446744073709551616) (h3 : 0 ≤ j) (h4 : j ≤ 1000000) : binT .pow (.int i) (.int j) = .ok (.int (i ^ j.toNat)) := bin_pow i j (by simp [powOk, natAbs_lt h1 h2, h3, h4])
theorem bin_shl (i j) (h : shlOk i j = true) : binT .shl (.int i) (.int j) = .ok (.int (i * 2 ^ j.toNat)) := if_pos h
theorem bin_shr (i j) (h : 0 ≤ j) : binT .shr (.int i) (.int j) = .ok (.int (i / 2 ^ j.toNat)) := if_pos h
theorem bin_shls (i j : Int) (h1 : -(10 ^ 80) < i) (h2 : i < 10 ^ 80) (h3 : 0 ≤ j) (h4 : j ≤ 1000000) : binT .shl (.int i) (.int j) = .ok (.int (i * 2 ^ j.toNat)) := bin_shl i j (by
  have h5 : i.natAbs < 2 ^ 300 := Nat.lt_of_lt_of_le (show i.natAbs < 10 ^ 80 by omega) (by decide)
  have h6 : i.natAbs.log2 < 4096 := by
    by_cases z : i.natAbs = 0
    · rw [z]; decide
    · exact Nat.lt_of_lt_of_le ((Nat.log2_lt z).mpr h5) (by omega)
  simp [shlOk, h3, h4, h6])
@[simp] theorem cmp_lt (i j) : cmpT .lt (.int i) (.int j) = .ok (.bl (decide (i < j))) := Eq.trans rfl rfl
@[simp] theorem cmp_le (i j) : cmpT .le (.int i) (.int j) = .ok (.bl (decide (i ≤ j))) := Eq.trans rfl rfl
@[simp] theorem cmp_gt (i j) : cmpT .gt (.int i) (.int j) = .ok (.bl (decide (j < i))) := Eq.trans rfl rfl
@[simp] theorem cmp_ge (i j) : cmpT .ge (.int i) (.int j) = .ok (.bl (decide (j ≤ i))) := Eq.trans rfl rfl
@[simp] theorem cmp_eq (i j) : cmpT .eq (.int i) (.int j) = .ok (.bl (decide (i = j))) := Eq.trans rfl rfl
@[simp] theorem cmp_ne (i j) : cmpT .ne (.int i) (.int j) = .ok (.bl (!decide (i = j))) := Eq.trans rfl rfl
@[simp] theorem cmp_eqb (i j) : cmpT .eq (.bl i) (.bl j) = .ok (.bl (decide (i = j))) := Eq.trans rfl rfl
@[simp] theorem cmp_neb (i j) : cmpT .ne (.bl i) (.bl j) = .ok (.bl (!decide (i = j))) := Eq.trans rfl rfl
@[simp] theorem cmp_eqni (j) : cmpT .eq .non (.int j) = .ok (.bl false) := Eq.trans rfl rfl
@[simp] theorem cmp_eqin (j) : cmpT .eq (.int j) .non = .ok (.bl false) := Eq.trans rfl rfl
@[simp] theorem cmp_neni (j) : cmpT .ne .non (.int j) = .ok (.bl true) := Eq.trans rfl rfl
@[simp] theorem cmp_nein (j) : cmpT .ne (.int j) .non = .ok (.bl true) := Eq.trans rfl rfl
@[simp] theorem cmp_eqnn : cmpT .eq .non .non = .ok (.bl true) := Eq.trans rfl rfl
@[simp] theorem cmp_nenn : cmpT .ne .non .non = .ok (.bl false) := Eq.trans rfl rfl
@[simp] theorem cmp_is (a) : cmpT .is_ a .non = .ok (.bl (isNon a)) := by cases a <;> rfl
@[simp] theorem cmp_isb (a b) : cmpT .is_ (.bl a) (.bl b) = .ok (.bl (decide (a = b))) := rfl
@[simp] theorem cmp_isn (a) : cmpT .isn a .non = .ok (.bl (!isNon a)) := by cases a <;> rfl
@[simp] theorem isNon_int (i) : isNon (.int i) = false := Eq.trans rfl rfl
@[simp] theorem isNon_non : isNon .non = true := Eq.trans rfl rfl
@[simp] theorem isNon_tup (i) : isNon (.tup i) = false := Eq.trans rfl rfl
@[simp] theorem isNon_lst (z n i) : isNon (.lst z n i) = false := Eq.trans rfl rfl
@[simp] theorem isNon_bl (i) : isNon (.bl i) = false := Eq.trans rfl rfl
@[simp] theorem blt_lenl (z n ts) : bltT .len [.lst z n ts] = .ok (.int ts.length) := Eq.trans rfl rfl
@[simp] theorem blt_lent (ts) : bltT .len [.tup ts] = .ok (.int ts.length) := Eq.trans rfl rfl
@[simp] theorem blt_inti (i) : bltT .int [.int i] = .ok (.int i) := Eq.trans rfl rfl
@[simp] theorem blt_intb (i) : bltT .int [.bl i] = .ok (.int (if i then 1 else 0)) := Eq.trans rfl rfl
@[simp] theorem blt_list (z ts) : bltT .list [.lst z false ts] = .ok (.lst false false ts) := Eq.trans rfl rfl
@[simp] theorem blt_max (i j) : bltT .max2 [.int i, .int j] = .ok (.int (if j > i then j else i)) := Eq.trans rfl rfl
@[simp] theorem blt_min (i j) : bltT .min2 [.int i, .int j] = .ok (.int (if j < i then j else i)) := Eq.trans rfl rfl
theorem intsL_map : ∀ ns : List Int, intsL (ns.map T.int) = some ns
  | [] => rfl
  | n :: ns => by rw [List.map_cons]; unfold intsL; rw [intsL_map ns]; rfl
@[simp] theorem blt_tup (z ts) : bltT .tuple [.lst z false ts] = .ok (.tup ts) := Eq.trans rfl rfl
@[simp] theorem blt_sum (z n) (ns : List Int) : bltT .sum [.lst z n (ns.map T.int)] = .ok (.int ns.sum) := by
  show (ofO (intsL (ns.map T.int))).bind _ = _
  rw [intsL_map]; rfl
theorem blt_max1 (z n) (i : Int) (ns : List Int) : bltT .max1 [.lst z n ((i :: ns).map T.int)] = .ok (.int (maxL i ns)) := by
  show (match intsL ((i :: ns).map T.int) with | some (n :: ns) => Rs.ok (T.int (maxL n ns)) | _ => .no) = _
  rw [intsL_map]
theorem blt_min1 (z n) (i : Int) (ns : List Int) : bltT .min1 [.lst z n ((i :: ns).map T.int)] = .ok (.int (minL i ns)) := by
  show (match intsL ((i :: ns).map T.int) with | some (n :: ns) => Rs.ok (T.int (minL n ns)) | _ => .no) = _
  rw [intsL_map]
@[simp] theorem blt_min3 (i j k) : bltT .min3 [.int i, .int j, .int k] = .ok (.int (minL i [j, k])) := Eq.trans rfl rfl
theorem blt_sorti (z n) (ns : List Int) : bltT .sorted [.lst z n (ns.map T.int)] = .ok (.lst false false ((srtI ns).map T.int)) := by
  show (ofO (sortT (ns.map T.int))).bind _ = _
  unfold sortT
  rw [intsL_map]; rfl
@[simp] theorem blt_strs (x) : bltT .str [.str x] = .ok (.str x) := Eq.trans rfl rfl
theorem blt_stri (i : Int) (h : i.natAbs.log2 < 1920) : bltT .str [.int i] = .ok (.str (toString i)) := if_pos h
/-! in -/
theorem cmp_inl (x z n ts) : cmpT .in_ x (.lst z n ts) = (ofO (inT x ts)).bind fun c => .ok (.bl c) := by cases x <;> exact Eq.trans rfl rfl
theorem cmp_ninl (x z n ts) : cmpT .nin x (.lst z n ts) = (ofO (inT x ts)).bind fun c => .ok (.bl (!c)) := by cases x <;> exact Eq.trans rfl rfl
theorem cmp_int (x ts) : cmpT .in_ x (.tup ts) = (ofO (inTt x ts)).bind fun c => .ok (.bl c) := by cases x <;> exact Eq.trans rfl rfl
theorem cmp_nint (x ts) : cmpT .nin x (.tup ts) = (ofO (inTt x ts)).bind fun c => .ok (.bl (!c)) := by cases x <;> exact Eq.trans rfl rfl
theorem inT_sc {x : T} {ts : List T} (h1 : scT x = true) (h2 : ts.all scT = true) : inT x ts = some (ts.any fun y => eqS y x) := by unfold inT; rw [h1, h2]; rfl
theorem inTt_sc {x : T} {ts : List T} (h1 : scT x = true) (h2 : ts.all scT = true) : inTt x ts = some (ts.any fun y => eqS y x) := by unfold inTt; rw [h1, h2]; rfl
theorem all_int : ∀ ns : List Int, (ns.map T.int).all scT = true
  | [] => rfl
  | n :: ns => by rw [List.map_cons, List.all_cons, all_int ns]; rfl
theorem all_bl : ∀ ns : List Bool, (ns.map T.bl).all scT = true
  | [] => rfl
  | n :: ns => by rw [List.map_cons, List.all_cons, all_bl ns]; rfl
theorem any_int (i : Int) : ∀ ns : List Int, ((ns.map T.int).any fun y => eqS y (.int i)) = decide (i ∈ ns)
  | [] => by simp
  | n :: ns => by
    rw [List.map_cons, List.any_cons, any_int i ns]
    show (n == i || _) = _
    by_cases h : n = i
    · subst h; simp
    · have : i ≠ n := fun z => h z.symm
      simp [h, this]
theorem any_bl (b : Bool) : ∀ ns : List Bool, ((ns.map T.bl).any fun y => eqS y (.bl b)) = decide (b ∈ ns)
  | [] => by simp
  | n :: ns => by
    rw [List.map_cons, List.any_cons, any_bl b ns]
    show (n == b || _) = _
    by_cases h : n = b
    · subst h; simp
    · have : b ≠ n := fun z => h z.symm
      simp [h, this]
@[simp] theorem in_ints (i z n) (ns : List Int) : cmpT .in_ (.int i) (.lst z n (ns.map T.int)) = .ok (.bl (decide (i ∈ ns))) := by rw [cmp_inl, inT_sc rfl (all_int ns), any_int]; rfl
@[simp] theorem nin_ints (i z n) (ns : List Int) : cmpT .nin (.int i) (.lst z n (ns.map T.int)) = .ok (.bl (!decide (i ∈ ns))) := by rw [cmp_ninl, inT_sc rfl (all_int ns), any_int]; rfl
@[simp] theorem in_bls (i z n) (ns : List Bool) : cmpT .in_ (.bl i) (.lst z n (ns.map T.bl)) = .ok (.bl (decide (i ∈ ns))) := by rw [cmp_inl, inT_sc rfl (all_bl ns), any_bl]; rfl
@[simp] theorem nin_bls (i z n) (ns : List Bool) : cmpT .nin (.bl i) (.lst z n (ns.map T.bl)) = .ok (.bl (!decide (i ∈ ns))) := by rw [cmp_ninl, inT_sc rfl (all_bl ns), any_bl]; rfl
@[simp] theorem blt_abs (i) : bltT .abs [.int i] = .ok (.int (if i < 0 then -i else i)) := Eq.trans rfl rfl
theorem slc_str {z : Str} (l h) (hz : z.length ≤ sizeT) : slcT (.str z) l h = .ok (.str (L2.cutS z l h)) := if_pos hz
theorem ix_strc {z : Str} {i : Int} {c : Nat} (hz : z.length ≤ sizeT) (e : L2.atI z.cps.toList i = some c) : ixT (.str z) (.int i) = .ok (.str ⟨#[c]⟩) := by
  refine (if_pos (t := (ofO (L2.atI z.cps.toList i)).bind fun c => Rs.ok (T.str ⟨#[c]⟩)) (e := Rs.no) hz : ixT (.str z) (.int i) = _).trans ?_
  rw [e]; rfl
theorem slc_ok (z ts l h) : slcT (.lst z false ts) l h = .ok (.lst false false (cutT ts l h)) := Eq.trans rfl rfl
theorem ix_lst (z ts i) : ixT (.lst z false ts) (.int i) = ofO (atT ts i) := by
  show (ofO (atT ts i)).bind _ = _
  cases atT ts i <;> rfl
theorem ix_lstn (z ts i) : ixT (.lst z true ts) (.int i) = rview (ofO (atT ts i)) := Eq.trans rfl rfl
theorem ix_tup (ts i) : ixT (.tup ts) (.int i) = rview (ofO (atT ts i)) := Eq.trans rfl rfl
theorem ix_cons (z a ts i) : ixT (.lst z false (a :: ts)) (.int i) = ofO (atT (a :: ts) i) := ix_lst _ _ _
theorem atT_nat (ts : List T) (i : Nat) : atT ts (i : Int) = ts[i]? := by
  unfold atT L2.atI L2.ixN
  rw [if_pos (by omega)]
  by_cases h : (i : Int) < ts.length
  · rw [if_pos h]; simp
  · rw [if_neg h]
    have : ts.length ≤ i := by omega
    simp [this]
theorem atT_pos {ts : List T} {i : Int} (h : 0 ≤ i) : atT ts i = ts[i.toNat]? := by
  obtain ⟨n, rfl⟩ := Int.eq_ofNat_of_zero_le h
  rw [atT_nat]; rfl
theorem ix_at {z} {ts : List T} {i : Int} {t : T} (h : 0 ≤ i) (e : ts[i.toNat]? = some t) : ixT (.lst z false ts) (.int i) = .ok t := by
  rw [ix_lst, atT_pos h, e]; rfl
@[simp] theorem atT_0 (a : T) (ts) : atT (a :: ts) 0 = some a := by have := atT_nat (a :: ts) 0; simpa using this
@[simp] theorem atT_1 (a b : T) (ts) : atT (a :: b :: ts) 1 = some b := by have := atT_nat (a :: b :: ts) 1; simpa using this
@[simp] theorem atT_2 (a b c : T) (ts) : atT (a :: b :: c :: ts) 2 = some c := by have := atT_nat (a :: b :: c :: ts) 2; simpa using this
@[simp] theorem atT_3 (a b c d : T) (ts) : atT (a :: b :: c :: d :: ts) 3 = some d := by have := atT_nat (a :: b :: c :: d :: ts) 3; simpa using this
end
/-! kept values -/
def gkp (r : Rs T) (env : En) (sto : List Ob) : GR T := (r.g env sto).bind fun t env sto => if clean t then .ok t env sto else .no
theorem gkp_ok {t : T} (env sto) (h : clean t = true) : gkp (.ok t) env sto = .ok t env sto := if_pos h
@[simp] theorem gkp_int (i env sto) : gkp (.ok (.int i)) env sto = .ok (.int i) env sto := Eq.trans rfl rfl
@[simp] theorem gkp_bl (i env sto) : gkp (.ok (.bl i)) env sto = .ok (.bl i) env sto := Eq.trans rfl rfl
@[simp] theorem gkp_non (env sto) : gkp (.ok .non) env sto = .ok .non env sto := Eq.trans rfl rfl
@[simp] theorem gkp_str (i env sto) : gkp (.ok (.str i)) env sto = .ok (.str i) env sto := Eq.trans rfl rfl
@[simp] theorem gkp_lst (n ts env sto) : gkp (.ok (.lst false n ts)) env sto = .ok (.lst false n ts) env sto := Eq.trans rfl rfl
@[simp] theorem gkp_ex (e env sto) : gkp (.ex e) env sto = .ex e env sto := Eq.trans rfl rfl
def gkv (r : Rs T) (i : Nat) (env : En) (sto : List Ob) : GR T := match r with
    | .ok t => if flat t then .ok t env sto else if clean t then .ok t (env.set i none) sto else .no
    | _ => .no
@[simp] theorem gkv_int (j i env sto) : gkv (.ok (.int j)) i env sto = .ok (.int j) env sto := Eq.trans rfl rfl
@[simp] theorem gkv_bl (j i env sto) : gkv (.ok (.bl j)) i env sto = .ok (.bl j) env sto := Eq.trans rfl rfl
@[simp] theorem gkv_non (i env sto) : gkv (.ok .non) i env sto = .ok .non env sto := Eq.trans rfl rfl
@[simp] theorem gkv_str (j i env sto) : gkv (.ok (.str j)) i env sto = .ok (.str j) env sto := Eq.trans rfl rfl
@[simp] theorem gkv_lst (n ts i env sto) : gkv (.ok (.lst false n ts)) i env sto = .ok (.lst false n ts) (env.set i none) sto := Eq.trans rfl rfl
theorem gkv_flat {t : T} (i env sto) (h : flat t = true) : gkv (.ok t) i env sto = .ok t env sto := if_pos h
def gktup (r : GR (List T)) : GR T := r.bind fun ts env sto => if ts.length ≤ 1000 then .ok (.tup ts) env sto else .no
@[simp] theorem gktup_ok (ts env sto) : gktup (.ok ts env sto) = if ts.length ≤ 1000 then .ok (.tup ts) env sto else .no := Eq.trans rfl rfl
def gklst (r : GR (List T)) : GR T := r.bind fun ts env sto => if ts.length ≤ 1000 then .ok (.lst false (!flatL ts) ts) env sto else .no
@[simp] theorem gklst_ok (ts env sto) : gklst (.ok ts env sto) = if ts.length ≤ 1000 then .ok (.lst false (!flatL ts) ts) env sto else .no := Eq.trans rfl rfl
def kcons (cf : CF) (es : Es) (t : T) (env : En) (sto : List Ob) : GR (List T) := (kvs cf es env sto).bind fun ts env sto => .ok (t :: ts) env sto
def kpre (t : T) (ts : List T) (env : En) (sto : List Ob) : GR (List T) := .ok (t :: ts) env sto
theorem kpre_eq (t ts env sto) : kpre t ts env sto = .ok (t :: ts) env sto := Eq.trans rfl rfl
section
variable {cf : CF} {env : En} {sto : List Ob}
theorem kcons_eq (es t) : kcons cf es t env sto = (kvs cf es env sto).bind (kpre t) := Eq.trans rfl rfl
theorem kv_var (i) : kv cf (.var i) env sto = gkv (getV env i) i env sto := Eq.trans rfl rfl
theorem kv_tup (as) : kv cf (.tup as) env sto = gktup (kvs cf as env sto) := Eq.trans rfl rfl
theorem kv_lst (as) : kv cf (.lst as) env sto = gklst (kvs cf as env sto) := Eq.trans rfl rfl
theorem kvs_nil : kvs cf .nil env sto = .ok [] env sto := Eq.trans rfl rfl
theorem kvs_cons (e es) : kvs cf (.cons e es) env sto = (kv cf e env sto).bind (kcons cf es) := Eq.trans rfl rfl
theorem kv_int (i) : kv cf (.int i) env sto = .ok (.int i) env sto := Eq.trans rfl rfl
theorem kv_str (i) : kv cf (.str i) env sto = .ok (.str i) env sto := Eq.trans rfl rfl
theorem kv_bl (i) : kv cf (.bl i) env sto = .ok (.bl i) env sto := Eq.trans rfl rfl
theorem kv_non : kv cf .non env sto = .ok .non env sto := Eq.trans rfl rfl
theorem kv_bin (op a b) : kv cf (.bin op a b) env sto = gkp (pv cf env sto (.bin op a b)) env sto := Eq.trans rfl rfl
theorem kv_neg (a) : kv cf (.neg a) env sto = gkp (pv cf env sto (.neg a)) env sto := Eq.trans rfl rfl
theorem kv_not (a) : kv cf (.not a) env sto = gkp (pv cf env sto (.not a)) env sto := Eq.trans rfl rfl
theorem kv_and (a b) : kv cf (.and a b) env sto = gkp (pv cf env sto (.and a b)) env sto := Eq.trans rfl rfl
theorem kv_or (a b) : kv cf (.or a b) env sto = gkp (pv cf env sto (.or a b)) env sto := Eq.trans rfl rfl
theorem kv_cmp (op a b) : kv cf (.cmp op a b) env sto = gkp (pv cf env sto (.cmp op a b)) env sto := Eq.trans rfl rfl
theorem kv_chain (o1 o2 a b c) : kv cf (.chain o1 o2 a b c) env sto = gkp (pv cf env sto (.chain o1 o2 a b c)) env sto := Eq.trans rfl rfl
theorem kv_ite (c a b) : kv cf (.ite c a b) env sto = gkp (pv cf env sto (.ite c a b)) env sto := Eq.trans rfl rfl
theorem kv_call (f as) : kv cf (.call f as) env sto = gkp (pv cf env sto (.call f as)) env sto := Eq.trans rfl rfl
theorem kv_blt (f as) : kv cf (.blt f as) env sto = gkp (pv cf env sto (.blt f as)) env sto := Eq.trans rfl rfl
theorem kv_srtk (f j a) : kv cf (.srtk f j a) env sto = gkp (pv cf env sto (.srtk f j a)) env sto := Eq.trans rfl rfl
theorem kv_dnew : kv cf .dnew env sto = gkp (pv cf env sto .dnew) env sto := Eq.trans rfl rfl
theorem kv_dis1 (a m) : kv cf (.dis1 a m) env sto = gkp (pv cf env sto (.dis1 a m)) env sto := Eq.trans rfl rfl
theorem kv_dget (a m) : kv cf (.dget a m) env sto = gkp (pv cf env sto (.dget a m)) env sto := Eq.trans rfl rfl
theorem gkp_dic (n ks ts) : gkp (.ok (.dic false n ks ts)) env sto = .ok (.dic false n ks ts) env sto := Eq.trans rfl rfl
theorem kv_bm (a m as) : kv cf (.bm a m as) env sto = gkp (pv cf env sto (.bm a m as)) env sto := Eq.trans rfl rfl
theorem kv_isi (a t) : kv cf (.isi a t) env sto = gkp (pv cf env sto (.isi a t)) env sto := Eq.trans rfl rfl
theorem kv_ix (a i) : kv cf (.ix a i) env sto = gkp (pv cf env sto (.ix a i)) env sto := Eq.trans rfl rfl
theorem kv_lc (v it tst elt) : kv cf (.lc v it tst elt) env sto = gkp (pv cf env sto (.lc v it tst elt)) env sto := Eq.trans rfl rfl
theorem kv_lcr (v lo hi tst elt) : kv cf (.lcr v lo hi tst elt) env sto = gkp (pv cf env sto (.lcr v lo hi tst elt)) env sto := Eq.trans rfl rfl
theorem kv_slc (a l h) : kv cf (.slc a l h) env sto = gkp (pv cf env sto (.slc a l h)) env sto := Eq.trans rfl rfl
end
/-! statements -/
section
variable {N : Nat} {cf : CF} {xs : Nat → Nat → Bool} {lk : Bool} {env : En} {sto : List Ob}
def cSet (i : Nat) (t : T) (env : En) (sto : List Ob) : SR := .nx (env.set i (some t)) sto
theorem cSet_eq (i t) : cSet i t env sto = .nx (env.set i (some t)) sto := Eq.trans rfl rfl
def cRet (t : T) (env : En) (sto : List Ob) : SR := .rt t env sto
theorem cRet_eq (t) : cRet t env sto = .rt t env sto := Eq.trans rfl rfl
def cDrop (t : T) (env : En) (sto : List Ob) : SR := .nx env sto
theorem cDrop_eq (t) : cDrop t env sto = .nx env sto := Eq.trans rfl rfl
def cIf (N : Nat) (cf : CF) (xs : Nat → Nat → Bool) (lk : Bool) (a b : Ss) (c : Bool) (env : En) (sto : List Ob) : SR := if c then exs N cf xs lk a env sto else exs N cf xs lk b env sto
theorem cIf_t (a b) : cIf N cf xs lk a b true env sto = exs N cf xs lk a env sto := Eq.trans rfl rfl
theorem cIf_f (a b) : cIf N cf xs lk a b false env sto = exs N cf xs lk b env sto := Eq.trans rfl rfl
theorem exs_nil : exs N cf xs lk .nil env sto = .nx env sto := Eq.trans rfl rfl
theorem exs_cons (s ss) : exs N cf xs lk (.cons s ss) env sto = (ex N cf xs lk s env sto).thn (exs N cf xs lk ss) := Eq.trans rfl rfl
theorem gv_p (e) : gv cf lk (.p e) env sto = kv cf e env sto := Eq.trans rfl rfl
theorem gt_p (e) : gt cf lk (.p e) env sto = (tv cf env sto e).g env sto := Eq.trans rfl rfl
theorem ex_pass : ex N cf xs lk .pass env sto = .nx env sto := Eq.trans rfl rfl
theorem ex_brk : ex N cf xs lk .brk env sto = .bk env sto := Eq.trans rfl rfl
theorem ex_cnt : ex N cf xs lk .cnt env sto = .ct env sto := Eq.trans rfl rfl
theorem ex_retn : ex N cf xs lk .retn env sto = .rt .non env sto := Eq.trans rfl rfl
theorem ex_ret (c) : ex N cf xs lk (.ret c) env sto = (gv cf lk c env sto).thn cRet := Eq.trans rfl rfl
theorem ex_expr (c) : ex N cf xs lk (.expr c) env sto = (gv cf lk c env sto).thn cDrop := Eq.trans rfl rfl
theorem ex_ife (t a b) : ex N cf xs lk (.ife t a b) env sto = (gt cf lk t env sto).thn (cIf N cf xs lk a b) := Eq.trans rfl rfl
def gset (i j : Nat) (r : Rs T) (env : En) (sto : List Ob) : SR := match r with
      | .ok t => if flat t then .nx (env.set i (some t)) sto else .nx ((env.set j (some (fz t))).set i (some (fz t))) sto
      | _ => .no
@[simp] theorem gset_int (i j x) : gset i j (.ok (.int x)) env sto = .nx (env.set i (some (.int x))) sto := Eq.trans rfl rfl
@[simp] theorem gset_bl (i j x) : gset i j (.ok (.bl x)) env sto = .nx (env.set i (some (.bl x))) sto := Eq.trans rfl rfl
@[simp] theorem gset_non (i j) : gset i j (.ok .non) env sto = .nx (env.set i (some .non)) sto := Eq.trans rfl rfl
theorem ex_mov (i j) : ex N cf xs lk (.mov i j) env sto = (gv cf lk (.p (.var j)) env sto).thn (cSet i) := Eq.trans rfl rfl
theorem ex_setv (i j) : ex N cf xs lk (.set i (.p (.var j))) env sto = gset i j (getV env j) env sto := Eq.trans rfl rfl
theorem ex_set (i c) (h : ∀ j, c ≠ .p (.var j)) : ex N cf xs lk (.set i c) env sto = (gv cf lk c env sto).thn (cSet i) := by
  cases c with
  | p e =>
    cases e with
    | var j => exact absurd rfl (h j)
    | _ => rfl
  | _ => rfl
def tstW (cf : CF) (t : E) (env : En) (sto : List Ob) : Rs Bool := tv cf env sto t
theorem tstW_eq (t) : tstW cf t env sto = tv cf env sto t := Eq.trans rfl rfl
theorem ex_whl (t b) : ex N cf xs lk (.whl t b) env sto = loopW (exs N cf xs lk b) (tstW cf t) N env sto := Eq.trans rfl rfl
def gfv (go : En → List Ob → SR) (i : Nat) (r : Rs T) (env : En) (sto : List Ob) : SR := match r.bind fun t => ofO (items t) with
    | .ok ts => loopL go i ts env sto
    | _ => .no
theorem gfv_l (go i z ts) : gfv go i (.ok (.lst z false ts)) env sto = loopL go i ts env sto := Eq.trans rfl rfl
theorem ex_forv (i j b) : ex N cf xs lk (.forv i j b) env sto = gfv (exs N cf xs lk b) i (getV env j) env sto := Eq.trans rfl rfl
def gfr (go : En → List Ob → SR) (i : Nat) (x y : T) (env : En) (sto : List Ob) : SR := match x, y with
    | .int l, .int h => if -(2 ^ 62) ≤ l ∧ l < 2 ^ 62 ∧ -(2 ^ 62) ≤ h ∧ h < 2 ^ 62 then loopR go i (h - l).toNat l env sto else .no
    | _, _ => .no
theorem gfr_ok (go i) (l h : Int) (hb : -(2 ^ 62) ≤ l ∧ l < 2 ^ 62 ∧ -(2 ^ 62) ≤ h ∧ h < 2 ^ 62) : gfr go i (.int l) (.int h) env sto = loopR go i (h - l).toNat l env sto := if_pos hb
def gfr2 (cf : CF) (go : En → List Ob → SR) (i : Nat) (hi : E) (x : T) (env : En) (sto : List Ob) : SR := ((pv cf env sto hi).g env sto).thn (gfr go i x)
theorem gfr2_eq (go i hi x) : gfr2 cf go i hi x env sto = ((pv cf env sto hi).g env sto).thn (gfr go i x) := Eq.trans rfl rfl
theorem ex_forr (i lo hi b) : ex N cf xs lk (.forr i lo hi b) env sto = ((pv cf env sto lo).g env sto).thn (gfr2 cf (exs N cf xs lk b) i hi) := Eq.trans rfl rfl
def gix (i : Nat) (n : Bool) (ts : List T) (t : T) (y : T) (env : En) (sto : List Ob) : SR := match y with
      | .int j => match L2.ixN ts.length j with
        | some j => .nx (env.set i (some (.lst false (n || !flat t) (ts.set j t)))) sto
        | none => .no
      | _ => .no
theorem gix_ok (i n ts t) (j : Int) (h0 : 0 ≤ j) (h1 : j < ts.length) : gix i n ts t (.int j) env sto = .nx (env.set i (some (.lst false (n || !flat t) (ts.set j.toNat t)))) sto := by
  have e : L2.ixN ts.length j = some j.toNat := by unfold L2.ixN; rw [if_pos h0, if_pos h1]
  show (match L2.ixN ts.length j with
        | some j => SR.nx (env.set i (some (.lst false (n || !flat t) (ts.set j t)))) sto
        | none => .no) = _
  rw [e]
def cIx (cf : CF) (i : Nat) (k : E) (t : T) (env : En) (sto : List Ob) : SR := match env[i]? with
    | some (some (.lst false n ts)) => ((pv cf env sto k).g env sto).thn (gix i n ts t)
    | _ => .no
def cIx2 (cf : CF) (i : Nat) (k : E) (t : T) (r : Rs T) (env : En) (sto : List Ob) : SR := match r with
    | .ok (.lst false n ts) => ((pv cf env sto k).g env sto).thn (gix i n ts t)
    | _ => .no
theorem cIx_eq (i k t) : cIx cf i k t env sto = cIx2 cf i k t (getV env i) env sto := by
  unfold cIx getV
  cases e : env[i]? with
  | none => rfl
  | some o =>
    cases o with
    | none => rfl
    | some t => cases t <;> first | rfl | (rename_i z n ts; cases z <;> rfl)
@[simp] theorem cIx_l (i k t n ts) : cIx2 cf i k t (.ok (.lst false n ts)) env sto = ((pv cf env sto k).g env sto).thn (gix i n ts t) := Eq.trans rfl rfl
theorem ex_setix (i k e) : ex N cf xs lk (.setix i k e) env sto = (kv cf e env sto).thn (cIx cf i k) := Eq.trans rfl rfl
def cApp (i : Nat) (t : T) (env : En) (sto : List Ob) : SR := match env[i]? with
      | some (some (.lst false n ts)) => if ts.length < sizeT then .nx (env.set i (some (.lst false (n || !flat t) (ts ++ [t])))) sto else .no
      | _ => .no
def cApp2 (i : Nat) (t : T) (r : Rs T) (env : En) (sto : List Ob) : SR := match r with
      | .ok (.lst false n ts) => if ts.length < sizeT then .nx (env.set i (some (.lst false (n || !flat t) (ts ++ [t])))) sto else .no
      | _ => .no
theorem cApp_eq (i t) : cApp i t env sto = cApp2 i t (getV env i) env sto := by
  unfold cApp getV
  cases e : env[i]? with
  | none => rfl
  | some o =>
    cases o with
    | none => rfl
    | some t => cases t <;> first | rfl | (rename_i z n ts; cases z <;> rfl)
theorem cApp_l (i t n) (ts : List T) (hz : ts.length < sizeT) : cApp2 i t (.ok (.lst false n ts)) env sto = .nx (env.set i (some (.lst false (n || !flat t) (ts ++ [t])))) sto := if_pos hz
def gApp (cf : CF) (i : Nat) (e : E) (r : Rs T) (env : En) (sto : List Ob) : SR := match r with
    | .ok (.lst false _ _) => (kv cf e env sto).thn (cApp i)
    | _ => .no
@[simp] theorem gApp_l (i e n ts) : gApp cf i e (.ok (.lst false n ts)) env sto = (kv cf e env sto).thn (cApp i) := Eq.trans rfl rfl
theorem ex_app (i e) : ex N cf xs lk (.app i e) env sto = gApp cf i e (getV env i) env sto := by
  show (match env[i]? with
    | some (some (.lst false _ _)) => (kv cf e env sto).thn (cApp i)
    | _ => SR.no) = _
  unfold getV
  cases e : env[i]? with
  | none => rfl
  | some o =>
    cases o with
    | none => rfl
    | some t => cases t <;> first | rfl | (rename_i z n ts; cases z <;> rfl)
theorem loopL_nil (go i) : loopL go i [] env sto = .nx env sto := Eq.trans rfl rfl
theorem loopL_cons (go : En → List Ob → SR) (i t ts) : loopL go i (t :: ts) env sto = (go (env.set i (some t)) sto).turn (loopL go i ts) := Eq.trans rfl rfl
theorem loopR_zero (go i k) : loopR go i 0 k env sto = .nx env sto := Eq.trans rfl rfl
theorem loopR_succ (go : En → List Ob → SR) (i n k) : loopR go i (n + 1) k env sto = (go (env.set i (some (.int k))) sto).turn (loopR go i n (k + 1)) := Eq.trans rfl rfl
theorem nc0 : ((0 : Nat) : Int) = 0 := Eq.trans rfl rfl
theorem nc1 : ((1 : Nat) : Int) = 1 := Eq.trans rfl rfl
theorem nc2 : ((2 : Nat) : Int) = 2 := Eq.trans rfl rfl
theorem nc3 : ((3 : Nat) : Int) = 3 := Eq.trans rfl rfl
theorem nc4 : ((4 : Nat) : Int) = 4 := Eq.trans rfl rfl
theorem nc5 : ((5 : Nat) : Int) = 5 := Eq.trans rfl rfl
theorem nc6 : ((6 : Nat) : Int) = 6 := Eq.trans rfl rfl
theorem nc7 : ((7 : Nat) : Int) = 7 := Eq.trans rfl rfl
theorem nc8 : ((8 : Nat) : Int) = 8 := Eq.trans rfl rfl
theorem nc9 : ((9 : Nat) : Int) = 9 := Eq.trans rfl rfl
theorem nc10 : ((10 : Nat) : Int) = 10 := Eq.trans rfl rfl
theorem nc11 : ((11 : Nat) : Int) = 11 := Eq.trans rfl rfl
theorem nc12 : ((12 : Nat) : Int) = 12 := Eq.trans rfl rfl
theorem nc13 : ((13 : Nat) : Int) = 13 := Eq.trans rfl rfl
def gfe (go : En → List Ob → SR) (i : Nat) (t : T) (env : En) (sto : List Ob) : SR := if clean t then match items t with
      | some ts => loopL go i ts env sto
      | none => .no
    else .no
theorem gfe_l (go i ts) : gfe go i (.lst false false ts) env sto = loopL go i ts env sto := Eq.trans rfl rfl
/-! tuples of names, steps, clear -/
def gfT (go : En → List Ob → SR) (is : List Nat) (t : T) (env : En) (sto : List Ob) : SR := if clean t then match items t with
      | some ts => loopT go is ts env sto
      | none => .no
    else .no
theorem gfT_l (go is ts) : gfT go is (.lst false false ts) env sto = loopT go is ts env sto := Eq.trans rfl rfl
theorem ex_fort (is e b) : ex N cf xs lk (.fort is e b) env sto = ((pv cf env sto e).g env sto).thn (gfT (exs N cf xs lk b) is) := Eq.trans rfl rfl
def gfTv (go : En → List Ob → SR) (is : List Nat) (r : Rs T) (env : En) (sto : List Ob) : SR := match r.bind fun t => ofO (items t) with
    | .ok ts => loopT go is ts env sto
    | _ => .no
theorem gfTv_l (go is z ts) : gfTv go is (.ok (.lst z false ts)) env sto = loopT go is ts env sto := Eq.trans rfl rfl
theorem ex_fortv (is j b) : ex N cf xs lk (.fortv is j b) env sto = gfTv (exs N cf xs lk b) is (getV env j) env sto := Eq.trans rfl rfl
theorem loopT_cons (go : En → List Ob → SR) (is us ts env') (h : unpack is us env = some env') : loopT go is (.tup us :: ts) env sto = (go env' sto).turn (loopT go is ts) := by
  rw [loopT]
  show (match unpack is us env with | some env' => _ | none => _) = _
  rw [h]
theorem unp_nil : unpack [] [] env = some env := Eq.trans rfl rfl
theorem unp_cons (i is t ts) : unpack (i :: is) (t :: ts) env = unpack is ts (env.set i (some t)) := Eq.trans rfl rfl
def gfP3 (go : En → List Ob → SR) (i : Nat) (x y z : T) (env : En) (sto : List Ob) : SR := match x, y, z with
    | .int l, .int h, .int c => if Builtin.Range.small l h c = true ∧ 0 < c ∧ c < 1073741824 then loopP go i c (Builtin.Range.rangeSize l h c).toNat l env sto else .no
    | _, _, _ => .no
theorem gfP3_ok (go i) (l h c : Int) (hb : Builtin.Range.small l h c = true ∧ 0 < c ∧ c < 1073741824) : gfP3 go i (.int l) (.int h) (.int c) env sto = loopP go i c (Builtin.Range.rangeSize l h c).toNat l env sto := if_pos hb
def gfP2 (cf : CF) (go : En → List Ob → SR) (i : Nat) (st : E) (x y : T) (env : En) (sto : List Ob) : SR := ((pv cf env sto st).g env sto).thn (gfP3 go i x y)
theorem gfP2_eq (go i st x y) : gfP2 cf go i st x y env sto = ((pv cf env sto st).g env sto).thn (gfP3 go i x y) := Eq.trans rfl rfl
def gfP1 (cf : CF) (go : En → List Ob → SR) (i : Nat) (hi st : E) (x : T) (env : En) (sto : List Ob) : SR := ((pv cf env sto hi).g env sto).thn (gfP2 cf go i st x)
theorem gfP1_eq (go i hi st x) : gfP1 cf go i hi st x env sto = ((pv cf env sto hi).g env sto).thn (gfP2 cf go i st x) := Eq.trans rfl rfl
theorem ex_fors (i lo hi st b) : ex N cf xs lk (.fors i lo hi st b) env sto = ((pv cf env sto lo).g env sto).thn (gfP1 cf (exs N cf xs lk b) i hi st) := Eq.trans rfl rfl
theorem loopP_succ (go : En → List Ob → SR) (i st n k) : loopP go i st (n + 1) k env sto = (go (env.set i (some (.int k))) sto).turn (loopP go i st n (k + st)) := Eq.trans rfl rfl
def gclr (i : Nat) (env : En) (sto : List Ob) : Rs T → SR
  | .ok (.lst false _ _) => .nx (env.set i (some (.lst false false []))) sto
  | _ => .no
def gfk (go : En → List Ob → SR) (i : Nat) (r : Rs T) (env : En) (sto : List Ob) : SR := match r with
  | .ok (.dic true _ ks _) => (loopL go i (ks.map unkey) env sto).noex
  | _ => .no
theorem gfk_d (go i n ks ts) : gfk go i (.ok (.dic true n ks ts)) env sto = (loopL go i (ks.map unkey) env sto).noex := Eq.trans rfl rfl
@[simp] theorem noex_nx (env sto) : (SR.nx env sto).noex = .nx env sto := Eq.trans rfl rfl
@[simp] theorem noex_rt (t env sto) : (SR.rt t env sto).noex = .rt t env sto := Eq.trans rfl rfl
theorem ex_fork (i j b) : ex N cf xs lk (.fork i j b) env sto = gfk (exs N cf xs lk b) i (getV env j) env sto := by
  rw [ex]
  unfold getV gfk
  cases h : env[j]? with
  | none => rfl
  | some o => cases o with
    | none => rfl
    | some t => cases t with
      | dic z n ks ts => cases z <;> rfl
      | _ => rfl
def gclrd (i : Nat) (env : En) (sto : List Ob) (r : Rs T) : SR := match r with
  | .ok (.dic false _ _ _) => .nx (env.set i (some (.dic false false [] []))) sto
  | _ => .no
theorem gclrd_d (i n ks ts) : gclrd i env sto (.ok (.dic false n ks ts)) = .nx (env.set i (some (.dic false false [] []))) sto := Eq.trans rfl rfl
theorem ex_clrd (i) : ex N cf xs lk (.clrd i) env sto = gclrd i env sto (getV env i) := by
  rw [ex]
  unfold getV gclrd
  cases h : env[i]? with
  | none => rfl
  | some o => cases o with
    | none => rfl
    | some t => cases t with
      | dic z n ks ts => cases z <;> rfl
      | _ => rfl
theorem ex_clr (i) : ex N cf xs lk (.clr i) env sto = gclr i env sto (getV env i) := by
  rw [ex]
  unfold getV gclr
  split
  · rename_i e; rw [e]
  · split
    · rename_i h _ _ _ e
      split at e
      · rename_i t q
        cases e
        exact absurd q (h _ _)
      · cases e
    · rfl
theorem gclr_l (i n ts) : gclr i env sto (.ok (.lst false n ts)) = .nx (env.set i (some (.lst false false []))) sto := Eq.trans rfl rfl
def gdset2 (i : Nat) (n : Bool) (ks : List L2.Key) (ts : List T) (t y : T) (env : En) (sto : List Ob) : SR := match keyT y with
      | some k => if ks.length < sizeT then .nx (env.set i (some (.dic false (n || !flat t) (dputK ks k) (dputT ks ts k t)))) sto else .no
      | none => .no
theorem gdset2_i (i n ks ts t y) (h : ks.length < sizeT) : gdset2 i n ks ts t (.int y) env sto = .nx (env.set i (some (.dic false (n || !flat t) (dputK ks (.inl y)) (dputT ks ts (.inl y) t)))) sto := if_pos h
theorem gdset2_s (i n ks ts t y) (h : ks.length < sizeT) : gdset2 i n ks ts t (.str y) env sto = .nx (env.set i (some (.dic false (n || !flat t) (dputK ks (.inr y)) (dputT ks ts (.inr y) t)))) sto := if_pos h
def gdset1 (cf : CF) (i : Nat) (k : E) (t : T) (r : Rs T) (env : En) (sto : List Ob) : SR := match r with
    | .ok (.dic false n ks ts) => ((pv cf env sto k).g env sto).thn (gdset2 i n ks ts t)
    | _ => .no
theorem gdset1_ok (i k t n ks ts) : gdset1 cf i k t (.ok (.dic false n ks ts)) env sto = ((pv cf env sto k).g env sto).thn (gdset2 i n ks ts t) := Eq.trans rfl rfl
def gdset (cf : CF) (i : Nat) (k : E) (t : T) (env : En) (sto : List Ob) : SR := gdset1 cf i k t (getV env i) env sto
theorem gdset_eq (i k t) : gdset cf i k t env sto = gdset1 cf i k t (getV env i) env sto := Eq.trans rfl rfl
theorem ex_dset (i k e) : ex N cf xs lk (.dset i k e) env sto = (kv cf e env sto).thn (gdset cf i k) := by
  rw [ex]
  congr 1
def gdsd3 (i : Nat) (n : Bool) (ks : List L2.Key) (ts : List T) (y t : T) (env : En) (sto : List Ob) : SR := match keyT y with
      | some k => if ks.length < sizeT ∧ flat t = true then .nx (env.set i (some (.dic false n (dputK ks k) (if (kix ks k).isSome then ts else ts ++ [t])))) sto else .no
      | none => .no
theorem gdsd3_i (i n ks ts y t) (h : ks.length < sizeT ∧ flat t = true) : gdsd3 i n ks ts (.int y) t env sto = .nx (env.set i (some (.dic false n (dputK ks (.inl y)) (if (kix ks (.inl y)).isSome then ts else ts ++ [t])))) sto := if_pos h
def gdsd2 (cf : CF) (i : Nat) (n : Bool) (ks : List L2.Key) (ts : List T) (e : E) (y : T) (env : En) (sto : List Ob) : SR := ((pv cf env sto e).g env sto).thn (gdsd3 i n ks ts y)
theorem gdsd2_eq (i n ks ts e y) : gdsd2 cf i n ks ts e y env sto = ((pv cf env sto e).g env sto).thn (gdsd3 i n ks ts y) := Eq.trans rfl rfl
def gdsd (cf : CF) (i : Nat) (k e : E) (r : Rs T) (env : En) (sto : List Ob) : SR := match r with
    | .ok (.dic false n ks ts) => ((pv cf env sto k).g env sto).thn (gdsd2 cf i n ks ts e)
    | _ => .no
theorem gdsd_ok (i k e n ks ts) : gdsd cf i k e (.ok (.dic false n ks ts)) env sto = ((pv cf env sto k).g env sto).thn (gdsd2 cf i n ks ts e) := Eq.trans rfl rfl
theorem ex_dsd (i k e) : ex N cf xs lk (.dsd i k e) env sto = gdsd cf i k e (getV env i) env sto := by
  rw [ex]
  unfold gdsd gdsd2 gdsd3
  cases getV env i with
  | ok x => cases x <;> first | rfl | (rename_i z n ks ts; cases z <;> rfl)
  | ex e => rfl
  | no => rfl
def gunp (is : List Nat) (t : T) (env : En) (sto : List Ob) : SR := match t with
    | .tup ts => match unpack is ts env with
      | some env => .nx env sto
      | none => .no
    | _ => .no
theorem ex_unp (is c) : ex N cf xs lk (.unp is c) env sto = (gv cf lk c env sto).thn (gunp is) := Eq.trans rfl rfl
theorem gunp_2 (i j a b) : gunp [i, j] (.tup [a, b]) env sto = .nx ((env.set i (some a)).set j (some b)) sto := Eq.trans rfl rfl
theorem ex_fore (i e b) : ex N cf xs lk (.fore i e b) env sto = ((pv cf env sto e).g env sto).thn (gfe (exs N cf xs lk b) i) := Eq.trans rfl rfl
theorem ex_raise (c) : ex N cf xs lk (.raise c .none) env sto = .ex ⟨c, none⟩ env sto := Eq.trans rfl rfl
def rzf (c : Nat) (t : T) (env : En) (sto : List Ob) : SR := if flat t then .ex ⟨c, some t⟩ env sto else .no
theorem ex_raisef (c e) : ex N cf xs lk (.raise c (.some e)) env sto = ((pv cf env sto e).g env sto).thn (rzf c) := Eq.trans rfl rfl
theorem rzf_int (c i) : rzf c (.int i) env sto = .ex ⟨c, some (.int i)⟩ env sto := Eq.trans rfl rfl
def gtry (N : Nat) (cf : CF) (xs : Nat → Nat → Bool) (lk : Bool) (hs : Hs) (r : SR) : SR := match r with
    | .ex e env sto => hdl N cf xs lk e hs env sto
    | r => r
theorem gtry_nx (hs) : gtry N cf xs lk hs (.nx env sto) = .nx env sto := Eq.trans rfl rfl
theorem gtry_rt (hs t) : gtry N cf xs lk hs (.rt t env sto) = .rt t env sto := Eq.trans rfl rfl
theorem gtry_ex (hs e) : gtry N cf xs lk hs (.ex e env sto) = hdl N cf xs lk e hs env sto := Eq.trans rfl rfl
theorem ex_tryx (b hs) : ex N cf xs lk (.tryx b hs) env sto = gtry N cf xs lk hs (exs N cf xs lk b env sto) := Eq.trans rfl rfl
theorem hdl_nil (e) : hdl N cf xs lk e .nil env sto = .ex e env sto := Eq.trans rfl rfl
theorem hdl_cons (e c nm sets ret hs) : hdl N cf xs lk e (.cons c nm sets ret hs) env sto = if xs e.cls c then (suiteT xs e sets ret (unNm nm env) sto).un nm else hdl N cf xs lk e hs env sto := Eq.trans rfl rfl
theorem un_nx (nm) : (SR.nx env sto).un nm = .nx (unNm nm env) sto := Eq.trans rfl rfl
theorem un_rt (nm t) : (SR.rt t env sto).un nm = .rt t env sto := Eq.trans rfl rfl
theorem unNm_none : unNm none env = env := Eq.trans rfl rfl
theorem unNm_some (i) : unNm (some i) env = env.set i none := Eq.trans rfl rfl
theorem su_nil (e) : suiteT xs e [] none env sto = .nx env sto := Eq.trans rfl rfl
def gsuR (r : Rs T) (env : En) (sto : List Ob) : SR := match r with
    | .ok t => .rt t env sto
    | _ => .no
theorem gsuR_ok (t) : gsuR (.ok t) env sto = .rt t env sto := Eq.trans rfl rfl
theorem su_ret (e u) : suiteT xs e [] (some u) env sto = gsuR (uv xs e env u) env sto := Eq.trans rfl rfl
def gsuS (xs : Nat → Nat → Bool) (e : Exn) (i : Nat) (l : List (Nat × U)) (ret : Option U) (r : Rs T) (env : En) (sto : List Ob) : SR := match r with
    | .ok t => suiteT xs e l ret (env.set i (some t)) sto
    | _ => .no
theorem gsuS_ok (e i l ret t) : gsuS xs e i l ret (.ok t) env sto = suiteT xs e l ret (env.set i (some t)) sto := Eq.trans rfl rfl
theorem su_cons (e i u l ret) : suiteT xs e ((i, u) :: l) ret env sto = gsuS xs e i l ret (uv xs e env u) env sto := Eq.trans rfl rfl
theorem uv_int (e i) : uv xs e env (.int i) = .ok (.int i) := Eq.trans rfl rfl
theorem uv_str (e i) : uv xs e env (.str i) = .ok (.str i) := Eq.trans rfl rfl
theorem uv_bl (e i) : uv xs e env (.bl i) = .ok (.bl i) := Eq.trans rfl rfl
theorem uv_non (e) : uv xs e env .non = .ok .non := Eq.trans rfl rfl
theorem uv_isx (c f d) : uv xs ⟨c, f⟩ env (.isx [d]) = .ok (.bl (xs c d)) := Eq.trans rfl rfl
theorem uv_isxs (c f cs) : uv xs ⟨c, f⟩ env (.isxs cs) = .ok (.bl (cs.any (xs c))) := Eq.trans rfl rfl
theorem uv_fld (c t) : uv xs ⟨c, some t⟩ env (.fld c) = .ok t := if_pos rfl
theorem uv_not (e a) : uv xs e env (.not a) = rnotb (uv xs e env a) := Eq.trans rfl rfl
theorem uv_and (e a b) : uv xs e env (.and a b) = rand (uv xs e env a) (uv xs e env b) := Eq.trans rfl rfl
theorem uv_ne (e a b) : uv xs e env (.ne a b) = rneb (uv xs e env a) (uv xs e env b) := Eq.trans rfl rfl
def gisl (xs : Nat → Nat → Bool) (c : Nat) (cs : List Nat) (r : Rs (List T)) : Rs T := r.bind fun ts => if ts.length + cs.length ≤ 1000 then .ok (.lst false false (ts ++ cs.map fun d => T.bl (xs c d))) else .no
theorem uv_isl0 (c f cs) (h : cs.length ≤ 1000) : uv xs ⟨c, f⟩ env (.isl none cs) = .ok (.lst false false (cs.map fun d => T.bl (xs c d))) := if_pos (by simpa using h)
theorem uv_isl (c f' i cs z ts) (g : getV env i = .ok (.lst z false ts)) (f : flatL ts = true) (h : ts.length + cs.length ≤ 1000) : uv xs ⟨c, f'⟩ env (.isl (some i) cs) = .ok (.lst false false (ts ++ cs.map fun d => T.bl (xs c d))) := by
  show gisl xs c cs ((getV env i).bind fun t => match t with
    | .lst _ false ts => if flatL ts then .ok ts else .no
    | _ => .no) = _
  rw [g, Rs.bind_ok]
  dsimp only
  rw [if_pos f]
  exact if_pos h
theorem uv_nin (e b i t r) (g : getV env i = .ok t) (h : cmpT .nin (.bl b) t = .ok r) (f : flat r = true) : uv xs e env (.nin b i) = .ok r := by
  show ((getV env i).bind fun t => (cmpT .nin (.bl b) t).bind fun r => if flat r then .ok r else .no) = _
  rw [g, Rs.bind_ok, h, Rs.bind_ok]
  exact if_pos f
theorem cmp_ltT (xs ys ns ms) (h1 : intsL xs = some ns) (h2 : intsL ys = some ms) : cmpT .lt (.tup xs) (.tup ys) = .ok (.bl (HT.lexLt ns ms)) := by
  show (ofO ((intsL xs).bind fun ns => (intsL ys).map fun ms => HT.lexLt ns ms)).bind _ = _
  rw [h1, h2]; rfl
/-! calls to which lists are lent -/
def acons (t : Rs T) (r : Rs (List T)) : Rs (List T) := t.bind fun t => r.bind fun ts => .ok (t :: ts)
theorem acons_ok (t ts) : acons (.ok t) (.ok ts) = .ok (t :: ts) := Eq.trans rfl rfl
def rlent (r : Rs T) : Rs T := r.bind fun t => if clean t && !flat t then .ok t else .no
theorem rlent_lst (n ts) : rlent (.ok (.lst false n ts)) = .ok (.lst false n ts) := Eq.trans rfl rfl
def rkp (r : Rs T) : Rs T := r.bind fun t => if clean t then .ok (view t) else .no
theorem rkp_int (i) : rkp (.ok (.int i)) = .ok (.int i) := Eq.trans rfl rfl
theorem rkp_bl (i) : rkp (.ok (.bl i)) = .ok (.bl i) := Eq.trans rfl rfl
theorem rkp_str (i) : rkp (.ok (.str i)) = .ok (.str i) := Eq.trans rfl rfl
theorem rkp_non : rkp (.ok .non) = .ok .non := Eq.trans rfl rfl
theorem rkp_lst (n ts) : rkp (.ok (.lst false n ts)) = .ok (.lst true n ts) := Eq.trans rfl rfl
theorem argv_nil (em) : argv cf env em sto [] = .ok [] := Eq.trans rfl rfl
def rkpo (r : Rs T) : Rs T := r.bind fun t => if clean t then .ok t else .no
theorem rkpo_lst (n ts) : rkpo (.ok (.lst false n ts)) = .ok (.lst false n ts) := Eq.trans rfl rfl
theorem rkpo_ok (t : T) (h : clean t = true) : rkpo (.ok t) = .ok t := if_pos h
theorem argv_o (em j as) : argv cf env em sto (.o j :: as) = acons (rkpo (getV env j)) (argv cf env em sto as) := by
  show (getV env j).bind _ = ((getV env j).bind _).bind _
  cases getV env j with
  | ok t =>
    show (if clean t then _ else Rs.no) = (if clean t then Rs.ok t else Rs.no).bind _
    cases clean t <;> rfl
  | ex e => rfl
  | no => rfl
theorem argv_m (em j as) : argv cf env em sto (.m j :: as) = acons (rlent (getV env j)) (argv cf env em sto as) := by
  show (getV env j).bind _ = ((getV env j).bind _).bind _
  cases getV env j with
  | ok t =>
    show (if clean t && !flat t then _ else Rs.no) = (if clean t && !flat t then Rs.ok t else Rs.no).bind _
    cases clean t && !flat t <;> rfl
  | ex e => rfl
  | no => rfl
theorem argv_v (em j as) : argv cf env em sto (.v j :: as) = acons (rview (getV em j)) (argv cf env em sto as) := by
  show (getV em j).bind _ = ((getV em j).bind _).bind _
  cases getV em j <;> rfl
theorem argv_e (em e as) : argv cf env em sto (.e e :: as) = acons (rkp (pv cf em sto e)) (argv cf env em sto as) := by
  show (pv cf em sto e).bind _ = ((pv cf em sto e).bind _).bind _
  cases pv cf em sto e with
  | ok t =>
    show (if clean t then _ else Rs.no) = (if clean t then Rs.ok (view t) else Rs.no).bind _
    cases clean t <;> rfl
  | ex e => rfl
  | no => rfl
def gbo {α : Type} (o : Option En) (f : En → GR α) : GR α := match o with
  | some env' => f env'
  | none => .no
theorem gbo_some {α : Type} (e : En) (f : En → GR α) : gbo (some e) f = f e := Eq.trans rfl rfl
def gok (t : T) (sto : List Ob) (env : En) : GR T := .ok t env sto
theorem gok_eq (t) : gok t sto env = .ok t env sto := Eq.trans rfl rfl
def gexn (e : Exn) (sto : List Ob) (env : En) : GR T := .ex e env sto
theorem gexn_eq (t) : gexn t sto env = .ex t env sto := Eq.trans rfl rfl
def gbk (js : List Nat) (em : En) (lk : Bool) (sto : List Ob) (r : FR) : GR T := match r with
  | .ok t ms sto' => gbo (giveBack js ms em) (gok t (if lk then sto else sto'))
  | .ex e ms sto' => gbo (giveBack js ms em) (gexn e (if lk then sto else sto'))
  | .no => .no
theorem gbk_ok (js em t ms) : gbk js em lk sto (.ok t ms sto) = gbo (giveBack js ms em) (gok t sto) := by cases lk <;> exact Eq.trans rfl rfl
theorem gbk_ex (js em t ms) : gbk js em lk sto (.ex t ms sto) = gbo (giveBack js ms em) (gexn t sto) := by cases lk <;> exact Eq.trans rfl rfl
theorem gbk_okf (js em t ms sto') : gbk js em false sto (.ok t ms sto') = gbo (giveBack js ms em) (gok t sto') := Eq.trans rfl rfl
theorem gbk_exf (js em t ms sto') : gbk js em false sto (.ex t ms sto') = gbo (giveBack js ms em) (gexn t sto') := Eq.trans rfl rfl
def gcl (cf : CF) (f : Nat) (lk : Bool) (js : List Nat) (em env : En) (sto : List Ob) (r : Rs (List T)) : GR T := match r with
  | .ok ts => gbk js em lk sto (cf f ts sto lk)
  | .ex e => .ex e env sto
  | .no => .no
theorem gcl_ok (f js em ts) : gcl cf f lk js em env sto (.ok ts) = gbk js em lk sto (cf f ts sto lk) := Eq.trans rfl rfl
def gnd (js : List Nat) (r : GR T) : GR T := if js.Nodup then r else .no
theorem gnd_0 (r) : gnd [] r = r := if_pos List.nodup_nil
theorem gnd_1 (i r) : gnd [i] r = r := if_pos (by simp)
theorem gnd_2 (i j r) (h : i ≠ j) : gnd [i, j] r = r := if_pos (by simp [h])
theorem gv_call (f as) : gv cf lk (.call f as) env sto = gnd (takn as) (gcl cf f lk (lentOf as) (lend (takn as) env) env sto (argv cf env (lend (takn as) env) sto as)) := by
  show (if (takn as).Nodup then _ else GR.no) = if (takn as).Nodup then _ else GR.no
  congr 1
/-! tests and reckonings that may change things -/
def gtand (cf : CF) (lk : Bool) (d : C) (b : Bool) (env : En) (sto : List Ob) : GR Bool := if b then gt cf lk d env sto else .ok false env sto
theorem gtand_t (d) : gtand cf lk d true env sto = gt cf lk d env sto := Eq.trans rfl rfl
theorem gtand_f (d) : gtand cf lk d false env sto = .ok false env sto := Eq.trans rfl rfl
theorem gt_and (c d) : gt cf lk (.and c d) env sto = (gt cf lk c env sto).bind (gtand cf lk d) := by rw [gt]; rfl
def gtor (cf : CF) (lk : Bool) (d : C) (b : Bool) (env : En) (sto : List Ob) : GR Bool := if b then .ok true env sto else gt cf lk d env sto
theorem gtor_t (d) : gtor cf lk d true env sto = .ok true env sto := Eq.trans rfl rfl
theorem gtor_f (d) : gtor cf lk d false env sto = gt cf lk d env sto := Eq.trans rfl rfl
theorem gt_or (c d) : gt cf lk (.or c d) env sto = (gt cf lk c env sto).bind (gtor cf lk d) := by rw [gt]; rfl
def gtnot (b : Bool) (env : En) (sto : List Ob) : GR Bool := .ok (!b) env sto
theorem gtnot_eq (b) : gtnot b env sto = .ok (!b) env sto := Eq.trans rfl rfl
theorem gt_not (c) : gt cf lk (.not c) env sto = (gt cf lk c env sto).bind gtnot := by rw [gt]; rfl
def gtru (t : T) (env : En) (sto : List Ob) : GR Bool := (truthT t).g env sto
theorem gtru_eq (t) : gtru t env sto = (truthT t).g env sto := Eq.trans rfl rfl
theorem gt_call (f as) : gt cf lk (.call f as) env sto = (gv cf lk (.call f as) env sto).bind gtru := Eq.trans rfl rfl
theorem gt_cmp (op c e) : gt cf lk (.cmp op c e) env sto = (gv cf lk (.cmp op c e) env sto).bind gtru := Eq.trans rfl rfl
theorem gt_ix (c e) : gt cf lk (.ix c e) env sto = (gv cf lk (.ix c e) env sto).bind gtru := Eq.trans rfl rfl
def gcmp2 (op : COp) (x y : T) (env : En) (sto : List Ob) : GR T := (cmpT op x y).g env sto
theorem gcmp2_eq (op x y) : gcmp2 op x y env sto = (cmpT op x y).g env sto := Eq.trans rfl rfl
def gcmp1 (cf : CF) (op : COp) (e : E) (x : T) (env : En) (sto : List Ob) : GR T := ((pv cf env sto e).g env sto).bind (gcmp2 op x)
theorem gcmp1_eq (op e x) : gcmp1 cf op e x env sto = ((pv cf env sto e).g env sto).bind (gcmp2 op x) := Eq.trans rfl rfl
theorem gv_cmp (op c e) : gv cf lk (.cmp op c e) env sto = (gv cf lk c env sto).bind (gcmp1 cf op e) := by rw [gv]; rfl
def gdp2 (i : Nat) (n : Bool) (ks : List L2.Key) (ts : List T) (y : T) (env : En) (sto : List Ob) : GR T := match (keyT y).bind fun k => (dgetT ks ts k).map fun t => (k, t) with
      | some (k, t) => .ok t (env.set i (some (.dic false n (ddropK ks k) (ddropT ks ts k)))) sto
      | none => .no
theorem gdp2_i (i n ks ts y t) (h : dgetT ks ts (.inl y) = some t) : gdp2 i n ks ts (.int y) env sto = .ok t (env.set i (some (.dic false n (ddropK ks (.inl y)) (ddropT ks ts (.inl y))))) sto := by
  unfold gdp2
  show (match (dgetT ks ts (.inl y)).map fun t => ((Sum.inl y : L2.Key), t) with | some (k, t) => _ | none => _) = _
  rw [h]; rfl
def gdp (cf : CF) (i : Nat) (k : E) (r : Rs T) (env : En) (sto : List Ob) : GR T := match r with
    | .ok (.dic false n ks ts) => ((pv cf env sto k).g env sto).bind (gdp2 i n ks ts)
    | _ => .no
theorem gdp_ok (i k n ks ts) : gdp cf i k (.ok (.dic false n ks ts)) env sto = ((pv cf env sto k).g env sto).bind (gdp2 i n ks ts) := Eq.trans rfl rfl
theorem gv_dpop (i k) : gv cf lk (.dpop i k) env sto = gdp cf i k (getV env i) env sto := by
  rw [gv]
  unfold gdp gdp2
  cases getV env i with
  | ok x => cases x <;> first | rfl | (rename_i z n ks ts; cases z <;> rfl)
  | ex e => rfl
  | no => rfl
def gtp1 (x y : T) (env : En) (sto : List Ob) : GR T := .ok (.tup [x, y]) env sto
theorem gtp1_eq (x y) : gtp1 x y env sto = .ok (.tup [x, y]) env sto := Eq.trans rfl rfl
def gtp0 (cf : CF) (lk : Bool) (d : C) (x : T) (env : En) (sto : List Ob) : GR T := (gv cf lk d env sto).bind (gtp1 x)
theorem gtp0_eq (d x) : gtp0 cf lk d x env sto = (gv cf lk d env sto).bind (gtp1 x) := Eq.trans rfl rfl
theorem gv_tup2 (c d) : gv cf lk (.tup2 c d) env sto = (gv cf lk c env sto).bind (gtp0 cf lk d) := by rw [gv]; rfl
def gfl (t : T) (env : En) (sto : List Ob) : GR T := if flat t then .ok t env sto else .no
theorem gfl_eq (t) (h : flat t = true) : gfl t env sto = .ok t env sto := if_pos h
theorem gfl_int (i) : gfl (.int i) env sto = .ok (.int i) env sto := if_pos rfl
theorem gfl_bl (i) : gfl (.bl i) env sto = .ok (.bl i) env sto := if_pos rfl
theorem gfl_str (i) : gfl (.str i) env sto = .ok (.str i) env sto := if_pos rfl
theorem gfl_non : gfl .non env sto = .ok .non env sto := if_pos rfl
def gix2 (x y : T) (env : En) (sto : List Ob) : GR T := ((ixT x y).g env sto).bind gfl
theorem gix2_eq (x y) : gix2 x y env sto = ((ixT x y).g env sto).bind gfl := Eq.trans rfl rfl
def gix1 (cf : CF) (e : E) (x : T) (env : En) (sto : List Ob) : GR T := ((pv cf env sto e).g env sto).bind (gix2 x)
theorem gix1_eq (e x) : gix1 cf e x env sto = ((pv cf env sto e).g env sto).bind (gix2 x) := Eq.trans rfl rfl
theorem gv_ix (c e) : gv cf lk (.ix c e) env sto = (gv cf lk c env sto).bind (gix1 cf e) := by rw [gv]; rfl
theorem gt_meth (a m as) : gt cf lk (.meth a m as) env sto = (gv cf lk (.meth a m as) env sto).bind gtru := Eq.trans rfl rfl
def gvand (cf : CF) (lk : Bool) (d : C) (t : T) (env : En) (sto : List Ob) : GR T := match t with
    | .bl b => if b then gv cf lk d env sto else .ok (.bl false) env sto
    | _ => .no
theorem gvand_t (d) : gvand cf lk d (.bl true) env sto = gv cf lk d env sto := Eq.trans rfl rfl
theorem gvand_f (d) : gvand cf lk d (.bl false) env sto = .ok (.bl false) env sto := Eq.trans rfl rfl
theorem gv_and (c d) : gv cf lk (.and c d) env sto = (gv cf lk c env sto).bind (gvand cf lk d) := by rw [gv]; rfl
def gvor (cf : CF) (lk : Bool) (d : C) (t : T) (env : En) (sto : List Ob) : GR T := match t with
    | .bl b => if b then .ok (.bl true) env sto else gv cf lk d env sto
    | _ => .no
theorem gvor_t (d) : gvor cf lk d (.bl true) env sto = .ok (.bl true) env sto := Eq.trans rfl rfl
theorem gvor_f (d) : gvor cf lk d (.bl false) env sto = gv cf lk d env sto := Eq.trans rfl rfl
theorem gv_or (c d) : gv cf lk (.or c d) env sto = (gv cf lk c env sto).bind (gvor cf lk d) := by rw [gv]; rfl
/-- a field's item is put -/
def cFix (cf : CF) (lk : Bool) (a : E) (n : Nat) (k : E) (t : T) (env : En) (sto : List Ob) : SR := ((pv cf env sto a).g env sto).thn fun x env sto => match x with
    | .obj i => match fgetO sto i n with
      | some (.lst false m ts) => ((pv cf env sto k).g env sto).thn fun y env sto => match y with
        | .int j => match L2.ixN ts.length j with
          | some j => if !lk && fokO sto i n then .nx env (fputO sto i n (some (.lst false (m || !flat t) (ts.set j t)))) else .no
          | none => .no
        | _ => .no
      | _ => .no
    | _ => .no
theorem ex_setfix (a n k e) : ex N cf xs lk (.setfix a n k e) env sto = (kv cf e env sto).thn (cFix cf lk a n k) := Eq.trans rfl rfl
theorem cFix_ok {a n k t i m ts j j'} (ha : pv cf env sto a = .ok (.obj i)) (hf : fgetO sto i n = some (.lst false m ts)) (hk : pv cf env sto k = .ok (.int j)) (hj : L2.ixN ts.length j = some j') (ho : fokO sto i n = true) :
    cFix cf false a n k t env sto = .nx env (fputO sto i n (some (.lst false (m || !flat t) (ts.set j' t)))) := by
  unfold cFix
  rw [ha]
  show (match fgetO sto i n with
      | some (.lst false m ts) => ((pv cf env sto k).g env sto).thn fun y env sto => match y with
        | .int j => match L2.ixN ts.length j with
          | some j => if !false && fokO sto i n then SR.nx env (fputO sto i n (some (.lst false (m || !flat t) (ts.set j t)))) else .no
          | none => .no
        | _ => .no
      | _ => .no) = _
  rw [hf]
  show ((pv cf env sto k).g env sto).thn _ = _
  rw [hk]
  show (match L2.ixN ts.length j with
          | some j => if !false && fokO sto i n then SR.nx env (fputO sto i n (some (.lst false (m || !flat t) (ts.set j t)))) else .no
          | none => .no) = _
  rw [hj]
  show (if !false && fokO sto i n then _ else SR.no) = _
  rw [ho]; rfl
/-! objects -/
theorem bk0 (r : FR) : (match r with
    | .ok t [] sto' => GR.ok t env (if lk then sto else sto')
    | .ex e [] sto' => GR.ex e env (if lk then sto else sto')
    | _ => GR.no) = gbk [] env lk sto r := by
  cases r with
  | ok t ms sto' => cases ms <;> rfl
  | ex t ms sto' => cases ms <;> rfl
  | no => rfl
def gmt (cf : CF) (m : Nat) (lk : Bool) (env : En) (sto : List Ob) (r : Rs T) (s : Rs (List T)) : GR T := match r with
  | .ok (.obj i) => (match mArg (prb cf m i sto) s with
    | .ok ts => gbk [] env lk sto (cf (vmB + m) (.obj i :: ts) sto lk)
    | .ex e => .ex e env sto
    | .no => .no)
  | .ex e => .ex e env sto
  | _ => .no
theorem gmt_ok (m i ts) : gmt cf m lk env sto (.ok (.obj i)) (.ok ts) = gbk [] env lk sto (cf (vmB + m) (.obj i :: ts) sto lk) := Eq.trans rfl rfl
theorem gv_meth (a m as) : gv cf lk (.meth a m as) env sto = gmt cf m lk env sto (pv cf env sto a) (argv cf env env sto as) := by
  rw [gv]
  unfold gmt
  cases pv cf env sto a with
  | ok t =>
    cases t <;> try rfl
    rename_i i
    dsimp only
    cases mArg (prb cf m i sto) (argv cf env env sto as) with
    | ok ts => exact bk0 _
    | ex e => rfl
    | no => rfl
  | ex e => rfl
  | no => rfl
def rmt (cf : CF) (m : Nat) (sto : List Ob) (r : Rs T) (s : Rs (List T)) : Rs T := r.bind fun x => match x with
      | .obj i => (mArg (prb cf m i sto) s).bind fun ts => unF (cf (vmB + m) (.obj i :: ts.map view) sto true)
      | _ => .no
theorem rmt_ok (m i ts) : rmt cf m sto (.ok (.obj i)) (.ok ts) = unF (cf (vmB + m) (.obj i :: ts.map view) sto true) := Eq.trans rfl rfl
theorem unF_ok (t sto) : unF (.ok t [] sto) = .ok t := Eq.trans rfl rfl
theorem unF_ex (t sto) : unF (.ex t [] sto) = .ex t := Eq.trans rfl rfl
theorem pv_meth (a m as) : pv cf env sto (.meth a m as) = rmt cf m sto (pv cf env sto a) (pvs cf env sto as) := Eq.trans rfl rfl
def rfld (n : Nat) (sto : List Ob) (r : Rs T) : Rs T := r.bind fun x => (ofO (fldT sto n x)).bind fun t => .ok (view t)
def rfv (o : Option T) : Rs T := (ofO o).bind fun t => .ok (view t)
theorem rfld_ok (n i) : rfld n sto (.ok (.obj i)) = rfv (fgetO sto i n) := Eq.trans rfl rfl
theorem rfv_ok (t) : rfv (some t) = .ok (view t) := Eq.trans rfl rfl
theorem pv_fld (a n) : pv cf env sto (.fld a n) = rfld n sto (pv cf env sto a) := Eq.trans rfl rfl
theorem fget_0 (o : Ob) (os n) : fgetO (o :: os) 0 n = fgetL o.fs n := Eq.trans rfl rfl
theorem fget_s (o : Ob) (os i n) : fgetO (o :: os) (i + 1) n = fgetO os i n := by unfold fgetO; rw [List.getElem?_cons_succ]
theorem fgl_hit (n t r) : fgetL ((n, t) :: r) n = t := if_pos rfl
theorem fgl_miss (m n t r) (h : m ≠ n) : fgetL ((m, t) :: r) n = fgetL r n := if_neg h
theorem fput_0 (o : Ob) (os n t) : fputO (o :: os) 0 n t = ⟨o.cls, fputL o.fs n t⟩ :: os := Eq.trans rfl rfl
theorem fpl_nil (n t) : fputL [] n t = [(n, t)] := Eq.trans rfl rfl
theorem fpl_hit (n u t r) : fputL ((n, u) :: r) n t = (n, t) :: r := if_pos rfl
theorem fpl_miss (m n u t r) (h : m ≠ n) : fputL ((m, u) :: r) n t = (m, u) :: fputL r n t := if_neg h
theorem view_obj (i) : view (.obj i) = .obj i := Eq.trans rfl rfl
theorem gkp_obj (i) : gkp (.ok (.obj i)) env sto = .ok (.obj i) env sto := Eq.trans rfl rfl
theorem gkv_obj (j i) : gkv (.ok (.obj j)) i env sto = .ok (.obj j) env sto := Eq.trans rfl rfl
theorem gset_obj (i j) : gset i j (.ok (.obj n)) env sto = .nx (env.set i (some (.obj n))) sto := Eq.trans rfl rfl
theorem rkp_obj (i) : rkp (.ok (.obj i)) = .ok (.obj i) := Eq.trans rfl rfl
theorem tv_meth (a m as) : tv cf env sto (.meth a m as) = tru (pv cf env sto (.meth a m as)) := Eq.trans rfl rfl
theorem tv_fld (a m) : tv cf env sto (.fld a m) = tru (pv cf env sto (.fld a m)) := Eq.trans rfl rfl
theorem kv_meth (a m as) : kv cf (.meth a m as) env sto = gkp (pv cf env sto (.meth a m as)) env sto := Eq.trans rfl rfl
theorem kv_fld (a m) : kv cf (.fld a m) env sto = gkp (pv cf env sto (.fld a m)) env sto := Eq.trans rfl rfl
def cSetf (cf : CF) (lk : Bool) (a : E) (n : Nat) (t : T) (env : En) (sto : List Ob) : SR := ((pv cf env sto a).g env sto).thn fun x env sto => match x with
    | .obj i => if !lk && fokO sto i n then .nx env (fputO sto i n (some t)) else .no
    | _ => .no
def cSetf2 (n : Nat) (t : T) (env : En) (sto : List Ob) (r : Rs T) : SR := match r with
    | .ok (.obj i) => if fokO sto i n then .nx env (fputO sto i n (some t)) else .no
    | .ex e => .ex e env sto
    | _ => .no
theorem cSetf_eq (a n t) : cSetf cf false a n t env sto = cSetf2 n t env sto (pv cf env sto a) := by
  unfold cSetf cSetf2
  cases pv cf env sto a with
  | ok x => cases x <;> rfl
  | ex e => rfl
  | no => rfl
theorem cSetf2_ok (n t i) (h : fokO sto i n = true) : cSetf2 n t env sto (.ok (.obj i)) = .nx env (fputO sto i n (some t)) := if_pos h
theorem ex_setf (a n c) : ex N cf xs lk (.setf a n c) env sto = (gv cf lk c env sto).thn (cSetf cf lk a n) := Eq.trans rfl rfl
theorem lent_nil : lentOf [] = [] := Eq.trans rfl rfl
theorem lent_m (j as) : lentOf (.m j :: as) = j :: lentOf as := Eq.trans rfl rfl
theorem lent_v (j as) : lentOf (.v j :: as) = lentOf as := Eq.trans rfl rfl
theorem lent_e (j as) : lentOf (.e j :: as) = lentOf as := Eq.trans rfl rfl
theorem lent_o (j as) : lentOf (.o j :: as) = lentOf as := Eq.trans rfl rfl
theorem takn_nil : takn [] = [] := Eq.trans rfl rfl
theorem takn_m (j as) : takn (.m j :: as) = j :: takn as := Eq.trans rfl rfl
theorem takn_o (j as) : takn (.o j :: as) = j :: takn as := Eq.trans rfl rfl
theorem takn_v (j as) : takn (.v j :: as) = takn as := Eq.trans rfl rfl
theorem takn_e (j as) : takn (.e j :: as) = takn as := Eq.trans rfl rfl
theorem lend_nil : lend [] env = env := Eq.trans rfl rfl
theorem lend_cons (j js) : lend (j :: js) env = lend js (env.set j none) := Eq.trans rfl rfl
theorem give_nil : giveBack [] [] env = some env := Eq.trans rfl rfl
theorem give_cons (j js t ts) : giveBack (j :: js) (t :: ts) env = giveBack js ts (env.set j (some t)) := Eq.trans rfl rfl
/-! defs -/
theorem fin_nil (t) : fin [] t env sto = if clean t then .ok t [] sto else .no := by unfold fin; simp only [musOf]
def fnE (mu : List Nat) (r : SR) : FR := match r with
    | .nx env sto => fin mu .non env sto
    | .rt t env sto => fin mu t env sto
    | .ex e env sto => match musOf mu env with
      | some ms => .ex e ms sto
      | none => .no
    | _ => .no
theorem padT_fullE {d : FD} {ts : List T} (h : ts.length = d.np) : padT d ts = ts := by
  unfold padT
  rw [h, show d.np + d.dfl.length - d.np = d.dfl.length by omega, List.drop_length, List.append_nil]
theorem fnT_eq (d : FD) (ts : List T) (h : ts.length = d.np) : fnT N cf xs d ts sto lk = fnE d.mu (exs N cf xs lk d.body (startT d.n ts) sto) := by
  unfold fnT
  rw [padT_fullE h, if_pos h]
  rfl
theorem fnE_nx (mu) : fnE mu (.nx env sto) = fin mu .non env sto := Eq.trans rfl rfl
theorem fnE_rt (mu t) : fnE mu (.rt t env sto) = fin mu t env sto := Eq.trans rfl rfl
theorem fnE_ex (e) : fnE [] (.ex e env sto) = .ex e [] sto := Eq.trans rfl rfl
end
section
variable {N : Nat} {xs : Nat → Nat → Bool} {tb : Nat → Option FD} {k : Nat} {sto : List Ob} {lk : Bool}
theorem call_eq {f : Nat} {d : FD} {ts : List T} (h : tb f = some d) (hk : d.kd = .fn) : callF N xs tb (k + 1) f ts sto lk = fnT N (callF N xs tb k) xs d ts sto lk := by
  rw [callF]
  simp only [h, hk]
theorem call_run {f n np : Nat} {mu : List Nat} {b : Ss} {df : List T} {ts : List T} (h : tb f = some ⟨n, np, mu, b, df, .fn⟩) (hl : ts.length = np) : callF N xs tb (k + 1) f ts sto lk = fnE mu (exs N (callF N xs tb k) xs lk b (startT n ts) sto) := by
  rw [call_eq h rfl, fnT_eq _ _ hl]
/-- a default fills up -/
theorem call_dfl {f n np : Nat} {mu : List Nat} {b : Ss} {t : T} {ts : List T} (h : tb f = some ⟨n, np, mu, b, [t], .fn⟩) (hl : ts.length + 1 = np) : callF N xs tb (k + 1) f ts sto lk = callF N xs tb (k + 1) f (ts ++ [t]) sto lk := by
  rw [call_eq h rfl, call_eq h rfl]
  unfold fnT
  have e1 : padT ⟨n, np, mu, b, [t], .fn⟩ ts = ts ++ [t] := by
    unfold padT
    simp only [List.length_cons, List.length_nil]
    rw [show ts.length + (0 + 1) - np = 0 by omega]; rfl
  rw [padT_fullE (d := ⟨n, np, mu, b, [t], .fn⟩) (ts := ts ++ [t]) (by simp; omega), e1]
theorem call_isc {f n np : Nat} {cs : List Nat} {b : Ss} {mu : List Nat} {df : List T} {i : Nat} {o : Ob} (h : tb f = some ⟨n, np, mu, b, df, .isc cs⟩) (ho : sto[i]? = some o) : callF N xs tb (k + 1) f [.obj i] sto lk = .ok (.bl (cs.contains o.cls)) [] sto := by
  rw [callF]
  simp only [h]
  unfold iscT
  simp only [ho]
theorem call_vt {f n np g : Nat} {l : List (Nat × Nat)} {b : Ss} {mu : List Nat} {df : List T} {i : Nat} {o : Ob} {ts : List T} {d : FD} (h : tb f = some ⟨n, np, mu, b, df, .vt l⟩) (ho : sto[i]? = some o) (hl : l.lookup o.cls = some g) (hg : tb g = some d) (hk : d.kd = .fn) (hm : d.mu = []) :
    callF N xs tb (k + 1) f (.obj i :: ts) sto lk = callF N xs tb (k + 1) g (.obj i :: ts) sto lk := by
  have e : dispT tb l (.obj i :: ts) sto = some g := by
    unfold dispT
    simp only [ho, hl, hg, hk, hm]
  rw [call_eq hg hk, callF]
  simp only [h, e, hg]
theorem call_nw {f n np c g : Nat} {b : Ss} {mu : List Nat} {df : List T} {ts : List T} (h : tb f = some ⟨n, np, mu, b, df, .nw c g⟩) : callF N xs tb (k + 1) f ts sto false = newT (callF N xs tb k g (.obj sto.length :: ts) (sto ++ [⟨c, []⟩]) false) sto.length := by
  rw [callF]
  first
    | (simp only [h]; done)
    | (simp only [h]; rfl)
theorem newT_ok (sto n) : newT (.ok .non [] sto) n = .ok (.obj n) [] sto := Eq.trans rfl rfl
theorem newT_ex (e sto n) : newT (.ex e [] sto) n = .ex e [] sto := Eq.trans rfl rfl
end
end Tr
namespace K72
open PySem Tr
def top (i : Nat) : Stmt := PySem.Challenge.pw_stow_k72_the_waste_grows.main.body.getD i (.Pass ⟨0, 0, 0, 0⟩)
def d354_is_on : FD := ⟨3, 3, [], (.cons (.ret (.p (.cmp .lt (.bin .mod (.bin .sub (.var 1) (.ix (.var 0) (.int 1))) (.var 2)) (.ix (.var 0) (.int 2))))) .nil), [], .fn⟩
abbrev t354 : DefT := ⟨354, "is_on", "is_on", top 6, ["piece", "offset", "period"], ["piece", "offset", "period"], d354_is_on⟩
def d355_waste_on : FD := ⟨4, 3, [], (.cons (.ret (.p (.blt .sum (.cons (.lc 3 (.var 0) (.call 354 (.cons (.var 3) (.cons (.var 1) (.cons (.var 2) .nil)))) (.bin .sub (.var 2) (.ix (.var 3) (.int 2)))) .nil)))) .nil), [], .fn⟩
abbrev t355 : DefT := ⟨355, "waste_on", "waste_on", top 7, ["held", "offset", "period", "piece"], ["held", "offset", "period"], d355_waste_on⟩
def d356_offset_for : FD := ⟨5, 3, [], (.cons (.set 3 (.p (.bin .shl (.int 1) (.var 1)))) (.cons (.set 4 (.p (.bin .add (.var 2) (.bin .shl (.int 1) (.bin .sub (.var 1) (.int 1)))))) (.cons (.ife (.p (.cmp .gt (.call 355 (.cons (.var 0) (.cons (.var 4) (.cons (.var 3) .nil)))) (.call 355 (.cons (.var 0) (.cons (.var 2) (.cons (.var 3) .nil)))))) (.cons (.ret (.p (.var 4))) .nil) .nil) (.cons (.ret (.p (.var 2))) .nil)))), [], .fn⟩
abbrev t356 : DefT := ⟨356, "offset_for", "offset_for", top 8, ["held", "step", "offset", "period", "other"], ["held", "step", "offset"], d356_offset_for⟩
def d4_law_cell_at : FD := ⟨2, 2, [], (.cons (.ife (.p (.cmp .lt (.var 1) (.blt .len (.cons (.var 0) .nil)))) (.cons (.ret (.p (.ix (.var 0) (.var 1)))) .nil) .nil) (.cons (.ret (.p (.int 0))) .nil)), [], .fn⟩
abbrev t4 : DefT := ⟨4, "_law_cell_at", "_law_cell_at", top 11, ["_law_script", "_law_k"], ["_law_script", "_law_k"], d4_law_cell_at⟩
def d280_law_draw : FD := ⟨3, 3, [], (.cons (.ret (.p (.bin .mod (.bin .mod (.bin .mul (.bin .add (.bin .mod (.call 4 (.cons (.var 0) (.cons (.var 1) .nil))) (.int 1000003)) (.bin .mul (.var 1) (.var 1))) (.int 48271)) (.int 999983)) (.var 2)))) .nil), [], .fn⟩
abbrev t280 : DefT := ⟨280, "_law_draw", "_law_draw", top 12, ["_law_script", "_law_k", "_law_many"], ["_law_script", "_law_k", "_law_many"], d280_law_draw⟩
def d281_law_other : FD := ⟨3, 3, [], (.cons (.ret (.p (.bin .mod (.bin .mod (.bin .mul (.bin .add (.bin .add (.bin .mod (.call 4 (.cons (.var 0) (.cons (.var 1) .nil))) (.int 1000033)) (.bin .mul (.int 7) (.var 1))) (.int 1)) (.int 69621)) (.int 1000003)) (.var 2)))) .nil), [], .fn⟩
abbrev t281 : DefT := ⟨281, "_law_other", "_law_other", top 13, ["_law_script", "_law_k", "_law_many"], ["_law_script", "_law_k", "_law_many"], d281_law_other⟩
def d5_law_whole : FD := ⟨1, 1, [], (.cons (.ret (.p (.and (.isi (.var 0) .int) (.not (.isi (.var 0) .bool))))) .nil), [], .fn⟩
abbrev t5 : DefT := ⟨5, "_law_whole", "_law_whole", top 14, ["_law_found"], ["_law_found"], d5_law_whole⟩
abbrev b357_0 : Ss := (.cons (.ife (.p (.and (.cmp .lt (.var 6) (.bin .add (.ix (.var 7) (.int 1)) (.ix (.var 7) (.int 2)))) (.cmp .lt (.ix (.var 7) (.int 1)) (.bin .add (.var 6) (.var 3))))) (.cons (.set 6 (.p (.bin .add (.ix (.var 7) (.int 1)) (.ix (.var 7) (.int 2))))) .nil) .nil) .nil)
def d357_law_spot : FD := ⟨8, 4, [], (.cons (.set 4 (.p (.call 281 (.cons (.var 0) (.cons (.int 1) (.cons (.int 4) .nil)))))) (.cons (.set 5 (.p (.call 280 (.cons (.var 0) (.cons (.var 1) (.cons (.int 8) .nil)))))) (.cons (.set 6 (.p (.int 0))) (.cons (.ife (.p (.cmp .eq (.var 4) (.int 2))) (.cons (.set 6 (.p (.call 281 (.cons (.var 0) (.cons (.var 1) (.cons (.int 24) .nil)))))) .nil) .nil) (.cons (.ife (.p (.and (.cmp .eq (.var 4) (.int 3)) (.cmp .eq (.var 5) (.int 5)))) (.cons (.set 6 (.p (.call 281 (.cons (.var 0) (.cons (.var 1) (.cons (.int 64) .nil)))))) .nil) .nil) (.cons (.ife (.p (.and (.cmp .eq (.var 4) (.int 3)) (.cmp .eq (.var 5) (.int 6)))) (.cons (.set 6 (.p (.bin .sub (.call 281 (.cons (.var 0) (.cons (.var 1) (.cons (.int 64) .nil)))) (.int 50)))) .nil) .nil) (.cons (.ife (.p (.and (.cmp .eq (.var 4) (.int 3)) (.cmp .eq (.var 5) (.int 7)))) (.cons (.set 6 (.p (.bin .sub (.bin .mod (.call 4 (.cons (.var 0) (.cons (.var 1) .nil))) (.bin .add (.bin .mul (.int 2) (.bin .pow (.int 10) (.int 12))) (.int 1))) (.bin .pow (.int 10) (.int 12))))) .nil) .nil) (.cons (.fore 7 (.srtk 358 1 (.var 2)) b357_0) (.cons (.ret (.p (.var 6))) .nil))))))))), [], .fn⟩
abbrev t357 : DefT := ⟨357, "_law_spot", "_law_spot", top 15, ["_law_script", "_law_k", "_law_pieces", "_law_size", "_law_keeper", "_law_way", "_law_spot_here", "_law_piece"], ["_law_script", "_law_k", "_law_pieces", "_law_size"], d357_law_spot⟩
def d358_law_place_of : FD := ⟨1, 1, [], (.cons (.ret (.p (.ix (.var 0) (.int 1)))) .nil), [], .fn⟩
abbrev t358 : DefT := ⟨358, "_law_place_of", "_law_place_of", top 16, ["_law_piece"], ["_law_piece"], d358_law_place_of⟩
def d370_law_is_deed : FD := ⟨1, 1, [], (.cons (.ife (.p (.or (.not (.isi (.var 0) .tuple)) (.or (.cmp .lt (.blt .len (.cons (.var 0) .nil)) (.int 1)) (.not (.isi (.ix (.var 0) (.int 0)) .str))))) (.cons (.ret (.p (.bl false))) .nil) .nil) (.cons (.ife (.p (.cmp .eq (.ix (.var 0) (.int 0)) (.str (PySem.Str.ofString "rest")))) (.cons (.ret (.p (.cmp .eq (.blt .len (.cons (.var 0) .nil)) (.int 1)))) .nil) .nil) (.cons (.ret (.p (.and (.cmp .eq (.blt .len (.cons (.var 0) .nil)) (.int 2)) (.and (.call 5 (.cons (.ix (.var 0) (.int 1)) .nil)) (.cmp .in_ (.ix (.var 0) (.int 0)) (.tup (.cons (.str (PySem.Str.ofString "ask")) (.cons (.str (PySem.Str.ofString "give")) .nil)))))))) .nil))), [], .fn⟩
abbrev t370 : DefT := ⟨370, "_law_is_deed", "_law_is_deed", top 17, ["_law_found"], ["_law_found"], d370_law_is_deed⟩
def d360_law_top : FD := ⟨1, 1, [], (.cons (.ife (.p (.cmp .eq (.call 280 (.cons (.var 0) (.cons (.int 0) (.cons (.int 8) .nil)))) (.int 5))) (.cons (.ret (.p (.bin .add (.int 4) (.call 281 (.cons (.var 0) (.cons (.int 0) (.cons (.int 2) .nil))))))) .nil) .nil) (.cons (.ret (.p (.call 281 (.cons (.var 0) (.cons (.int 0) (.cons (.int 4) .nil)))))) .nil)), [], .fn⟩
abbrev t360 : DefT := ⟨360, "_law_top", "_law_top", top 18, ["_law_script"], ["_law_script"], d360_law_top⟩
def d361_law_most : FD := ⟨2, 2, [], (.cons (.ret (.p (.bin .add (.bin .shl (.int 1) (.var 1)) (.call 280 (.cons (.var 0) (.cons (.int 1) (.cons (.int 17) .nil))))))) .nil), [], .fn⟩
abbrev t361 : DefT := ⟨361, "_law_most", "_law_most", top 19, ["_law_script", "_law_top_here"], ["_law_script", "_law_top_here"], d361_law_most⟩
def d371_law_end_holds : FD := ⟨7, 3, [0], (.cons (.set 3 (.p (.blt .len (.cons (.var 0) .nil)))) (.cons (.set 4 (.p (.blt .sum (.cons (.lc 6 (.var 1) (.bl true) (.ix (.var 6) (.int 2))) .nil)))) (.cons (.set 5 (.p (.bin .sub (.bin .mul (.bin .shl (.int 1) (.var 3)) (.blt .len (.cons (.var 1) .nil))) (.var 4)))) (.cons (.ife (.p (.cmp .le (.bin .add (.var 4) (.bin .shl (.int 1) (.var 3))) (.var 2))) (.cons (.ret (.p (.bl false))) .nil) .nil) (.cons (.ife (.p (.and (.cmp .gt (.var 3) (.int 0)) (.cmp .lt (.bin .mul (.int 2) (.var 5)) (.bin .add (.bin .mul (.int 2) (.ix (.ix (.var 0) (.bin .sub (.var 3) (.int 1))) (.int 0))) (.ix (.ix (.var 0) (.bin .sub (.var 3) (.int 1))) (.int 1)))))) (.cons (.ret (.p (.bl false))) .nil) .nil) (.cons (.app 0 (.tup (.cons (.var 5) (.cons (.var 4) .nil)))) (.cons (.ret (.p (.bl true))) .nil))))))), [], .fn⟩
abbrev t371 : DefT := ⟨371, "_law_end_holds", "_law_end_holds", top 20, ["_law_ends", "_law_pieces", "_law_most_here", "_law_step", "_law_live", "_law_waste", "_law_piece"], ["_law_ends", "_law_pieces", "_law_most_here"], d371_law_end_holds⟩
abbrev b372_0 : Ss := (.cons (.set 5 (.p (.bin .fdiv (.bin .sub (.bin .sub (.bin .add (.ix (.var 4) (.int 1)) (.ix (.var 4) (.int 2))) (.int 1)) (.var 2)) (.var 3)))) (.cons (.ife (.p (.cmp .ne (.bin .sub (.var 5) (.bin .fdiv (.bin .sub (.bin .sub (.ix (.var 4) (.int 1)) (.int 1)) (.var 2)) (.var 3))) (.int 1))) (.cons (.ret (.p (.bl false))) .nil) .nil) .nil))
def d372_law_once : FD := ⟨6, 3, [], (.cons (.set 3 (.p (.bin .shl (.int 1) (.var 1)))) (.cons (.forv 4 0 b372_0) (.cons (.ret (.p (.bl true))) .nil))), [], .fn⟩
abbrev t372 : DefT := ⟨372, "_law_once", "_law_once", top 21, ["_law_pieces", "_law_step", "_law_offset", "_law_period", "_law_piece", "_law_upto"], ["_law_pieces", "_law_step", "_law_offset"], d372_law_once⟩
abbrev b373_0 : Ss := (.cons (.ife (.not (.call 371 [.m 0, .v 1, .v 2])) (.cons (.ret (.p (.bl false))) .nil) .nil) .nil)
def d373_law_steps_end : FD := ⟨5, 5, [0], (.cons (.ife (.p (.and (.cmp .gt (.var 3) (.blt .len (.cons (.var 0) .nil))) (.not (.call 372 (.cons (.var 1) (.cons (.blt .len (.cons (.var 0) .nil)) (.cons (.var 4) .nil))))))) (.cons (.ret (.p (.bl false))) .nil) .nil) (.cons (.whl (.cmp .lt (.blt .len (.cons (.var 0) .nil)) (.var 3)) b373_0) (.cons (.ret (.p (.bl true))) .nil))), [], .fn⟩
abbrev t373 : DefT := ⟨373, "_law_steps_end", "_law_steps_end", top 22, ["_law_ends", "_law_pieces", "_law_most_here", "_law_now", "_law_offset"], ["_law_ends", "_law_pieces", "_law_most_here", "_law_now", "_law_offset"], d373_law_steps_end⟩
abbrev b374_0 : Ss := (.cons (.set 8 (.p (.meth (.var 3) 22 .nil))) (.cons (.set 9 (.p (.meth (.var 3) 27 .nil))) (.cons (.ife (.p (.or (.not (.call 370 (.cons (.var 8) .nil))) (.not (.call 5 (.cons (.var 9) .nil))))) (.cons (.ret (.p (.bl false))) .nil) .nil) (.cons (.ife (.p (.cmp .eq (.ix (.var 8) (.int 0)) (.str (PySem.Str.ofString "rest")))) (.cons (.ret (.and (.p (.cmp .eq (.meth (.var 3) 26 .nil) (.var 1))) (.call 373 [.m 5, .v 4, .v 2, .e (.bin .add (.var 1) (.int 1)), .v 9]))) .nil) .nil) (.cons (.ife (.p (.cmp .eq (.ix (.var 8) (.int 0)) (.str (PySem.Str.ofString "give")))) (.cons (.set 4 (.p (.lc 12 (.var 4) (.cmp .ne (.ix (.var 12) (.int 0)) (.ix (.var 8) (.int 1))) (.var 12)))) (.cons (.expr (.meth (.var 3) 24 [])) .nil)) (.cons (.set 11 (.p (.call 357 (.cons (.var 0) (.cons (.bin .add (.int 2) (.var 6)) (.cons (.var 4) (.cons (.ix (.var 8) (.int 1)) .nil))))))) (.cons (.app 4 (.tup (.cons (.var 6) (.cons (.var 11) (.cons (.ix (.var 8) (.int 1)) .nil))))) (.cons (.set 6 (.p (.bin .add (.var 6) (.int 1)))) (.cons (.expr (.meth (.var 3) 23 [.v 11])) .nil))))) (.cons (.set 10 (.p (.meth (.var 3) 26 .nil))) (.cons (.ife (.p (.or (.cmp .gt (.blt .sum (.cons (.lc 12 (.var 4) (.bl true) (.ix (.var 12) (.int 2))) .nil)) (.var 2)) (.or (.not (.call 5 (.cons (.var 10) .nil))) (.cmp .gt (.var 10) (.var 1))))) (.cons (.ret (.p (.bl false))) .nil) .nil) (.cons (.ife (.not (.call 373 [.m 5, .v 4, .v 2, .v 10, .v 9])) (.cons (.ret (.p (.bl false))) .nil) .nil) .nil))))))))
def d374_law : FD := ⟨13, 1, [], (.cons (.set 1 (.p (.call 360 (.cons (.var 0) .nil)))) (.cons (.set 2 (.p (.call 361 (.cons (.var 0) (.cons (.var 1) .nil))))) (.cons (.set 3 (.call 20010 [.v 2, .v 1])) (.cons (.set 4 (.p (.lst .nil))) (.cons (.set 5 (.p (.lst .nil))) (.cons (.set 6 (.p (.int 0))) (.cons (.forr 7 (.int 0) (.bin .add (.bin .mul (.int 6) (.var 2)) (.int 8)) b374_0) (.cons (.ret (.p (.bl false))) .nil)))))))), [], .fn⟩
abbrev t374 : DefT := ⟨374, "law", "law", top 23, ["_law_script", "_law_top_here", "_law_most_here", "_law_foe", "_law_pieces", "_law_ends", "_law_asked", "_law_turn", "_law_deed", "_law_offset", "_law_now", "_law_place", "_law_piece"], ["_law_script"], d374_law⟩
def d2076_Foe___init__ : FD := ⟨3, 3, [], (.cons (.ife (.p (.or (.cmp .lt (.var 2) (.int 0)) (.cmp .lt (.var 1) (.bin .shl (.int 1) (.var 2))))) (.cons (.raise 2 .none) .nil) .nil) (.cons (.setf (.var 0) 7 (.p (.var 1))) (.cons (.setf (.var 0) 8 (.p (.var 2))) (.cons (.setf (.var 0) 9 (.p (.int 0))) (.cons (.setf (.var 0) 10 (.p (.int 0))) (.cons (.setf (.var 0) 11 (.p (.int 0))) (.cons (.setf (.var 0) 12 (.p (.lst .nil))) (.cons (.setf (.var 0) 13 (.p (.lst .nil))) .nil)))))))), [], .fn⟩
abbrev t2076 : DefT := ⟨2076, "__init__", "Foe.__init__", L2.inClass (top 9) 0, ["self", "most", "top"], ["self", "most", "top"], d2076_Foe___init__⟩
def d2077_Foe_may_ask : FD := ⟨3, 1, [], (.cons (.set 1 (.p (.blt .sum (.cons (.lc 2 (.fld (.var 0) 12) (.bl true) (.ix (.var 2) (.int 2))) .nil)))) (.cons (.ret (.p (.cmp .le (.bin .add (.var 1) (.bin .shl (.int 1) (.fld (.var 0) 9))) (.fld (.var 0) 7)))) .nil)), [], .fn⟩
abbrev t2077 : DefT := ⟨2077, "may_ask", "Foe.may_ask", L2.inClass (top 9) 1, ["self", "used", "piece"], ["self"], d2077_Foe_may_ask⟩
abbrev b2085_0 : Ss := (.cons (.setf (.var 0) 9 (.p (.bin .add (.fld (.var 0) 9) (.int 1)))) (.cons (.setf (.var 0) 10 (.p (.call 356 (.cons (.fld (.var 0) 12) (.cons (.fld (.var 0) 9) (.cons (.fld (.var 0) 10) .nil)))))) (.cons (.set 1 (.p (.bin .shl (.int 1) (.fld (.var 0) 9)))) (.cons (.setf (.var 0) 13 (.p (.lc 2 (.fld (.var 0) 12) (.not (.call 354 (.cons (.var 2) (.cons (.fld (.var 0) 10) (.cons (.var 1) .nil))))) (.ix (.var 2) (.int 0))))) .nil))))
def d2085_Foe_go_on : FD := ⟨3, 1, [], (.cons (.whl (.and (.cmp .eq (.blt .len (.cons (.fld (.var 0) 13) .nil)) (.int 0)) (.and (.cmp .lt (.fld (.var 0) 9) (.fld (.var 0) 8)) (.not (.meth (.var 0) 20 .nil)))) b2085_0) .nil), [], .fn⟩
abbrev t2085 : DefT := ⟨2085, "go_on", "Foe.go_on", L2.inClass (top 9) 2, ["self", "period", "piece"], ["self"], d2085_Foe_go_on⟩
def d2079_Foe_deed : FD := ⟨1, 1, [], (.cons (.ife (.p (.cmp .gt (.blt .len (.cons (.fld (.var 0) 13) .nil)) (.int 0))) (.cons (.ret (.p (.tup (.cons (.str (PySem.Str.ofString "give")) (.cons (.ix (.fld (.var 0) 13) (.int 0)) .nil))))) .nil) .nil) (.cons (.ife (.p (.meth (.var 0) 20 .nil)) (.cons (.ret (.p (.tup (.cons (.str (PySem.Str.ofString "ask")) (.cons (.bin .shl (.int 1) (.fld (.var 0) 9)) .nil))))) .nil) .nil) (.cons (.ret (.p (.tup (.cons (.str (PySem.Str.ofString "rest")) .nil)))) .nil))), [], .fn⟩
abbrev t2079 : DefT := ⟨2079, "deed", "Foe.deed", L2.inClass (top 9) 3, ["self"], ["self"], d2079_Foe_deed⟩
def d2086_Foe_placed : FD := ⟨2, 2, [], (.cons (.ife (.p (.cmp .ne (.ix (.meth (.var 0) 22 .nil) (.int 0)) (.str (PySem.Str.ofString "ask")))) (.cons (.raise 13 .none) .nil) .nil) (.cons (.appf (.var 0) 12 (.tup (.cons (.fld (.var 0) 11) (.cons (.var 1) (.cons (.bin .shl (.int 1) (.fld (.var 0) 9)) .nil))))) (.cons (.setf (.var 0) 11 (.p (.bin .add (.fld (.var 0) 11) (.int 1)))) (.cons (.expr (.meth (.var 0) 21 [])) .nil)))), [], .fn⟩
abbrev t2086 : DefT := ⟨2086, "placed", "Foe.placed", L2.inClass (top 9) 4, ["self", "place"], ["self", "place"], d2086_Foe_placed⟩
def d2087_Foe_gone : FD := ⟨3, 1, [], (.cons (.ife (.p (.cmp .eq (.blt .len (.cons (.fld (.var 0) 13) .nil)) (.int 0))) (.cons (.raise 13 .none) .nil) .nil) (.cons (.set 1 (.p (.ix (.fld (.var 0) 13) (.int 0)))) (.cons (.setf (.var 0) 13 (.p (.slc (.fld (.var 0) 13) (.some (.int 1)) .none))) (.cons (.setf (.var 0) 12 (.p (.lc 2 (.fld (.var 0) 12) (.cmp .ne (.ix (.var 2) (.int 0)) (.var 1)) (.var 2)))) (.cons (.expr (.meth (.var 0) 21 [])) .nil))))), [], .fn⟩
abbrev t2087 : DefT := ⟨2087, "gone", "Foe.gone", L2.inClass (top 9) 5, ["self", "number", "piece"], ["self"], d2087_Foe_gone⟩
def d2083_Foe_step : FD := ⟨1, 1, [], (.cons (.ret (.p (.fld (.var 0) 9))) .nil), [], .fn⟩
abbrev t2083 : DefT := ⟨2083, "step", "Foe.step", L2.inClass (top 9) 7, ["self"], ["self"], d2083_Foe_step⟩
def d2084_Foe_offset : FD := ⟨1, 1, [], (.cons (.ret (.p (.fld (.var 0) 10))) .nil), [], .fn⟩
abbrev t2084 : DefT := ⟨2084, "offset", "Foe.offset", L2.inClass (top 9) 8, ["self"], ["self"], d2084_Foe_offset⟩
def ds : List DefT := [t354, t355, t356, t4, t280, t281, t5, t357, t358, t370, t360, t361, t371, t372, t373, t374, t2076, t2077, t2085, t2079, t2086, t2087, t2083, t2084]
def spx : List (Nat × FD) := [(10020, ⟨0, 0, [], .nil, [], .vt [(10, 2077)]⟩), (40020, ⟨0, 0, [], .nil, [], .pb [(10, 2077)]⟩), (10021, ⟨0, 0, [], .nil, [], .vt [(10, 2085)]⟩), (40021, ⟨0, 0, [], .nil, [], .pb [(10, 2085)]⟩), (10022, ⟨0, 0, [], .nil, [], .vt [(10, 2079)]⟩), (40022, ⟨0, 0, [], .nil, [], .pb [(10, 2079)]⟩), (10023, ⟨0, 0, [], .nil, [], .vt [(10, 2086)]⟩), (40023, ⟨0, 0, [], .nil, [], .pb [(10, 2086)]⟩), (10024, ⟨0, 0, [], .nil, [], .vt [(10, 2087)]⟩), (40024, ⟨0, 0, [], .nil, [], .pb [(10, 2087)]⟩), (10026, ⟨0, 0, [], .nil, [], .vt [(10, 2083)]⟩), (40026, ⟨0, 0, [], .nil, [], .pb [(10, 2083)]⟩), (10027, ⟨0, 0, [], .nil, [], .vt [(10, 2084)]⟩), (40027, ⟨0, 0, [], .nil, [], .pb [(10, 2084)]⟩), (20010, ⟨0, 0, [], .nil, [], .nw 10 2076⟩)]
def cms : List (Nat × List (Nat × Nat)) := [(10, [(0, 2076), (20, 2077), (21, 2085), (22, 2079), (23, 2086), (24, 2087), (26, 2083), (27, 2084)])]
def pd : Pd := ⟨[(("is_on" : Str), 354), (("waste_on" : Str), 355), (("offset_for" : Str), 356), (("_law_cell_at" : Str), 4), (("_law_draw" : Str), 280), (("_law_other" : Str), 281), (("_law_whole" : Str), 5), (("_law_spot" : Str), 357), (("_law_place_of" : Str), 358), (("_law_is_deed" : Str), 370), (("_law_top" : Str), 360), (("_law_most" : Str), 361), (("_law_end_holds" : Str), 371), (("_law_once" : Str), 372), (("_law_steps_end" : Str), 373), (("law" : Str), 374)], [("Foe", 10)], [7, 8, 9, 10, 11, 12, 13], [("StowError", 0), ("NoSize", 2), ("NoTurn", 13)], fun c => [].lookup c, tbX ds spx, fun c d => d == 999 || ([(0, 0), (2, 0), (2, 2), (13, 0), (13, 13)] : List (Nat × Nat)).contains (c, d)⟩
local macro_rules
  | `(tactic| simp! [$ls,*]) => `(tactic| simp only [exs_nil, exs_cons, gv_p, gv_call, acons_ok, rlent_lst, rkp_int, rkp_bl, rkp_str, rkp_non, rkp_lst, argv_nil, argv_m, argv_v, argv_e, gbo_some, gok_eq, gexn_eq, gbk_ok, gbk_ex, gbk_okf, gtand_t, gtand_f, gt_and, gtor_t, gtor_f, gt_or, gtnot_eq, gt_not, gtru_eq, gt_call, gt_meth, gvand_t, gvand_f, gv_and, gvor_t, gvor_f, gv_or, ex_setfix, gbk_exf, gv_meth, gmt_ok, rmt_ok, unF_ok, unF_ex, pv_meth, rfld_ok, rfv_ok, pv_fld, fget_0, fget_s, fgl_hit, fput_0, fpl_nil, fpl_hit, view_obj, gkp_obj, gkv_obj, gset_obj, rkp_obj, tv_meth, tv_fld, kv_meth, kv_fld, cSetf_eq, ex_setf, newT_ok, newT_ex, vmB, nwB, icB, gcl_ok, gnd_0, gnd_1, lent_nil, lent_o, takn_nil, takn_m, takn_o, takn_v, takn_e, argv_o, rkpo_lst, lent_m, lent_v, lent_e, lend_nil, lend_cons, give_nil, give_cons, gt_p, pv_dnew, pv_dis1, pv_dget, rdget_ok, rdg2_int, rdg2_str, ix_dici, ix_dics, cmp_indi, cmp_nindi, cmp_inds, cmp_ninds, truth_dic, blt_lend, view_dic, tv_dget, kv_dnew, kv_dis1, kv_dget, gkp_dic, ex_dset, gdset_eq, gdset1_ok, ex_dsd, gdsd_ok, gdsd2_eq, gv_dpop, gdp_ok, gt_cmp, gt_ix, gv_cmp, gcmp1_eq, gcmp2_eq, gv_tup2, gtp0_eq, gtp1_eq, gv_ix, gix1_eq, gix2_eq, gfl_int, gfl_bl, gfl_str, gfl_non, ex_clr, gclr_l, ex_fork, gfk_d, noex_nx, noex_rt, ex_clrd, gclrd_d, ex_fort, gfT_l, ex_fortv, gfTv_l, unp_nil, unp_cons, ex_fors, gfP1_eq, gfP2_eq, pv_bm, tv_bm, kv_bm, rbm_bitl, rbm_join, rbm_split, rbm_upper, rbm_index, blt_tup, blt_sum, blt_min3, blt_strs, in_ints, nin_ints, in_bls, nin_bls, ex_pass, ex_brk, ex_cnt, ex_retn, ex_ret, ex_expr, ex_ife, ex_mov, ex_setv, ex_whl, tstW_eq, ex_forv, ex_forr, ex_fore, gfe_l, ex_setix, ex_raise, ex_raisef, rzf_int, ex_tryx, ex_unp, gunp_2, gtry_nx, gtry_rt, gtry_ex, hdl_nil, hdl_cons, un_nx, un_rt, unNm_none, unNm_some, su_nil, su_ret, su_cons, gsuR_ok, gsuS_ok, uv_int, uv_str, uv_bl, uv_non, uv_isx, uv_isxs, uv_fld, uv_not, uv_and, uv_ne, rnotb_ok, rneb_ok, ex_app, gApp_l, cApp_eq, cApp_l, cIx_eq, cIx_l, ex_set, ne_eq, reduceCtorEq, not_false_eq_true, implies_true, forall_const, C.p.injEq, false_implies,
      cSet_eq, cRet_eq, cDrop_eq, cIf_t, cIf_f, gset_int, gset_bl, gset_non, gfv_l, gfr2_eq,
      pv_var, pv_int, pv_str, pv_bl, pv_non, pv_bin, pv_neg, pv_not, pv_and, pv_or, pv_cmp, pv_chain, pv_ite, pv_call, pv_blt, pv_srtk, rsrtk_ok, kv_srtk, pv_isi, pv_ix, pv_slc, pv_lc, pv_lcr, pv_tup, pv_lst, pvs_nil, pvs_cons, pvo_none, pvo_some,
      tv_not, tv_and, tv_or, tv_var, tv_bl, tv_cmp, tv_chain, tv_call, tv_blt, tv_isi, tv_ix, tv_bin,
      kv_var, kv_tup, kv_lst, kvs_nil, kvs_cons, kcons_eq, kpre_eq, kv_int, kv_str, kv_bl, kv_non, kv_bin, kv_neg, kv_not, kv_and, kv_or, kv_cmp, kv_chain, kv_ite, kv_call, kv_blt, kv_isi, kv_ix, kv_slc, kv_lc, kv_lcr,
      Rs.bind_ok, Rs.bind_ex, GR.bind_ok, GR.bind_ex, GR.thn_ok, GR.thn_ex, SR.thn_nx, SR.thn_rt, SR.thn_ex, SR.thn_bk, SR.thn_ct, SR.turn_nx, SR.turn_ct, SR.turn_bk, SR.turn_rt, SR.turn_ex, Rs.g_ok, Rs.g_ex, ofO_some,
      rview_ok, view_int, view_bl, view_str, view_non, view_lst, rbin_ok, rcmp_ok, rneg_ok, rnot_ok, rand_t, rand_f, rand_ok, ror_t, ror_f, ror_ok, rchain_ok, rite_t, rite_f, unfr_ok, unfr_ex, rcall_ok, rblt_ok, risi_int, risi_bl, risi_str, risi_non, risi_lst, risi_tup, risi_dic, rix_ok, rslc_ok, rtup_ok, rlst_ok, rcons_ok, rint_ok,
      tnot_ok, tand_t, tand_f, tand_ok, tor_t, tor_f, tor_ok, tru_ok, truth_bl, truth_non, truth_int, truth_lst, getV_0, getV_s,
      bin_add, bin_sub, bin_mulr, bin_mull, bin_mod, bin_divs, bin_pows, bin_shr, bin_shls, Int.reduceLT, Int.reduceLE, Int.reduceToNat, Int.reduceNeg, Nat.reduceAdd, Nat.reduceLeDiff, Int.reduceAdd, Int.reduceSub, Int.reduceEq, nc0, nc1, nc2, nc3, nc4, nc5, nc6, nc7, nc8, nc9, nc10, nc11, nc12, nc13, cmp_lt, cmp_le, cmp_gt, cmp_ge, cmp_eq, cmp_ne, cmp_eqb, cmp_isb, cmp_neb, cmp_eqni, cmp_eqin, cmp_neni, cmp_nein, cmp_eqnn, cmp_nenn, cmp_is, cmp_isn, isNon_int, isNon_non, isNon_tup, isNon_lst, isNon_bl,
      blt_lenl, blt_lent, blt_inti, blt_intb, blt_list, blt_max, blt_min, blt_abs, slc_ok, ix_cons, ix_lstn, ix_tup, atT_0, atT_1, atT_2, atT_3,
      gkp_int, gkp_bl, gkp_non, gkp_str, gkp_lst, gkp_ex, gkv_int, gkv_bl, gkv_non, gkv_str, gkv_lst, gktup_ok, gklst_ok,
      fnE_nx, fnE_rt, fnE_ex, fin_nil, clean, flat, flatL, cleanL, if_true, if_false, ite_true, ite_false, Bool.false_eq_true, ↓reduceIte, Bool.and_true, Bool.true_and, Bool.and_false, Bool.false_and, Bool.or_true, Bool.or_false, Bool.true_or, Bool.false_or, Bool.not_true, Bool.not_false, decide_true, decide_false, eq_self, iff_self, decide_eq_true_eq, or_false, or_true, false_or, true_or,
      List.set_cons_zero, List.set_cons_succ, List.map_cons, List.map_nil, List.length_cons, List.length_nil, $ls,*])
/-- a list that is only read -/
abbrev LI (ns : List Int) : T := .lst true false (ns.map T.int)
def cell (ns : List Int) (i : Nat) : Int := ns.getD i 0
theorem mod_b (c : Int) {n : Int} (h : 0 < n) : 0 ≤ c % n ∧ c % n < n := ⟨Int.emod_nonneg _ (by omega), Int.emod_lt_of_pos _ h⟩
section
variable {NN : Nat} {xs : Nat → Nat → Bool} {tb : Nat → Option FD} {k : Nat} {sto : List Ob} {lk : Bool}
theorem cell_at (h : tb 4 = some d4_law_cell_at) (ns : List Int) (i : Int) (h0 : 0 ≤ i) : callF NN xs tb (k + 1) 4 [.lst true false (ns.map T.int), .int i] sto lk = .ok (.int (cell ns i.toNat)) [] sto := by
  rw [call_run h rfl]
  show fnE _ (exs _ _ _ _ _ [some (LI ns), some (.int i)] _) = _
  by_cases hi : i < ns.length
  · have e : (ns.map T.int)[i.toNat]? = some (.int (cell ns i.toNat)) := by simp [cell, show i.toNat < ns.length by omega]
    simp! [List.length_map, hi, ix_lst, atT_pos h0, e]
  · have e : cell ns i.toNat = 0 := by simp [cell, show ns.length ≤ i.toNat by omega]
    simp! [List.length_map, hi, e]
end
/-- a cell's number -/
def gi (cells : List Int) (i : Int) : Int := cells.getD i.toNat 0
theorem ix_int {z} {cells : List Int} {i : Int} (h0 : 0 ≤ i) (h1 : i < cells.length) : ixT (.lst z false (cells.map T.int)) (.int i) = .ok (.int (gi cells i)) := by
  refine ix_at h0 ?_
  have : i.toNat < cells.length := by omega
  simp [gi, this]
theorem band1 (x : Int) : binT .band (.int x) (.int 1) = .ok (.int (x % 2)) := by
  show Rs.ok (T.int (Builtin.bitAnd x 1)) = _
  rw [PyProof.Rows.bitAnd_m1]
def eO : Option Int → T
  | some i => .int i
  | none => .non
theorem fr_len {i : Nat} {n : Nat} {go : En → List Ob → SR} {env : En} {sto : List Ob} (h : n < 1000000) : gfr go i (.int 0) (.int n) env sto = loopR go i n 0 env sto := by
  have e : ((n : Int) - 0).toNat = n := by omega
  rw [gfr_ok _ _ _ _ (by omega), e]
/-! equality of plain trees -/
theorem dat_ints : ∀ ns : List Int, datL (ns.map T.int) = some (ns.map PyData.int)
  | [] => rfl
  | n :: ns => by simp only [List.map_cons, datL, dat, dat_ints ns]
theorem lay_ints : ∀ ns : List Int, PyData.canLayAll0 (ns.map PyData.int) = true
  | [] => rfl
  | n :: ns => by simp only [List.map_cons, PyData.canLayAll0, PyData.canLay0, lay_ints ns, Bool.and_self]
theorem dep_ints : ∀ ns : List Int, PyData.depthAll (ns.map PyData.int) = 0
  | [] => rfl
  | n :: ns => by simp only [List.map_cons, PyData.depthAll, PyData.depth, dep_ints ns]; rfl
theorem eqv_ints : ∀ ns ms : List Int, PyData.eqvAll (ns.map PyData.int) (ms.map PyData.int) = decide (ns = ms)
  | [], [] => rfl
  | [], _ :: _ => rfl
  | _ :: _, [] => rfl
  | n :: ns, m :: ms => by
    simp only [List.map_cons, PyData.eqvAll, eqv_ints ns ms, List.cons.injEq]
    by_cases h : n = m <;> by_cases h2 : ns = ms <;> simp [PyData.eqv, h, h2]
theorem eqT_ints {z n z2 n2} (ns ms : List Int) : eqT (.lst z n (ns.map T.int)) (.lst z2 n2 (ms.map T.int)) = some (decide (ns = ms)) := by
  have h : ∀ ns : List Int, SeqAt.shaped (.list (ns.map PyData.int)) = true := fun ns => by
    simp only [SeqAt.shaped, PyData.canLay0, lay_ints, PyData.depth, dep_ints, Bool.true_and, decide_eq_true_eq]; omega
  simp only [eqT, dat, dat_ints, Option.map_some, h, Bool.and_self, if_true, PyData.eqv, eqv_ints]
theorem cmp_eq_ints {z n z2 n2} (ns ms : List Int) : cmpT .eq (.lst z n (ns.map T.int)) (.lst z2 n2 (ms.map T.int)) = .ok (.bl (decide (ns = ms))) := by
  show (ofO (eqT (.lst z n (ns.map T.int)) (.lst z2 n2 (ms.map T.int)))).bind _ = _
  rw [eqT_ints]; rfl
theorem cmp_ne_ints {z n z2 n2} (ns ms : List Int) : cmpT .ne (.lst z n (ns.map T.int)) (.lst z2 n2 (ms.map T.int)) = .ok (.bl (!decide (ns = ms))) := by
  show (ofO (eqT (.lst z n (ns.map T.int)) (.lst z2 n2 (ms.map T.int)))).bind _ = _
  rw [eqT_ints]; rfl
theorem eqT_P (p q : Int × Int × Bool) : eqT (.tup [.int p.1, .int p.2.1, .bl p.2.2]) (.tup [.int q.1, .int q.2.1, .bl q.2.2]) = some (decide (p = q)) := by
  obtain ⟨a, b, c⟩ := p
  obtain ⟨a', b', c'⟩ := q
  have e : eqT (.tup [.int a, .int b, .bl c]) (.tup [.int a', .int b', .bl c']) = some (PyData.eqv (.tuple [.int a, .int b, .bool c]) (.tuple [.int a', .int b', .bool c'])) := by
    simp only [eqT, dat, datL, Option.map_some]
    exact if_pos rfl
  rw [e]
  congr 1
  by_cases h1 : a = a' <;> by_cases h2 : b = b' <;> by_cases h3 : c = c' <;> simp [PyData.eqv, PyData.eqvAll, h1, h2, h3]
theorem cmp_eq_of {a b : T} {c : Bool} (h : eqQ a b = some c) : cmpT .eq a b = .ok (.bl c) := by
  show (ofO (eqQ a b)).bind _ = _
  rw [h]; rfl
theorem cmp_ne_of {a b : T} {c : Bool} (h : eqQ a b = some c) : cmpT .ne a b = .ok (.bl (!c)) := by
  show (ofO (eqQ a b)).bind _ = _
  rw [h]; rfl
theorem eqQ_tup (xs ys : List T) : eqQ (.tup xs) (.tup ys) = eqT (.tup xs) (.tup ys) := by simp only [eqQ]
section
variable {NN : Nat} {xs : Nat → Nat → Bool} {tb : Nat → Option FD} {k : Nat} {sto : List Ob} {lk : Bool}
theorem whole_int (h : tb 5 = some d5_law_whole) (i : Int) : callF NN xs tb (k + 1) 5 [.int i] sto lk = .ok (.bl true) [] sto := by
  rw [call_run h rfl]
  show fnE _ (exs _ _ _ _ _ [some (.int i)] _) = _
  simp! []
theorem whole_non (h : tb 5 = some d5_law_whole) : callF NN xs tb (k + 1) 5 [.non] sto lk = .ok (.bl false) [] sto := by
  rw [call_run h rfl]
  show fnE _ (exs _ _ _ _ _ [some .non] _) = _
  simp! []
end
def dr (ns : List Int) (i m : Int) : Int := (cell ns i.toNat % 1000003 + i * i) * 48271 % 999983 % m
section
variable {NN : Nat} {xs : Nat → Nat → Bool} {tb : Nat → Option FD} {k : Nat} {sto : List Ob} {lk : Bool}
theorem law_draw (t4 : tb 4 = some d4_law_cell_at) (t280 : tb 280 = some d280_law_draw) (ns : List Int) (i m : Int) (h0 : 0 ≤ i) (h1 : i < 100000) (hm : 0 < m) : callF NN xs tb (k + 2) 280 [.lst true false (ns.map T.int), .int i, .int m] sto lk = .ok (.int (dr ns i m)) [] sto := by
  rw [call_run t280 rfl]
  show fnE _ (exs _ _ _ _ _ [some (LI ns), some (.int i), some (.int m)] _) = _
  have c := cell_at (NN := NN) (xs := xs) (k := k) (sto := sto) (lk := true) t4 ns i h0
  simp! [c, show -18446744073709551616 < i by omega, show i < 18446744073709551616 by omega, hm, dr]
end
/-! keepers of stretches: their methods -/
def Vt (NN : Nat) (xs : Nat → Nat → Bool) (tb : Nat → Option FD) (cl f g : Nat) : Prop := ∀ (k i : Nat) (sto : List Ob) (lk : Bool) (ts : List T) (o : Ob), sto[i]? = some o → o.cls = cl → callF NN xs tb (k + 1) f (.obj i :: ts) sto lk = callF NN xs tb (k + 1) g (.obj i :: ts) sto lk
theorem vt_mk {NN : Nat} {xs : Nat → Nat → Bool} {tb : Nat → Option FD} {cl f g : Nat} {l : List (Nat × Nat)} {d : FD} (h : tb f = some ⟨0, 0, [], .nil, [], .vt l⟩) (hl : l.lookup cl = some g) (hg : tb g = some d) (hk : d.kd = .fn) (hm : d.mu = []) : Vt NN xs tb cl f g :=
  fun k i sto lk ts o ho e => call_vt h ho (by rw [e]; exact hl) hg hk hm
/-! the foe: its pieces, its steps -/
abbrev Fp3 := Int × Int × Int
def encF (p : Fp3) : T := .tup [.int p.1, .int p.2.1, .int p.2.2]
theorem flat_encF (p : Fp3) : flat (encF p) = true := rfl
theorem view_encF (p : Fp3) : view (encF p) = encF p := rfl
theorem ix0F (p : Fp3) : ixT (encF p) (.int 0) = .ok (.int p.1) := rfl
theorem ix1F (p : Fp3) : ixT (encF p) (.int 1) = .ok (.int p.2.1) := rfl
theorem ix2F (p : Fp3) : ixT (encF p) (.int 2) = .ok (.int p.2.2) := rfl
theorem flatL_encF : ∀ l : List Fp3, flatL (l.map encF) = true
  | [] => rfl
  | _ :: l => by simp only [List.map_cons, flatL, flatL_encF l, flat_encF, Bool.and_self]
def usedF (l : List Fp3) : Int := (l.map fun p => p.2.2).sum
def onF (off per : Int) (p : Fp3) : Bool := decide ((off - p.2.1) % per < p.2.2)
def wasteF (l : List Fp3) (off per : Int) : Int := ((l.filter (onF off per)).map fun p => per - p.2.2).sum
def offF (l : List Fp3) (s : Nat) (off : Int) : Int := if wasteF l (off + 2 ^ (s - 1)) (2 ^ s) > wasteF l off (2 ^ s) then off + 2 ^ (s - 1) else off
structure FS where
  turn : Nat
  shift : Int
  asked : Int
  held : List Fp3
  due : List Int
def mayF (m : Int) (s : FS) : Bool := decide (usedF s.held + 2 ^ s.turn ≤ m)
def upF (s : FS) : FS := ⟨s.turn + 1, offF s.held (s.turn + 1) s.shift, s.asked, s.held, ((s.held.filter fun p => !onF (offF s.held (s.turn + 1) s.shift) (2 ^ (s.turn + 1)) p).map (·.1))⟩
def goesF (m : Int) (t : Nat) (s : FS) : Bool := s.due.isEmpty && (decide (s.turn < t) && !mayF m s)
def goF (m : Int) (t : Nat) : Nat → FS → FS
  | 0, s => s
  | n + 1, s => if goesF m t s then goF m t n (upF s) else s
/-- the foe as an object -/
abbrev OF (m : Int) (t : Nat) (s : FS) : Ob := ⟨10, [(7, some (.int m)), (8, some (.int t)), (9, some (.int s.turn)), (10, some (.int s.shift)), (11, some (.int s.asked)), (12, some (.lst false false (s.held.map encF))), (13, some (.lst false false (s.due.map T.int)))]⟩
section
variable {k : Nat} {sto : List Ob} {lk : Bool}
theorem v20 : Vt 1000 pd.xs pd.tb 10 10020 2077 := vt_mk (l := [(10, 2077)]) rfl rfl (d := d2077_Foe_may_ask) rfl rfl rfl
theorem v21 : Vt 1000 pd.xs pd.tb 10 10021 2085 := vt_mk (l := [(10, 2085)]) rfl rfl (d := d2085_Foe_go_on) rfl rfl rfl
theorem v22 : Vt 1000 pd.xs pd.tb 10 10022 2079 := vt_mk (l := [(10, 2079)]) rfl rfl (d := d2079_Foe_deed) rfl rfl rfl
theorem v23 : Vt 1000 pd.xs pd.tb 10 10023 2086 := vt_mk (l := [(10, 2086)]) rfl rfl (d := d2086_Foe_placed) rfl rfl rfl
theorem v24 : Vt 1000 pd.xs pd.tb 10 10024 2087 := vt_mk (l := [(10, 2087)]) rfl rfl (d := d2087_Foe_gone) rfl rfl rfl
theorem is_on (off per : Int) (p : Fp3) (hp : 0 < per) : callF 1000 pd.xs pd.tb (k + 1) 354 [encF p, .int off, .int per] sto true = .ok (.bl (onF off per p)) [] sto := by
  rw [call_run (show pd.tb 354 = some d354_is_on from rfl) rfl]
  show fnE _ (exs _ _ _ _ _ [some (encF p), some (.int off), some (.int per)] _) = _
  simp! [view_encF, ix1F, ix2F, hp, onF]
theorem sumF (f : Fp3 → Int) (l : List Fp3) : bltT .sum [.lst false false ((l.map f).map T.int)] = .ok (.int ((l.map f).sum)) := by
  show (ofO (intsL _)).bind _ = _
  rw [intsL_map]
  rfl
theorem waste_on (l : List Fp3) (off per : Int) (hp : 0 < per) (hl : l.length ≤ 10000) (z : Bool) : callF 1000 pd.xs pd.tb (k + 2) 355 [.lst z false (l.map encF), .int off, .int per] sto true = .ok (.int (wasteF l off per)) [] sto := by
  rw [call_run (show pd.tb 355 = some d355_waste_on from rfl) rfl]
  show fnE _ (exs _ _ _ _ _ [some (.lst z false (l.map encF)), some (.int off), some (.int per), none] _) = _
  have hz : l.length ≤ sizeT := Nat.le_trans hl (by decide)
  have f := lc_fact (cf := callF 1000 pd.xs pd.tb (k + 1)) (env := [some (.lst z false (l.map encF)), some (.int off), some (.int per), none]) (sto := sto) (v := 3) (z := true)
    (tst := .call 354 (.cons (.var 3) (.cons (.var 1) (.cons (.var 2) .nil)))) (elt := .bin .sub (.var 2) (.ix (.var 3) (.int 2))) encF (fun p => T.int (per - p.2.2)) (onF off per) l hz (fun q _ => flat_encF q) (fun q _ => by
      have e := is_on (k := k) (sto := sto) off per q hp
      simp! [view_encF, e]) (fun q _ _ => by simp! [view_encF, ix2F]) (fun q _ => rfl)
  have e2 : (l.filter (onF off per)).map (fun p => T.int (per - p.2.2)) = ((l.filter (onF off per)).map fun p => per - p.2.2).map T.int := by rw [List.map_map]; rfl
  rw [e2] at f
  simp! [f, sumF, wasteF]
theorem shF (n : Nat) (h : n ≤ 1000) : binT .shl (.int 1) (.int n) = .ok (.int (2 ^ n)) := by
  have := bin_shls 1 n (by omega) (by omega) (by omega) (by omega)
  rw [Int.one_mul, Int.toNat_natCast] at this
  exact this
theorem p2pos (n : Nat) : (0 : Int) < 2 ^ n := Int.pow_pos (by omega)
theorem offset_for (l : List Fp3) (n : Nat) (off : Int) (hn : n ≤ 900) (hl : l.length ≤ 10000) (z : Bool) : callF 1000 pd.xs pd.tb (k + 3) 356 [.lst z false (l.map encF), .int ((n + 1 : Nat) : Int), .int off] sto true = .ok (.int (offF l (n + 1) off)) [] sto := by
  rw [call_run (show pd.tb 356 = some d356_offset_for from rfl) rfl]
  show fnE _ (exs _ _ _ _ _ [some (.lst z false (l.map encF)), some (.int ((n + 1 : Nat) : Int)), some (.int off), none, none] _) = _
  have w1 := waste_on (k := k) (sto := sto) l (off + 2 ^ n) (2 ^ (n + 1)) (p2pos _) hl true
  have w2 := waste_on (k := k) (sto := sto) l off (2 ^ (n + 1)) (p2pos _) hl true
  have s1 := shF (n + 1) (by omega)
  have s2 := shF n (by omega)
  have e1 : binT .sub (.int ((n + 1 : Nat) : Int)) (.int 1) = .ok (.int (n : Int)) := by
    show Rs.ok (T.int (((n + 1 : Nat) : Int) - 1)) = _
    rw [show ((n + 1 : Nat) : Int) - 1 = n by omega]
  have e2 : rbin .sub (.ok (.int ((n + 1 : Nat) : Int))) (.ok (.int 1)) = .ok (.int (n : Int)) := e1
  by_cases c : wasteF l (off + 2 ^ n) (2 ^ (n + 1)) > wasteF l off (2 ^ (n + 1))
  · have ho : offF l (n + 1) off = off + 2 ^ n := if_pos c
    rw [ho]
    simp! [s1, e1, e2, s2, w1, w2, c]
  · have ho : offF l (n + 1) off = off := if_neg c
    rw [ho]
    simp! [s1, e1, e2, s2, w1, w2, c]
theorem lenF (l : List Int) (z : Bool) : bltT .len [.lst z false (l.map T.int)] = .ok (.int l.length) := by
  show Rs.ok (T.int ((l.map T.int).length : Nat)) = _
  rw [List.length_map]
theorem may_ask (m : Int) (t : Nat) (s : FS) (hl : s.held.length ≤ 10000) (ht : s.turn ≤ 900) : callF 1000 pd.xs pd.tb (k + 2) 10020 [.obj 0] [OF m t s] true = .ok (.bl (mayF m s)) [] [OF m t s] := by
  rw [v20 _ _ _ _ _ _ (show [OF m t s][0]? = some (OF m t s) from rfl) rfl, call_run (show pd.tb 2077 = some d2077_Foe_may_ask from rfl) rfl]
  show fnE _ (exs _ _ _ _ _ [some (.obj 0), none, none] _) = _
  have hz : s.held.length ≤ sizeT := Nat.le_trans hl (by decide)
  have f := lc_fact (cf := callF 1000 pd.xs pd.tb (k + 1)) (env := [some (.obj 0), none, none]) (sto := [OF m t s]) (v := 2) (z := true)
    (tst := .bl true) (elt := .ix (.var 2) (.int 2)) encF (fun p => T.int p.2.2) (fun _ => true) s.held hz (fun q _ => flat_encF q) (fun q _ => by simp!) (fun q _ _ => by simp! [view_encF, ix2F]) (fun q _ => rfl)
  have e2 : (s.held.filter fun _ => true).map (fun p => T.int p.2.2) = (s.held.map fun p => p.2.2).map T.int := by rw [List.map_map, List.filter_eq_self.mpr (fun _ _ => rfl)]; rfl
  rw [e2] at f
  have g7 : fgetO [OF m t s] 0 7 = some (.int m) := rfl
  have g9 : fgetO [OF m t s] 0 9 = some (.int s.turn) := rfl
  have g12 : fgetO [OF m t s] 0 12 = some (.lst false false (s.held.map encF)) := rfl
  have s1 := shF s.turn (by omega)
  simp! [g7, g9, g12, f, sumF, s1, mayF, usedF]
  rfl
theorem deed (m : Int) (t : Nat) (s : FS) (hl : s.held.length ≤ 10000) (ht : s.turn ≤ 900) : callF 1000 pd.xs pd.tb (k + 3) 10022 [.obj 0] [OF m t s] true =
    .ok (match s.due with
      | d :: _ => .tup [.str (PySem.Str.ofString "give"), .int d]
      | [] => if mayF m s then .tup [.str (PySem.Str.ofString "ask"), .int (2 ^ s.turn)] else .tup [.str (PySem.Str.ofString "rest")]) [] [OF m t s] := by
  rw [v22 _ _ _ _ _ _ (show [OF m t s][0]? = some (OF m t s) from rfl) rfl, call_run (show pd.tb 2079 = some d2079_Foe_deed from rfl) rfl]
  show fnE _ (exs _ _ _ _ _ [some (.obj 0)] _) = _
  have g9 : fgetO [OF m t s] 0 9 = some (.int s.turn) := rfl
  have g13 : fgetO [OF m t s] 0 13 = some (.lst false false (s.due.map T.int)) := rfl
  have s1 := shF s.turn (by omega)
  have ma := may_ask (k := k) m t s hl ht
  have ln := lenF s.due true
  cases hd : s.due with
  | cons d ds =>
    rw [hd] at g13 ln
    have c : (0 : Int) < (((ds.map T.int).length + 1 : Nat) : Int) := by omega
    have i0 : ixT (.lst true false ((d :: ds).map T.int)) (.int 0) = .ok (.int d) := ix_at (by omega) rfl
    simp! [g13, ln, c, i0]
  | nil =>
    rw [hd] at g13 ln
    have c : ¬ (0 : Int) < (([] : List Int).length : Nat) := by simp
    cases hm : mayF m s with
    | true =>
      rw [hm] at ma
      simp! [g13, ln, c, ma, g9, s1]
    | false =>
      rw [hm] at ma
      simp! [g13, ln, c, ma]
theorem up_ok (m : Int) (t : Nat) (s : FS) (hl : s.held.length ≤ 10000) (ht : s.turn ≤ 900) (x y : Option T) :
    exs 1000 (callF 1000 pd.xs pd.tb (k + 3)) pd.xs false b2085_0 [some (.obj 0), x, y] [OF m t s] = .nx [some (.obj 0), some (.int (2 ^ (s.turn + 1))), y] [OF m t (upF s)] := by
  have hz : s.held.length ≤ sizeT := Nat.le_trans hl (by decide)
  have q9 : ∀ st : List Ob, st = [OF m t s] → fgetO st 0 9 = some (.int s.turn) := fun st e => by rw [e]; rfl
  obtain ⟨s1, hs1⟩ : ∃ o : Ob, o = ⟨10, [(7, some (.int m)), (8, some (.int t)), (9, some (.int ((s.turn : Int) + 1))), (10, some (.int s.shift)), (11, some (.int s.asked)), (12, some (.lst false false (s.held.map encF))), (13, some (.lst false false (s.due.map T.int)))]⟩ := ⟨_, rfl⟩
  obtain ⟨s2, hs2⟩ : ∃ o : Ob, o = ⟨10, [(7, some (.int m)), (8, some (.int t)), (9, some (.int ((s.turn : Int) + 1))), (10, some (.int (offF s.held (s.turn + 1) s.shift))), (11, some (.int s.asked)), (12, some (.lst false false (s.held.map encF))), (13, some (.lst false false (s.due.map T.int)))]⟩ := ⟨_, rfl⟩
  have g9 : fgetO [OF m t s] 0 9 = some (.int s.turn) := rfl
  have p1 : ∀ env, cSetf2 9 (.int ((s.turn : Int) + 1)) env [OF m t s] (.ok (.obj 0)) = .nx env [s1] := fun _ => by rw [hs1]; rfl
  have a9 : fgetO [s1] 0 9 = some (.int ((s.turn : Int) + 1)) := by rw [hs1]; rfl
  have a10 : fgetO [s1] 0 10 = some (.int s.shift) := by rw [hs1]; rfl
  have a12 : fgetO [s1] 0 12 = some (.lst false false (s.held.map encF)) := by rw [hs1]; rfl
  have of_ := offset_for (k := k) (sto := [s1]) s.held s.turn s.shift ht hl true
  rw [show ((s.turn + 1 : Nat) : Int) = (s.turn : Int) + 1 by omega] at of_
  have p2 : ∀ env, cSetf2 10 (.int (offF s.held (s.turn + 1) s.shift)) env [s1] (.ok (.obj 0)) = .nx env [s2] := fun _ => by rw [hs1, hs2]; rfl
  have b9 : fgetO [s2] 0 9 = some (.int ((s.turn : Int) + 1)) := by rw [hs2]; rfl
  have b10 : fgetO [s2] 0 10 = some (.int (offF s.held (s.turn + 1) s.shift)) := by rw [hs2]; rfl
  have b12 : fgetO [s2] 0 12 = some (.lst false false (s.held.map encF)) := by rw [hs2]; rfl
  have sh := shF (s.turn + 1) (by omega)
  rw [show ((s.turn + 1 : Nat) : Int) = (s.turn : Int) + 1 by omega] at sh
  have f := lc_fact (cf := callF 1000 pd.xs pd.tb (k + 3)) (env := [some (.obj 0), some (.int (2 ^ (s.turn + 1))), y]) (sto := [s2]) (v := 2) (z := true)
    (tst := .not (.call 354 (.cons (.var 2) (.cons (.fld (.var 0) 10) (.cons (.var 1) .nil))))) (elt := .ix (.var 2) (.int 0)) encF (fun p => T.int p.1) (fun p => !onF (offF s.held (s.turn + 1) s.shift) (2 ^ (s.turn + 1)) p) s.held hz (fun q _ => flat_encF q) (fun q _ => by
      have e := is_on (k := k + 2) (sto := [s2]) (offF s.held (s.turn + 1) s.shift) (2 ^ (s.turn + 1)) q (p2pos _)
      simp! [view_encF, b10, e]) (fun q _ _ => by simp! [view_encF, ix0F]) (fun q _ => rfl)
  have e2 : (s.held.filter fun p => !onF (offF s.held (s.turn + 1) s.shift) (2 ^ (s.turn + 1)) p).map (fun p => T.int p.1) = ((upF s).due).map T.int := by
    show _ = ((s.held.filter _).map (·.1)).map T.int
    rw [List.map_map]; rfl
  rw [e2] at f
  have p3 : ∀ env, cSetf2 13 (.lst false false ((upF s).due.map T.int)) env [s2] (.ok (.obj 0)) = .nx env [OF m t (upF s)] := fun _ => by rw [hs2]; rfl
  show exs _ _ _ _ b2085_0 _ _ = _
  simp! [g9, p1, a9, a10, a12, of_, p2, b9, sh, b12, f, p3]
theorem go_loop (m : Int) (t : Nat) : ∀ (n : Nat) (s : FS) (x y : Option T) (e : Nat), s.held.length ≤ 10000 → s.turn + n ≤ 900 → t ≤ s.turn + n → n < e →
    ∃ x', loopW (exs 1000 (callF 1000 pd.xs pd.tb (k + 3)) pd.xs false b2085_0) (tstW (callF 1000 pd.xs pd.tb (k + 3)) (.and (.cmp .eq (.blt .len (.cons (.fld (.var 0) 13) .nil)) (.int 0)) (.and (.cmp .lt (.fld (.var 0) 9) (.fld (.var 0) 8)) (.not (.meth (.var 0) 20 .nil))))) e [some (.obj 0), x, y] [OF m t s] = .nx [some (.obj 0), x', y] [OF m t (goF m t n s)] := by
  have test : ∀ (s : FS) (x y : Option T), s.held.length ≤ 10000 → s.turn ≤ 900 → tstW (callF 1000 pd.xs pd.tb (k + 3)) (.and (.cmp .eq (.blt .len (.cons (.fld (.var 0) 13) .nil)) (.int 0)) (.and (.cmp .lt (.fld (.var 0) 9) (.fld (.var 0) 8)) (.not (.meth (.var 0) 20 .nil)))) [some (.obj 0), x, y] [OF m t s] = .ok (goesF m t s) := fun s x y hl ht => by
    have g9 : fgetO [OF m t s] 0 9 = some (.int s.turn) := rfl
    have g8 : fgetO [OF m t s] 0 8 = some (.int t) := rfl
    have g13 : fgetO [OF m t s] 0 13 = some (.lst false false (s.due.map T.int)) := rfl
    have ln := lenF s.due true
    have ma := may_ask (k := k + 1) m t s hl ht
    unfold goesF
    by_cases c1 : s.due = []
    · have d1 : s.due.isEmpty = true := by rw [c1]; rfl
      have c1' : (s.due.length : Int) = 0 := by rw [c1]; rfl
      by_cases c2 : s.turn < t
      · have c2' : (s.turn : Int) < (t : Int) := by omega
        simp! [g13, ln, c1', g9, g8, c2', ma, d1, c2]
      · have c2' : ¬ (s.turn : Int) < (t : Int) := by omega
        simp! [g13, ln, c1', g9, g8, c2', d1, c2]
    · have d1 : s.due.isEmpty = false := by simpa using c1
      have c1' : ¬ (s.due.length : Int) = 0 := fun z => c1 (List.eq_nil_of_length_eq_zero (by omega))
      simp! [g13, ln, c1', d1]
  intro n
  induction n with
  | zero =>
    intro s x y e hl ht he hlt
    obtain ⟨e, rfl⟩ : ∃ e', e = e' + 1 := ⟨e - 1, by omega⟩
    have g : goesF m t s = false := by
      unfold goesF
      rw [decide_eq_false (show ¬ s.turn < t by omega)]
      simp
    have h := test s x y hl (by omega)
    rw [g] at h
    refine ⟨x, ?_⟩
    unfold loopW
    rw [h]
    rfl
  | succ n ih =>
    intro s x y e hl ht he hlt
    obtain ⟨e, rfl⟩ : ∃ e', e = e' + 1 := ⟨e - 1, by omega⟩
    have h := test s x y hl (by omega)
    unfold loopW
    rw [h]
    cases g : goesF m t s with
    | false =>
      refine ⟨x, ?_⟩
      dsimp only
      rw [show goF m t (n + 1) s = s by unfold goF; rw [g]; rfl]
    | true =>
      dsimp only
      rw [up_ok m t s hl (by omega) x y]
      obtain ⟨x', hx⟩ := ih (upF s) (some (.int (2 ^ (s.turn + 1)))) y e hl (show s.turn + 1 + n ≤ 900 by omega) (show t ≤ s.turn + 1 + n by omega) (by omega)
      refine ⟨x', ?_⟩
      show loopW _ _ e _ _ = _
      rw [hx, show goF m t (n + 1) s = goF m t n (upF s) by rw [goF, if_pos g]]
theorem go_on (m : Int) (t : Nat) (s : FS) (hl : s.held.length ≤ 10000) (ht : s.turn ≤ t) (h5 : t ≤ 5) : callF 1000 pd.xs pd.tb (k + 4) 10021 [.obj 0] [OF m t s] false = .ok .non [] [OF m t (goF m t (t - s.turn) s)] := by
  rw [v21 _ _ _ _ _ _ (show [OF m t s][0]? = some (OF m t s) from rfl) rfl, call_run (show pd.tb 2085 = some d2085_Foe_go_on from rfl) rfl]
  show fnE _ (exs _ _ _ _ _ [some (.obj 0), none, none] _) = _
  obtain ⟨x', hx⟩ := go_loop (k := k) m t (t - s.turn) s none none 1000 hl (by omega) (by omega) (by omega)
  simp! [hx]
def putF (s : FS) (place : Int) : FS := ⟨s.turn, s.shift, s.asked + 1, s.held ++ [(s.asked, place, 2 ^ s.turn)], s.due⟩
def dropF (s : FS) (d : Int) : FS := ⟨s.turn, s.shift, s.asked, s.held.filter (fun p => p.1 != d), s.due.tail⟩
theorem placed (m : Int) (t : Nat) (s : FS) (place : Int) (hl : s.held.length + 1 ≤ 10000) (ht : s.turn ≤ t) (h5 : t ≤ 5) (hd : s.due = []) (hm : mayF m s = true) : callF 1000 pd.xs pd.tb (k + 5) 10023 [.obj 0, .int place] [OF m t s] false = .ok .non [] [OF m t (goF m t (t - s.turn) (putF s place))] := by
  rw [v23 _ _ _ _ _ _ (show [OF m t s][0]? = some (OF m t s) from rfl) rfl, call_run (show pd.tb 2086 = some d2086_Foe_placed from rfl) rfl]
  show fnE _ (exs _ _ _ _ _ [some (.obj 0), some (.int place)] _) = _
  have de := deed (k := k + 1) m t s (by omega) (by omega)
  rw [hd] at de
  dsimp only at de
  rw [if_pos hm] at de
  obtain ⟨s1, hs1⟩ : ∃ o : Ob, o = ⟨10, [(7, some (.int m)), (8, some (.int t)), (9, some (.int s.turn)), (10, some (.int s.shift)), (11, some (.int s.asked)), (12, some (.lst false false ((s.held ++ [(s.asked, place, 2 ^ s.turn)]).map encF))), (13, some (.lst false false (s.due.map T.int)))]⟩ := ⟨_, rfl⟩
  have g9 : fgetO [OF m t s] 0 9 = some (.int s.turn) := rfl
  have g11 : fgetO [OF m t s] 0 11 = some (.int s.asked) := rfl
  have sh := shF s.turn (by omega)
  have ne : cmpT .ne (.str (PySem.Str.ofString "ask")) (.str (PySem.Str.ofString "ask")) = .ok (.bl false) := cmp_ne_of (c := true) (by decide +kernel)
  have i0 : ixT (.tup [.str (PySem.Str.ofString "ask"), .int (2 ^ s.turn)]) (.int 0) = .ok (.str (PySem.Str.ofString "ask")) := rfl
  have a11 : fgetO [s1] 0 11 = some (.int s.asked) := by rw [hs1]; rfl
  have p2 : ∀ env, cSetf2 11 (.int (s.asked + 1)) env [s1] (.ok (.obj 0)) = .nx env [OF m t (putF s place)] := fun _ => by rw [hs1]; rfl
  have go := go_on (k := k) m t (putF s place) (by show (s.held ++ [_]).length ≤ _; rw [List.length_append]; exact hl) ht h5
  rw [show (putF s place).turn = s.turn from rfl] at go
  have g12 : fgetO [OF m t s] 0 12 = some (.lst false false (s.held.map encF)) := rfl
  have ap : ex 1000 (callF 1000 pd.xs pd.tb (k + 4)) pd.xs false (.appf (.var 0) 12 (.tup (.cons (.fld (.var 0) 11) (.cons (.var 1) (.cons (.bin .shl (.int 1) (.fld (.var 0) 9)) .nil))))) [some (.obj 0), some (.int place)] [OF m t s] = .nx [some (.obj 0), some (.int place)] [s1] := by
    have et : pv (callF 1000 pd.xs pd.tb (k + 4)) [some (.obj 0), some (.int place)] [OF m t s] (.tup (.cons (.fld (.var 0) 11) (.cons (.var 1) (.cons (.bin .shl (.int 1) (.fld (.var 0) 9)) .nil)))) = .ok (encF (s.asked, place, 2 ^ s.turn)) := by
      simp! [g11, g9, sh]
      rfl
    have e0 : pv (callF 1000 pd.xs pd.tb (k + 4)) [some (.obj 0), some (.int place)] [OF m t s] (.var 0) = .ok (.obj 0) := rfl
    have hlt : (s.held.map encF).length < sizeT := by
      rw [List.length_map]
      exact Nat.lt_of_lt_of_le (show s.held.length < 10000 by omega) (by decide)
    rw [ex, e0]
    dsimp only [Rs.g, GR.thn]
    rw [g12]
    dsimp only
    rw [et]
    dsimp only
    rw [decide_eq_true hlt, if_pos (by rfl), hs1, List.map_append]
    rfl
  simp! [de, i0, ne, ap, a11, p2, go]
theorem gone (m : Int) (t : Nat) (s : FS) (d : Int) (ds : List Int) (hl : s.held.length ≤ 10000) (ht : s.turn ≤ t) (h5 : t ≤ 5) (hd : s.due = d :: ds) (hdl : ds.length < 10000) : callF 1000 pd.xs pd.tb (k + 5) 10024 [.obj 0] [OF m t s] false = .ok .non [] [OF m t (goF m t (t - s.turn) (dropF s d))] := by
  rw [v24 _ _ _ _ _ _ (show [OF m t s][0]? = some (OF m t s) from rfl) rfl, call_run (show pd.tb 2087 = some d2087_Foe_gone from rfl) rfl]
  show fnE _ (exs _ _ _ _ _ [some (.obj 0), none, none] _) = _
  have hz : s.held.length ≤ sizeT := Nat.le_trans hl (by decide)
  have g13 : fgetO [OF m t s] 0 13 = some (.lst false false ((d :: ds).map T.int)) := by rw [← hd]; rfl
  have ln := lenF (d :: ds) true
  have c : ¬ (((ds.map T.int).length + 1 : Nat) : Int) = 0 := by omega
  have i0 : ixT (.lst true false ((d :: ds).map T.int)) (.int 0) = .ok (.int d) := ix_at (by omega) rfl
  obtain ⟨s1, hs1⟩ : ∃ o : Ob, o = ⟨10, [(7, some (.int m)), (8, some (.int t)), (9, some (.int s.turn)), (10, some (.int s.shift)), (11, some (.int s.asked)), (12, some (.lst false false (s.held.map encF))), (13, some (.lst false false (ds.map T.int)))]⟩ := ⟨_, rfl⟩
  have p1 : ∀ env, cSetf2 13 (.lst false false (ds.map T.int)) env [OF m t s] (.ok (.obj 0)) = .nx env [s1] := fun _ => by rw [hs1]; rfl
  have a12 : fgetO [s1] 0 12 = some (.lst false false (s.held.map encF)) := by rw [hs1]; rfl
  have f := lc_fact (cf := callF 1000 pd.xs pd.tb (k + 4)) (env := [some (.obj 0), some (.int d), none]) (sto := [s1]) (v := 2) (z := true)
    (tst := .cmp .ne (.ix (.var 2) (.int 0)) (.var 1)) (elt := .var 2) encF encF (fun p => p.1 != d) s.held hz (fun q _ => flat_encF q) (fun q _ => by
      by_cases c : q.1 = d
      · have b : (d != d) = false := by simp
        simp! [view_encF, ix0F, c, b]
      · have b : (q.1 != d) = true := by simp [c]
        simp! [view_encF, ix0F, c, b]) (fun q _ _ => by simp! [view_encF]) (fun q _ => flat_encF q)
  have p2 : ∀ env, cSetf2 12 (.lst false false ((s.held.filter fun p => p.1 != d).map encF)) env [s1] (.ok (.obj 0)) = .nx env [OF m t (dropF s d)] := fun _ => by
    rw [hs1]
    show SR.nx _ [(⟨10, [(7, some (.int m)), (8, some (.int t)), (9, some (.int s.turn)), (10, some (.int s.shift)), (11, some (.int s.asked)), (12, some (.lst false false ((s.held.filter fun p => p.1 != d).map encF))), (13, some (.lst false false (ds.map T.int)))]⟩ : Ob)] = _
    unfold OF dropF
    rw [hd]
    rfl
  have go := go_on (k := k) m t (dropF s d) (Nat.le_trans (List.length_filter_le _ _) hl) ht h5
  rw [show (dropF s d).turn = s.turn from rfl] at go
  have sl : cutT (T.int d :: ds.map T.int) (some 1) none = ds.map T.int := by
    unfold cutT
    have h1 : HT.sIx (T.int d :: ds.map T.int).length 0 (some 1) = 1 := by
      simp [HT.sIx]
    have h2 : HT.sIx (T.int d :: ds.map T.int).length (T.int d :: ds.map T.int).length none = (T.int d :: ds.map T.int).length := rfl
    rw [h1, h2, List.drop_succ_cons, List.drop_zero, List.take_of_length_le (by simp)]
  simp! [g13, ln, c, i0, sl, p1, a12, f, p2, go]
end
/-! the foe's plain law -/
def dis2 (p q : Fp3) : Prop := p.2.1 + p.2.2 ≤ q.2.1 ∨ q.2.1 + q.2.2 ≤ p.2.1
structure IF (m : Int) (t : Nat) (s : FS) : Prop where
  tt : s.turn ≤ t
  sz : ∀ p ∈ s.held, 1 ≤ p.2.2 ∧ p.2.2 ≤ 2 ^ s.turn
  dj : s.held.Pairwise dis2
  nd : (s.held.map (·.1)).Nodup
  lt : ∀ p ∈ s.held, p.1 < s.asked
  us : usedF s.held ≤ m
  du : s.due = (s.held.filter fun p => !onF s.shift (2 ^ s.turn) p).map (·.1)
  ws : (s.turn : Int) * m - 2 ^ s.turn + 1 + s.turn ≤ 2 * wasteF s.held s.shift (2 ^ s.turn)
theorem usedF_cons (p : Fp3) (l : List Fp3) : usedF (p :: l) = p.2.2 + usedF l := by simp [usedF]
theorem usedF_nonneg : ∀ {l : List Fp3}, (∀ p ∈ l, 1 ≤ p.2.2) → 0 ≤ usedF l
  | [], _ => Int.le_refl _
  | p :: l, h => by
    have := h p (by simp)
    have := usedF_nonneg fun q hq => h q (List.mem_cons_of_mem _ hq)
    rw [usedF_cons]; omega
/-- of the two offsets just one meets a piece that the step's offset meets -/
theorem on_two {off P : Int} {p : Fp3} (hP : 0 < P) (h1 : p.2.2 ≤ P) (h : onF off P p = true) : onF (off + P) (2 * P) p = !onF off (2 * P) p := by
  unfold onF at h ⊢
  have h := of_decide_eq_true h
  obtain ⟨x, hx⟩ : ∃ x, x = off - p.2.1 := ⟨_, rfl⟩
  rw [← hx] at h ⊢
  rw [show off + P - p.2.1 = x + P by omega]
  have r0 := Int.emod_nonneg x (show P ≠ 0 by omega)
  have r1 := Int.emod_lt_of_pos x hP
  have ex := Int.emod_add_mul_ediv x P
  obtain ⟨r, hr⟩ : ∃ r, r = x % P := ⟨_, rfl⟩
  rw [← hr] at h r0 r1 ex
  obtain ⟨c, hc⟩ : ∃ c, x / P = 2 * c ∨ x / P = 2 * c + 1 := ⟨x / P / 2, by omega⟩
  have e2 : ∀ (y c : Int), 0 ≤ y → y < 2 * P → (y + 2 * P * c) % (2 * P) = y := fun y c h0 h2 => by
    rw [Int.add_mul_emod_self_left, Int.emod_eq_of_lt h0 h2]
  rcases hc with hc | hc
  · rw [hc] at ex
    have q : P * (2 * c) = 2 * P * c := by rw [← Int.mul_assoc, Int.mul_comm P 2]
    rw [q] at ex
    have a1 : x % (2 * P) = r := by rw [← ex]; exact e2 r c r0 (by omega)
    have a2 : (x + P) % (2 * P) = r + P := by rw [show x + P = (r + P) + 2 * P * c by omega]; exact e2 _ c (by omega) (by omega)
    rw [a1, a2, decide_eq_true h, decide_eq_false (by omega)]
    rfl
  · rw [hc] at ex
    have q : P * (2 * c + 1) = 2 * P * c + P := by rw [Int.mul_add, Int.mul_one, ← Int.mul_assoc, Int.mul_comm P 2]
    rw [q] at ex
    have a1 : x % (2 * P) = r + P := by rw [← ex, show r + (2 * P * c + P) = (r + P) + 2 * P * c by omega]; exact e2 _ c (by omega) (by omega)
    have a2 : (x + P) % (2 * P) = r := by
      rw [show x + P = r + 2 * P * (c + 1) by rw [Int.mul_add, Int.mul_one]; omega]
      exact e2 r (c + 1) r0 (by omega)
    rw [a1, a2, decide_eq_true h, decide_eq_false (by omega)]
    rfl
theorem waste_two {off P : Int} (hP : 0 < P) : ∀ {l : List Fp3}, (∀ p ∈ l, p.2.2 ≤ P) → (∀ p ∈ l, onF off P p = true) → wasteF l (off + P) (2 * P) + wasteF l off (2 * P) = 2 * wasteF l off P + usedF l
  | [], _, _ => rfl
  | p :: l, h1, h2 => by
    have ih := waste_two hP (fun q hq => h1 q (List.mem_cons_of_mem _ hq)) fun q hq => h2 q (List.mem_cons_of_mem _ hq)
    have o := on_two hP (h1 p (by simp)) (h2 p (by simp))
    have w : ∀ f Q, wasteF (p :: l) f Q = (if onF f Q p then Q - p.2.2 else 0) + wasteF l f Q := fun f Q => by
      unfold wasteF
      rw [List.filter_cons]
      split <;> simp
    rw [w, w, w, usedF_cons, o, h2 p (by simp), if_pos rfl]
    cases onF off (2 * P) p <;> simp <;> omega
theorem all_on {m : Int} {t : Nat} {s : FS} (I : IF m t s) (h : s.due = []) : ∀ p ∈ s.held, onF s.shift (2 ^ s.turn) p = true := fun p hp => by
  have e := I.du
  rw [h] at e
  have : (s.held.filter fun p => !onF s.shift (2 ^ s.turn) p) = [] := by
    cases q : s.held.filter fun p => !onF s.shift (2 ^ s.turn) p with
    | nil => rfl
    | cons a b => rw [q] at e; exact nomatch e
  have := List.filter_eq_nil_iff.mp this p hp
  simpa using this
theorem up_inv {m : Int} {t : Nat} {s : FS} (I : IF m t s) (g : goesF m t s = true) : IF m t (upF s) := by
  unfold goesF at g
  simp only [Bool.and_eq_true, List.isEmpty_iff, decide_eq_true_eq, Bool.not_eq_true'] at g
  obtain ⟨g1, g2, g3⟩ := g
  have ao := all_on I g1
  have P0 : (0 : Int) < 2 ^ s.turn := p2pos _
  have e2 : (2 : Int) ^ (s.turn + 1) = 2 * 2 ^ s.turn := by rw [Int.pow_succ]; omega
  have nm : m + 1 ≤ usedF s.held + 2 ^ s.turn := by
    unfold mayF at g3
    have := of_decide_eq_false g3
    omega
  have two := waste_two P0 (fun p hp => (I.sz p hp).2) ao
  refine ⟨g2, fun p hp => ?_, I.dj, I.nd, I.lt, I.us, rfl, ?_⟩
  · have := I.sz p hp
    show _ ∧ _ ≤ (2 : Int) ^ (s.turn + 1)
    rw [e2]; omega
  · have ws := I.ws
    show ((s.turn + 1 : Nat) : Int) * m - 2 ^ (s.turn + 1) + 1 + ((s.turn + 1 : Nat) : Int) ≤ 2 * wasteF s.held (offF s.held (s.turn + 1) s.shift) (2 ^ (s.turn + 1))
    have mx : 2 * wasteF s.held s.shift (2 ^ s.turn) + usedF s.held ≤ 2 * wasteF s.held (offF s.held (s.turn + 1) s.shift) (2 ^ (s.turn + 1)) := by
      unfold offF
      rw [show s.turn + 1 - 1 = s.turn from rfl, e2]
      split <;> omega
    rw [e2] at mx
    rw [e2, show (((s.turn + 1 : Nat) : Int)) = (s.turn : Int) + 1 by omega, Int.add_mul, Int.one_mul]
    omega
theorem go_inv {m : Int} {t : Nat} : ∀ (n : Nat) {s : FS}, IF m t s → IF m t (goF m t n s)
  | 0, _, I => I
  | n + 1, s, I => by
    unfold goF
    split
    · rename_i g
      exact go_inv n (up_inv I g)
    · exact I
theorem go_set {m : Int} {t : Nat} : ∀ (n : Nat) {s : FS}, t ≤ s.turn + n → goesF m t (goF m t n s) = false
  | 0, s, h => by
    unfold goF goesF
    rw [decide_eq_false (show ¬ s.turn < t by omega)]
    simp
  | n + 1, s, h => by
    unfold goF
    cases g : goesF m t s with
    | true =>
      rw [if_pos rfl]
      exact go_set n (show t ≤ s.turn + 1 + n by omega)
    | false => simpa using g
theorem go_keep (m : Int) (t : Nat) : ∀ (n : Nat) (s : FS), (goF m t n s).held = s.held ∧ (goF m t n s).asked = s.asked
  | 0, _ => ⟨rfl, rfl⟩
  | n + 1, s => by
    unfold goF
    split
    · exact go_keep m t n (upF s)
    · exact ⟨rfl, rfl⟩
theorem on_full {off P pl : Int} {n : Int} (hP : 0 < P) : onF off P (n, pl, P) = true := by
  unfold onF
  exact decide_eq_true (Int.emod_lt_of_pos _ hP)
theorem wasteF_app (l r : List Fp3) (off P : Int) : wasteF (l ++ r) off P = wasteF l off P + wasteF r off P := by
  unfold wasteF
  rw [List.filter_append, List.map_append, List.sum_append]
theorem usedF_app (l r : List Fp3) : usedF (l ++ r) = usedF l + usedF r := by
  unfold usedF
  rw [List.map_append, List.sum_append]
theorem put_inv {m : Int} {t : Nat} {s : FS} {place : Int} (I : IF m t s) (h : s.due = []) (hm : mayF m s = true) (hd : ∀ p ∈ s.held, dis2 p (s.asked, place, 2 ^ s.turn)) : IF m t (putF s place) := by
  have P0 : (0 : Int) < 2 ^ s.turn := p2pos _
  have hm := of_decide_eq_true hm
  have ao := all_on I h
  refine ⟨I.tt, fun p hp => ?_, ?_, ?_, fun p hp => ?_, ?_, ?_, ?_⟩
  · rcases List.mem_append.mp hp with hp | hp
    · exact I.sz p hp
    · rw [List.mem_singleton.mp hp]
      show 1 ≤ (2 : Int) ^ s.turn ∧ (2 : Int) ^ s.turn ≤ 2 ^ s.turn
      omega
  · show (s.held ++ [_]).Pairwise dis2
    rw [List.pairwise_append]
    exact ⟨I.dj, List.pairwise_singleton _ _, fun a ha b hb => by rw [List.mem_singleton.mp hb]; exact hd a ha⟩
  · show ((s.held ++ [(s.asked, place, (2 : Int) ^ s.turn)]).map (·.1)).Nodup
    rw [List.map_append, List.nodup_append]
    refine ⟨I.nd, by simp, fun a ha b hb => ?_⟩
    obtain ⟨q, hq, rfl⟩ := List.mem_map.mp ha
    have := I.lt q hq
    have : b = s.asked := by simpa using hb
    omega
  · show p.1 < s.asked + 1
    rcases List.mem_append.mp hp with hp | hp
    · have := I.lt p hp; omega
    · rw [List.mem_singleton.mp hp]; show s.asked < _; omega
  · show usedF (s.held ++ [_]) ≤ m
    rw [usedF_app]
    show usedF s.held + (2 ^ s.turn + 0) ≤ m
    omega
  · show s.due = ((s.held ++ [_]).filter _).map _
    rw [List.filter_append, I.du, List.map_append]
    have : (fun p => !onF s.shift (2 ^ s.turn) p) (s.asked, place, (2 : Int) ^ s.turn) = false := by
      show (!onF _ _ _) = false
      rw [on_full P0]; rfl
    show _ = _ ++ ([(s.asked, place, (2 : Int) ^ s.turn)].filter _).map _
    rw [List.filter_cons_of_neg (by show ¬ (!onF s.shift (2 ^ s.turn) (s.asked, place, (2 : Int) ^ s.turn)) = true; rw [on_full P0]; simp)]
    simp [putF]
  · show (s.turn : Int) * m - 2 ^ s.turn + 1 + s.turn ≤ 2 * wasteF (s.held ++ [_]) s.shift (2 ^ s.turn)
    rw [wasteF_app]
    have : wasteF [(s.asked, place, (2 : Int) ^ s.turn)] s.shift (2 ^ s.turn) = 0 := by
      unfold wasteF
      rw [List.filter_cons_of_pos (on_full P0)]
      simp
    rw [this]
    have := I.ws
    omega
theorem filter_comm' {α : Type} (a b : α → Bool) (l : List α) : (l.filter a).filter b = (l.filter b).filter a := by
  rw [List.filter_filter, List.filter_filter]
  exact List.filter_congr fun x _ => Bool.and_comm _ _
theorem filter_ne {l : List Fp3} {d : Int} (h : (l.map (·.1)).Nodup) : ∀ {q : Fp3}, q ∈ l → q.1 = d → usedF (l.filter fun p => p.1 != d) + q.2.2 = usedF l ∧ (l.filter fun p => p.1 != d).length + 1 = l.length := by
  induction l with
  | nil => intro q hq; exact nomatch hq
  | cons a l ih =>
    intro q hq hd
    rw [List.map_cons] at h
    obtain ⟨h1, h2⟩ := List.nodup_cons.mp h
    by_cases c : a.1 = d
    · have all : (l.filter fun p => p.1 != d) = l := List.filter_eq_self.mpr fun p hp => by
        have : p.1 ≠ a.1 := fun e => h1 (List.mem_map.mpr ⟨p, hp, e⟩)
        simp only [bne_iff_ne, ne_eq]
        rw [← c]; exact this
      have qa : q = a := by
        rcases List.mem_cons.mp hq with e | e
        · exact e
        · exact absurd (List.mem_map.mpr ⟨q, e, by rw [hd, c]⟩) h1
      rw [List.filter_cons_of_neg (by simp [c]), all, usedF_cons, List.length_cons, qa]
      exact ⟨by omega, rfl⟩
    · have ql : q ∈ l := by
        rcases List.mem_cons.mp hq with e | e
        · rw [e] at hd; exact absurd hd c
        · exact e
      obtain ⟨i1, i2⟩ := ih h2 ql hd
      rw [List.filter_cons_of_pos (by simp [c]), usedF_cons, usedF_cons, List.length_cons, List.length_cons]
      exact ⟨by omega, by omega⟩
theorem drop_inv {m : Int} {t : Nat} {s : FS} {d : Int} {ds : List Int} (I : IF m t s) (h : s.due = d :: ds) : IF m t (dropF s d) ∧ (∃ q ∈ s.held, q.1 = d) := by
  have e := I.du
  rw [h] at e
  obtain ⟨L, hL⟩ : ∃ L, L = s.held.filter fun p => !onF s.shift (2 ^ s.turn) p := ⟨_, rfl⟩
  rw [← hL] at e
  cases L with
  | nil => exact nomatch e
  | cons q L =>
    rw [List.map_cons] at e
    obtain ⟨e1, e2⟩ := List.cons.inj e
    have qm : q ∈ s.held ∧ onF s.shift (2 ^ s.turn) q = false := by
      have : q ∈ s.held.filter fun p => !onF s.shift (2 ^ s.turn) p := by rw [← hL]; simp
      obtain ⟨a, b⟩ := List.mem_filter.mp this
      exact ⟨a, by simpa using b⟩
    have sub : (s.held.filter fun p => p.1 != d).Sublist s.held := List.filter_sublist
    have f := filter_ne I.nd qm.1 e1.symm
    refine ⟨⟨I.tt, fun p hp => I.sz p (List.mem_filter.mp hp).1, I.dj.sublist sub, I.nd.sublist (sub.map _), fun p hp => I.lt p (List.mem_filter.mp hp).1, ?_, ?_, ?_⟩, q, qm.1, e1.symm⟩
    · show usedF (s.held.filter _) ≤ m
      have := I.us
      have := (I.sz q qm.1).1
      omega
    · show s.due.tail = ((s.held.filter fun p => p.1 != d).filter fun p => !onF s.shift (2 ^ s.turn) p).map (·.1)
      rw [h, filter_comm', ← hL, List.filter_cons_of_neg (by simp [e1]), e2]
      have nd2 : ((q :: L).map (·.1)).Nodup := by rw [hL]; exact I.nd.sublist ((List.filter_sublist).map _)
      rw [List.map_cons] at nd2
      obtain ⟨n1, n2⟩ := List.nodup_cons.mp nd2
      rw [List.filter_eq_self.mpr]
      · rfl
      · intro p hp
        simp only [bne_iff_ne, ne_eq]
        exact fun z => n1 (List.mem_map.mpr ⟨p, hp, by rw [z, e1]⟩)
    · show (s.turn : Int) * m - 2 ^ s.turn + 1 + s.turn ≤ 2 * wasteF (s.held.filter fun p => p.1 != d) s.shift (2 ^ s.turn)
      have : (s.held.filter fun p => p.1 != d).filter (onF s.shift (2 ^ s.turn)) = s.held.filter (onF s.shift (2 ^ s.turn)) := by
        rw [List.filter_filter]
        refine List.filter_congr fun p hp => ?_
        by_cases c : p.1 = d
        · have pq : p = q := nodup_of_map I.nd p hp q qm.1 (by rw [c, e1])
          rw [pq, qm.2]; rfl
        · simp [c]
      unfold wasteF
      rw [this]
      exact I.ws
/-! the place that the law's keeper takes -/
def spotF (sz : Int) : List Fp3 → Int → Int
  | [], x => x
  | p :: l, x => spotF sz l (if x < p.2.1 + p.2.2 ∧ p.2.1 < x + sz then p.2.1 + p.2.2 else x)
theorem spotF_ok {sz : Int} (hz : 0 < sz) : ∀ {l : List Fp3} {x : Int} (done : List Fp3), (∀ p ∈ l, 1 ≤ p.2.2) → l.Pairwise (fun p q => p.2.1 ≤ q.2.1) → (∀ p ∈ done, ∀ q ∈ l, p.2.1 ≤ q.2.1) → (∀ p ∈ done, p.2.1 + p.2.2 ≤ x ∨ x + sz ≤ p.2.1) →
    ∀ p ∈ done ++ l, p.2.1 + p.2.2 ≤ spotF sz l x ∨ spotF sz l x + sz ≤ p.2.1
  | [], x, done, _, _, _, h => by simpa [spotF] using h
  | a :: l, x, done, h1, h2, h3, h4 => by
    have h2' := List.pairwise_cons.mp h2
    have ih := spotF_ok hz (l := l) (x := if x < a.2.1 + a.2.2 ∧ a.2.1 < x + sz then a.2.1 + a.2.2 else x) (done ++ [a]) (fun p hp => h1 p (List.mem_cons_of_mem _ hp)) h2'.2 (fun p hp q hq => by
      rcases List.mem_append.mp hp with hp | hp
      · exact h3 p hp q (List.mem_cons_of_mem _ hq)
      · rw [List.mem_singleton.mp hp]; exact h2'.1 q hq) (fun p hp => by
      have a1 := h1 a (by simp)
      rcases List.mem_append.mp hp with hp | hp
      · have b1 := h4 p hp
        have b2 := h3 p hp a (by simp)
        split <;> omega
      · rw [List.mem_singleton.mp hp]
        split <;> omega)
    intro p hp
    have := ih p (by simpa using hp)
    simpa [spotF] using this
abbrev plF (p : Fp3) : Int := p.2.1
theorem dis_symm {p q : Fp3} (h : dis2 p q) : dis2 q p := h.symm
theorem srt_dis {l : List Fp3} (h : l.Pairwise dis2) : (srtBy plF l).Pairwise dis2 := (List.Perm.pairwise_iff (fun {_ _} => dis_symm) (srtBy_perm plF l)).mpr h
theorem srt_chain {l : List Fp3} (h : l.Pairwise dis2) (hs : ∀ p ∈ l, 1 ≤ p.2.2) : (srtBy plF l).Pairwise (fun p q => p.2.1 + p.2.2 ≤ q.2.1) := by
  refine List.Pairwise.imp_of_mem (fun {p q} hp hq z => ?_) ((srt_dis h).and (srtBy_srt plF l))
  obtain ⟨z1, z2⟩ := z
  have := hs q ((srtBy_perm plF l).mem_iff.mp hq)
  have z2 : p.2.1 ≤ q.2.1 := z2
  rcases z1 with z1 | z1 <;> omega
theorem places_nd {l : List Fp3} (h : l.Pairwise dis2) (hs : ∀ p ∈ l, 1 ≤ p.2.2) : (l.map plF).Nodup := by
  rw [List.Nodup, List.pairwise_map]
  refine List.Pairwise.imp_of_mem (fun {p q} hp hq z => ?_) h
  have := hs p hp
  have := hs q hq
  show p.2.1 ≠ q.2.1
  rcases z with z | z <;> omega
theorem spot_dis {l : List Fp3} {sz x n : Int} (hz : 0 < sz) (hs : ∀ p ∈ l, 1 ≤ p.2.2) : ∀ p ∈ l, dis2 p (n, spotF sz (srtBy plF l) x, sz) := fun p hp => by
  have pm := srtBy_perm plF l
  have := spotF_ok hz (l := srtBy plF l) (x := x) [] (fun q hq => hs q (pm.mem_iff.mp hq)) (srtBy_srt plF l) (fun _ h => nomatch h) (fun _ h => nomatch h) p (pm.mem_iff.mpr hp)
  exact this
theorem chain_used : ∀ {l : List Fp3} {lo hi : Int}, lo ≤ hi → l.Pairwise (fun p q => p.2.1 + p.2.2 ≤ q.2.1) → (∀ p ∈ l, lo ≤ p.2.1 ∧ p.2.1 + p.2.2 ≤ hi) → usedF l ≤ hi - lo
  | [], lo, hi, h, _, _ => by show (0 : Int) ≤ _; omega
  | p :: l, lo, hi, h, c, b => by
    obtain ⟨c1, c2⟩ := List.pairwise_cons.mp c
    have b0 := b p (by simp)
    have ih := chain_used (l := l) (lo := p.2.1 + p.2.2) (hi := hi) b0.2 c2 fun q hq => ⟨c1 q hq, (b q (List.mem_cons_of_mem _ hq)).2⟩
    rw [usedF_cons]; omega
theorem usedF_perm {l r : List Fp3} (h : l.Perm r) : usedF l = usedF r := by
  induction h with
  | nil => rfl
  | cons a _ ih => rw [usedF_cons, usedF_cons, ih]
  | swap a b l => rw [usedF_cons, usedF_cons, usedF_cons, usedF_cons]; omega
  | trans _ _ i1 i2 => rw [i1, i2]
theorem used_span {l : List Fp3} {lo hi : Int} (h : lo ≤ hi) (d : l.Pairwise dis2) (hs : ∀ p ∈ l, 1 ≤ p.2.2) (b : ∀ p ∈ l, lo ≤ p.2.1 ∧ p.2.1 + p.2.2 ≤ hi) : usedF l ≤ hi - lo := by
  rw [← usedF_perm (srtBy_perm plF l)]
  exact chain_used h (srt_chain d hs) fun p hp => b p ((srtBy_perm plF l).mem_iff.mp hp)
/-- a cell on the offset -/
theorem on_cell {off P : Int} {p : Fp3} (hP : 0 < P) (h : onF off P p = true) : ∃ k : Int, p.2.1 ≤ off + P * k ∧ off + P * k < p.2.1 + p.2.2 := by
  have h := of_decide_eq_true h
  have e := Int.emod_add_mul_ediv (off - p.2.1) P
  have r0 := Int.emod_nonneg (off - p.2.1) (show P ≠ 0 by omega)
  refine ⟨-((off - p.2.1) / P), ?_⟩
  rw [Int.mul_neg]
  omega
theorem chain_on {off P : Int} (hP : 0 < P) : ∀ {l : List Fp3} {hi k0 : Int}, l.Pairwise (fun p q => p.2.1 + p.2.2 ≤ q.2.1) → (∀ p ∈ l, onF off P p = true) → (∀ p ∈ l, off + P * k0 < p.2.1 ∧ p.2.1 + p.2.2 ≤ hi) → off + P * k0 < hi → off + P * k0 + P * l.length < hi
  | [], hi, k0, _, _, _, h => by simpa using h
  | p :: l, hi, k0, c, o, b, h => by
    obtain ⟨c1, c2⟩ := List.pairwise_cons.mp c
    obtain ⟨k, k1, k2⟩ := on_cell hP (o p (by simp))
    have b0 := b p (by simp)
    have ih := chain_on hP (l := l) (hi := hi) (k0 := k) c2 (fun q hq => o q (List.mem_cons_of_mem _ hq)) (fun q hq => ⟨by have := c1 q hq; omega, (b q (List.mem_cons_of_mem _ hq)).2⟩) (by omega)
    have lt : k0 < k := by
      have : P * k0 < P * k := by omega
      exact Int.lt_of_mul_lt_mul_left this (by omega)
    have : P * (k0 + 1) ≤ P * k := Int.mul_le_mul_of_nonneg_left (by omega) (by omega)
    rw [Int.mul_add, Int.mul_one] at this
    rw [List.length_cons, show ((l.length + 1 : Nat) : Int) = (l.length : Int) + 1 by omega, Int.mul_add, Int.mul_one]
    omega
theorem on_span {off P lo hi : Int} {l : List Fp3} (hP : 0 < P) (hne : l ≠ []) (d : l.Pairwise dis2) (hs : ∀ p ∈ l, 1 ≤ p.2.2) (o : ∀ p ∈ l, onF off P p = true) (b : ∀ p ∈ l, lo ≤ p.2.1 ∧ p.2.1 + p.2.2 ≤ hi) : P * l.length - P + 1 ≤ hi - lo := by
  have pm := srtBy_perm plF l
  have len := pm.length_eq
  have ch := srt_chain d hs
  rw [← len]
  have o' : ∀ p ∈ srtBy plF l, onF off P p = true := fun p hp => o p (pm.mem_iff.mp hp)
  have b' : ∀ p ∈ srtBy plF l, lo ≤ p.2.1 ∧ p.2.1 + p.2.2 ≤ hi := fun p hp => b p (pm.mem_iff.mp hp)
  cases e : srtBy plF l with
  | nil => rw [e] at len; exact absurd (List.eq_nil_of_length_eq_zero len.symm) hne
  | cons p r =>
    rw [e] at ch o' b'
    obtain ⟨c1, c2⟩ := List.pairwise_cons.mp ch
    obtain ⟨k, k1, k2⟩ := on_cell hP (o' p (by simp))
    have b0 := b' p (by simp)
    have := chain_on hP (l := r) (hi := hi) (k0 := k) c2 (fun q hq => o' q (List.mem_cons_of_mem _ hq)) (fun q hq => ⟨by have := c1 q hq; omega, (b' q (List.mem_cons_of_mem _ hq)).2⟩) (by omega)
    rw [List.length_cons, show ((r.length + 1 : Nat) : Int) = (r.length : Int) + 1 by omega, Int.mul_add, Int.mul_one]
    omega
theorem waste_used {off P : Int} : ∀ {l : List Fp3}, (∀ p ∈ l, onF off P p = true) → wasteF l off P + usedF l = P * l.length
  | [], _ => by simp [wasteF, usedF]
  | p :: l, h => by
    have ih := waste_used fun q hq => h q (List.mem_cons_of_mem _ hq)
    have w : wasteF (p :: l) off P = P - p.2.2 + wasteF l off P := by
      unfold wasteF
      rw [List.filter_cons_of_pos (h p (by simp))]
      simp
    rw [w, usedF_cons, List.length_cons, show ((l.length + 1 : Nat) : Int) = (l.length : Int) + 1 by omega, Int.mul_add, Int.mul_one]
    omega
/-! the turns that are left -/
def capF (m : Int) : Nat → Nat → Int
  | _, 0 => 0
  | i, n + 1 => m / 2 ^ (i + 1) + capF m (i + 1) n
def rhoF (m : Int) (t : Nat) (s : FS) : Int := (if s.due = [] then (m - usedF s.held) / 2 ^ s.turn else m / 2 ^ s.turn) + capF m s.turn (t - s.turn)
def muF (m : Int) (t : Nat) (s : FS) : Int := s.held.length + 2 * rhoF m t s
theorem cap_nn {m : Int} (h : 0 ≤ m) : ∀ n i, 0 ≤ capF m i n
  | 0, _ => Int.le_refl _
  | n + 1, i => by
    have := cap_nn h n (i + 1)
    have := Int.ediv_nonneg h (Int.le_of_lt (p2pos (i + 1)))
    unfold capF; omega
theorem used0 {m : Int} {t : Nat} {s : FS} (I : IF m t s) : 0 ≤ usedF s.held := usedF_nonneg fun p hp => (I.sz p hp).1
theorem rho_nn {m : Int} {t : Nat} {s : FS} (I : IF m t s) : 0 ≤ rhoF m t s := by
  have u0 := used0 I
  have us := I.us
  have c := cap_nn (m := m) (by omega) (t - s.turn) s.turn
  have a := Int.ediv_nonneg (show 0 ≤ m - usedF s.held by omega) (Int.le_of_lt (p2pos s.turn))
  have b := Int.ediv_nonneg (show 0 ≤ m by omega) (Int.le_of_lt (p2pos s.turn))
  unfold rhoF
  split <;> omega
theorem up_mu {m : Int} {t : Nat} {s : FS} (I : IF m t s) (g : goesF m t s = true) : muF m t (upF s) ≤ muF m t s := by
  unfold goesF at g
  simp only [Bool.and_eq_true, List.isEmpty_iff, decide_eq_true_eq] at g
  obtain ⟨g1, g2, g3⟩ := g
  have u0 := used0 I
  have us := I.us
  unfold muF rhoF
  rw [g1, if_pos rfl]
  obtain ⟨n, hn⟩ : ∃ n, t - s.turn = n + 1 := ⟨t - s.turn - 1, by omega⟩
  have a := Int.ediv_nonneg (show 0 ≤ m - usedF s.held by omega) (Int.le_of_lt (p2pos s.turn))
  have b : (m - usedF s.held) / 2 ^ (s.turn + 1) ≤ m / 2 ^ (s.turn + 1) := Int.ediv_le_ediv (p2pos _) (by omega)
  show (s.held.length : Int) + 2 * ((if (upF s).due = [] then (m - usedF s.held) / 2 ^ (s.turn + 1) else m / 2 ^ (s.turn + 1)) + capF m (s.turn + 1) (t - (s.turn + 1))) ≤ _
  rw [hn, show t - (s.turn + 1) = n by omega, show capF m s.turn (n + 1) = m / 2 ^ (s.turn + 1) + capF m (s.turn + 1) n from rfl]
  split <;> omega
theorem go_mu {m : Int} {t : Nat} : ∀ (n : Nat) {s : FS}, IF m t s → muF m t (goF m t n s) ≤ muF m t s
  | 0, _, _ => Int.le_refl _
  | n + 1, s, I => by
    unfold goF
    split
    · rename_i g
      exact Int.le_trans (go_mu n (up_inv I g)) (up_mu I g)
    · exact Int.le_refl _
theorem put_mu {m : Int} {t : Nat} {s : FS} {place : Int} (h : s.due = []) : muF m t (putF s place) + 1 = muF m t s := by
  unfold muF rhoF
  rw [h, show (putF s place).due = [] from h, if_pos rfl, if_pos rfl]
  show ((s.held ++ [_]).length : Int) + 2 * ((m - usedF (s.held ++ [_])) / 2 ^ s.turn + capF m s.turn (t - s.turn)) + 1 = _
  rw [usedF_app, List.length_append]
  have e : (m - (usedF s.held + usedF [(s.asked, place, (2 : Int) ^ s.turn)])) / 2 ^ s.turn = (m - usedF s.held) / 2 ^ s.turn - 1 := by
    have : usedF [(s.asked, place, (2 : Int) ^ s.turn)] = 2 ^ s.turn := by simp [usedF]
    rw [this, show m - (usedF s.held + 2 ^ s.turn) = (m - usedF s.held) + 2 ^ s.turn * (-1) by omega, Int.add_mul_ediv_left _ _ (Int.ne_of_gt (p2pos _))]
    omega
  rw [e]
  show ((s.held.length + 1 : Nat) : Int) + _ + 1 = _
  omega
theorem drop_mu {m : Int} {t : Nat} {s : FS} {d : Int} {ds : List Int} (I : IF m t s) (h : s.due = d :: ds) : muF m t (dropF s d) + 1 ≤ muF m t s := by
  obtain ⟨J, q, hq, e⟩ := drop_inv I h
  have f := filter_ne I.nd hq e
  have u0 := used0 J
  unfold muF rhoF
  have e2 : (if s.due = [] then (m - usedF s.held) / 2 ^ s.turn else m / 2 ^ s.turn) = m / 2 ^ s.turn := by rw [h]; exact if_neg (by simp)
  rw [e2]
  have b : (m - usedF (dropF s d).held) / 2 ^ s.turn ≤ m / 2 ^ s.turn := Int.ediv_le_ediv (p2pos _) (by omega)
  show (((s.held.filter fun p => p.1 != d).length : Nat) : Int) + 2 * ((if (dropF s d).due = [] then (m - usedF (dropF s d).held) / 2 ^ s.turn else m / 2 ^ s.turn) + capF m s.turn (t - s.turn)) + 1 ≤ _
  split <;> omega
theorem mu0 {m : Int} {t : Nat} (h : 0 ≤ m) (ht : t ≤ 5) : muF m t ⟨0, 0, 0, [], []⟩ ≤ 4 * m := by
  unfold muF rhoF
  show ((0 : Nat) : Int) + 2 * ((if ([] : List Int) = [] then (m - 0) / 2 ^ 0 else _) + capF m 0 (t - 0)) ≤ _
  rw [if_pos rfl]
  match t, ht with
  | 0, _ => simp [capF]; omega
  | 1, _ => simp [capF]; omega
  | 2, _ => simp [capF]; omega
  | 3, _ => simp [capF]; omega
  | 4, _ => simp [capF]; omega
  | 5, _ => simp [capF]; omega
  | n + 6, h => omega
theorem inv0 {m : Int} {t : Nat} (h : 1 ≤ m) : IF m t ⟨0, 0, 0, [], []⟩ :=
  ⟨Nat.zero_le _, (fun p hp => nomatch hp), List.Pairwise.nil, List.nodup_nil, (fun p hp => nomatch hp), by show (0 : Int) ≤ m; omega, rfl, by simp [wasteF]⟩
/-- the span at the end -/
theorem end_span {m lo hi : Int} {t : Nat} {s : FS} (I : IF m t s) (hd : s.due = []) (hm : mayF m s = false) (b : ∀ p ∈ s.held, lo ≤ p.2.1 ∧ p.2.1 + p.2.2 ≤ hi) (hne : s.held ≠ []) :
    (s.turn + 2) * m + s.turn + 5 - 5 * 2 ^ s.turn ≤ 2 * (hi - lo) := by
  have ao := all_on I hd
  have nm := of_decide_eq_false hm
  have sp := on_span (p2pos s.turn) hne I.dj (fun p hp => (I.sz p hp).1) ao b
  have wu := waste_used ao
  have ws := I.ws
  rw [Int.add_mul]
  omega
/-! the law's own keeper of places for the foe's pieces -/
section
variable {k : Nat} {sto : List Ob} {lk : Bool}
def otF (ns : List Int) (i m : Int) : Int := (cell ns i.toNat % 1000033 + 7 * i + 1) * 69621 % 1000003 % m
theorem law_oth (ns : List Int) (i m : Int) (h0 : 0 ≤ i) (h1 : i < 100000) (hm : 0 < m) : callF 1000 pd.xs pd.tb (k + 2) 281 [.lst true false (ns.map T.int), .int i, .int m] sto true = .ok (.int (otF ns i m)) [] sto := by
  rw [call_run (show pd.tb 281 = some d281_law_other from rfl) rfl]
  show fnE _ (exs _ _ _ _ _ [some (LI ns), some (.int i), some (.int m)] _) = _
  have c := cell_at (NN := 1000) (xs := pd.xs) (k := k) (sto := sto) (lk := true) (show pd.tb 4 = some d4_law_cell_at from rfl) ns i h0
  simp! [c, show -18446744073709551616 < i by omega, show i < 18446744073709551616 by omega, hm, otF]
theorem keysF : ∀ l : List Fp3, keysI 1 (l.map encF) = some (l.map fun p => (p.2.1, encF p))
  | [] => rfl
  | p :: l => by
    rw [List.map_cons, keysI, show keyI 1 (encF p) = some p.2.1 from rfl]
    dsimp only
    rw [keysF l]
    rfl
theorem srtkF (l : List Fp3) (z : Bool) (h : (l.map plF).Nodup) : srtkT 1 (.lst z false (l.map encF)) = .ok (.lst false false ((srtBy plF l).map encF)) := by
  have e : sortK 1 (l.map encF) = some ((srtBy plF l).map encF) := by
    unfold sortK
    rw [keysF]
    dsimp only
    have e1 : ((l.map fun p => (p.2.1, encF p)).map (·.1)) = l.map plF := by rw [List.map_map]; rfl
    rw [e1, if_pos (decide_eq_true h), srtBy_map (fun z : Int × T => z.1) (fun p : Fp3 => (p.2.1, encF p)) l, List.map_map]
    rfl
  show (ofO (sortK 1 (l.map encF))).bind _ = _
  rw [e]
  rfl
theorem spot_loop (cf : CF) (a0 a1 a2 a4 a5 : Option T) (sz : Int) : ∀ (l : List Fp3) (x : Int) (y : Option T), ∃ y', loopL (exs 1000 cf pd.xs true b357_0) 7 (l.map encF) [a0, a1, a2, some (.int sz), a4, a5, some (.int x), y] sto = .nx [a0, a1, a2, some (.int sz), a4, a5, some (.int (spotF sz l x)), y'] sto
  | [], x, y => ⟨y, by simp [loopL, spotF]⟩
  | p :: l, x, y => by
    obtain ⟨y', e⟩ := spot_loop cf a0 a1 a2 a4 a5 sz l (if x < p.2.1 + p.2.2 ∧ p.2.1 < x + sz then p.2.1 + p.2.2 else x) (some (encF p))
    refine ⟨y', ?_⟩
    rw [List.map_cons, loopL_cons]
    have b : exs 1000 cf pd.xs true b357_0 [a0, a1, a2, some (.int sz), a4, a5, some (.int x), some (encF p)] sto = .nx [a0, a1, a2, some (.int sz), a4, a5, some (.int (if x < p.2.1 + p.2.2 ∧ p.2.1 < x + sz then p.2.1 + p.2.2 else x)), some (encF p)] sto := by
      by_cases c1 : x < p.2.1 + p.2.2
      · by_cases c2 : p.2.1 < x + sz
        · rw [if_pos ⟨c1, c2⟩]
          simp! [view_encF, ix1F, ix2F, c1, c2]
        · rw [if_neg (fun z => c2 z.2)]
          simp! [view_encF, ix1F, ix2F, c1, c2]
      · rw [if_neg (fun z => c1 z.1)]
        simp! [view_encF, ix1F, ix2F, c1]
    show (exs 1000 cf pd.xs true b357_0 [a0, a1, a2, some (.int sz), a4, a5, some (.int x), some (encF p)] sto).turn _ = _
    rw [b]
    show loopL _ _ _ _ _ = _
    rw [e]
    rfl
theorem law_spot (ns : List Int) (j sz : Int) (l : List Fp3) (z : Bool) (h0 : 0 ≤ j) (h1 : j < 100000) (h : (l.map plF).Nodup) : ∃ x, callF 1000 pd.xs pd.tb (k + 3) 357 [.lst true false (ns.map T.int), .int j, .lst z false (l.map encF), .int sz] sto true = .ok (.int (spotF sz (srtBy plF l) x)) [] sto := by
  have t4 : pd.tb 4 = some d4_law_cell_at := rfl
  have o4 := law_oth (k := k) (sto := sto) ns 1 4 (by omega) (by omega) (by omega)
  have d8 := law_draw (NN := 1000) (xs := pd.xs) (tb := pd.tb) (k := k) (sto := sto) (lk := true) t4 rfl ns j 8 h0 h1 (by omega)
  have o24 := law_oth (k := k) (sto := sto) ns j 24 h0 h1 (by omega)
  have o64 := law_oth (k := k) (sto := sto) ns j 64 h0 h1 (by omega)
  have c0 := cell_at (NN := 1000) (xs := pd.xs) (k := k + 1) (sto := sto) (lk := true) t4 ns j h0
  obtain ⟨a, ha⟩ : ∃ a, a = otF ns 1 4 := ⟨_, rfl⟩
  obtain ⟨b, hb⟩ : ∃ b, b = dr ns j 8 := ⟨_, rfl⟩
  rw [← ha] at o4
  rw [← hb] at d8
  have sk := srtkF l true h
  have pw : binT .pow (.int 10) (.int 12) = .ok (.int 1000000000000) := rfl
  have gf : ∀ (go : En → List Ob → SR) (env : En) (st : List Ob), gfe go 7 (.lst false false ((srtBy plF l).map encF)) env st = loopL go 7 ((srtBy plF l).map encF) env st := fun go env st => by
    unfold gfe
    rw [if_pos (by rfl)]
    rfl
  suffices ∀ x : Int, True by
    rw [call_run (show pd.tb 357 = some d357_law_spot from rfl) rfl]
    have main : ∀ x y, ∃ y', loopL (exs 1000 (callF 1000 pd.xs pd.tb (k + 2)) pd.xs true b357_0) 7 ((srtBy plF l).map encF) [some (LI ns), some (.int j), some (.lst z false (l.map encF)), some (.int sz), some (.int a), some (.int b), some (.int x), y] sto = _ := fun x y => spot_loop (sto := sto) (callF 1000 pd.xs pd.tb (k + 2)) (some (LI ns)) (some (.int j)) (some (.lst z false (l.map encF))) (some (.int a)) (some (.int b)) sz (srtBy plF l) x y
    show ∃ x, fnE _ (exs _ _ _ _ _ [some (LI ns), some (.int j), some (.lst z false (l.map encF)), some (.int sz), none, none, none, none] _) = _
    by_cases e2 : a = 2
    · have e3 : ¬ a = 3 := by omega
      obtain ⟨y', e⟩ := main (otF ns j 24) none
      refine ⟨otF ns j 24, ?_⟩
      rw [e2] at e o4
      simp! [o4, d8, o24, sk, gf, e]
    · by_cases e3 : a = 3
      · by_cases e5 : b = 5
        · obtain ⟨y', e⟩ := main (otF ns j 64) none
          refine ⟨otF ns j 64, ?_⟩
          rw [e3] at e o4
          rw [e5] at e d8
          simp! [o4, d8, o64, sk, gf, e]
        · by_cases e6 : b = 6
          · obtain ⟨y', e⟩ := main (otF ns j 64 - 50) none
            refine ⟨otF ns j 64 - 50, ?_⟩
            rw [e3] at e o4
            rw [e6] at e d8
            simp! [o4, d8, o64, sk, gf, e]
          · by_cases e7 : b = 7
            · obtain ⟨y', e⟩ := main (cell ns j.toNat % 2000000000001 - 1000000000000) none
              refine ⟨cell ns j.toNat % 2000000000001 - 1000000000000, ?_⟩
              rw [e3] at e o4
              rw [e7] at e d8
              have bm : binT .mod (.int (cell ns j.toNat)) (.int (2 * 1000000000000 + 1)) = .ok (.int (cell ns j.toNat % 2000000000001)) := bin_mod _ _ (by omega)
              simp! [o4, d8, c0, pw, bm, sk, gf, e]
            · obtain ⟨y', e⟩ := main 0 none
              refine ⟨0, ?_⟩
              rw [e3] at e o4
              simp! [o4, d8, e5, e6, e7, sk, gf, e]
      · obtain ⟨y', e⟩ := main 0 none
        refine ⟨0, ?_⟩
        simp! [o4, d8, e2, e3, sk, gf, e]
  exact fun _ => trivial
theorem whole1 (i : Int) (k : Nat) : callF 1000 pd.xs pd.tb (k + 1) 5 [.int i] sto true = .ok (.bl true) [] sto := whole_int (NN := 1000) (xs := pd.xs) (k := k) (sto := sto) (lk := true) (show pd.tb 5 = some d5_law_whole from rfl) i
abbrev dGive (d : Int) : T := .tup [.str (PySem.Str.ofString "give"), .int d]
abbrev dAsk (d : Int) : T := .tup [.str (PySem.Str.ofString "ask"), .int d]
abbrev dRest : T := .tup [.str (PySem.Str.ofString "rest")]
theorem is_give (d : Int) : callF 1000 pd.xs pd.tb (k + 2) 370 [dGive d] sto true = .ok (.bl true) [] sto := by
  rw [call_run (show pd.tb 370 = some d370_law_is_deed from rfl) rfl]
  show fnE _ (exs _ _ _ _ _ [some (dGive d)] _) = _
  have w := whole1 (sto := sto) d k
  have e1 : cmpT .eq (.str (PySem.Str.ofString "give")) (.str (PySem.Str.ofString "rest")) = .ok (.bl false) := cmp_eq_of (c := false) (by decide +kernel)
  have e2 : cmpT .in_ (.str (PySem.Str.ofString "give")) (.tup [.str (PySem.Str.ofString "ask"), .str (PySem.Str.ofString "give")]) = .ok (.bl true) := by rfl
  have vw : view (dGive d) = dGive d := rfl
  have rt : risi .tuple (.ok (dGive d)) = .ok (.bl true) := rfl
  have ln : bltT .len [dGive d] = .ok (.int 2) := rfl
  have i0 : ixT (dGive d) (.int 0) = .ok (.str (PySem.Str.ofString "give")) := rfl
  have rs : risi .str (.ok (.str (PySem.Str.ofString "give"))) = .ok (.bl true) := rfl
  have i1 : ixT (dGive d) (.int 1) = .ok (.int d) := rfl
  simp! [vw, rt, ln, i0, rs, i1, e1, e2, w]
theorem is_ask (d : Int) : callF 1000 pd.xs pd.tb (k + 2) 370 [dAsk d] sto true = .ok (.bl true) [] sto := by
  rw [call_run (show pd.tb 370 = some d370_law_is_deed from rfl) rfl]
  show fnE _ (exs _ _ _ _ _ [some (dAsk d)] _) = _
  have w := whole1 (sto := sto) d k
  have e1 : cmpT .eq (.str (PySem.Str.ofString "ask")) (.str (PySem.Str.ofString "rest")) = .ok (.bl false) := cmp_eq_of (c := false) (by decide +kernel)
  have e2 : cmpT .in_ (.str (PySem.Str.ofString "ask")) (.tup [.str (PySem.Str.ofString "ask"), .str (PySem.Str.ofString "give")]) = .ok (.bl true) := by rfl
  have vw : view (dAsk d) = dAsk d := rfl
  have rt : risi .tuple (.ok (dAsk d)) = .ok (.bl true) := rfl
  have ln : bltT .len [dAsk d] = .ok (.int 2) := rfl
  have i0 : ixT (dAsk d) (.int 0) = .ok (.str (PySem.Str.ofString "ask")) := rfl
  have rs : risi .str (.ok (.str (PySem.Str.ofString "ask"))) = .ok (.bl true) := rfl
  have i1 : ixT (dAsk d) (.int 1) = .ok (.int d) := rfl
  simp! [vw, rt, ln, i0, rs, i1, e1, e2, w]
theorem is_rest : callF 1000 pd.xs pd.tb (k + 2) 370 [dRest] sto true = .ok (.bl true) [] sto := by
  rw [call_run (show pd.tb 370 = some d370_law_is_deed from rfl) rfl]
  show fnE _ (exs _ _ _ _ _ [some dRest] _) = _
  have e1 : cmpT .eq (.str (PySem.Str.ofString "rest")) (.str (PySem.Str.ofString "rest")) = .ok (.bl true) := cmp_eq_of (c := true) (by decide +kernel)
  have vw : view (dRest) = dRest := rfl
  have rt : risi .tuple (.ok (dRest)) = .ok (.bl true) := rfl
  have ln : bltT .len [dRest] = .ok (.int 1) := rfl
  have i0 : ixT (dRest) (.int 0) = .ok (.str (PySem.Str.ofString "rest")) := rfl
  have rs : risi .str (.ok (.str (PySem.Str.ofString "rest"))) = .ok (.bl true) := rfl
  simp! [vw, rt, ln, i0, rs, e1]
theorem law_top (ns : List Int) : ∃ t : Nat, t ≤ 5 ∧ callF 1000 pd.xs pd.tb (k + 3) 360 [.lst true false (ns.map T.int)] sto true = .ok (.int t) [] sto := by
  have t4 : pd.tb 4 = some d4_law_cell_at := rfl
  have d8 := law_draw (NN := 1000) (xs := pd.xs) (tb := pd.tb) (k := k) (sto := sto) (lk := true) t4 rfl ns 0 8 (by omega) (by omega) (by omega)
  have o2 := law_oth (k := k) (sto := sto) ns 0 2 (by omega) (by omega) (by omega)
  have o4 := law_oth (k := k) (sto := sto) ns 0 4 (by omega) (by omega) (by omega)
  have b2 := mod_b ((cell ns (0 : Int).toNat % 1000033 + 7 * 0 + 1) * 69621 % 1000003) (show (0 : Int) < 2 by omega)
  have b4 := mod_b ((cell ns (0 : Int).toNat % 1000033 + 7 * 0 + 1) * 69621 % 1000003) (show (0 : Int) < 4 by omega)
  have b2' : 0 ≤ otF ns 0 2 ∧ otF ns 0 2 < 2 := b2
  have b4' : 0 ≤ otF ns 0 4 ∧ otF ns 0 4 < 4 := b4
  rw [call_run (show pd.tb 360 = some d360_law_top from rfl) rfl]
  show ∃ t : Nat, t ≤ 5 ∧ fnE _ (exs _ _ _ _ _ [some (LI ns)] _) = _
  by_cases c : dr ns 0 8 = 5
  · refine ⟨(4 + otF ns 0 2).toNat, by omega, ?_⟩
    rw [show (((4 + otF ns 0 2).toNat : Nat) : Int) = 4 + otF ns 0 2 by omega]
    simp! [d8, c, o2]
  · refine ⟨(otF ns 0 4).toNat, by omega, ?_⟩
    rw [show (((otF ns 0 4).toNat : Nat) : Int) = otF ns 0 4 by omega]
    simp! [d8, c, o4]
abbrev F0 : FS := ⟨0, 0, 0, [], []⟩
end
/-! k72: the waste grows -/
abbrev encE (e : Int × Int) : T := .tup [.int e.1, .int e.2]
section
variable {k : Nat} {sto : List Ob} {lk : Bool}
theorem floor_is {P a q : Int} (hP : 0 < P) (h1 : P * q ≤ a) (h2 : a < P * q + P) : a / P = q := by
  have e := Int.emod_add_mul_ediv a P
  have r0 := Int.emod_nonneg a (show P ≠ 0 by omega)
  have r1 := Int.emod_lt_of_pos a hP
  have l1 : a / P < q + 1 := by
    have : P * (a / P) < P * (q + 1) := by rw [Int.mul_add, Int.mul_one]; omega
    exact Int.lt_of_mul_lt_mul_left this (by omega)
  have l2 : q < a / P + 1 := by
    have : P * q < P * (a / P + 1) := by rw [Int.mul_add, Int.mul_one]; omega
    exact Int.lt_of_mul_lt_mul_left this (by omega)
  omega
theorem once1 {off P : Int} {p : Fp3} (hP : 0 < P) (h1 : p.2.2 ≤ P) (h : onF off P p = true) : (p.2.1 + p.2.2 - 1 - off) / P - (p.2.1 - 1 - off) / P = 1 := by
  obtain ⟨q, q1, q2⟩ := on_cell hP h
  have a1 : (p.2.1 + p.2.2 - 1 - off) / P = q := floor_is hP (by omega) (by omega)
  have a2 : (p.2.1 - 1 - off) / P = q - 1 := floor_is hP (by rw [Int.mul_sub, Int.mul_one]; omega) (by rw [Int.mul_sub, Int.mul_one]; omega)
  omega
theorem once_loop (cf : CF) (j off P : Int) (a0 : Option T) (hP : 0 < P) (hP2 : P < 18446744073709551616) : ∀ (l : List Fp3) (x y : Option T), (∀ p ∈ l, p.2.2 ≤ P ∧ onF off P p = true) →
    ∃ x' y', loopL (exs 1000 cf pd.xs true b372_0) 4 (l.map encF) [a0, some (.int j), some (.int off), some (.int P), x, y] sto = .nx [a0, some (.int j), some (.int off), some (.int P), x', y'] sto
  | [], x, y, _ => ⟨x, y, by simp [loopL]⟩
  | p :: l, x, y, h => by
    obtain ⟨x', y', e⟩ := once_loop cf j off P a0 hP hP2 l (some (encF p)) (some (.int ((p.2.1 + p.2.2 - 1 - off) / P))) fun q hq => h q (List.mem_cons_of_mem _ hq)
    refine ⟨x', y', ?_⟩
    obtain ⟨h1, h2⟩ := h p (by simp)
    have o := once1 hP h1 h2
    rw [List.map_cons, loopL_cons]
    have b : exs 1000 cf pd.xs true b372_0 [a0, some (.int j), some (.int off), some (.int P), some (encF p), y] sto = .nx [a0, some (.int j), some (.int off), some (.int P), some (encF p), some (.int ((p.2.1 + p.2.2 - 1 - off) / P))] sto := by
      simp! [view_encF, ix1F, ix2F, hP, hP2, o]
    show (exs 1000 cf pd.xs true b372_0 [a0, some (.int j), some (.int off), some (.int P), some (encF p), y] sto).turn _ = _
    rw [b]
    show loopL _ _ _ _ _ = _
    rw [e]
theorem p2le (n : Nat) (h : n ≤ 5) : (2 : Int) ^ n ≤ 32 := by
  match n, h with
  | 0, _ => decide
  | 1, _ => decide
  | 2, _ => decide
  | 3, _ => decide
  | 4, _ => decide
  | 5, _ => decide
  | n + 6, h => omega
theorem law_once (l : List Fp3) (j : Nat) (off : Int) (hj : j ≤ 5) (h : ∀ p ∈ l, p.2.2 ≤ 2 ^ j ∧ onF off (2 ^ j) p = true) (z : Bool) : callF 1000 pd.xs pd.tb (k + 1) 372 [.lst z false (l.map encF), .int j, .int off] sto true = .ok (.bl true) [] sto := by
  rw [call_run (show pd.tb 372 = some d372_law_once from rfl) rfl]
  show fnE _ (exs _ _ _ _ _ [some (.lst z false (l.map encF)), some (.int j), some (.int off), none, none, none] _) = _
  have sh := shF j (by omega)
  obtain ⟨x', y', e⟩ := once_loop (sto := sto) (callF 1000 pd.xs pd.tb k) j off (2 ^ j) (some (.lst z false (l.map encF))) (p2pos j) (by have := p2le j hj; omega) l none none h
  simp! [sh, e]
theorem flatL_encE : ∀ l : List (Int × Int), flatL (l.map encE) = true
  | [] => rfl
  | e :: l => by
    rw [List.map_cons, flatL, flatL_encE l]; rfl
theorem fin_ends (b : Bool) (E : List (Int × Int)) (env : En) : fin [0] (.bl b) (some (.lst false false (E.map encE)) :: env) sto = .ok (.bl b) [.lst false false (E.map encE)] sto := by
  rfl
theorem end_holds (E : List (Int × Int)) (l : List Fp3) (m : Int) (hE : E.length ≤ 900) (hl : l.length ≤ 10000) (h1 : ¬ usedF l + 2 ^ E.length ≤ m) (h2 : ∀ e E', E = E' ++ [e] → 2 * e.1 + e.2 ≤ 2 * (2 ^ E.length * l.length - usedF l)) :
    callF 1000 pd.xs pd.tb (k + 1) 371 [.lst false false (E.map encE), .lst true false (l.map encF), .int m] sto lk = .ok (.bl true) [.lst false false ((E ++ [(2 ^ E.length * l.length - usedF l, usedF l)]).map encE)] sto := by
  rw [call_run (show pd.tb 371 = some d371_law_end_holds from rfl) rfl]
  show fnE _ (exs _ _ _ _ _ [some (.lst false false (E.map encE)), some (.lst true false (l.map encF)), some (.int m), none, none, none, none] _) = _
  have hz : l.length ≤ sizeT := Nat.le_trans hl (by decide)
  have hz2 : E.length < sizeT := Nat.lt_of_le_of_lt hE (by decide)
  have f := lc_fact (cf := callF 1000 pd.xs pd.tb k) (env := [some (.lst false false (E.map encE)), some (.lst true false (l.map encF)), some (.int m), some (.int E.length), none, none, none]) (sto := sto) (v := 6) (z := true)
    (tst := .bl true) (elt := .ix (.var 6) (.int 2)) encF (fun p => T.int p.2.2) (fun _ => true) l hz (fun q _ => flat_encF q) (fun q _ => by simp!) (fun q _ _ => by simp! [view_encF, ix2F]) (fun q _ => rfl)
  have fe : (l.filter fun _ => true).map (fun p => T.int p.2.2) = (l.map fun p => p.2.2).map T.int := by rw [List.map_map, List.filter_eq_self.mpr (fun _ _ => rfl)]; rfl
  rw [fe] at f
  have sm : bltT .sum [.lst false false ((l.map fun p => p.2.2).map T.int)] = .ok (.int (usedF l)) := sumF _ _
  have sh := shF E.length (by omega)
  have lE : ∀ z, bltT .len [.lst z false (E.map encE)] = .ok (.int E.length) := fun z => by
    show Rs.ok (T.int ((E.map encE).length : Nat)) = _
    rw [List.length_map]
  have lP : ∀ z, bltT .len [.lst z false (l.map encF)] = .ok (.int l.length) := fun z => by
    show Rs.ok (T.int ((l.map encF).length : Nat)) = _
    rw [List.length_map]
  obtain ⟨P, hP⟩ : ∃ P : Int, P = 2 ^ E.length := ⟨_, rfl⟩
  rw [← hP] at sh h1 h2 ⊢
  have ml : binT .mul (.int P) (.int l.length) = .ok (.int (P * l.length)) := bin_mulr _ _ (by omega) (by omega)
  have ea : ((E ++ [(P * l.length - usedF l, usedF l)]).map encE) = E.map encE ++ [encE (P * l.length - usedF l, usedF l)] := by rw [List.map_append]; rfl
  have fl : flat (encE (P * l.length - usedF l, usedF l)) = true := rfl
  rcases List.eq_nil_or_concat E with c | ⟨E', e, c⟩
  · have c0 : ¬ (0 : Int) < (E.length : Int) := by rw [c]; simp
    simp! [lE, f, sm, sh, lP, ml, h1, c0, hz2, fl, List.length_map]
    have := fin_ends (sto := sto) true (E ++ [(P * l.length - usedF l, usedF l)])
    rw [ea] at this ⊢
    exact this _
  · have c' : E = E' ++ [e] := by simpa using c
    have c0 : (0 : Int) < (E.length : Int) := by rw [c', List.length_append]; simp
    have h3 := h2 e E' c'
    have at_ : ixT (.lst true false (E.map encE)) (.int ((E.length : Int) - 1)) = .ok (encE e) := ix_at (by omega) (by
      have l1 : E.length = E'.length + 1 := by rw [c', List.length_append]; rfl
      rw [show ((E.length : Int) - 1).toNat = E'.length by omega, List.getElem?_map, c', List.getElem?_append_right (Nat.le_refl _), Nat.sub_self]
      rfl)
    have v0 : ixT (encE e) (.int 0) = .ok (.int e.1) := rfl
    have v1 : ixT (encE e) (.int 1) = .ok (.int e.2) := rfl
    have h4 : ¬ 2 * (P * l.length - usedF l) < 2 * e.1 + e.2 := by omega
    simp! [lE, f, sm, sh, lP, ml, h1, c0, at_, v0, v1, h4, hz2, fl, List.length_map]
    have := fin_ends (sto := sto) true (E ++ [(P * l.length - usedF l, usedF l)])
    rw [ea] at this ⊢
    exact this _
abbrev recF (l : List Fp3) (E : List (Int × Int)) : Int × Int := (2 ^ E.length * l.length - usedF l, usedF l)
def extF (l : List Fp3) : Nat → List (Int × Int) → List (Int × Int)
  | 0, E => E
  | n + 1, E => extF l n (E ++ [recF l E])
def okF (m : Int) (l : List Fp3) : Nat → List (Int × Int) → Prop
  | 0, _ => True
  | n + 1, E => (¬ usedF l + 2 ^ E.length ≤ m) ∧ (∀ e E', E = E' ++ [e] → 2 * e.1 + e.2 ≤ 2 * (2 ^ E.length * l.length - usedF l)) ∧ okF m l n (E ++ [recF l E])
theorem extF_len (l : List Fp3) : ∀ (n : Nat) (E : List (Int × Int)), (extF l n E).length = E.length + n
  | 0, _ => rfl
  | n + 1, E => by rw [extF, extF_len l n, List.length_append]; simp; omega
theorem steps_loop (l : List Fp3) (m : Int) (now : Nat) (off : Int) (hl : l.length ≤ 10000) (hn : now ≤ 900) : ∀ (n : Nat) (E : List (Int × Int)) (e : Nat), E.length + n = now → n < e → okF m l n E →
    loopW (exs 1000 (callF 1000 pd.xs pd.tb (k + 1)) pd.xs lk b373_0) (tstW (callF 1000 pd.xs pd.tb (k + 1)) (.cmp .lt (.blt .len (.cons (.var 0) .nil)) (.var 3))) e [some (.lst false false (E.map encE)), some (.lst true false (l.map encF)), some (.int m), some (.int now), some (.int off)] sto =
      .nx [some (.lst false false ((extF l n E).map encE)), some (.lst true false (l.map encF)), some (.int m), some (.int now), some (.int off)] sto := by
  have lE : ∀ (E : List (Int × Int)) z, bltT .len [.lst z false (E.map encE)] = .ok (.int E.length) := fun E z => by
    show Rs.ok (T.int ((E.map encE).length : Nat)) = _
    rw [List.length_map]
  intro n
  induction n with
  | zero =>
    intro E e h1 h2 _
    obtain ⟨e, rfl⟩ : ∃ e', e = e' + 1 := ⟨e - 1, by omega⟩
    have c : ¬ (E.length : Int) < (now : Int) := by omega
    have t : tstW (callF 1000 pd.xs pd.tb (k + 1)) (.cmp .lt (.blt .len (.cons (.var 0) .nil)) (.var 3)) [some (.lst false false (E.map encE)), some (.lst true false (l.map encF)), some (.int m), some (.int now), some (.int off)] sto = .ok false := by
      simp! [lE, c]
    unfold loopW
    rw [t]
    rfl
  | succ n ih =>
    intro E e h1 h2 h3
    obtain ⟨e, rfl⟩ : ∃ e', e = e' + 1 := ⟨e - 1, by omega⟩
    have c : (E.length : Int) < (now : Int) := by omega
    have t : tstW (callF 1000 pd.xs pd.tb (k + 1)) (.cmp .lt (.blt .len (.cons (.var 0) .nil)) (.var 3)) [some (.lst false false (E.map encE)), some (.lst true false (l.map encF)), some (.int m), some (.int now), some (.int off)] sto = .ok true := by
      simp! [lE, c]
    have eh := end_holds (k := k) (sto := sto) (lk := lk) E l m (by omega) hl h3.1 h3.2.1
    have b : exs 1000 (callF 1000 pd.xs pd.tb (k + 1)) pd.xs lk b373_0 [some (.lst false false (E.map encE)), some (.lst true false (l.map encF)), some (.int m), some (.int now), some (.int off)] sto = .nx [some (.lst false false ((E ++ [recF l E]).map encE)), some (.lst true false (l.map encF)), some (.int m), some (.int now), some (.int off)] sto := by
      show exs _ _ _ _ b373_0 _ _ = _
      simp! [eh]
    unfold loopW
    rw [t]
    dsimp only
    rw [b]
    exact ih (E ++ [recF l E]) e (by rw [List.length_append]; simp; omega) (by omega) h3.2.2
theorem steps_end (E : List (Int × Int)) (l : List Fp3) (m : Int) (n : Nat) (off : Int) (hl : l.length ≤ 10000) (hn : E.length ≤ 5) (hn2 : n ≤ 10) (ho : okF m l n E) (hon : 0 < n → ∀ p ∈ l, p.2.2 ≤ 2 ^ E.length ∧ onF off (2 ^ E.length) p = true) :
    callF 1000 pd.xs pd.tb (k + 2) 373 [.lst false false (E.map encE), .lst true false (l.map encF), .int m, .int ((E.length + n : Nat) : Int), .int off] sto lk = .ok (.bl true) [.lst false false ((extF l n E).map encE)] sto := by
  rw [call_run (show pd.tb 373 = some d373_law_steps_end from rfl) rfl]
  show fnE _ (exs _ _ _ _ _ [some (.lst false false (E.map encE)), some (.lst true false (l.map encF)), some (.int m), some (.int ((E.length + n : Nat) : Int)), some (.int off)] _) = _
  have lE : ∀ (E : List (Int × Int)) z, bltT .len [.lst z false (E.map encE)] = .ok (.int E.length) := fun E z => by
    show Rs.ok (T.int ((E.map encE).length : Nat)) = _
    rw [List.length_map]
  have lp := steps_loop (k := k) (sto := sto) (lk := lk) l m (E.length + n) off hl (by omega) n E 1000 rfl (by omega) ho
  obtain ⟨N, hN⟩ : ∃ N : Int, N = ((E.length + n : Nat) : Int) := ⟨_, rfl⟩
  rw [← hN] at lp ⊢
  have fe := fin_ends (sto := sto) true (extF l n E)
  by_cases c : 0 < n
  · have c1 : N > (E.length : Int) := by omega
    have on := law_once (k := k) (sto := sto) l E.length off hn (hon c) true
    simp! [lE, c1, on, lp]
    exact fe _
  · have c1 : ¬ N > (E.length : Int) := by omega
    simp! [lE, c1, lp]
    exact fe _
end
abbrev FO (m t : Int) : Ob := ⟨10, [(7, some (.int m)), (8, some (.int t)), (9, some (.int 0)), (10, some (.int 0)), (11, some (.int 0)), (12, some (.lst false false [])), (13, some (.lst false false []))]⟩
section
variable {k : Nat} {sto : List Ob} {lk : Bool}
theorem foe_new (m t : Int) (ht : 0 ≤ t) (ht2 : t ≤ 5) (hm : 2 ^ t.toNat ≤ m) : callF 1000 pd.xs pd.tb (k + 2) 20010 [.int m, .int t] [] false = .ok (.obj 0) [] [FO m t] := by
  have sh : binT .shl (.int 1) (.int t) = .ok (.int (1 * 2 ^ t.toNat)) := bin_shls 1 t (by omega) (by omega) (by omega) (by omega)
  rw [Int.one_mul] at sh
  have n1 : ¬ t < 0 := by omega
  have n2 : ¬ m < 2 ^ t.toNat := by omega
  have i : callF 1000 pd.xs pd.tb (k + 1) 2076 [.obj 0, .int m, .int t] [⟨10, []⟩] false = .ok .non [] [FO m t] := by
    rw [call_run (show pd.tb 2076 = some d2076_Foe___init__ from rfl) rfl]
    show fnE _ (exs _ _ _ _ _ [some (.obj 0), some (.int m), some (.int t)] _) = _
    have f7 : ∀ env, cSetf2 7 (.int m) env [(⟨10, []⟩ : Ob)] (.ok (.obj 0)) = .nx env [⟨10, [(7, some (.int m))]⟩] := fun _ => rfl
    have f8 : ∀ env, cSetf2 8 (.int t) env [(⟨10, [(7, some (.int m))]⟩ : Ob)] (.ok (.obj 0)) = .nx env [⟨10, [(7, some (.int m)), (8, some (.int t))]⟩] := fun _ => rfl
    have f9 : ∀ env, cSetf2 9 (.int 0) env [(⟨10, [(7, some (.int m)), (8, some (.int t))]⟩ : Ob)] (.ok (.obj 0)) = .nx env [⟨10, [(7, some (.int m)), (8, some (.int t)), (9, some (.int 0))]⟩] := fun _ => rfl
    have f10 : ∀ env, cSetf2 10 (.int 0) env [(⟨10, [(7, some (.int m)), (8, some (.int t)), (9, some (.int 0))]⟩ : Ob)] (.ok (.obj 0)) = .nx env [⟨10, [(7, some (.int m)), (8, some (.int t)), (9, some (.int 0)), (10, some (.int 0))]⟩] := fun _ => rfl
    have f11 : ∀ env, cSetf2 11 (.int 0) env [(⟨10, [(7, some (.int m)), (8, some (.int t)), (9, some (.int 0)), (10, some (.int 0))]⟩ : Ob)] (.ok (.obj 0)) = .nx env [⟨10, [(7, some (.int m)), (8, some (.int t)), (9, some (.int 0)), (10, some (.int 0)), (11, some (.int 0))]⟩] := fun _ => rfl
    have f12 : ∀ env, cSetf2 12 (.lst false false []) env [(⟨10, [(7, some (.int m)), (8, some (.int t)), (9, some (.int 0)), (10, some (.int 0)), (11, some (.int 0))]⟩ : Ob)] (.ok (.obj 0)) = .nx env [⟨10, [(7, some (.int m)), (8, some (.int t)), (9, some (.int 0)), (10, some (.int 0)), (11, some (.int 0)), (12, some (.lst false false []))]⟩] := fun _ => rfl
    have f13 : ∀ env, cSetf2 13 (.lst false false []) env [(⟨10, [(7, some (.int m)), (8, some (.int t)), (9, some (.int 0)), (10, some (.int 0)), (11, some (.int 0)), (12, some (.lst false false []))]⟩ : Ob)] (.ok (.obj 0)) = .nx env [FO m t] := fun _ => rfl
    simp! [n1, sh, n2, f7, f8, f9, f10, f11, f12, f13]
  rw [call_nw (show pd.tb 20010 = some ⟨0, 0, [], .nil, [], .nw 10 2076⟩ from rfl)]
  show newT (callF 1000 pd.xs pd.tb (k + 1) 2076 [.obj 0, .int m, .int t] [⟨10, []⟩] false) 0 = _
  rw [i]; rfl
theorem foe_of (m : Int) (t : Nat) : FO m t = OF m t F0 := rfl
theorem len_used : ∀ {l : List Fp3}, (∀ p ∈ l, 1 ≤ p.2.2) → (l.length : Int) ≤ usedF l
  | [], _ => Int.le_refl _
  | p :: l, h => by
    have := h p (by simp)
    have := len_used fun q hq => h q (List.mem_cons_of_mem _ hq)
    rw [usedF_cons, List.length_cons]; omega
theorem v26 : Vt 1000 pd.xs pd.tb 10 10026 2083 := vt_mk (l := [(10, 2083)]) rfl rfl (d := d2083_Foe_step) rfl rfl rfl
theorem v27 : Vt 1000 pd.xs pd.tb 10 10027 2084 := vt_mk (l := [(10, 2084)]) rfl rfl (d := d2084_Foe_offset) rfl rfl rfl
theorem stepF (m : Int) (t : Nat) (s : FS) : callF 1000 pd.xs pd.tb (k + 2) 10026 [.obj 0] [OF m t s] true = .ok (.int s.turn) [] [OF m t s] := by
  rw [v26 _ _ _ _ _ _ (show [OF m t s][0]? = some (OF m t s) from rfl) rfl, call_run (show pd.tb 2083 = some d2083_Foe_step from rfl) rfl]
  show fnE _ (exs _ _ _ _ _ [some (.obj 0)] _) = _
  have g9 : fgetO [OF m t s] 0 9 = some (.int s.turn) := rfl
  simp! [g9]
theorem offsF (m : Int) (t : Nat) (s : FS) : callF 1000 pd.xs pd.tb (k + 2) 10027 [.obj 0] [OF m t s] true = .ok (.int s.shift) [] [OF m t s] := by
  rw [v27 _ _ _ _ _ _ (show [OF m t s][0]? = some (OF m t s) from rfl) rfl, call_run (show pd.tb 2084 = some d2084_Foe_offset from rfl) rfl]
  show fnE _ (exs _ _ _ _ _ [some (.obj 0)] _) = _
  have g10 : fgetO [OF m t s] 0 10 = some (.int s.shift) := rfl
  simp! [g10]
theorem law_most (ns : List Int) (t : Nat) (ht : t ≤ 5) : ∃ m : Int, (2 : Int) ^ t ≤ m ∧ m ≤ 2 ^ t + 68 ∧ callF 1000 pd.xs pd.tb (k + 3) 361 [.lst true false (ns.map T.int), .int t] sto true = .ok (.int m) [] sto := by
  have t4 : pd.tb 4 = some d4_law_cell_at := rfl
  have d17 := law_draw (NN := 1000) (xs := pd.xs) (tb := pd.tb) (k := k) (sto := sto) (lk := true) t4 rfl ns 1 17 (by omega) (by omega) (by omega)
  have b17 : 0 ≤ dr ns 1 17 ∧ dr ns 1 17 < 17 := mod_b _ (by omega)
  have sh := shF t (by omega)
  rw [call_run (show pd.tb 361 = some d361_law_most from rfl) rfl]
  show ∃ m : Int, (2 : Int) ^ t ≤ m ∧ m ≤ 2 ^ t + 68 ∧ fnE _ (exs _ _ _ _ _ [some (LI ns), some (.int t)] _) = _
  exact ⟨2 ^ t + dr ns 1 17, by omega, by omega, by simp! [sh, d17]⟩
end
def relF (s : FS) (E : List (Int × Int)) : Prop := ∀ e E', E = E' ++ [e] → 2 * e.1 + e.2 ≤ 2 * wasteF s.held s.shift (2 ^ s.turn)
theorem up_waste {m : Int} {t : Nat} {s : FS} (I : IF m t s) (h : s.due = []) : 2 * wasteF s.held s.shift (2 ^ s.turn) + usedF s.held ≤ 2 * wasteF (upF s).held (upF s).shift (2 ^ (upF s).turn) := by
  have e2 : (2 : Int) ^ (s.turn + 1) = 2 * 2 ^ s.turn := by rw [Int.pow_succ]; omega
  have two := waste_two (p2pos s.turn) (fun p hp => (I.sz p hp).2) (all_on I h)
  show _ ≤ 2 * wasteF s.held (offF s.held (s.turn + 1) s.shift) (2 ^ (s.turn + 1))
  unfold offF
  rw [show s.turn + 1 - 1 = s.turn from rfl, e2]
  split <;> omega
theorem go_ext {m : Int} {t : Nat} : ∀ (c : Nat) {s : FS} {E : List (Int × Int)}, IF m t s → E.length = s.turn → relF s E →
    ∃ n, (goF m t c s).turn = s.turn + n ∧ okF m s.held n E ∧ relF (goF m t c s) (extF s.held n E) ∧ (0 < n → ∀ p ∈ s.held, p.2.2 ≤ 2 ^ s.turn ∧ onF s.shift (2 ^ s.turn) p = true)
  | 0, s, E, _, _, r => ⟨0, rfl, trivial, r, fun z => absurd z (by omega)⟩
  | c + 1, s, E, I, el, r => by
    cases g : goesF m t s with
    | false =>
      have : goF m t (c + 1) s = s := by unfold goF; rw [g]; rfl
      rw [this]
      exact ⟨0, rfl, trivial, r, fun z => absurd z (by omega)⟩
    | true =>
      have e : goF m t (c + 1) s = goF m t c (upF s) := by rw [goF, if_pos g]
      rw [e]
      have g' := g
      unfold goesF at g'
      simp only [Bool.and_eq_true, List.isEmpty_iff, decide_eq_true_eq, Bool.not_eq_true'] at g'
      obtain ⟨g1, g2, g3⟩ := g'
      have ao := all_on I g1
      have wu := waste_used ao
      have uw := up_waste I g1
      have nm := of_decide_eq_false g3
      have r1 : relF (upF s) (E ++ [recF s.held E]) := fun e E' z => by
        have : e = recF s.held E := by
          have := List.append_inj_right' z rfl
          simpa using this.symm
        rw [this]
        show 2 * (2 ^ E.length * (s.held.length : Int) - usedF s.held) + usedF s.held ≤ _
        rw [el]; omega
      obtain ⟨n, n1, n2, n3, n4⟩ := go_ext c (up_inv I g) (E := E ++ [recF s.held E]) (by rw [List.length_append, el]; rfl) r1
      refine ⟨n + 1, by rw [n1]; show s.turn + 1 + n = _; omega, ⟨by rw [el]; exact nm, fun e E' z => ?_, n2⟩, n3, fun _ p hp => ⟨(I.sz p hp).2, ao p hp⟩⟩
      have := r e E' z
      rw [el]; omega
theorem put_waste (s : FS) (y : Int) : wasteF (putF s y).held (putF s y).shift (2 ^ (putF s y).turn) = wasteF s.held s.shift (2 ^ s.turn) := by
  show wasteF (s.held ++ [_]) s.shift (2 ^ s.turn) = _
  rw [wasteF_app]
  have : wasteF [(s.asked, y, (2 : Int) ^ s.turn)] s.shift (2 ^ s.turn) = 0 := by
    unfold wasteF
    rw [List.filter_cons_of_pos (on_full (p2pos _))]
    simp
  rw [this]; omega
theorem drop_waste {m : Int} {t : Nat} {s : FS} {d : Int} {ds : List Int} (I : IF m t s) (h : s.due = d :: ds) : wasteF (dropF s d).held (dropF s d).shift (2 ^ (dropF s d).turn) = wasteF s.held s.shift (2 ^ s.turn) := by
  have e := I.du
  rw [h] at e
  obtain ⟨L, hL⟩ : ∃ L, L = s.held.filter fun p => !onF s.shift (2 ^ s.turn) p := ⟨_, rfl⟩
  rw [← hL] at e
  cases L with
  | nil => exact nomatch e
  | cons q L =>
    rw [List.map_cons] at e
    obtain ⟨e1, e2⟩ := List.cons.inj e
    have qm : q ∈ s.held ∧ onF s.shift (2 ^ s.turn) q = false := by
      have : q ∈ s.held.filter fun p => !onF s.shift (2 ^ s.turn) p := by rw [← hL]; simp
      obtain ⟨a, b⟩ := List.mem_filter.mp this
      exact ⟨a, by simpa using b⟩
    show wasteF (s.held.filter fun p => p.1 != d) s.shift (2 ^ s.turn) = _
    have : (s.held.filter fun p => p.1 != d).filter (onF s.shift (2 ^ s.turn)) = s.held.filter (onF s.shift (2 ^ s.turn)) := by
      rw [List.filter_filter]
      refine List.filter_congr fun p hp => ?_
      by_cases c : p.1 = d
      · have pq : p = q := nodup_of_map I.nd p hp q qm.1 (by rw [c, e1])
        rw [pq, qm.2]; rfl
      · simp [c]
    unfold wasteF
    rw [this]
section
abbrev evB (ns : List Int) (t : Nat) (m : Int) (l : List Fp3) (E : List (Int × Int)) (a : Int) (x7 x8 x9 x10 x11 x12 : Option T) : En := [some (LI ns), some (.int t), some (.int m), some (.obj 0), some (.lst false false (l.map encF)), some (.lst false false (E.map encE)), some (.int a), x7, x8, x9, x10, x11, x12]
theorem body_rest (ns : List Int) (m : Int) (t : Nat) (s : FS) (E : List (Int × Int)) (x7 x8 x9 x10 x11 x12 : Option T) (hl : s.held.length ≤ 10000) (ht : s.turn = t) (h5 : t ≤ 5) (hd : s.due = []) (hm : mayF m s = false) (I : IF m t s) (el : E.length = s.turn) (r : relF s E) :
    ∃ env, exs 1000 (callF 1000 pd.xs pd.tb 6) pd.xs false b374_0 (evB ns t m s.held E s.asked x7 x8 x9 x10 x11 x12) [OF m t s] = .rt (.bl true) env [OF m t s] := by
  have de := deed (k := 3) m t s hl (by omega)
  rw [hd] at de
  dsimp only at de
  rw [if_neg (by rw [hm]; simp)] at de
  have isd := is_rest (k := 4) (sto := [OF m t s])
  have i0 : ixT dRest (.int 0) = .ok (.str (PySem.Str.ofString "rest")) := rfl
  have vw : view dRest = dRest := rfl
  have gk : ∀ env sto, gkp (.ok dRest) env sto = .ok dRest env sto := fun _ _ => rfl
  have e1 : cmpT .eq (.str (PySem.Str.ofString "rest")) (.str (PySem.Str.ofString "rest")) = .ok (.bl true) := cmp_eq_of (c := true) (by decide +kernel)
  have st := stepF (k := 4) m t s
  have os := offsF (k := 4) m t s
  have w9 := whole1 (sto := [OF m t s]) s.shift 5
  have ao := all_on I hd
  have wu := waste_used ao
  have se := steps_end (k := 4) (sto := [OF m t s]) (lk := false) E s.held m 1 s.shift hl (by omega) (by omega) ⟨by rw [el]; exact of_decide_eq_false hm, fun e E' z => by have := r e E' z; rw [el]; omega, trivial⟩ (fun _ p hp => by rw [el]; exact ⟨(I.sz p hp).2, ao p hp⟩)
  rw [show ((E.length + 1 : Nat) : Int) = (t : Int) + 1 by omega] at se
  have tt : (s.turn : Int) = (t : Int) := by omega
  refine ⟨[some (LI ns), some (.int t), some (.int m), some (.obj 0), some (.lst false false (s.held.map encF)), some (.lst false false ((extF s.held 1 E).map encE)), some (.int s.asked), x7, some dRest, some (.int s.shift), x10, x11, x12], ?_⟩
  show exs _ _ _ _ b374_0 _ _ = _
  simp! [de, isd, i0, vw, gk, e1, st, os, w9, tt, se]
theorem body_give (ns : List Int) (m : Int) (t : Nat) (s : FS) (E : List (Int × Int)) (d : Int) (ds : List Int) (x7 x8 x9 x10 x11 x12 : Option T) (I : IF m t s) (hl : s.held.length ≤ 10000) (h5 : t ≤ 5) (hd : s.due = d :: ds) (hdl : ds.length < 10000) (el : E.length = s.turn) (n : Nat)
    (n1 : (goF m t (t - s.turn) (dropF s d)).turn = s.turn + n) (n2 : okF m (dropF s d).held n E) (n4 : 0 < n → ∀ p ∈ (dropF s d).held, p.2.2 ≤ 2 ^ s.turn ∧ onF s.shift (2 ^ s.turn) p = true) :
    ∃ y8 y9 y10, exs 1000 (callF 1000 pd.xs pd.tb 6) pd.xs false b374_0 (evB ns t m s.held E s.asked x7 x8 x9 x10 x11 x12) [OF m t s] =
      .nx (evB ns t m (dropF s d).held (extF (dropF s d).held n E) s.asked x7 y8 y9 y10 x11 x12) [OF m t (goF m t (t - s.turn) (dropF s d))] := by
  have de := deed (k := 3) m t s hl (by have := I.tt; omega)
  rw [hd] at de
  dsimp only at de
  obtain ⟨J, q, hq, eq⟩ := drop_inv I hd
  have G2 := go_inv (t - s.turn) J
  have isd := is_give (k := 4) (sto := [OF m t s]) d
  have i0 : ixT (dGive d) (.int 0) = .ok (.str (PySem.Str.ofString "give")) := rfl
  have i1 : ixT (dGive d) (.int 1) = .ok (.int d) := rfl
  have vw : view (dGive d) = dGive d := rfl
  have gk : ∀ env sto, gkp (.ok (dGive d)) env sto = .ok (dGive d) env sto := fun _ _ => rfl
  have e1 : cmpT .eq (.str (PySem.Str.ofString "give")) (.str (PySem.Str.ofString "rest")) = .ok (.bl false) := cmp_eq_of (c := false) (by decide +kernel)
  have e2 : cmpT .eq (.str (PySem.Str.ofString "give")) (.str (PySem.Str.ofString "give")) = .ok (.bl true) := cmp_eq_of (c := true) (by decide +kernel)
  have hz : s.held.length ≤ sizeT := Nat.le_trans hl (by decide)
  have os := offsF (k := 4) m t s
  have w9 := whole1 (sto := [OF m t s]) s.shift 5
  have f := lc_fact (cf := callF 1000 pd.xs pd.tb 6) (env := [some (LI ns), some (.int t), some (.int m), some (.obj 0), some (.lst false false (s.held.map encF)), some (.lst false false (E.map encE)), some (.int s.asked), x7, some (dGive d), some (.int s.shift), x10, x11, x12]) (sto := [OF m t s]) (v := 12) (z := true)
    (tst := .cmp .ne (.ix (.var 12) (.int 0)) (.ix (.var 8) (.int 1))) (elt := .var 12) encF encF (fun p => p.1 != d) s.held hz (fun q _ => flat_encF q) (fun q _ => by
      by_cases c : q.1 = d
      · have b : (d != d) = false := by simp
        simp! [view_encF, ix0F, vw, i1, c, b]
      · have b : (q.1 != d) = true := by simp [c]
        simp! [view_encF, ix0F, vw, i1, c, b]) (fun q _ _ => by simp! [view_encF]) (fun q _ => flat_encF q)
  have gn := gone (k := 1) m t s d ds hl I.tt h5 hd hdl
  obtain ⟨s2, hs2⟩ : ∃ s2, s2 = goF m t (t - s.turn) (dropF s d) := ⟨_, rfl⟩
  obtain ⟨H, hH⟩ : ∃ H, H = s.held.filter fun p => p.1 != d := ⟨_, rfl⟩
  rw [← hs2] at gn n1 G2 ⊢
  rw [show (dropF s d).held = H from hH.symm] at n2 n4 ⊢
  rw [← hH] at f
  have Hl : H.length ≤ 10000 := by rw [hH]; exact Nat.le_trans (List.length_filter_le _ _) hl
  have st := stepF (k := 4) m t s2
  have w10 := whole1 (sto := [OF m t s2]) (s2.turn : Int) 5
  have f2 := lc_fact (cf := callF 1000 pd.xs pd.tb 6) (env := [some (LI ns), some (.int t), some (.int m), some (.obj 0), some (.lst false false (H.map encF)), some (.lst false false (E.map encE)), some (.int s.asked), x7, some (dGive d), some (.int s.shift), some (.int s2.turn), x11, x12]) (sto := [OF m t s2]) (v := 12) (z := true)
    (tst := .bl true) (elt := .ix (.var 12) (.int 2)) encF (fun p => T.int p.2.2) (fun _ => true) H (Nat.le_trans Hl (by decide)) (fun q _ => flat_encF q) (fun q _ => by simp!) (fun q _ _ => by simp! [view_encF, ix2F]) (fun q _ => rfl)
  have fe : (H.filter fun _ => true).map (fun p => T.int p.2.2) = (H.map fun p => p.2.2).map T.int := by rw [List.map_map, List.filter_eq_self.mpr (fun _ _ => rfl)]; rfl
  rw [fe] at f2
  have sm : bltT .sum [.lst false false ((H.map fun p => p.2.2).map T.int)] = .ok (.int (usedF H)) := sumF _ _
  have c2 : ¬ usedF H > m := by have := J.us; rw [show (dropF s d).held = H from hH.symm] at this; omega
  have c3 : ¬ (s2.turn : Int) > (t : Int) := by have := G2.tt; omega
  have se := steps_end (k := 4) (sto := [OF m t s2]) (lk := false) E H m n s.shift Hl (by have := I.tt; omega) (by have := G2.tt; omega) n2 (fun z p hp => by rw [el]; exact n4 z p hp)
  rw [show ((E.length + n : Nat) : Int) = (s2.turn : Int) by rw [n1, el]] at se
  refine ⟨some (dGive d), some (.int s.shift), some (.int s2.turn), ?_⟩
  show exs _ _ _ _ b374_0 _ _ = _
  simp! [de, isd, i0, i1, vw, gk, e1, e2, os, w9, f, gn, st, f2, sm, c2, w10, c3, se]
theorem body_ask (ns : List Int) (m : Int) (t : Nat) (s : FS) (E : List (Int × Int)) (x7 x8 x9 x10 x11 x12 : Option T) (I : IF m t s) (hl : s.held.length + 1 ≤ 10000) (h5 : t ≤ 5) (hd : s.due = []) (hm : mayF m s = true) (ha : 0 ≤ s.asked ∧ s.asked < 90000) (el : E.length = s.turn)
    (hx : ∀ y, (∀ p ∈ s.held, dis2 p (s.asked, y, 2 ^ s.turn)) → ∃ n, (goF m t (t - s.turn) (putF s y)).turn = s.turn + n ∧ okF m (putF s y).held n E ∧ relF (goF m t (t - s.turn) (putF s y)) (extF (putF s y).held n E) ∧ (0 < n → ∀ p ∈ (putF s y).held, p.2.2 ≤ 2 ^ s.turn ∧ onF s.shift (2 ^ s.turn) p = true)) :
    ∃ y n y8 y9 y10 y11, (∀ p ∈ s.held, dis2 p (s.asked, y, 2 ^ s.turn)) ∧ (goF m t (t - s.turn) (putF s y)).turn = s.turn + n ∧ relF (goF m t (t - s.turn) (putF s y)) (extF (putF s y).held n E) ∧ exs 1000 (callF 1000 pd.xs pd.tb 6) pd.xs false b374_0 (evB ns t m s.held E s.asked x7 x8 x9 x10 x11 x12) [OF m t s] =
      .nx (evB ns t m (putF s y).held (extF (putF s y).held n E) (s.asked + 1) x7 y8 y9 y10 y11 x12) [OF m t (goF m t (t - s.turn) (putF s y))] := by
  have de := deed (k := 3) m t s (by omega) (by have := I.tt; omega)
  rw [hd] at de
  dsimp only at de
  rw [if_pos hm] at de
  have P0 := p2pos s.turn
  have isd := is_ask (k := 4) (sto := [OF m t s]) (2 ^ s.turn)
  have i0 : ixT (dAsk (2 ^ s.turn)) (.int 0) = .ok (.str (PySem.Str.ofString "ask")) := rfl
  have i1 : ixT (dAsk (2 ^ s.turn)) (.int 1) = .ok (.int (2 ^ s.turn)) := rfl
  have vw : view (dAsk (2 ^ s.turn)) = dAsk (2 ^ s.turn) := rfl
  have gk : ∀ env sto, gkp (.ok (dAsk (2 ^ s.turn))) env sto = .ok (dAsk (2 ^ s.turn)) env sto := fun _ _ => rfl
  have e1 : cmpT .eq (.str (PySem.Str.ofString "ask")) (.str (PySem.Str.ofString "rest")) = .ok (.bl false) := cmp_eq_of (c := false) (by decide +kernel)
  have e2 : cmpT .eq (.str (PySem.Str.ofString "ask")) (.str (PySem.Str.ofString "give")) = .ok (.bl false) := cmp_eq_of (c := false) (by decide +kernel)
  have hz2 : s.held.length < sizeT := Nat.lt_of_lt_of_le (show s.held.length < 10000 by omega) (by decide)
  have os := offsF (k := 4) m t s
  have w9 := whole1 (sto := [OF m t s]) s.shift 5
  obtain ⟨x, sp⟩ := law_spot (k := 3) (sto := [OF m t s]) ns (2 + s.asked) (2 ^ s.turn) s.held true (by omega) (by omega) (places_nd I.dj fun p hp => (I.sz p hp).1)
  obtain ⟨y, hy⟩ : ∃ y, y = spotF (2 ^ s.turn) (srtBy plF s.held) x := ⟨_, rfl⟩
  rw [← hy] at sp
  have dis : ∀ p ∈ s.held, dis2 p (s.asked, y, 2 ^ s.turn) := by rw [hy]; exact spot_dis P0 fun p hp => (I.sz p hp).1
  have J : IF m t (putF s y) := put_inv I hd hm dis
  have G2 := go_inv (t - s.turn) J
  have pl := placed (k := 1) m t s y hl I.tt h5 hd hm
  obtain ⟨n, n1, n2, n3, n4⟩ := hx y dis
  refine ⟨y, n, some (dAsk (2 ^ s.turn)), some (.int s.shift), some (.int (goF m t (t - s.turn) (putF s y)).turn), some (.int y), dis, n1, n3, ?_⟩
  obtain ⟨s2, hs2⟩ : ∃ s2, s2 = goF m t (t - s.turn) (putF s y) := ⟨_, rfl⟩
  have Js := J.us
  rw [← hs2] at pl n1 G2 ⊢
  obtain ⟨H, hH⟩ : ∃ H, H = s.held ++ [(s.asked, y, (2 : Int) ^ s.turn)] := ⟨_, rfl⟩
  rw [show (putF s y).held = H from hH.symm] at n2 n4 Js ⊢
  have Hl : H.length ≤ 10000 := by rw [hH, List.length_append]; exact hl
  have ea : s.held.map encF ++ [T.tup [.int s.asked, .int y, .int (2 ^ s.turn)]] = H.map encF := by rw [hH, List.map_append]; rfl
  have flt : flat (T.tup [.int s.asked, .int y, .int (2 ^ s.turn)]) = true := rfl
  have st := stepF (k := 4) m t s2
  have w10 := whole1 (sto := [OF m t s2]) (s2.turn : Int) 5
  have f2 := lc_fact (cf := callF 1000 pd.xs pd.tb 6) (env := [some (LI ns), some (.int t), some (.int m), some (.obj 0), some (.lst false false (H.map encF)), some (.lst false false (E.map encE)), some (.int (s.asked + 1)), x7, some (dAsk (2 ^ s.turn)), some (.int s.shift), some (.int s2.turn), some (.int y), x12]) (sto := [OF m t s2]) (v := 12) (z := true)
    (tst := .bl true) (elt := .ix (.var 12) (.int 2)) encF (fun p => T.int p.2.2) (fun _ => true) H (Nat.le_trans Hl (by decide)) (fun q _ => flat_encF q) (fun q _ => by simp!) (fun q _ _ => by simp! [view_encF, ix2F]) (fun q _ => rfl)
  have fe : (H.filter fun _ => true).map (fun p => T.int p.2.2) = (H.map fun p => p.2.2).map T.int := by rw [List.map_map, List.filter_eq_self.mpr (fun _ _ => rfl)]; rfl
  rw [fe] at f2
  have sm : bltT .sum [.lst false false ((H.map fun p => p.2.2).map T.int)] = .ok (.int (usedF H)) := sumF _ _
  have c2 : ¬ usedF H > m := by omega
  have c3 : ¬ (s2.turn : Int) > (t : Int) := by have := G2.tt; omega
  have se := steps_end (k := 4) (sto := [OF m t s2]) (lk := false) E H m n s.shift Hl (by have := I.tt; omega) (by have := G2.tt; omega) n2 (fun z p hp => by rw [el]; exact n4 z p hp)
  rw [show ((E.length + n : Nat) : Int) = (s2.turn : Int) by rw [n1, el]] at se
  show exs _ _ _ _ b374_0 _ _ = _
  simp! [de, isd, i0, i1, vw, gk, e1, e2, os, w9, sp, hz2, List.length_map, flt, ea, pl, st, f2, sm, c2, w10, c3, se]
end
theorem law_loop (ns : List Int) (m : Int) (t : Nat) (h5 : t ≤ 5) (hm : (2 : Int) ^ t ≤ m ∧ m ≤ 1000) : ∀ (n : Nat) (i : Int) (s : FS) (E : List (Int × Int)) (x7 x8 x9 x10 x11 x12 : Option T), IF m t s → goesF m t s = false → 0 ≤ s.asked → s.asked + n ≤ 80000 → E.length = s.turn → relF s E → muF m t s + 1 ≤ n →
    ∃ env st, loopR (exs 1000 (callF 1000 pd.xs pd.tb 6) pd.xs false b374_0) 7 n i (evB ns t m s.held E s.asked x7 x8 x9 x10 x11 x12) [OF m t s] = .rt (.bl true) env st := by
  intro n
  induction n with
  | zero =>
    intro i s E x7 x8 x9 x10 x11 x12 I g a0 a1 el r mu
    have := rho_nn I
    unfold muF at mu
    omega
  | succ n ih =>
    intro i s E x7 x8 x9 x10 x11 x12 I g a0 a1 el r mu
    have lu := len_used (l := s.held) fun p hp => (I.sz p hp).1
    have us := I.us
    have hl : s.held.length ≤ 1000 := by omega
    rw [loopR_succ]
    show ∃ env st, (exs 1000 (callF 1000 pd.xs pd.tb 6) pd.xs false b374_0 (evB ns t m s.held E s.asked (some (.int i)) x8 x9 x10 x11 x12) [OF m t s]).turn _ = _
    cases hd : s.due with
    | cons d ds =>
      have dl : s.due.length ≤ s.held.length := by
        rw [I.du, List.length_map]
        exact List.length_filter_le _ _
      rw [hd, List.length_cons] at dl
      obtain ⟨J, _⟩ := drop_inv I hd
      have rd : relF (dropF s d) E := fun e E' z => by
        rw [drop_waste I hd]
        exact r e E' z
      obtain ⟨q, n1, n2, n3, n4⟩ := go_ext (t - s.turn) J (E := E) el rd
      obtain ⟨y8, y9, y10, e⟩ := body_give ns m t s E d ds (some (.int i)) x8 x9 x10 x11 x12 I (by omega) h5 hd (by omega) el q n1 n2 n4
      rw [e]
      have k := go_keep m t (t - s.turn) (dropF s d)
      have m1 := go_mu (t - s.turn) J
      have m2 := drop_mu I hd
      obtain ⟨env, st, rr⟩ := ih (i + 1) (goF m t (t - s.turn) (dropF s d)) (extF (dropF s d).held q E) (some (.int i)) y8 y9 y10 x11 x12 (go_inv _ J) (go_set _ (by show t ≤ s.turn + (t - s.turn); omega)) (by rw [k.2]; exact a0) (by rw [k.2]; show s.asked + _ ≤ _; omega) (by rw [extF_len, n1, el]; rfl) n3 (by omega)
      rw [k.1, k.2] at rr
      exact ⟨env, st, rr⟩
    | nil =>
      cases my : mayF m s with
      | true =>
        obtain ⟨y, q, y8, y9, y10, y11, dis, n1, n3, e⟩ := body_ask ns m t s E (some (.int i)) x8 x9 x10 x11 x12 I (by omega) h5 hd my ⟨a0, by omega⟩ el (fun y dis => by
          have J : IF m t (putF s y) := put_inv I hd my dis
          exact go_ext (t - s.turn) J (E := E) el fun e E' z => by
            rw [put_waste]
            exact r e E' z)
        rw [e]
        have J : IF m t (putF s y) := put_inv I hd my dis
        have k := go_keep m t (t - s.turn) (putF s y)
        have m1 := go_mu (t - s.turn) J
        have m2 := put_mu (m := m) (t := t) (place := y) hd
        obtain ⟨env, st, rr⟩ := ih (i + 1) (goF m t (t - s.turn) (putF s y)) (extF (putF s y).held q E) (some (.int i)) y8 y9 y10 y11 x12 (go_inv _ J) (go_set _ (by show t ≤ s.turn + (t - s.turn); omega)) (by rw [k.2]; show 0 ≤ s.asked + 1; omega) (by rw [k.2]; show s.asked + 1 + _ ≤ _; omega) (by rw [extF_len, n1, el]) n3 (by omega)
        rw [k.1, k.2] at rr
        exact ⟨env, st, rr⟩
      | false =>
        have tt : s.turn = t := by
          have := I.tt
          unfold goesF at g
          rw [hd, my] at g
          have : ¬ s.turn < t := fun c => by rw [decide_eq_true c] at g; exact nomatch g
          omega
        obtain ⟨env, e⟩ := body_rest ns m t s E (some (.int i)) x8 x9 x10 x11 x12 (by omega) tt h5 hd my I el r
        exact ⟨env, [OF m t s], by rw [e]; rfl⟩
theorem pure (ns : List Int) (h1 : ns.length ≤ 63) (h2 : ∀ z ∈ ns, PySem.Builtin.Int.intBits z ≤ 1048576) : ∃ sto, callF 1000 pd.xs pd.tb (6 + 1) 374 [.lst true false (ns.map T.int)] [] false = .ok (.bl true) [] sto := by
  obtain ⟨t, t5, et⟩ := law_top (k := 3) (sto := []) ns
  obtain ⟨m, m1, m2, em⟩ := law_most (k := 3) (sto := []) ns t t5
  have p5 := p2le t t5
  have P0 := p2pos t
  have nw := foe_new (k := 4) m t (by omega) (by omega) (by rw [Int.toNat_natCast]; exact m1)
  rw [foe_of] at nw
  have mu : muF m t F0 ≤ 4 * m := mu0 (m := m) (t := t) (by omega) t5
  have g0 : goesF m t F0 = false := by
    have my : mayF m F0 = true := decide_eq_true (by show (0 : Int) + 1 ≤ m; omega)
    unfold goesF
    rw [my]
    simp
  obtain ⟨env, st, e⟩ := law_loop ns m t t5 ⟨m1, by omega⟩ (6 * m + 8).toNat 0 F0 [] none none none none none none (inv0 (by omega)) g0 (by show (0 : Int) ≤ 0; omega) (by show (0 : Int) + _ ≤ _; omega) rfl (fun e E' z => by
    have := congrArg List.length z
    rw [List.length_append] at this
    simp at this) (by omega)
  refine ⟨st, ?_⟩
  have gf : ∀ (go : En → List Ob → SR) (env : En) (st : List Ob), gfr go 7 (.int 0) (.int (6 * m + 8)) env st = loopR go 7 (6 * m + 8).toNat 0 env st := fun go env st => by
    rw [gfr_ok go 7 0 (6 * m + 8) ⟨by omega, by omega, by omega, by omega⟩, Int.sub_zero]
  rw [call_run (show pd.tb 374 = some d374_law from rfl) rfl]
  show fnE _ (exs _ _ _ _ _ [some (LI ns), none, none, none, none, none, none, none, none, none, none, none, none] _) = _
  have e' : loopR (exs 1000 (callF 1000 pd.xs pd.tb 6) pd.xs false b374_0) 7 (6 * m + 8).toNat 0 [some (LI ns), some (.int t), some (.int m), some (.obj 0), some (.lst false false []), some (.lst false false []), some (.int 0), none, none, none, none, none, none] [OF m t F0] = .rt (.bl true) env st := e
  simp! [et, em, nw, gf, e']
end K72
def K72.inis : List Tr.Ini := []
def K72.poss : List (Nat × Tr.PosD) := ([(354, ("is_on", none)), (355, ("waste_on", none)), (356, ("offset_for", none)), (4, ("_law_cell_at", none)), (280, ("_law_draw", none)), (281, ("_law_other", none)), (5, ("_law_whole", none)), (357, ("_law_spot", none)), (358, ("_law_place_of", none)), (370, ("_law_is_deed", none)), (360, ("_law_top", none)), (361, ("_law_most", none)), (371, ("_law_end_holds", none)), (372, ("_law_once", none)), (373, ("_law_steps_end", none)), (374, ("law", none)), (2076, ("Foe", some "__init__")), (2077, ("Foe", some "may_ask")), (2085, ("Foe", some "go_on")), (2079, ("Foe", some "deed"))] : List (Nat × Tr.PosD)) ++ ([(2086, ("Foe", some "placed")), (2087, ("Foe", some "gone")), (2083, ("Foe", some "step")), (2084, ("Foe", some "offset"))] : List (Nat × Tr.PosD))
open PySem in
theorem K72.bnd : ∀ D ∈ K72.ds, Tr.BindD D := (Tr.all_cons (show Tr.BindD K72.t354 from Tr.bindD0 rfl fun _ _ _ _ _ _ us hl => match us, hl with | [_, _, _], _ => rfl) (Tr.all_cons (show Tr.BindD K72.t355 from Tr.bindD0 rfl fun _ _ _ _ _ _ us hl => match us, hl with | [_, _, _], _ => rfl) (Tr.all_cons (show Tr.BindD K72.t356 from Tr.bindD0 rfl fun _ _ _ _ _ _ us hl => match us, hl with | [_, _, _], _ => rfl) (Tr.all_cons (show Tr.BindD K72.t4 from Tr.bindD0 rfl fun _ _ _ _ _ _ us hl => match us, hl with | [_, _], _ => rfl) (Tr.all_cons (show Tr.BindD K72.t280 from Tr.bindD0 rfl fun _ _ _ _ _ _ us hl => match us, hl with | [_, _, _], _ => rfl) (Tr.all_cons (show Tr.BindD K72.t281 from Tr.bindD0 rfl fun _ _ _ _ _ _ us hl => match us, hl with | [_, _, _], _ => rfl) (Tr.all_cons (show Tr.BindD K72.t5 from Tr.bindD0 rfl fun _ _ _ _ _ _ us hl => match us, hl with | [_], _ => rfl) (Tr.all_cons (show Tr.BindD K72.t357 from Tr.bindD0 rfl fun _ _ _ _ _ _ us hl => match us, hl with | [_, _, _, _], _ => rfl) (Tr.all_cons (show Tr.BindD K72.t358 from Tr.bindD0 rfl fun _ _ _ _ _ _ us hl => match us, hl with | [_], _ => rfl) (Tr.all_cons (show Tr.BindD K72.t370 from Tr.bindD0 rfl fun _ _ _ _ _ _ us hl => match us, hl with | [_], _ => rfl) (Tr.all_cons (show Tr.BindD K72.t360 from Tr.bindD0 rfl fun _ _ _ _ _ _ us hl => match us, hl with | [_], _ => rfl) (Tr.all_cons (show Tr.BindD K72.t361 from Tr.bindD0 rfl fun _ _ _ _ _ _ us hl => match us, hl with | [_, _], _ => rfl) (Tr.all_cons (show Tr.BindD K72.t371 from Tr.bindD0 rfl fun _ _ _ _ _ _ us hl => match us, hl with | [_, _, _], _ => rfl) (Tr.all_cons (show Tr.BindD K72.t372 from Tr.bindD0 rfl fun _ _ _ _ _ _ us hl => match us, hl with | [_, _, _], _ => rfl) (Tr.all_cons (show Tr.BindD K72.t373 from Tr.bindD0 rfl fun _ _ _ _ _ _ us hl => match us, hl with | [_, _, _, _, _], _ => rfl) (Tr.all_cons (show Tr.BindD K72.t374 from Tr.bindD0 rfl fun _ _ _ _ _ _ us hl => match us, hl with | [_], _ => rfl) (Tr.all_cons (show Tr.BindD K72.t2076 from Tr.bindD0 rfl fun _ _ _ _ _ _ us hl => match us, hl with | [_, _, _], _ => rfl) (Tr.all_cons (show Tr.BindD K72.t2077 from Tr.bindD0 rfl fun _ _ _ _ _ _ us hl => match us, hl with | [_], _ => rfl) (Tr.all_cons (show Tr.BindD K72.t2085 from Tr.bindD0 rfl fun _ _ _ _ _ _ us hl => match us, hl with | [_], _ => rfl) (Tr.all_cons (show Tr.BindD K72.t2079 from Tr.bindD0 rfl fun _ _ _ _ _ _ us hl => match us, hl with | [_], _ => rfl) (Tr.all_cons (show Tr.BindD K72.t2086 from Tr.bindD0 rfl fun _ _ _ _ _ _ us hl => match us, hl with | [_, _], _ => rfl) (Tr.all_cons (show Tr.BindD K72.t2087 from Tr.bindD0 rfl fun _ _ _ _ _ _ us hl => match us, hl with | [_], _ => rfl) (Tr.all_cons (show Tr.BindD K72.t2083 from Tr.bindD0 rfl fun _ _ _ _ _ _ us hl => match us, hl with | [_], _ => rfl) (Tr.all_cons (show Tr.BindD K72.t2084 from Tr.bindD0 rfl fun _ _ _ _ _ _ us hl => match us, hl with | [_], _ => rfl) Tr.all_nil))))))))))))))))))))))))
open PySem in
theorem K72.bndI : ∀ e ∈ K72.inis, Tr.BindD e.D := Tr.all_nil
theorem K72.chk : ∀ D ∈ K72.ds, Tr.chkD K72.pd D = true := by decide +kernel
abbrev K72.R : PySem.W.OpenRow := PySem.W.OpenLaw.row PySem.Challenge.rw_stow_k72_the_waste_grows
def K72.loose : List PySem.Str := ((["_wall", "__name__", "StowError", "NoSize", "NoTurn", "is_on", "waste_on", "offset_for", "Foe", "_law_cell_at", "_law_draw", "_law_other", "_law_whole", "_law_spot", "_law_place_of", "_law_is_deed", "_law_top", "_law_most", "_law_end_holds", "_law_once", "_law_steps_end"] : List PySem.Str))
theorem K72.run1 : Tr.Part K72.R 54000 (Tr.lookP K72.R) := by
  intro w os
  kernel_rfl
open PySem.W in
theorem K72.run2 (w : PySem.World) (os : PySem.OsState) : (Tr.endT K72.R 54000 w os).map (fun s => HandSHeadRun.seenQ (PySem.W.view K72.R.prog [23]) K72.loose (PySem.importedModules K72.R.prog.main.body) (fun s => xlAt (PySem.W.view K72.R.prog [23]) [] s && recOk (RowW.records (OpenRow.toRowW K72.R)) s) s.abs) = some (openGood (PySem.W.view K72.R.prog [23]) K72.loose) := by
  kernel_rfl
theorem K72.run3 : Tr.Part K72.R 54000 (Tr.baseP 832 K72.pd K72.poss) := by
  intro w os
  kernel_rfl
theorem K72.run4 : Tr.Part K72.R 54000 (Tr.clsP 832 K72.pd K72.poss K72.cms) := by
  intro w os
  kernel_rfl
theorem K72.run5 : Tr.Part K72.R 54000 (Tr.exsP 832 K72.pd K72.inis) := by
  intro w os
  kernel_rfl
theorem K72.run6 : Tr.Part K72.R 54000 (Tr.okP 832 (Tr.fnsD K72.poss K72.ds K72.inis)) := by
  intro w os
  kernel_rfl
theorem K72.run7 (w : PySem.World) (os : PySem.OsState) : (Tr.endT K72.R 54000 w os).map (fun s => (Tr.fnsD K72.poss K72.ds K72.inis).map fun d => He.fnW (Tr.fragT 832 (HandSHeadRun.getT s)) d.at_) = some ((Tr.fnsD K72.poss K72.ds K72.inis).map He.DefD.val) := by
  kernel_rfl
theorem K72.run (w : PySem.World) : HandSHeadRun.RunEq K72.R (PySem.W.view K72.R.prog [23]) (Tr.hookH 832 K72.pd K72.poss K72.ds K72.cms K72.inis) (Tr.obH 832 K72.pd K72.poss K72.ds K72.cms K72.inis) 54000 K72.loose w := Tr.run_join w K72.run1 K72.run2 K72.run3 K72.run4 K72.run5 K72.run6 K72.run7
open PySem PySem.W PyProof.Rows in
set_option maxHeartbeats 0 in
theorem PySem.Challenge.cw_stow_k72_the_waste_grows_holds : PySem.Challenge.rw_stow_k72_the_waste_grows.Holds := by
  w_on; o_law
  refine HandSHeadRun.head_any (r := PySem.W.OpenLaw.row PySem.Challenge.rw_stow_k72_the_waste_grows) (q := view (PySem.W.OpenLaw.row PySem.Challenge.rw_stow_k72_the_waste_grows).prog [23]) (H := Tr.hookH 832 K72.pd K72.poss K72.ds K72.cms K72.inis) (ob := Tr.obH 832 K72.pd K72.poss K72.ds K72.cms K72.inis) (M := 54000) (loose := K72.loose) (d := HandSHeadRun.topDef (PySem.W.OpenLaw.row PySem.Challenge.rw_stow_k72_the_waste_grows).prog 23) (kwd := []) Tr.obH_eq (by kernel_rfl) (fun s => by kernel_rfl) K72.run (by kernel_rfl) (by kernel_rfl) (by kernel_rfl) (by rfl) (by first | assumption | decide +kernel) (by decide +kernel) ⟨rfl, rfl, rfl, rfl, rfl, by decide +kernel⟩ ?hw ?hc
  case hw => w_witness2
  case hc =>
    refine Tr.walk2 (l := PySem.Challenge.rw_stow_k72_the_waste_grows) (n := 63) (k := 6) (NN := 1000) (nn := 832) (x := "_law_script") (pd := K72.pd) (ds := K72.ds) (sp := K72.spx) (cms := K72.cms) (fl := 374) (ps := K72.poss) (is := K72.inis) false rfl (by decide) (by kernel_rfl) ⟨rfl, by decide, by decide⟩ rfl (by decide +kernel) K72.chk (by decide +kernel) (by decide +kernel) K72.bnd K72.bndI K72.t374 (by simp [K72.ds]) ?F2 ?F3 rfl K72.pure
    case F2 =>
      have e : (HandSHeadRun.topDef (PySem.W.OpenLaw.row PySem.Challenge.rw_stow_k72_the_waste_grows).prog 23).name = ("law" : PySem.Str) := by kernel_rfl
      rw [e]
      exact ⟨rfl, by simp [K72.pd], rfl, rfl⟩
    case F3 =>
      intro dV kV doc pm an cdv ct u hd
      subst hd
      rfl
